/- Texts of the proof, part 2 of 7. -/
import Derived.Deep.DeepCutAuto
import Derived.StillTailTactics
import Derived.Test.YteecpkkgjioplaaDoorZsa

/- Many steps: the plain law. -/
namespace Go.Proofs.YteecpkkgjioplaaDoor
open Go.RowKit Go

/-- Up to so many steps: the state, and how many were done. -/
def runN (l : List Ins) : Nat → Int → List Int → Int → (Int × List Int × Int) × Nat
  | 0, pc, xs, h => ((pc, xs, h), 0)
  | n + 1, pc, xs, h => if h = 0 then ((runN l n (stepP l pc xs).1 (stepP l pc xs).2.1 (stepP l pc xs).2.2).1, (runN l n (stepP l pc xs).1 (stepP l pc xs).2.1 (stepP l pc xs).2.2).2 + 1) else ((pc, xs, h), 0)
theorem runN_stop (l : List Ins) (n : Nat) (pc : Int) (xs : List Int) (h : Int) (hh : ¬ h = 0) : runN l n pc xs h = ((pc, xs, h), 0) := by
  cases n <;> simp [runN, hh]

theorem twoP_bd {o b c : Int} (b0 : -2147483648 ≤ b) (b1 : b ≤ 2147483647) : -2147483648 ≤ twoP o b c ∧ twoP o b c ≤ 2147483647 := by
  have hw : ∀ x, -2147483648 ≤ wrap32 x ∧ wrap32 x ≤ 2147483647 := fun x => by unfold wrap32; omega
  have ht : ∀ x, -2147483648 ≤ truthP x ∧ truthP x ≤ 2147483647 := fun x => by unfold truthP; split <;> omega
  have hm := tmod_bd (c := c) b0 b1
  unfold twoP
  repeat' split
  all_goals first | exact hw _ | exact ht _ | exact hm | omega
theorem truthP_bd (x : Bool) : -2147483648 ≤ truthP x ∧ truthP x ≤ 2147483647 := by unfold truthP; split <;> omega
theorem gx_bd {xs : List Int} (h : W32 xs) (k : Int) : -2147483648 ≤ gx xs k ∧ gx xs k ≤ 2147483647 := by
  unfold gx
  by_cases hk : k.toNat < xs.length
  · have := h k.toNat _ (List.getElem?_eq_getElem hk)
    simpa [List.getElem?_eq_getElem hk] using this
  · simp [List.getElem?_eq_none (Nat.le_of_not_lt hk)]
theorem memP_w32 {i : Ins} {xs : List Int} {size : Int} (h : W32 xs) (hr : rightP i.o i.a i.b i.c size xs.length = true) : W32 (memP i xs) := by
  unfold memP
  split
  · rename_i ho
    rw [ho] at hr
    have := (right_1 hr).2.2
    simp [numP] at this
    exact h.wx ⟨this.1, this.2⟩
  split
  · exact h.wx (gx_bd h _)
  split
  · exact h.wx (twoP_bd (gx_bd h _).1 (gx_bd h _).2)
  split
  · exact h.wx (truthP_bd _)
  split
  · exact h.wx (gx_bd h _)
  split
  · exact h.wx (gx_bd h _)
  split
  · rename_i ho
    rw [ho] at hr
    obtain ⟨_, _, hb, hc, hbc⟩ := right_17 hr
    simp [numP] at hb hc
    have := gx_bd h i.a
    exact h.wx (by omega)
  split
  · exact h.wx (truthP_bd _)
  · exact h

/-- What a step leaves is a state that may be. -/
theorem stepP_right {l : List Ins} {pc : Int} {xs : List Int} (hr : rightSt pc xs.length 0 = true) (hl : l.length ≤ 300) (hw : W32 xs) :
    rightSt (stepP l pc xs).1 (stepP l pc xs).2.1.length (stepP l pc xs).2.2 = true ∧ W32 (stepP l pc xs).2.1 ∧ (stepP l pc xs).2.1.length = xs.length := by
  rw [rightSt_iff] at hr
  obtain ⟨h1, h2, h3, h4, _, _⟩ := hr
  unfold stepP
  split
  · exact ⟨rightSt_true ⟨h1, h2, h3, h4, by simp, by simp⟩, hw, rfl⟩
  · rename_i i hi
    obtain ⟨hri, hpc⟩ := nextP_right hi
    unfold actP
    split
    · exact ⟨rightSt_true ⟨h1, h2, h3, h4, by simp, by simp⟩, hw, rfl⟩
    split
    · rename_i ho
      rw [ho] at hri
      have := right_0 hri
      exact ⟨rightSt_true ⟨h1, h2, h3, h4, (by show 0 ≤ 1 + i.a; omega), (by show 1 + i.a ≤ 2; omega)⟩, hw, rfl⟩
    · refine ⟨rightSt_true ⟨by simp [memP_len]; omega, by simp [memP_len]; omega, ?_, ?_, by omega, by omega⟩, memP_w32 hw hri, memP_len _ _⟩
      · unfold pcP
        simp only
        split
        · rename_i ho
          rw [ho] at hri
          exact (right_19 hri).1
        split
        · rename_i ho
          rw [ho] at hri
          have := right_j (by simp) hri
          split <;> omega
        split
        · rename_i ho
          rw [ho] at hri
          have := right_j (by simp) hri
          split <;> omega
        · omega
      · unfold pcP
        simp only
        split
        · rename_i ho
          rw [ho] at hri
          have := (right_19 hri).2
          omega
        split
        · rename_i ho
          rw [ho] at hri
          have := right_j (by simp) hri
          split <;> omega
        split
        · rename_i ho
          rw [ho] at hri
          have := right_j (by simp) hri
          split <;> omega
        · omega
end Go.Proofs.YteecpkkgjioplaaDoor

/- Words in memory of the call's own. -/
namespace Go.Proofs.YteecpkkgjioplaaDoor
open Go.RowKit Go

/-- THE SLICE VALUE v HOLDS THE NUMBERS xs IN A BLOCK FROM base ON, which may be written. -/
def Fresh (w : World) (base : Nat) (v : Value) (xs : List Int) : Prop :=
  I32s w v xs ∧ (0 < xs.length → ∃ g cap, v = .slice (some ⟨g, 0, none⟩) xs.length cap ∧ base ≤ g ∧ g < w.heap.size ∧ ∀ j, w.frozen? ⟨g, j, none⟩ = false)
theorem ownsRow_below {w w' : World} {base : Nat} {e : TypeId} {size : Nat} {v : Value} {n : Nat} {xs : List Value} (h : w.ownsRow base e size v n xs) (hb : Below w.heap.size w w') : w'.ownsRow base e size v n xs := by
  obtain ⟨h1, h2⟩ := h
  refine ⟨h1, h2.imp id ?_⟩
  rintro ⟨g, cap, cur, hv, hg, hh, r⟩
  have lg : g < w.heap.size := (Array.getElem?_eq_some_iff.1 hh).1
  exact ⟨g, cap, cur, hv, hg, (hb.block g lg).trans hh, r⟩
theorem Fresh.own {w : World} {base : Nat} {v : Value} {xs : List Int} (h : w.ownsRow base 21 1 v xs.length (xs.map (Value.int .i32))) : Fresh w base v xs := by
  refine ⟨I32s.own h, fun hn => ?_⟩
  rcases h.2 with ⟨_, h0⟩ | ⟨g, cap, cur, hv, hg, hh, _⟩
  · omega
  · refine ⟨g, cap, hv, hg, (Array.getElem?_eq_some_iff.1 hh).1, fun j => ?_⟩
    simp only [World.frozen?, hh]
    simp
theorem Fresh.mono {w : World} {base base' : Nat} {v : Value} {xs : List Int} (h : Fresh w base v xs) (hb : base' ≤ base) : Fresh w base' v xs :=
  ⟨h.1, fun hn => let ⟨g, cap, hv, hg, r⟩ := h.2 hn; ⟨g, cap, hv, Nat.le_trans hb hg, r⟩⟩
theorem Fresh.below {w w' : World} {base : Nat} {v : Value} {xs : List Int} (h : Fresh w base v xs) (hb : Below w.heap.size w w') : Fresh w' base v xs := by
  refine ⟨h.1.below hb (Nat.le_refl _), fun hn => ?_⟩
  obtain ⟨g, cap, hv, hg, lg, hf⟩ := h.2 hn
  exact ⟨g, cap, hv, hg, Nat.lt_of_lt_of_le lg hb.size, fun j => (hb.frozen (p := ⟨g, j, none⟩) lg).trans (hf j)⟩
theorem Fresh.setOther {w : World} {base : Nat} {v : Value} {xs : List Int} (h : Fresh w base v xs) {x : Addr} (hx : x.block < base) (u : Value) : Fresh (w.setCell x u) base v xs := by
  by_cases hn : 0 < xs.length
  · obtain ⟨g, cap, hv, hg, lg, hf⟩ := h.2 hn
    subst hv
    obtain ⟨b, off, e, _, hk⟩ := h.1.look hn
    simp only [Addr.mk.injEq, and_true] at e
    obtain ⟨rfl, rfl⟩ := e
    have hml : cap ≤ maxLen := by
      obtain ⟨a, c, e1, hm, _⟩ := h.1
      simp only [Value.slice.injEq] at e1
      rw [e1.2.2]; exact hm
    refine ⟨⟨_, cap, rfl, hml, (fun e => by cases e), fun ad e _ => ?_⟩, fun _ => ⟨g, cap, rfl, hg, by simpa using lg, fun j => by simpa using hf j⟩⟩
    obtain rfl := Option.some.inj e
    refine ⟨rfl, by simpa using lg, fun k hk' => ?_⟩
    rw [World.cell?_setCell_other _ _ _ _ (by intro e; rw [e] at hx; simp at hx; omega)]
    exact hk k _ (List.getElem?_eq_getElem hk')
  · refine ⟨?_, fun h' => absurd h' hn⟩
    obtain ⟨a, cap, hv, hm, h0, h1⟩ := h.1
    exact ⟨a, cap, hv, hm, h0, fun ad _ hx => absurd (List.length_pos_iff.2 hx) hn⟩
theorem Fresh.drew {w : World} {base : Nat} {v : Value} {xs : List Int} (h : Fresh w base v xs) : Fresh w.drew base v xs := h
theorem MSt.fresh {w : World} {p m k : Nat} {pc : Int} {xs : List Int} {halt : Int} (h : MSt w p m k pc xs halt) (hk : k ≤ maxLen) (hx : 0 < xs.length) {base : Nat} (hb : base ≤ m) : Fresh w base (.slice (some ⟨m, 0, none⟩) xs.length k) xs :=
  ⟨h.i32s hk, fun _ => ⟨m, k, rfl, hb, cell_lt (h.cells 0 _ (List.getElem?_eq_getElem hx)), h.fm⟩⟩
end Go.Proofs.YteecpkkgjioplaaDoor

/- Run: many steps. -/
namespace Go.Proofs.YteecpkkgjioplaaDoor
open Go.RowKit Go

/-- Run of a state that may not be: a copy, no step. -/
theorem stV_def (pc : Int) (v : Value) (halt : Int) : stV pc v halt = .agg #[.int .i64 pc, v, .int .i64 halt] := rfl

/-- What Run answers: the state, how many steps, whether it halted. -/
def runM (l : List Ins) (most : Int) (pc : Int) (xs : List Int) (halt : Int) : (Int × List Int × Int) × Int × Bool :=
  if rightSt pc xs.length halt then ((runN l (min most 1048576).toNat pc xs halt).1, ((runN l (min most 1048576).toNat pc xs halt).2 : Int), (runN l (min most 1048576).toNat pc xs halt).1.2.2 != 0) else ((pc, xs, halt), 0, false)
def RunPost (w : World) (r : (Int × List Int × Int) × Int × Bool) (e : Ending) (w' : World) : Prop :=
  ∃ v, e = .returned (.tuple #[stV r.1.1 v r.1.2.2, .int .i64 r.2.1, .bool r.2.2]) ∧ Fresh w' w.heap.size v r.1.2.1 ∧ Below w.heap.size w w'

theorem min_run (a b : Int) (wx : World) : (Builtin.min_ #[3, 3] 3 #[.int .i64 a, .int .i64 b]).run Tryd.prog wx = .ok (.int .i64 (min a b)) wx := by
  rw [run_min_int2]
  congr 2
  split <;> omega
theorem But2.low {p m B : Nat} {w w' : World} (h : But2 p m w w') (hp : B ≤ p) (hm : B ≤ m) (hB : B ≤ w.heap.size) : Below B w w' :=
  ⟨h.os, h.tape, h.output, h.size, fun k hk => h.block k (by omega) (by omega) (by omega)⟩
theorem runN_next {l : List Ins} {N j : Nat} {q : Int} {xs : List Int} {A : Int × List Int × Int} {n : Nat} (hj : j < N) (h : (A, n) = ((runN l (N - j) q xs 0).1, j + (runN l (N - j) q xs 0).2)) :
    (A, n) = ((runN l (N - (j + 1)) (stepP l q xs).1 (stepP l q xs).2.1 (stepP l q xs).2.2).1, (j + 1) + (runN l (N - (j + 1)) (stepP l q xs).1 (stepP l q xs).2.1 (stepP l q xs).2.2).2) := by
  rw [h]
  have e : N - j = (N - (j + 1)) + 1 := by omega
  rw [e]
  simp only [runN, if_true]
  simp
  omega

set_option maxRecDepth 100000 in
set_option maxHeartbeats 4000000 in
theorem run_any (v mv : Value) (pc halt : Int) (xs : List Int) (l : List Ins) (most : Int) (w : World) (hx : I32s w mv xs) (hc : InsS w v l) (H : Ops w) (hl : l.length ≤ 300) (hxl : xs.length ≤ 300) (hW : W32 xs) :
    Calls Tryd.prog 18 #[v, stV pc mv halt, .int .i64 most] w fun e w' => RunPost w (runM l most pc xs halt) e w' := by
  obtain ⟨a, cap, e1, _, h0, _⟩ := id hx
  have Hx : Hid (∀ o1 o2, I32s ((w.alloc o1).alloc o2) mv xs) := Lib.hid fun o1 o2 => hx.below (below_alloc2 w o1 o2) (Nat.le_refl _)
  have Hc := Lib.hid hc
  have HO := Lib.hid H
  subst e1
  clear hx hc H h0
  generalize hR : runM l most pc xs halt = R
  have HR := Lib.hid hR
  clear hR
  rw [stV_def]
  go_enter Tryd.func18, Tryd.ntmps18
  go_wp2_with fail
  refine (clone_any pc halt _ xs _ (Hx.out _ _) hxl).mono ?_
  rintro e w1 ⟨v', rfl, hown, hb1⟩
  obtain ⟨a', cap', e2, _⟩ := I32s.own hown
  subst e2
  rw [stV_def]
  have hs1 := hb1.size
  simp at hs1
  have k0 : ∀ i, w1.cell? ⟨w.heap.size, i, none⟩ = #[Value.int .i64 pc, .slice a xs.length cap, .int .i64 halt][i]? := fun i => (hb1.cell (p := ⟨w.heap.size, i, none⟩) (by simp; omega)).trans (by simp)
  have k1 : ∀ i, w1.cell? ⟨w.heap.size + 1, i, none⟩ = #[Value.int .i64 0, .slice none 0 0, .int .i64 0][i]? := fun i => (hb1.cell (p := ⟨w.heap.size + 1, i, none⟩) (by simp)).trans (by simp)
  have z0 : ∀ i, w1.frozen? ⟨w.heap.size, i, none⟩ = false := fun i => (hb1.frozen (p := ⟨w.heap.size, i, none⟩) (by simp; omega)).trans (by go_simp)
  have z1 : ∀ i, w1.frozen? ⟨w.heap.size + 1, i, none⟩ = false := fun i => (hb1.frozen (p := ⟨w.heap.size + 1, i, none⟩) (by simp)).trans (by go_simp)
  have G : Hid (w1.ownsRow (w.heap.size + 2) 21 1 (.slice a' xs.length cap') xs.length (xs.map (Value.int .i32)) ∧ Below w.heap.size w w1) := Lib.hid ⟨by simpa using hown, (below_alloc2 w _ _).trans (hb1.mono (by simp; omega))⟩
  clear hown hb1
  go_wp2_with fail
  refine (mright_any pc halt _ _ _ _).mono ?_
  rintro e w4 ⟨rfl, hb4⟩
  have m0 : w4.cell? ⟨w.heap.size, 0, none⟩ = some (.int .i64 pc) := (hb4.cell (p := ⟨w.heap.size, 0, none⟩) (by simp; omega)).trans (by go_simp)
  have m1 : w4.cell? ⟨w.heap.size, 1, none⟩ = some (.slice a' xs.length cap') := (hb4.cell (p := ⟨w.heap.size, 1, none⟩) (by simp; omega)).trans (by go_simp)
  have m2 : w4.cell? ⟨w.heap.size, 2, none⟩ = some (.int .i64 halt) := (hb4.cell (p := ⟨w.heap.size, 2, none⟩) (by simp; omega)).trans (by go_simp)
  have r4 : ∀ i, w4.cell? ⟨w.heap.size + 1, i, none⟩ = #[Value.int .i64 0, .slice none 0 0, .int .i64 0][i]? := fun i => (hb4.cell (p := ⟨w.heap.size + 1, i, none⟩) (by simp; omega)).trans (by go_simp)
  have z4 : ∀ i, w4.frozen? ⟨w.heap.size, i, none⟩ = false := fun i => (hb4.frozen (p := ⟨w.heap.size, i, none⟩) (by simp; omega)).trans (by go_simp)
  have zr : ∀ i, w4.frozen? ⟨w.heap.size + 1, i, none⟩ = false := fun i => (hb4.frozen (p := ⟨w.heap.size + 1, i, none⟩) (by simp; omega)).trans (by go_simp)
  have G4 : Hid (w4.ownsRow (w.heap.size + 2) 21 1 (.slice a' xs.length cap') xs.length (xs.map (Value.int .i32)) ∧ Below w.heap.size w w4) := Lib.hid ⟨ownsRow_below (ownsRow_setCell_below (ownsRow_setCell_below (ownsRow_setCell_below G.out.1 (by simp <;> omega) _) (by simp <;> omega) _) (by simp <;> omega) _) hb4, (((G.out.2.setCell (by simp) _).setCell (by simp) _).setCell (by simp) _).trans (hb4.mono (by simp; omega))⟩
  have hs4 := hb4.size
  simp at hs4
  clear hb4 k0 k1 z0 z1
  cases hr : rightSt pc xs.length halt
  · have hm : runM l most pc xs halt = ((pc, xs, halt), 0, false) := by simp [runM, hr]
    obtain rfl : R = ((pc, xs, halt), 0, false) := HR.out.symm.trans hm
    clear hm hr
    go_wp2
    refine bodyPost_ret (v := .tuple #[.agg #[.int .i64 pc, .slice a' xs.length cap', .int .i64 halt], .int .i64 0, .bool false]) (by simp [results, Tryd.results18, go_sem, *]) rfl ?_
    refine ⟨_, rfl, ?_, ?_⟩
    · exact (((((Fresh.own G4.out.1).setOther (by simp) _).setOther (by simp) _).setOther (by simp) _)).mono (by omega)
    · exact ((G4.out.2.setCell (by simp) _).setCell (by simp) _).setCell (by simp) _
  · go_wp2_with fail
    refine (twos_any _).mono ?_
    rintro e w5 ⟨rfl, hw5⟩
    obtain ⟨hn1, hn2, hp0, hp1, hh0, hh1⟩ := rightSt_iff.1 hr
    obtain ⟨g, capg, eg, hgb, hgl, hgf⟩ := (Fresh.own G4.out.1).2 (by omega)
    simp only [Value.slice.injEq, true_and] at eg
    obtain ⟨rfl, rfl⟩ := eg
    have hM : MSt w4 w.heap.size g cap' pc xs halt := by
      refine ⟨⟨m0, m1, m2⟩, fun j x hj => ?_, z4, hgf, by omega⟩
      obtain ⟨b, off, e, _, hk⟩ := (I32s.own G4.out.1).look (by omega)
      simp only [Addr.mk.injEq, and_true] at e
      obtain ⟨rfl, rfl⟩ := e
      simpa using hk j x hj
    have hM5 : MSt w5 w.heap.size g cap' pc xs halt := by rw [hw5]; exact hM.below (by omega) (below_alloc1 _ _)
    have hT5 : w5.heap[w4.heap.size]? = some (.map twosE 11) := by rw [hw5]; show (w4.heap.push _)[w4.heap.size]? = _; simp
    have hB5 : Below w.heap.size w w5 := by rw [hw5]; exact G4.out.2.alloc (by omega) _
    have r5 : ∀ i, w5.cell? ⟨w.heap.size + 1, i, none⟩ = #[Value.int .i64 0, .slice none 0 0, .int .i64 0][i]? := fun i => by rw [hw5, World.cell?_alloc_past _ _ _ (by omega)]; exact r4 i
    have zr5 : ∀ i, w5.frozen? ⟨w.heap.size + 1, i, none⟩ = false := fun i => by rw [hw5]; exact ((below_alloc1 w4 _).frozen (p := ⟨w.heap.size + 1, i, none⟩) (by show w.heap.size + 1 < w4.heap.size; omega)).trans (zr i)
    have hs5 : w4.heap.size < w5.heap.size := by rw [hw5]; simp
    have hcapm : cap' ≤ maxLen := by
      obtain ⟨a, c, e1, hm, _⟩ := I32s.own G4.out.1
      simp only [Value.slice.injEq] at e1
      rw [e1.2.2]; exact hm
    clear hw5 m0 m1 m2 r4 z4 zr G4 hM hgf
    have Hlen : Hid (runM l most pc xs halt = ((runN l (min most 1048576).toNat pc xs halt).1, ((runN l (min most 1048576).toNat pc xs halt).2 : Int), (runN l (min most 1048576).toNat pc xs halt).1.2.2 != 0)) := Lib.hid (by simp [runM, hr])
    obtain ⟨N, hN⟩ : ∃ N, N = (min most 1048576).toNat := ⟨_, rfl⟩
    have HN := Lib.hid hN
    have F5 := Lib.hid (And.intro hM5 (And.intro hT5 (And.intro hB5 (And.intro r5 (And.intro zr5 hs5)))))
    have Hr := Lib.hid hr
    clear hN hM5 hT5 hB5 r5 zr5 hr
    obtain ⟨M, hMM⟩ : ∃ M, M = min most 1048576 := ⟨_, rfl⟩
    have hmin : ∀ wx, (Builtin.min_ #[3, 3] 3 #[.int .i64 most, .int .i64 1048576]).run Tryd.prog wx = .ok (.int .i64 M) wx := fun wx => by rw [min_run, hMM]
    have HMM := Lib.hid hMM
    clear hMM
    go_wp2_with fail
    go_loopw [10] (fun v wr => ∃ (j q : Nat) (xsj : List Int) (hj : Int), v = .int .i64 j ∧ j ≤ N ∧ Hid (MSt wr w.heap.size g cap' q xsj hj ∧ But2 w.heap.size g w5 wr ∧ rightSt q xsj.length hj = true ∧ W32 xsj ∧ xsj.length = xs.length ∧
        runN l N pc xs halt = ((runN l (N - j) q xsj hj).1, j + (runN l (N - j) q xsj hj).2))) (fun v _ => N - (intOf v).toNat)
    case atStart =>
      obtain ⟨q, rfl⟩ := Int.eq_ofNat_of_zero_le hp0
      exact ⟨0, q, xs, halt, rfl, by omega, Lib.hid ⟨F5.out.1, ⟨rfl, rfl, rfl, Nat.le_refl _, fun _ _ _ _ => rfl⟩, Hr.out, hW, rfl, by simp⟩⟩
    case round =>
      obtain ⟨j, q, xsj, hj, rfl, hjN, HJ⟩ := hrel
      have hM := HJ.out.1
      have hlow : Below w.heap.size w wr := F5.out.2.2.1.trans (HJ.out.2.1.low (Nat.le_refl _) (by omega) (by have := F5.out.2.2.1.size; omega))
      have hs2 := hM.st.c2
      have hPre : hj = 0 → Pre wr w.heap.size g cap' w4.heap.size q xsj l v := fun e => by
        subst e
        refine ⟨hM, HO.out.below hlow HO.out.size, Hc.out.below hlow (Nat.le_refl _), ?_, hl, by rw [HJ.out.2.2.2.2.1]; exact hxl, by rw [HJ.out.2.2.2.2.1]; omega, hcapm, HJ.out.2.2.2.1⟩
        rw [HJ.out.2.1.block _ F5.out.2.2.2.2.2 (by omega) (by omega)]
        exact F5.out.2.1
      have HPre := Lib.hid hPre
      have HL := Lib.hid hlow
      have HM := Lib.hid hM
      clear hPre hlow hM
      by_cases hgo : j < N ∧ hj = 0
      · obtain ⟨hlt, rfl⟩ := hgo
        have HP0 := Lib.hid (HPre.out rfl)
        have jm : (j : Int) ≤ 9223372036854775806 := by have := HN.out; omega
        have b1 : (j : Int) < M := by have := HN.out; have := HMM.out; omega
        go_wp2_with fail
        refine (step_any _ g cap' w4.heap.size q xsj l v wr HP0.out).mono ?_
        rintro e w6 ⟨rfl, hm6, hb6⟩
        have hright := stepP_right (l := l) (HJ.out.2.2.1) hl HJ.out.2.2.2.1
        have HS := Lib.hid (And.intro hm6 (And.intro hb6 hright))
        clear hm6 hb6 hright
        go_wp2
        go_roundw
        case rel =>
          have hq0 := (rightSt_iff.1 HS.out.2.2.1).2.2.1
          obtain ⟨q', hq'⟩ := Int.eq_ofNat_of_zero_le hq0
          refine ⟨j + 1, q', (stepP l q xsj).2.1, (stepP l q xsj).2.2, by go_num, by omega, Lib.hid ⟨?_, HJ.out.2.1.trans HS.out.2.1, ?_, HS.out.2.2.2.1, HS.out.2.2.2.2.trans HJ.out.2.2.2.2.1, ?_⟩⟩
          · rw [← hq']; exact HS.out.1
          · rw [← hq']; exact HS.out.2.2.1
          · rw [← hq']; exact runN_next hlt HJ.out.2.2.2.2.2
        case measure => simp [intOf]; omega
      · have hend : runN l N pc xs halt = (((q : Int), xsj, hj), j) := by
          rw [HJ.out.2.2.2.2.2]
          by_cases h0 : hj = 0
          · have : N - j = 0 := by have : ¬ j < N := fun h => hgo ⟨h, h0⟩; omega
            rw [this]
            rfl
          · rw [runN_stop _ _ _ _ _ h0]
            rfl
        have hs0 := HM.out.st.c0
        have hs1' := HM.out.st.c1
        have hbx : wr.heap[w.heap.size + 1]? = w5.heap[w.heap.size + 1]? := HJ.out.2.1.block _ (by have := F5.out.2.2.2.2.2; omega) (by omega) (by omega)
        have rr : ∀ i, wr.cell? ⟨w.heap.size + 1, i, none⟩ = #[Value.int .i64 0, .slice none 0 0, .int .i64 0][i]? := fun i => (World.cell?_of_block (w := w5) hbx).trans (F5.out.2.2.2.1 i)
        have zz : ∀ i, wr.frozen? ⟨w.heap.size + 1, i, none⟩ = false := fun i => (World.frozen?_of_block (w := w5) hbx).trans (F5.out.2.2.2.2.1 i)
        have lr : w.heap.size < wr.heap.size := cell_lt hs0
        have He := Lib.hid hend
        have FR : Hid (Fresh wr (w.heap.size + 2) (.slice (some ⟨g, 0, none⟩) xsj.length cap') xsj) := Lib.hid (HM.out.fresh hcapm (by rw [HJ.out.2.2.2.2.1]; omega) (by omega))
        clear hend hbx
        by_cases hjN' : j < N
        · have b1 : (j : Int) < M := by have := HN.out; have := HMM.out; omega
          have b2 : (hj == 0) = false := by
            simp
            intro h0
            exact hgo ⟨hjN', h0⟩
          go_wp2_with fail
          go_region
          go_wp2
          refine bodyPost_ret (v := .tuple #[.agg #[.int .i64 q, .slice (some ⟨g, 0, none⟩) xsj.length cap', .int .i64 hj], .int .i64 j, .bool (hj != 0)]) (by simp [results, Tryd.results18, go_sem, *]) rfl ?_
          obtain rfl : R = (((q : Int), xsj, hj), (j : Int), hj != 0) := HR.out.symm.trans (Hlen.out.trans (by rw [← HN.out, He.out]))
          refine ⟨_, rfl, ?_, ?_⟩
          · exact ((((FR.out.setOther (by simp) _).setOther (by simp) _).setOther (by simp) _).drew).mono (by omega)
          · exact (((HL.out.setCell (by simp) _).setCell (by simp) _).setCell (by simp) _).drew
        · have b1 : ¬ (j : Int) < M := by have := HN.out; have := HMM.out; omega
          go_wp2_with fail
          go_region
          go_wp2
          refine bodyPost_ret (v := .tuple #[.agg #[.int .i64 q, .slice (some ⟨g, 0, none⟩) xsj.length cap', .int .i64 hj], .int .i64 j, .bool (hj != 0)]) (by simp [results, Tryd.results18, go_sem, *]) rfl ?_
          obtain rfl : R = (((q : Int), xsj, hj), (j : Int), hj != 0) := HR.out.symm.trans (Hlen.out.trans (by rw [← HN.out, He.out]))
          refine ⟨_, rfl, ?_, ?_⟩
          · exact ((((FR.out.setOther (by simp) _).setOther (by simp) _).setOther (by simp) _).drew).mono (by omega)
          · exact (((HL.out.setCell (by simp) _).setCell (by simp) _).setCell (by simp) _).drew
end Go.Proofs.YteecpkkgjioplaaDoor

/- Step: one step of Run. -/
namespace Go.Proofs.YteecpkkgjioplaaDoor
open Go.RowKit Go

/-- A state's value, its words in memory of the call's own. -/
def StPost (w : World) (r : Int × List Int × Int) (e : Ending) (w' : World) : Prop :=
  ∃ v, e = .returned (stV r.1 v r.2.2) ∧ Fresh w' w.heap.size v r.2.1 ∧ Below w.heap.size w w'
theorem Fresh.slice {w : World} {base : Nat} {v : Value} {xs : List Int} (h : Fresh w base v xs) : ∃ a cap, v = .slice a xs.length cap := by
  obtain ⟨a, cap, e, _⟩ := h.1
  exact ⟨a, cap, e⟩

set_option maxRecDepth 100000 in
set_option maxHeartbeats 2000000 in
theorem mstep_any (v mv : Value) (pc halt : Int) (xs : List Int) (l : List Ins) (w : World) (hx : I32s w mv xs) (hc : InsS w v l) (H : Ops w) (hl : l.length ≤ 300) (hxl : xs.length ≤ 300) (hW : W32 xs) :
    Calls Tryd.prog 14 #[v, stV pc mv halt] w fun e w' => StPost w (runM l 1 pc xs halt).1 e w' := by
  obtain ⟨a, cap, e1, _⟩ := id hx
  have Hx : Hid (∀ o1 o2, I32s ((w.alloc o1).alloc o2) mv xs ∧ InsS ((w.alloc o1).alloc o2) v l ∧ Ops ((w.alloc o1).alloc o2)) := Lib.hid fun o1 o2 => ⟨hx.below (below_alloc2 w o1 o2) (Nat.le_refl _), hc.below (below_alloc2 w o1 o2) (Nat.le_refl _), (H.alloc _).alloc _⟩
  obtain ⟨⟨pc', xs', h'⟩, hR⟩ : ∃ r, r = (runM l 1 pc xs halt).1 := ⟨_, rfl⟩
  rw [← hR]
  have HR := Lib.hid hR
  subst e1
  clear hx hc H hR
  rw [stV_def]
  go_enter Tryd.func14, Tryd.ntmps14
  go_wp2_with fail
  refine (run_any v _ pc halt xs l 1 _ (Hx.out _ _).1 (Hx.out _ _).2.1 (Hx.out _ _).2.2 hl hxl hW).mono ?_
  rintro e w1 ⟨v', rfl, hf, hb1⟩
  rw [← HR.out] at hf ⊢
  generalize (runM l 1 pc xs halt).2.1 = n at *
  generalize (runM l 1 pc xs halt).2.2 = b at *
  obtain ⟨a', cap', e2⟩ := hf.slice
  simp only at e2 hf ⊢
  subst e2
  rw [stV_def]
  have hs1 := hb1.size
  simp at hs1
  have k1 : ∀ i, w1.cell? ⟨w.heap.size + 1, i, none⟩ = #[Value.int .i64 0, .slice none 0 0, .int .i64 0][i]? := fun i => (hb1.cell (p := ⟨w.heap.size + 1, i, none⟩) (by simp)).trans (by simp)
  have z1 : ∀ i, w1.frozen? ⟨w.heap.size + 1, i, none⟩ = false := fun i => (hb1.frozen (p := ⟨w.heap.size + 1, i, none⟩) (by simp)).trans (by go_simp)
  have G : Hid (Fresh w1 (w.heap.size + 2) (.slice a' xs'.length cap') xs' ∧ Below w.heap.size w w1) := Lib.hid ⟨by simpa using hf, (below_alloc2 w _ _).trans (hb1.mono (by simp; omega))⟩
  have hlt1 : w.heap.size + 1 < w1.heap.size := by omega
  clear hf hb1 hs1
  go_wp2
  refine bodyPost_ret (v := .agg #[.int .i64 pc', .slice a' xs'.length cap', .int .i64 h']) (by simp [results, Tryd.results14, go_sem, *]) rfl ?_
  refine ⟨_, rfl, ?_, ?_⟩
  · exact (((((G.out.1.setOther (by simp) _).setOther (by simp) _).setOther (by simp) _).below (below_alloc1 _ _))).mono (by omega)
  · exact ((((G.out.2.setCell (by simp) _).setCell (by simp) _).setCell (by simp) _).alloc (by simp; omega) _)
end Go.Proofs.YteecpkkgjioplaaDoor

/- baizeref15.Next, Place. -/
namespace Go.Proofs.YteecpkkgjioplaaDoor
open Go.RowKit Go

set_option maxRecDepth 20000 in
set_option maxHeartbeats 2000000 in
theorem rnext_in (pc : Nat) (b off : Nat) (l : List Ins) (cap : Nat) (a : Option Addr) (n k : Nat) (w : World) (hs : rightSt pc n 0 = true) (hl : l.length ≤ 300) (hi : pc < l.length)
    (lb : b < w.heap.size) (hc : InsAt w b off l) :
    Calls Tryd.prog 27 #[.slice (some ⟨b, off, none⟩) l.length cap, .agg #[.int .i64 pc, .slice a n k, .int .i64 0]] w fun e w' =>
      e = .returned (.tuple #[if rightP l[pc].o l[pc].a l[pc].b l[pc].c l.length n then l[pc].val else zeroI, .bool (rightP l[pc].o l[pc].a l[pc].b l[pc].c l.length n)]) ∧ Below w.heap.size w w' := by
  have h1 : decide (2048 < (l.length : Int)) = false := by simp; omega
  have h3 : decide (l.length ≤ pc) = false := by simp; omega
  have h4 : decide (2048 < l.length) = false := by simp; omega
  have hi0 : (0 : Int) ≤ (pc : Int) := Int.natCast_nonneg _
  have hi1 : (pc : Int) < (l.length : Int) := by omega
  obtain ⟨d0, d1, d2, d3⟩ := hc pc hi
  clear hc
  generalize hr : rightP l[pc].o l[pc].a l[pc].b l[pc].c l.length n = r
  have Hr := Lib.hid hr
  have Hs := Lib.hid hs
  clear hr hs
  unfold zeroI Ins.val
  go_enter Tryd.func27, Tryd.ntmps27
  go_wp2_with fail
  go_region_held3 (fun w' => w'.cell? ⟨w.heap.size, 0, none⟩ = some (.int .i64 pc) ∧ w'.cell? ⟨w.heap.size, 1, none⟩ = some (.slice a n k) ∧ w'.cell? ⟨w.heap.size, 2, none⟩ = some (.int .i64 0) ∧ w'.cell? ⟨b, off + pc * 4, none⟩ = some (.int .i64 l[pc].o) ∧ w'.cell? ⟨b, off + pc * 4 + 1, none⟩ = some (.int .i64 l[pc].a) ∧
      w'.cell? ⟨b, off + pc * 4 + 2, none⟩ = some (.int .i64 l[pc].b) ∧ w'.cell? ⟨b, off + pc * 4 + 3, none⟩ = some (.int .i64 l[pc].c))
    (first | go_keep | ((try dsimp only); (try go_split_ands); (repeat' apply And.intro) <;> (first | go_keep | (rw [hb2.cell (by simp; omega)]; first | assumption | go_keep) | (rw [hb1.cell (by simp; omega)]; first | assumption | go_simp | go_keep))))
    (first
      | (go_at_call 20; refine (rright_any _ _ _ _ _ _).mono ?_; rintro e w1 ⟨rfl, hb1⟩; rw [Hs.out]; have hz1 : w.heap.size + 2 ≤ w1.heap.size := (by have := hb1.size; simpa using this))
      | (go_at_call 41; refine (right14_any _ _ _ _ _ _ _).mono ?_; rintro e w2 ⟨rfl, hb2⟩))
  have hsz : w1.heap.size ≤ w2.heap.size := hb2.size
  have hlt : b < w2.heap.size := by omega
  have k0 : ∀ j, w2.cell? ⟨w.heap.size + 1, j, none⟩ = #[Value.int .i64 0, .int .i64 0, .int .i64 0, .int .i64 0][j]? := fun j => (hb2.cell (p := ⟨w.heap.size + 1, j, none⟩) (by simp; omega)).trans ((hb1.cell (p := ⟨w.heap.size + 1, j, none⟩) (by simp)).trans (by simp))
  have z0 : ∀ j, w2.frozen? ⟨w.heap.size + 1, j, none⟩ = false := fun j => (hb2.frozen (p := ⟨w.heap.size + 1, j, none⟩) (by simp; omega)).trans ((hb1.frozen (p := ⟨w.heap.size + 1, j, none⟩) (by simp)).trans (by go_simp))
  have e0 : w2.cell? ⟨w.heap.size, 0, none⟩ = some (.int .i64 pc) := (hb2.cell (p := ⟨w.heap.size, 0, none⟩) (by simp; omega)).trans ((hb1.cell (p := ⟨w.heap.size, 0, none⟩) (by simp; omega)).trans (by go_simp))
  have lb2 : ∀ o, w2.cell? ⟨b, o, none⟩ = w.cell? ⟨b, o, none⟩ := fun o => (hb2.cell (p := ⟨b, o, none⟩) (by simp; omega)).trans ((hb1.cell (p := ⟨b, o, none⟩) (by simp; omega)).trans ((below_alloc2 w _ _).cell (p := ⟨b, o, none⟩) lb))
  have g0 := (lb2 _).trans d0
  have g1 := (lb2 _).trans d1
  have g2 := (lb2 _).trans d2
  have g3 := (lb2 _).trans d3
  have HB : Hid (Below w.heap.size w w2) := Lib.hid (((below_alloc2 w _ _).trans (Below.drew (Below.refl _ _) |>.trans (hb1.mono (by simp; omega)))).trans (hb2.mono (by omega)))
  clear hb1 hb2 lb2 d0 d1 d2 d3
  rw [Hr.out]
  cases r
  · go_wp2
    exact bodyPost_ret (v := .tuple #[.agg #[.int .i64 0, .int .i64 0, .int .i64 0, .int .i64 0], .bool false]) (by simp [results, Tryd.results27, go_sem, *]) rfl ⟨rfl, ((((HB.out.setCell (by simp) _).setCell (by simp) _).setCell (by simp) _).setCell (by simp) _)⟩
  · go_wp2
    exact bodyPost_ret (v := .tuple #[.agg #[.int .i64 l[pc].o, .int .i64 l[pc].a, .int .i64 l[pc].b, .int .i64 l[pc].c], .bool true]) (by simp [results, Tryd.results27, go_sem, *]) rfl ⟨rfl, ((((HB.out.setCell (by simp) _).setCell (by simp) _).setCell (by simp) _).setCell (by simp) _)⟩

end Go.Proofs.YteecpkkgjioplaaDoor

/- Helpers: a region that draws its order, gone through operation by operation. -/
namespace Go.Proofs.YteecpkkgjioplaaDoor
open Go.RowKit Go
section
variable {P : Program} {ops : Array Oper} {Q : Exit → Act → World → Prop} {md : Region.Mode} {S : World → Prop}
theorem hd_take {i : Nat} {oi : Oper} (d : Option Tmp) {v : Value} {fuel : Nat} {listed : Array Bool} {a : Act} {w : World} (hi : ops[i]? = some oi) (hd : oi.dst = d)
    (hs : Region.noSelect ops = true) (hf : Region.free md ops listed i = true) (hr : (Region.ready md ops listed).contains i = true)
    (hQ : ∀ c a w, Q (.panic c) (a.put d v) w → Q (.panic c) a w) (hw : Region.wanted oi (yielded ops a.tmps) = true) (hy : ∀ w, S w → (execOp a.eval oi).run P w = .ok (.value v) w) (hS : S w)
    (h : wpAnyH P md ops Q S fuel (listed.setIfInBounds i true) (a.put d v) w) : wpAnyH P md ops Q S (fuel + 1) listed a w := by
  subst hd
  exact wpAnyH_take hi hs hf hr hQ (Or.inl ⟨hw, hy⟩) hS h
theorem hd_skip {i : Nat} {oi : Oper} (d : Option Tmp) {fuel : Nat} {listed : Array Bool} {a : Act} {w : World} (hi : ops[i]? = some oi) (hd : oi.dst = d)
    (hs : Region.noSelect ops = true) (hf : Region.free md ops listed i = true) (hr : (Region.ready md ops listed).contains i = true)
    (hQ : ∀ c a w, Q (.panic c) (a.put d undef) w → Q (.panic c) a w) (hw : Region.wanted oi (yielded ops a.tmps) = false) (hu : a.put d undef = a) (hS : S w)
    (h : wpAnyH P md ops Q S fuel (listed.setIfInBounds i true) a w) : wpAnyH P md ops Q S (fuel + 1) listed a w := by
  subst hd
  exact wpAnyH_take hi hs hf hr hQ (Or.inr ⟨hw, rfl⟩) hS (by rw [hu]; exact h)
end
end Go.Proofs.YteecpkkgjioplaaDoor

/- baizeref15.Next, Place. -/
namespace Go.Proofs.YteecpkkgjioplaaDoor
open Go.RowKit Go

set_option linter.unusedSimpArgs false in
set_option maxRecDepth 20000 in
set_option maxHeartbeats 2000000 in
theorem rnext_out (pc : Nat) (c : Option Addr) (l : List Ins) (cap : Nat) (a : Option Addr) (n k : Nat) (w : World) (hs : rightSt pc n 0 = true) (hl : l.length ≤ 300) (hi : ¬ pc < l.length) :
    Calls Tryd.prog 27 #[.slice c l.length cap, .agg #[.int .i64 pc, .slice a n k, .int .i64 0]] w fun e w' => e = .returned (.tuple #[zeroI, .bool false]) ∧ Below w.heap.size w w' := by
  have h1 : decide (2048 < (l.length : Int)) = false := by simp; omega
  have h3 : decide (l.length ≤ pc) = true := by simp; omega
  have h4 : decide (2048 < l.length) = false := by simp; omega
  have hi0 : (0 : Int) ≤ (pc : Int) := Int.natCast_nonneg _
  have Hs := Lib.hid hs
  clear hs hi
  unfold zeroI
  go_enter Tryd.func27, Tryd.ntmps27
  go_wp2_with fail
  refine wp_region_held_drew (S := fun w' => w'.cell? ⟨w.heap.size, 0, none⟩ = some (.int .i64 pc) ∧ w'.cell? ⟨w.heap.size, 1, none⟩ = some (.slice a n k) ∧ w'.cell? ⟨w.heap.size, 2, none⟩ = some (.int .i64 0)) (by kernel_rfl) (by refine ⟨?_, ?_, ?_⟩ <;> go_simp) (fun hHeld => ?_)
  refine hd_take (i := 0) (some 6) (v := ?v0) rfl rfl (by kernel_rfl) (by kernel_rfl) (by kernel_rfl) (fun _ _ _ h => h) (by rfl) ?h0 (by assumption) ?r0
  case h0 =>
    intro w hSw
    (try dsimp only at hSw)
    go_simp
    (try with_reducible rfl)
  try simp only [Act.put, List.setIfInBounds_toArray, List.set_cons_zero, List.set_cons_succ]
  refine wpAnyH_ready (rs := [1]) (by kernel_rfl) (by simp) ?_
  refine AllReadyH.cons rfl (fun K hK => ?_) AllReadyH.nil
  go_simp
  refine (rright_any _ _ _ _ _ _).mono ?_
  rintro e w1 ⟨rfl, hb1⟩
  rw [Hs.out]
  go_wp2_with fail
  refine hK.out _ _ (by refine ⟨?_, ?_, ?_⟩ <;> (rw [hb1.cell (by simp; omega)]; go_simp)) (fun hHeld => ?_)
  clear hK K
  refine hd_take (i := 2) (some 8) (v := ?v2) rfl rfl (by kernel_rfl) (by kernel_rfl) (by kernel_rfl) (fun _ _ _ h => h) (by rfl) ?h2 (by assumption) ?r2
  case h2 =>
    intro w hSw
    (try dsimp only at hSw)
    go_simp
    (try with_reducible rfl)
  try simp only [Act.put, List.setIfInBounds_toArray, List.set_cons_zero, List.set_cons_succ]
  refine hd_take (i := 3) (some 9) (v := ?v3) rfl rfl (by kernel_rfl) (by kernel_rfl) (by kernel_rfl) (fun _ _ _ h => h) (by rfl) ?h3 (by assumption) ?r3
  case h3 =>
    intro w hSw
    (try dsimp only at hSw)
    go_simp
    (try with_reducible rfl)
  try simp only [Act.put, List.setIfInBounds_toArray, List.set_cons_zero, List.set_cons_succ]
  refine hd_take (i := 4) (some 10) (v := ?v4) rfl rfl (by kernel_rfl) (by kernel_rfl) (by kernel_rfl) (fun _ _ _ h => h) (by rfl) ?h4 (by assumption) ?r4
  case h4 =>
    intro w hSw
    (try dsimp only at hSw)
    go_simp
    (try with_reducible rfl)
  try simp only [Act.put, List.setIfInBounds_toArray, List.set_cons_zero, List.set_cons_succ]
  refine hd_take (i := 5) (some 11) (v := ?v5) rfl rfl (by kernel_rfl) (by kernel_rfl) (by kernel_rfl) (fun _ _ _ h => h) (by rfl) ?h5 (by assumption) ?r5
  case h5 =>
    intro w hSw
    (try dsimp only at hSw)
    go_simp
    (try with_reducible rfl)
  try simp only [Act.put, List.setIfInBounds_toArray, List.set_cons_zero, List.set_cons_succ]
  refine hd_take (i := 6) (some 12) (v := ?v6) rfl rfl (by kernel_rfl) (by kernel_rfl) (by kernel_rfl) (fun _ _ _ h => h) (by rfl) ?h6 (by assumption) ?r6
  case h6 =>
    intro w hSw
    (try dsimp only at hSw)
    go_simp
    (try with_reducible rfl)
  try simp only [Act.put, List.setIfInBounds_toArray, List.set_cons_zero, List.set_cons_succ]
  refine hd_take (i := 7) (some 13) (v := ?v7) rfl rfl (by kernel_rfl) (by kernel_rfl) (by kernel_rfl) (fun _ _ _ h => h) (by rfl) ?h7 (by assumption) ?r7
  case h7 =>
    intro w hSw
    (try dsimp only at hSw)
    go_simp
    (try with_reducible rfl)
  try simp only [Act.put, List.setIfInBounds_toArray, List.set_cons_zero, List.set_cons_succ]
  refine hd_take (i := 8) (some 14) (v := ?v8) rfl rfl (by kernel_rfl) (by kernel_rfl) (by kernel_rfl) (fun _ _ _ h => h) (by rfl) ?h8 (by assumption) ?r8
  case h8 =>
    intro w hSw
    (try dsimp only at hSw)
    go_simp
    (try with_reducible rfl)
  try simp only [Act.put, List.setIfInBounds_toArray, List.set_cons_zero, List.set_cons_succ]
  refine hd_take (i := 9) (some 15) (v := ?v9) rfl rfl (by kernel_rfl) (by kernel_rfl) (by kernel_rfl) (fun _ _ _ h => h) (by rfl) ?h9 (by assumption) ?r9
  case h9 =>
    intro w hSw
    (try dsimp only at hSw)
    go_simp
    (try with_reducible rfl)
  try simp only [Act.put, List.setIfInBounds_toArray, List.set_cons_zero, List.set_cons_succ]
  refine hd_take (i := 10) (some 16) (v := ?v10) rfl rfl (by kernel_rfl) (by kernel_rfl) (by kernel_rfl) (fun _ _ _ h => h) (by rfl) ?h10 (by assumption) ?r10
  case h10 =>
    intro w hSw
    (try dsimp only at hSw)
    go_simp
    (try with_reducible rfl)
  try simp only [Act.put, List.setIfInBounds_toArray, List.set_cons_zero, List.set_cons_succ]
  refine hd_take (i := 11) (some 17) (v := ?v11) rfl rfl (by kernel_rfl) (by kernel_rfl) (by kernel_rfl) (fun _ _ _ h => h) (by rfl) ?h11 (by assumption) ?r11
  case h11 =>
    intro w hSw
    (try dsimp only at hSw)
    go_simp
    (try with_reducible rfl)
  try simp only [Act.put, List.setIfInBounds_toArray, List.set_cons_zero, List.set_cons_succ]
  refine hd_take (i := 12) (some 18) (v := ?v12) rfl rfl (by kernel_rfl) (by kernel_rfl) (by kernel_rfl) (fun _ _ _ h => h) (by rfl) ?h12 (by assumption) ?r12
  case h12 =>
    intro w hSw
    (try dsimp only at hSw)
    go_simp
    (try with_reducible rfl)
  try simp only [Act.put, List.setIfInBounds_toArray, List.set_cons_zero, List.set_cons_succ]
  refine hd_take (i := 13) (some 19) (v := ?v13) rfl rfl (by kernel_rfl) (by kernel_rfl) (by kernel_rfl) (fun _ _ _ h => h) (by rfl) ?h13 (by assumption) ?r13
  case h13 =>
    intro w hSw
    (try dsimp only at hSw)
    go_simp
    (try with_reducible rfl)
  try simp only [Act.put, List.setIfInBounds_toArray, List.set_cons_zero, List.set_cons_succ]
  refine hd_take (i := 14) (some 20) (v := ?v14) rfl rfl (by kernel_rfl) (by kernel_rfl) (by kernel_rfl) (fun _ _ _ h => h) (by rfl) ?h14 (by assumption) ?r14
  case h14 =>
    intro w hSw
    (try dsimp only at hSw)
    go_simp
    (try with_reducible rfl)
  try simp only [Act.put, List.setIfInBounds_toArray, List.set_cons_zero, List.set_cons_succ]
  refine hd_take (i := 15) (some 21) (v := ?v15) rfl rfl (by kernel_rfl) (by kernel_rfl) (by kernel_rfl) (fun _ _ _ h => h) (by rfl) ?h15 (by assumption) ?r15
  case h15 =>
    intro w hSw
    (try dsimp only at hSw)
    go_simp
    (try with_reducible rfl)
  try simp only [Act.put, List.setIfInBounds_toArray, List.set_cons_zero, List.set_cons_succ]
  refine hd_take (i := 16) (some 22) (v := ?v16) rfl rfl (by kernel_rfl) (by kernel_rfl) (by kernel_rfl) (fun _ _ _ h => h) (by rfl) ?h16 (by assumption) ?r16
  case h16 =>
    intro w hSw
    (try dsimp only at hSw)
    go_simp
    (try with_reducible rfl)
  try simp only [Act.put, List.setIfInBounds_toArray, List.set_cons_zero, List.set_cons_succ]
  refine hd_take (i := 17) (some 23) (v := ?v17) rfl rfl (by kernel_rfl) (by kernel_rfl) (by kernel_rfl) (fun _ _ _ h => h) (by rfl) ?h17 (by assumption) ?r17
  case h17 =>
    intro w hSw
    (try dsimp only at hSw)
    go_simp
    (try with_reducible rfl)
  try simp only [Act.put, List.setIfInBounds_toArray, List.set_cons_zero, List.set_cons_succ]
  refine hd_take (i := 18) (some 24) (v := ?v18) rfl rfl (by kernel_rfl) (by kernel_rfl) (by kernel_rfl) (fun _ _ _ h => h) (by rfl) ?h18 (by assumption) ?r18
  case h18 =>
    intro w hSw
    (try dsimp only at hSw)
    go_simp
    (try with_reducible rfl)
  try simp only [Act.put, List.setIfInBounds_toArray, List.set_cons_zero, List.set_cons_succ]
  refine hd_take (i := 19) (some 25) (v := ?v19) rfl rfl (by kernel_rfl) (by kernel_rfl) (by kernel_rfl) (fun _ _ _ h => h) (by rfl) ?h19 (by assumption) ?r19
  case h19 =>
    intro w hSw
    (try dsimp only at hSw)
    go_simp
    (try with_reducible rfl)
  try simp only [Act.put, List.setIfInBounds_toArray, List.set_cons_zero, List.set_cons_succ]
  refine hd_take (i := 20) (some 26) (v := ?v20) rfl rfl (by kernel_rfl) (by kernel_rfl) (by kernel_rfl) (fun _ _ _ h => h) (by rfl) ?h20 (by assumption) ?r20
  case h20 =>
    intro w hSw
    (try dsimp only at hSw)
    go_simp
    (try with_reducible rfl)
  try simp only [Act.put, List.setIfInBounds_toArray, List.set_cons_zero, List.set_cons_succ]
  refine hd_skip (i := 21) (some 27) rfl rfl (by kernel_rfl) (by kernel_rfl) (by kernel_rfl) (fun _ _ _ h => h) (by rfl) (by rfl) (by assumption) ?_
  refine hd_skip (i := 22) (some 28) rfl rfl (by kernel_rfl) (by kernel_rfl) (by kernel_rfl) (fun _ _ _ h => h) (by rfl) (by rfl) (by assumption) ?_
  refine hd_skip (i := 23) (some 29) rfl rfl (by kernel_rfl) (by kernel_rfl) (by kernel_rfl) (fun _ _ _ h => h) (by rfl) (by rfl) (by assumption) ?_
  refine hd_skip (i := 24) (some 30) rfl rfl (by kernel_rfl) (by kernel_rfl) (by kernel_rfl) (fun _ _ _ h => h) (by rfl) (by rfl) (by assumption) ?_
  refine hd_skip (i := 25) (some 31) rfl rfl (by kernel_rfl) (by kernel_rfl) (by kernel_rfl) (fun _ _ _ h => h) (by rfl) (by rfl) (by assumption) ?_
  refine hd_skip (i := 26) (some 32) rfl rfl (by kernel_rfl) (by kernel_rfl) (by kernel_rfl) (fun _ _ _ h => h) (by rfl) (by rfl) (by assumption) ?_
  refine hd_skip (i := 27) (some 33) rfl rfl (by kernel_rfl) (by kernel_rfl) (by kernel_rfl) (fun _ _ _ h => h) (by rfl) (by rfl) (by assumption) ?_
  refine hd_skip (i := 28) (some 34) rfl rfl (by kernel_rfl) (by kernel_rfl) (by kernel_rfl) (fun _ _ _ h => h) (by rfl) (by rfl) (by assumption) ?_
  refine hd_skip (i := 29) (some 35) rfl rfl (by kernel_rfl) (by kernel_rfl) (by kernel_rfl) (fun _ _ _ h => h) (by rfl) (by rfl) (by assumption) ?_
  refine hd_skip (i := 30) (some 36) rfl rfl (by kernel_rfl) (by kernel_rfl) (by kernel_rfl) (fun _ _ _ h => h) (by rfl) (by rfl) (by assumption) ?_
  refine hd_skip (i := 31) (some 37) rfl rfl (by kernel_rfl) (by kernel_rfl) (by kernel_rfl) (fun _ _ _ h => h) (by rfl) (by rfl) (by assumption) ?_
  refine hd_skip (i := 32) (some 38) rfl rfl (by kernel_rfl) (by kernel_rfl) (by kernel_rfl) (fun _ _ _ h => h) (by rfl) (by rfl) (by assumption) ?_
  refine hd_take (i := 33) (some 39) (v := ?v33) rfl rfl (by kernel_rfl) (by kernel_rfl) (by kernel_rfl) (fun _ _ _ h => h) (by rfl) ?h33 (by assumption) ?r33
  case h33 =>
    intro w hSw
    (try dsimp only at hSw)
    go_simp
    (try with_reducible rfl)
  try simp only [Act.put, List.setIfInBounds_toArray, List.set_cons_zero, List.set_cons_succ]
  refine wpAnyH_done (by kernel_rfl) ?_ _
  have k0 : ∀ j, w1.cell? ⟨w.heap.size + 1, j, none⟩ = #[Value.int .i64 0, .int .i64 0, .int .i64 0, .int .i64 0][j]? := fun j => (hb1.cell (p := ⟨w.heap.size + 1, j, none⟩) (by simp)).trans (by simp)
  have z0 : ∀ j, w1.frozen? ⟨w.heap.size + 1, j, none⟩ = false := fun j => (hb1.frozen (p := ⟨w.heap.size + 1, j, none⟩) (by simp)).trans (by go_simp)
  have HB : Hid (Below w.heap.size w w1) := Lib.hid ((below_alloc2 w _ _).trans (Below.drew (Below.refl _ _) |>.trans (hb1.mono (by simp; omega))))
  clear hb1
  go_wp2
  exact bodyPost_ret (v := .tuple #[.agg #[.int .i64 0, .int .i64 0, .int .i64 0, .int .i64 0], .bool false]) (by simp [results, Tryd.results27, go_sem, *]) rfl ⟨rfl, ((((HB.out.setCell (by simp) _).setCell (by simp) _).setCell (by simp) _).setCell (by simp) _)⟩
end Go.Proofs.YteecpkkgjioplaaDoor

/- baizeref15.Place. -/
namespace Go.Proofs.YteecpkkgjioplaaDoor
open Go.RowKit Go

set_option maxRecDepth 20000 in
set_option maxHeartbeats 2000000 in
theorem place_15 (a b : Int) (c : Nat) (ad : Addr) (n k : Nat) (pc halt : Int) (xs : List Int) (x : Int) (w : World) (hs : I32s w (.slice (some ad) n k) xs) (hx : xs[c]? = some x)
    (hb0 : -2147483648 ≤ b) (hb1 : b ≤ 2147483647) (x0 : -2147483648 ≤ x) (x1 : x ≤ 2147483647) (hn : n ≤ 300) :
    Calls Tryd.prog 28 #[.agg #[.int .i64 15, .int .i64 a, .int .i64 b, .int .i64 c], .agg #[.int .i64 pc, .slice (some ad) n k, .int .i64 halt]] w fun e w' => e = .returned (.int .i64 (farC n (b + x))) ∧ Below w.heap.size w w' := by
  have hnl := hs.len
  have hc : c < xs.length := (List.getElem?_eq_some_iff.1 hx).1
  obtain ⟨mb, mo, rfl, lm, hk⟩ := hs.look (by omega)
  have q := hk c x hx
  have hc0 : (0 : Int) ≤ (c : Int) := Int.natCast_nonneg _
  have hc1 : (c : Int) < (n : Int) := by omega
  have s0 : -4294967296 ≤ b + x := by omega
  have s1 : b + x ≤ 4294967294 := by omega
  clear hs hk hx hc hnl
  go_enter Tryd.func28, Tryd.ntmps28
  go_wp2_with fail
  go_quiet (fail)
  go_wp2
  all_goals (go_ret; refine ⟨ret_int ?_, below_drewN (below_alloc2 _ _ _) _⟩)
  all_goals (unfold farC; first | (rw [if_pos ‹_›]) | (rw [if_neg (by omega)]; simp; omega) | (rw [if_neg (by omega)]; omega) | (split <;> omega))
set_option maxRecDepth 20000 in
set_option maxHeartbeats 2000000 in
theorem place_16 (a : Int) (b c : Nat) (ad : Addr) (n k : Nat) (pc halt : Int) (xs : List Int) (x y : Int) (w : World) (hs : I32s w (.slice (some ad) n k) xs) (hx : xs[b]? = some x) (hy : xs[c]? = some y)
    (ha0 : -2147483648 ≤ a) (ha1 : a ≤ 2147483647) (x0 : -2147483648 ≤ x) (x1 : x ≤ 2147483647) (y0 : -2147483648 ≤ y) (y1 : y ≤ 2147483647) (hn : n ≤ 300) :
    Calls Tryd.prog 28 #[.agg #[.int .i64 16, .int .i64 a, .int .i64 b, .int .i64 c], .agg #[.int .i64 pc, .slice (some ad) n k, .int .i64 halt]] w fun e w' => e = .returned (.int .i64 (farC n (a + x))) ∧ Below w.heap.size w w' := by
  have hnl := hs.len
  have hc : c < xs.length := (List.getElem?_eq_some_iff.1 hy).1
  have hb : b < xs.length := (List.getElem?_eq_some_iff.1 hx).1
  obtain ⟨mb, mo, rfl, lm, hk⟩ := hs.look (by omega)
  have q := hk c y hy
  have q2 := hk b x hx
  have hc0 : (0 : Int) ≤ (c : Int) := Int.natCast_nonneg _
  have hc1 : (c : Int) < (n : Int) := by omega
  have hb0 : (0 : Int) ≤ (b : Int) := Int.natCast_nonneg _
  have hb1 : (b : Int) < (n : Int) := by omega
  have s0 : -4294967296 ≤ a + x := by omega
  have s1 : a + x ≤ 4294967294 := by omega
  clear hs hk hx hc hy hnl hb
  go_enter Tryd.func28, Tryd.ntmps28
  go_wp2_with fail
  go_quiet (fail)
  go_wp2
  go_quiet (fail)
  go_wp2
  all_goals (go_ret; refine ⟨ret_int ?_, ?_⟩)
  all_goals first | exact below_drewN (below_alloc2 _ _ _) _ | (unfold farC; split <;> omega)
/-- The place of a load or a store. -/
theorem place_any (i : Ins) (a : Option Addr) (k : Nat) (pc halt size : Int) (xs : List Int) (w : World) (hs : I32s w (.slice a xs.length k) xs) (ho : i.o = 15 ∨ i.o = 16) (hr : rightP i.o i.a i.b i.c size xs.length = true) (hl : xs.length ≤ 300) (hW : W32 xs) :
    Calls Tryd.prog 28 #[.agg #[.int .i64 i.o, .int .i64 i.a, .int .i64 i.b, .int .i64 i.c], .agg #[.int .i64 pc, .slice a xs.length k, .int .i64 halt]] w fun e w' => e = .returned (.int .i64 (farI i xs)) ∧ Below w.heap.size w w' := by
  obtain ⟨o, ia, b, c⟩ := i
  simp only at hr ho ⊢
  obtain ⟨ha0, ha1, hb0, hb1, hc0, hc1⟩ := right_www (by omega) hr
  obtain ⟨c, rfl⟩ := Int.eq_ofNat_of_zero_le hc0
  obtain ⟨b, rfl⟩ := Int.eq_ofNat_of_zero_le hb0
  have hc : c < xs.length := by omega
  have hb : b < xs.length := by omega
  obtain ⟨ad, rfl⟩ := hs.addr (by omega)
  obtain ⟨y0, y1⟩ := hW.gx hc
  obtain ⟨x0, x1⟩ := hW.gx hb
  rcases ho with rfl | rfl
  · refine (place_15 ia b c ad _ k pc halt xs _ w hs (gx_at hc) (by omega) (by omega) y0 y1 hl).mono ?_
    rintro e w' ⟨rfl, hb'⟩
    exact ⟨by simp [farI], hb'⟩
  · refine (place_16 ia b c ad _ k pc halt xs _ _ w hs (gx_at hb) (gx_at hc) (by omega) (by omega) x0 x1 y0 y1 hl).mono ?_
    rintro e w' ⟨rfl, hb'⟩
    exact ⟨by simp [farI], hb'⟩
end Go.Proofs.YteecpkkgjioplaaDoor

/- baizeref15.Step: the copy at its head. -/
namespace Go.Proofs.YteecpkkgjioplaaDoor
open Go.RowKit Go

/-- What is known behind the copy at the head of the document's step. -/
structure Head (w wc : World) (pb g cap : Nat) (pc : Int) (v : Value) (xs : List Int) (halt : Int) : Prop where
  st : MSt wc pb g cap pc xs halt
  lp : w.heap.size + 2 ≤ pb
  lg : w.heap.size + 2 ≤ g
  lk : cap ≤ maxLen
  box : ∀ i, wc.cell? ⟨w.heap.size, i, none⟩ = #[Value.int .i64 pc, v, .int .i64 halt][i]?
  res : ∀ i, wc.cell? ⟨w.heap.size + 1, i, none⟩ = #[Value.int .i64 0, .slice none 0 0, .int .i64 0][i]?
  fres : ∀ i, wc.frozen? ⟨w.heap.size + 1, i, none⟩ = false
  below : Below w.heap.size w wc
  lpb : pb < wc.heap.size
  lgb : g < wc.heap.size

theorem ownsRow_empty2 {base : Nat} {e : TypeId} {size : Nat} (w : World) (o : Obj) (B : Nat) (hB : w.heap.size = B) (hb : base ≤ B) : ((w.alloc (.cells #[] e)).alloc o).drew.ownsRow base e size (.slice (some ⟨B, 0, none⟩) 0 0) 0 [] :=
  (ownsRow_below (ownsRow_empty' w B hB hb) (below_alloc1 _ o)).drew
theorem head_mk {w wF : World} {pb g cap' : Nat} {pc : Int} {v : Value} {xs : List Int} {halt : Int}
    (hc : ∀ i, wF.cell? ⟨pb, i, none⟩ = #[Value.int .i64 pc, .slice (some ⟨g, 0, none⟩) xs.length cap', .int .i64 halt][i]?) (hfp : ∀ i, wF.frozen? ⟨pb, i, none⟩ = false)
    (hown : wF.ownsRow (w.heap.size + 2) 21 1 (.slice (some ⟨g, 0, none⟩) xs.length cap') xs.length (xs.map (Value.int .i32))) (hne : pb ≠ g) (lp : w.heap.size + 2 ≤ pb)
    (box : ∀ i, wF.cell? ⟨w.heap.size, i, none⟩ = #[Value.int .i64 pc, v, .int .i64 halt][i]?) (res : ∀ i, wF.cell? ⟨w.heap.size + 1, i, none⟩ = #[Value.int .i64 0, .slice none 0 0, .int .i64 0][i]?)
    (fres : ∀ i, wF.frozen? ⟨w.heap.size + 1, i, none⟩ = false) (below : Below w.heap.size w wF) : Head w wF pb g cap' pc v xs halt := by
  have lpb := cell_lt (by have := hc 0; simpa using this)
  rcases hown.2 with ⟨hv, _⟩ | ⟨g', c, cur, hv, hg, hh, hn, hm, hs, hx⟩
  · simp at hv
  · simp only [Value.slice.injEq, Option.some.injEq, Addr.mk.injEq, and_true, true_and] at hv
    obtain ⟨rfl, rfl⟩ := hv
    refine ⟨⟨⟨by simpa using hc 0, by simpa using hc 1, by simpa using hc 2⟩, fun j x hj => ?_, hfp, fun j => ?_, hne⟩, lp, hg, hm, box, res, fres, below, lpb, (Array.getElem?_eq_some_iff.1 hh).1⟩
    · have := World.ownsRow.cells hown (g := g) rfl j (.int .i32 x) (by simp [hj])
      have hadd : (⟨g, 0, none⟩ : Addr).add j = ⟨g, j, none⟩ := by unfold Addr.add; split <;> simp_all
      rw [hadd] at this
      exact this
    · simp only [World.frozen?, hh]
      simp
/-- The copy's own block was made behind its words. -/
theorem head_new (w W w1 : World) (g cap' : Nat) (pc : Int) (v : Value) (xs : List Int) (halt : Int) {row : Nat} (hown : w1.ownsRow (w.heap.size + 2) 21 1 (.slice (some ⟨g, 0, none⟩) xs.length cap') xs.length (xs.map (Value.int .i32)))
    (hgrow : W.grownBy w1 (some row)) (hb : Below w.heap.size w W) (hrow : w.heap.size + 2 ≤ row) (hW : w.heap.size + 2 ≤ W.heap.size)
    (box : ∀ i, W.cell? ⟨w.heap.size, i, none⟩ = #[Value.int .i64 pc, v, .int .i64 halt][i]?) (res : ∀ i, W.cell? ⟨w.heap.size + 1, i, none⟩ = #[Value.int .i64 0, .slice none 0 0, .int .i64 0][i]?)
    (fres : ∀ i, W.frozen? ⟨w.heap.size + 1, i, none⟩ = false) :
    Head w (w1.alloc (.cells #[Value.int .i64 pc, .slice (some ⟨g, 0, none⟩) xs.length cap', .int .i64 halt] 25)) w1.heap.size g cap' pc v xs halt := by
  have hs := hgrow.size
  have lg := (hown.lt g rfl).2
  have hbl : Below w1.heap.size w1 (w1.alloc (.cells #[Value.int .i64 pc, .slice (some ⟨g, 0, none⟩) xs.length cap', .int .i64 halt] 25)) := below_alloc1 _ _
  refine head_mk (fun i => by simp) (fun i => by go_simp) (ownsRow_below hown hbl) (by omega) (by omega) (fun i => ?_) (fun i => ?_) (fun i => ?_) ((hb.grown hgrow (by omega) (fun k e => by cases e; omega)).alloc (by omega) _)
  · exact (hbl.cell (p := ⟨w.heap.size, i, none⟩) (by show w.heap.size < _; omega)).trans ((hgrow.cell_far _ (by show w.heap.size < _; omega) (by simp; omega)).trans (box i))
  · exact (hbl.cell (p := ⟨w.heap.size + 1, i, none⟩) (by show w.heap.size + 1 < _; omega)).trans ((hgrow.cell_far _ (by show w.heap.size + 1 < _; omega) (by simp; omega)).trans (res i))
  · exact (hbl.frozen (p := ⟨w.heap.size + 1, i, none⟩) (by show w.heap.size + 1 < _; omega)).trans ((hgrow.frozen_far _ (by show w.heap.size + 1 < _; omega) (by simp; omega)).trans (fres i))
theorem heap_at1 (W : World) (o : Obj) (B : Nat) (h : W.heap.size = B) : (W.alloc o).drew.heap[B]? = some o := by
  subst h
  show (W.heap.push o)[W.heap.size]? = _
  simp
theorem heap_at2 (W : World) (o o2 : Obj) (B : Nat) (h : W.heap.size = B) : ((W.alloc o).alloc o2).drew.heap[B]? = some o := by
  subst h
  show ((W.heap.push o).push o2)[W.heap.size]? = _
  rw [Array.getElem?_push]
  simp
/-- The copy's own block was made ahead of its words. -/
theorem head_old (w W w1 : World) (pb row g cap' : Nat) (pc : Int) (v : Value) (xs : List Int) (halt : Int) (hown : w1.ownsRow (w.heap.size + 2) 21 1 (.slice (some ⟨g, 0, none⟩) xs.length cap') xs.length (xs.map (Value.int .i32)))
    (hgrow : W.grownBy w1 (some row)) (hb : Below w.heap.size w W) (lp : w.heap.size + 2 ≤ pb) (lrow : w.heap.size + 2 ≤ row) (hne : pb ≠ row) (lpb : pb < W.heap.size) (_lW : w.heap.size + 2 ≤ W.heap.size)
    (box : ∀ i, W.cell? ⟨w.heap.size, i, none⟩ = #[Value.int .i64 pc, v, .int .i64 halt][i]?) (res : ∀ i, W.cell? ⟨w.heap.size + 1, i, none⟩ = #[Value.int .i64 0, .slice none 0 0, .int .i64 0][i]?)
    (fres : ∀ i, W.frozen? ⟨w.heap.size + 1, i, none⟩ = false) (hpb : W.heap[pb]? = some (.cells #[Value.int .i64 0, .slice none 0 0, .int .i64 0] 25 (0, 0))) :
    Head w (((w1.setCell ⟨pb, 0, none⟩ (.int .i64 pc)).setCell ⟨pb, 1, none⟩ (.slice (some ⟨g, 0, none⟩) xs.length cap')).setCell ⟨pb, 2, none⟩ (.int .i64 halt)) pb g cap' pc v xs halt := by
  have h1 : w1.heap[pb]? = some (.cells #[Value.int .i64 0, .slice none 0 0, .int .i64 0] 25 (0, 0)) := (hgrow.block pb lpb (by simp; omega)).trans hpb
  have hg : pb ≠ g := by
    rintro rfl
    rcases hown.2 with ⟨hv, _⟩ | ⟨g', c, cur, hv, _, hh, _⟩
    · simp at hv
    · simp only [Value.slice.injEq, Option.some.injEq, Addr.mk.injEq, and_true, true_and] at hv
      obtain ⟨rfl, rfl⟩ := hv
      rw [h1] at hh
      simp at hh
  have c1 : ∀ i, w1.cell? ⟨pb, i, none⟩ = #[Value.int .i64 0, .slice none 0 0, .int .i64 0][i]? := fun i => by simp [World.cell?, h1]
  have f1 : ∀ i, w1.frozen? ⟨pb, i, none⟩ = false := fun i => by simp [World.frozen?, h1]
  have lg := (hown.lt g rfl)
  have so : ∀ b i, b ≠ pb → (((w1.setCell ⟨pb, 0, none⟩ (.int .i64 pc)).setCell ⟨pb, 1, none⟩ (.slice (some ⟨g, 0, none⟩) xs.length cap')).setCell ⟨pb, 2, none⟩ (.int .i64 halt)).cell? ⟨b, i, none⟩ = w1.cell? ⟨b, i, none⟩ := fun b i hb => by
    rw [cell_set_off (by omega), cell_set_off (by omega), cell_set_off (by omega)]
  refine head_mk (fun i => ?_) (fun i => by simpa using f1 i) ?_ hg lp (fun i => ?_) (fun i => ?_) (fun i => ?_) ?_
  · match i with
    | 0 => rw [cell_set_off (by omega), cell_set_off (by omega), cell_set_same (c1 0)]; rfl
    | 1 => rw [cell_set_off (by omega), cell_set_same ((cell_set_off (by omega)).trans (c1 1))]; rfl
    | 2 => rw [cell_set_same ((cell_set_off (by omega)).trans ((cell_set_off (by omega)).trans (c1 2)))]; rfl
    | i + 3 => rw [cell_set_off (by omega), cell_set_off (by omega), cell_set_off (by omega), c1]; simp
  · obtain ⟨q1, q2⟩ := hown
    refine ⟨q1, q2.imp id ?_⟩
    rintro ⟨g', c, cur, hv, hg', hh, r⟩
    refine ⟨g', c, cur, hv, hg', ?_, r⟩
    have e : g' = g := by
      simp only [Value.slice.injEq, Option.some.injEq, Addr.mk.injEq, and_true, true_and] at hv
      exact hv.1.symm
    subst e
    rw [Below.heap_setCell _ _ _ _ (by simp; omega), Below.heap_setCell _ _ _ _ (by simp; omega), Below.heap_setCell _ _ _ _ (by simp; omega)]
    exact hh
  · rw [so _ _ (by omega)]
    exact (hgrow.cell_far _ (by show w.heap.size < _; omega) (by simp; omega)).trans (box i)
  · rw [so _ _ (by omega)]
    exact (hgrow.cell_far _ (by show w.heap.size + 1 < _; omega) (by simp; omega)).trans (res i)
  · have := (hgrow.frozen_far ⟨w.heap.size + 1, i, none⟩ (by show w.heap.size + 1 < _; omega) (by simp; omega)).trans (fres i)
    simpa using this
  · exact (((hb.grown hgrow (by omega) (fun k e => by cases e; omega)).setCell (by show w.heap.size ≤ pb; omega) _).setCell (by show w.heap.size ≤ pb; omega) _).setCell (by show w.heap.size ≤ pb; omega) _
theorem Head.fresh {w wc : World} {pb g cap : Nat} {pc : Int} {v : Value} {xs : List Int} {halt : Int} (h : Head w wc pb g cap pc v xs halt) : Fresh wc (w.heap.size + 2) (.slice (some ⟨g, 0, none⟩) xs.length cap) xs :=
  ⟨h.st.i32s h.lk, fun _ => ⟨g, cap, rfl, h.lg, h.lgb, h.st.fm⟩⟩
theorem rnext_yes (pc : Nat) (a : Option Addr) (n k : Nat) (l : List Ins) (v : Value) (i : Ins) (w : World) (hs : rightSt pc n 0 = true) (hc : InsS w v l) (hl : l.length ≤ 300) (hi : nextP l pc n = some i) :
    Calls Tryd.prog 27 #[v, .agg #[.int .i64 pc, .slice a n k, .int .i64 0]] w fun e w' => e = .returned (.tuple #[.agg #[.int .i64 i.o, .int .i64 i.a, .int .i64 i.b, .int .i64 i.c], .bool true]) ∧ Below w.heap.size w w' := by
  unfold nextP at hi
  simp only [Int.toNat_natCast] at hi
  split at hi
  · cases hi
  · rename_i i' hi'
    obtain ⟨hlt, rfl⟩ := List.getElem?_eq_some_iff.1 hi'
    split at hi
    · rename_i hr
      obtain rfl := Option.some.inj hi
      obtain ⟨a', cap, rfl, hk⟩ := hc
      obtain ⟨b, off, rfl, lb, hat⟩ := hk (by omega)
      refine (rnext_in pc b off l cap _ _ _ w hs hl hlt lb hat).mono ?_
      rintro e w' ⟨rfl, hb⟩
      rw [hr, if_pos rfl]
      exact ⟨rfl, hb⟩
    · cases hi
theorem rnext_no (pc : Nat) (a : Option Addr) (n k : Nat) (l : List Ins) (v : Value) (w : World) (hs : rightSt pc n 0 = true) (hc : InsS w v l) (hl : l.length ≤ 300) (hi : nextP l pc n = none) :
    Calls Tryd.prog 27 #[v, .agg #[.int .i64 pc, .slice a n k, .int .i64 0]] w fun e w' => e = .returned (.tuple #[zeroI, .bool false]) ∧ Below w.heap.size w w' := by
  unfold nextP at hi
  simp only [Int.toNat_natCast] at hi
  obtain ⟨a', cap, rfl, hk⟩ := hc
  split at hi
  · rename_i hn
    have : l.length ≤ pc := by simpa using hn
    exact rnext_out pc a' l cap _ _ _ w hs hl (by omega)
  · rename_i i' hi'
    obtain ⟨hlt, rfl⟩ := List.getElem?_eq_some_iff.1 hi'
    split at hi
    · cases hi
    · rename_i hr
      obtain ⟨b, off, rfl, lb, hat⟩ := hk (by omega)
      refine (rnext_in pc b off l cap _ _ _ w hs hl hlt lb hat).mono ?_
      rintro e w' ⟨rfl, hb⟩
      simp only [Bool.not_eq_true] at hr
      rw [hr]
      exact ⟨rfl, hb⟩
end Go.Proofs.YteecpkkgjioplaaDoor

/- baizeref15.Step: states that don't go on. -/
namespace Go.Proofs.YteecpkkgjioplaaDoor
open Go.RowKit Go

set_option linter.unusedSimpArgs false in
set_option maxRecDepth 100000 in
set_option maxHeartbeats 2000000 in
theorem rstep_bad (pc halt : Int) (ad : Addr) (cap : Nat) (xs : List Int) (cv : Value) (w : World) (h : I32s w (.slice (some ad) xs.length cap) xs) (hl : xs.length ≤ 300) (hbad : rightSt pc xs.length halt = false ∨ ¬ halt = 0) :
    Calls Tryd.prog 17 #[cv, .agg #[.int .i64 pc, .slice (some ad) xs.length cap, .int .i64 halt]] w fun e w' => StPost w (pc, xs, halt) e w' := by
  obtain ⟨i0, hi, hz0, hz1, hz2⟩ := info_parts info21
  have hlen : (xs.map (Value.int .i32)).length = xs.length * 1 := by simp
  have hml : 0 + xs.length ≤ maxLen := by unfold maxLen; omega
  have hby : (0 + xs.length) * 4 ≤ 140737488355328 := by omega
  have Hn := Lib.hid h
  have Hbad := Lib.hid hbad
  clear h hbad
  go_enter Tryd.func17, Tryd.ntmps17
  go_upto_region 1 with (fail)
  go_cut [5] (fun v5 wc => ∃ pb g cap', v5 = .pointer (some ⟨pb, 0, none⟩) ∧ Head w wc pb g cap' pc (.slice (some ad) xs.length cap) xs halt)
  case first =>
    refine wp_region_held_drew (S := fun w' => w'.cell? ⟨w.heap.size, 0, none⟩ = some (.int .i64 pc) ∧ w'.cell? ⟨w.heap.size, 1, none⟩ = some (.slice (some ad) xs.length cap) ∧ w'.cell? ⟨w.heap.size, 2, none⟩ = some (.int .i64 halt)) (by kernel_rfl) (by refine ⟨?_, ?_, ?_⟩ <;> go_simp) (fun hHeld => ?_)
    refine hd_take (i := 0) (some 9) (v := ?v0) rfl rfl (by kernel_rfl) (by kernel_rfl) (by kernel_rfl) (fun _ _ _ h => h) (by rfl) ?h0 (by assumption) ?r0
    case h0 =>
      intro w hSw
      (try dsimp only at hSw)
      go_simp
      (try with_reducible rfl)
    try simp only [Act.put, List.setIfInBounds_toArray, List.set_cons_zero, List.set_cons_succ]
    refine hd_take (i := 1) (some 10) (v := ?v1) rfl rfl (by kernel_rfl) (by kernel_rfl) (by kernel_rfl) (fun _ _ _ h => h) (by rfl) ?h1 (by assumption) ?r1
    case h1 =>
      intro w hSw
      (try dsimp only at hSw)
      go_simp
      (try with_reducible rfl)
    try simp only [Act.put, List.setIfInBounds_toArray, List.set_cons_zero, List.set_cons_succ]
    refine hd_take (i := 3) (some 12) (v := ?v3) rfl rfl (by kernel_rfl) (by kernel_rfl) (by kernel_rfl) (fun _ _ _ h => h) (by rfl) ?h3 (by assumption) ?r3
    case h3 =>
      intro w hSw
      (try dsimp only at hSw)
      go_simp
      (try with_reducible rfl)
    try simp only [Act.put, List.setIfInBounds_toArray, List.set_cons_zero, List.set_cons_succ]
    refine hd_take (i := 4) (some 13) (v := ?v4) rfl rfl (by kernel_rfl) (by kernel_rfl) (by kernel_rfl) (fun _ _ _ h => h) (by rfl) ?h4 (by assumption) ?r4
    case h4 =>
      intro w hSw
      (try dsimp only at hSw)
      go_simp
      (try with_reducible rfl)
    try simp only [Act.put, List.setIfInBounds_toArray, List.set_cons_zero, List.set_cons_succ]
    refine hd_take (i := 6) (some 15) (v := ?v6) rfl rfl (by kernel_rfl) (by kernel_rfl) (by kernel_rfl) (fun _ _ _ h => h) (by rfl) ?h6 (by assumption) ?r6
    case h6 =>
      intro w hSw
      (try dsimp only at hSw)
      go_simp
      (try with_reducible rfl)
    try simp only [Act.put, List.setIfInBounds_toArray, List.set_cons_zero, List.set_cons_succ]
    refine hd_take (i := 7) (some 16) (v := ?v7) rfl rfl (by kernel_rfl) (by kernel_rfl) (by kernel_rfl) (fun _ _ _ h => h) (by rfl) ?h7 (by assumption) ?r7
    case h7 =>
      intro w hSw
      (try dsimp only at hSw)
      go_simp
      (try with_reducible rfl)
    try simp only [Act.put, List.setIfInBounds_toArray, List.set_cons_zero, List.set_cons_succ]
    refine wpAnyH_ready (rs := [2, 9]) (by kernel_rfl) (by simp) ?_
    refine AllReadyH.cons rfl (fun K hK => ?_) (AllReadyH.cons rfl (fun K hK => ?_) AllReadyH.nil)
    · go_simp
      refine hK.out _ _ (by refine ⟨?_, ?_, ?_⟩ <;> go_simp) (fun hH2 => ?_)
      clear hK K
      refine wpAnyH_ready (rs := [5, 9]) (by kernel_rfl) (by simp) ?_
      refine AllReadyH.cons rfl (fun K hK => ?_) (AllReadyH.cons rfl (fun K hK => ?_) AllReadyH.nil)
      · refine step_append_made _ (by rfl) _ _ _ (by rfl) (w.heap.size + 2) 21 i0 _ 1 4 Tryd.underlying23 hi hz0 hz1 hz2 rfl (by omega) ⟨w.heap.size + 2, 0, none⟩ 0 0 [] (by rfl) (by first | exact ownsRow_empty _ _ (by simp) (by omega) | exact ownsRow_empty2 _ _ _ (by simp) (by omega)) ad xs.length cap (xs.map (Value.int .i32)) (by rfl) hlen (Hn.out.news' (by repeat (first | exact Below.refl _ _ | exact Nat.le_refl _ | apply Below.drew | (refine Below.alloc ?_ (by simp <;> omega) _)))) (one_i32 xs) hml hby (by simp <;> omega) ?_
        intro g cap' w1 hown hgrow
        refine hK.out _ _ (by refine ⟨?_, ?_, ?_⟩ <;> (rw [hgrow.cell_far _ (by simp <;> omega) (by simp <;> omega)]; go_simp)) (fun hH5 => ?_)
        clear hK K
        try simp only [Act.put, List.setIfInBounds_toArray, List.set_cons_zero, List.set_cons_succ]
        rw [Nat.zero_add, List.nil_append] at hown
        rw [Nat.zero_add]
        have hs1 := hgrow.size
        simp at hs1
        refine hd_take (i := 8) (some 17) (v := ?v8x1) rfl rfl (by kernel_rfl) (by kernel_rfl) (by kernel_rfl) (fun _ _ _ h => h) (by rfl) ?h8x1 (by assumption) ?r8x1
        case h8x1 =>
          intro w hSw
          (try dsimp only at hSw)
          go_simp
          (try with_reducible rfl)
        try simp only [Act.put, List.setIfInBounds_toArray, List.set_cons_zero, List.set_cons_succ]
        refine wpAnyH_ready (rs := [9]) (by kernel_rfl) (by simp) ?_
        refine AllReadyH.cons rfl (fun K hK => ?_) AllReadyH.nil
        go_simp
        refine hK.out _ _ (by refine ⟨?_, ?_, ?_⟩ <;> (rw [World.cell?_alloc_past _ _ _ (by omega)]; first | exact hH5.1 | exact hH5.2.1 | exact hH5.2.2)) (fun hH9 => ?_)
        clear hK K
        refine wpAnyH_ready (rs := [10]) (by kernel_rfl) (by simp) ?_
        refine AllReadyH.cons rfl (fun K hK => ?_) AllReadyH.nil
        go_simp
        refine hK.out _ _ (by refine ⟨?_, ?_, ?_⟩ <;> (rw [World.cell?_alloc_past _ _ _ (by omega)]; first | exact hH5.1 | exact hH5.2.1 | exact hH5.2.2)) (fun hH10 => ?_)
        clear hK K
        refine wpAnyH_done (by kernel_rfl) ?_ _
        go_wp2_with fail
        go_meet
        case rel => exact ⟨_, g, cap', rfl, head_new w _ w1 g cap' pc (.slice (some ad) xs.length cap) xs halt hown hgrow (by repeat (first | exact Below.refl _ _ | exact Nat.le_refl _ | apply Below.drew | (refine Below.alloc ?_ (by simp <;> omega) _))) (by simp <;> omega) (by simp <;> omega) (fun i => by go_simp) (fun i => by go_simp) (fun i => by go_simp)⟩
      · go_simp
        refine hK.out _ _ (by refine ⟨?_, ?_, ?_⟩ <;> go_simp) (fun hH9 => ?_)
        clear hK K
        refine wpAnyH_ready (rs := [5]) (by kernel_rfl) (by simp) ?_
        refine AllReadyH.cons rfl (fun K hK => ?_) AllReadyH.nil
        refine step_append_made _ (by rfl) _ _ _ (by rfl) (w.heap.size + 2) 21 i0 _ 1 4 Tryd.underlying23 hi hz0 hz1 hz2 rfl (by omega) ⟨w.heap.size + 2, 0, none⟩ 0 0 [] (by rfl) (by first | exact ownsRow_empty _ _ (by simp) (by omega) | exact ownsRow_empty2 _ _ _ (by simp) (by omega)) ad xs.length cap (xs.map (Value.int .i32)) (by rfl) hlen (Hn.out.news' (by repeat (first | exact Below.refl _ _ | exact Nat.le_refl _ | apply Below.drew | (refine Below.alloc ?_ (by simp <;> omega) _)))) (one_i32 xs) hml hby (by simp <;> omega) ?_
        intro g cap' w1 hown hgrow
        refine hK.out _ _ (by refine ⟨?_, ?_, ?_⟩ <;> (rw [hgrow.cell_far _ (by simp <;> omega) (by simp <;> omega)]; go_simp)) (fun hH5 => ?_)
        clear hK K
        try simp only [Act.put, List.setIfInBounds_toArray, List.set_cons_zero, List.set_cons_succ]
        rw [Nat.zero_add, List.nil_append] at hown
        rw [Nat.zero_add]
        have hs1 := hgrow.size
        simp at hs1
        have o0 : ∀ i, w1.cell? ⟨w.heap.size + 3, i, none⟩ = #[Value.int .i64 0, .slice none 0 0, .int .i64 0][i]? := fun i => (hgrow.cell_far _ (by simp <;> omega) (by simp <;> omega)).trans (by go_simp)
        have of : ∀ i, w1.frozen? ⟨w.heap.size + 3, i, none⟩ = false := fun i => (hgrow.frozen_far _ (by simp <;> omega) (by simp <;> omega)).trans (by go_simp)
        refine hd_take (i := 8) (some 17) (v := ?v8x2) rfl rfl (by kernel_rfl) (by kernel_rfl) (by kernel_rfl) (fun _ _ _ h => h) (by rfl) ?h8x2 (by assumption) ?r8x2
        case h8x2 =>
          intro w hSw
          (try dsimp only at hSw)
          go_simp
          (try with_reducible rfl)
        try simp only [Act.put, List.setIfInBounds_toArray, List.set_cons_zero, List.set_cons_succ]
        refine wpAnyH_ready (rs := [10]) (by kernel_rfl) (by simp) ?_
        refine AllReadyH.cons rfl (fun K hK => ?_) AllReadyH.nil
        go_simp
        refine hK.out _ _ (by refine ⟨?_, ?_, ?_⟩ <;> (rw [World.cell?_setCell_far _ _ _ _ (by simp <;> omega), World.cell?_setCell_far _ _ _ _ (by simp <;> omega), World.cell?_setCell_far _ _ _ _ (by simp <;> omega)]; first | exact hH5.1 | exact hH5.2.1 | exact hH5.2.2)) (fun hH10 => ?_)
        clear hK K
        refine wpAnyH_done (by kernel_rfl) ?_ _
        go_wp2_with fail
        go_meet
        case rel => exact ⟨_, g, cap', rfl, head_old w _ w1 _ _ g cap' pc (.slice (some ad) xs.length cap) xs halt hown hgrow (by repeat (first | exact Below.refl _ _ | exact Nat.le_refl _ | apply Below.drew | (refine Below.alloc ?_ (by simp <;> omega) _))) (by simp <;> omega) (by simp <;> omega) (by simp <;> omega) (by simp <;> omega) (by simp <;> omega) (fun i => by go_simp) (fun i => by go_simp) (fun i => by go_simp) (by first | exact heap_at1 _ _ _ (by simp) | exact heap_at2 _ _ _ _ (by simp))⟩
    · go_simp
      refine hK.out _ _ (by refine ⟨?_, ?_, ?_⟩ <;> go_simp) (fun hH9 => ?_)
      clear hK K
      refine wpAnyH_ready (rs := [2]) (by kernel_rfl) (by simp) ?_
      refine AllReadyH.cons rfl (fun K hK => ?_) AllReadyH.nil
      go_simp
      refine hK.out _ _ (by refine ⟨?_, ?_, ?_⟩ <;> go_simp) (fun hH2 => ?_)
      clear hK K
      refine wpAnyH_ready (rs := [5]) (by kernel_rfl) (by simp) ?_
      refine AllReadyH.cons rfl (fun K hK => ?_) AllReadyH.nil
      refine step_append_made _ (by rfl) _ _ _ (by rfl) (w.heap.size + 2) 21 i0 _ 1 4 Tryd.underlying23 hi hz0 hz1 hz2 rfl (by omega) ⟨w.heap.size + 3, 0, none⟩ 0 0 [] (by rfl) (by first | exact ownsRow_empty _ _ (by simp) (by omega) | exact ownsRow_empty2 _ _ _ (by simp) (by omega)) ad xs.length cap (xs.map (Value.int .i32)) (by rfl) hlen (Hn.out.news' (by repeat (first | exact Below.refl _ _ | exact Nat.le_refl _ | apply Below.drew | (refine Below.alloc ?_ (by simp <;> omega) _)))) (one_i32 xs) hml hby (by simp <;> omega) ?_
      intro g cap' w1 hown hgrow
      refine hK.out _ _ (by refine ⟨?_, ?_, ?_⟩ <;> (rw [hgrow.cell_far _ (by simp <;> omega) (by simp <;> omega)]; go_simp)) (fun hH5 => ?_)
      clear hK K
      try simp only [Act.put, List.setIfInBounds_toArray, List.set_cons_zero, List.set_cons_succ]
      rw [Nat.zero_add, List.nil_append] at hown
      rw [Nat.zero_add]
      have hs1 := hgrow.size
      simp at hs1
      have o0 : ∀ i, w1.cell? ⟨w.heap.size + 2, i, none⟩ = #[Value.int .i64 0, .slice none 0 0, .int .i64 0][i]? := fun i => (hgrow.cell_far _ (by simp <;> omega) (by simp <;> omega)).trans (by go_simp)
      have of : ∀ i, w1.frozen? ⟨w.heap.size + 2, i, none⟩ = false := fun i => (hgrow.frozen_far _ (by simp <;> omega) (by simp <;> omega)).trans (by go_simp)
      refine hd_take (i := 8) (some 17) (v := ?v8x3) rfl rfl (by kernel_rfl) (by kernel_rfl) (by kernel_rfl) (fun _ _ _ h => h) (by rfl) ?h8x3 (by assumption) ?r8x3
      case h8x3 =>
        intro w hSw
        (try dsimp only at hSw)
        go_simp
        (try with_reducible rfl)
      try simp only [Act.put, List.setIfInBounds_toArray, List.set_cons_zero, List.set_cons_succ]
      refine wpAnyH_ready (rs := [10]) (by kernel_rfl) (by simp) ?_
      refine AllReadyH.cons rfl (fun K hK => ?_) AllReadyH.nil
      go_simp
      refine hK.out _ _ (by refine ⟨?_, ?_, ?_⟩ <;> (rw [World.cell?_setCell_far _ _ _ _ (by simp <;> omega), World.cell?_setCell_far _ _ _ _ (by simp <;> omega), World.cell?_setCell_far _ _ _ _ (by simp <;> omega)]; first | exact hH5.1 | exact hH5.2.1 | exact hH5.2.2)) (fun hH10 => ?_)
      clear hK K
      refine wpAnyH_done (by kernel_rfl) ?_ _
      go_wp2_with fail
      go_meet
      case rel => exact ⟨_, g, cap', rfl, head_old w _ w1 _ _ g cap' pc (.slice (some ad) xs.length cap) xs halt hown hgrow (by repeat (first | exact Below.refl _ _ | exact Nat.le_refl _ | apply Below.drew | (refine Below.alloc ?_ (by simp <;> omega) _))) (by simp <;> omega) (by simp <;> omega) (by simp <;> omega) (by simp <;> omega) (by simp <;> omega) (fun i => by go_simp) (fun i => by go_simp) (fun i => by go_simp) (by first | exact heap_at1 _ _ _ (by simp) | exact heap_at2 _ _ _ _ (by simp))⟩
  case rest =>
    obtain ⟨pb, g, cap', rfl, hH⟩ := hcut
    have HH := Lib.hid hH
    have bx := hH.box
    have rs := hH.res
    have fr := hH.fres
    have p0 := hH.st.st.c0
    have p1 := hH.st.st.c1
    have p2 := hH.st.st.c2
    clear hH
    go_wp2_with fail
    refine (rright_any pc halt _ _ _ _).mono ?_
    rintro e w1 ⟨rfl, hb1⟩
    have hs0 := HH.out.below.size
    have hpb := HH.out.lpb
    have bx1 : ∀ i, w1.cell? ⟨w.heap.size, i, none⟩ = #[Value.int .i64 pc, .slice (some ad) xs.length cap, .int .i64 halt][i]? := fun i => (hb1.cell (p := ⟨w.heap.size, i, none⟩) (by have := HH.out.lp; show w.heap.size < _; omega)).trans (bx i)
    have rs1 : ∀ i, w1.cell? ⟨w.heap.size + 1, i, none⟩ = #[Value.int .i64 0, .slice none 0 0, .int .i64 0][i]? := fun i => (hb1.cell (p := ⟨w.heap.size + 1, i, none⟩) (by have := HH.out.lp; show w.heap.size + 1 < _; omega)).trans (rs i)
    have fr1 : ∀ i, w1.frozen? ⟨w.heap.size + 1, i, none⟩ = false := fun i => (hb1.frozen (p := ⟨w.heap.size + 1, i, none⟩) (by have := HH.out.lp; show w.heap.size + 1 < _; omega)).trans (fr i)
    have q0 : w1.cell? ⟨pb, 0, none⟩ = some (.int .i64 pc) := (hb1.cell (p := ⟨pb, 0, none⟩) hpb).trans p0
    have q1 : w1.cell? ⟨pb, 1, none⟩ = some (.slice (some ⟨g, 0, none⟩) xs.length cap') := (hb1.cell (p := ⟨pb, 1, none⟩) hpb).trans p1
    have q2 : w1.cell? ⟨pb, 2, none⟩ = some (.int .i64 halt) := (hb1.cell (p := ⟨pb, 2, none⟩) hpb).trans p2
    have HB1 := Lib.hid hb1
    clear bx rs fr p0 p1 p2 hb1 hs0 hpb
    cases hr : rightSt pc xs.length halt
    · clear hr
      go_wp2
      refine bodyPost_ret (v := .agg #[.int .i64 pc, .slice (some ⟨g, 0, none⟩) xs.length cap', .int .i64 halt]) (by simp [results, Tryd.results17, go_sem, *]) rfl ?_
      refine ⟨_, rfl, ?_, ?_⟩
      · exact (((((HH.out.fresh.below HB1.out).setOther (by simp) _).setOther (by simp) _).setOther (by simp) _)).mono (by omega)
      · exact (((HH.out.below.trans (HB1.out.mono (by have := HH.out.below.size; omega))).setCell (by simp) _).setCell (by simp) _).setCell (by simp) _
    · have hh : (halt != 0) = true := by
        rcases Hbad.out with h | h
        · rw [hr] at h; cases h
        · simpa using h
      clear hr
      go_wp2
      refine bodyPost_ret (v := .agg #[.int .i64 pc, .slice (some ⟨g, 0, none⟩) xs.length cap', .int .i64 halt]) (by simp [results, Tryd.results17, go_sem, *]) rfl ?_
      refine ⟨_, rfl, ?_, ?_⟩
      · exact (((((HH.out.fresh.below HB1.out).setOther (by simp) _).setOther (by simp) _).setOther (by simp) _)).mono (by omega)
      · exact (((HH.out.below.trans (HB1.out.mono (by have := HH.out.below.size; omega))).setCell (by simp) _).setCell (by simp) _).setCell (by simp) _
end Go.Proofs.YteecpkkgjioplaaDoor

/- baizeref15.Step: no instruction. -/
namespace Go.Proofs.YteecpkkgjioplaaDoor
open Go.RowKit Go

set_option linter.unusedSimpArgs false in
set_option maxRecDepth 100000 in
set_option maxHeartbeats 2000000 in
theorem rstep_none (pc : Nat) (ad : Addr) (cap : Nat) (xs : List Int) (cv : Value) (l : List Ins) (w : World) (h : I32s w (.slice (some ad) xs.length cap) xs) (hl : xs.length ≤ 300) (hr : rightSt pc xs.length 0 = true) (hc : InsS w cv l) (hll : l.length ≤ 300) (hi' : nextP l pc xs.length = none) :
    Calls Tryd.prog 17 #[cv, .agg #[.int .i64 pc, .slice (some ad) xs.length cap, .int .i64 0]] w fun e w' => StPost w (pc, xs, 2) e w' := by
  obtain ⟨i0, hi, hz0, hz1, hz2⟩ := info_parts info21
  have hlen : (xs.map (Value.int .i32)).length = xs.length * 1 := by simp
  have hml : 0 + xs.length ≤ maxLen := by unfold maxLen; omega
  have hby : (0 + xs.length) * 4 ≤ 140737488355328 := by omega
  have Hn := Lib.hid h
  have Hr := Lib.hid hr
  have Hc := Lib.hid hc
  have Hi := Lib.hid hi'
  clear h hr hc hi'
  go_enter Tryd.func17, Tryd.ntmps17
  go_upto_region 1 with (fail)
  go_cut [5] (fun v5 wc => ∃ pb g cap', v5 = .pointer (some ⟨pb, 0, none⟩) ∧ Head w wc pb g cap' pc (.slice (some ad) xs.length cap) xs 0)
  case first =>
    refine wp_region_held_drew (S := fun w' => w'.cell? ⟨w.heap.size, 0, none⟩ = some (.int .i64 pc) ∧ w'.cell? ⟨w.heap.size, 1, none⟩ = some (.slice (some ad) xs.length cap) ∧ w'.cell? ⟨w.heap.size, 2, none⟩ = some (.int .i64 0)) (by kernel_rfl) (by refine ⟨?_, ?_, ?_⟩ <;> go_simp) (fun hHeld => ?_)
    refine hd_take (i := 0) (some 9) (v := ?v0) rfl rfl (by kernel_rfl) (by kernel_rfl) (by kernel_rfl) (fun _ _ _ h => h) (by rfl) ?h0 (by assumption) ?r0
    case h0 =>
      intro w hSw
      (try dsimp only at hSw)
      go_simp
      (try with_reducible rfl)
    try simp only [Act.put, List.setIfInBounds_toArray, List.set_cons_zero, List.set_cons_succ]
    refine hd_take (i := 1) (some 10) (v := ?v1) rfl rfl (by kernel_rfl) (by kernel_rfl) (by kernel_rfl) (fun _ _ _ h => h) (by rfl) ?h1 (by assumption) ?r1
    case h1 =>
      intro w hSw
      (try dsimp only at hSw)
      go_simp
      (try with_reducible rfl)
    try simp only [Act.put, List.setIfInBounds_toArray, List.set_cons_zero, List.set_cons_succ]
    refine hd_take (i := 3) (some 12) (v := ?v3) rfl rfl (by kernel_rfl) (by kernel_rfl) (by kernel_rfl) (fun _ _ _ h => h) (by rfl) ?h3 (by assumption) ?r3
    case h3 =>
      intro w hSw
      (try dsimp only at hSw)
      go_simp
      (try with_reducible rfl)
    try simp only [Act.put, List.setIfInBounds_toArray, List.set_cons_zero, List.set_cons_succ]
    refine hd_take (i := 4) (some 13) (v := ?v4) rfl rfl (by kernel_rfl) (by kernel_rfl) (by kernel_rfl) (fun _ _ _ h => h) (by rfl) ?h4 (by assumption) ?r4
    case h4 =>
      intro w hSw
      (try dsimp only at hSw)
      go_simp
      (try with_reducible rfl)
    try simp only [Act.put, List.setIfInBounds_toArray, List.set_cons_zero, List.set_cons_succ]
    refine hd_take (i := 6) (some 15) (v := ?v6) rfl rfl (by kernel_rfl) (by kernel_rfl) (by kernel_rfl) (fun _ _ _ h => h) (by rfl) ?h6 (by assumption) ?r6
    case h6 =>
      intro w hSw
      (try dsimp only at hSw)
      go_simp
      (try with_reducible rfl)
    try simp only [Act.put, List.setIfInBounds_toArray, List.set_cons_zero, List.set_cons_succ]
    refine hd_take (i := 7) (some 16) (v := ?v7) rfl rfl (by kernel_rfl) (by kernel_rfl) (by kernel_rfl) (fun _ _ _ h => h) (by rfl) ?h7 (by assumption) ?r7
    case h7 =>
      intro w hSw
      (try dsimp only at hSw)
      go_simp
      (try with_reducible rfl)
    try simp only [Act.put, List.setIfInBounds_toArray, List.set_cons_zero, List.set_cons_succ]
    refine wpAnyH_ready (rs := [2, 9]) (by kernel_rfl) (by simp) ?_
    refine AllReadyH.cons rfl (fun K hK => ?_) (AllReadyH.cons rfl (fun K hK => ?_) AllReadyH.nil)
    · go_simp
      refine hK.out _ _ (by refine ⟨?_, ?_, ?_⟩ <;> go_simp) (fun hH2 => ?_)
      clear hK K
      refine wpAnyH_ready (rs := [5, 9]) (by kernel_rfl) (by simp) ?_
      refine AllReadyH.cons rfl (fun K hK => ?_) (AllReadyH.cons rfl (fun K hK => ?_) AllReadyH.nil)
      · refine step_append_made _ (by rfl) _ _ _ (by rfl) (w.heap.size + 2) 21 i0 _ 1 4 Tryd.underlying23 hi hz0 hz1 hz2 rfl (by omega) ⟨w.heap.size + 2, 0, none⟩ 0 0 [] (by rfl) (by first | exact ownsRow_empty _ _ (by simp) (by omega) | exact ownsRow_empty2 _ _ _ (by simp) (by omega)) ad xs.length cap (xs.map (Value.int .i32)) (by rfl) hlen (Hn.out.news' (by repeat (first | exact Below.refl _ _ | exact Nat.le_refl _ | apply Below.drew | (refine Below.alloc ?_ (by simp <;> omega) _)))) (one_i32 xs) hml hby (by simp <;> omega) ?_
        intro g cap' w1 hown hgrow
        refine hK.out _ _ (by refine ⟨?_, ?_, ?_⟩ <;> (rw [hgrow.cell_far _ (by simp <;> omega) (by simp <;> omega)]; go_simp)) (fun hH5 => ?_)
        clear hK K
        try simp only [Act.put, List.setIfInBounds_toArray, List.set_cons_zero, List.set_cons_succ]
        rw [Nat.zero_add, List.nil_append] at hown
        rw [Nat.zero_add]
        have hs1 := hgrow.size
        simp at hs1
        refine hd_take (i := 8) (some 17) (v := ?v8x1) rfl rfl (by kernel_rfl) (by kernel_rfl) (by kernel_rfl) (fun _ _ _ h => h) (by rfl) ?h8x1 (by assumption) ?r8x1
        case h8x1 =>
          intro w hSw
          (try dsimp only at hSw)
          go_simp
          (try with_reducible rfl)
        try simp only [Act.put, List.setIfInBounds_toArray, List.set_cons_zero, List.set_cons_succ]
        refine wpAnyH_ready (rs := [9]) (by kernel_rfl) (by simp) ?_
        refine AllReadyH.cons rfl (fun K hK => ?_) AllReadyH.nil
        go_simp
        refine hK.out _ _ (by refine ⟨?_, ?_, ?_⟩ <;> (rw [World.cell?_alloc_past _ _ _ (by omega)]; first | exact hH5.1 | exact hH5.2.1 | exact hH5.2.2)) (fun hH9 => ?_)
        clear hK K
        refine wpAnyH_ready (rs := [10]) (by kernel_rfl) (by simp) ?_
        refine AllReadyH.cons rfl (fun K hK => ?_) AllReadyH.nil
        go_simp
        refine hK.out _ _ (by refine ⟨?_, ?_, ?_⟩ <;> (rw [World.cell?_alloc_past _ _ _ (by omega)]; first | exact hH5.1 | exact hH5.2.1 | exact hH5.2.2)) (fun hH10 => ?_)
        clear hK K
        refine wpAnyH_done (by kernel_rfl) ?_ _
        go_wp2_with fail
        go_meet
        case rel => exact ⟨_, g, cap', rfl, head_new w _ w1 g cap' pc (.slice (some ad) xs.length cap) xs 0 hown hgrow (by repeat (first | exact Below.refl _ _ | exact Nat.le_refl _ | apply Below.drew | (refine Below.alloc ?_ (by simp <;> omega) _))) (by simp <;> omega) (by simp <;> omega) (fun i => by go_simp) (fun i => by go_simp) (fun i => by go_simp)⟩
      · go_simp
        refine hK.out _ _ (by refine ⟨?_, ?_, ?_⟩ <;> go_simp) (fun hH9 => ?_)
        clear hK K
        refine wpAnyH_ready (rs := [5]) (by kernel_rfl) (by simp) ?_
        refine AllReadyH.cons rfl (fun K hK => ?_) AllReadyH.nil
        refine step_append_made _ (by rfl) _ _ _ (by rfl) (w.heap.size + 2) 21 i0 _ 1 4 Tryd.underlying23 hi hz0 hz1 hz2 rfl (by omega) ⟨w.heap.size + 2, 0, none⟩ 0 0 [] (by rfl) (by first | exact ownsRow_empty _ _ (by simp) (by omega) | exact ownsRow_empty2 _ _ _ (by simp) (by omega)) ad xs.length cap (xs.map (Value.int .i32)) (by rfl) hlen (Hn.out.news' (by repeat (first | exact Below.refl _ _ | exact Nat.le_refl _ | apply Below.drew | (refine Below.alloc ?_ (by simp <;> omega) _)))) (one_i32 xs) hml hby (by simp <;> omega) ?_
        intro g cap' w1 hown hgrow
        refine hK.out _ _ (by refine ⟨?_, ?_, ?_⟩ <;> (rw [hgrow.cell_far _ (by simp <;> omega) (by simp <;> omega)]; go_simp)) (fun hH5 => ?_)
        clear hK K
        try simp only [Act.put, List.setIfInBounds_toArray, List.set_cons_zero, List.set_cons_succ]
        rw [Nat.zero_add, List.nil_append] at hown
        rw [Nat.zero_add]
        have hs1 := hgrow.size
        simp at hs1
        have o0 : ∀ i, w1.cell? ⟨w.heap.size + 3, i, none⟩ = #[Value.int .i64 0, .slice none 0 0, .int .i64 0][i]? := fun i => (hgrow.cell_far _ (by simp <;> omega) (by simp <;> omega)).trans (by go_simp)
        have of : ∀ i, w1.frozen? ⟨w.heap.size + 3, i, none⟩ = false := fun i => (hgrow.frozen_far _ (by simp <;> omega) (by simp <;> omega)).trans (by go_simp)
        refine hd_take (i := 8) (some 17) (v := ?v8x2) rfl rfl (by kernel_rfl) (by kernel_rfl) (by kernel_rfl) (fun _ _ _ h => h) (by rfl) ?h8x2 (by assumption) ?r8x2
        case h8x2 =>
          intro w hSw
          (try dsimp only at hSw)
          go_simp
          (try with_reducible rfl)
        try simp only [Act.put, List.setIfInBounds_toArray, List.set_cons_zero, List.set_cons_succ]
        refine wpAnyH_ready (rs := [10]) (by kernel_rfl) (by simp) ?_
        refine AllReadyH.cons rfl (fun K hK => ?_) AllReadyH.nil
        go_simp
        refine hK.out _ _ (by refine ⟨?_, ?_, ?_⟩ <;> (rw [World.cell?_setCell_far _ _ _ _ (by simp <;> omega), World.cell?_setCell_far _ _ _ _ (by simp <;> omega), World.cell?_setCell_far _ _ _ _ (by simp <;> omega)]; first | exact hH5.1 | exact hH5.2.1 | exact hH5.2.2)) (fun hH10 => ?_)
        clear hK K
        refine wpAnyH_done (by kernel_rfl) ?_ _
        go_wp2_with fail
        go_meet
        case rel => exact ⟨_, g, cap', rfl, head_old w _ w1 _ _ g cap' pc (.slice (some ad) xs.length cap) xs 0 hown hgrow (by repeat (first | exact Below.refl _ _ | exact Nat.le_refl _ | apply Below.drew | (refine Below.alloc ?_ (by simp <;> omega) _))) (by simp <;> omega) (by simp <;> omega) (by simp <;> omega) (by simp <;> omega) (by simp <;> omega) (fun i => by go_simp) (fun i => by go_simp) (fun i => by go_simp) (by first | exact heap_at1 _ _ _ (by simp) | exact heap_at2 _ _ _ _ (by simp))⟩
    · go_simp
      refine hK.out _ _ (by refine ⟨?_, ?_, ?_⟩ <;> go_simp) (fun hH9 => ?_)
      clear hK K
      refine wpAnyH_ready (rs := [2]) (by kernel_rfl) (by simp) ?_
      refine AllReadyH.cons rfl (fun K hK => ?_) AllReadyH.nil
      go_simp
      refine hK.out _ _ (by refine ⟨?_, ?_, ?_⟩ <;> go_simp) (fun hH2 => ?_)
      clear hK K
      refine wpAnyH_ready (rs := [5]) (by kernel_rfl) (by simp) ?_
      refine AllReadyH.cons rfl (fun K hK => ?_) AllReadyH.nil
      refine step_append_made _ (by rfl) _ _ _ (by rfl) (w.heap.size + 2) 21 i0 _ 1 4 Tryd.underlying23 hi hz0 hz1 hz2 rfl (by omega) ⟨w.heap.size + 3, 0, none⟩ 0 0 [] (by rfl) (by first | exact ownsRow_empty _ _ (by simp) (by omega) | exact ownsRow_empty2 _ _ _ (by simp) (by omega)) ad xs.length cap (xs.map (Value.int .i32)) (by rfl) hlen (Hn.out.news' (by repeat (first | exact Below.refl _ _ | exact Nat.le_refl _ | apply Below.drew | (refine Below.alloc ?_ (by simp <;> omega) _)))) (one_i32 xs) hml hby (by simp <;> omega) ?_
      intro g cap' w1 hown hgrow
      refine hK.out _ _ (by refine ⟨?_, ?_, ?_⟩ <;> (rw [hgrow.cell_far _ (by simp <;> omega) (by simp <;> omega)]; go_simp)) (fun hH5 => ?_)
      clear hK K
      try simp only [Act.put, List.setIfInBounds_toArray, List.set_cons_zero, List.set_cons_succ]
      rw [Nat.zero_add, List.nil_append] at hown
      rw [Nat.zero_add]
      have hs1 := hgrow.size
      simp at hs1
      have o0 : ∀ i, w1.cell? ⟨w.heap.size + 2, i, none⟩ = #[Value.int .i64 0, .slice none 0 0, .int .i64 0][i]? := fun i => (hgrow.cell_far _ (by simp <;> omega) (by simp <;> omega)).trans (by go_simp)
      have of : ∀ i, w1.frozen? ⟨w.heap.size + 2, i, none⟩ = false := fun i => (hgrow.frozen_far _ (by simp <;> omega) (by simp <;> omega)).trans (by go_simp)
      refine hd_take (i := 8) (some 17) (v := ?v8x3) rfl rfl (by kernel_rfl) (by kernel_rfl) (by kernel_rfl) (fun _ _ _ h => h) (by rfl) ?h8x3 (by assumption) ?r8x3
      case h8x3 =>
        intro w hSw
        (try dsimp only at hSw)
        go_simp
        (try with_reducible rfl)
      try simp only [Act.put, List.setIfInBounds_toArray, List.set_cons_zero, List.set_cons_succ]
      refine wpAnyH_ready (rs := [10]) (by kernel_rfl) (by simp) ?_
      refine AllReadyH.cons rfl (fun K hK => ?_) AllReadyH.nil
      go_simp
      refine hK.out _ _ (by refine ⟨?_, ?_, ?_⟩ <;> (rw [World.cell?_setCell_far _ _ _ _ (by simp <;> omega), World.cell?_setCell_far _ _ _ _ (by simp <;> omega), World.cell?_setCell_far _ _ _ _ (by simp <;> omega)]; first | exact hH5.1 | exact hH5.2.1 | exact hH5.2.2)) (fun hH10 => ?_)
      clear hK K
      refine wpAnyH_done (by kernel_rfl) ?_ _
      go_wp2_with fail
      go_meet
      case rel => exact ⟨_, g, cap', rfl, head_old w _ w1 _ _ g cap' pc (.slice (some ad) xs.length cap) xs 0 hown hgrow (by repeat (first | exact Below.refl _ _ | exact Nat.le_refl _ | apply Below.drew | (refine Below.alloc ?_ (by simp <;> omega) _))) (by simp <;> omega) (by simp <;> omega) (by simp <;> omega) (by simp <;> omega) (by simp <;> omega) (fun i => by go_simp) (fun i => by go_simp) (fun i => by go_simp) (by first | exact heap_at1 _ _ _ (by simp) | exact heap_at2 _ _ _ _ (by simp))⟩
  case rest =>
    obtain ⟨pb, g, cap', rfl, hH⟩ := hcut
    have HH := Lib.hid hH
    have bx := hH.box
    have rs := hH.res
    have fr := hH.fres
    have p0 := hH.st.st.c0
    have p1 := hH.st.st.c1
    have p2 := hH.st.st.c2
    clear hH
    go_wp2_with fail
    refine (rright_any pc 0 _ _ _ _).mono ?_
    rintro e w1 ⟨rfl, hb1⟩
    have hs0 := HH.out.below.size
    have hpb := HH.out.lpb
    have bx1 : ∀ i, w1.cell? ⟨w.heap.size, i, none⟩ = #[Value.int .i64 pc, .slice (some ad) xs.length cap, .int .i64 0][i]? := fun i => (hb1.cell (p := ⟨w.heap.size, i, none⟩) (by have := HH.out.lp; show w.heap.size < _; omega)).trans (bx i)
    have rs1 : ∀ i, w1.cell? ⟨w.heap.size + 1, i, none⟩ = #[Value.int .i64 0, .slice none 0 0, .int .i64 0][i]? := fun i => (hb1.cell (p := ⟨w.heap.size + 1, i, none⟩) (by have := HH.out.lp; show w.heap.size + 1 < _; omega)).trans (rs i)
    have fr1 : ∀ i, w1.frozen? ⟨w.heap.size + 1, i, none⟩ = false := fun i => (hb1.frozen (p := ⟨w.heap.size + 1, i, none⟩) (by have := HH.out.lp; show w.heap.size + 1 < _; omega)).trans (fr i)
    have q0 : w1.cell? ⟨pb, 0, none⟩ = some (.int .i64 pc) := (hb1.cell (p := ⟨pb, 0, none⟩) hpb).trans p0
    have q1 : w1.cell? ⟨pb, 1, none⟩ = some (.slice (some ⟨g, 0, none⟩) xs.length cap') := (hb1.cell (p := ⟨pb, 1, none⟩) hpb).trans p1
    have q2 : w1.cell? ⟨pb, 2, none⟩ = some (.int .i64 0) := (hb1.cell (p := ⟨pb, 2, none⟩) hpb).trans p2
    have HB1 := Lib.hid hb1
    clear bx rs fr p0 p1 p2 hb1 hs0 hpb
    rw [Hr.out]
    go_wp2_with fail
    refine (rnext_no pc _ _ _ l cv _ Hr.out ((Hc.out.below HH.out.below (Nat.le_refl _)).below HB1.out (Nat.le_refl _)) hll Hi.out).mono ?_
    rintro e w2 ⟨rfl, hb2⟩
    unfold zeroI
    have hs1 := HB1.out.size
    have hs2 := hb2.size
    have hs3 := HH.out.below.size
    have hlp := HH.out.lp
    have hpb := HH.out.lpb
    have rs2 : ∀ i, w2.cell? ⟨w.heap.size + 1, i, none⟩ = #[Value.int .i64 0, .slice none 0 0, .int .i64 0][i]? := fun i => (hb2.cell (p := ⟨w.heap.size + 1, i, none⟩) (by show w.heap.size + 1 < _; omega)).trans (rs1 i)
    have fr2 : ∀ i, w2.frozen? ⟨w.heap.size + 1, i, none⟩ = false := fun i => (hb2.frozen (p := ⟨w.heap.size + 1, i, none⟩) (by show w.heap.size + 1 < _; omega)).trans (fr1 i)
    have HM2 : Hid (MSt w2 pb g cap' pc xs 0) := Lib.hid ((HH.out.st.below (by have := (rightSt_iff.1 Hr.out).1; omega) HB1.out).below (by have := (rightSt_iff.1 Hr.out).1; omega) hb2)
    have q0' := HM2.out.st.c0
    have q1' := HM2.out.st.c1
    have q2' := HM2.out.st.c2
    have zp := HM2.out.fp
    have HB2 : Hid (Below w.heap.size w w2) := Lib.hid ((HH.out.below.trans (HB1.out.mono (by omega))).trans (hb2.mono (by omega)))
    have lr2 : w.heap.size + 1 < w2.heap.size := by omega
    have lp2 : pb < w2.heap.size := by omega
    clear q0 q1 q2 bx1 rs1 fr1 hb2 hs1 hs2 hs3
    go_wp2
    refine bodyPost_ret (v := .agg #[.int .i64 pc, .slice (some ⟨g, 0, none⟩) xs.length cap', .int .i64 2]) (by simp [results, Tryd.results17, go_sem, *]) rfl ?_
    refine ⟨_, rfl, ?_, ?_⟩
    · have hf := (HM2.out.setHalt 2).fresh HH.out.lk (by have := (rightSt_iff.1 Hr.out).1; omega) HH.out.lg
      exact (((((hf.setOther (by simp) _).setOther (by simp) _).setOther (by simp) _).below (below_alloc1 _ _))).mono (by omega)
    · exact ((((HB2.out.setCell (by show w.heap.size ≤ pb; omega) _).setCell (by simp) _).setCell (by simp) _).setCell (by simp) _).alloc (by simp; omega) _
end Go.Proofs.YteecpkkgjioplaaDoor

/- The document's step behind the words that raise the place. -/
namespace Go.Proofs.YteecpkkgjioplaaDoor
open Go.RowKit Go

theorem alloc_at (V : World) (cs : Array Value) (e : TypeId) (i : Nat) : (V.alloc (.cells cs e)).cell? ⟨V.heap.size, i, none⟩ = cs[i]? := by simp
theorem rdy {w w2 W : World} {pb g cap' pc mb mo cap : Nat} {xs : List Int} {o a b c : Int} (HM : MSt w2 pb g cap' pc xs 0) (HB : Below w.heap.size w w2) (hx : 0 < xs.length)
    (bx : ∀ i, w2.cell? ⟨w.heap.size, i, none⟩ = #[Value.int .i64 pc, .slice (some ⟨mb, mo, none⟩) xs.length cap, .int .i64 0][i]?) (rs : ∀ i, w2.cell? ⟨w.heap.size + 1, i, none⟩ = #[Value.int .i64 0, .slice none 0 0, .int .i64 0][i]?)
    (fr : ∀ i, w2.frozen? ⟨w.heap.size + 1, i, none⟩ = false) (mem : ∀ k x, xs[k]? = some x → w2.cell? ⟨mb, mo + k, none⟩ = some (.int .i32 x)) (lm : mb < w.heap.size) (lp : w.heap.size + 2 ≤ pb) (lpb : pb < w2.heap.size) (_lgb : g < w2.heap.size)
    (hW : W = (w2.setCell ⟨pb, 0, none⟩ (.int .i64 (pc + 1))).alloc (.cells #[.int .i64 o, .int .i64 a, .int .i64 b, .int .i64 c] 58)) :
    MSt W pb g cap' (pc + 1) xs 0 ∧ Below w.heap.size w W ∧ (∀ i, W.cell? ⟨w.heap.size, i, none⟩ = #[Value.int .i64 pc, .slice (some ⟨mb, mo, none⟩) xs.length cap, .int .i64 0][i]?) ∧ (∀ i, W.cell? ⟨w.heap.size + 1, i, none⟩ = #[Value.int .i64 0, .slice none 0 0, .int .i64 0][i]?)
    ∧ (∀ i, W.frozen? ⟨w.heap.size + 1, i, none⟩ = false) ∧ (∀ k x, xs[k]? = some x → W.cell? ⟨mb, mo + k, none⟩ = some (.int .i32 x)) ∧ (∀ i, W.cell? ⟨w2.heap.size, i, none⟩ = #[Value.int .i64 o, .int .i64 a, .int .i64 b, .int .i64 c][i]?)
    ∧ W.heap.size = w2.heap.size + 1 := by
  subst hW
  have hp := HM.setPc ((pc : Int) + 1)
  have hs : (w2.setCell ⟨pb, 0, none⟩ (.int .i64 (pc + 1))).heap.size = w2.heap.size := by simp
  have hbl : Below (w2.setCell ⟨pb, 0, none⟩ (.int .i64 (pc + 1))).heap.size (w2.setCell ⟨pb, 0, none⟩ (.int .i64 (pc + 1))) ((w2.setCell ⟨pb, 0, none⟩ (.int .i64 (pc + 1))).alloc (.cells #[.int .i64 o, .int .i64 a, .int .i64 b, .int .i64 c] 58)) := below_alloc1 _ _
  have hsz := HB.size
  refine ⟨hp.below hx hbl, (HB.setCell (by show w.heap.size ≤ pb; omega) _).trans (hbl.mono (by rw [hs]; exact hsz)), fun i => ?_, fun i => ?_, fun i => ?_, fun k x hk => ?_, fun i => ?_, by simp⟩
  · rw [hbl.cell (p := ⟨w.heap.size, i, none⟩) (by rw [hs]; show w.heap.size < _; omega), cell_set_off (by omega)]; exact bx i
  · rw [hbl.cell (p := ⟨w.heap.size + 1, i, none⟩) (by rw [hs]; show w.heap.size + 1 < _; omega), cell_set_off (by omega)]; exact rs i
  · rw [hbl.frozen (p := ⟨w.heap.size + 1, i, none⟩) (by rw [hs]; show w.heap.size + 1 < _; omega)]; simpa using fr i
  · rw [hbl.cell (p := ⟨mb, mo + k, none⟩) (by rw [hs]; show mb < _; omega), cell_set_off (by omega)]; exact mem k x hk
  · have := alloc_at (w2.setCell ⟨pb, 0, none⟩ (.int .i64 (pc + 1))) #[.int .i64 o, .int .i64 a, .int .i64 b, .int .i64 c] 58 i
    rw [hs] at this
    exact this
theorem StPost.drew {w w' : World} {r : Int × List Int × Int} {e : Ending} (h : StPost w r e w') : StPost w r e w'.drew := by
  obtain ⟨v, e1, hf, hb⟩ := h
  exact ⟨v, e1, hf.drew, hb.drew⟩
/-- The step's end: the words go out through the result's cell. -/
theorem fin {w W : World} {pb g cap' : Nat} {pc : Int} {xs : List Int} {halt : Int} {u0 u1 u2 : Value} {n : Nat} (HM : MSt W pb g cap' pc xs halt) (HB : Below w.heap.size w W) (hk : cap' ≤ maxLen) (hx : 0 < n) (hn : xs.length = n) (lg : w.heap.size + 2 ≤ g) :
    StPost w (pc, xs, halt) (.returned (.agg #[.int .i64 pc, .slice (some ⟨g, 0, none⟩) n cap', .int .i64 halt])) (((W.setCell ⟨w.heap.size + 1, 0, none⟩ u0).setCell ⟨w.heap.size + 1, 1, none⟩ u1).setCell ⟨w.heap.size + 1, 2, none⟩ u2) := by
  subst hn
  have hf := HM.fresh hk hx lg
  exact ⟨_, rfl, ((((hf.setOther (by simp) _).setOther (by simp) _).setOther (by simp) _)).mono (by omega), ((HB.setCell (by simp) _).setCell (by simp) _).setCell (by simp) _⟩
end Go.Proofs.YteecpkkgjioplaaDoor

/- baizeref15.Step: rstep_0 -/
namespace Go.Proofs.YteecpkkgjioplaaDoor
open Go.RowKit Go

set_option linter.unusedSimpArgs false in
set_option linter.unusedVariables false in
set_option maxRecDepth 100000 in
set_option maxHeartbeats 4000000 in
theorem rstep_0 (pc : Nat) (ad : Addr) (cap : Nat) (xs : List Int) (cv : Value) (l : List Ins) (a b c : Int) (w : World) (h : I32s w (.slice (some ad) xs.length cap) xs) (hl : xs.length ≤ 300) (hr : rightSt pc xs.length 0 = true) (hc : InsS w cv l) (hll : l.length ≤ 300) (hW : W32 xs) (hi' : nextP l pc xs.length = some ⟨0, a, b, c⟩) :
    Calls Tryd.prog 17 #[cv, .agg #[.int .i64 pc, .slice (some ad) xs.length cap, .int .i64 0]] w fun e w' => StPost w (pc, xs, 1 + a) e w' := by
  obtain ⟨i0, hi, hz0, hz1, hz2⟩ := info_parts info21
  have hlen : (xs.map (Value.int .i32)).length = xs.length * 1 := by simp
  have hml : 0 + xs.length ≤ maxLen := by unfold maxLen; omega
  have hby : (0 + xs.length) * 4 ≤ 140737488355328 := by omega
  obtain ⟨hri, hpc⟩ := nextP_right hi'
  simp only [Int.toNat_natCast] at hri hpc
  have hx0 : 0 < xs.length := by have := (rightSt_iff.1 hr).1; omega
  have hah := right_0 hri
  have Hah := Lib.hid hah
  have a0 : 0 ≤ a := by omega
  have a1 : a ≤ 1 := by omega
  clear hah
  obtain ⟨mb, mo, rfl, lm, hk⟩ := h.look hx0
  have Hk := Lib.hid hk
  have Hn := Lib.hid h
  have Hr := Lib.hid hr
  have Hri := Lib.hid hri
  have Hc := Lib.hid hc
  have Hi := Lib.hid hi'
  have pc0 : (pc : Int) ≤ 300 := by omega
  clear h hr hc hi' hri hk
  go_enter Tryd.func17, Tryd.ntmps17
  go_upto_region 1 with (fail)
  go_cut [5] (fun v5 wc => ∃ pb g cap', v5 = .pointer (some ⟨pb, 0, none⟩) ∧ Head w wc pb g cap' pc (.slice (some ⟨mb, mo, none⟩) xs.length cap) xs 0)
  case first =>
    refine wp_region_held_drew (S := fun w' => w'.cell? ⟨w.heap.size, 0, none⟩ = some (.int .i64 pc) ∧ w'.cell? ⟨w.heap.size, 1, none⟩ = some (.slice (some ⟨mb, mo, none⟩) xs.length cap) ∧ w'.cell? ⟨w.heap.size, 2, none⟩ = some (.int .i64 0)) (by kernel_rfl) (by refine ⟨?_, ?_, ?_⟩ <;> go_simp) (fun hHeld => ?_)
    refine hd_take (i := 0) (some 9) (v := ?v0) rfl rfl (by kernel_rfl) (by kernel_rfl) (by kernel_rfl) (fun _ _ _ h => h) (by rfl) ?h0 (by assumption) ?r0
    case h0 =>
      intro w hSw
      (try dsimp only at hSw)
      go_simp
      (try with_reducible rfl)
    try simp only [Act.put, List.setIfInBounds_toArray, List.set_cons_zero, List.set_cons_succ]
    refine hd_take (i := 1) (some 10) (v := ?v1) rfl rfl (by kernel_rfl) (by kernel_rfl) (by kernel_rfl) (fun _ _ _ h => h) (by rfl) ?h1 (by assumption) ?r1
    case h1 =>
      intro w hSw
      (try dsimp only at hSw)
      go_simp
      (try with_reducible rfl)
    try simp only [Act.put, List.setIfInBounds_toArray, List.set_cons_zero, List.set_cons_succ]
    refine hd_take (i := 3) (some 12) (v := ?v3) rfl rfl (by kernel_rfl) (by kernel_rfl) (by kernel_rfl) (fun _ _ _ h => h) (by rfl) ?h3 (by assumption) ?r3
    case h3 =>
      intro w hSw
      (try dsimp only at hSw)
      go_simp
      (try with_reducible rfl)
    try simp only [Act.put, List.setIfInBounds_toArray, List.set_cons_zero, List.set_cons_succ]
    refine hd_take (i := 4) (some 13) (v := ?v4) rfl rfl (by kernel_rfl) (by kernel_rfl) (by kernel_rfl) (fun _ _ _ h => h) (by rfl) ?h4 (by assumption) ?r4
    case h4 =>
      intro w hSw
      (try dsimp only at hSw)
      go_simp
      (try with_reducible rfl)
    try simp only [Act.put, List.setIfInBounds_toArray, List.set_cons_zero, List.set_cons_succ]
    refine hd_take (i := 6) (some 15) (v := ?v6) rfl rfl (by kernel_rfl) (by kernel_rfl) (by kernel_rfl) (fun _ _ _ h => h) (by rfl) ?h6 (by assumption) ?r6
    case h6 =>
      intro w hSw
      (try dsimp only at hSw)
      go_simp
      (try with_reducible rfl)
    try simp only [Act.put, List.setIfInBounds_toArray, List.set_cons_zero, List.set_cons_succ]
    refine hd_take (i := 7) (some 16) (v := ?v7) rfl rfl (by kernel_rfl) (by kernel_rfl) (by kernel_rfl) (fun _ _ _ h => h) (by rfl) ?h7 (by assumption) ?r7
    case h7 =>
      intro w hSw
      (try dsimp only at hSw)
      go_simp
      (try with_reducible rfl)
    try simp only [Act.put, List.setIfInBounds_toArray, List.set_cons_zero, List.set_cons_succ]
    refine wpAnyH_ready (rs := [2, 9]) (by kernel_rfl) (by simp) ?_
    refine AllReadyH.cons rfl (fun K hK => ?_) (AllReadyH.cons rfl (fun K hK => ?_) AllReadyH.nil)
    · go_simp
      refine hK.out _ _ (by refine ⟨?_, ?_, ?_⟩ <;> go_simp) (fun hH2 => ?_)
      clear hK K
      refine wpAnyH_ready (rs := [5, 9]) (by kernel_rfl) (by simp) ?_
      refine AllReadyH.cons rfl (fun K hK => ?_) (AllReadyH.cons rfl (fun K hK => ?_) AllReadyH.nil)
      · refine step_append_made _ (by rfl) _ _ _ (by rfl) (w.heap.size + 2) 21 i0 _ 1 4 Tryd.underlying23 hi hz0 hz1 hz2 rfl (by omega) ⟨w.heap.size + 2, 0, none⟩ 0 0 [] (by rfl) (by first | exact ownsRow_empty _ _ (by simp) (by omega) | exact ownsRow_empty2 _ _ _ (by simp) (by omega)) ⟨mb, mo, none⟩ xs.length cap (xs.map (Value.int .i32)) (by rfl) hlen (Hn.out.news' (by repeat (first | exact Below.refl _ _ | exact Nat.le_refl _ | apply Below.drew | (refine Below.alloc ?_ (by simp <;> omega) _)))) (one_i32 xs) hml hby (by simp <;> omega) ?_
        intro g cap' w1 hown hgrow
        refine hK.out _ _ (by refine ⟨?_, ?_, ?_⟩ <;> (rw [hgrow.cell_far _ (by simp <;> omega) (by simp <;> omega)]; go_simp)) (fun hH5 => ?_)
        clear hK K
        try simp only [Act.put, List.setIfInBounds_toArray, List.set_cons_zero, List.set_cons_succ]
        rw [Nat.zero_add, List.nil_append] at hown
        rw [Nat.zero_add]
        have hs1 := hgrow.size
        simp at hs1
        refine hd_take (i := 8) (some 17) (v := ?v8x1) rfl rfl (by kernel_rfl) (by kernel_rfl) (by kernel_rfl) (fun _ _ _ h => h) (by rfl) ?h8x1 (by assumption) ?r8x1
        case h8x1 =>
          intro w hSw
          (try dsimp only at hSw)
          go_simp
          (try with_reducible rfl)
        try simp only [Act.put, List.setIfInBounds_toArray, List.set_cons_zero, List.set_cons_succ]
        refine wpAnyH_ready (rs := [9]) (by kernel_rfl) (by simp) ?_
        refine AllReadyH.cons rfl (fun K hK => ?_) AllReadyH.nil
        go_simp
        refine hK.out _ _ (by refine ⟨?_, ?_, ?_⟩ <;> (rw [World.cell?_alloc_past _ _ _ (by omega)]; first | exact hH5.1 | exact hH5.2.1 | exact hH5.2.2)) (fun hH9 => ?_)
        clear hK K
        refine wpAnyH_ready (rs := [10]) (by kernel_rfl) (by simp) ?_
        refine AllReadyH.cons rfl (fun K hK => ?_) AllReadyH.nil
        go_simp
        refine hK.out _ _ (by refine ⟨?_, ?_, ?_⟩ <;> (rw [World.cell?_alloc_past _ _ _ (by omega)]; first | exact hH5.1 | exact hH5.2.1 | exact hH5.2.2)) (fun hH10 => ?_)
        clear hK K
        refine wpAnyH_done (by kernel_rfl) ?_ _
        go_wp2_with fail
        go_meet
        case rel => exact ⟨_, g, cap', rfl, head_new w _ w1 g cap' pc (.slice (some ⟨mb, mo, none⟩) xs.length cap) xs 0 hown hgrow (by repeat (first | exact Below.refl _ _ | exact Nat.le_refl _ | apply Below.drew | (refine Below.alloc ?_ (by simp <;> omega) _))) (by simp <;> omega) (by simp <;> omega) (fun i => by go_simp) (fun i => by go_simp) (fun i => by go_simp)⟩
      · go_simp
        refine hK.out _ _ (by refine ⟨?_, ?_, ?_⟩ <;> go_simp) (fun hH9 => ?_)
        clear hK K
        refine wpAnyH_ready (rs := [5]) (by kernel_rfl) (by simp) ?_
        refine AllReadyH.cons rfl (fun K hK => ?_) AllReadyH.nil
        refine step_append_made _ (by rfl) _ _ _ (by rfl) (w.heap.size + 2) 21 i0 _ 1 4 Tryd.underlying23 hi hz0 hz1 hz2 rfl (by omega) ⟨w.heap.size + 2, 0, none⟩ 0 0 [] (by rfl) (by first | exact ownsRow_empty _ _ (by simp) (by omega) | exact ownsRow_empty2 _ _ _ (by simp) (by omega)) ⟨mb, mo, none⟩ xs.length cap (xs.map (Value.int .i32)) (by rfl) hlen (Hn.out.news' (by repeat (first | exact Below.refl _ _ | exact Nat.le_refl _ | apply Below.drew | (refine Below.alloc ?_ (by simp <;> omega) _)))) (one_i32 xs) hml hby (by simp <;> omega) ?_
        intro g cap' w1 hown hgrow
        refine hK.out _ _ (by refine ⟨?_, ?_, ?_⟩ <;> (rw [hgrow.cell_far _ (by simp <;> omega) (by simp <;> omega)]; go_simp)) (fun hH5 => ?_)
        clear hK K
        try simp only [Act.put, List.setIfInBounds_toArray, List.set_cons_zero, List.set_cons_succ]
        rw [Nat.zero_add, List.nil_append] at hown
        rw [Nat.zero_add]
        have hs1 := hgrow.size
        simp at hs1
        have o0 : ∀ i, w1.cell? ⟨w.heap.size + 3, i, none⟩ = #[Value.int .i64 0, .slice none 0 0, .int .i64 0][i]? := fun i => (hgrow.cell_far _ (by simp <;> omega) (by simp <;> omega)).trans (by go_simp)
        have of : ∀ i, w1.frozen? ⟨w.heap.size + 3, i, none⟩ = false := fun i => (hgrow.frozen_far _ (by simp <;> omega) (by simp <;> omega)).trans (by go_simp)
        refine hd_take (i := 8) (some 17) (v := ?v8x2) rfl rfl (by kernel_rfl) (by kernel_rfl) (by kernel_rfl) (fun _ _ _ h => h) (by rfl) ?h8x2 (by assumption) ?r8x2
        case h8x2 =>
          intro w hSw
          (try dsimp only at hSw)
          go_simp
          (try with_reducible rfl)
        try simp only [Act.put, List.setIfInBounds_toArray, List.set_cons_zero, List.set_cons_succ]
        refine wpAnyH_ready (rs := [10]) (by kernel_rfl) (by simp) ?_
        refine AllReadyH.cons rfl (fun K hK => ?_) AllReadyH.nil
        go_simp
        refine hK.out _ _ (by refine ⟨?_, ?_, ?_⟩ <;> (rw [World.cell?_setCell_far _ _ _ _ (by simp <;> omega), World.cell?_setCell_far _ _ _ _ (by simp <;> omega), World.cell?_setCell_far _ _ _ _ (by simp <;> omega)]; first | exact hH5.1 | exact hH5.2.1 | exact hH5.2.2)) (fun hH10 => ?_)
        clear hK K
        refine wpAnyH_done (by kernel_rfl) ?_ _
        go_wp2_with fail
        go_meet
        case rel => exact ⟨_, g, cap', rfl, head_old w _ w1 _ _ g cap' pc (.slice (some ⟨mb, mo, none⟩) xs.length cap) xs 0 hown hgrow (by repeat (first | exact Below.refl _ _ | exact Nat.le_refl _ | apply Below.drew | (refine Below.alloc ?_ (by simp <;> omega) _))) (by simp <;> omega) (by simp <;> omega) (by simp <;> omega) (by simp <;> omega) (by simp <;> omega) (fun i => by go_simp) (fun i => by go_simp) (fun i => by go_simp) (by first | exact heap_at1 _ _ _ (by simp) | exact heap_at2 _ _ _ _ (by simp))⟩
    · go_simp
      refine hK.out _ _ (by refine ⟨?_, ?_, ?_⟩ <;> go_simp) (fun hH9 => ?_)
      clear hK K
      refine wpAnyH_ready (rs := [2]) (by kernel_rfl) (by simp) ?_
      refine AllReadyH.cons rfl (fun K hK => ?_) AllReadyH.nil
      go_simp
      refine hK.out _ _ (by refine ⟨?_, ?_, ?_⟩ <;> go_simp) (fun hH2 => ?_)
      clear hK K
      refine wpAnyH_ready (rs := [5]) (by kernel_rfl) (by simp) ?_
      refine AllReadyH.cons rfl (fun K hK => ?_) AllReadyH.nil
      refine step_append_made _ (by rfl) _ _ _ (by rfl) (w.heap.size + 2) 21 i0 _ 1 4 Tryd.underlying23 hi hz0 hz1 hz2 rfl (by omega) ⟨w.heap.size + 3, 0, none⟩ 0 0 [] (by rfl) (by first | exact ownsRow_empty _ _ (by simp) (by omega) | exact ownsRow_empty2 _ _ _ (by simp) (by omega)) ⟨mb, mo, none⟩ xs.length cap (xs.map (Value.int .i32)) (by rfl) hlen (Hn.out.news' (by repeat (first | exact Below.refl _ _ | exact Nat.le_refl _ | apply Below.drew | (refine Below.alloc ?_ (by simp <;> omega) _)))) (one_i32 xs) hml hby (by simp <;> omega) ?_
      intro g cap' w1 hown hgrow
      refine hK.out _ _ (by refine ⟨?_, ?_, ?_⟩ <;> (rw [hgrow.cell_far _ (by simp <;> omega) (by simp <;> omega)]; go_simp)) (fun hH5 => ?_)
      clear hK K
      try simp only [Act.put, List.setIfInBounds_toArray, List.set_cons_zero, List.set_cons_succ]
      rw [Nat.zero_add, List.nil_append] at hown
      rw [Nat.zero_add]
      have hs1 := hgrow.size
      simp at hs1
      have o0 : ∀ i, w1.cell? ⟨w.heap.size + 2, i, none⟩ = #[Value.int .i64 0, .slice none 0 0, .int .i64 0][i]? := fun i => (hgrow.cell_far _ (by simp <;> omega) (by simp <;> omega)).trans (by go_simp)
      have of : ∀ i, w1.frozen? ⟨w.heap.size + 2, i, none⟩ = false := fun i => (hgrow.frozen_far _ (by simp <;> omega) (by simp <;> omega)).trans (by go_simp)
      refine hd_take (i := 8) (some 17) (v := ?v8x3) rfl rfl (by kernel_rfl) (by kernel_rfl) (by kernel_rfl) (fun _ _ _ h => h) (by rfl) ?h8x3 (by assumption) ?r8x3
      case h8x3 =>
        intro w hSw
        (try dsimp only at hSw)
        go_simp
        (try with_reducible rfl)
      try simp only [Act.put, List.setIfInBounds_toArray, List.set_cons_zero, List.set_cons_succ]
      refine wpAnyH_ready (rs := [10]) (by kernel_rfl) (by simp) ?_
      refine AllReadyH.cons rfl (fun K hK => ?_) AllReadyH.nil
      go_simp
      refine hK.out _ _ (by refine ⟨?_, ?_, ?_⟩ <;> (rw [World.cell?_setCell_far _ _ _ _ (by simp <;> omega), World.cell?_setCell_far _ _ _ _ (by simp <;> omega), World.cell?_setCell_far _ _ _ _ (by simp <;> omega)]; first | exact hH5.1 | exact hH5.2.1 | exact hH5.2.2)) (fun hH10 => ?_)
      clear hK K
      refine wpAnyH_done (by kernel_rfl) ?_ _
      go_wp2_with fail
      go_meet
      case rel => exact ⟨_, g, cap', rfl, head_old w _ w1 _ _ g cap' pc (.slice (some ⟨mb, mo, none⟩) xs.length cap) xs 0 hown hgrow (by repeat (first | exact Below.refl _ _ | exact Nat.le_refl _ | apply Below.drew | (refine Below.alloc ?_ (by simp <;> omega) _))) (by simp <;> omega) (by simp <;> omega) (by simp <;> omega) (by simp <;> omega) (by simp <;> omega) (fun i => by go_simp) (fun i => by go_simp) (fun i => by go_simp) (by first | exact heap_at1 _ _ _ (by simp) | exact heap_at2 _ _ _ _ (by simp))⟩
  case rest =>
    obtain ⟨pb, g, cap', rfl, hH⟩ := hcut
    have HH := Lib.hid hH
    have bx := hH.box
    clear hH
    go_wp2_with fail
    refine (rright_any pc 0 _ _ _ _).mono ?_
    rintro e w1 ⟨rfl, hb1⟩
    have hs0 := HH.out.below.size
    have hpb := HH.out.lpb
    have hlp := HH.out.lp
    have bx1 : ∀ i, w1.cell? ⟨w.heap.size, i, none⟩ = #[Value.int .i64 pc, .slice (some ⟨mb, mo, none⟩) xs.length cap, .int .i64 0][i]? := fun i => (hb1.cell (p := ⟨w.heap.size, i, none⟩) (by show w.heap.size < _; omega)).trans (bx i)
    have HB1 := Lib.hid hb1
    clear bx hb1
    rw [Hr.out]
    go_wp2_with fail
    refine (rnext_yes pc _ _ _ l cv _ _ Hr.out ((Hc.out.below HH.out.below (Nat.le_refl _)).below HB1.out (Nat.le_refl _)) hll Hi.out).mono ?_
    rintro e w2 ⟨rfl, hb2⟩
    have hs1 := HB1.out.size
    have hs2 := hb2.size
    have HM2 : Hid (MSt w2 pb g cap' pc xs 0) := Lib.hid ((HH.out.st.below hx0 HB1.out).below hx0 hb2)
    have HB2 : Hid (Below w.heap.size w w2) := Lib.hid ((HH.out.below.trans (HB1.out.mono (by omega))).trans (hb2.mono (by omega)))
    have bx2 : ∀ i, w2.cell? ⟨w.heap.size, i, none⟩ = #[Value.int .i64 pc, .slice (some ⟨mb, mo, none⟩) xs.length cap, .int .i64 0][i]? := fun i => (hb2.cell (p := ⟨w.heap.size, i, none⟩) (by show w.heap.size < _; omega)).trans (bx1 i)
    have rs2 : ∀ i, w2.cell? ⟨w.heap.size + 1, i, none⟩ = #[Value.int .i64 0, .slice none 0 0, .int .i64 0][i]? := fun i => (hb2.cell (p := ⟨w.heap.size + 1, i, none⟩) (by show w.heap.size + 1 < _; omega)).trans ((HB1.out.cell (p := ⟨w.heap.size + 1, i, none⟩) (by show w.heap.size + 1 < _; omega)).trans (HH.out.res i))
    have fr2 : ∀ i, w2.frozen? ⟨w.heap.size + 1, i, none⟩ = false := fun i => (hb2.frozen (p := ⟨w.heap.size + 1, i, none⟩) (by show w.heap.size + 1 < _; omega)).trans ((HB1.out.frozen (p := ⟨w.heap.size + 1, i, none⟩) (by show w.heap.size + 1 < _; omega)).trans (HH.out.fres i))
    have mem2 : Hid (∀ k x, xs[k]? = some x → w2.cell? ⟨mb, mo + k, none⟩ = some (.int .i32 x)) := Lib.hid fun k x hx => (HB2.out.cell (p := ⟨mb, mo + k, none⟩) lm).trans (Hk.out k x hx)
    have lr2 : w.heap.size + 1 < w2.heap.size := by omega
    have lb2 : w.heap.size < w2.heap.size := by omega
    have lp2 : pb < w2.heap.size := by omega
    have lg2 : g < w2.heap.size := by have := HH.out.lgb; omega
    have lm2 : mb < w2.heap.size := by omega
    have hlw := lm
    have hpg := HH.out.st.ne
    have hlg := HH.out.lg
    have hlp' := HH.out.lp
    have q0 := HM2.out.st.c0
    have q1 := HM2.out.st.c1
    have q2 := HM2.out.st.c2
    have zp := HM2.out.fp
    have zg := HM2.out.fm
    clear bx1 hb2 hs0 hs1 hs2 hpb hlp
    go_wp2
    refine bodyPost_ret (v := .agg #[.int .i64 pc, .slice (some ⟨g, 0, none⟩) xs.length cap', .int .i64 (1 + a)]) (by simp [results, Tryd.results17, go_sem, *]) rfl ?_
    refine ⟨_, rfl, ?_, ?_⟩
    · have hf := (HM2.out.setHalt (1 + a)).fresh HH.out.lk hx0 HH.out.lg
      exact (((((hf.setOther (by simp) _).setOther (by simp) _).setOther (by simp) _).below (below_alloc1 _ _))).mono (by omega)
    · exact ((((HB2.out.setCell (by show w.heap.size ≤ pb; omega) _).setCell (by simp) _).setCell (by simp) _).setCell (by simp) _).alloc (by simp; omega) _
end Go.Proofs.YteecpkkgjioplaaDoor

/- baizeref15.Step: rstep_1 -/
namespace Go.Proofs.YteecpkkgjioplaaDoor
open Go.RowKit Go

set_option linter.unusedSimpArgs false in
set_option linter.unusedVariables false in
set_option maxRecDepth 100000 in
set_option maxHeartbeats 4000000 in
theorem rstep_1 (pc : Nat) (ad : Addr) (cap : Nat) (xs : List Int) (cv : Value) (l : List Ins) (a b c : Int) (w : World) (h : I32s w (.slice (some ad) xs.length cap) xs) (hl : xs.length ≤ 300) (hr : rightSt pc xs.length 0 = true) (hc : InsS w cv l) (hll : l.length ≤ 300) (hW : W32 xs) (hi' : nextP l pc xs.length = some ⟨1, a, b, c⟩) :
    Calls Tryd.prog 17 #[cv, .agg #[.int .i64 pc, .slice (some ad) xs.length cap, .int .i64 0]] w fun e w' => StPost w ((pc : Int) + 1, wx xs a b, 0) e w' := by
  obtain ⟨i0, hi, hz0, hz1, hz2⟩ := info_parts info21
  have hlen : (xs.map (Value.int .i32)).length = xs.length * 1 := by simp
  have hml : 0 + xs.length ≤ maxLen := by unfold maxLen; omega
  have hby : (0 + xs.length) * 4 ≤ 140737488355328 := by omega
  obtain ⟨hri, hpc⟩ := nextP_right hi'
  simp only [Int.toNat_natCast] at hri hpc
  have hx0 : 0 < xs.length := by have := (rightSt_iff.1 hr).1; omega
  obtain ⟨ha0, ha1, hbn⟩ := right_1 hri
  obtain ⟨a, rfl⟩ := Int.eq_ofNat_of_zero_le ha0
  simp [numP] at hbn
  obtain ⟨hb0, hb1⟩ := hbn
  obtain ⟨mb, mo, rfl, lm, hk⟩ := h.look hx0
  have Hk := Lib.hid hk
  have Hn := Lib.hid h
  have Hr := Lib.hid hr
  have Hri := Lib.hid hri
  have Hc := Lib.hid hc
  have Hi := Lib.hid hi'
  have pc0 : (pc : Int) ≤ 300 := by omega
  clear h hr hc hi' hri hk
  go_enter Tryd.func17, Tryd.ntmps17
  go_upto_region 1 with (fail)
  go_cut [5] (fun v5 wc => ∃ pb g cap', v5 = .pointer (some ⟨pb, 0, none⟩) ∧ Head w wc pb g cap' pc (.slice (some ⟨mb, mo, none⟩) xs.length cap) xs 0)
  case first =>
    refine wp_region_held_drew (S := fun w' => w'.cell? ⟨w.heap.size, 0, none⟩ = some (.int .i64 pc) ∧ w'.cell? ⟨w.heap.size, 1, none⟩ = some (.slice (some ⟨mb, mo, none⟩) xs.length cap) ∧ w'.cell? ⟨w.heap.size, 2, none⟩ = some (.int .i64 0)) (by kernel_rfl) (by refine ⟨?_, ?_, ?_⟩ <;> go_simp) (fun hHeld => ?_)
    refine hd_take (i := 0) (some 9) (v := ?v0) rfl rfl (by kernel_rfl) (by kernel_rfl) (by kernel_rfl) (fun _ _ _ h => h) (by rfl) ?h0 (by assumption) ?r0
    case h0 =>
      intro w hSw
      (try dsimp only at hSw)
      go_simp
      (try with_reducible rfl)
    try simp only [Act.put, List.setIfInBounds_toArray, List.set_cons_zero, List.set_cons_succ]
    refine hd_take (i := 1) (some 10) (v := ?v1) rfl rfl (by kernel_rfl) (by kernel_rfl) (by kernel_rfl) (fun _ _ _ h => h) (by rfl) ?h1 (by assumption) ?r1
    case h1 =>
      intro w hSw
      (try dsimp only at hSw)
      go_simp
      (try with_reducible rfl)
    try simp only [Act.put, List.setIfInBounds_toArray, List.set_cons_zero, List.set_cons_succ]
    refine hd_take (i := 3) (some 12) (v := ?v3) rfl rfl (by kernel_rfl) (by kernel_rfl) (by kernel_rfl) (fun _ _ _ h => h) (by rfl) ?h3 (by assumption) ?r3
    case h3 =>
      intro w hSw
      (try dsimp only at hSw)
      go_simp
      (try with_reducible rfl)
    try simp only [Act.put, List.setIfInBounds_toArray, List.set_cons_zero, List.set_cons_succ]
    refine hd_take (i := 4) (some 13) (v := ?v4) rfl rfl (by kernel_rfl) (by kernel_rfl) (by kernel_rfl) (fun _ _ _ h => h) (by rfl) ?h4 (by assumption) ?r4
    case h4 =>
      intro w hSw
      (try dsimp only at hSw)
      go_simp
      (try with_reducible rfl)
    try simp only [Act.put, List.setIfInBounds_toArray, List.set_cons_zero, List.set_cons_succ]
    refine hd_take (i := 6) (some 15) (v := ?v6) rfl rfl (by kernel_rfl) (by kernel_rfl) (by kernel_rfl) (fun _ _ _ h => h) (by rfl) ?h6 (by assumption) ?r6
    case h6 =>
      intro w hSw
      (try dsimp only at hSw)
      go_simp
      (try with_reducible rfl)
    try simp only [Act.put, List.setIfInBounds_toArray, List.set_cons_zero, List.set_cons_succ]
    refine hd_take (i := 7) (some 16) (v := ?v7) rfl rfl (by kernel_rfl) (by kernel_rfl) (by kernel_rfl) (fun _ _ _ h => h) (by rfl) ?h7 (by assumption) ?r7
    case h7 =>
      intro w hSw
      (try dsimp only at hSw)
      go_simp
      (try with_reducible rfl)
    try simp only [Act.put, List.setIfInBounds_toArray, List.set_cons_zero, List.set_cons_succ]
    refine wpAnyH_ready (rs := [2, 9]) (by kernel_rfl) (by simp) ?_
    refine AllReadyH.cons rfl (fun K hK => ?_) (AllReadyH.cons rfl (fun K hK => ?_) AllReadyH.nil)
    · go_simp
      refine hK.out _ _ (by refine ⟨?_, ?_, ?_⟩ <;> go_simp) (fun hH2 => ?_)
      clear hK K
      refine wpAnyH_ready (rs := [5, 9]) (by kernel_rfl) (by simp) ?_
      refine AllReadyH.cons rfl (fun K hK => ?_) (AllReadyH.cons rfl (fun K hK => ?_) AllReadyH.nil)
      · refine step_append_made _ (by rfl) _ _ _ (by rfl) (w.heap.size + 2) 21 i0 _ 1 4 Tryd.underlying23 hi hz0 hz1 hz2 rfl (by omega) ⟨w.heap.size + 2, 0, none⟩ 0 0 [] (by rfl) (by first | exact ownsRow_empty _ _ (by simp) (by omega) | exact ownsRow_empty2 _ _ _ (by simp) (by omega)) ⟨mb, mo, none⟩ xs.length cap (xs.map (Value.int .i32)) (by rfl) hlen (Hn.out.news' (by repeat (first | exact Below.refl _ _ | exact Nat.le_refl _ | apply Below.drew | (refine Below.alloc ?_ (by simp <;> omega) _)))) (one_i32 xs) hml hby (by simp <;> omega) ?_
        intro g cap' w1 hown hgrow
        refine hK.out _ _ (by refine ⟨?_, ?_, ?_⟩ <;> (rw [hgrow.cell_far _ (by simp <;> omega) (by simp <;> omega)]; go_simp)) (fun hH5 => ?_)
        clear hK K
        try simp only [Act.put, List.setIfInBounds_toArray, List.set_cons_zero, List.set_cons_succ]
        rw [Nat.zero_add, List.nil_append] at hown
        rw [Nat.zero_add]
        have hs1 := hgrow.size
        simp at hs1
        refine hd_take (i := 8) (some 17) (v := ?v8x1) rfl rfl (by kernel_rfl) (by kernel_rfl) (by kernel_rfl) (fun _ _ _ h => h) (by rfl) ?h8x1 (by assumption) ?r8x1
        case h8x1 =>
          intro w hSw
          (try dsimp only at hSw)
          go_simp
          (try with_reducible rfl)
        try simp only [Act.put, List.setIfInBounds_toArray, List.set_cons_zero, List.set_cons_succ]
        refine wpAnyH_ready (rs := [9]) (by kernel_rfl) (by simp) ?_
        refine AllReadyH.cons rfl (fun K hK => ?_) AllReadyH.nil
        go_simp
        refine hK.out _ _ (by refine ⟨?_, ?_, ?_⟩ <;> (rw [World.cell?_alloc_past _ _ _ (by omega)]; first | exact hH5.1 | exact hH5.2.1 | exact hH5.2.2)) (fun hH9 => ?_)
        clear hK K
        refine wpAnyH_ready (rs := [10]) (by kernel_rfl) (by simp) ?_
        refine AllReadyH.cons rfl (fun K hK => ?_) AllReadyH.nil
        go_simp
        refine hK.out _ _ (by refine ⟨?_, ?_, ?_⟩ <;> (rw [World.cell?_alloc_past _ _ _ (by omega)]; first | exact hH5.1 | exact hH5.2.1 | exact hH5.2.2)) (fun hH10 => ?_)
        clear hK K
        refine wpAnyH_done (by kernel_rfl) ?_ _
        go_wp2_with fail
        go_meet
        case rel => exact ⟨_, g, cap', rfl, head_new w _ w1 g cap' pc (.slice (some ⟨mb, mo, none⟩) xs.length cap) xs 0 hown hgrow (by repeat (first | exact Below.refl _ _ | exact Nat.le_refl _ | apply Below.drew | (refine Below.alloc ?_ (by simp <;> omega) _))) (by simp <;> omega) (by simp <;> omega) (fun i => by go_simp) (fun i => by go_simp) (fun i => by go_simp)⟩
      · go_simp
        refine hK.out _ _ (by refine ⟨?_, ?_, ?_⟩ <;> go_simp) (fun hH9 => ?_)
        clear hK K
        refine wpAnyH_ready (rs := [5]) (by kernel_rfl) (by simp) ?_
        refine AllReadyH.cons rfl (fun K hK => ?_) AllReadyH.nil
        refine step_append_made _ (by rfl) _ _ _ (by rfl) (w.heap.size + 2) 21 i0 _ 1 4 Tryd.underlying23 hi hz0 hz1 hz2 rfl (by omega) ⟨w.heap.size + 2, 0, none⟩ 0 0 [] (by rfl) (by first | exact ownsRow_empty _ _ (by simp) (by omega) | exact ownsRow_empty2 _ _ _ (by simp) (by omega)) ⟨mb, mo, none⟩ xs.length cap (xs.map (Value.int .i32)) (by rfl) hlen (Hn.out.news' (by repeat (first | exact Below.refl _ _ | exact Nat.le_refl _ | apply Below.drew | (refine Below.alloc ?_ (by simp <;> omega) _)))) (one_i32 xs) hml hby (by simp <;> omega) ?_
        intro g cap' w1 hown hgrow
        refine hK.out _ _ (by refine ⟨?_, ?_, ?_⟩ <;> (rw [hgrow.cell_far _ (by simp <;> omega) (by simp <;> omega)]; go_simp)) (fun hH5 => ?_)
        clear hK K
        try simp only [Act.put, List.setIfInBounds_toArray, List.set_cons_zero, List.set_cons_succ]
        rw [Nat.zero_add, List.nil_append] at hown
        rw [Nat.zero_add]
        have hs1 := hgrow.size
        simp at hs1
        have o0 : ∀ i, w1.cell? ⟨w.heap.size + 3, i, none⟩ = #[Value.int .i64 0, .slice none 0 0, .int .i64 0][i]? := fun i => (hgrow.cell_far _ (by simp <;> omega) (by simp <;> omega)).trans (by go_simp)
        have of : ∀ i, w1.frozen? ⟨w.heap.size + 3, i, none⟩ = false := fun i => (hgrow.frozen_far _ (by simp <;> omega) (by simp <;> omega)).trans (by go_simp)
        refine hd_take (i := 8) (some 17) (v := ?v8x2) rfl rfl (by kernel_rfl) (by kernel_rfl) (by kernel_rfl) (fun _ _ _ h => h) (by rfl) ?h8x2 (by assumption) ?r8x2
        case h8x2 =>
          intro w hSw
          (try dsimp only at hSw)
          go_simp
          (try with_reducible rfl)
        try simp only [Act.put, List.setIfInBounds_toArray, List.set_cons_zero, List.set_cons_succ]
        refine wpAnyH_ready (rs := [10]) (by kernel_rfl) (by simp) ?_
        refine AllReadyH.cons rfl (fun K hK => ?_) AllReadyH.nil
        go_simp
        refine hK.out _ _ (by refine ⟨?_, ?_, ?_⟩ <;> (rw [World.cell?_setCell_far _ _ _ _ (by simp <;> omega), World.cell?_setCell_far _ _ _ _ (by simp <;> omega), World.cell?_setCell_far _ _ _ _ (by simp <;> omega)]; first | exact hH5.1 | exact hH5.2.1 | exact hH5.2.2)) (fun hH10 => ?_)
        clear hK K
        refine wpAnyH_done (by kernel_rfl) ?_ _
        go_wp2_with fail
        go_meet
        case rel => exact ⟨_, g, cap', rfl, head_old w _ w1 _ _ g cap' pc (.slice (some ⟨mb, mo, none⟩) xs.length cap) xs 0 hown hgrow (by repeat (first | exact Below.refl _ _ | exact Nat.le_refl _ | apply Below.drew | (refine Below.alloc ?_ (by simp <;> omega) _))) (by simp <;> omega) (by simp <;> omega) (by simp <;> omega) (by simp <;> omega) (by simp <;> omega) (fun i => by go_simp) (fun i => by go_simp) (fun i => by go_simp) (by first | exact heap_at1 _ _ _ (by simp) | exact heap_at2 _ _ _ _ (by simp))⟩
    · go_simp
      refine hK.out _ _ (by refine ⟨?_, ?_, ?_⟩ <;> go_simp) (fun hH9 => ?_)
      clear hK K
      refine wpAnyH_ready (rs := [2]) (by kernel_rfl) (by simp) ?_
      refine AllReadyH.cons rfl (fun K hK => ?_) AllReadyH.nil
      go_simp
      refine hK.out _ _ (by refine ⟨?_, ?_, ?_⟩ <;> go_simp) (fun hH2 => ?_)
      clear hK K
      refine wpAnyH_ready (rs := [5]) (by kernel_rfl) (by simp) ?_
      refine AllReadyH.cons rfl (fun K hK => ?_) AllReadyH.nil
      refine step_append_made _ (by rfl) _ _ _ (by rfl) (w.heap.size + 2) 21 i0 _ 1 4 Tryd.underlying23 hi hz0 hz1 hz2 rfl (by omega) ⟨w.heap.size + 3, 0, none⟩ 0 0 [] (by rfl) (by first | exact ownsRow_empty _ _ (by simp) (by omega) | exact ownsRow_empty2 _ _ _ (by simp) (by omega)) ⟨mb, mo, none⟩ xs.length cap (xs.map (Value.int .i32)) (by rfl) hlen (Hn.out.news' (by repeat (first | exact Below.refl _ _ | exact Nat.le_refl _ | apply Below.drew | (refine Below.alloc ?_ (by simp <;> omega) _)))) (one_i32 xs) hml hby (by simp <;> omega) ?_
      intro g cap' w1 hown hgrow
      refine hK.out _ _ (by refine ⟨?_, ?_, ?_⟩ <;> (rw [hgrow.cell_far _ (by simp <;> omega) (by simp <;> omega)]; go_simp)) (fun hH5 => ?_)
      clear hK K
      try simp only [Act.put, List.setIfInBounds_toArray, List.set_cons_zero, List.set_cons_succ]
      rw [Nat.zero_add, List.nil_append] at hown
      rw [Nat.zero_add]
      have hs1 := hgrow.size
      simp at hs1
      have o0 : ∀ i, w1.cell? ⟨w.heap.size + 2, i, none⟩ = #[Value.int .i64 0, .slice none 0 0, .int .i64 0][i]? := fun i => (hgrow.cell_far _ (by simp <;> omega) (by simp <;> omega)).trans (by go_simp)
      have of : ∀ i, w1.frozen? ⟨w.heap.size + 2, i, none⟩ = false := fun i => (hgrow.frozen_far _ (by simp <;> omega) (by simp <;> omega)).trans (by go_simp)
      refine hd_take (i := 8) (some 17) (v := ?v8x3) rfl rfl (by kernel_rfl) (by kernel_rfl) (by kernel_rfl) (fun _ _ _ h => h) (by rfl) ?h8x3 (by assumption) ?r8x3
      case h8x3 =>
        intro w hSw
        (try dsimp only at hSw)
        go_simp
        (try with_reducible rfl)
      try simp only [Act.put, List.setIfInBounds_toArray, List.set_cons_zero, List.set_cons_succ]
      refine wpAnyH_ready (rs := [10]) (by kernel_rfl) (by simp) ?_
      refine AllReadyH.cons rfl (fun K hK => ?_) AllReadyH.nil
      go_simp
      refine hK.out _ _ (by refine ⟨?_, ?_, ?_⟩ <;> (rw [World.cell?_setCell_far _ _ _ _ (by simp <;> omega), World.cell?_setCell_far _ _ _ _ (by simp <;> omega), World.cell?_setCell_far _ _ _ _ (by simp <;> omega)]; first | exact hH5.1 | exact hH5.2.1 | exact hH5.2.2)) (fun hH10 => ?_)
      clear hK K
      refine wpAnyH_done (by kernel_rfl) ?_ _
      go_wp2_with fail
      go_meet
      case rel => exact ⟨_, g, cap', rfl, head_old w _ w1 _ _ g cap' pc (.slice (some ⟨mb, mo, none⟩) xs.length cap) xs 0 hown hgrow (by repeat (first | exact Below.refl _ _ | exact Nat.le_refl _ | apply Below.drew | (refine Below.alloc ?_ (by simp <;> omega) _))) (by simp <;> omega) (by simp <;> omega) (by simp <;> omega) (by simp <;> omega) (by simp <;> omega) (fun i => by go_simp) (fun i => by go_simp) (fun i => by go_simp) (by first | exact heap_at1 _ _ _ (by simp) | exact heap_at2 _ _ _ _ (by simp))⟩
  case rest =>
    obtain ⟨pb, g, cap', rfl, hH⟩ := hcut
    have HH := Lib.hid hH
    have bx := hH.box
    clear hH
    go_wp2_with fail
    refine (rright_any pc 0 _ _ _ _).mono ?_
    rintro e w1 ⟨rfl, hb1⟩
    have hs0 := HH.out.below.size
    have hpb := HH.out.lpb
    have hlp := HH.out.lp
    have bx1 : ∀ i, w1.cell? ⟨w.heap.size, i, none⟩ = #[Value.int .i64 pc, .slice (some ⟨mb, mo, none⟩) xs.length cap, .int .i64 0][i]? := fun i => (hb1.cell (p := ⟨w.heap.size, i, none⟩) (by show w.heap.size < _; omega)).trans (bx i)
    have HB1 := Lib.hid hb1
    clear bx hb1
    rw [Hr.out]
    go_wp2_with fail
    refine (rnext_yes pc _ _ _ l cv _ _ Hr.out ((Hc.out.below HH.out.below (Nat.le_refl _)).below HB1.out (Nat.le_refl _)) hll Hi.out).mono ?_
    rintro e w2 ⟨rfl, hb2⟩
    have hs1 := HB1.out.size
    have hs2 := hb2.size
    have HM2 : Hid (MSt w2 pb g cap' pc xs 0) := Lib.hid ((HH.out.st.below hx0 HB1.out).below hx0 hb2)
    have HB2 : Hid (Below w.heap.size w w2) := Lib.hid ((HH.out.below.trans (HB1.out.mono (by omega))).trans (hb2.mono (by omega)))
    have bx2 : ∀ i, w2.cell? ⟨w.heap.size, i, none⟩ = #[Value.int .i64 pc, .slice (some ⟨mb, mo, none⟩) xs.length cap, .int .i64 0][i]? := fun i => (hb2.cell (p := ⟨w.heap.size, i, none⟩) (by show w.heap.size < _; omega)).trans (bx1 i)
    have rs2 : ∀ i, w2.cell? ⟨w.heap.size + 1, i, none⟩ = #[Value.int .i64 0, .slice none 0 0, .int .i64 0][i]? := fun i => (hb2.cell (p := ⟨w.heap.size + 1, i, none⟩) (by show w.heap.size + 1 < _; omega)).trans ((HB1.out.cell (p := ⟨w.heap.size + 1, i, none⟩) (by show w.heap.size + 1 < _; omega)).trans (HH.out.res i))
    have fr2 : ∀ i, w2.frozen? ⟨w.heap.size + 1, i, none⟩ = false := fun i => (hb2.frozen (p := ⟨w.heap.size + 1, i, none⟩) (by show w.heap.size + 1 < _; omega)).trans ((HB1.out.frozen (p := ⟨w.heap.size + 1, i, none⟩) (by show w.heap.size + 1 < _; omega)).trans (HH.out.fres i))
    have mem2 : Hid (∀ k x, xs[k]? = some x → w2.cell? ⟨mb, mo + k, none⟩ = some (.int .i32 x)) := Lib.hid fun k x hx => (HB2.out.cell (p := ⟨mb, mo + k, none⟩) lm).trans (Hk.out k x hx)
    have lr2 : w.heap.size + 1 < w2.heap.size := by omega
    have lb2 : w.heap.size < w2.heap.size := by omega
    have lp2 : pb < w2.heap.size := by omega
    have lg2 : g < w2.heap.size := by have := HH.out.lgb; omega
    have lm2 : mb < w2.heap.size := by omega
    have hlw := lm
    have hpg := HH.out.st.ne
    have hlg := HH.out.lg
    have hlp' := HH.out.lp
    have q0 := HM2.out.st.c0
    have q1 := HM2.out.st.c1
    have q2 := HM2.out.st.c2
    have zp := HM2.out.fp
    have zg := HM2.out.fm
    clear bx1 hb2 hs0 hs1 hs2 hpb hlp
    go_upto_region 12 with (fail)
    obtain ⟨W, hW⟩ : ∃ W, W = (w2.setCell ⟨pb, 0, none⟩ (.int .i64 ((pc : Int) + 1))).alloc (.cells #[.int .i64 1, .int .i64 a, .int .i64 b, .int .i64 c] 58) := ⟨_, rfl⟩
    rw [← hW]
    obtain ⟨HM, HB, bxW, rsW, frW, memW, inW, szW⟩ := rdy HM2.out HB2.out hx0 bx2 rs2 fr2 mem2.out lm HH.out.lp lp2 lg2 hW
    replace HM := Lib.hid HM
    replace HB := Lib.hid HB
    replace memW := Lib.hid memW
    clear hW bx2 rs2 fr2 mem2 HM2 HB2 q0 q1 q2 zp zg
    have q0 := HM.out.st.c0
    have q1 := HM.out.st.c1
    have q2 := HM.out.st.c2
    have zp := HM.out.fp
    have zg := HM.out.fm
    generalize w2.heap.size = ib at *
    have lgW : g < W.heap.size := by omega
    have hbp : ¬ w.heap.size = pb := by omega
    have hbg : ¬ w.heap.size = g := by omega
    have hrp : ¬ w.heap.size + 1 = pb := by omega
    have hrg : ¬ w.heap.size + 1 = g := by omega
    have hig : ¬ ib = g := by omega
    have hip : ¬ ib = pb := by omega
    have hmp : ¬ mb = pb := by omega
    have hmg : ¬ mb = g := by omega
    obtain ⟨xa, ga⟩ : ∃ xa, W.cell? ⟨g, a, none⟩ = some xa := ⟨_, HM.out.cells a _ (gx_at (show a < xs.length by omega))⟩
    have lda : (a : Int) < (xs.length : Int) := by omega
    go_wp2
    refine bodyPost_ret (v := .agg #[.int .i64 ((pc : Int) + 1), .slice (some ⟨g, 0, none⟩) xs.length cap', .int .i64 (0)]) (by simp [results, Tryd.results17, go_sem, *]) rfl ?_
    exact fin (HM.out.setMem (a := a) (by omega) (b)) (HB.out.setCell (by show w.heap.size ≤ g; omega) _) HH.out.lk hx0 (wx_len _ _ _) hlg
end Go.Proofs.YteecpkkgjioplaaDoor

/- baizeref15.Step: rstep_2 -/
namespace Go.Proofs.YteecpkkgjioplaaDoor
open Go.RowKit Go

set_option linter.unusedSimpArgs false in
set_option linter.unusedVariables false in
set_option maxRecDepth 100000 in
set_option maxHeartbeats 4000000 in
theorem rstep_2 (pc : Nat) (ad : Addr) (cap : Nat) (xs : List Int) (cv : Value) (l : List Ins) (a b c : Int) (w : World) (h : I32s w (.slice (some ad) xs.length cap) xs) (hl : xs.length ≤ 300) (hr : rightSt pc xs.length 0 = true) (hc : InsS w cv l) (hll : l.length ≤ 300) (hW : W32 xs) (hi' : nextP l pc xs.length = some ⟨2, a, b, c⟩) :
    Calls Tryd.prog 17 #[cv, .agg #[.int .i64 pc, .slice (some ad) xs.length cap, .int .i64 0]] w fun e w' => StPost w ((pc : Int) + 1, wx xs a (gx xs b), 0) e w' := by
  obtain ⟨i0, hi, hz0, hz1, hz2⟩ := info_parts info21
  have hlen : (xs.map (Value.int .i32)).length = xs.length * 1 := by simp
  have hml : 0 + xs.length ≤ maxLen := by unfold maxLen; omega
  have hby : (0 + xs.length) * 4 ≤ 140737488355328 := by omega
  obtain ⟨hri, hpc⟩ := nextP_right hi'
  simp only [Int.toNat_natCast] at hri hpc
  have hx0 : 0 < xs.length := by have := (rightSt_iff.1 hr).1; omega
  obtain ⟨ha0, ha1, hb0, hb1⟩ := right_ww (by simp) hri
  obtain ⟨a, rfl⟩ := Int.eq_ofNat_of_zero_le ha0
  obtain ⟨b, rfl⟩ := Int.eq_ofNat_of_zero_le hb0
  obtain ⟨mb, mo, rfl, lm, hk⟩ := h.look hx0
  have Hk := Lib.hid hk
  have Hn := Lib.hid h
  have Hr := Lib.hid hr
  have Hri := Lib.hid hri
  have Hc := Lib.hid hc
  have Hi := Lib.hid hi'
  have pc0 : (pc : Int) ≤ 300 := by omega
  clear h hr hc hi' hri hk
  go_enter Tryd.func17, Tryd.ntmps17
  go_upto_region 1 with (fail)
  go_cut [5] (fun v5 wc => ∃ pb g cap', v5 = .pointer (some ⟨pb, 0, none⟩) ∧ Head w wc pb g cap' pc (.slice (some ⟨mb, mo, none⟩) xs.length cap) xs 0)
  case first =>
    refine wp_region_held_drew (S := fun w' => w'.cell? ⟨w.heap.size, 0, none⟩ = some (.int .i64 pc) ∧ w'.cell? ⟨w.heap.size, 1, none⟩ = some (.slice (some ⟨mb, mo, none⟩) xs.length cap) ∧ w'.cell? ⟨w.heap.size, 2, none⟩ = some (.int .i64 0)) (by kernel_rfl) (by refine ⟨?_, ?_, ?_⟩ <;> go_simp) (fun hHeld => ?_)
    refine hd_take (i := 0) (some 9) (v := ?v0) rfl rfl (by kernel_rfl) (by kernel_rfl) (by kernel_rfl) (fun _ _ _ h => h) (by rfl) ?h0 (by assumption) ?r0
    case h0 =>
      intro w hSw
      (try dsimp only at hSw)
      go_simp
      (try with_reducible rfl)
    try simp only [Act.put, List.setIfInBounds_toArray, List.set_cons_zero, List.set_cons_succ]
    refine hd_take (i := 1) (some 10) (v := ?v1) rfl rfl (by kernel_rfl) (by kernel_rfl) (by kernel_rfl) (fun _ _ _ h => h) (by rfl) ?h1 (by assumption) ?r1
    case h1 =>
      intro w hSw
      (try dsimp only at hSw)
      go_simp
      (try with_reducible rfl)
    try simp only [Act.put, List.setIfInBounds_toArray, List.set_cons_zero, List.set_cons_succ]
    refine hd_take (i := 3) (some 12) (v := ?v3) rfl rfl (by kernel_rfl) (by kernel_rfl) (by kernel_rfl) (fun _ _ _ h => h) (by rfl) ?h3 (by assumption) ?r3
    case h3 =>
      intro w hSw
      (try dsimp only at hSw)
      go_simp
      (try with_reducible rfl)
    try simp only [Act.put, List.setIfInBounds_toArray, List.set_cons_zero, List.set_cons_succ]
    refine hd_take (i := 4) (some 13) (v := ?v4) rfl rfl (by kernel_rfl) (by kernel_rfl) (by kernel_rfl) (fun _ _ _ h => h) (by rfl) ?h4 (by assumption) ?r4
    case h4 =>
      intro w hSw
      (try dsimp only at hSw)
      go_simp
      (try with_reducible rfl)
    try simp only [Act.put, List.setIfInBounds_toArray, List.set_cons_zero, List.set_cons_succ]
    refine hd_take (i := 6) (some 15) (v := ?v6) rfl rfl (by kernel_rfl) (by kernel_rfl) (by kernel_rfl) (fun _ _ _ h => h) (by rfl) ?h6 (by assumption) ?r6
    case h6 =>
      intro w hSw
      (try dsimp only at hSw)
      go_simp
      (try with_reducible rfl)
    try simp only [Act.put, List.setIfInBounds_toArray, List.set_cons_zero, List.set_cons_succ]
    refine hd_take (i := 7) (some 16) (v := ?v7) rfl rfl (by kernel_rfl) (by kernel_rfl) (by kernel_rfl) (fun _ _ _ h => h) (by rfl) ?h7 (by assumption) ?r7
    case h7 =>
      intro w hSw
      (try dsimp only at hSw)
      go_simp
      (try with_reducible rfl)
    try simp only [Act.put, List.setIfInBounds_toArray, List.set_cons_zero, List.set_cons_succ]
    refine wpAnyH_ready (rs := [2, 9]) (by kernel_rfl) (by simp) ?_
    refine AllReadyH.cons rfl (fun K hK => ?_) (AllReadyH.cons rfl (fun K hK => ?_) AllReadyH.nil)
    · go_simp
      refine hK.out _ _ (by refine ⟨?_, ?_, ?_⟩ <;> go_simp) (fun hH2 => ?_)
      clear hK K
      refine wpAnyH_ready (rs := [5, 9]) (by kernel_rfl) (by simp) ?_
      refine AllReadyH.cons rfl (fun K hK => ?_) (AllReadyH.cons rfl (fun K hK => ?_) AllReadyH.nil)
      · refine step_append_made _ (by rfl) _ _ _ (by rfl) (w.heap.size + 2) 21 i0 _ 1 4 Tryd.underlying23 hi hz0 hz1 hz2 rfl (by omega) ⟨w.heap.size + 2, 0, none⟩ 0 0 [] (by rfl) (by first | exact ownsRow_empty _ _ (by simp) (by omega) | exact ownsRow_empty2 _ _ _ (by simp) (by omega)) ⟨mb, mo, none⟩ xs.length cap (xs.map (Value.int .i32)) (by rfl) hlen (Hn.out.news' (by repeat (first | exact Below.refl _ _ | exact Nat.le_refl _ | apply Below.drew | (refine Below.alloc ?_ (by simp <;> omega) _)))) (one_i32 xs) hml hby (by simp <;> omega) ?_
        intro g cap' w1 hown hgrow
        refine hK.out _ _ (by refine ⟨?_, ?_, ?_⟩ <;> (rw [hgrow.cell_far _ (by simp <;> omega) (by simp <;> omega)]; go_simp)) (fun hH5 => ?_)
        clear hK K
        try simp only [Act.put, List.setIfInBounds_toArray, List.set_cons_zero, List.set_cons_succ]
        rw [Nat.zero_add, List.nil_append] at hown
        rw [Nat.zero_add]
        have hs1 := hgrow.size
        simp at hs1
        refine hd_take (i := 8) (some 17) (v := ?v8x1) rfl rfl (by kernel_rfl) (by kernel_rfl) (by kernel_rfl) (fun _ _ _ h => h) (by rfl) ?h8x1 (by assumption) ?r8x1
        case h8x1 =>
          intro w hSw
          (try dsimp only at hSw)
          go_simp
          (try with_reducible rfl)
        try simp only [Act.put, List.setIfInBounds_toArray, List.set_cons_zero, List.set_cons_succ]
        refine wpAnyH_ready (rs := [9]) (by kernel_rfl) (by simp) ?_
        refine AllReadyH.cons rfl (fun K hK => ?_) AllReadyH.nil
        go_simp
        refine hK.out _ _ (by refine ⟨?_, ?_, ?_⟩ <;> (rw [World.cell?_alloc_past _ _ _ (by omega)]; first | exact hH5.1 | exact hH5.2.1 | exact hH5.2.2)) (fun hH9 => ?_)
        clear hK K
        refine wpAnyH_ready (rs := [10]) (by kernel_rfl) (by simp) ?_
        refine AllReadyH.cons rfl (fun K hK => ?_) AllReadyH.nil
        go_simp
        refine hK.out _ _ (by refine ⟨?_, ?_, ?_⟩ <;> (rw [World.cell?_alloc_past _ _ _ (by omega)]; first | exact hH5.1 | exact hH5.2.1 | exact hH5.2.2)) (fun hH10 => ?_)
        clear hK K
        refine wpAnyH_done (by kernel_rfl) ?_ _
        go_wp2_with fail
        go_meet
        case rel => exact ⟨_, g, cap', rfl, head_new w _ w1 g cap' pc (.slice (some ⟨mb, mo, none⟩) xs.length cap) xs 0 hown hgrow (by repeat (first | exact Below.refl _ _ | exact Nat.le_refl _ | apply Below.drew | (refine Below.alloc ?_ (by simp <;> omega) _))) (by simp <;> omega) (by simp <;> omega) (fun i => by go_simp) (fun i => by go_simp) (fun i => by go_simp)⟩
      · go_simp
        refine hK.out _ _ (by refine ⟨?_, ?_, ?_⟩ <;> go_simp) (fun hH9 => ?_)
        clear hK K
        refine wpAnyH_ready (rs := [5]) (by kernel_rfl) (by simp) ?_
        refine AllReadyH.cons rfl (fun K hK => ?_) AllReadyH.nil
        refine step_append_made _ (by rfl) _ _ _ (by rfl) (w.heap.size + 2) 21 i0 _ 1 4 Tryd.underlying23 hi hz0 hz1 hz2 rfl (by omega) ⟨w.heap.size + 2, 0, none⟩ 0 0 [] (by rfl) (by first | exact ownsRow_empty _ _ (by simp) (by omega) | exact ownsRow_empty2 _ _ _ (by simp) (by omega)) ⟨mb, mo, none⟩ xs.length cap (xs.map (Value.int .i32)) (by rfl) hlen (Hn.out.news' (by repeat (first | exact Below.refl _ _ | exact Nat.le_refl _ | apply Below.drew | (refine Below.alloc ?_ (by simp <;> omega) _)))) (one_i32 xs) hml hby (by simp <;> omega) ?_
        intro g cap' w1 hown hgrow
        refine hK.out _ _ (by refine ⟨?_, ?_, ?_⟩ <;> (rw [hgrow.cell_far _ (by simp <;> omega) (by simp <;> omega)]; go_simp)) (fun hH5 => ?_)
        clear hK K
        try simp only [Act.put, List.setIfInBounds_toArray, List.set_cons_zero, List.set_cons_succ]
        rw [Nat.zero_add, List.nil_append] at hown
        rw [Nat.zero_add]
        have hs1 := hgrow.size
        simp at hs1
        have o0 : ∀ i, w1.cell? ⟨w.heap.size + 3, i, none⟩ = #[Value.int .i64 0, .slice none 0 0, .int .i64 0][i]? := fun i => (hgrow.cell_far _ (by simp <;> omega) (by simp <;> omega)).trans (by go_simp)
        have of : ∀ i, w1.frozen? ⟨w.heap.size + 3, i, none⟩ = false := fun i => (hgrow.frozen_far _ (by simp <;> omega) (by simp <;> omega)).trans (by go_simp)
        refine hd_take (i := 8) (some 17) (v := ?v8x2) rfl rfl (by kernel_rfl) (by kernel_rfl) (by kernel_rfl) (fun _ _ _ h => h) (by rfl) ?h8x2 (by assumption) ?r8x2
        case h8x2 =>
          intro w hSw
          (try dsimp only at hSw)
          go_simp
          (try with_reducible rfl)
        try simp only [Act.put, List.setIfInBounds_toArray, List.set_cons_zero, List.set_cons_succ]
        refine wpAnyH_ready (rs := [10]) (by kernel_rfl) (by simp) ?_
        refine AllReadyH.cons rfl (fun K hK => ?_) AllReadyH.nil
        go_simp
        refine hK.out _ _ (by refine ⟨?_, ?_, ?_⟩ <;> (rw [World.cell?_setCell_far _ _ _ _ (by simp <;> omega), World.cell?_setCell_far _ _ _ _ (by simp <;> omega), World.cell?_setCell_far _ _ _ _ (by simp <;> omega)]; first | exact hH5.1 | exact hH5.2.1 | exact hH5.2.2)) (fun hH10 => ?_)
        clear hK K
        refine wpAnyH_done (by kernel_rfl) ?_ _
        go_wp2_with fail
        go_meet
        case rel => exact ⟨_, g, cap', rfl, head_old w _ w1 _ _ g cap' pc (.slice (some ⟨mb, mo, none⟩) xs.length cap) xs 0 hown hgrow (by repeat (first | exact Below.refl _ _ | exact Nat.le_refl _ | apply Below.drew | (refine Below.alloc ?_ (by simp <;> omega) _))) (by simp <;> omega) (by simp <;> omega) (by simp <;> omega) (by simp <;> omega) (by simp <;> omega) (fun i => by go_simp) (fun i => by go_simp) (fun i => by go_simp) (by first | exact heap_at1 _ _ _ (by simp) | exact heap_at2 _ _ _ _ (by simp))⟩
    · go_simp
      refine hK.out _ _ (by refine ⟨?_, ?_, ?_⟩ <;> go_simp) (fun hH9 => ?_)
      clear hK K
      refine wpAnyH_ready (rs := [2]) (by kernel_rfl) (by simp) ?_
      refine AllReadyH.cons rfl (fun K hK => ?_) AllReadyH.nil
      go_simp
      refine hK.out _ _ (by refine ⟨?_, ?_, ?_⟩ <;> go_simp) (fun hH2 => ?_)
      clear hK K
      refine wpAnyH_ready (rs := [5]) (by kernel_rfl) (by simp) ?_
      refine AllReadyH.cons rfl (fun K hK => ?_) AllReadyH.nil
      refine step_append_made _ (by rfl) _ _ _ (by rfl) (w.heap.size + 2) 21 i0 _ 1 4 Tryd.underlying23 hi hz0 hz1 hz2 rfl (by omega) ⟨w.heap.size + 3, 0, none⟩ 0 0 [] (by rfl) (by first | exact ownsRow_empty _ _ (by simp) (by omega) | exact ownsRow_empty2 _ _ _ (by simp) (by omega)) ⟨mb, mo, none⟩ xs.length cap (xs.map (Value.int .i32)) (by rfl) hlen (Hn.out.news' (by repeat (first | exact Below.refl _ _ | exact Nat.le_refl _ | apply Below.drew | (refine Below.alloc ?_ (by simp <;> omega) _)))) (one_i32 xs) hml hby (by simp <;> omega) ?_
      intro g cap' w1 hown hgrow
      refine hK.out _ _ (by refine ⟨?_, ?_, ?_⟩ <;> (rw [hgrow.cell_far _ (by simp <;> omega) (by simp <;> omega)]; go_simp)) (fun hH5 => ?_)
      clear hK K
      try simp only [Act.put, List.setIfInBounds_toArray, List.set_cons_zero, List.set_cons_succ]
      rw [Nat.zero_add, List.nil_append] at hown
      rw [Nat.zero_add]
      have hs1 := hgrow.size
      simp at hs1
      have o0 : ∀ i, w1.cell? ⟨w.heap.size + 2, i, none⟩ = #[Value.int .i64 0, .slice none 0 0, .int .i64 0][i]? := fun i => (hgrow.cell_far _ (by simp <;> omega) (by simp <;> omega)).trans (by go_simp)
      have of : ∀ i, w1.frozen? ⟨w.heap.size + 2, i, none⟩ = false := fun i => (hgrow.frozen_far _ (by simp <;> omega) (by simp <;> omega)).trans (by go_simp)
      refine hd_take (i := 8) (some 17) (v := ?v8x3) rfl rfl (by kernel_rfl) (by kernel_rfl) (by kernel_rfl) (fun _ _ _ h => h) (by rfl) ?h8x3 (by assumption) ?r8x3
      case h8x3 =>
        intro w hSw
        (try dsimp only at hSw)
        go_simp
        (try with_reducible rfl)
      try simp only [Act.put, List.setIfInBounds_toArray, List.set_cons_zero, List.set_cons_succ]
      refine wpAnyH_ready (rs := [10]) (by kernel_rfl) (by simp) ?_
      refine AllReadyH.cons rfl (fun K hK => ?_) AllReadyH.nil
      go_simp
      refine hK.out _ _ (by refine ⟨?_, ?_, ?_⟩ <;> (rw [World.cell?_setCell_far _ _ _ _ (by simp <;> omega), World.cell?_setCell_far _ _ _ _ (by simp <;> omega), World.cell?_setCell_far _ _ _ _ (by simp <;> omega)]; first | exact hH5.1 | exact hH5.2.1 | exact hH5.2.2)) (fun hH10 => ?_)
      clear hK K
      refine wpAnyH_done (by kernel_rfl) ?_ _
      go_wp2_with fail
      go_meet
      case rel => exact ⟨_, g, cap', rfl, head_old w _ w1 _ _ g cap' pc (.slice (some ⟨mb, mo, none⟩) xs.length cap) xs 0 hown hgrow (by repeat (first | exact Below.refl _ _ | exact Nat.le_refl _ | apply Below.drew | (refine Below.alloc ?_ (by simp <;> omega) _))) (by simp <;> omega) (by simp <;> omega) (by simp <;> omega) (by simp <;> omega) (by simp <;> omega) (fun i => by go_simp) (fun i => by go_simp) (fun i => by go_simp) (by first | exact heap_at1 _ _ _ (by simp) | exact heap_at2 _ _ _ _ (by simp))⟩
  case rest =>
    obtain ⟨pb, g, cap', rfl, hH⟩ := hcut
    have HH := Lib.hid hH
    have bx := hH.box
    clear hH
    go_wp2_with fail
    refine (rright_any pc 0 _ _ _ _).mono ?_
    rintro e w1 ⟨rfl, hb1⟩
    have hs0 := HH.out.below.size
    have hpb := HH.out.lpb
    have hlp := HH.out.lp
    have bx1 : ∀ i, w1.cell? ⟨w.heap.size, i, none⟩ = #[Value.int .i64 pc, .slice (some ⟨mb, mo, none⟩) xs.length cap, .int .i64 0][i]? := fun i => (hb1.cell (p := ⟨w.heap.size, i, none⟩) (by show w.heap.size < _; omega)).trans (bx i)
    have HB1 := Lib.hid hb1
    clear bx hb1
    rw [Hr.out]
    go_wp2_with fail
    refine (rnext_yes pc _ _ _ l cv _ _ Hr.out ((Hc.out.below HH.out.below (Nat.le_refl _)).below HB1.out (Nat.le_refl _)) hll Hi.out).mono ?_
    rintro e w2 ⟨rfl, hb2⟩
    have hs1 := HB1.out.size
    have hs2 := hb2.size
    have HM2 : Hid (MSt w2 pb g cap' pc xs 0) := Lib.hid ((HH.out.st.below hx0 HB1.out).below hx0 hb2)
    have HB2 : Hid (Below w.heap.size w w2) := Lib.hid ((HH.out.below.trans (HB1.out.mono (by omega))).trans (hb2.mono (by omega)))
    have bx2 : ∀ i, w2.cell? ⟨w.heap.size, i, none⟩ = #[Value.int .i64 pc, .slice (some ⟨mb, mo, none⟩) xs.length cap, .int .i64 0][i]? := fun i => (hb2.cell (p := ⟨w.heap.size, i, none⟩) (by show w.heap.size < _; omega)).trans (bx1 i)
    have rs2 : ∀ i, w2.cell? ⟨w.heap.size + 1, i, none⟩ = #[Value.int .i64 0, .slice none 0 0, .int .i64 0][i]? := fun i => (hb2.cell (p := ⟨w.heap.size + 1, i, none⟩) (by show w.heap.size + 1 < _; omega)).trans ((HB1.out.cell (p := ⟨w.heap.size + 1, i, none⟩) (by show w.heap.size + 1 < _; omega)).trans (HH.out.res i))
    have fr2 : ∀ i, w2.frozen? ⟨w.heap.size + 1, i, none⟩ = false := fun i => (hb2.frozen (p := ⟨w.heap.size + 1, i, none⟩) (by show w.heap.size + 1 < _; omega)).trans ((HB1.out.frozen (p := ⟨w.heap.size + 1, i, none⟩) (by show w.heap.size + 1 < _; omega)).trans (HH.out.fres i))
    have mem2 : Hid (∀ k x, xs[k]? = some x → w2.cell? ⟨mb, mo + k, none⟩ = some (.int .i32 x)) := Lib.hid fun k x hx => (HB2.out.cell (p := ⟨mb, mo + k, none⟩) lm).trans (Hk.out k x hx)
    have lr2 : w.heap.size + 1 < w2.heap.size := by omega
    have lb2 : w.heap.size < w2.heap.size := by omega
    have lp2 : pb < w2.heap.size := by omega
    have lg2 : g < w2.heap.size := by have := HH.out.lgb; omega
    have lm2 : mb < w2.heap.size := by omega
    have hlw := lm
    have hpg := HH.out.st.ne
    have hlg := HH.out.lg
    have hlp' := HH.out.lp
    have q0 := HM2.out.st.c0
    have q1 := HM2.out.st.c1
    have q2 := HM2.out.st.c2
    have zp := HM2.out.fp
    have zg := HM2.out.fm
    clear bx1 hb2 hs0 hs1 hs2 hpb hlp
    go_upto_region 12 with (fail)
    obtain ⟨W, hW⟩ : ∃ W, W = (w2.setCell ⟨pb, 0, none⟩ (.int .i64 ((pc : Int) + 1))).alloc (.cells #[.int .i64 2, .int .i64 a, .int .i64 b, .int .i64 c] 58) := ⟨_, rfl⟩
    rw [← hW]
    obtain ⟨HM, HB, bxW, rsW, frW, memW, inW, szW⟩ := rdy HM2.out HB2.out hx0 bx2 rs2 fr2 mem2.out lm HH.out.lp lp2 lg2 hW
    replace HM := Lib.hid HM
    replace HB := Lib.hid HB
    replace memW := Lib.hid memW
    clear hW bx2 rs2 fr2 mem2 HM2 HB2 q0 q1 q2 zp zg
    have q0 := HM.out.st.c0
    have q1 := HM.out.st.c1
    have q2 := HM.out.st.c2
    have zp := HM.out.fp
    have zg := HM.out.fm
    generalize w2.heap.size = ib at *
    have lgW : g < W.heap.size := by omega
    have hbp : ¬ w.heap.size = pb := by omega
    have hbg : ¬ w.heap.size = g := by omega
    have hrp : ¬ w.heap.size + 1 = pb := by omega
    have hrg : ¬ w.heap.size + 1 = g := by omega
    have hig : ¬ ib = g := by omega
    have hip : ¬ ib = pb := by omega
    have hmp : ¬ mb = pb := by omega
    have hmg : ¬ mb = g := by omega
    have rdb := memW.out b _ (gx_at (show b < xs.length by omega))
    have lb : (b : Int) < (xs.length : Int) := by omega
    obtain ⟨xa, ga⟩ : ∃ xa, W.cell? ⟨g, a, none⟩ = some xa := ⟨_, HM.out.cells a _ (gx_at (show a < xs.length by omega))⟩
    have lda : (a : Int) < (xs.length : Int) := by omega
    go_wp2_with fail
    go_still_tail 10, (by kernel_rfl)
    repeat still_step
    try refine wpStill_nil ?_
    go_wp2
    refine bodyPost_ret (v := .agg #[.int .i64 ((pc : Int) + 1), .slice (some ⟨g, 0, none⟩) xs.length cap', .int .i64 (0)]) (by simp [results, Tryd.results17, go_sem, *]) rfl ?_
    refine StPost.drew ?_
    exact fin (HM.out.setMem (a := a) (by omega) (gx xs b)) (HB.out.setCell (by show w.heap.size ≤ g; omega) _) HH.out.lk hx0 (wx_len _ _ _) hlg
end Go.Proofs.YteecpkkgjioplaaDoor

/- baizeref15.Step: rstep_3 -/
namespace Go.Proofs.YteecpkkgjioplaaDoor
open Go.RowKit Go

set_option linter.unusedSimpArgs false in
set_option linter.unusedVariables false in
set_option maxRecDepth 100000 in
set_option maxHeartbeats 4000000 in
theorem rstep_3 (pc : Nat) (ad : Addr) (cap : Nat) (xs : List Int) (cv : Value) (l : List Ins) (a b c : Int) (w : World) (h : I32s w (.slice (some ad) xs.length cap) xs) (hl : xs.length ≤ 300) (hr : rightSt pc xs.length 0 = true) (hc : InsS w cv l) (hll : l.length ≤ 300) (hW : W32 xs) (hi' : nextP l pc xs.length = some ⟨3, a, b, c⟩) :
    Calls Tryd.prog 17 #[cv, .agg #[.int .i64 pc, .slice (some ad) xs.length cap, .int .i64 0]] w fun e w' => StPost w ((pc : Int) + 1, wx xs a (twoP 3 (gx xs b) (gx xs c)), 0) e w' := by
  obtain ⟨i0, hi, hz0, hz1, hz2⟩ := info_parts info21
  have hlen : (xs.map (Value.int .i32)).length = xs.length * 1 := by simp
  have hml : 0 + xs.length ≤ maxLen := by unfold maxLen; omega
  have hby : (0 + xs.length) * 4 ≤ 140737488355328 := by omega
  obtain ⟨hri, hpc⟩ := nextP_right hi'
  simp only [Int.toNat_natCast] at hri hpc
  have hx0 : 0 < xs.length := by have := (rightSt_iff.1 hr).1; omega
  obtain ⟨ha0, ha1, hb0, hb1, hc0, hc1⟩ := right_www (by simp) hri
  obtain ⟨a, rfl⟩ := Int.eq_ofNat_of_zero_le ha0
  obtain ⟨b, rfl⟩ := Int.eq_ofNat_of_zero_le hb0
  obtain ⟨c, rfl⟩ := Int.eq_ofNat_of_zero_le hc0
  obtain ⟨mb, mo, rfl, lm, hk⟩ := h.look hx0
  have Hk := Lib.hid hk
  have Hn := Lib.hid h
  have Hr := Lib.hid hr
  have Hri := Lib.hid hri
  have Hc := Lib.hid hc
  have Hi := Lib.hid hi'
  have pc0 : (pc : Int) ≤ 300 := by omega
  clear h hr hc hi' hri hk
  go_enter Tryd.func17, Tryd.ntmps17
  go_upto_region 1 with (fail)
  go_cut [5] (fun v5 wc => ∃ pb g cap', v5 = .pointer (some ⟨pb, 0, none⟩) ∧ Head w wc pb g cap' pc (.slice (some ⟨mb, mo, none⟩) xs.length cap) xs 0)
  case first =>
    refine wp_region_held_drew (S := fun w' => w'.cell? ⟨w.heap.size, 0, none⟩ = some (.int .i64 pc) ∧ w'.cell? ⟨w.heap.size, 1, none⟩ = some (.slice (some ⟨mb, mo, none⟩) xs.length cap) ∧ w'.cell? ⟨w.heap.size, 2, none⟩ = some (.int .i64 0)) (by kernel_rfl) (by refine ⟨?_, ?_, ?_⟩ <;> go_simp) (fun hHeld => ?_)
    refine hd_take (i := 0) (some 9) (v := ?v0) rfl rfl (by kernel_rfl) (by kernel_rfl) (by kernel_rfl) (fun _ _ _ h => h) (by rfl) ?h0 (by assumption) ?r0
    case h0 =>
      intro w hSw
      (try dsimp only at hSw)
      go_simp
      (try with_reducible rfl)
    try simp only [Act.put, List.setIfInBounds_toArray, List.set_cons_zero, List.set_cons_succ]
    refine hd_take (i := 1) (some 10) (v := ?v1) rfl rfl (by kernel_rfl) (by kernel_rfl) (by kernel_rfl) (fun _ _ _ h => h) (by rfl) ?h1 (by assumption) ?r1
    case h1 =>
      intro w hSw
      (try dsimp only at hSw)
      go_simp
      (try with_reducible rfl)
    try simp only [Act.put, List.setIfInBounds_toArray, List.set_cons_zero, List.set_cons_succ]
    refine hd_take (i := 3) (some 12) (v := ?v3) rfl rfl (by kernel_rfl) (by kernel_rfl) (by kernel_rfl) (fun _ _ _ h => h) (by rfl) ?h3 (by assumption) ?r3
    case h3 =>
      intro w hSw
      (try dsimp only at hSw)
      go_simp
      (try with_reducible rfl)
    try simp only [Act.put, List.setIfInBounds_toArray, List.set_cons_zero, List.set_cons_succ]
    refine hd_take (i := 4) (some 13) (v := ?v4) rfl rfl (by kernel_rfl) (by kernel_rfl) (by kernel_rfl) (fun _ _ _ h => h) (by rfl) ?h4 (by assumption) ?r4
    case h4 =>
      intro w hSw
      (try dsimp only at hSw)
      go_simp
      (try with_reducible rfl)
    try simp only [Act.put, List.setIfInBounds_toArray, List.set_cons_zero, List.set_cons_succ]
    refine hd_take (i := 6) (some 15) (v := ?v6) rfl rfl (by kernel_rfl) (by kernel_rfl) (by kernel_rfl) (fun _ _ _ h => h) (by rfl) ?h6 (by assumption) ?r6
    case h6 =>
      intro w hSw
      (try dsimp only at hSw)
      go_simp
      (try with_reducible rfl)
    try simp only [Act.put, List.setIfInBounds_toArray, List.set_cons_zero, List.set_cons_succ]
    refine hd_take (i := 7) (some 16) (v := ?v7) rfl rfl (by kernel_rfl) (by kernel_rfl) (by kernel_rfl) (fun _ _ _ h => h) (by rfl) ?h7 (by assumption) ?r7
    case h7 =>
      intro w hSw
      (try dsimp only at hSw)
      go_simp
      (try with_reducible rfl)
    try simp only [Act.put, List.setIfInBounds_toArray, List.set_cons_zero, List.set_cons_succ]
    refine wpAnyH_ready (rs := [2, 9]) (by kernel_rfl) (by simp) ?_
    refine AllReadyH.cons rfl (fun K hK => ?_) (AllReadyH.cons rfl (fun K hK => ?_) AllReadyH.nil)
    · go_simp
      refine hK.out _ _ (by refine ⟨?_, ?_, ?_⟩ <;> go_simp) (fun hH2 => ?_)
      clear hK K
      refine wpAnyH_ready (rs := [5, 9]) (by kernel_rfl) (by simp) ?_
      refine AllReadyH.cons rfl (fun K hK => ?_) (AllReadyH.cons rfl (fun K hK => ?_) AllReadyH.nil)
      · refine step_append_made _ (by rfl) _ _ _ (by rfl) (w.heap.size + 2) 21 i0 _ 1 4 Tryd.underlying23 hi hz0 hz1 hz2 rfl (by omega) ⟨w.heap.size + 2, 0, none⟩ 0 0 [] (by rfl) (by first | exact ownsRow_empty _ _ (by simp) (by omega) | exact ownsRow_empty2 _ _ _ (by simp) (by omega)) ⟨mb, mo, none⟩ xs.length cap (xs.map (Value.int .i32)) (by rfl) hlen (Hn.out.news' (by repeat (first | exact Below.refl _ _ | exact Nat.le_refl _ | apply Below.drew | (refine Below.alloc ?_ (by simp <;> omega) _)))) (one_i32 xs) hml hby (by simp <;> omega) ?_
        intro g cap' w1 hown hgrow
        refine hK.out _ _ (by refine ⟨?_, ?_, ?_⟩ <;> (rw [hgrow.cell_far _ (by simp <;> omega) (by simp <;> omega)]; go_simp)) (fun hH5 => ?_)
        clear hK K
        try simp only [Act.put, List.setIfInBounds_toArray, List.set_cons_zero, List.set_cons_succ]
        rw [Nat.zero_add, List.nil_append] at hown
        rw [Nat.zero_add]
        have hs1 := hgrow.size
        simp at hs1
        refine hd_take (i := 8) (some 17) (v := ?v8x1) rfl rfl (by kernel_rfl) (by kernel_rfl) (by kernel_rfl) (fun _ _ _ h => h) (by rfl) ?h8x1 (by assumption) ?r8x1
        case h8x1 =>
          intro w hSw
          (try dsimp only at hSw)
          go_simp
          (try with_reducible rfl)
        try simp only [Act.put, List.setIfInBounds_toArray, List.set_cons_zero, List.set_cons_succ]
        refine wpAnyH_ready (rs := [9]) (by kernel_rfl) (by simp) ?_
        refine AllReadyH.cons rfl (fun K hK => ?_) AllReadyH.nil
        go_simp
        refine hK.out _ _ (by refine ⟨?_, ?_, ?_⟩ <;> (rw [World.cell?_alloc_past _ _ _ (by omega)]; first | exact hH5.1 | exact hH5.2.1 | exact hH5.2.2)) (fun hH9 => ?_)
        clear hK K
        refine wpAnyH_ready (rs := [10]) (by kernel_rfl) (by simp) ?_
        refine AllReadyH.cons rfl (fun K hK => ?_) AllReadyH.nil
        go_simp
        refine hK.out _ _ (by refine ⟨?_, ?_, ?_⟩ <;> (rw [World.cell?_alloc_past _ _ _ (by omega)]; first | exact hH5.1 | exact hH5.2.1 | exact hH5.2.2)) (fun hH10 => ?_)
        clear hK K
        refine wpAnyH_done (by kernel_rfl) ?_ _
        go_wp2_with fail
        go_meet
        case rel => exact ⟨_, g, cap', rfl, head_new w _ w1 g cap' pc (.slice (some ⟨mb, mo, none⟩) xs.length cap) xs 0 hown hgrow (by repeat (first | exact Below.refl _ _ | exact Nat.le_refl _ | apply Below.drew | (refine Below.alloc ?_ (by simp <;> omega) _))) (by simp <;> omega) (by simp <;> omega) (fun i => by go_simp) (fun i => by go_simp) (fun i => by go_simp)⟩
      · go_simp
        refine hK.out _ _ (by refine ⟨?_, ?_, ?_⟩ <;> go_simp) (fun hH9 => ?_)
        clear hK K
        refine wpAnyH_ready (rs := [5]) (by kernel_rfl) (by simp) ?_
        refine AllReadyH.cons rfl (fun K hK => ?_) AllReadyH.nil
        refine step_append_made _ (by rfl) _ _ _ (by rfl) (w.heap.size + 2) 21 i0 _ 1 4 Tryd.underlying23 hi hz0 hz1 hz2 rfl (by omega) ⟨w.heap.size + 2, 0, none⟩ 0 0 [] (by rfl) (by first | exact ownsRow_empty _ _ (by simp) (by omega) | exact ownsRow_empty2 _ _ _ (by simp) (by omega)) ⟨mb, mo, none⟩ xs.length cap (xs.map (Value.int .i32)) (by rfl) hlen (Hn.out.news' (by repeat (first | exact Below.refl _ _ | exact Nat.le_refl _ | apply Below.drew | (refine Below.alloc ?_ (by simp <;> omega) _)))) (one_i32 xs) hml hby (by simp <;> omega) ?_
        intro g cap' w1 hown hgrow
        refine hK.out _ _ (by refine ⟨?_, ?_, ?_⟩ <;> (rw [hgrow.cell_far _ (by simp <;> omega) (by simp <;> omega)]; go_simp)) (fun hH5 => ?_)
        clear hK K
        try simp only [Act.put, List.setIfInBounds_toArray, List.set_cons_zero, List.set_cons_succ]
        rw [Nat.zero_add, List.nil_append] at hown
        rw [Nat.zero_add]
        have hs1 := hgrow.size
        simp at hs1
        have o0 : ∀ i, w1.cell? ⟨w.heap.size + 3, i, none⟩ = #[Value.int .i64 0, .slice none 0 0, .int .i64 0][i]? := fun i => (hgrow.cell_far _ (by simp <;> omega) (by simp <;> omega)).trans (by go_simp)
        have of : ∀ i, w1.frozen? ⟨w.heap.size + 3, i, none⟩ = false := fun i => (hgrow.frozen_far _ (by simp <;> omega) (by simp <;> omega)).trans (by go_simp)
        refine hd_take (i := 8) (some 17) (v := ?v8x2) rfl rfl (by kernel_rfl) (by kernel_rfl) (by kernel_rfl) (fun _ _ _ h => h) (by rfl) ?h8x2 (by assumption) ?r8x2
        case h8x2 =>
          intro w hSw
          (try dsimp only at hSw)
          go_simp
          (try with_reducible rfl)
        try simp only [Act.put, List.setIfInBounds_toArray, List.set_cons_zero, List.set_cons_succ]
        refine wpAnyH_ready (rs := [10]) (by kernel_rfl) (by simp) ?_
        refine AllReadyH.cons rfl (fun K hK => ?_) AllReadyH.nil
        go_simp
        refine hK.out _ _ (by refine ⟨?_, ?_, ?_⟩ <;> (rw [World.cell?_setCell_far _ _ _ _ (by simp <;> omega), World.cell?_setCell_far _ _ _ _ (by simp <;> omega), World.cell?_setCell_far _ _ _ _ (by simp <;> omega)]; first | exact hH5.1 | exact hH5.2.1 | exact hH5.2.2)) (fun hH10 => ?_)
        clear hK K
        refine wpAnyH_done (by kernel_rfl) ?_ _
        go_wp2_with fail
        go_meet
        case rel => exact ⟨_, g, cap', rfl, head_old w _ w1 _ _ g cap' pc (.slice (some ⟨mb, mo, none⟩) xs.length cap) xs 0 hown hgrow (by repeat (first | exact Below.refl _ _ | exact Nat.le_refl _ | apply Below.drew | (refine Below.alloc ?_ (by simp <;> omega) _))) (by simp <;> omega) (by simp <;> omega) (by simp <;> omega) (by simp <;> omega) (by simp <;> omega) (fun i => by go_simp) (fun i => by go_simp) (fun i => by go_simp) (by first | exact heap_at1 _ _ _ (by simp) | exact heap_at2 _ _ _ _ (by simp))⟩
    · go_simp
      refine hK.out _ _ (by refine ⟨?_, ?_, ?_⟩ <;> go_simp) (fun hH9 => ?_)
      clear hK K
      refine wpAnyH_ready (rs := [2]) (by kernel_rfl) (by simp) ?_
      refine AllReadyH.cons rfl (fun K hK => ?_) AllReadyH.nil
      go_simp
      refine hK.out _ _ (by refine ⟨?_, ?_, ?_⟩ <;> go_simp) (fun hH2 => ?_)
      clear hK K
      refine wpAnyH_ready (rs := [5]) (by kernel_rfl) (by simp) ?_
      refine AllReadyH.cons rfl (fun K hK => ?_) AllReadyH.nil
      refine step_append_made _ (by rfl) _ _ _ (by rfl) (w.heap.size + 2) 21 i0 _ 1 4 Tryd.underlying23 hi hz0 hz1 hz2 rfl (by omega) ⟨w.heap.size + 3, 0, none⟩ 0 0 [] (by rfl) (by first | exact ownsRow_empty _ _ (by simp) (by omega) | exact ownsRow_empty2 _ _ _ (by simp) (by omega)) ⟨mb, mo, none⟩ xs.length cap (xs.map (Value.int .i32)) (by rfl) hlen (Hn.out.news' (by repeat (first | exact Below.refl _ _ | exact Nat.le_refl _ | apply Below.drew | (refine Below.alloc ?_ (by simp <;> omega) _)))) (one_i32 xs) hml hby (by simp <;> omega) ?_
      intro g cap' w1 hown hgrow
      refine hK.out _ _ (by refine ⟨?_, ?_, ?_⟩ <;> (rw [hgrow.cell_far _ (by simp <;> omega) (by simp <;> omega)]; go_simp)) (fun hH5 => ?_)
      clear hK K
      try simp only [Act.put, List.setIfInBounds_toArray, List.set_cons_zero, List.set_cons_succ]
      rw [Nat.zero_add, List.nil_append] at hown
      rw [Nat.zero_add]
      have hs1 := hgrow.size
      simp at hs1
      have o0 : ∀ i, w1.cell? ⟨w.heap.size + 2, i, none⟩ = #[Value.int .i64 0, .slice none 0 0, .int .i64 0][i]? := fun i => (hgrow.cell_far _ (by simp <;> omega) (by simp <;> omega)).trans (by go_simp)
      have of : ∀ i, w1.frozen? ⟨w.heap.size + 2, i, none⟩ = false := fun i => (hgrow.frozen_far _ (by simp <;> omega) (by simp <;> omega)).trans (by go_simp)
      refine hd_take (i := 8) (some 17) (v := ?v8x3) rfl rfl (by kernel_rfl) (by kernel_rfl) (by kernel_rfl) (fun _ _ _ h => h) (by rfl) ?h8x3 (by assumption) ?r8x3
      case h8x3 =>
        intro w hSw
        (try dsimp only at hSw)
        go_simp
        (try with_reducible rfl)
      try simp only [Act.put, List.setIfInBounds_toArray, List.set_cons_zero, List.set_cons_succ]
      refine wpAnyH_ready (rs := [10]) (by kernel_rfl) (by simp) ?_
      refine AllReadyH.cons rfl (fun K hK => ?_) AllReadyH.nil
      go_simp
      refine hK.out _ _ (by refine ⟨?_, ?_, ?_⟩ <;> (rw [World.cell?_setCell_far _ _ _ _ (by simp <;> omega), World.cell?_setCell_far _ _ _ _ (by simp <;> omega), World.cell?_setCell_far _ _ _ _ (by simp <;> omega)]; first | exact hH5.1 | exact hH5.2.1 | exact hH5.2.2)) (fun hH10 => ?_)
      clear hK K
      refine wpAnyH_done (by kernel_rfl) ?_ _
      go_wp2_with fail
      go_meet
      case rel => exact ⟨_, g, cap', rfl, head_old w _ w1 _ _ g cap' pc (.slice (some ⟨mb, mo, none⟩) xs.length cap) xs 0 hown hgrow (by repeat (first | exact Below.refl _ _ | exact Nat.le_refl _ | apply Below.drew | (refine Below.alloc ?_ (by simp <;> omega) _))) (by simp <;> omega) (by simp <;> omega) (by simp <;> omega) (by simp <;> omega) (by simp <;> omega) (fun i => by go_simp) (fun i => by go_simp) (fun i => by go_simp) (by first | exact heap_at1 _ _ _ (by simp) | exact heap_at2 _ _ _ _ (by simp))⟩
  case rest =>
    obtain ⟨pb, g, cap', rfl, hH⟩ := hcut
    have HH := Lib.hid hH
    have bx := hH.box
    clear hH
    go_wp2_with fail
    refine (rright_any pc 0 _ _ _ _).mono ?_
    rintro e w1 ⟨rfl, hb1⟩
    have hs0 := HH.out.below.size
    have hpb := HH.out.lpb
    have hlp := HH.out.lp
    have bx1 : ∀ i, w1.cell? ⟨w.heap.size, i, none⟩ = #[Value.int .i64 pc, .slice (some ⟨mb, mo, none⟩) xs.length cap, .int .i64 0][i]? := fun i => (hb1.cell (p := ⟨w.heap.size, i, none⟩) (by show w.heap.size < _; omega)).trans (bx i)
    have HB1 := Lib.hid hb1
    clear bx hb1
    rw [Hr.out]
    go_wp2_with fail
    refine (rnext_yes pc _ _ _ l cv _ _ Hr.out ((Hc.out.below HH.out.below (Nat.le_refl _)).below HB1.out (Nat.le_refl _)) hll Hi.out).mono ?_
    rintro e w2 ⟨rfl, hb2⟩
    have hs1 := HB1.out.size
    have hs2 := hb2.size
    have HM2 : Hid (MSt w2 pb g cap' pc xs 0) := Lib.hid ((HH.out.st.below hx0 HB1.out).below hx0 hb2)
    have HB2 : Hid (Below w.heap.size w w2) := Lib.hid ((HH.out.below.trans (HB1.out.mono (by omega))).trans (hb2.mono (by omega)))
    have bx2 : ∀ i, w2.cell? ⟨w.heap.size, i, none⟩ = #[Value.int .i64 pc, .slice (some ⟨mb, mo, none⟩) xs.length cap, .int .i64 0][i]? := fun i => (hb2.cell (p := ⟨w.heap.size, i, none⟩) (by show w.heap.size < _; omega)).trans (bx1 i)
    have rs2 : ∀ i, w2.cell? ⟨w.heap.size + 1, i, none⟩ = #[Value.int .i64 0, .slice none 0 0, .int .i64 0][i]? := fun i => (hb2.cell (p := ⟨w.heap.size + 1, i, none⟩) (by show w.heap.size + 1 < _; omega)).trans ((HB1.out.cell (p := ⟨w.heap.size + 1, i, none⟩) (by show w.heap.size + 1 < _; omega)).trans (HH.out.res i))
    have fr2 : ∀ i, w2.frozen? ⟨w.heap.size + 1, i, none⟩ = false := fun i => (hb2.frozen (p := ⟨w.heap.size + 1, i, none⟩) (by show w.heap.size + 1 < _; omega)).trans ((HB1.out.frozen (p := ⟨w.heap.size + 1, i, none⟩) (by show w.heap.size + 1 < _; omega)).trans (HH.out.fres i))
    have mem2 : Hid (∀ k x, xs[k]? = some x → w2.cell? ⟨mb, mo + k, none⟩ = some (.int .i32 x)) := Lib.hid fun k x hx => (HB2.out.cell (p := ⟨mb, mo + k, none⟩) lm).trans (Hk.out k x hx)
    have lr2 : w.heap.size + 1 < w2.heap.size := by omega
    have lb2 : w.heap.size < w2.heap.size := by omega
    have lp2 : pb < w2.heap.size := by omega
    have lg2 : g < w2.heap.size := by have := HH.out.lgb; omega
    have lm2 : mb < w2.heap.size := by omega
    have hlw := lm
    have hpg := HH.out.st.ne
    have hlg := HH.out.lg
    have hlp' := HH.out.lp
    have q0 := HM2.out.st.c0
    have q1 := HM2.out.st.c1
    have q2 := HM2.out.st.c2
    have zp := HM2.out.fp
    have zg := HM2.out.fm
    clear bx1 hb2 hs0 hs1 hs2 hpb hlp
    go_upto_region 12 with (fail)
    obtain ⟨W, hW⟩ : ∃ W, W = (w2.setCell ⟨pb, 0, none⟩ (.int .i64 ((pc : Int) + 1))).alloc (.cells #[.int .i64 3, .int .i64 a, .int .i64 b, .int .i64 c] 58) := ⟨_, rfl⟩
    rw [← hW]
    obtain ⟨HM, HB, bxW, rsW, frW, memW, inW, szW⟩ := rdy HM2.out HB2.out hx0 bx2 rs2 fr2 mem2.out lm HH.out.lp lp2 lg2 hW
    replace HM := Lib.hid HM
    replace HB := Lib.hid HB
    replace memW := Lib.hid memW
    clear hW bx2 rs2 fr2 mem2 HM2 HB2 q0 q1 q2 zp zg
    have q0 := HM.out.st.c0
    have q1 := HM.out.st.c1
    have q2 := HM.out.st.c2
    have zp := HM.out.fp
    have zg := HM.out.fm
    generalize w2.heap.size = ib at *
    have lgW : g < W.heap.size := by omega
    have hbp : ¬ w.heap.size = pb := by omega
    have hbg : ¬ w.heap.size = g := by omega
    have hrp : ¬ w.heap.size + 1 = pb := by omega
    have hrg : ¬ w.heap.size + 1 = g := by omega
    have hig : ¬ ib = g := by omega
    have hip : ¬ ib = pb := by omega
    have hmp : ¬ mb = pb := by omega
    have hmg : ¬ mb = g := by omega
    have rdb := memW.out b _ (gx_at (show b < xs.length by omega))
    have lb : (b : Int) < (xs.length : Int) := by omega
    have rdc := memW.out c _ (gx_at (show c < xs.length by omega))
    have lc : (c : Int) < (xs.length : Int) := by omega
    obtain ⟨xa, ga⟩ : ∃ xa, W.cell? ⟨g, a, none⟩ = some xa := ⟨_, HM.out.cells a _ (gx_at (show a < xs.length by omega))⟩
    have lda : (a : Int) < (xs.length : Int) := by omega
    have B_b : -2147483648 ≤ gx xs b ∧ gx xs b ≤ 2147483647 := hW.gx (by omega)
    have B_c : -2147483648 ≤ gx xs c ∧ gx xs c ≤ 2147483647 := hW.gx (by omega)
    go_wp2_with fail
    go_still_tail 19, (by kernel_rfl)
    still_call ((rtwo_any 3 _ _ _ (by decide) (by decide) B_b.1 B_b.2 B_c.1 B_c.2).mono (by rintro e w' ⟨rfl, rfl⟩; exact ⟨rfl, rfl⟩))
    repeat still_step
    try refine wpStill_nil ?_
    go_wp2
    refine bodyPost_ret (v := .agg #[.int .i64 ((pc : Int) + 1), .slice (some ⟨g, 0, none⟩) xs.length cap', .int .i64 (0)]) (by simp [results, Tryd.results17, go_sem, *]) rfl ?_
    refine StPost.drew ?_
    exact fin (HM.out.setMem (a := a) (by omega) (twoP 3 (gx xs b) (gx xs c))) (HB.out.setCell (by show w.heap.size ≤ g; omega) _) HH.out.lk hx0 (wx_len _ _ _) hlg
end Go.Proofs.YteecpkkgjioplaaDoor

/- baizeref15.Step: rstep_4 -/
namespace Go.Proofs.YteecpkkgjioplaaDoor
open Go.RowKit Go

set_option linter.unusedSimpArgs false in
set_option linter.unusedVariables false in
set_option maxRecDepth 100000 in
set_option maxHeartbeats 4000000 in
theorem rstep_4 (pc : Nat) (ad : Addr) (cap : Nat) (xs : List Int) (cv : Value) (l : List Ins) (a b c : Int) (w : World) (h : I32s w (.slice (some ad) xs.length cap) xs) (hl : xs.length ≤ 300) (hr : rightSt pc xs.length 0 = true) (hc : InsS w cv l) (hll : l.length ≤ 300) (hW : W32 xs) (hi' : nextP l pc xs.length = some ⟨4, a, b, c⟩) :
    Calls Tryd.prog 17 #[cv, .agg #[.int .i64 pc, .slice (some ad) xs.length cap, .int .i64 0]] w fun e w' => StPost w ((pc : Int) + 1, wx xs a (twoP 4 (gx xs b) (gx xs c)), 0) e w' := by
  obtain ⟨i0, hi, hz0, hz1, hz2⟩ := info_parts info21
  have hlen : (xs.map (Value.int .i32)).length = xs.length * 1 := by simp
  have hml : 0 + xs.length ≤ maxLen := by unfold maxLen; omega
  have hby : (0 + xs.length) * 4 ≤ 140737488355328 := by omega
  obtain ⟨hri, hpc⟩ := nextP_right hi'
  simp only [Int.toNat_natCast] at hri hpc
  have hx0 : 0 < xs.length := by have := (rightSt_iff.1 hr).1; omega
  obtain ⟨ha0, ha1, hb0, hb1, hc0, hc1⟩ := right_www (by simp) hri
  obtain ⟨a, rfl⟩ := Int.eq_ofNat_of_zero_le ha0
  obtain ⟨b, rfl⟩ := Int.eq_ofNat_of_zero_le hb0
  obtain ⟨c, rfl⟩ := Int.eq_ofNat_of_zero_le hc0
  obtain ⟨mb, mo, rfl, lm, hk⟩ := h.look hx0
  have Hk := Lib.hid hk
  have Hn := Lib.hid h
  have Hr := Lib.hid hr
  have Hri := Lib.hid hri
  have Hc := Lib.hid hc
  have Hi := Lib.hid hi'
  have pc0 : (pc : Int) ≤ 300 := by omega
  clear h hr hc hi' hri hk
  go_enter Tryd.func17, Tryd.ntmps17
  go_upto_region 1 with (fail)
  go_cut [5] (fun v5 wc => ∃ pb g cap', v5 = .pointer (some ⟨pb, 0, none⟩) ∧ Head w wc pb g cap' pc (.slice (some ⟨mb, mo, none⟩) xs.length cap) xs 0)
  case first =>
    refine wp_region_held_drew (S := fun w' => w'.cell? ⟨w.heap.size, 0, none⟩ = some (.int .i64 pc) ∧ w'.cell? ⟨w.heap.size, 1, none⟩ = some (.slice (some ⟨mb, mo, none⟩) xs.length cap) ∧ w'.cell? ⟨w.heap.size, 2, none⟩ = some (.int .i64 0)) (by kernel_rfl) (by refine ⟨?_, ?_, ?_⟩ <;> go_simp) (fun hHeld => ?_)
    refine hd_take (i := 0) (some 9) (v := ?v0) rfl rfl (by kernel_rfl) (by kernel_rfl) (by kernel_rfl) (fun _ _ _ h => h) (by rfl) ?h0 (by assumption) ?r0
    case h0 =>
      intro w hSw
      (try dsimp only at hSw)
      go_simp
      (try with_reducible rfl)
    try simp only [Act.put, List.setIfInBounds_toArray, List.set_cons_zero, List.set_cons_succ]
    refine hd_take (i := 1) (some 10) (v := ?v1) rfl rfl (by kernel_rfl) (by kernel_rfl) (by kernel_rfl) (fun _ _ _ h => h) (by rfl) ?h1 (by assumption) ?r1
    case h1 =>
      intro w hSw
      (try dsimp only at hSw)
      go_simp
      (try with_reducible rfl)
    try simp only [Act.put, List.setIfInBounds_toArray, List.set_cons_zero, List.set_cons_succ]
    refine hd_take (i := 3) (some 12) (v := ?v3) rfl rfl (by kernel_rfl) (by kernel_rfl) (by kernel_rfl) (fun _ _ _ h => h) (by rfl) ?h3 (by assumption) ?r3
    case h3 =>
      intro w hSw
      (try dsimp only at hSw)
      go_simp
      (try with_reducible rfl)
    try simp only [Act.put, List.setIfInBounds_toArray, List.set_cons_zero, List.set_cons_succ]
    refine hd_take (i := 4) (some 13) (v := ?v4) rfl rfl (by kernel_rfl) (by kernel_rfl) (by kernel_rfl) (fun _ _ _ h => h) (by rfl) ?h4 (by assumption) ?r4
    case h4 =>
      intro w hSw
      (try dsimp only at hSw)
      go_simp
      (try with_reducible rfl)
    try simp only [Act.put, List.setIfInBounds_toArray, List.set_cons_zero, List.set_cons_succ]
    refine hd_take (i := 6) (some 15) (v := ?v6) rfl rfl (by kernel_rfl) (by kernel_rfl) (by kernel_rfl) (fun _ _ _ h => h) (by rfl) ?h6 (by assumption) ?r6
    case h6 =>
      intro w hSw
      (try dsimp only at hSw)
      go_simp
      (try with_reducible rfl)
    try simp only [Act.put, List.setIfInBounds_toArray, List.set_cons_zero, List.set_cons_succ]
    refine hd_take (i := 7) (some 16) (v := ?v7) rfl rfl (by kernel_rfl) (by kernel_rfl) (by kernel_rfl) (fun _ _ _ h => h) (by rfl) ?h7 (by assumption) ?r7
    case h7 =>
      intro w hSw
      (try dsimp only at hSw)
      go_simp
      (try with_reducible rfl)
    try simp only [Act.put, List.setIfInBounds_toArray, List.set_cons_zero, List.set_cons_succ]
    refine wpAnyH_ready (rs := [2, 9]) (by kernel_rfl) (by simp) ?_
    refine AllReadyH.cons rfl (fun K hK => ?_) (AllReadyH.cons rfl (fun K hK => ?_) AllReadyH.nil)
    · go_simp
      refine hK.out _ _ (by refine ⟨?_, ?_, ?_⟩ <;> go_simp) (fun hH2 => ?_)
      clear hK K
      refine wpAnyH_ready (rs := [5, 9]) (by kernel_rfl) (by simp) ?_
      refine AllReadyH.cons rfl (fun K hK => ?_) (AllReadyH.cons rfl (fun K hK => ?_) AllReadyH.nil)
      · refine step_append_made _ (by rfl) _ _ _ (by rfl) (w.heap.size + 2) 21 i0 _ 1 4 Tryd.underlying23 hi hz0 hz1 hz2 rfl (by omega) ⟨w.heap.size + 2, 0, none⟩ 0 0 [] (by rfl) (by first | exact ownsRow_empty _ _ (by simp) (by omega) | exact ownsRow_empty2 _ _ _ (by simp) (by omega)) ⟨mb, mo, none⟩ xs.length cap (xs.map (Value.int .i32)) (by rfl) hlen (Hn.out.news' (by repeat (first | exact Below.refl _ _ | exact Nat.le_refl _ | apply Below.drew | (refine Below.alloc ?_ (by simp <;> omega) _)))) (one_i32 xs) hml hby (by simp <;> omega) ?_
        intro g cap' w1 hown hgrow
        refine hK.out _ _ (by refine ⟨?_, ?_, ?_⟩ <;> (rw [hgrow.cell_far _ (by simp <;> omega) (by simp <;> omega)]; go_simp)) (fun hH5 => ?_)
        clear hK K
        try simp only [Act.put, List.setIfInBounds_toArray, List.set_cons_zero, List.set_cons_succ]
        rw [Nat.zero_add, List.nil_append] at hown
        rw [Nat.zero_add]
        have hs1 := hgrow.size
        simp at hs1
        refine hd_take (i := 8) (some 17) (v := ?v8x1) rfl rfl (by kernel_rfl) (by kernel_rfl) (by kernel_rfl) (fun _ _ _ h => h) (by rfl) ?h8x1 (by assumption) ?r8x1
        case h8x1 =>
          intro w hSw
          (try dsimp only at hSw)
          go_simp
          (try with_reducible rfl)
        try simp only [Act.put, List.setIfInBounds_toArray, List.set_cons_zero, List.set_cons_succ]
        refine wpAnyH_ready (rs := [9]) (by kernel_rfl) (by simp) ?_
        refine AllReadyH.cons rfl (fun K hK => ?_) AllReadyH.nil
        go_simp
        refine hK.out _ _ (by refine ⟨?_, ?_, ?_⟩ <;> (rw [World.cell?_alloc_past _ _ _ (by omega)]; first | exact hH5.1 | exact hH5.2.1 | exact hH5.2.2)) (fun hH9 => ?_)
        clear hK K
        refine wpAnyH_ready (rs := [10]) (by kernel_rfl) (by simp) ?_
        refine AllReadyH.cons rfl (fun K hK => ?_) AllReadyH.nil
        go_simp
        refine hK.out _ _ (by refine ⟨?_, ?_, ?_⟩ <;> (rw [World.cell?_alloc_past _ _ _ (by omega)]; first | exact hH5.1 | exact hH5.2.1 | exact hH5.2.2)) (fun hH10 => ?_)
        clear hK K
        refine wpAnyH_done (by kernel_rfl) ?_ _
        go_wp2_with fail
        go_meet
        case rel => exact ⟨_, g, cap', rfl, head_new w _ w1 g cap' pc (.slice (some ⟨mb, mo, none⟩) xs.length cap) xs 0 hown hgrow (by repeat (first | exact Below.refl _ _ | exact Nat.le_refl _ | apply Below.drew | (refine Below.alloc ?_ (by simp <;> omega) _))) (by simp <;> omega) (by simp <;> omega) (fun i => by go_simp) (fun i => by go_simp) (fun i => by go_simp)⟩
      · go_simp
        refine hK.out _ _ (by refine ⟨?_, ?_, ?_⟩ <;> go_simp) (fun hH9 => ?_)
        clear hK K
        refine wpAnyH_ready (rs := [5]) (by kernel_rfl) (by simp) ?_
        refine AllReadyH.cons rfl (fun K hK => ?_) AllReadyH.nil
        refine step_append_made _ (by rfl) _ _ _ (by rfl) (w.heap.size + 2) 21 i0 _ 1 4 Tryd.underlying23 hi hz0 hz1 hz2 rfl (by omega) ⟨w.heap.size + 2, 0, none⟩ 0 0 [] (by rfl) (by first | exact ownsRow_empty _ _ (by simp) (by omega) | exact ownsRow_empty2 _ _ _ (by simp) (by omega)) ⟨mb, mo, none⟩ xs.length cap (xs.map (Value.int .i32)) (by rfl) hlen (Hn.out.news' (by repeat (first | exact Below.refl _ _ | exact Nat.le_refl _ | apply Below.drew | (refine Below.alloc ?_ (by simp <;> omega) _)))) (one_i32 xs) hml hby (by simp <;> omega) ?_
        intro g cap' w1 hown hgrow
        refine hK.out _ _ (by refine ⟨?_, ?_, ?_⟩ <;> (rw [hgrow.cell_far _ (by simp <;> omega) (by simp <;> omega)]; go_simp)) (fun hH5 => ?_)
        clear hK K
        try simp only [Act.put, List.setIfInBounds_toArray, List.set_cons_zero, List.set_cons_succ]
        rw [Nat.zero_add, List.nil_append] at hown
        rw [Nat.zero_add]
        have hs1 := hgrow.size
        simp at hs1
        have o0 : ∀ i, w1.cell? ⟨w.heap.size + 3, i, none⟩ = #[Value.int .i64 0, .slice none 0 0, .int .i64 0][i]? := fun i => (hgrow.cell_far _ (by simp <;> omega) (by simp <;> omega)).trans (by go_simp)
        have of : ∀ i, w1.frozen? ⟨w.heap.size + 3, i, none⟩ = false := fun i => (hgrow.frozen_far _ (by simp <;> omega) (by simp <;> omega)).trans (by go_simp)
        refine hd_take (i := 8) (some 17) (v := ?v8x2) rfl rfl (by kernel_rfl) (by kernel_rfl) (by kernel_rfl) (fun _ _ _ h => h) (by rfl) ?h8x2 (by assumption) ?r8x2
        case h8x2 =>
          intro w hSw
          (try dsimp only at hSw)
          go_simp
          (try with_reducible rfl)
        try simp only [Act.put, List.setIfInBounds_toArray, List.set_cons_zero, List.set_cons_succ]
        refine wpAnyH_ready (rs := [10]) (by kernel_rfl) (by simp) ?_
        refine AllReadyH.cons rfl (fun K hK => ?_) AllReadyH.nil
        go_simp
        refine hK.out _ _ (by refine ⟨?_, ?_, ?_⟩ <;> (rw [World.cell?_setCell_far _ _ _ _ (by simp <;> omega), World.cell?_setCell_far _ _ _ _ (by simp <;> omega), World.cell?_setCell_far _ _ _ _ (by simp <;> omega)]; first | exact hH5.1 | exact hH5.2.1 | exact hH5.2.2)) (fun hH10 => ?_)
        clear hK K
        refine wpAnyH_done (by kernel_rfl) ?_ _
        go_wp2_with fail
        go_meet
        case rel => exact ⟨_, g, cap', rfl, head_old w _ w1 _ _ g cap' pc (.slice (some ⟨mb, mo, none⟩) xs.length cap) xs 0 hown hgrow (by repeat (first | exact Below.refl _ _ | exact Nat.le_refl _ | apply Below.drew | (refine Below.alloc ?_ (by simp <;> omega) _))) (by simp <;> omega) (by simp <;> omega) (by simp <;> omega) (by simp <;> omega) (by simp <;> omega) (fun i => by go_simp) (fun i => by go_simp) (fun i => by go_simp) (by first | exact heap_at1 _ _ _ (by simp) | exact heap_at2 _ _ _ _ (by simp))⟩
    · go_simp
      refine hK.out _ _ (by refine ⟨?_, ?_, ?_⟩ <;> go_simp) (fun hH9 => ?_)
      clear hK K
      refine wpAnyH_ready (rs := [2]) (by kernel_rfl) (by simp) ?_
      refine AllReadyH.cons rfl (fun K hK => ?_) AllReadyH.nil
      go_simp
      refine hK.out _ _ (by refine ⟨?_, ?_, ?_⟩ <;> go_simp) (fun hH2 => ?_)
      clear hK K
      refine wpAnyH_ready (rs := [5]) (by kernel_rfl) (by simp) ?_
      refine AllReadyH.cons rfl (fun K hK => ?_) AllReadyH.nil
      refine step_append_made _ (by rfl) _ _ _ (by rfl) (w.heap.size + 2) 21 i0 _ 1 4 Tryd.underlying23 hi hz0 hz1 hz2 rfl (by omega) ⟨w.heap.size + 3, 0, none⟩ 0 0 [] (by rfl) (by first | exact ownsRow_empty _ _ (by simp) (by omega) | exact ownsRow_empty2 _ _ _ (by simp) (by omega)) ⟨mb, mo, none⟩ xs.length cap (xs.map (Value.int .i32)) (by rfl) hlen (Hn.out.news' (by repeat (first | exact Below.refl _ _ | exact Nat.le_refl _ | apply Below.drew | (refine Below.alloc ?_ (by simp <;> omega) _)))) (one_i32 xs) hml hby (by simp <;> omega) ?_
      intro g cap' w1 hown hgrow
      refine hK.out _ _ (by refine ⟨?_, ?_, ?_⟩ <;> (rw [hgrow.cell_far _ (by simp <;> omega) (by simp <;> omega)]; go_simp)) (fun hH5 => ?_)
      clear hK K
      try simp only [Act.put, List.setIfInBounds_toArray, List.set_cons_zero, List.set_cons_succ]
      rw [Nat.zero_add, List.nil_append] at hown
      rw [Nat.zero_add]
      have hs1 := hgrow.size
      simp at hs1
      have o0 : ∀ i, w1.cell? ⟨w.heap.size + 2, i, none⟩ = #[Value.int .i64 0, .slice none 0 0, .int .i64 0][i]? := fun i => (hgrow.cell_far _ (by simp <;> omega) (by simp <;> omega)).trans (by go_simp)
      have of : ∀ i, w1.frozen? ⟨w.heap.size + 2, i, none⟩ = false := fun i => (hgrow.frozen_far _ (by simp <;> omega) (by simp <;> omega)).trans (by go_simp)
      refine hd_take (i := 8) (some 17) (v := ?v8x3) rfl rfl (by kernel_rfl) (by kernel_rfl) (by kernel_rfl) (fun _ _ _ h => h) (by rfl) ?h8x3 (by assumption) ?r8x3
      case h8x3 =>
        intro w hSw
        (try dsimp only at hSw)
        go_simp
        (try with_reducible rfl)
      try simp only [Act.put, List.setIfInBounds_toArray, List.set_cons_zero, List.set_cons_succ]
      refine wpAnyH_ready (rs := [10]) (by kernel_rfl) (by simp) ?_
      refine AllReadyH.cons rfl (fun K hK => ?_) AllReadyH.nil
      go_simp
      refine hK.out _ _ (by refine ⟨?_, ?_, ?_⟩ <;> (rw [World.cell?_setCell_far _ _ _ _ (by simp <;> omega), World.cell?_setCell_far _ _ _ _ (by simp <;> omega), World.cell?_setCell_far _ _ _ _ (by simp <;> omega)]; first | exact hH5.1 | exact hH5.2.1 | exact hH5.2.2)) (fun hH10 => ?_)
      clear hK K
      refine wpAnyH_done (by kernel_rfl) ?_ _
      go_wp2_with fail
      go_meet
      case rel => exact ⟨_, g, cap', rfl, head_old w _ w1 _ _ g cap' pc (.slice (some ⟨mb, mo, none⟩) xs.length cap) xs 0 hown hgrow (by repeat (first | exact Below.refl _ _ | exact Nat.le_refl _ | apply Below.drew | (refine Below.alloc ?_ (by simp <;> omega) _))) (by simp <;> omega) (by simp <;> omega) (by simp <;> omega) (by simp <;> omega) (by simp <;> omega) (fun i => by go_simp) (fun i => by go_simp) (fun i => by go_simp) (by first | exact heap_at1 _ _ _ (by simp) | exact heap_at2 _ _ _ _ (by simp))⟩
  case rest =>
    obtain ⟨pb, g, cap', rfl, hH⟩ := hcut
    have HH := Lib.hid hH
    have bx := hH.box
    clear hH
    go_wp2_with fail
    refine (rright_any pc 0 _ _ _ _).mono ?_
    rintro e w1 ⟨rfl, hb1⟩
    have hs0 := HH.out.below.size
    have hpb := HH.out.lpb
    have hlp := HH.out.lp
    have bx1 : ∀ i, w1.cell? ⟨w.heap.size, i, none⟩ = #[Value.int .i64 pc, .slice (some ⟨mb, mo, none⟩) xs.length cap, .int .i64 0][i]? := fun i => (hb1.cell (p := ⟨w.heap.size, i, none⟩) (by show w.heap.size < _; omega)).trans (bx i)
    have HB1 := Lib.hid hb1
    clear bx hb1
    rw [Hr.out]
    go_wp2_with fail
    refine (rnext_yes pc _ _ _ l cv _ _ Hr.out ((Hc.out.below HH.out.below (Nat.le_refl _)).below HB1.out (Nat.le_refl _)) hll Hi.out).mono ?_
    rintro e w2 ⟨rfl, hb2⟩
    have hs1 := HB1.out.size
    have hs2 := hb2.size
    have HM2 : Hid (MSt w2 pb g cap' pc xs 0) := Lib.hid ((HH.out.st.below hx0 HB1.out).below hx0 hb2)
    have HB2 : Hid (Below w.heap.size w w2) := Lib.hid ((HH.out.below.trans (HB1.out.mono (by omega))).trans (hb2.mono (by omega)))
    have bx2 : ∀ i, w2.cell? ⟨w.heap.size, i, none⟩ = #[Value.int .i64 pc, .slice (some ⟨mb, mo, none⟩) xs.length cap, .int .i64 0][i]? := fun i => (hb2.cell (p := ⟨w.heap.size, i, none⟩) (by show w.heap.size < _; omega)).trans (bx1 i)
    have rs2 : ∀ i, w2.cell? ⟨w.heap.size + 1, i, none⟩ = #[Value.int .i64 0, .slice none 0 0, .int .i64 0][i]? := fun i => (hb2.cell (p := ⟨w.heap.size + 1, i, none⟩) (by show w.heap.size + 1 < _; omega)).trans ((HB1.out.cell (p := ⟨w.heap.size + 1, i, none⟩) (by show w.heap.size + 1 < _; omega)).trans (HH.out.res i))
    have fr2 : ∀ i, w2.frozen? ⟨w.heap.size + 1, i, none⟩ = false := fun i => (hb2.frozen (p := ⟨w.heap.size + 1, i, none⟩) (by show w.heap.size + 1 < _; omega)).trans ((HB1.out.frozen (p := ⟨w.heap.size + 1, i, none⟩) (by show w.heap.size + 1 < _; omega)).trans (HH.out.fres i))
    have mem2 : Hid (∀ k x, xs[k]? = some x → w2.cell? ⟨mb, mo + k, none⟩ = some (.int .i32 x)) := Lib.hid fun k x hx => (HB2.out.cell (p := ⟨mb, mo + k, none⟩) lm).trans (Hk.out k x hx)
    have lr2 : w.heap.size + 1 < w2.heap.size := by omega
    have lb2 : w.heap.size < w2.heap.size := by omega
    have lp2 : pb < w2.heap.size := by omega
    have lg2 : g < w2.heap.size := by have := HH.out.lgb; omega
    have lm2 : mb < w2.heap.size := by omega
    have hlw := lm
    have hpg := HH.out.st.ne
    have hlg := HH.out.lg
    have hlp' := HH.out.lp
    have q0 := HM2.out.st.c0
    have q1 := HM2.out.st.c1
    have q2 := HM2.out.st.c2
    have zp := HM2.out.fp
    have zg := HM2.out.fm
    clear bx1 hb2 hs0 hs1 hs2 hpb hlp
    go_upto_region 12 with (fail)
    obtain ⟨W, hW⟩ : ∃ W, W = (w2.setCell ⟨pb, 0, none⟩ (.int .i64 ((pc : Int) + 1))).alloc (.cells #[.int .i64 4, .int .i64 a, .int .i64 b, .int .i64 c] 58) := ⟨_, rfl⟩
    rw [← hW]
    obtain ⟨HM, HB, bxW, rsW, frW, memW, inW, szW⟩ := rdy HM2.out HB2.out hx0 bx2 rs2 fr2 mem2.out lm HH.out.lp lp2 lg2 hW
    replace HM := Lib.hid HM
    replace HB := Lib.hid HB
    replace memW := Lib.hid memW
    clear hW bx2 rs2 fr2 mem2 HM2 HB2 q0 q1 q2 zp zg
    have q0 := HM.out.st.c0
    have q1 := HM.out.st.c1
    have q2 := HM.out.st.c2
    have zp := HM.out.fp
    have zg := HM.out.fm
    generalize w2.heap.size = ib at *
    have lgW : g < W.heap.size := by omega
    have hbp : ¬ w.heap.size = pb := by omega
    have hbg : ¬ w.heap.size = g := by omega
    have hrp : ¬ w.heap.size + 1 = pb := by omega
    have hrg : ¬ w.heap.size + 1 = g := by omega
    have hig : ¬ ib = g := by omega
    have hip : ¬ ib = pb := by omega
    have hmp : ¬ mb = pb := by omega
    have hmg : ¬ mb = g := by omega
    have rdb := memW.out b _ (gx_at (show b < xs.length by omega))
    have lb : (b : Int) < (xs.length : Int) := by omega
    have rdc := memW.out c _ (gx_at (show c < xs.length by omega))
    have lc : (c : Int) < (xs.length : Int) := by omega
    obtain ⟨xa, ga⟩ : ∃ xa, W.cell? ⟨g, a, none⟩ = some xa := ⟨_, HM.out.cells a _ (gx_at (show a < xs.length by omega))⟩
    have lda : (a : Int) < (xs.length : Int) := by omega
    have B_b : -2147483648 ≤ gx xs b ∧ gx xs b ≤ 2147483647 := hW.gx (by omega)
    have B_c : -2147483648 ≤ gx xs c ∧ gx xs c ≤ 2147483647 := hW.gx (by omega)
    go_wp2_with fail
    go_still_tail 19, (by kernel_rfl)
    still_call ((rtwo_any 4 _ _ _ (by decide) (by decide) B_b.1 B_b.2 B_c.1 B_c.2).mono (by rintro e w' ⟨rfl, rfl⟩; exact ⟨rfl, rfl⟩))
    repeat still_step
    try refine wpStill_nil ?_
    go_wp2
    refine bodyPost_ret (v := .agg #[.int .i64 ((pc : Int) + 1), .slice (some ⟨g, 0, none⟩) xs.length cap', .int .i64 (0)]) (by simp [results, Tryd.results17, go_sem, *]) rfl ?_
    refine StPost.drew ?_
    exact fin (HM.out.setMem (a := a) (by omega) (twoP 4 (gx xs b) (gx xs c))) (HB.out.setCell (by show w.heap.size ≤ g; omega) _) HH.out.lk hx0 (wx_len _ _ _) hlg
end Go.Proofs.YteecpkkgjioplaaDoor
