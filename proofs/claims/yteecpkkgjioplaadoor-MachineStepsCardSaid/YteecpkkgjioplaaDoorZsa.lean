/- Texts of the proof, part 1 of 7. -/
import Derived.Test.YteecpkkgjioplaaDoorProg
import Derived.WalkKit
import Derived.WalkLawsBesides
import Derived.WalkSpells
import Derived.Outline
import Derived.Lib.Hide
import Derived.Deep.Light
import Derived.Tactics2
import Derived.StillTactics
import Derived.OwnWalk
import Derived.Laws.Pointers
import Derived.Laws.AppendOwnNone
import Derived.Deep.RegionHeld3
import Derived.Deep.AppendLies
import Derived.KernelRfl
import Derived.LoopN
import Derived.Deep.QuietTactic
import Derived.BigQuiet
import Derived.IntWalk
import Derived.MapKept
import Derived.StillTailTactics

namespace Go.Proofs.YteecpkkgjioplaaDoor
open Go.RowKit Go

theorem ret_bool {a b : Bool} (h : a = b) : Ending.returned (.bool a) = Ending.returned (.bool b) := by rw [h]
theorem ret_int {k : IntKind} {a b : Int} (h : a = b) : Ending.returned (.int k a) = Ending.returned (.int k b) := by rw [h]

def isP (n : Int) : Bool := decide (0 ≤ n) && decide (n < 22)
def numP (n : Int) : Bool := decide (-2147483648 ≤ n) && decide (n ≤ 2147483647)

theorem is_any (n : Int) (w : World) : Calls Tryd.prog 64 #[.int .i64 n] w fun e w' => e = .returned (.bool (isP n)) ∧ w = w' := by
  go_enter Tryd.func64, Tryd.ntmps64
  go_wp2
  all_goals (go_ret; exact ⟨ret_bool (by rw [Bool.eq_iff_iff]; simp [isP]; try omega), rfl⟩)

theorem right_any (n : Int) (w : World) : Calls Tryd.prog 65 #[.int .i64 n] w fun e w' => e = .returned (.bool (numP n)) ∧ w = w' := by
  go_enter Tryd.func65, Tryd.ntmps65
  go_wp2
  all_goals (go_ret; exact ⟨ret_bool (by rw [Bool.eq_iff_iff]; simp [numP]; try omega), rfl⟩)

theorem number_any (n : Int) (w : World) : Calls Tryd.prog 63 #[.int .i64 n] w fun e w' => e = .returned (.bool (numP n)) ∧ w = w' := by
  go_enter Tryd.func63, Tryd.ntmps63
  go_wp2
  all_goals (go_ret; exact ⟨ret_bool (by rw [Bool.eq_iff_iff]; simp [numP]; try omega), rfl⟩)

theorem three_any (o a b c : Int) (w : World) : Calls Tryd.prog 55 #[.agg #[.int .i64 o, .int .i64 a, .int .i64 b, .int .i64 c]] w fun e w' => e = .returned (.agg #[.int .i64 a, .int .i64 b, .int .i64 c]) ∧ Below w.heap.size w w' := by
  go_enter Tryd.func55, Tryd.ntmps55
  go_wp2
  exact bodyPost_ret (v := .agg #[.int .i64 a, .int .i64 b, .int .i64 c]) (by simp [results, Tryd.results55, go_sem]) rfl ⟨rfl, ((Below.refl _ _).alloc (Nat.le_refl _) _).alloc (by simp) _⟩

theorem three14_any (o a b c : Int) (w : World) : Calls Tryd.prog 61 #[.agg #[.int .i64 o, .int .i64 a, .int .i64 b, .int .i64 c]] w fun e w' => e = .returned (.agg #[.int .i64 a, .int .i64 b, .int .i64 c]) ∧ Below w.heap.size w w' := by
  go_enter Tryd.func61, Tryd.ntmps61
  go_wp2
  exact bodyPost_ret (v := .agg #[.int .i64 a, .int .i64 b, .int .i64 c]) (by simp [results, Tryd.results61, go_sem]) rfl ⟨rfl, ((Below.refl _ _).alloc (Nat.le_refl _) _).alloc (by simp) _⟩

def hasL : Nat → List UInt8
  | 0 => [110] | 1 => [119, 110] | 2 => [119, 119] | 3 => [119, 119, 119] | 4 => [119, 119, 119] | 5 => [119, 119, 119] | 6 => [119, 119, 119] | 7 => [119, 119, 119]
  | 8 => [119, 119, 119] | 9 => [119, 119, 119] | 10 => [119, 119, 119] | 11 => [119, 119, 119] | 12 => [119, 119, 119] | 13 => [119, 119, 119] | 14 => [119, 119]
  | 15 => [119, 119, 119] | 16 => [119, 119, 119] | 17 => [119, 110, 110] | 18 => [119, 119, 110] | 19 => [112] | 20 => [112, 119] | 21 => [112, 119] | _ => []
def hasB (n : Nat) : ByteArray := ⟨(hasL n).toArray⟩

/-- The table of operations lies where the program's text laid it. -/
def Ops (w : World) : Prop := ∀ n : Nat, n < 22 → w.cell? ⟨0, n * 2 + 1, none⟩ = some (.string (hasB n))
theorem Ops.size {w : World} (h : Ops w) : 0 < w.heap.size := by
  have := h 0 (by omega)
  unfold World.cell? at this
  split at this
  · rename_i hh
    exact (Array.getElem?_eq_some_iff.1 hh).1
  · cases this
theorem Ops.below {B : Nat} {w w' : World} (h : Ops w) (hb : Below B w w') (hB : 0 < B) : Ops w' :=
  fun n hn => (hb.cell (p := ⟨0, n * 2 + 1, none⟩) hB).trans (h n hn)
theorem Ops.alloc {w : World} (h : Ops w) (o : Obj) : Ops (w.alloc o) := h.below ((Below.refl w.heap.size w).alloc (Nat.le_refl _) o) h.size

def hasS (o : Int) : ByteArray := if isP o then hasB o.toNat else ⟨#[]⟩

theorem has_any (o a b c : Int) (w : World) (H : Ops w) :
    Calls Tryd.prog 56 #[.agg #[.int .i64 o, .int .i64 a, .int .i64 b, .int .i64 c]] w fun e w' => e = .returned (.string (hasS o)) ∧ Below w.heap.size w w' := by
  by_cases h : isP o = true
  · have hp := h
    simp [isP] at hp
    obtain ⟨h0, h1⟩ := hp
    obtain ⟨n, rfl⟩ := Int.eq_ofNat_of_zero_le h0
    have hc := H n (by omega)
    have hz := H.size
    have hs : hasS (n : Int) = hasB n := by simp [hasS, h]
    have Hs := Lib.hid hs
    clear hs
    go_enter Tryd.func56, Tryd.ntmps56
    go_wp2_with (first | (go_at_call 64; refine (is_any _ _).mono ?_; rintro e w' ⟨rfl, rfl⟩))
    go_ret
    exact ⟨by rw [Hs.out]; rfl, (Below.refl _ _).alloc (Nat.le_refl _) _⟩
  · have hs : hasS o = ⟨#[]⟩ := by simp [hasS, h]
    have hf : isP o = false := by simpa using h
    have Hs := Lib.hid hs
    clear hs h
    go_enter Tryd.func56, Tryd.ntmps56
    go_wp2_with (first | (go_at_call 64; refine (is_any _ _).mono ?_; rintro e w' ⟨rfl, rfl⟩))
    go_ret
    exact ⟨by rw [Hs.out]; rfl, (Below.refl _ _).alloc (Nat.le_refl _) _⟩

theorem hasList (n : Nat) (h : n < ([Value.string { data := #[110] }, Value.string { data := #[119, 110] }, Value.string { data := #[119, 119] }, Value.string { data := #[119, 119, 119] }, Value.string { data := #[119, 119, 119] }, Value.string { data := #[119, 119, 119] }, Value.string { data := #[119, 119, 119] }, Value.string { data := #[119, 119, 119] }, Value.string { data := #[119, 119, 119] }, Value.string { data := #[119, 119, 119] }, Value.string { data := #[119, 119, 119] }, Value.string { data := #[119, 119, 119] }, Value.string { data := #[119, 119, 119] }, Value.string { data := #[119, 119, 119] }, Value.string { data := #[119, 119] }, Value.string { data := #[119, 119, 119] }, Value.string { data := #[119, 119, 119] }, Value.string { data := #[119, 110, 110] }, Value.string { data := #[119, 119, 110] }, Value.string { data := #[112] }, Value.string { data := #[112, 119] }, Value.string { data := #[112, 119] }] : List Value).length) : ([Value.string { data := #[110] }, Value.string { data := #[119, 110] }, Value.string { data := #[119, 119] }, Value.string { data := #[119, 119, 119] }, Value.string { data := #[119, 119, 119] }, Value.string { data := #[119, 119, 119] }, Value.string { data := #[119, 119, 119] }, Value.string { data := #[119, 119, 119] }, Value.string { data := #[119, 119, 119] }, Value.string { data := #[119, 119, 119] }, Value.string { data := #[119, 119, 119] }, Value.string { data := #[119, 119, 119] }, Value.string { data := #[119, 119, 119] }, Value.string { data := #[119, 119, 119] }, Value.string { data := #[119, 119] }, Value.string { data := #[119, 119, 119] }, Value.string { data := #[119, 119, 119] }, Value.string { data := #[119, 110, 110] }, Value.string { data := #[119, 119, 110] }, Value.string { data := #[112] }, Value.string { data := #[112, 119] }, Value.string { data := #[112, 119] }] : List Value)[n] = .string (hasB n) := by
  match n, h with
  | 0, _ => rfl
  | 1, _ => rfl
  | 2, _ => rfl
  | 3, _ => rfl
  | 4, _ => rfl
  | 5, _ => rfl
  | 6, _ => rfl
  | 7, _ => rfl
  | 8, _ => rfl
  | 9, _ => rfl
  | 10, _ => rfl
  | 11, _ => rfl
  | 12, _ => rfl
  | 13, _ => rfl
  | 14, _ => rfl
  | 15, _ => rfl
  | 16, _ => rfl
  | 17, _ => rfl
  | 18, _ => rfl
  | 19, _ => rfl
  | 20, _ => rfl
  | 21, _ => rfl
  | n + 22, h => simp at h; omega

theorem has14_any (o : Int) (w : World) :
    Calls Tryd.prog 62 #[.int .i64 o] w fun e w' => e = .returned (.string (hasS o)) ∧ Below w.heap.size w w' := by
  by_cases h : isP o = true
  · have hp := h
    simp [isP] at hp
    obtain ⟨h0, h1⟩ := hp
    have hs : hasS o = hasB o.toNat := by simp [hasS, h]
    have Hs := Lib.hid hs
    clear hs h
    go_enter Tryd.func62, Tryd.ntmps62
    go_wp2_with fail
    go_ret
    exact ⟨by rw [Hs.out]; exact congrArg Ending.returned (hasList _ _), (Below.refl _ _).alloc (Nat.le_refl _) _⟩
  · have hs : hasS o = ⟨#[]⟩ := by simp [hasS, h]
    have Hs := Lib.hid hs
    clear hs
    have hp : o < 0 ∨ 21 < o := by simp [isP] at h; omega
    clear h
    rcases hp with hp | hp
    · go_enter Tryd.func62, Tryd.ntmps62
      go_wp2_with fail
      go_ret
      exact ⟨by rw [Hs.out]; rfl, Below.refl _ _⟩
    · go_enter Tryd.func62, Tryd.ntmps62
      go_wp2_with fail
      go_ret
      exact ⟨by rw [Hs.out]; rfl, Below.refl _ _⟩
end Go.Proofs.YteecpkkgjioplaaDoor

namespace Go.Proofs.YteecpkkgjioplaaDoor
open Go.RowKit Go

theorem keep {w w1 : World} {cs : Array Value} {T : TypeId} {m : Nat × Nat} (hb : Below (w.alloc (.cells cs T m)).heap.size (w.alloc (.cells cs T m)) w1) (i : Nat) :
    w1.cell? ⟨w.heap.size, i, none⟩ = cs[i]? := by
  rw [hb.cell (p := ⟨w.heap.size, i, none⟩) (by simp)]
  have : (w.alloc (.cells cs T m)).heap[w.heap.size]? = some (.cells cs T m) := by
    show (w.heap.push _)[w.heap.size]? = _
    simp
  simp only [World.cell?, this]
  simp

/-- What the k-th number of an instruction must be. -/
def okc (s : ByteArray) (k : Nat) (n size words : Int) : Bool :=
  if h : k < s.size then (if ((s[k].toNat : Int) == 119) = true then decide (0 ≤ n) && decide (n < words) else if ((s[k].toNat : Int) == 112) = true then decide (0 ≤ n) && decide (n < size) else numP n) else n == 0
def nth3 (a b c : Int) : Nat → Int | 0 => a | 1 => b | _ => c
def lastP (o a b c : Int) : Bool := if o = 0 then a == 0 || a == 1 else if o = 17 then decide (b ≤ c) else if o = 18 then decide (0 ≤ c) else true
def rightP (o a b c size words : Int) : Bool := isP o && okc (hasS o) 0 a size words && okc (hasS o) 1 b size words && okc (hasS o) 2 c size words && lastP o a b c

theorem hasS_size (o : Int) : (hasS o).size ≤ 3 := by
  unfold hasS
  split
  · rename_i h
    simp [isP] at h
    obtain ⟨n, rfl⟩ := Int.eq_ofNat_of_zero_le h.1
    have : n < 22 := by omega
    simp only [Int.toNat_natCast]
    match n, this with
    | 0, _ => decide
    | 1, _ => decide
    | 2, _ => decide
    | 3, _ => decide
    | 4, _ => decide
    | 5, _ => decide
    | 6, _ => decide
    | 7, _ => decide
    | 8, _ => decide
    | 9, _ => decide
    | 10, _ => decide
    | 11, _ => decide
    | 12, _ => decide
    | 13, _ => decide
    | 14, _ => decide
    | 15, _ => decide
    | 16, _ => decide
    | 17, _ => decide
    | 18, _ => decide
    | 19, _ => decide
    | 20, _ => decide
    | 21, _ => decide
    | n + 22, h => omega
  · decide

theorem right_no {o a b c size words : Int} {k : Nat} (hk : k < 3) (h : okc (hasS o) k (nth3 a b c k) size words = false) : rightP o a b c size words = false := by
  unfold rightP
  match k, hk with
  | 0, _ => simp [show okc (hasS o) 0 a size words = false from h]
  | 1, _ => simp [show okc (hasS o) 1 b size words = false from h]
  | 2, _ => simp [show okc (hasS o) 2 c size words = false from h]
theorem right_yes {o a b c size words : Int} (hi : isP o = true) (h : ∀ j, j < 3 → okc (hasS o) j (nth3 a b c j) size words = true) : rightP o a b c size words = lastP o a b c := by
  unfold rightP
  rw [hi, show okc (hasS o) 0 a size words = true from h 0 (by omega), show okc (hasS o) 1 b size words = true from h 1 (by omega), show okc (hasS o) 2 c size words = true from h 2 (by omega)]
  rfl
section
variable {s : ByteArray} {k : Nat} {n size words : Int} (h : k < s.size)
include h
theorem okc_wy (h1 : ((s[k].toNat : Int) == 119) = true) (h2 : 0 ≤ n) (h3 : (!decide (n < words)) = false) : okc s k n size words = true := by simp at h3; simp [okc, h, h1, h2, h3]
theorem okc_wn (h1 : ((s[k].toNat : Int) == 119) = true) (h3 : (!decide (n < words)) = true) : okc s k n size words = false := by simp at h3; simp [okc, h, h1]; omega
theorem okc_wm (h1 : ((s[k].toNat : Int) == 119) = true) (h3 : n < 0) : okc s k n size words = false := by simp [okc, h, h1]; omega
theorem okc_py (h1 : ((s[k].toNat : Int) == 119) = false) (h2 : ((s[k].toNat : Int) == 112) = true) (h2 : 0 ≤ n) (h3 : (!decide (n < size)) = false) : okc s k n size words = true := by simp at h3; simp [okc, *]
theorem okc_pn (h1 : ((s[k].toNat : Int) == 119) = false) (h2 : ((s[k].toNat : Int) == 112) = true) (h3 : (!decide (n < size)) = true) : okc s k n size words = false := by simp at h3; simp [okc, h, h1, h2]; omega
theorem okc_pm (h1 : ((s[k].toNat : Int) == 119) = false) (h2 : ((s[k].toNat : Int) == 112) = true) (h3 : n < 0) : okc s k n size words = false := by simp [okc, h, h1, h2]; omega
theorem okc_ny (h1 : ((s[k].toNat : Int) == 119) = false) (h2 : ((s[k].toNat : Int) == 112) = false) (h3 : (!numP n) = false) : okc s k n size words = true := by simp at h3; simp [okc, h, h1, h2, h3]
theorem okc_nn (h1 : ((s[k].toNat : Int) == 119) = false) (h2 : ((s[k].toNat : Int) == 112) = false) (h3 : (!numP n) = true) : okc s k n size words = false := by simp at h3; simp [okc, h, h1, h2, h3]
end
theorem okc_0y {s : ByteArray} {k : Nat} {n size words : Int} (h : ¬ k < s.size) (h3 : (!n == 0) = false) : okc s k n size words = true := by simp [okc, h] at *; exact h3
theorem okc_0n {s : ByteArray} {k : Nat} {n size words : Int} (h : ¬ k < s.size) (h3 : (!n == 0) = true) : okc s k n size words = false := by simp [okc, h] at *; exact h3
theorem last0y {o a b c size words : Int} (h : (o == 0) = true) (h1 : a = 0) (hr : rightP o a b c size words = lastP o a b c) : true = rightP o 0 b c size words := by
  subst h1; rw [hr]; simp at h; subst h; simp [lastP]
theorem last0 {o a b c : Int} (h : (o == 0) = true) : lastP o a b c = (a == 0 || a == 1) := by simp at h; subst h; simp [lastP]
theorem last17 {o a b c : Int} (h : (o == 0) = false) (h1 : (o == 17) = true) : lastP o a b c = decide (b ≤ c) := by simp at h h1; subst h1; simp [lastP]
theorem last18 {o a b c : Int} (h : (o == 0) = false) (h0 : (o == 17) = false) (h1 : (o == 18) = true) : lastP o a b c = decide (0 ≤ c) := by simp at h h1; subst h1; simp [lastP]
theorem lastn {o a b c : Int} (h : (o == 0) = false) (h0 : (o == 17) = false) (h1 : (o == 18) = false) : lastP o a b c = true := by simp at h h0 h1; simp [lastP, h, h0, h1]
theorem ix0 (a b c : Int) (w : World) : (Instr.index 79 (.agg #[.int .i64 a, .int .i64 b, .int .i64 c]) (.int .i64 0)).run Tryd.prog w = .ok (.int .i64 a) w := by kernel_rfl
theorem ix1 (a b c : Int) (w : World) : (Instr.index 79 (.agg #[.int .i64 a, .int .i64 b, .int .i64 c]) (.int .i64 1)).run Tryd.prog w = .ok (.int .i64 b) w := by kernel_rfl
theorem ix2 (a b c : Int) (w : World) : (Instr.index 79 (.agg #[.int .i64 a, .int .i64 b, .int .i64 c]) (.int .i64 2)).run Tryd.prog w = .ok (.int .i64 c) w := by kernel_rfl

theorem okc_next {s : ByteArray} {a b c size words : Int} {k : Nat} (h : ∀ j, j < k → okc s j (nth3 a b c j) size words = true) (hk : okc s k (nth3 a b c k) size words = true) : ∀ j, j < k + 1 → okc s j (nth3 a b c j) size words = true := by
  intro j hj
  by_cases e : j = k
  · subst e; exact hk
  · exact h j (by omega)

set_option maxHeartbeats 1000000 in
theorem iright_any (o a b c size words : Int) (w : World) (H : Ops w) :
    Calls Tryd.prog 54 #[.agg #[.int .i64 o, .int .i64 a, .int .i64 b, .int .i64 c], .int .i64 size, .int .i64 words] w fun e w' => e = .returned (.bool (rightP o a b c size words)) ∧ Below w.heap.size w w' := by
  by_cases hi : isP o = true
  · go_enter Tryd.func54, Tryd.ntmps54
    go_wp2_with (first | (go_at_call 64; refine (is_any _ _).mono ?_; rintro e w' ⟨rfl, rfl⟩) | fail)
    refine (has_any _ _ _ _ _ (H.alloc _)).mono ?_
    rintro e w1 ⟨rfl, hb1⟩
    have k1 := keep hb1
    have hz1 := hb1.size
    simp only [World.size_alloc] at hz1
    generalize hs : hasS o = s
    have Hs := Lib.hid hs
    clear hs
    go_wp2_with fail
    refine (three_any _ _ _ _ _).mono ?_
    rintro e w2 ⟨rfl, hb2⟩
    have k2 : ∀ i, w2.cell? ⟨w.heap.size, i, none⟩ = #[Value.int .i64 o, .int .i64 a, .int .i64 b, .int .i64 c][i]? := fun i => (hb2.cell (p := ⟨w.heap.size, i, none⟩) (by simp; omega)).trans (k1 i)
    clear k1
    go_wp2_with fail
    have hsz : s.size ≤ 3 := by rw [← Hs.out]; exact hasS_size o
    go_loop [19] (fun v => ∃ k : Nat, k ≤ 3 ∧ v = .int .i64 k ∧ ∀ j, j < k → okc s j (nth3 a b c j) size words = true) (fun v => 3 - (intOf v).toNat)
    case atStart => exact ⟨0, by omega, rfl, fun j hj => by omega⟩
    case round =>
      obtain ⟨k, hk, rfl, hall⟩ := hrel
      have Hall := Lib.hid hall
      clear hall
      by_cases hk3 : k < 3
      · have hix : ∀ w : World, (Instr.index 79 (.agg #[.int .i64 a, .int .i64 b, .int .i64 c]) (.int .i64 k)).run Tryd.prog w = .ok (.int .i64 (nth3 a b c k)) w := by
          intro w
          match k, hk3 with
          | 0, _ => exact ix0 a b c w
          | 1, _ => exact ix1 a b c w
          | 2, _ => exact ix2 a b c w
        go_wp2_with (first | (go_at_call 65; refine (right_any _ _).mono ?_; rintro e w' ⟨rfl, rfl⟩) | fail)
        all_goals first
          | (go_round
             case rel => exact ⟨k + 1, by omega, by go_num, okc_next Hall.out (by first | exact okc_wy ‹_› ‹_› ‹_› ‹_› | exact okc_py ‹_› ‹_› ‹_› ‹_› ‹_› | exact okc_ny ‹_› ‹_› ‹_› ‹_› | exact okc_0y ‹_› ‹_›)⟩
             case measure => simp [intOf]; omega)
          | (go_ret; exact ⟨ret_bool (right_no hk3 (by rw [Hs.out]; first | exact okc_wn ‹_› ‹_› ‹_› | exact okc_wm ‹_› ‹_› ‹_› | exact okc_pn ‹_› ‹_› ‹_› ‹_› | exact okc_pm ‹_› ‹_› ‹_› ‹_› | exact okc_nn ‹_› ‹_› ‹_› ‹_› | exact okc_0n ‹_› ‹_›)).symm, (((Below.refl _ _).alloc (Nat.le_refl _) _).trans (hb1.mono (by simp))).trans (hb2.mono (by omega))⟩)
      · have hall3 : ∀ j, j < 3 → okc s j (nth3 a b c j) size words = true := fun j hj => Hall.out j (by omega)
        have hr : rightP o a b c size words = lastP o a b c := right_yes hi (by rw [Hs.out]; exact hall3)
        have Hr := Lib.hid hr
        clear hr hall3
        have hB : Below w.heap.size w w2 := (((Below.refl _ _).alloc (Nat.le_refl _) _).trans (hb1.mono (by simp))).trans (hb2.mono (by omega))
        have HB := Lib.hid hB
        clear hB hb1 hb2 hz1
        go_wp2
        all_goals go_ret
        all_goals refine ⟨ret_bool ?_, HB.out⟩
        all_goals first
          | exact (Hr.out.trans (last0 ‹_›)).symm
          | exact (Hr.out.trans (last17 ‹_› ‹_›)).symm
          | exact (Hr.out.trans (last18 ‹_› ‹_› ‹_›)).symm
          | exact (Hr.out.trans (lastn ‹_› ‹_› ‹_›)).symm
          | exact last0y ‹_› ‹_› Hr.out
  · go_enter Tryd.func54, Tryd.ntmps54
    have hf : isP o = false := by simpa using hi
    clear hi
    go_wp2_with (first | (go_at_call 64; refine (is_any _ _).mono ?_; rintro e w' ⟨rfl, rfl⟩) | fail)
    go_ret
    exact ⟨ret_bool (by simp [rightP, hf]), (Below.refl _ _).alloc (Nat.le_refl _) _⟩
end Go.Proofs.YteecpkkgjioplaaDoor

namespace Go.Proofs.YteecpkkgjioplaaDoor
open Go.RowKit Go

theorem hasS_chars (o : Int) (k : Nat) (h : k < (hasS o).size) : (hasS o)[k] = 119 ∨ (hasS o)[k] = 112 ∨ (hasS o)[k] = 110 := by
  have key : ∀ n : Fin 22, ∀ k : Fin 3, ∀ h : k.val < (hasB n).size, (hasB n)[k.val] = 119 ∨ (hasB n)[k.val] = 112 ∨ (hasB n)[k.val] = 110 := by decide
  have h3 := hasS_size o
  revert h
  unfold hasS at *
  split
  · rename_i hp
    simp [isP] at hp
    intro h
    rw [if_pos (by simp [isP]; omega)] at h3
    exact key ⟨o.toNat, by omega⟩ ⟨k, by omega⟩ h
  · intro h
    exact absurd h (by simp [ByteArray.size])

section
variable {s : ByteArray} {k : Nat} {n size words : Int} (h : k < s.size)
include h
theorem okc_xy (h1 : ((s[k].toNat : Int) == 119) = false) (h2 : ((s[k].toNat : Int) == 112) = true) (h3 : 0 ≤ n) (h4 : n < size) : okc s k n size words = true := by simp [okc, *]
end
theorem bq {n m : Int} (h : n = m) : (n == m) = true := by simp [h]
theorem nbq {n m : Int} (h : ¬ n = m) : (n == m) = false := by simp [h]
theorem nd {n m : Int} (h : n < m) : (!decide (n < m)) = false := by simp [h]
theorem yd {n m : Int} (h : m ≤ n) : (!decide (n < m)) = true := by simp; exact h
theorem nle {n m : Nat} (h : m ≤ n) : ¬ n < m := by omega
theorem nn0 {n : Int} (h : (n != 0) = false) : (!n == 0) = false := h
theorem yn0 {n : Int} (h : (n != 0) = true) : (!n == 0) = true := h
theorem nch {c : UInt8} (h1 : ¬ (c.toNat : Int) = 119) (h2 : ¬ (c.toNat : Int) = 112) (h3 : ¬ (c.toNat : Int) = 110) : ¬ (c = 119 ∨ c = 112 ∨ c = 110) := by
  rintro (rfl | rfl | rfl)
  · exact h1 rfl
  · exact h2 rfl
  · exact h3 rfl
set_option maxHeartbeats 4000000 in
theorem right14_any (o a b c size words : Int) (w : World) :
    Calls Tryd.prog 41 #[.agg #[.int .i64 o, .int .i64 a, .int .i64 b, .int .i64 c], .int .i64 size, .int .i64 words] w fun e w' => e = .returned (.bool (rightP o a b c size words)) ∧ Below w.heap.size w w' := by
  by_cases hi : isP o = true
  · have hp := hi
    simp [isP] at hp
    obtain ⟨hp0, hp1⟩ := hp
    go_enter Tryd.func41, Tryd.ntmps41
    go_wp2_with fail
    refine (three14_any _ _ _ _ _).mono ?_
    rintro e w1 ⟨rfl, hb1⟩
    have k1 := keep hb1
    have hz1 := hb1.size
    simp only [World.size_alloc] at hz1
    have hlt : w.heap.size < w1.heap.size := by omega
    go_wp2_with fail
    refine (has14_any _ _).mono ?_
    rintro e w2 ⟨rfl, hb2⟩
    have a2 := keep hb2
    have hz2 := hb2.size
    simp only [World.size_alloc] at hz2
    have k2 : ∀ i, w2.cell? ⟨w.heap.size, i, none⟩ = #[Value.int .i64 o, Value.int .i64 a, Value.int .i64 b, Value.int .i64 c][i]? := fun i => (hb2.cell (p := ⟨w.heap.size, i, none⟩) (by simp; omega)).trans ((World.cell?_alloc_past _ _ _ hlt).trans (k1 i))
    clear k1
    generalize hs : hasS o = s
    have Hs := Lib.hid hs
    clear hs
    have HB : Hid (Below w.heap.size w w2) := Lib.hid (((((Below.refl _ _).alloc (Nat.le_refl _) _).trans (hb1.mono (by simp))).alloc (by omega) _).trans (hb2.mono (by simp; omega)))
    clear hb1 hb2
    go_wp2_with fail
    have hch : ∀ k (h : k < s.size), s[k] = 119 ∨ s[k] = 112 ∨ s[k] = 110 := by rw [← Hs.out]; exact hasS_chars o
    have Hch := Lib.hid hch
    clear hch
    have hsz : s.size ≤ 3 := by rw [← Hs.out]; exact hasS_size o
    go_loop [9] (fun v => ∃ k : Nat, k ≤ 3 ∧ v = .int .i64 k ∧ ∀ j, j < k → okc s j (nth3 a b c j) size words = true) (fun v => 3 - (intOf v).toNat)
    case atStart => exact ⟨0, by omega, rfl, fun j hj => by omega⟩
    case round =>
      obtain ⟨k, hk, rfl, hall⟩ := hrel
      have Hall := Lib.hid hall
      clear hall
      by_cases hk3 : k < 3
      · have hix : w2.cell? ⟨w1.heap.size, k, none⟩ = some (.int .i64 (nth3 a b c k)) := by
          rw [a2]
          match k, hk3 with
          | 0, _ => rfl
          | 1, _ => rfl
          | 2, _ => rfl
        clear a2 k2
        go_wp2_with (first | (go_at_call 63; refine (number_any _ _).mono ?_; rintro e w' ⟨rfl, rfl⟩) | fail)
        all_goals first
          | (go_round
             case rel => exact ⟨k + 1, by omega, by go_num, okc_next Hall.out (by go_light; first | exact okc_wy ‹_› (bq ‹_›) ‹_› (nd ‹_›) | exact okc_py ‹_› (nbq ‹_›) (bq ‹_›) ‹_› (nd ‹_›) | exact okc_ny ‹_› (nbq ‹_›) (nbq ‹_›) ‹_› | exact okc_0y (nle ‹_›) (nn0 ‹_›) | exact okc_wn ‹_› (bq ‹_›) (yd ‹_›) | exact okc_wm ‹_› (bq ‹_›) ‹_› | exact okc_pn ‹_› (nbq ‹_›) (bq ‹_›) (yd ‹_›) | exact okc_pm ‹_› (nbq ‹_›) (bq ‹_›) ‹_› | exact okc_nn ‹_› (nbq ‹_›) (nbq ‹_›) ‹_› | exact okc_0n (nle ‹_›) (yn0 ‹_›) | exact absurd (Hch.out k ‹_›) (nch ‹_› ‹_› ‹_›))⟩
             case measure => simp [intOf]; omega)
          | (go_ret; exact ⟨ret_bool (right_no hk3 (by rw [Hs.out]; go_light; first | exact okc_wy ‹_› (bq ‹_›) ‹_› (nd ‹_›) | exact okc_py ‹_› (nbq ‹_›) (bq ‹_›) ‹_› (nd ‹_›) | exact okc_ny ‹_› (nbq ‹_›) (nbq ‹_›) ‹_› | exact okc_0y (nle ‹_›) (nn0 ‹_›) | exact okc_wn ‹_› (bq ‹_›) (yd ‹_›) | exact okc_wm ‹_› (bq ‹_›) ‹_› | exact okc_pn ‹_› (nbq ‹_›) (bq ‹_›) (yd ‹_›) | exact okc_pm ‹_› (nbq ‹_›) (bq ‹_›) ‹_› | exact okc_nn ‹_› (nbq ‹_›) (nbq ‹_›) ‹_› | exact okc_0n (nle ‹_›) (yn0 ‹_›) | exact absurd (Hch.out k ‹_›) (nch ‹_› ‹_› ‹_›))).symm, HB.out⟩)
      · have hall3 : ∀ j, j < 3 → okc s j (nth3 a b c j) size words = true := fun j hj => Hall.out j (by omega)
        have hr : rightP o a b c size words = lastP o a b c := right_yes hi (by rw [Hs.out]; exact hall3)
        have Hr := Lib.hid hr
        clear hr hall3
        go_wp2
        all_goals go_ret
        all_goals refine ⟨ret_bool ?_, HB.out⟩
        all_goals (have hr := Hr.out; go_light; clear Hr; simp_all [lastP])
  · have hf : isP o = false := by simpa using hi
    have hp : o < 0 ∨ 21 < o := by simp [isP] at hf; omega
    clear hi
    have hr : rightP o a b c size words = false := by simp [rightP, hf]
    have Hr := Lib.hid hr
    clear hr hf
    rcases hp with hp | hp
    · go_enter Tryd.func41, Tryd.ntmps41
      go_wp2
      go_ret
      exact ⟨ret_bool Hr.out.symm, (Below.refl _ _).alloc (Nat.le_refl _) _⟩
    · go_enter Tryd.func41, Tryd.ntmps41
      go_wp2
      go_ret
      exact ⟨ret_bool Hr.out.symm, (Below.refl _ _).alloc (Nat.le_refl _) _⟩
end Go.Proofs.YteecpkkgjioplaaDoor

/- The machine's pure model: instructions, states, a step, runs. -/
namespace Go.Proofs.YteecpkkgjioplaaDoor
open Go.RowKit Go

/-- An instruction's four numbers. -/
structure Ins where
  o : Int
  a : Int
  b : Int
  c : Int
def Ins.cells (i : Ins) : List Value := [.int .i64 i.o, .int .i64 i.a, .int .i64 i.b, .int .i64 i.c]
def Ins.val (i : Ins) : Value := .agg #[.int .i64 i.o, .int .i64 i.a, .int .i64 i.b, .int .i64 i.c]
def codeCells (l : List Ins) : List Value := l.flatMap Ins.cells
theorem codeCells_len (l : List Ins) : (codeCells l).length = l.length * 4 := by
  induction l with
  | nil => rfl
  | cons i l ih => simp [codeCells, Ins.cells] at *; omega
theorem codeCells_take_succ (l : List Ins) (k : Nat) (h : k < l.length) : codeCells (l.take (k + 1)) = codeCells (l.take k) ++ l[k].cells := by
  unfold codeCells
  rw [List.take_succ_eq_append_getElem h, List.flatMap_append]
  simp
/-- Where instructions lie: four cells each, from a place on. -/
def InsAt (w : World) (b off : Nat) (l : List Ins) : Prop := ∀ k (h : k < l.length),
  w.cell? ⟨b, off + k * 4, none⟩ = some (.int .i64 l[k].o) ∧ w.cell? ⟨b, off + k * 4 + 1, none⟩ = some (.int .i64 l[k].a) ∧
  w.cell? ⟨b, off + k * 4 + 2, none⟩ = some (.int .i64 l[k].b) ∧ w.cell? ⟨b, off + k * 4 + 3, none⟩ = some (.int .i64 l[k].c)
theorem InsAt.below {B : Nat} {w w' : World} {b off : Nat} {l : List Ins} (h : InsAt w b off l) (hb : Below B w w') (hB : b < B) : InsAt w' b off l := by
  intro k hk
  obtain ⟨h0, h1, h2, h3⟩ := h k hk
  exact ⟨(hb.cell (by exact hB)).trans h0, (hb.cell (by exact hB)).trans h1, (hb.cell (by exact hB)).trans h2, (hb.cell (by exact hB)).trans h3⟩
end Go.Proofs.YteecpkkgjioplaaDoor

/- Helpers: slices of numbers that are read; appends at a step of a region that draws its order. -/
namespace Go.Proofs.YteecpkkgjioplaaDoor
open Go.RowKit Go

theorem info57 : (Tryd.prog.info? 57).map (fun i => (i.zero, i.size, i.bytes)) = some (some (.agg #[.int .i64 0, .int .i64 0, .int .i64 0, .int .i64 0]), 4, 32) := by kernel_rfl
theorem info21 : (Tryd.prog.info? 21).map (fun i => (i.zero, i.size, i.bytes)) = some (some (.int .i32 0), 1, 4) := by kernel_rfl

section
variable {P : Program} (w : World)
/-- 'append' to a row of the call's own, at a step of a region that draws its order; nothing may be appended too. -/
theorem step_append_own {ops : Array Oper} {o : Oper} {a : Act} {K : Act → World → Prop} {Q : Exit → Act → World → Prop} {E : Prop} (hgd : o.guard = none) (s x : Operand) (t : TypeId)
    (ho : o.op = .call { callee := .builtin .append, args := #[s, x], argTypes := #[t, t] })
    (base : Nat) (e : TypeId) (i : TypeInfo) (z : Value) (size bytes : Nat) (ht : P.underlying t = some (.slice e)) (hi : P.info? e = some i) (hz : i.zero = some z)
    (hsize : i.size = size) (hby : i.bytes = bytes) (hzs : z.cells.size = size) (hsz : 0 < size)
    (v : Value) (n : Nat) (xs : List Value) (hs : a.eval s = v) (hown : w.ownsRow base e size v n xs)
    (ad : Addr) (m c : Nat) (news : List Value) (hx : a.eval x = .slice (some ad) m c) (hl : news.length = m * size) (hnews : ∀ j u, news[j]? = some u → w.cell? (ad.add j) = some u) (h1 : ∀ u ∈ news, u.oneCell' = true)
    (h63 : n + m ≤ maxLen) (hbytes : (n + m) * bytes ≤ 140737488355328) (hbase : base ≤ w.heap.size)
    (h : ∀ v' w', w'.ownsRow base e size v' (n + m) (xs ++ news) → w.grownBy w' v.ownBlock → (v' = .slice none 0 0 ↔ v = .slice none 0 0 ∧ m = 0) → K (a.put o.dst v') w') :
    if Region.wanted o (yielded ops a.tmps) = true then Oper.wp P o a w K Q else E := by
  have hw : Region.wanted o (yielded ops a.tmps) = true := by simp [Region.wanted, hgd]
  rw [if_pos hw]
  exact wp_append_own w s x t ho base e i z size bytes ht hi hz hsize hby hzs hsz v n xs hs hown ad m c news hx hl hnews h1 h63 hbytes hbase h
/-- The same to a row that is not nil: what comes out is not nil. -/
theorem step_append_made {ops : Array Oper} {o : Oper} {a : Act} {K : Act → World → Prop} {Q : Exit → Act → World → Prop} {E : Prop} (hgd : o.guard = none) (s x : Operand) (t : TypeId)
    (ho : o.op = .call { callee := .builtin .append, args := #[s, x], argTypes := #[t, t] })
    (base : Nat) (e : TypeId) (i : TypeInfo) (z : Value) (size bytes : Nat) (ht : P.underlying t = some (.slice e)) (hi : P.info? e = some i) (hz : i.zero = some z)
    (hsize : i.size = size) (hby : i.bytes = bytes) (hzs : z.cells.size = size) (hsz : 0 < size)
    (v0 : Addr) (n k : Nat) (xs : List Value) (hs : a.eval s = .slice (some v0) n k) (hown : w.ownsRow base e size (.slice (some v0) n k) n xs)
    (ad : Addr) (m c : Nat) (news : List Value) (hx : a.eval x = .slice (some ad) m c) (hl : news.length = m * size) (hnews : ∀ j u, news[j]? = some u → w.cell? (ad.add j) = some u) (h1 : ∀ u ∈ news, u.oneCell' = true)
    (h63 : n + m ≤ maxLen) (hbytes : (n + m) * bytes ≤ 140737488355328) (hbase : base ≤ w.heap.size)
    (h : ∀ g cap w', w'.ownsRow base e size (.slice (some ⟨g, 0, none⟩) (n + m) cap) (n + m) (xs ++ news) → w.grownBy w' (some v0.block) → K (a.put o.dst (.slice (some ⟨g, 0, none⟩) (n + m) cap)) w') :
    if Region.wanted o (yielded ops a.tmps) = true then Oper.wp P o a w K Q else E := by
  refine step_append_own w hgd s x t ho base e i z size bytes ht hi hz hsize hby hzs hsz _ n xs hs hown ad m c news hx hl hnews h1 h63 hbytes hbase ?_
  intro v' w' hown' hgrow hnil
  rcases hown'.2 with ⟨hv, h0⟩ | ⟨g, cap, cur, hv, hg, hh, r⟩
  · have := (hnil.1 hv).1
    simp at this
  · subst hv
    have hg' : w.grownBy w' (some v0.block) := by
      have e0 : (Value.slice (some v0) n k).ownBlock = some v0.block := by
        rcases hown.2 with ⟨hv, _⟩ | ⟨g0, cap0, cur0, hv, _⟩
        · simp at hv
        · simp only [Value.slice.injEq, Option.some.injEq] at hv
          obtain ⟨rfl, _, _⟩ := hv
          rfl
      rw [e0] at hgrow
      exact hgrow
    exact h g cap w' hown' hg'
theorem step_append_own_none {ops : Array Oper} {o : Oper} {a : Act} {K : Act → World → Prop} {Q : Exit → Act → World → Prop} {E : Prop} (hgd : o.guard = none) (s x : Operand) (t : TypeId)
    (ho : o.op = .call { callee := .builtin .append, args := #[s, x], argTypes := #[t, t] })
    (base : Nat) (e : TypeId) (i : TypeInfo) (size : Nat) (ht : P.underlying t = some (.slice e)) (hi : P.info? e = some i)
    (v : Value) (n : Nat) (xs : List Value) (hs : a.eval s = v) (hown : w.ownsRow base e size v n xs) (hx : a.eval x = .slice none 0 0)
    (h : K (a.put o.dst v) w) :
    if Region.wanted o (yielded ops a.tmps) = true then Oper.wp P o a w K Q else E := by
  have hw : Region.wanted o (yielded ops a.tmps) = true := by simp [Region.wanted, hgd]
  rw [if_pos hw]
  have hrun := run_append_owned_none (P := P) (w := w) base t o.type e i size ht hi v n xs hown
  unfold Oper.wp
  simp [execOp, ho, resolve, invoke, builtin, hs, hx, hrun, Result.andThen]
  exact h
end

/-- THE SLICE VALUE v READS AS THE NUMBERS xs. -/
def I32s (w : World) (v : Value) (xs : List Int) : Prop := ∃ a cap, v = .slice a xs.length cap ∧ cap ≤ maxLen ∧ (a = none → xs = [] ∧ cap = 0) ∧
  ∀ ad, a = some ad → xs ≠ [] → ad.spot = none ∧ ad.block < w.heap.size ∧ ∀ k (h : k < xs.length), w.cell? ⟨ad.block, ad.off + k, none⟩ = some (.int .i32 xs[k])
theorem I32s.below {B : Nat} {w w' : World} {v : Value} {xs : List Int} (h : I32s w v xs) (hb : Below B w w') (hB : w.heap.size ≤ B) : I32s w' v xs := by
  obtain ⟨a, cap, hv, hc, h0, h1⟩ := h
  refine ⟨a, cap, hv, hc, h0, fun ad ha hx => ?_⟩
  obtain ⟨hs, hl, hk⟩ := h1 ad ha hx
  exact ⟨hs, Nat.lt_of_lt_of_le hl hb.size, fun k h => (hb.cell (p := ⟨ad.block, ad.off + k, none⟩) (Nat.lt_of_lt_of_le hl hB)).trans (hk k h)⟩
/-- The cells to be appended. -/
theorem I32s.news {w : World} {a : Addr} {n cap : Nat} {xs : List Int} (h : I32s w (.slice (some a) n cap) xs) : n = xs.length ∧ ∀ j u, (xs.map (Value.int .i32))[j]? = some u → w.cell? (a.add j) = some u := by
  obtain ⟨a', cap', hv, hc, h0, h1⟩ := h
  simp only [Value.slice.injEq] at hv
  obtain ⟨rfl, rfl, rfl⟩ := hv
  refine ⟨rfl, fun j u hu => ?_⟩
  simp only [List.getElem?_map, Option.map_eq_some_iff] at hu
  obtain ⟨x, hx, rfl⟩ := hu
  obtain ⟨hj, rfl⟩ := List.getElem?_eq_some_iff.1 hx
  obtain ⟨hs, hl, hk⟩ := h1 a rfl (by rintro rfl; simp at hj)
  have hadd : a.add j = ⟨a.block, a.off + j, none⟩ := by
    unfold Addr.add
    split
    · subst j; cases a; simp at hs; simp [hs]
    · rfl
  rw [hadd]
  exact hk j hj
theorem I32s.news' {w w' : World} {a : Addr} {n cap : Nat} {xs : List Int} (h : I32s w (.slice (some a) n cap) xs) (hb : Below w.heap.size w w') : ∀ j u, (xs.map (Value.int .i32))[j]? = some u → w'.cell? (a.add j) = some u :=
  (h.below hb (Nat.le_refl _)).news.2
theorem I32s.look {w : World} {a : Addr} {n cap : Nat} {xs : List Int} (h : I32s w (.slice (some a) n cap) xs) (hn : 0 < xs.length) :
    ∃ b off, a = ⟨b, off, none⟩ ∧ b < w.heap.size ∧ ∀ k x, xs[k]? = some x → w.cell? ⟨b, off + k, none⟩ = some (.int .i32 x) := by
  obtain ⟨a', cap', hv, hc, h0, h1⟩ := h
  simp only [Value.slice.injEq] at hv
  obtain ⟨rfl, rfl, rfl⟩ := hv
  obtain ⟨hs, hl, hk⟩ := h1 a rfl (by rintro rfl; simp at hn)
  obtain ⟨b, off, sp⟩ := a
  simp only at hs hl hk
  subst hs
  refine ⟨b, off, rfl, hl, fun k x hx => ?_⟩
  obtain ⟨hj, rfl⟩ := List.getElem?_eq_some_iff.1 hx
  exact hk k hj
theorem I32s.len {w : World} {a : Option Addr} {n cap : Nat} {xs : List Int} (h : I32s w (.slice a n cap) xs) : n = xs.length := by
  obtain ⟨a', cap', hv, hc, h0, h1⟩ := h
  simp only [Value.slice.injEq] at hv
  exact hv.2.1
theorem I32s.addr {w : World} {a : Option Addr} {n cap : Nat} {xs : List Int} (h : I32s w (.slice a n cap) xs) (hn : 0 < xs.length) : ∃ ad, a = some ad := by
  obtain ⟨a', cap', hv, hc, h0, h1⟩ := h
  simp only [Value.slice.injEq] at hv
  obtain ⟨rfl, rfl, rfl⟩ := hv
  rcases a with _ | ad
  · have := (h0 rfl).1; subst this; simp at hn
  · exact ⟨ad, rfl⟩
theorem below_alloc3 (w : World) (o1 o2 o3 : Obj) : Below w.heap.size w ((((w.alloc o1).alloc o2).alloc o3).drew) :=
  ((((Below.refl _ _).alloc (Nat.le_refl _) _).alloc (by simp) _).alloc (by simp; omega) _).drew
/-- A slice of no elements, just made, behind a draw. -/
theorem ownsRow_empty {base : Nat} {e : TypeId} {size : Nat} (w : World) (B : Nat) (hB : w.heap.size = B) (hb : base ≤ B) : (w.alloc (.cells #[] e)).drew.ownsRow base e size (.slice (some ⟨B, 0, none⟩) 0 0) 0 [] := by
  subst hB
  exact (World.ownsRow_made w #[] 0 hb (by unfold maxLen; omega) (by simp)).drew
theorem ownsRow_mono {w : World} {base base' : Nat} {e : TypeId} {size : Nat} {v : Value} {n : Nat} {xs : List Value} (h : w.ownsRow base e size v n xs) (hb : base' ≤ base) : w.ownsRow base' e size v n xs := by
  obtain ⟨h1, h2⟩ := h
  refine ⟨h1, h2.imp id ?_⟩
  rintro ⟨g, cap, cur, hv, hg, r⟩
  exact ⟨g, cap, cur, hv, Nat.le_trans hb hg, r⟩
theorem one_i32 (xs : List Int) : ∀ u ∈ xs.map (Value.int .i32), u.oneCell' = true := by
  intro u hu
  simp at hu
  obtain ⟨x, _, rfl⟩ := hu
  rfl
theorem I32s.own {w : World} {base : Nat} {v : Value} {xs : List Int} (h : w.ownsRow base 21 1 v xs.length (xs.map (Value.int .i32))) : I32s w v xs := by
  rcases h.2 with ⟨hv, h0⟩ | ⟨g, cap, cur, hv, hg, hh, hn, hm, hs, hx⟩
  · subst hv
    have : xs = [] := List.length_eq_zero_iff.1 h0
    subst this
    exact ⟨none, 0, rfl, by unfold maxLen; omega, fun _ => ⟨rfl, rfl⟩, fun ad e => by cases e⟩
  · refine ⟨some ⟨g, 0, none⟩, cap, hv, hm, (fun e => by cases e), fun ad e _ => ?_⟩
    obtain rfl := Option.some.inj e
    refine ⟨rfl, (Array.getElem?_eq_some_iff.1 hh).1, fun k hk => ?_⟩
    have := World.ownsRow.cells h (g := g) (by rw [hv]; rfl) k (.int .i32 xs[k]) (by simp [hk])
    have hadd : (⟨g, 0, none⟩ : Addr).add k = ⟨g, 0 + k, none⟩ := by unfold Addr.add; split <;> simp_all
    rw [hadd] at this
    exact this
end Go.Proofs.YteecpkkgjioplaaDoor

/- Own, Back: states of the document and of the program, copied. -/
namespace Go.Proofs.YteecpkkgjioplaaDoor
open Go.RowKit Go

set_option maxRecDepth 100000 in
set_option maxHeartbeats 2000000 in
theorem own_some (pc halt : Int) (ad : Addr) (cap : Nat) (xs : List Int) (w : World) (h : I32s w (.slice (some ad) xs.length cap) xs) (hl : xs.length ≤ 300) :
    Calls Tryd.prog 16 #[.agg #[.int .i64 pc, .slice (some ad) xs.length cap, .int .i64 halt]] w fun e w' => ∃ v, e = .returned (.agg #[.int .i64 pc, v, .int .i64 halt]) ∧
      w'.ownsRow w.heap.size 21 1 v xs.length (xs.map (Value.int .i32)) ∧ Below w.heap.size w w' := by
  obtain ⟨i0, hi, hz0, hz1, hz2⟩ := info_parts info21
  go_enter Tryd.func16, Tryd.ntmps16
  go_wp2
  have hlen : (xs.map (Value.int .i32)).length = xs.length * 1 := by simp
  have hml : 0 + xs.length ≤ maxLen := by unfold maxLen; omega
  have hby : (0 + xs.length) * 4 ≤ 140737488355328 := by omega
  have Hn := Lib.hid h
  clear h
  go_region_held3 (fun w' => w'.cell? ⟨w.heap.size, 0, none⟩ = some (.int .i64 pc) ∧ w'.cell? ⟨w.heap.size, 1, none⟩ = some (.slice (some ad) xs.length cap) ∧ w'.cell? ⟨w.heap.size, 2, none⟩ = some (.int .i64 halt))
    (first | go_keep | (go_split_ands; refine ⟨?_, ?_, ?_⟩ <;> (rw [hgrow.cell_far _ (by simp; omega) (by simp)]; first | assumption | go_simp)))
    ((refine step_append_made _ (by rfl) _ _ _ (by rfl) (w.heap.size + 2) 21 i0 _ 1 4 Tryd.underlying23 hi hz0 hz1 hz2 rfl (by omega) ⟨w.heap.size + 2, 0, none⟩ 0 0 [] (by rfl) (ownsRow_empty _ _ (by simp) (by omega)) ad xs.length cap (xs.map (Value.int .i32)) (by rfl) hlen (Hn.out.news' (below_alloc3 _ _ _ _)) (one_i32 xs) hml hby (by simp) ?_; intro g cap' w1 hown hgrow
      have f0 : w1.cell? ⟨w.heap.size + 1, 0, none⟩ = some (.int .i64 0) := (hgrow.cell_far _ (by simp) (by simp)).trans (by go_simp)
      have f1 : w1.cell? ⟨w.heap.size + 1, 1, none⟩ = some (.slice none 0 0) := (hgrow.cell_far _ (by simp) (by simp)).trans (by go_simp)
      have f2 : w1.cell? ⟨w.heap.size + 1, 2, none⟩ = some (.int .i64 0) := (hgrow.cell_far _ (by simp) (by simp)).trans (by go_simp)
      have z0 : ∀ i, w1.frozen? ⟨w.heap.size + 1, i, none⟩ = false := fun i => (hgrow.frozen_far _ (by simp) (by simp)).trans (by go_simp)))
  have hsz := hgrow.size
  simp at hsz
  have HB : Hid (Below w.heap.size w w1) := Lib.hid ((below_alloc3 _ _ _ _).grown hgrow (by simp; omega) (fun j e => by simp at e; omega))
  have HO := Lib.hid hown
  clear hown hgrow
  go_wp2
  refine bodyPost_ret (v := .agg #[.int .i64 pc, .slice (some ⟨g, 0, none⟩) (0 + xs.length) cap', .int .i64 halt]) (by simp [results, Tryd.results16, go_sem, *]) rfl ?_
  refine ⟨_, rfl, ?_, ?_⟩
  · have := HO.out
    rw [Nat.zero_add, List.nil_append] at this
    rw [Nat.zero_add]
    exact ownsRow_mono (ownsRow_setCell_below (ownsRow_setCell_below (ownsRow_setCell_below this (by simp) _) (by simp) _) (by simp) _) (by omega)
  · exact ((HB.out.setCell (by simp) _).setCell (by simp) _).setCell (by simp) _
set_option maxRecDepth 100000 in
set_option maxHeartbeats 2000000 in
theorem own_none (pc halt : Int) (w : World) :
    Calls Tryd.prog 16 #[.agg #[.int .i64 pc, .slice none 0 0, .int .i64 halt]] w fun e w' => ∃ v, e = .returned (.agg #[.int .i64 pc, v, .int .i64 halt]) ∧
      w'.ownsRow w.heap.size 21 1 v 0 [] ∧ Below w.heap.size w w' := by
  obtain ⟨i0, hi, hz0, hz1, hz2⟩ := info_parts info21
  go_enter Tryd.func16, Tryd.ntmps16
  go_wp2
  have HB : Hid (∀ o1 o2 o3, Below w.heap.size w ((((w.alloc o1).alloc o2).alloc o3).drew)) := Lib.hid (below_alloc3 w)
  go_region_held3 (fun w' => w'.cell? ⟨w.heap.size, 0, none⟩ = some (.int .i64 pc) ∧ w'.cell? ⟨w.heap.size, 1, none⟩ = some (.slice none 0 0) ∧ w'.cell? ⟨w.heap.size, 2, none⟩ = some (.int .i64 halt))
    (first | go_keep)
    ((refine step_append_own_none _ (by rfl) _ _ _ (by rfl) (w.heap.size + 2) 21 i0 1 Tryd.underlying23 hi (.slice (some ⟨w.heap.size + 2, 0, none⟩) 0 0) 0 [] (by rfl) (ownsRow_empty _ _ (by simp) (by omega)) (by rfl) ?_))
  go_wp2
  refine bodyPost_ret (v := .agg #[.int .i64 pc, .slice (some ⟨w.heap.size + 2, 0, none⟩) 0 0, .int .i64 halt]) (by simp [results, Tryd.results16, go_sem, *]) rfl ?_
  refine ⟨_, rfl, ?_, ?_⟩
  · exact ownsRow_empty _ _ (by simp) (by omega)
  · exact HB.out _ _ _
set_option maxRecDepth 100000 in
set_option maxHeartbeats 2000000 in
theorem back_some (pc halt : Int) (ad : Addr) (cap : Nat) (xs : List Int) (w : World) (h : I32s w (.slice (some ad) xs.length cap) xs) (hl : xs.length ≤ 300) :
    Calls Tryd.prog 13 #[.agg #[.int .i64 pc, .slice (some ad) xs.length cap, .int .i64 halt]] w fun e w' => ∃ v, e = .returned (.agg #[.int .i64 pc, v, .int .i64 halt]) ∧
      w'.ownsRow w.heap.size 21 1 v xs.length (xs.map (Value.int .i32)) ∧ Below w.heap.size w w' := by
  obtain ⟨i0, hi, hz0, hz1, hz2⟩ := info_parts info21
  go_enter Tryd.func13, Tryd.ntmps13
  go_wp2
  have hlen : (xs.map (Value.int .i32)).length = xs.length * 1 := by simp
  have hml : 0 + xs.length ≤ maxLen := by unfold maxLen; omega
  have hby : (0 + xs.length) * 4 ≤ 140737488355328 := by omega
  have Hn := Lib.hid h
  clear h
  go_region_held3 (fun w' => w'.cell? ⟨w.heap.size, 0, none⟩ = some (.int .i64 pc) ∧ w'.cell? ⟨w.heap.size, 1, none⟩ = some (.slice (some ad) xs.length cap) ∧ w'.cell? ⟨w.heap.size, 2, none⟩ = some (.int .i64 halt))
    (first | go_keep | (go_split_ands; refine ⟨?_, ?_, ?_⟩ <;> (rw [hgrow.cell_far _ (by simp; omega) (by simp)]; first | assumption | go_simp)))
    ((refine step_append_made _ (by rfl) _ _ _ (by rfl) (w.heap.size + 2) 21 i0 _ 1 4 Tryd.underlying23 hi hz0 hz1 hz2 rfl (by omega) ⟨w.heap.size + 2, 0, none⟩ 0 0 [] (by rfl) (ownsRow_empty _ _ (by simp) (by omega)) ad xs.length cap (xs.map (Value.int .i32)) (by rfl) hlen (Hn.out.news' (below_alloc3 _ _ _ _)) (one_i32 xs) hml hby (by simp) ?_; intro g cap' w1 hown hgrow
      have f0 : w1.cell? ⟨w.heap.size + 1, 0, none⟩ = some (.int .i64 0) := (hgrow.cell_far _ (by simp) (by simp)).trans (by go_simp)
      have f1 : w1.cell? ⟨w.heap.size + 1, 1, none⟩ = some (.slice none 0 0) := (hgrow.cell_far _ (by simp) (by simp)).trans (by go_simp)
      have f2 : w1.cell? ⟨w.heap.size + 1, 2, none⟩ = some (.int .i64 0) := (hgrow.cell_far _ (by simp) (by simp)).trans (by go_simp)
      have z0 : ∀ i, w1.frozen? ⟨w.heap.size + 1, i, none⟩ = false := fun i => (hgrow.frozen_far _ (by simp) (by simp)).trans (by go_simp)))
  have hsz := hgrow.size
  simp at hsz
  have HB : Hid (Below w.heap.size w w1) := Lib.hid ((below_alloc3 _ _ _ _).grown hgrow (by simp; omega) (fun j e => by simp at e; omega))
  have HO := Lib.hid hown
  clear hown hgrow
  go_wp2
  refine bodyPost_ret (v := .agg #[.int .i64 pc, .slice (some ⟨g, 0, none⟩) (0 + xs.length) cap', .int .i64 halt]) (by simp [results, Tryd.results13, go_sem, *]) rfl ?_
  refine ⟨_, rfl, ?_, ?_⟩
  · have := HO.out
    rw [Nat.zero_add, List.nil_append] at this
    rw [Nat.zero_add]
    exact ownsRow_mono (ownsRow_setCell_below (ownsRow_setCell_below (ownsRow_setCell_below this (by simp) _) (by simp) _) (by simp) _) (by omega)
  · exact ((HB.out.setCell (by simp) _).setCell (by simp) _).setCell (by simp) _
set_option maxRecDepth 100000 in
set_option maxHeartbeats 2000000 in
theorem back_none (pc halt : Int) (w : World) :
    Calls Tryd.prog 13 #[.agg #[.int .i64 pc, .slice none 0 0, .int .i64 halt]] w fun e w' => ∃ v, e = .returned (.agg #[.int .i64 pc, v, .int .i64 halt]) ∧
      w'.ownsRow w.heap.size 21 1 v 0 [] ∧ Below w.heap.size w w' := by
  obtain ⟨i0, hi, hz0, hz1, hz2⟩ := info_parts info21
  go_enter Tryd.func13, Tryd.ntmps13
  go_wp2
  have HB : Hid (∀ o1 o2 o3, Below w.heap.size w ((((w.alloc o1).alloc o2).alloc o3).drew)) := Lib.hid (below_alloc3 w)
  go_region_held3 (fun w' => w'.cell? ⟨w.heap.size, 0, none⟩ = some (.int .i64 pc) ∧ w'.cell? ⟨w.heap.size, 1, none⟩ = some (.slice none 0 0) ∧ w'.cell? ⟨w.heap.size, 2, none⟩ = some (.int .i64 halt))
    (first | go_keep)
    ((refine step_append_own_none _ (by rfl) _ _ _ (by rfl) (w.heap.size + 2) 21 i0 1 Tryd.underlying23 hi (.slice (some ⟨w.heap.size + 2, 0, none⟩) 0 0) 0 [] (by rfl) (ownsRow_empty _ _ (by simp) (by omega)) (by rfl) ?_))
  go_wp2
  refine bodyPost_ret (v := .agg #[.int .i64 pc, .slice (some ⟨w.heap.size + 2, 0, none⟩) 0 0, .int .i64 halt]) (by simp [results, Tryd.results13, go_sem, *]) rfl ?_
  refine ⟨_, rfl, ?_, ?_⟩
  · exact ownsRow_empty _ _ (by simp) (by omega)
  · exact HB.out _ _ _

/-- A state's value. -/
def stV (pc : Int) (v : Value) (halt : Int) : Value := .agg #[.int .i64 pc, v, .int .i64 halt]
/-- What a copy of a state is: the same numbers, its words in memory of the call's own. -/
def Copied (w w' : World) (pc : Int) (xs : List Int) (halt : Int) (e : Ending) : Prop :=
  ∃ v, e = .returned (stV pc v halt) ∧ w'.ownsRow w.heap.size 21 1 v xs.length (xs.map (Value.int .i32)) ∧ Below w.heap.size w w'
theorem own_any (pc halt : Int) (v : Value) (xs : List Int) (w : World) (h : I32s w v xs) (hl : xs.length ≤ 300) :
    Calls Tryd.prog 16 #[stV pc v halt] w fun e w' => Copied w w' pc xs halt e := by
  obtain ⟨a, cap, hv, hc, h0, h1⟩ := id h
  rcases a with _ | ad
  · obtain ⟨rfl, rfl⟩ := h0 rfl
    subst hv
    exact own_none pc halt w
  · subst hv
    exact own_some pc halt ad cap xs w h hl
theorem back_any (pc halt : Int) (v : Value) (xs : List Int) (w : World) (h : I32s w v xs) (hl : xs.length ≤ 300) :
    Calls Tryd.prog 13 #[stV pc v halt] w fun e w' => Copied w w' pc xs halt e := by
  obtain ⟨a, cap, hv, hc, h0, h1⟩ := id h
  rcases a with _ | ad
  · obtain ⟨rfl, rfl⟩ := h0 rfl
    subst hv
    exact back_none pc halt w
  · subst hv
    exact back_some pc halt ad cap xs w h hl
end Go.Proofs.YteecpkkgjioplaaDoor

/- Right, Clone, New, few; the operations of two words. -/
namespace Go.Proofs.YteecpkkgjioplaaDoor
open Go.RowKit Go

def rightSt (pc : Int) (n : Nat) (halt : Int) : Bool := decide (1 ≤ n) && decide (n ≤ 256) && decide (0 ≤ pc) && decide (pc ≤ 2048) && decide (0 ≤ halt) && decide (halt ≤ 2)
theorem rightSt_true {pc : Int} {n : Nat} {halt : Int} (h : 1 ≤ n ∧ n ≤ 256 ∧ 0 ≤ pc ∧ pc ≤ 2048 ∧ 0 ≤ halt ∧ halt ≤ 2) : rightSt pc n halt = true := by
  obtain ⟨h1, h2, h3, h4, h5, h6⟩ := h
  simp [rightSt, *]
theorem rightSt_iff {pc : Int} {n : Nat} {halt : Int} : rightSt pc n halt = true ↔ 1 ≤ n ∧ n ≤ 256 ∧ 0 ≤ pc ∧ pc ≤ 2048 ∧ 0 ≤ halt ∧ halt ≤ 2 := by
  simp [rightSt, and_assoc]
theorem bool_eq {b : Bool} {p : Prop} [Decidable p] (h : b = true ↔ p) : decide p = b := by
  by_cases hp : p <;> simp [hp] <;> simp [hp] at h <;> simp [h]

set_option maxHeartbeats 1000000 in
theorem mright_any (pc halt : Int) (a : Option Addr) (n cap : Nat) (w : World) :
    Calls Tryd.prog 23 #[stV pc (.slice a n cap) halt] w fun e w' => e = .returned (.bool (rightSt pc n halt)) ∧ Below w.heap.size w w' := by
  unfold stV
  go_enter Tryd.func23, Tryd.ntmps23
  go_wp2
  all_goals (go_ret; refine ⟨ret_bool ?_, (Below.refl _ _).alloc (Nat.le_refl _) _⟩; rw [Bool.eq_iff_iff]; simp [rightSt]; omega)
set_option maxHeartbeats 1000000 in
theorem rright_any (pc halt : Int) (a : Option Addr) (n cap : Nat) (w : World) :
    Calls Tryd.prog 20 #[stV pc (.slice a n cap) halt] w fun e w' => e = .returned (.bool (rightSt pc n halt)) ∧ Below w.heap.size w w' := by
  unfold stV
  go_enter Tryd.func20, Tryd.ntmps20
  go_wp2
  all_goals (go_ret; refine ⟨ret_bool ?_, (Below.refl _ _).alloc (Nat.le_refl _) _⟩; rw [Bool.eq_iff_iff]; simp [rightSt]; omega)
theorem few_any (a : Option Addr) (n cap : Nat) (pc halt : Int) (a' : Option Addr) (n' cap' : Nat) (w : World) :
    Calls Tryd.prog 10 #[.slice a n cap, stV pc (.slice a' n' cap') halt] w fun e w' => e = .returned (.bool (decide (n ≤ 300) && decide (n' ≤ 300))) ∧ Below w.heap.size w w' := by
  unfold stV
  go_enter Tryd.func10, Tryd.ntmps10
  go_wp2
  all_goals (go_ret; refine ⟨ret_bool ?_, (Below.refl _ _).alloc (Nat.le_refl _) _⟩; rw [Bool.eq_iff_iff]; simp; omega)
def truthP (b : Bool) : Int := if b then 1 else 0
theorem truth_any (b : Bool) (w : World) : Calls Tryd.prog 48 #[.bool b] w fun e w' => e = .returned (.int .i32 (truthP b)) ∧ w = w' := by
  cases b
  · go_enter Tryd.func48, Tryd.ntmps48
    go_wp2
    go_ret
    exact ⟨rfl, rfl⟩
  · go_enter Tryd.func48, Tryd.ntmps48
    go_wp2
    go_ret
    exact ⟨rfl, rfl⟩
theorem rtruth_any (b : Bool) (w : World) : Calls Tryd.prog 30 #[.bool b] w fun e w' => e = .returned (.int .i32 (truthP b)) ∧ w = w' := by
  cases b
  · go_enter Tryd.func30, Tryd.ntmps30
    go_wp2
    go_ret
    exact ⟨rfl, rfl⟩
  · go_enter Tryd.func30, Tryd.ntmps30
    go_wp2
    go_ret
    exact ⟨rfl, rfl⟩
/-- What an operation of two words gives. -/
def twoP (o : Int) (b c : Int) : Int :=
  if o = 3 then wrap32 (b + c) else if o = 4 then wrap32 (b - c) else if o = 5 then wrap32 (b * c)
  else if o = 6 then (if c = 0 then 0 else wrap32 (b.tdiv c)) else if o = 7 then (if c = 0 then 0 else b.tmod c)
  else if o = 8 then truthP (b == c) else if o = 9 then truthP (b != c) else if o = 10 then truthP (decide (b < c)) else if o = 11 then truthP (decide (b ≤ c))
  else if o = 12 then truthP (b != 0 && c != 0) else truthP (b != 0 || c != 0)
theorem two3 (b c : Int) (w : World) : Calls Tryd.prog 42 #[.int .i32 b, .int .i32 c] w fun e w' => e = .returned (.int .i32 (twoP 3 b c)) ∧ w = w' := by
  go_enter Tryd.func42, Tryd.ntmps42
  go_wp2
  go_ret
  exact ⟨rfl, rfl⟩
theorem two4 (b c : Int) (w : World) : Calls Tryd.prog 43 #[.int .i32 b, .int .i32 c] w fun e w' => e = .returned (.int .i32 (twoP 4 b c)) ∧ w = w' := by
  go_enter Tryd.func43, Tryd.ntmps43
  go_wp2
  go_ret
  exact ⟨rfl, rfl⟩
theorem two5 (b c : Int) (w : World) : Calls Tryd.prog 44 #[.int .i32 b, .int .i32 c] w fun e w' => e = .returned (.int .i32 (twoP 5 b c)) ∧ w = w' := by
  go_enter Tryd.func44, Tryd.ntmps44
  go_wp2
  go_ret
  exact ⟨rfl, rfl⟩
theorem two6 (b c : Int) (w : World) : Calls Tryd.prog 45 #[.int .i32 b, .int .i32 c] w fun e w' => e = .returned (.int .i32 (twoP 6 b c)) ∧ w = w' := by
  by_cases hc : c = 0
  · subst hc
    go_enter Tryd.func45, Tryd.ntmps45
    go_wp2
    go_ret
    exact ⟨by simp [twoP], rfl⟩
  · have h0 : (c == 0) = false := by simp [hc]
    go_enter Tryd.func45, Tryd.ntmps45
    go_wp2
    go_ret
    exact ⟨by simp [twoP, hc], rfl⟩
theorem two7 (b c : Int) (w : World) : Calls Tryd.prog 46 #[.int .i32 b, .int .i32 c] w fun e w' => e = .returned (.int .i32 (twoP 7 b c)) ∧ w = w' := by
  by_cases hc : c = 0
  · subst hc
    go_enter Tryd.func46, Tryd.ntmps46
    go_wp2
    go_ret
    exact ⟨by simp [twoP], rfl⟩
  · have h0 : (c == 0) = false := by simp [hc]
    go_enter Tryd.func46, Tryd.ntmps46
    go_wp2
    go_ret
    exact ⟨by simp [twoP, hc], rfl⟩
theorem two8 (b c : Int) (w : World) : Calls Tryd.prog 47 #[.int .i32 b, .int .i32 c] w fun e w' => e = .returned (.int .i32 (twoP 8 b c)) ∧ w = w' := by
  go_enter Tryd.func47, Tryd.ntmps47
  go_wp2_with (first | (go_at_call 48; refine (truth_any _ _).mono ?_; rintro e w' ⟨rfl, rfl⟩) | fail)
  all_goals (go_ret; exact ⟨by simp [twoP, *], rfl⟩)
theorem two9 (b c : Int) (w : World) : Calls Tryd.prog 49 #[.int .i32 b, .int .i32 c] w fun e w' => e = .returned (.int .i32 (twoP 9 b c)) ∧ w = w' := by
  go_enter Tryd.func49, Tryd.ntmps49
  go_wp2_with (first | (go_at_call 48; refine (truth_any _ _).mono ?_; rintro e w' ⟨rfl, rfl⟩) | fail)
  all_goals (go_ret; exact ⟨by simp [twoP, *], rfl⟩)
theorem two10 (b c : Int) (w : World) : Calls Tryd.prog 50 #[.int .i32 b, .int .i32 c] w fun e w' => e = .returned (.int .i32 (twoP 10 b c)) ∧ w = w' := by
  go_enter Tryd.func50, Tryd.ntmps50
  go_wp2_with (first | (go_at_call 48; refine (truth_any _ _).mono ?_; rintro e w' ⟨rfl, rfl⟩) | fail)
  all_goals (go_ret; exact ⟨by simp [twoP, *], rfl⟩)
theorem two11 (b c : Int) (w : World) : Calls Tryd.prog 51 #[.int .i32 b, .int .i32 c] w fun e w' => e = .returned (.int .i32 (twoP 11 b c)) ∧ w = w' := by
  go_enter Tryd.func51, Tryd.ntmps51
  go_wp2_with (first | (go_at_call 48; refine (truth_any _ _).mono ?_; rintro e w' ⟨rfl, rfl⟩) | fail)
  all_goals (go_ret; exact ⟨by simp [twoP, *], rfl⟩)
theorem two12 (b c : Int) (w : World) : Calls Tryd.prog 52 #[.int .i32 b, .int .i32 c] w fun e w' => e = .returned (.int .i32 (twoP 12 b c)) ∧ w = w' := by
  go_enter Tryd.func52, Tryd.ntmps52
  go_wp2_with (first | (go_at_call 48; refine (truth_any _ _).mono ?_; rintro e w' ⟨rfl, rfl⟩) | fail)
  all_goals (go_ret; exact ⟨by simp [twoP, *], rfl⟩)
theorem two13 (b c : Int) (w : World) : Calls Tryd.prog 53 #[.int .i32 b, .int .i32 c] w fun e w' => e = .returned (.int .i32 (twoP 13 b c)) ∧ w = w' := by
  by_cases hb : b = 0
  · subst hb
    go_enter Tryd.func53, Tryd.ntmps53
    go_wp2_with (first | (go_at_call 48; refine (truth_any _ _).mono ?_; rintro e w' ⟨rfl, rfl⟩) | fail)
    go_ret
    exact ⟨by simp [twoP], rfl⟩
  · have h1 : (b != 0) = true := by simpa using hb
    go_enter Tryd.func53, Tryd.ntmps53
    go_wp2_with (first | (go_at_call 48; refine (truth_any _ _).mono ?_; rintro e w' ⟨rfl, rfl⟩) | fail)
    go_ret
    exact ⟨by simp [twoP, h1], rfl⟩
theorem tdiv_bd {b c : Int} (b0 : -2147483648 ≤ b) (b1 : b ≤ 2147483647) : -2147483648 ≤ b.tdiv c ∧ b.tdiv c ≤ 2147483648 := by
  have h : (b.tdiv c).natAbs = b.natAbs / c.natAbs := Int.natAbs_tdiv b c
  have h2 : b.natAbs / c.natAbs ≤ b.natAbs := Nat.div_le_self _ _
  omega
theorem tmod_bd {b c : Int} (b0 : -2147483648 ≤ b) (b1 : b ≤ 2147483647) : -2147483648 ≤ b.tmod c ∧ b.tmod c ≤ 2147483647 := by
  have h : (b.tmod c).natAbs = b.natAbs % c.natAbs := Int.natAbs_tmod b c
  have h2 : b.natAbs % c.natAbs ≤ b.natAbs := Nat.mod_le _ _
  rcases Int.le_total 0 b with hb | hb
  · have := Int.tmod_nonneg c hb
    omega
  · have := Int.tmod_nonneg c (show 0 ≤ -b by omega)
    rw [Int.neg_tmod] at this
    omega
theorem wrap64_small {x : Int} (h : -9223372036854775808 ≤ x) (h' : x ≤ 9223372036854775807) : wrap64 x = x := IntWalk.wrap64_in x ⟨h, h'⟩
theorem wrap32_small {x : Int} (h : -2147483648 ≤ x) (h' : x ≤ 2147483647) : wrap32 x = x := IntWalk.wrap32_in x ⟨h, h'⟩
theorem two6_wrap {b c : Int} (b0 : -2147483648 ≤ b) (b1 : b ≤ 2147483647) : wrap32 (wrap64 (b.tdiv c)) = wrap32 (b.tdiv c) := by
  have := tdiv_bd (c := c) b0 b1
  rw [wrap64_small (by omega) (by omega)]
theorem two7_wrap {b c : Int} (b0 : -2147483648 ≤ b) (b1 : b ≤ 2147483647) : wrap32 (wrap64 (b - wrap64 (wrap64 (b.tdiv c) * c))) = b.tmod c := by
  have h1 := tdiv_bd (c := c) b0 b1
  have h2 := tmod_bd (c := c) b0 b1
  have h3 : b.tdiv c * c = b - b.tmod c := by
    have := Int.tmod_add_mul_tdiv b c
    rw [Int.mul_comm] at this
    omega
  rw [wrap64_small (x := b.tdiv c) (by omega) (by omega), h3, wrap64_small (x := b - b.tmod c) (by omega) (by omega)]
  rw [show b - (b - b.tmod c) = b.tmod c from by omega, wrap64_small (by omega) (by omega), wrap32_small (by omega) (by omega)]
set_option maxHeartbeats 4000000 in
theorem rtwo_any (o b c : Int) (w : World) (h : 3 ≤ o) (h' : o ≤ 13) (b0 : -2147483648 ≤ b) (b1 : b ≤ 2147483647) (c0 : -2147483648 ≤ c) (c1 : c ≤ 2147483647) :
    Calls Tryd.prog 29 #[.int .i64 o, .int .i32 b, .int .i32 c] w fun e w' => e = .returned (.int .i32 (twoP o b c)) ∧ w = w' := by
  have hcase : o = 3 ∨ o = 4 ∨ o = 5 ∨ o = 6 ∨ o = 7 ∨ o = 8 ∨ o = 9 ∨ o = 10 ∨ o = 11 ∨ o = 12 ∨ o = 13 := by omega
  clear h h'
  rcases hcase with rfl | rfl | rfl | rfl | rfl | rfl | rfl | rfl | rfl | rfl | rfl
  · go_enter Tryd.func29, Tryd.ntmps29
    go_wp2
    go_ret
    exact ⟨rfl, rfl⟩
  · go_enter Tryd.func29, Tryd.ntmps29
    go_wp2
    go_ret
    exact ⟨rfl, rfl⟩
  · go_enter Tryd.func29, Tryd.ntmps29
    go_wp2
    go_ret
    exact ⟨rfl, rfl⟩
  · by_cases hc : c = 0
    · subst hc
      go_enter Tryd.func29, Tryd.ntmps29
      go_wp2
      go_ret
      exact ⟨by simp [twoP], rfl⟩
    · have h0 : (c == 0) = false := by simp [hc]
      go_enter Tryd.func29, Tryd.ntmps29
      go_wp2
      go_ret
      refine ⟨?_, rfl⟩
      simp
      exact ((two6_wrap b0 b1).trans (by simp [twoP, hc]))
  · by_cases hc : c = 0
    · subst hc
      go_enter Tryd.func29, Tryd.ntmps29
      go_wp2
      go_ret
      exact ⟨by simp [twoP], rfl⟩
    · have h0 : (c == 0) = false := by simp [hc]
      go_enter Tryd.func29, Tryd.ntmps29
      go_wp2
      go_ret
      refine ⟨?_, rfl⟩
      simp
      exact ((two7_wrap b0 b1).trans (by simp [twoP, hc]))
  · go_enter Tryd.func29, Tryd.ntmps29
    go_wp2_with (first | (go_at_call 30; refine (rtruth_any _ _).mono ?_; rintro e w' ⟨rfl, rfl⟩) | fail)
    all_goals (go_ret; exact ⟨by simp [twoP, *], rfl⟩)
  · go_enter Tryd.func29, Tryd.ntmps29
    go_wp2_with (first | (go_at_call 30; refine (rtruth_any _ _).mono ?_; rintro e w' ⟨rfl, rfl⟩) | fail)
    all_goals (go_ret; exact ⟨by simp [twoP, *], rfl⟩)
  · go_enter Tryd.func29, Tryd.ntmps29
    go_wp2_with (first | (go_at_call 30; refine (rtruth_any _ _).mono ?_; rintro e w' ⟨rfl, rfl⟩) | fail)
    all_goals (go_ret; exact ⟨by simp [twoP, *], rfl⟩)
  · go_enter Tryd.func29, Tryd.ntmps29
    go_wp2_with (first | (go_at_call 30; refine (rtruth_any _ _).mono ?_; rintro e w' ⟨rfl, rfl⟩) | fail)
    all_goals (go_ret; exact ⟨by simp [twoP, *], rfl⟩)
  · go_enter Tryd.func29, Tryd.ntmps29
    go_wp2_with (first | (go_at_call 30; refine (rtruth_any _ _).mono ?_; rintro e w' ⟨rfl, rfl⟩) | fail)
    all_goals (go_ret; exact ⟨by simp [twoP, *], rfl⟩)
  by_cases hb : b = 0
  · subst hb
    go_enter Tryd.func29, Tryd.ntmps29
    go_wp2_with (first | (go_at_call 30; refine (rtruth_any _ _).mono ?_; rintro e w' ⟨rfl, rfl⟩) | fail)
    go_ret
    exact ⟨by simp [twoP], rfl⟩
  · have h1 : (b != 0) = true := by simpa using hb
    go_enter Tryd.func29, Tryd.ntmps29
    go_wp2_with (first | (go_at_call 30; refine (rtruth_any _ _).mono ?_; rintro e w' ⟨rfl, rfl⟩) | fail)
    go_ret
    exact ⟨by simp [twoP, h1], rfl⟩
end Go.Proofs.YteecpkkgjioplaaDoor

/- Clone, New, Equal, Same. -/
namespace Go.Proofs.YteecpkkgjioplaaDoor
open Go.RowKit Go

theorem eq_of_all {xs ys : List Int} (hl : xs.length = ys.length) (h : ∀ j, j < xs.length → xs[j]? = ys[j]?) : xs = ys := by
  apply List.ext_getElem?
  intro i
  by_cases hi : i < xs.length
  · exact h i hi
  · rw [List.getElem?_eq_none (by omega), List.getElem?_eq_none (by omega)]
theorem all_next {xs ys : List Int} {k : Nat} {x y : Int} (h : ∀ j, j < k → xs[j]? = ys[j]?) (hx : xs[k]? = some x) (hy : ys[k]? = some y) (e : (x != y) = false) : ∀ j, j < k + 1 → xs[j]? = ys[j]? := by
  intro j hj
  by_cases ej : j = k
  · subst ej; simp at e; subst e; rw [hx, hy]
  · exact h j (by omega)
theorem ne_of_at {xs ys : List Int} {k : Nat} {x y : Int} (hx : xs[k]? = some x) (hy : ys[k]? = some y) (e : (x != y) = true) : ¬ xs = ys := by
  rintro rfl
  rw [hx] at hy
  obtain rfl := Option.some.inj hy
  simp at e

set_option maxRecDepth 100000 in
set_option maxHeartbeats 2000000 in
theorem equal_some (a1 a2 : Addr) (c1 c2 : Nat) (xs ys : List Int) (w : World) (h1 : I32s w (.slice (some a1) xs.length c1) xs) (h2 : I32s w (.slice (some a2) xs.length c2) ys) (hn : 0 < xs.length) (hl : xs.length ≤ 300) :
    Calls Tryd.prog 33 #[.slice (some a1) xs.length c1, .slice (some a2) xs.length c2] w fun e w' => e = .returned (.bool (decide (xs = ys))) ∧ Below w.heap.size w w' := by
  have hly : xs.length = ys.length := h2.len
  have Hly := Lib.hid hly
  obtain ⟨b1, o1, rfl, l1, k1⟩ := h1.look hn
  obtain ⟨b2, o2, rfl, l2, k2⟩ := h2.look (by omega)
  clear h1 h2 hly
  go_enter Tryd.func33, Tryd.ntmps33
  go_wp2
  go_loopw [13] (fun i wr => ∃ k : Nat, k ≤ xs.length ∧ i = .int .i64 k ∧ (∀ j, j < k → xs[j]? = ys[j]?) ∧ Below w.heap.size w wr) (fun i _ => xs.length - (intOf i).toNat)
  case atStart => exact ⟨0, by omega, rfl, fun j hj => by omega, Below.refl _ _⟩
  case round =>
    obtain ⟨k, hk, rfl, hall, hbel⟩ := hrel
    have Hall := Lib.hid hall
    clear hall
    by_cases hlt : k < xs.length
    · have hlt2 : k < ys.length := by rw [← Hly.out]; exact hlt
      obtain ⟨x, hx⟩ : ∃ x, xs[k]? = some x := ⟨_, List.getElem?_eq_getElem hlt⟩
      obtain ⟨y, hy⟩ : ∃ y, ys[k]? = some y := ⟨_, List.getElem?_eq_getElem hlt2⟩
      have q1 : wr.cell? ⟨b1, o1 + k, none⟩ = some (.int .i32 x) := (hbel.cell (p := ⟨b1, o1 + k, none⟩) l1).trans (k1 k x hx)
      have q2 : wr.cell? ⟨b2, o2 + k, none⟩ = some (.int .i32 y) := (hbel.cell (p := ⟨b2, o2 + k, none⟩) l2).trans (k2 k y hy)
      have hk0 : (0 : Int) ≤ (k : Int) := Int.natCast_nonneg _
      have hk1 : (k : Int) < (xs.length : Int) := by omega
      have Hbel := Lib.hid hbel
      have Hx := Lib.hid hx
      have Hy := Lib.hid hy
      clear hbel k1 k2 hx hy hlt2
      go_wp2
      go_quiet (fail)
      go_wp2
      · go_ret
        exact ⟨ret_bool (by simp [ne_of_at Hx.out Hy.out ‹_›]), Hbel.out.trans (below_drewN (Below.refl _ _) _)⟩
      · go_roundw
        case rel => exact ⟨k + 1, by omega, by go_num, all_next Hall.out Hx.out Hy.out ‹_›, Hbel.out.trans (below_drewN (Below.refl _ _) _)⟩
        case measure => simp [intOf]; omega
    · have he : xs = ys := eq_of_all Hly.out (fun j h => Hall.out j (by omega))
      have He := Lib.hid he
      clear he
      go_wp2
      go_ret
      exact ⟨ret_bool (by simp [He.out]), hbel⟩
/-- Slices of other lengths are not equal; of no elements they are. -/
theorem equal_len (a1 a2 : Option Addr) (n1 n2 c1 c2 : Nat) (w : World) (h : ¬ n1 = n2) :
    Calls Tryd.prog 33 #[.slice a1 n1 c1, .slice a2 n2 c2] w fun e w' => e = .returned (.bool false) ∧ w = w' := by
  have hb : ((n1 : Int) != (n2 : Int)) = true := by simp; omega
  go_enter Tryd.func33, Tryd.ntmps33
  go_wp2
  go_ret
  exact ⟨rfl, rfl⟩
theorem equal_none (a1 a2 : Option Addr) (c1 c2 : Nat) (w : World) :
    Calls Tryd.prog 33 #[.slice a1 0 c1, .slice a2 0 c2] w fun e w' => e = .returned (.bool true) ∧ w = w' := by
  go_enter Tryd.func33, Tryd.ntmps33
  go_wp2
  refine wp_loop_rounds 1 ?_
  rw [rounds_succ]
  go_wp2
  go_ret
  exact ⟨rfl, rfl⟩
theorem equal_any (v1 v2 : Value) (xs ys : List Int) (w : World) (h1 : I32s w v1 xs) (h2 : I32s w v2 ys) (hl : xs.length ≤ 300) :
    Calls Tryd.prog 33 #[v1, v2] w fun e w' => e = .returned (.bool (decide (xs = ys))) ∧ Below w.heap.size w w' := by
  obtain ⟨a1, c1, rfl, _⟩ := id h1
  obtain ⟨a2, c2, rfl, _⟩ := id h2
  by_cases he : xs.length = ys.length
  · by_cases hn : 0 < xs.length
    · obtain ⟨ad1, rfl⟩ := h1.addr hn
      obtain ⟨ad2, rfl⟩ := h2.addr (by omega)
      rw [← he] at h2 ⊢
      exact equal_some ad1 ad2 c1 c2 xs ys w h1 h2 hn hl
    · obtain rfl : xs = [] := List.length_eq_zero_iff.1 (by omega)
      obtain rfl : ys = [] := List.length_eq_zero_iff.1 (by simpa using he.symm)
      refine (equal_none a1 a2 c1 c2 w).mono ?_
      rintro e w' ⟨rfl, rfl⟩
      exact ⟨rfl, Below.refl _ _⟩
  · refine (equal_len a1 a2 _ _ c1 c2 w he).mono ?_
    rintro e w' ⟨rfl, rfl⟩
    have : ¬ xs = ys := by rintro rfl; exact he rfl
    exact ⟨ret_bool (by simp [this]), Below.refl _ _⟩
/-- machine.Same: are two states the same? -/
theorem same_any (p1 q1 p2 q2 : Int) (v1 v2 : Value) (xs ys : List Int) (w : World) (h1 : I32s w v1 xs) (h2 : I32s w v2 ys) (hl : xs.length ≤ 300) :
    Calls Tryd.prog 21 #[stV p1 v1 q1, stV p2 v2 q2] w fun e w' => e = .returned (.bool (decide (p1 = p2 ∧ q1 = q2 ∧ xs = ys))) ∧ Below w.heap.size w w' := by
  obtain ⟨a1, c1, e1, _⟩ := id h1
  obtain ⟨a2, c2, e2, _⟩ := id h2
  have HB : ∀ o1 o2, Below w.heap.size w ((w.alloc o1).alloc o2) := fun o1 o2 => ((Below.refl _ _).alloc (Nat.le_refl _) _).alloc (by simp) _
  have H1 : Hid (∀ o1 o2, I32s ((w.alloc o1).alloc o2) v1 xs ∧ I32s ((w.alloc o1).alloc o2) v2 ys) := Lib.hid fun o1 o2 => ⟨h1.below (HB o1 o2) (Nat.le_refl _), h2.below (HB o1 o2) (Nat.le_refl _)⟩
  have HB' := Lib.hid HB
  clear HB h1 h2
  subst e1 e2
  unfold stV
  by_cases hp : p1 = p2
  · by_cases hq : q1 = q2
    · subst hp hq
      go_enter Tryd.func21, Tryd.ntmps21
      go_wp2_with fail
      refine (equal_any _ _ xs ys _ (H1.out _ _).1 (H1.out _ _).2 hl).mono ?_
      rintro e w1 ⟨rfl, hb⟩
      go_wp2
      go_ret
      exact ⟨ret_bool (by simp), (HB'.out _ _).trans (hb.mono (by simp; omega))⟩
    · subst hp
      have hqb : (q1 == q2) = false := by simp [hq]
      go_enter Tryd.func21, Tryd.ntmps21
      go_wp2
      go_ret
      exact ⟨ret_bool (by simp [hq]), HB'.out _ _⟩
  · have hpb : (p1 == p2) = false := by simp [hp]
    go_enter Tryd.func21, Tryd.ntmps21
    go_wp2
    go_ret
    exact ⟨ret_bool (by simp [hp]), HB'.out _ _⟩
end Go.Proofs.YteecpkkgjioplaaDoor

/- baizeref15.Same. -/
namespace Go.Proofs.YteecpkkgjioplaaDoor
open Go.RowKit Go

set_option maxRecDepth 100000 in
set_option maxHeartbeats 2000000 in
theorem rsame_eq (pc halt : Int) (a1 a2 : Option Addr) (c1 c2 : Nat) (xs ys : List Int) (w : World) (h1 : I32s w (.slice a1 xs.length c1) xs) (h2 : I32s w (.slice a2 xs.length c2) ys) (hl : xs.length ≤ 300) :
    Calls Tryd.prog 12 #[stV pc (.slice a1 xs.length c1) halt, stV pc (.slice a2 xs.length c2) halt] w fun e w' => e = .returned (.bool (decide (xs = ys))) ∧ Below w.heap.size w w' := by
  have hly : xs.length = ys.length := h2.len
  have Hly := Lib.hid hly
  have H1 := Lib.hid h1
  have H2 := Lib.hid h2
  clear h1 h2 hly
  have HB : Hid (∀ o1 o2, Below w.heap.size w ((w.alloc o1).alloc o2)) := Lib.hid fun o1 o2 => ((Below.refl _ _).alloc (Nat.le_refl _) _).alloc (by simp) _
  unfold stV
  go_enter Tryd.func12, Tryd.ntmps12
  go_wp2
  go_loopw [5] (fun i wr => ∃ k : Nat, k ≤ xs.length ∧ i = .int .i64 k ∧ (∀ j, j < k → xs[j]? = ys[j]?) ∧ Below w.heap.size w wr ∧
      wr.cell? ⟨w.heap.size, 1, none⟩ = some (.slice a1 xs.length c1) ∧ wr.cell? ⟨w.heap.size + 1, 1, none⟩ = some (.slice a2 xs.length c2)) (fun i _ => xs.length - (intOf i).toNat)
  case atStart => exact ⟨0, by omega, rfl, fun j hj => by omega, HB.out _ _, by go_simp, by go_simp⟩
  case round =>
    obtain ⟨k, hk, rfl, hall, hbel, g1, g2⟩ := hrel
    have Hall := Lib.hid hall
    clear hall
    by_cases hlt : k < xs.length
    · have hlt2 : k < ys.length := by rw [← Hly.out]; exact hlt
      obtain ⟨ad1, rfl⟩ := H1.out.addr (by omega)
      obtain ⟨ad2, rfl⟩ := H2.out.addr (by omega)
      obtain ⟨b1, o1, rfl, l1, k1⟩ := H1.out.look (by omega)
      obtain ⟨b2, o2, rfl, l2, k2⟩ := H2.out.look (by omega)
      obtain ⟨x, hx⟩ : ∃ x, xs[k]? = some x := ⟨_, List.getElem?_eq_getElem hlt⟩
      obtain ⟨y, hy⟩ : ∃ y, ys[k]? = some y := ⟨_, List.getElem?_eq_getElem hlt2⟩
      have q1 : wr.cell? ⟨b1, o1 + k, none⟩ = some (.int .i32 x) := (hbel.cell (p := ⟨b1, o1 + k, none⟩) l1).trans (k1 k x hx)
      have q2 : wr.cell? ⟨b2, o2 + k, none⟩ = some (.int .i32 y) := (hbel.cell (p := ⟨b2, o2 + k, none⟩) l2).trans (k2 k y hy)
      have hk0 : (0 : Int) ≤ (k : Int) := Int.natCast_nonneg _
      have hk1 : (k : Int) < (xs.length : Int) := by omega
      have Hbel := Lib.hid hbel
      have Hx := Lib.hid hx
      have Hy := Lib.hid hy
      have G := Lib.hid (And.intro g1 g2)
      clear hbel k1 k2 hx hy hlt2
      go_wp2
      go_quiet (fail)
      go_wp2
      · go_ret
        exact ⟨ret_bool (by simp [ne_of_at Hx.out Hy.out ‹_›]), Hbel.out.trans (below_drewN (Below.refl _ _) _)⟩
      · go_roundw
        case rel => exact ⟨k + 1, by omega, by go_num, all_next Hall.out Hx.out Hy.out ‹_›, Hbel.out.trans (below_drewN (Below.refl _ _) _), G.out.1, G.out.2⟩
        case measure => simp [intOf]; omega
    · have he : xs = ys := eq_of_all Hly.out (fun j h => Hall.out j (by omega))
      have He := Lib.hid he
      clear he
      go_wp2
      go_ret
      exact ⟨ret_bool (by simp [He.out]), hbel⟩

set_option maxHeartbeats 1000000 in
theorem rsame_any (p1 q1 p2 q2 : Int) (v1 v2 : Value) (xs ys : List Int) (w : World) (h1 : I32s w v1 xs) (h2 : I32s w v2 ys) (hl : xs.length ≤ 300) :
    Calls Tryd.prog 12 #[stV p1 v1 q1, stV p2 v2 q2] w fun e w' => e = .returned (.bool (decide (p1 = p2 ∧ q1 = q2 ∧ xs = ys))) ∧ Below w.heap.size w w' := by
  obtain ⟨a1, c1, e1, _⟩ := id h1
  obtain ⟨a2, c2, e2, _⟩ := id h2
  have HB' : Hid (∀ o1 o2, Below w.heap.size w ((w.alloc o1).alloc o2)) := Lib.hid fun o1 o2 => ((Below.refl _ _).alloc (Nat.le_refl _) _).alloc (by simp) _
  subst e1 e2
  by_cases hp : p1 = p2
  · by_cases hq : q1 = q2
    · subst hp hq
      by_cases hn : xs.length = ys.length
      · rw [← hn] at h2 ⊢
        refine (rsame_eq p1 q1 a1 a2 c1 c2 xs ys w h1 h2 hl).mono ?_
        rintro e w' ⟨rfl, hb⟩
        exact ⟨ret_bool (by simp), hb⟩
      · have hb : ((xs.length : Int) != (ys.length : Int)) = true := by simp; omega
        have hne : ¬ xs = ys := by rintro rfl; exact hn rfl
        have Hne := Lib.hid hne
        clear hne hn h1 h2
        unfold stV
        go_enter Tryd.func12, Tryd.ntmps12
        go_wp2
        go_ret
        exact ⟨ret_bool (by simp [Hne.out]), HB'.out _ _⟩
    · subst hp
      have hqb : (q1 != q2) = true := by simpa using hq
      clear h1 h2
      unfold stV
      go_enter Tryd.func12, Tryd.ntmps12
      go_wp2
      go_ret
      exact ⟨ret_bool (by simp [hq]), HB'.out _ _⟩
  · have hpb : (p1 != p2) = true := by simpa using hp
    clear h1 h2
    unfold stV
    go_enter Tryd.func12, Tryd.ntmps12
    go_wp2
    go_ret
    exact ⟨ret_bool (by simp [hp]), HB'.out _ _⟩
end Go.Proofs.YteecpkkgjioplaaDoor

/- Clone, New. -/
namespace Go.Proofs.YteecpkkgjioplaaDoor
open Go.RowKit Go

theorem below_alloc1 (w : World) (o1 : Obj) : Below w.heap.size w (w.alloc o1) := (Below.refl _ _).alloc (Nat.le_refl _) _
theorem below_alloc2 (w : World) (o1 o2 : Obj) : Below w.heap.size w ((w.alloc o1).alloc o2) := (below_alloc1 w o1).alloc (by simp) _
theorem ownsRow_empty' {base : Nat} {e : TypeId} {size : Nat} (w : World) (B : Nat) (hB : w.heap.size = B) (hb : base ≤ B) : (w.alloc (.cells #[] e)).ownsRow base e size (.slice (some ⟨B, 0, none⟩) 0 0) 0 [] := by
  subst hB
  exact World.ownsRow_made w #[] 0 hb (by unfold maxLen; omega) (by simp)

set_option maxHeartbeats 1000000 in
theorem sclone_any (v : Value) (xs : List Int) (w : World) (h : I32s w v xs) (hl : xs.length ≤ 300) :
    Calls Tryd.prog 34 #[v] w fun e w' => ∃ v', e = .returned v' ∧ w'.ownsRow w.heap.size 21 1 v' xs.length (xs.map (Value.int .i32)) ∧ Below w.heap.size w w' := by
  obtain ⟨i0, hi, hz0, hz1, hz2⟩ := info_parts info21
  obtain ⟨a, cap, e1, _, h0, _⟩ := id h
  have hlen : (xs.map (Value.int .i32)).length = xs.length * 1 := by simp
  have hml : 0 + xs.length ≤ maxLen := by unfold maxLen; omega
  have hby : (0 + xs.length) * 4 ≤ 140737488355328 := by omega
  subst e1
  rcases a with _ | ad
  · obtain ⟨rfl, rfl⟩ := h0 rfl
    have heq := fun wx => Lib.run_eql_slice_nil (P := Tryd.prog) wx 23 21 none 0 0 0 0 Tryd.underlying23
    go_enter Tryd.func34, Tryd.ntmps34
    go_wp2
    go_ret
    exact ⟨_, rfl, World.ownsRow_nil _ _ _ _, Below.refl _ _⟩
  · have heq := fun wx => Lib.run_eql_slice_nil (P := Tryd.prog) wx 23 21 (some ad) xs.length cap 0 0 Tryd.underlying23
    have H := Lib.hid h
    clear h h0
    go_enter Tryd.func34, Tryd.ntmps34
    go_wp2_with (first | (at_builtin; refine wpList_append_own _ rfl _ _ 23 rfl w.heap.size 21 i0 _ 1 4 Tryd.underlying23 hi hz0 hz1 hz2 rfl (by omega) _ 0 [] rfl (ownsRow_empty' _ _ rfl (by omega)) ad xs.length cap (xs.map (Value.int .i32)) rfl hlen (H.out.news' (below_alloc1 _ _)) (one_i32 xs) hml hby (by simp) ?_; intro v' w1 hown hgrow hnil) | fail)
    go_ret
    refine ⟨_, rfl, ?_, (below_alloc1 _ _).grown hgrow (by simp) (fun j e => by cases e; exact Nat.le_refl _)⟩
    rw [Nat.zero_add, List.nil_append] at hown
    exact hown

set_option maxHeartbeats 1000000 in
theorem clone_any (pc halt : Int) (v : Value) (xs : List Int) (w : World) (h : I32s w v xs) (hl : xs.length ≤ 300) :
    Calls Tryd.prog 22 #[stV pc v halt] w fun e w' => Copied w w' pc xs halt e := by
  obtain ⟨a, cap, e1, _, h0, _⟩ := id h
  subst e1
  have H : Hid (∀ o1 o2, I32s ((w.alloc o1).alloc o2) (.slice a xs.length cap) xs) := Lib.hid fun o1 o2 => h.below (below_alloc2 w o1 o2) (Nat.le_refl _)
  have HB : Hid (∀ o1 o2, Below w.heap.size w ((w.alloc o1).alloc o2)) := Lib.hid (below_alloc2 w)
  clear h h0
  unfold stV
  go_enter Tryd.func22, Tryd.ntmps22
  go_wp2_with fail
  refine (sclone_any _ xs _ (H.out _ _) hl).mono ?_
  rintro e w1 ⟨v', rfl, hown, hb⟩
  obtain ⟨a', cap', e2, _⟩ := I32s.own hown
  subst e2
  have k0 : ∀ i, w1.cell? ⟨w.heap.size, i, none⟩ = #[Value.int .i64 pc, .slice a xs.length cap, .int .i64 halt][i]? := fun i => (hb.cell (p := ⟨w.heap.size, i, none⟩) (by simp; omega)).trans (by simp)
  have k1 : ∀ i, w1.cell? ⟨w.heap.size + 1, i, none⟩ = #[Value.int .i64 0, .slice none 0 0, .int .i64 0][i]? := fun i => (hb.cell (p := ⟨w.heap.size + 1, i, none⟩) (by simp)).trans (by simp)
  have z0 : ∀ i, w1.frozen? ⟨w.heap.size, i, none⟩ = false := fun i => (hb.frozen (p := ⟨w.heap.size, i, none⟩) (by simp; omega)).trans (by go_simp)
  have z1 : ∀ i, w1.frozen? ⟨w.heap.size + 1, i, none⟩ = false := fun i => (hb.frozen (p := ⟨w.heap.size + 1, i, none⟩) (by simp)).trans (by go_simp)
  have G : Hid (w1.ownsRow (w.heap.size + 2) 21 1 (.slice a' xs.length cap') xs.length (xs.map (Value.int .i32)) ∧ Below w.heap.size w w1) := Lib.hid ⟨by simpa using hown, (HB.out _ _).trans (hb.mono (by simp; omega))⟩
  clear hown hb
  go_wp2
  refine bodyPost_ret (v := .agg #[.int .i64 pc, .slice a' xs.length cap', .int .i64 halt]) (by simp [results, Tryd.results22, go_sem, *]) rfl ?_
  exact ⟨_, rfl, ownsRow_mono (ownsRow_setCell_below (ownsRow_setCell_below (ownsRow_setCell_below (ownsRow_setCell_below G.out.1 (by simp <;> omega) _) (by simp <;> omega) _) (by simp <;> omega) _) (by simp <;> omega) _) (by omega), (((G.out.2.setCell (by simp) _).setCell (by simp) _).setCell (by simp) _).setCell (by simp) _⟩

/-- New: so many words, all 0, or none. -/
theorem new_no (n : Int) (w : World) (h : n < 1 ∨ 256 < n) :
    Calls Tryd.prog 24 #[.int .i64 n] w fun e w' => e = .returned (.tuple #[.agg #[.int .i64 0, .slice none 0 0, .int .i64 0], .int .i64 2]) ∧ Below w.heap.size w w' := by
  rcases h with h | h
  · go_enter Tryd.func24, Tryd.ntmps24
    go_wp2
    exact bodyPost_ret (v := .tuple #[.agg #[.int .i64 0, .slice none 0 0, .int .i64 0], .int .i64 2]) (by simp [results, Tryd.results24, go_sem]) rfl ⟨rfl, below_alloc1 _ _⟩
  · have h' : ¬ n < 1 := by omega
    go_enter Tryd.func24, Tryd.ntmps24
    go_wp2
    exact bodyPost_ret (v := .tuple #[.agg #[.int .i64 0, .slice none 0 0, .int .i64 0], .int .i64 2]) (by simp [results, Tryd.results24, go_sem]) rfl ⟨rfl, below_alloc1 _ _⟩
set_option maxRecDepth 20000 in
theorem new_yes (n : Nat) (w : World) (h : 1 ≤ n) (h' : n ≤ 256) :
    Calls Tryd.prog 24 #[.int .i64 n] w fun e w' => ∃ v, e = .returned (.tuple #[stV 0 v 0, .int .i64 0]) ∧ w'.ownsRow w.heap.size 21 1 v n ((List.replicate n 0).map (Value.int .i32)) ∧ Below w.heap.size w w' := by
  obtain ⟨i0, hi, hz0, hz1, hz2⟩ := info_parts info21
  have hml : n ≤ maxLen := by unfold maxLen; omega
  have hby : Hid (i0.bytes * n ≤ 281474976710656) := Lib.hid (by rw [hz2]; omega)
  unfold stV
  go_enter Tryd.func24, Tryd.ntmps24
  go_wp2_with (first | (at_make; refine wpList_make_full _ rfl _ _ 23 rfl (w.heap.size + 1) 21 i0 _ 1 Tryd.underlying23 hi hz0 hz1 .i64 .i64 n n n rfl rfl rfl rfl hby.out hml (by simp) ?_; intro w1 hown hgrow; have k0 : ∀ i, w1.cell? ⟨w.heap.size, i, none⟩ = #[Value.int .i64 0, .slice none 0 0, .int .i64 0][i]? := fun i => (hgrow.cell_far _ (by simp) (by simp)).trans (by simp); have z0 : ∀ i, w1.frozen? ⟨w.heap.size, i, none⟩ = false := fun i => (hgrow.frozen_far _ (by simp) (by simp)).trans (by go_simp); have G : Hid (w1.ownsRow (w.heap.size + 1) 21 1 (.slice (some ⟨w.heap.size + 1, 0, none⟩) n n) n ((List.replicate n 0).map (Value.int .i32)) ∧ Below w.heap.size w w1) := Lib.hid ⟨by simpa [Value.cells, toList_madeCells_one] using hown, (below_alloc1 _ _).grown hgrow (by simp) (fun j e => by cases e)⟩; clear hown hgrow) | fail)
  refine bodyPost_ret (v := .tuple #[.agg #[.int .i64 0, .slice (some ⟨w.heap.size + 1, 0, none⟩) n n, .int .i64 0], .int .i64 0]) (by simp [results, Tryd.results24, go_sem, *]) rfl ?_
  exact ⟨_, rfl, ownsRow_mono (ownsRow_setCell_below (ownsRow_setCell_below (ownsRow_setCell_below G.out.1 (by simp <;> omega) _) (by simp <;> omega) _) (by simp <;> omega) _) (by omega), ((G.out.2.setCell (by simp) _).setCell (by simp) _).setCell (by simp) _⟩
end Go.Proofs.YteecpkkgjioplaaDoor

/- next, far. -/
namespace Go.Proofs.YteecpkkgjioplaaDoor
open Go.RowKit Go

/-- THE SLICE VALUE v READS AS THE INSTRUCTIONS l. -/
def InsS (w : World) (v : Value) (l : List Ins) : Prop := ∃ a cap, v = .slice a l.length cap ∧ (0 < l.length → ∃ b off, a = some ⟨b, off, none⟩ ∧ b < w.heap.size ∧ InsAt w b off l)
theorem InsS.below {B : Nat} {w w' : World} {v : Value} {l : List Ins} (h : InsS w v l) (hb : Below B w w') (hB : w.heap.size ≤ B) : InsS w' v l := by
  obtain ⟨a, cap, hv, hk⟩ := h
  refine ⟨a, cap, hv, fun hl => ?_⟩
  obtain ⟨b, off, ha, hlt, hi⟩ := hk hl
  exact ⟨b, off, ha, Nat.lt_of_lt_of_le hlt hb.size, hi.below hb (Nat.lt_of_lt_of_le hlt hB)⟩
theorem codeCells_at (l : List Ins) : ∀ (k : Nat) (h : k < l.length) (j : Nat), j < 4 → (codeCells l)[k * 4 + j]? = (l[k].cells)[j]? := by
  induction l with
  | nil => intro k h; simp at h
  | cons i l ih =>
    intro k h j hj
    have e : codeCells (i :: l) = i.cells ++ codeCells l := rfl
    rw [e]
    rcases k with _ | k
    · rw [List.getElem?_append_left (by simp [Ins.cells]; omega)]
      simp
    · rw [List.getElem?_append_right (by simp [Ins.cells]; omega)]
      have : (k + 1) * 4 + j - i.cells.length = k * 4 + j := by simp [Ins.cells]; omega
      rw [this]
      simpa using ih k (by simpa using h) j hj
theorem InsS.own {w : World} {base : Nat} {v : Value} {l : List Ins} (h : w.ownsRow base 57 4 v l.length (codeCells l)) : InsS w v l := by
  rcases h.2 with ⟨hv, h0⟩ | ⟨g, cap, cur, hv, hg, hh, hn, hm, hs, hx⟩
  · subst hv
    exact ⟨none, 0, by rw [h0], fun h => by omega⟩
  · refine ⟨some ⟨g, 0, none⟩, cap, hv, fun _ => ⟨g, 0, rfl, (Array.getElem?_eq_some_iff.1 hh).1, fun k hk => ?_⟩⟩
    have key : ∀ j, j < 4 → ∀ u, (l[k].cells)[j]? = some u → w.cell? ⟨g, 0 + k * 4 + j, none⟩ = some u := fun j hj u hu => by
      have := World.ownsRow.cells h (g := g) (by rw [hv]; rfl) (k * 4 + j) u (by rw [codeCells_at l k hk j hj]; exact hu)
      have hadd : (⟨g, 0, none⟩ : Addr).add (k * 4 + j) = ⟨g, 0 + k * 4 + j, none⟩ := by
        unfold Addr.add
        split
        · rename_i hz
          have : k * 4 = 0 := by omega
          have : j = 0 := by omega
          simp_all
        · simp
      rw [hadd] at this
      exact this
    exact ⟨key 0 (by omega) _ rfl, key 1 (by omega) _ rfl, key 2 (by omega) _ rfl, key 3 (by omega) _ rfl⟩

/-- Where a state lies. -/
structure StAt (w : World) (p : Nat) (pc : Int) (v : Value) (halt : Int) : Prop where
  c0 : w.cell? ⟨p, 0, none⟩ = some (.int .i64 pc)
  c1 : w.cell? ⟨p, 1, none⟩ = some v
  c2 : w.cell? ⟨p, 2, none⟩ = some (.int .i64 halt)
theorem Ops.drew {w : World} (h : Ops w) : Ops w.drew := h
theorem cell_lt {w : World} {b o : Nat} {v : Value} (h : w.cell? ⟨b, o, none⟩ = some v) : b < w.heap.size := World.block_lt_of_cell? w _ h
def zeroI : Value := .agg #[.int .i64 0, .int .i64 0, .int .i64 0, .int .i64 0]

set_option maxRecDepth 20000 in
set_option maxHeartbeats 1000000 in
theorem next_out (p : Nat) (pc halt : Int) (c : Option Addr) (l : List Ins) (cap : Nat) (v : Value) (w : World) (h : StAt w p pc v halt) (hl : l.length ≤ 2048) (hp : ¬ pc < l.length) :
    Calls Tryd.prog 35 #[.pointer (some ⟨p, 0, none⟩), .slice c l.length cap] w fun e w' => e = .returned (.tuple #[zeroI, .bool false]) ∧ Below w.heap.size w w' := by
  obtain ⟨c0, c1, c2⟩ := h
  have lp := cell_lt c0
  have h1 : decide (2048 < (l.length : Int)) = false := by simp; omega
  have h2 : (l.length : Int) ≤ pc := by omega
  have h3 : decide ((l.length : Int) ≤ pc) = true := by simp; omega
  have hlp : p < w.heap.size := lp
  clear hp
  unfold zeroI
  go_enter Tryd.func35, Tryd.ntmps35
  go_wp2_with fail
  go_quiet (fail)
  go_wp2
  exact bodyPost_ret (v := .tuple #[.agg #[.int .i64 0, .int .i64 0, .int .i64 0, .int .i64 0], .bool false]) (by simp [results, Tryd.results35, go_sem]) rfl ⟨rfl, (((((below_drewN (below_alloc1 _ _) _).setCell (by simp) _).setCell (by simp) _).setCell (by simp) _).setCell (by simp) _)⟩

set_option maxRecDepth 20000 in
set_option maxHeartbeats 2000000 in
theorem next_in (p : Nat) (pc halt : Int) (b off : Nat) (l : List Ins) (cap : Nat) (a : Option Addr) (n k : Nat) (i : Nat) (w : World) (h : StAt w p pc (.slice a n k) halt) (H : Ops w) (hl : l.length ≤ 2048) (hp : pc = i) (hi : i < l.length)
    (lb : b < w.heap.size) (hc : InsAt w b off l) :
    Calls Tryd.prog 35 #[.pointer (some ⟨p, 0, none⟩), .slice (some ⟨b, off, none⟩) l.length cap] w fun e w' =>
      e = .returned (.tuple #[if rightP l[i].o l[i].a l[i].b l[i].c l.length n then l[i].val else zeroI, .bool (rightP l[i].o l[i].a l[i].b l[i].c l.length n)]) ∧ Below w.heap.size w w' := by
  subst hp
  obtain ⟨c0, c1, c2⟩ := h
  have hlp := cell_lt c0
  have h1 : decide (2048 < (l.length : Int)) = false := by simp; omega
  have h3 : decide (l.length ≤ i) = false := by simp; omega
  have h4 : decide (2048 < l.length) = false := by simp; omega
  have hi0 : (0 : Int) ≤ (i : Int) := Int.natCast_nonneg _
  have hi1 : (i : Int) < (l.length : Int) := by omega
  obtain ⟨d0, d1, d2, d3⟩ := hc i hi
  clear hc
  generalize hr : rightP l[i].o l[i].a l[i].b l[i].c l.length n = r
  have Hr := Lib.hid hr
  clear hr
  unfold zeroI Ins.val
  go_enter Tryd.func35, Tryd.ntmps35
  go_wp2_with fail
  go_region_held3 (fun w' => w'.cell? ⟨p, 0, none⟩ = some (.int .i64 i) ∧ w'.cell? ⟨p, 1, none⟩ = some (.slice a n k) ∧ w'.cell? ⟨b, off + i * 4, none⟩ = some (.int .i64 l[i].o) ∧ w'.cell? ⟨b, off + i * 4 + 1, none⟩ = some (.int .i64 l[i].a) ∧
      w'.cell? ⟨b, off + i * 4 + 2, none⟩ = some (.int .i64 l[i].b) ∧ w'.cell? ⟨b, off + i * 4 + 3, none⟩ = some (.int .i64 l[i].c))
    (first | go_keep | (go_split_ands; refine ⟨?_, ?_, ?_, ?_, ?_, ?_⟩ <;> (rw [hb1.cell (by simp; omega)]; assumption)))
    ((go_at_call 54; refine (iright_any _ _ _ _ _ _ _ (H.alloc _).drew).mono ?_; rintro e w1 ⟨rfl, hb1⟩))
  have k0 : ∀ j, w1.cell? ⟨w.heap.size, j, none⟩ = #[Value.int .i64 0, .int .i64 0, .int .i64 0, .int .i64 0][j]? := fun j => (hb1.cell (p := ⟨w.heap.size, j, none⟩) (by simp)).trans (by simp)
  have z0 : ∀ j, w1.frozen? ⟨w.heap.size, j, none⟩ = false := fun j => (hb1.frozen (p := ⟨w.heap.size, j, none⟩) (by simp)).trans (by go_simp)
  have hsz : w.heap.size < w1.heap.size := by have := hb1.size; simp at this; omega
  have e0 : w1.cell? ⟨p, 0, none⟩ = some (.int .i64 i) := by rw [hb1.cell (by simp; omega)]; go_simp
  have g0 : w1.cell? ⟨b, off + i * 4, none⟩ = some (.int .i64 l[i].o) := by rw [hb1.cell (by simp; omega)]; go_simp
  have g1 : w1.cell? ⟨b, off + i * 4 + 1, none⟩ = some (.int .i64 l[i].a) := by rw [hb1.cell (by simp; omega)]; go_simp
  have g2 : w1.cell? ⟨b, off + i * 4 + 2, none⟩ = some (.int .i64 l[i].b) := by rw [hb1.cell (by simp; omega)]; go_simp
  have g3 : w1.cell? ⟨b, off + i * 4 + 3, none⟩ = some (.int .i64 l[i].c) := by rw [hb1.cell (by simp; omega)]; go_simp
  have HB : Hid (Below w.heap.size w w1) := Lib.hid ((below_alloc1 w _).drew.trans (hb1.mono (by simp)))
  clear hb1 c0 c1 c2 d0 d1 d2 d3 H
  rw [Hr.out]
  cases r
  · go_wp2
    exact bodyPost_ret (v := .tuple #[.agg #[.int .i64 0, .int .i64 0, .int .i64 0, .int .i64 0], .bool false]) (by simp [results, Tryd.results35, go_sem, *]) rfl ⟨rfl, ((((HB.out.setCell (by simp) _).setCell (by simp) _).setCell (by simp) _).setCell (by simp) _)⟩
  · go_wp2
    exact bodyPost_ret (v := .tuple #[.agg #[.int .i64 l[i].o, .int .i64 l[i].a, .int .i64 l[i].b, .int .i64 l[i].c], .bool true]) (by simp [results, Tryd.results35, go_sem, *]) rfl ⟨rfl, ((((HB.out.setCell (by simp) _).setCell (by simp) _).setCell (by simp) _).setCell (by simp) _)⟩
end Go.Proofs.YteecpkkgjioplaaDoor

/- far: the place of the word that a load reads, or a store writes. -/
namespace Go.Proofs.YteecpkkgjioplaaDoor
open Go.RowKit Go

/-- A place, or -1: there is no such word. -/
def farC (n : Nat) (pl : Int) : Int := if (n : Int) ≤ pl then -1 else max pl (-1)

set_option maxRecDepth 20000 in
set_option maxHeartbeats 1000000 in
theorem far_no (p : Nat) (o a b c : Int) (ad : Option Addr) (n k : Nat) (pc halt : Int) (w : World) (h : StAt w p pc (.slice ad n k) halt) (h15 : ¬ o = 15) (h16 : ¬ o = 16) :
    Calls Tryd.prog 38 #[.pointer (some ⟨p, 0, none⟩), .agg #[.int .i64 o, .int .i64 a, .int .i64 b, .int .i64 c]] w fun e w' => e = .returned (.int .i64 (-1)) ∧ Below w.heap.size w w' := by
  obtain ⟨c0, c1, c2⟩ := h
  have hlp := cell_lt c0
  have b15 : (o == 15) = false := by simp [h15]
  have b16 : (o == 16) = false := by simp [h16]
  clear h15 h16 c0 c2
  go_enter Tryd.func38, Tryd.ntmps38
  go_wp2
  all_goals (go_ret; exact ⟨rfl, below_alloc1 _ _⟩)

set_option maxRecDepth 20000 in
set_option maxHeartbeats 1000000 in
theorem far_15 (p : Nat) (a b : Int) (c : Nat) (ad : Addr) (n k : Nat) (pc halt : Int) (xs : List Int) (x : Int) (w : World) (h : StAt w p pc (.slice (some ad) n k) halt) (hs : I32s w (.slice (some ad) n k) xs) (hx : xs[c]? = some x)
    (hb : numP b = true) (x0 : -2147483648 ≤ x) (x1 : x ≤ 2147483647) (hn : n ≤ 300) :
    Calls Tryd.prog 38 #[.pointer (some ⟨p, 0, none⟩), .agg #[.int .i64 15, .int .i64 a, .int .i64 b, .int .i64 c]] w fun e w' => e = .returned (.int .i64 (farC n (b + x))) ∧ Below w.heap.size w w' := by
  obtain ⟨c0, c1, c2⟩ := h
  have hlp := cell_lt c0
  have hnl := hs.len
  have hc : c < xs.length := (List.getElem?_eq_some_iff.1 hx).1
  obtain ⟨mb, mo, rfl, lm, hk⟩ := hs.look (by omega)
  have q := hk c x hx
  have hc0 : (0 : Int) ≤ (c : Int) := Int.natCast_nonneg _
  have hc1 : (c : Int) < (n : Int) := by omega
  simp [numP] at hb
  obtain ⟨hb0, hb1⟩ := hb
  have s0 : -4294967296 ≤ b + x := by omega
  have s1 : b + x ≤ 4294967294 := by omega
  clear hs hk hx hc hnl c0 c2
  go_enter Tryd.func38, Tryd.ntmps38
  go_wp2_with fail
  go_quiet (fail)
  go_wp2_with fail
  all_goals (go_ret; refine ⟨ret_int ?_, below_drewN (below_alloc1 _ _) _⟩)
  all_goals (unfold farC; first | (rw [if_pos ‹_›]) | (rw [if_neg (by omega)]; simp; omega) | (rw [if_neg (by omega)]; omega))

set_option maxRecDepth 20000 in
set_option maxHeartbeats 1000000 in
theorem far_16 (p : Nat) (a : Int) (b : Nat) (c : Int) (ad : Addr) (n k : Nat) (pc halt : Int) (xs : List Int) (x : Int) (w : World) (h : StAt w p pc (.slice (some ad) n k) halt) (hs : I32s w (.slice (some ad) n k) xs) (hx : xs[b]? = some x)
    (hb : numP a = true) (x0 : -2147483648 ≤ x) (x1 : x ≤ 2147483647) (hn : n ≤ 300) :
    Calls Tryd.prog 38 #[.pointer (some ⟨p, 0, none⟩), .agg #[.int .i64 16, .int .i64 a, .int .i64 b, .int .i64 c]] w fun e w' => e = .returned (.int .i64 (farC n (a + x))) ∧ Below w.heap.size w w' := by
  obtain ⟨c0, c1, c2⟩ := h
  have hlp := cell_lt c0
  have hnl := hs.len
  have hc : b < xs.length := (List.getElem?_eq_some_iff.1 hx).1
  obtain ⟨mb, mo, rfl, lm, hk⟩ := hs.look (by omega)
  have q := hk b x hx
  have hc0 : (0 : Int) ≤ (b : Int) := Int.natCast_nonneg _
  have hc1 : (b : Int) < (n : Int) := by omega
  simp [numP] at hb
  obtain ⟨hb0, hb1⟩ := hb
  have s0 : -4294967296 ≤ a + x := by omega
  have s1 : a + x ≤ 4294967294 := by omega
  clear hs hk hx hc hnl c0 c2
  go_enter Tryd.func38, Tryd.ntmps38
  go_wp2_with fail
  go_quiet (fail)
  go_wp2_with fail
  all_goals (go_ret; refine ⟨ret_int ?_, below_drewN (below_alloc1 _ _) _⟩)
  all_goals (unfold farC; first | (rw [if_pos ‹_›]) | (rw [if_neg (by omega)]; simp; omega) | (rw [if_neg (by omega)]; omega))
end Go.Proofs.YteecpkkgjioplaaDoor

/- twos: the table of the operations of two words. -/
namespace Go.Proofs.YteecpkkgjioplaaDoor
open Go.RowKit Go
open Go.MapKept

theorem push_set (h : Array Obj) (a b : Obj) : (h.push a).setIfInBounds h.size b = h.push b := by
  apply Array.toList_inj.1
  rw [Array.toList_setIfInBounds, Array.toList_push, Array.toList_push, ← Array.length_toList, List.set_append_right _ _ (Nat.le_refl _)]
  simp
theorem ins_run (w : World) (es : Array MapEntry) (n : Nat) (k : Int) (v : Value) (hk : Instr.findNow (.int .i64) (.int .i64 k) es.toList 0 = some none) :
    (Instr.mapUpdate 64 (.map (some w.heap.size)) (.int .i64 k) v).run Tryd.prog (w.alloc (.map es n)) = .ok () (w.alloc (.map (es.push ⟨.int .i64 k, v, n⟩) (n + 1))) := by
  have hh : (w.alloc (.map es n)).heap[w.heap.size]? = some (.map es n) := by show (w.heap.push _)[w.heap.size]? = _; simp
  unfold Instr.mapUpdate
  simp only [Sem.run_bind, run_underlying Tryd.underlying64, Result.andThen, MapKept.run_getObj_map hh, run_checkKey Tryd.underlying3 (show IsKey (.int .i64) (.int .i64 k) from rfl), run_findKey Tryd.underlying3 hk, MapKept.run_setObj_map _ hh]
  show Result.ok () { w with heap := (w.heap.push (.map es n)).setIfInBounds w.heap.size _ } = _
  rw [push_set]
  rfl
theorem look_run (w : World) (mb : Nat) (es : Array MapEntry) (n : Nat) (h : w.heap[mb]? = some (.map es n)) (k : Int) (i : Nat) (v : Value) (hk : Instr.findNow (.int .i64) (.int .i64 k) es.toList 0 = some (some (i, v))) :
    (Instr.lookup 64 (.map (some mb)) (.int .i64 k) false).run Tryd.prog w = .ok v w := by
  unfold Instr.lookup
  simp only [Sem.run_bind, run_underlying Tryd.underlying64, Result.andThen, MapKept.run_getObj_map h, run_checkKey Tryd.underlying3 (show IsKey (.int .i64) (.int .i64 k) from rfl), run_findKey Tryd.underlying3 hk, Sem.run_pure]
  rfl
theorem wpList_insert {P : Program} {w w' : World} {ops : Array Oper} {rest : List Oper} {o : Oper} {a : Act} {Q : Exit → Act → World → Prop} (hgd : o.guard = none) (t : TypeId) (m k x : Operand) (ho : o.op = .insert t m k x)
    (hrun : (Instr.mapUpdate t (a.eval m) (a.eval k) (a.eval x)).run P w = .ok () w') (h : wpList P ops Q rest (a.put o.dst undef) w') : wpList P ops Q (o :: rest) a w := by
  refine wpList_plain hgd fun K hK => ?_
  unfold Oper.wp
  have : (execOp a.eval o).run P w = .ok .skip w' := by
    simp only [execOp, ho]
    simp [hrun, Result.andThen]
  rw [this, Oper.upon_skip]
  exact hK _ _ h
def twosE : Array MapEntry := #[⟨.int .i64 3, .func (.func 42) #[] #[], 0⟩, ⟨.int .i64 4, .func (.func 43) #[] #[], 1⟩, ⟨.int .i64 5, .func (.func 44) #[] #[], 2⟩, ⟨.int .i64 6, .func (.func 45) #[] #[], 3⟩, ⟨.int .i64 7, .func (.func 46) #[] #[], 4⟩,
  ⟨.int .i64 8, .func (.func 47) #[] #[], 5⟩, ⟨.int .i64 9, .func (.func 49) #[] #[], 6⟩, ⟨.int .i64 10, .func (.func 50) #[] #[], 7⟩, ⟨.int .i64 11, .func (.func 51) #[] #[], 8⟩, ⟨.int .i64 12, .func (.func 52) #[] #[], 9⟩, ⟨.int .i64 13, .func (.func 53) #[] #[], 10⟩]
set_option maxRecDepth 20000 in
set_option maxHeartbeats 1000000 in
theorem twos_any (w : World) :
    Calls Tryd.prog 31 #[] w fun e w' => e = .returned (.map (some w.heap.size)) ∧ w' = w.alloc (.map twosE 11) := by
  have hmm := @run_makeMap Tryd.prog
  go_enter Tryd.func31, Tryd.ntmps31
  go_wp2_with (first | (refine wpList_insert rfl 64 (.tmp 1) _ _ rfl (ins_run w _ _ _ _ rfl) ?_) | fail)
  go_ret
  exact ⟨rfl, rfl⟩
end Go.Proofs.YteecpkkgjioplaaDoor

/- What a step does: the plain law. -/
namespace Go.Proofs.YteecpkkgjioplaaDoor
open Go.RowKit Go

def gx (xs : List Int) (k : Int) : Int := xs.getD k.toNat 0
def wx (xs : List Int) (k : Int) (v : Int) : List Int := xs.set k.toNat v
def farI (i : Ins) (xs : List Int) : Int := farC xs.length (if i.o = 15 then i.b + gx xs i.c else i.a + gx xs i.b)
/-- The words behind an instruction. -/
def memP (i : Ins) (xs : List Int) : List Int :=
  if i.o = 1 then wx xs i.a i.b
  else if i.o = 2 then wx xs i.a (gx xs i.b)
  else if 3 ≤ i.o ∧ i.o ≤ 13 then wx xs i.a (twoP i.o (gx xs i.b) (gx xs i.c))
  else if i.o = 14 then wx xs i.a (truthP (gx xs i.b == 0))
  else if i.o = 15 then wx xs i.a (gx xs (farI i xs))
  else if i.o = 16 then wx xs (farI i xs) (gx xs i.c)
  else if i.o = 17 then wx xs i.a (min (max (gx xs i.a) i.b) i.c)
  else if i.o = 18 then wx xs i.a (truthP (decide (0 ≤ gx xs i.b) && decide (gx xs i.b < i.c)))
  else xs
/-- The place of the next instruction. -/
def pcP (i : Ins) (pc : Int) (xs : List Int) : Int :=
  if i.o = 19 then i.a else if i.o = 20 then (if gx xs i.b = 0 then i.a else pc + 1) else if i.o = 21 then (if gx xs i.b = 0 then pc + 1 else i.a) else pc + 1
/-- What an instruction that may be does, at a state that goes on. -/
def actP (i : Ins) (pc : Int) (xs : List Int) : Int × List Int × Int :=
  if (i.o = 15 ∨ i.o = 16) ∧ farI i xs < 0 then (pc, xs, 2) else if i.o = 0 then (pc, xs, 1 + i.a) else (pcP i pc xs, memP i xs, 0)
def nextP (l : List Ins) (pc : Int) (n : Nat) : Option Ins :=
  match l[pc.toNat]? with
  | none => none
  | some i => if rightP i.o i.a i.b i.c l.length n then some i else none
/-- A step, from a state that goes on. -/
def stepP (l : List Ins) (pc : Int) (xs : List Int) : Int × List Int × Int :=
  match nextP l pc xs.length with
  | none => (pc, xs, 2)
  | some i => actP i pc xs

theorem wx_len (xs : List Int) (k v : Int) : (wx xs k v).length = xs.length := by simp [wx]
theorem memP_len (i : Ins) (xs : List Int) : (memP i xs).length = xs.length := by
  unfold memP
  repeat' split
  all_goals simp [wx_len]

theorem okc_0 {s : ByteArray} {k : Nat} {n size words : Int} (h : ¬ k < s.size) : okc s k n size words = (n == 0) := by simp [okc, h]
theorem okc_w {s : ByteArray} {k : Nat} {n size words : Int} (h : k < s.size) (e : s[k] = 119) : okc s k n size words = (decide (0 ≤ n) && decide (n < words)) := by simp [okc, h, e]
theorem okc_p {s : ByteArray} {k : Nat} {n size words : Int} (h : k < s.size) (e : s[k] = 112) : okc s k n size words = (decide (0 ≤ n) && decide (n < size)) := by simp [okc, h, e]
theorem okc_n {s : ByteArray} {k : Nat} {n size words : Int} (h : k < s.size) (e : s[k] = 110) : okc s k n size words = numP n := by simp [okc, h, e]
theorem right_0 {a b c size words : Int} (h : rightP 0 a b c size words = true) : a = 0 ∨ a = 1 := by
  simp [rightP, lastP] at h
  exact h.2
theorem right_1 {a b c size words : Int} (h : rightP 1 a b c size words = true) : 0 ≤ a ∧ a < words ∧ numP b = true := by
  simp only [rightP, Bool.and_eq_true] at h
  obtain ⟨⟨⟨⟨_, h0⟩, h1⟩, h2⟩, _⟩ := h
  rw [okc_w (by decide) (by decide)] at h0
  rw [okc_n (by decide) (by decide)] at h1
  simp at h0
  exact ⟨h0.1, h0.2, h1⟩
theorem right_ww {o a b c size words : Int} (ho : o = 2 ∨ o = 14) (h : rightP o a b c size words = true) : 0 ≤ a ∧ a < words ∧ 0 ≤ b ∧ b < words := by
  simp only [rightP, Bool.and_eq_true] at h
  obtain ⟨⟨⟨⟨_, h0⟩, h1⟩, h2⟩, _⟩ := h
  rcases ho with rfl | rfl
  · rw [okc_w (by decide) (by decide)] at h0 h1
    simp at h0 h1
    exact ⟨h0.1, h0.2, h1.1, h1.2⟩
  · rw [okc_w (by decide) (by decide)] at h0 h1
    simp at h0 h1
    exact ⟨h0.1, h0.2, h1.1, h1.2⟩
theorem right_www {o a b c size words : Int} (ho : o = 3 ∨ o = 4 ∨ o = 5 ∨ o = 6 ∨ o = 7 ∨ o = 8 ∨ o = 9 ∨ o = 10 ∨ o = 11 ∨ o = 12 ∨ o = 13 ∨ o = 15 ∨ o = 16) (h : rightP o a b c size words = true) :
    0 ≤ a ∧ a < words ∧ 0 ≤ b ∧ b < words ∧ 0 ≤ c ∧ c < words := by
  simp only [rightP, Bool.and_eq_true] at h
  obtain ⟨⟨⟨⟨_, h0⟩, h1⟩, h2⟩, _⟩ := h
  rcases ho with rfl | rfl | rfl | rfl | rfl | rfl | rfl | rfl | rfl | rfl | rfl | rfl | rfl
  all_goals
    rw [okc_w (by decide) (by decide)] at h0 h1 h2
    simp at h0 h1 h2
    exact ⟨h0.1, h0.2, h1.1, h1.2, h2.1, h2.2⟩
theorem right_17 {a b c size words : Int} (h : rightP 17 a b c size words = true) : 0 ≤ a ∧ a < words ∧ numP b = true ∧ numP c = true ∧ b ≤ c := by
  simp only [rightP, Bool.and_eq_true] at h
  obtain ⟨⟨⟨⟨_, h0⟩, h1⟩, h2⟩, h3⟩ := h
  rw [okc_w (by decide) (by decide)] at h0
  rw [okc_n (by decide) (by decide)] at h1 h2
  simp [lastP] at h0 h3
  exact ⟨h0.1, h0.2, h1, h2, h3⟩
theorem right_18 {a b c size words : Int} (h : rightP 18 a b c size words = true) : 0 ≤ a ∧ a < words ∧ 0 ≤ b ∧ b < words ∧ numP c = true := by
  simp only [rightP, Bool.and_eq_true] at h
  obtain ⟨⟨⟨⟨_, h0⟩, h1⟩, h2⟩, h3⟩ := h
  rw [okc_w (by decide) (by decide)] at h0 h1
  rw [okc_n (by decide) (by decide)] at h2
  simp at h0 h1
  exact ⟨h0.1, h0.2, h1.1, h1.2, h2⟩
theorem right_19 {a b c size words : Int} (h : rightP 19 a b c size words = true) : 0 ≤ a ∧ a < size := by
  simp only [rightP, Bool.and_eq_true] at h
  obtain ⟨⟨⟨⟨_, h0⟩, h1⟩, h2⟩, h3⟩ := h
  rw [okc_p (by decide) (by decide)] at h0
  simp at h0
  exact h0
theorem right_j {o a b c size words : Int} (ho : o = 20 ∨ o = 21) (h : rightP o a b c size words = true) : 0 ≤ a ∧ a < size ∧ 0 ≤ b ∧ b < words := by
  simp only [rightP, Bool.and_eq_true] at h
  obtain ⟨⟨⟨⟨_, h0⟩, h1⟩, h2⟩, _⟩ := h
  rcases ho with rfl | rfl
  all_goals
    rw [okc_p (by decide) (by decide)] at h0
    rw [okc_w (by decide) (by decide)] at h1
    simp at h0 h1
    exact ⟨h0.1, h0.2, h1.1, h1.2⟩
theorem right_o {o a b c size words : Int} (h : rightP o a b c size words = true) : 0 ≤ o ∧ o < 22 := by
  simp only [rightP, Bool.and_eq_true] at h
  have := h.1.1.1.1
  simp [isP] at this
  exact this
theorem right_isP {o a b c size words : Int} (h : rightP o a b c size words = true) : isP o = true := by
  simp only [rightP, Bool.and_eq_true] at h
  exact h.1.1.1.1
/-- The numbers that words may be. -/
def W32 (xs : List Int) : Prop := ∀ (k : Nat) (x : Int), xs[k]? = some x → -2147483648 ≤ x ∧ x ≤ 2147483647
theorem gx_at {xs : List Int} {k : Nat} (h : k < xs.length) : xs[k]? = some (gx xs k) := by
  simp [gx, List.getElem?_eq_getElem h]
theorem W32.gx {xs : List Int} (h : W32 xs) {k : Nat} (hk : k < xs.length) : -2147483648 ≤ gx xs k ∧ gx xs k ≤ 2147483647 := h k _ (gx_at hk)
theorem W32.wx {xs : List Int} (h : W32 xs) {k v : Int} (hv : -2147483648 ≤ v ∧ v ≤ 2147483647) : W32 (wx xs k v) := by
  intro j x hx
  unfold Go.Proofs.YteecpkkgjioplaaDoor.wx at hx
  rw [List.getElem?_set] at hx
  split at hx
  · split at hx
    · obtain rfl := Option.some.inj hx
      exact hv
    · cases hx
  · exact h j x hx
end Go.Proofs.YteecpkkgjioplaaDoor

/- step: what an instruction does. -/
namespace Go.Proofs.YteecpkkgjioplaaDoor
open Go.RowKit Go

/-- Where a state lies that is written: its own block p, its words' block m. -/
structure MSt (w : World) (p m k : Nat) (pc : Int) (xs : List Int) (halt : Int) : Prop where
  st : StAt w p pc (.slice (some ⟨m, 0, none⟩) xs.length k) halt
  cells : ∀ (j : Nat) (x : Int), xs[j]? = some x → w.cell? ⟨m, j, none⟩ = some (.int .i32 x)
  fp : ∀ j, w.frozen? ⟨p, j, none⟩ = false
  fm : ∀ j, w.frozen? ⟨m, j, none⟩ = false
  ne : p ≠ m
/-- All blocks but two are as they were. -/
structure But2 (p m : Nat) (w w' : World) : Prop where
  os : w'.os = w.os
  tape : w'.tape = w.tape
  output : w'.output = w.output
  size : w.heap.size ≤ w'.heap.size
  block : ∀ k, k < w.heap.size → k ≠ p → k ≠ m → w'.heap[k]? = w.heap[k]?
theorem But2.of_below {p m : Nat} {w w' : World} (h : Below w.heap.size w w') : But2 p m w w' := ⟨h.os, h.tape, h.output, h.size, fun k hk _ _ => h.block k hk⟩
theorem But2.trans {p m : Nat} {a b c : World} (h : But2 p m a b) (k : But2 p m b c) : But2 p m a c :=
  ⟨k.os.trans h.os, k.tape.trans h.tape, k.output.trans h.output, Nat.le_trans h.size k.size, fun i hi h1 h2 => (k.block i (Nat.lt_of_lt_of_le hi h.size) h1 h2).trans (h.block i hi h1 h2)⟩
theorem But2.below {p m : Nat} {a b c : World} (h : But2 p m a b) (k : Below b.heap.size b c) : But2 p m a c := h.trans (But2.of_below k)
theorem But2.setCell {p m : Nat} {a w : World} (h : But2 p m a w) {x : Addr} (hx : x.block = p ∨ x.block = m ∨ a.heap.size ≤ x.block) (u : Value) : But2 p m a (w.setCell x u) :=
  ⟨h.os, h.tape, h.output, by simpa [World.setCell] using h.size, fun k hk h1 h2 => (Below.heap_setCell _ _ _ _ (by omega)).trans (h.block k hk h1 h2)⟩
theorem But2.alloc {p m : Nat} {a w : World} (h : But2 p m a w) (o : Obj) : But2 p m a (w.alloc o) := h.trans (But2.of_below (below_alloc1 w o))
theorem But2.drewN {p m : Nat} {a w : World} (h : But2 p m a w) (n : Nat) : But2 p m a (w.drewN n) := ⟨h.os, h.tape, h.output, h.size, h.block⟩
theorem But2.drew {p m : Nat} {a w : World} (h : But2 p m a w) : But2 p m a w.drew := ⟨h.os, h.tape, h.output, h.size, h.block⟩

/-- What 'next' leaves at an instruction that may be. -/
theorem next_yes (p m k : Nat) (pc : Nat) (xs : List Int) (l : List Ins) (v : Value) (i : Ins) (w : World) (h : MSt w p m k pc xs 0) (H : Ops w) (hc : InsS w v l) (hl : l.length ≤ 300) (hi : nextP l pc xs.length = some i) :
    Calls Tryd.prog 35 #[.pointer (some ⟨p, 0, none⟩), v] w fun e w' => e = .returned (.tuple #[.agg #[.int .i64 i.o, .int .i64 i.a, .int .i64 i.b, .int .i64 i.c], .bool true]) ∧ Below w.heap.size w w' := by
  unfold nextP at hi
  simp only [Int.toNat_natCast] at hi
  split at hi
  · cases hi
  · rename_i i' hi'
    obtain ⟨hlt, rfl⟩ := List.getElem?_eq_some_iff.1 hi'
    split at hi
    · rename_i hr
      obtain rfl := Option.some.inj hi
      obtain ⟨a, cap, rfl, hk⟩ := hc
      obtain ⟨b, off, rfl, lb, hat⟩ := hk (by omega)
      refine (next_in p pc 0 b off l cap _ _ _ pc w h.st H (by omega) rfl hlt lb hat).mono ?_
      rintro e w' ⟨rfl, hb⟩
      rw [hr, if_pos rfl]
      exact ⟨rfl, hb⟩
    · cases hi
theorem next_no (p m k : Nat) (pc : Nat) (xs : List Int) (l : List Ins) (v : Value) (w : World) (h : MSt w p m k pc xs 0) (H : Ops w) (hc : InsS w v l) (hl : l.length ≤ 300) (hi : nextP l pc xs.length = none) :
    Calls Tryd.prog 35 #[.pointer (some ⟨p, 0, none⟩), v] w fun e w' => e = .returned (.tuple #[zeroI, .bool false]) ∧ Below w.heap.size w w' := by
  unfold nextP at hi
  simp only [Int.toNat_natCast] at hi
  obtain ⟨a, cap, rfl, hk⟩ := hc
  split at hi
  · rename_i hn
    have : l.length ≤ pc := by simpa using hn
    exact next_out p pc 0 a l cap _ w h.st (by omega) (by omega)
  · rename_i i' hi'
    obtain ⟨hlt, rfl⟩ := List.getElem?_eq_some_iff.1 hi'
    split at hi
    · cases hi
    · rename_i hr
      obtain ⟨b, off, rfl, lb, hat⟩ := hk (by omega)
      refine (next_in p pc 0 b off l cap _ _ _ pc w h.st H (by omega) rfl hlt lb hat).mono ?_
      rintro e w' ⟨rfl, hb⟩
      simp only [Bool.not_eq_true] at hr
      rw [hr]
      exact ⟨rfl, hb⟩
end Go.Proofs.YteecpkkgjioplaaDoor

/- step: the prefix's contracts, and a move. -/
namespace Go.Proofs.YteecpkkgjioplaaDoor
open Go.RowKit Go

theorem MSt.below {w w' : World} {p m k : Nat} {pc : Int} {xs : List Int} {halt : Int} (h : MSt w p m k pc xs halt) (hx : 0 < xs.length) (hb : Below w.heap.size w w') : MSt w' p m k pc xs halt := by
  have lp := cell_lt h.st.c0
  have lm : m < w.heap.size := cell_lt (h.cells 0 _ (List.getElem?_eq_getElem hx))
  exact ⟨⟨(hb.cell (p := ⟨p, 0, none⟩) lp).trans h.st.c0, (hb.cell (p := ⟨p, 1, none⟩) lp).trans h.st.c1, (hb.cell (p := ⟨p, 2, none⟩) lp).trans h.st.c2⟩,
    fun j x hj => (hb.cell (p := ⟨m, j, none⟩) lm).trans (h.cells j x hj), fun j => (hb.frozen (p := ⟨p, j, none⟩) lp).trans (h.fp j), fun j => (hb.frozen (p := ⟨m, j, none⟩) lm).trans (h.fm j), h.ne⟩
theorem MSt.i32s {w : World} {p m k : Nat} {pc : Int} {xs : List Int} {halt : Int} (h : MSt w p m k pc xs halt) (hk : k ≤ maxLen) : I32s w (.slice (some ⟨m, 0, none⟩) xs.length k) xs := by
  refine ⟨some ⟨m, 0, none⟩, k, rfl, hk, (fun e => by cases e), fun ad e hx => ?_⟩
  obtain rfl := Option.some.inj e
  have hx0 : 0 < xs.length := List.length_pos_iff.2 hx
  have lm : m < w.heap.size := cell_lt (h.cells 0 _ (List.getElem?_eq_getElem hx0))
  exact ⟨rfl, lm, fun j hj => by simpa using h.cells j _ (List.getElem?_eq_getElem hj)⟩

theorem cell_set_same {w : World} {b o : Nat} {v u : Value} (h : w.cell? ⟨b, o, none⟩ = some v) : (w.setCell ⟨b, o, none⟩ u).cell? ⟨b, o, none⟩ = some u := World.cell?_setCell_same _ _ _ h
theorem cell_set_off {w : World} {b o b' o' : Nat} {u : Value} (h : ¬ (b = b' ∧ o = o')) : (w.setCell ⟨b, o, none⟩ u).cell? ⟨b', o', none⟩ = w.cell? ⟨b', o', none⟩ := by
  apply World.cell?_setCell_other
  intro e
  simp at e
  exact h e
theorem MSt.setMem {w : World} {p m k : Nat} {pc : Int} {xs : List Int} {halt : Int} (h : MSt w p m k pc xs halt) {a : Nat} (ha : a < xs.length) (v : Int) : MSt (w.setCell ⟨m, a, none⟩ (.int .i32 v)) p m k pc (wx xs a v) halt := by
  have hne := h.ne
  refine ⟨⟨(cell_set_off (by omega)).trans h.st.c0, (cell_set_off (by omega)).trans (by rw [wx_len]; exact h.st.c1), (cell_set_off (by omega)).trans h.st.c2⟩, fun j x hj => ?_, fun j => by simpa using h.fp j, fun j => by simpa using h.fm j, hne⟩
  unfold wx at hj
  rw [List.getElem?_set] at hj
  simp only [Int.toNat_natCast] at hj
  split at hj
  · rename_i e
    subst e
    obtain rfl := Option.some.inj hj
    exact cell_set_same (h.cells a _ (List.getElem?_eq_getElem ha))
  · rename_i e
    exact (cell_set_off (by omega)).trans (h.cells j x hj)
theorem MSt.setPc {w : World} {p m k : Nat} {pc : Int} {xs : List Int} {halt : Int} (h : MSt w p m k pc xs halt) (pc' : Int) : MSt (w.setCell ⟨p, 0, none⟩ (.int .i64 pc')) p m k pc' xs halt := by
  have hne := h.ne
  exact ⟨⟨cell_set_same h.st.c0, (cell_set_off (by omega)).trans h.st.c1, (cell_set_off (by omega)).trans h.st.c2⟩, fun j x hj => (cell_set_off (by omega)).trans (h.cells j x hj), fun j => by simpa using h.fp j, fun j => by simpa using h.fm j, hne⟩
theorem MSt.setHalt {w : World} {p m k : Nat} {pc : Int} {xs : List Int} {halt : Int} (h : MSt w p m k pc xs halt) (halt' : Int) : MSt (w.setCell ⟨p, 2, none⟩ (.int .i64 halt')) p m k pc xs halt' := by
  have hne := h.ne
  exact ⟨⟨(cell_set_off (by omega)).trans h.st.c0, (cell_set_off (by omega)).trans h.st.c1, cell_set_same h.st.c2⟩, fun j x hj => (cell_set_off (by omega)).trans (h.cells j x hj), fun j => by simpa using h.fp j, fun j => by simpa using h.fm j, hne⟩
theorem MSt.drew {w : World} {p m k : Nat} {pc : Int} {xs : List Int} {halt : Int} (h : MSt w p m k pc xs halt) : MSt w.drew p m k pc xs halt := ⟨⟨h.st.c0, h.st.c1, h.st.c2⟩, h.cells, h.fp, h.fm, h.ne⟩
theorem MSt.drewN {w : World} {p m k : Nat} {pc : Int} {xs : List Int} {halt : Int} (h : MSt w p m k pc xs halt) (n : Nat) : MSt (w.drewN n) p m k pc xs halt := ⟨⟨h.st.c0, h.st.c1, h.st.c2⟩, h.cells, h.fp, h.fm, h.ne⟩

/-- What 'far' answers at an instruction that may be. -/
def farR (i : Ins) (xs : List Int) : Int := if i.o = 15 ∨ i.o = 16 then farI i xs else -1
theorem far_any (p m k : Nat) (pc : Int) (halt : Int) (xs : List Int) (i : Ins) (size : Int) (w : World) (h : MSt w p m k pc xs halt) (hk : k ≤ maxLen) (hr : rightP i.o i.a i.b i.c size xs.length = true) (hl : xs.length ≤ 300) (hW : W32 xs) :
    Calls Tryd.prog 38 #[.pointer (some ⟨p, 0, none⟩), .agg #[.int .i64 i.o, .int .i64 i.a, .int .i64 i.b, .int .i64 i.c]] w fun e w' => e = .returned (.int .i64 (farR i xs)) ∧ Below w.heap.size w w' := by
  obtain ⟨o, a, b, c⟩ := i
  simp only at hr ⊢
  by_cases h15 : o = 15
  · subst h15
    obtain ⟨_, _, _, _, hc0, hc1⟩ := right_www (by simp) hr
    obtain ⟨c, rfl⟩ := Int.eq_ofNat_of_zero_le hc0
    have hc : c < xs.length := by omega
    have hb : numP b = true := by
      obtain ⟨_, _, hb0, hb1, _, _⟩ := right_www (by simp) hr
      simp [numP]; omega
    obtain ⟨w0, w1⟩ := hW.gx hc
    refine (far_15 p a b c _ _ k pc halt xs _ w h.st (h.i32s hk) (gx_at hc) hb w0 w1 hl).mono ?_
    rintro e w' ⟨rfl, hb'⟩
    exact ⟨by simp [farR, farI], hb'⟩
  · by_cases h16 : o = 16
    · subst h16
      obtain ⟨ha0, ha1, hb0, hb1, _, _⟩ := right_www (by simp) hr
      obtain ⟨b, rfl⟩ := Int.eq_ofNat_of_zero_le hb0
      have hb : b < xs.length := by omega
      have ha : numP a = true := by simp [numP]; omega
      obtain ⟨w0, w1⟩ := hW.gx hb
      refine (far_16 p a b c _ _ k pc halt xs _ w h.st (h.i32s hk) (gx_at hb) ha w0 w1 hl).mono ?_
      rintro e w' ⟨rfl, hb'⟩
      exact ⟨by simp [farR, farI], hb'⟩
    · refine (far_no p o a b c _ _ k pc halt w h.st h15 h16).mono ?_
      rintro e w' ⟨rfl, hb'⟩
      exact ⟨by simp [farR, h15, h16], hb'⟩

/-- The conditions of a step. -/
structure Pre (w : World) (p m k tb : Nat) (pc : Nat) (xs : List Int) (l : List Ins) (v : Value) : Prop where
  st : MSt w p m k pc xs 0
  ops : Ops w
  code : InsS w v l
  two : w.heap[tb]? = some (.map twosE 11)
  ll : l.length ≤ 300
  lx : xs.length ≤ 300
  x0 : 0 < xs.length
  lk : k ≤ maxLen
  w32 : W32 xs
theorem heap_two {w w1 w2 : World} {o : Obj} {tb : Nat} {x : Obj} (h1 : Below w.heap.size w w1) (h2 : Below (w1.alloc o).heap.size (w1.alloc o) w2) (h : w.heap[tb]? = some x) : w2.heap[tb]? = some x := by
  have lt : tb < w.heap.size := (Array.getElem?_eq_some_iff.1 h).1
  rw [h2.block tb (by have := h1.size; simp; omega), (below_alloc1 w1 o).block tb (by have := h1.size; omega), h1.block tb lt, h]
theorem wpStill_skip {P : Program} {ops : Array Oper} {w : World} {Q : Act → Prop} {a : Act} {o : Oper} {rest : List Oper} (hw : Region.wanted o (yielded ops a.tmps) = false) (hu : a.put o.dst undef = a) (h : wpStill P ops w Q rest a) : wpStill P ops w Q (o :: rest) a := by
  simp only [wpStill, hw]
  rw [hu]
  exact h
theorem wpStill_move {P : Program} {ops : Array Oper} {w : World} {Q : Act → Prop} {a : Act} {o : Oper} {rest : List Oper} (hg : o.guard = none) (x : Operand) (ho : o.op = .move x) (v : Value) (hv : a.eval x = v) (a' : Act) (ha : a.put o.dst v = a') (h : wpStill P ops w Q rest a') : wpStill P ops w Q (o :: rest) a := by
  subst ha
  refine wpStill_step fun K hK => ?_
  rw [if_pos (by simp [Region.wanted, hg])]
  have : (execOp a.eval o).run P w = .ok (.value v) w := by
    simp [execOp, ho, hv]
  rw [Oper.still, this, Oper.stillUpon_value]
  exact hK _ h
theorem nextP_right {l : List Ins} {pc : Int} {n : Nat} {i : Ins} (h : nextP l pc n = some i) : rightP i.o i.a i.b i.c l.length n = true ∧ pc.toNat < l.length := by
  unfold nextP at h
  split at h
  · cases h
  · rename_i i' hi'
    split at h
    · rename_i hr
      obtain rfl := Option.some.inj h
      exact ⟨hr, (List.getElem?_eq_some_iff.1 hi').1⟩
    · cases h

set_option maxRecDepth 100000 in
set_option maxHeartbeats 4000000 in
theorem step_2 (p m k tb pc : Nat) (xs : List Int) (l : List Ins) (v : Value) (a b c : Int) (w : World) (h : Pre w p m k tb pc xs l v) (hi : nextP l pc xs.length = some ⟨2, a, b, c⟩) :
    Calls Tryd.prog 32 #[.pointer (some ⟨p, 0, none⟩), v, .map (some tb)] w fun e w' => e = .returned (.tuple #[]) ∧ MSt w' p m k (pc + 1) (wx xs a (gx xs b)) 0 ∧ But2 p m w w' := by
  obtain ⟨hr, hpc⟩ := nextP_right hi
  simp only [Int.toNat_natCast] at hr hpc
  obtain ⟨ha0, ha1, hb0, hb1⟩ := right_ww (by simp) hr
  obtain ⟨a, rfl⟩ := Int.eq_ofNat_of_zero_le ha0
  obtain ⟨b, rfl⟩ := Int.eq_ofNat_of_zero_le hb0
  have hP := Lib.hid h
  have hl := h.ll
  have hx := h.lx
  go_enter Tryd.func32, Tryd.ntmps32
  go_wp2_with fail
  refine (next_yes p m k pc xs l v _ w h.st h.ops h.code h.ll hi).mono ?_
  rintro e w1 ⟨rfl, hb1⟩
  have h1 := h.st.below h.x0 hb1
  have H1 := Lib.hid h1
  have Hr := Lib.hid hr
  have Hb1 := Lib.hid hb1
  clear h hb1 h1 hi hr
  go_wp2_with fail
  refine (far_any p m k pc 0 xs ⟨2, a, b, c⟩ l.length _ (H1.out.below hP.out.x0 (below_alloc1 _ _)) hP.out.lk Hr.out hP.out.lx hP.out.w32).mono ?_
  rintro e w2 ⟨rfl, hb2⟩
  have h2 := (H1.out.below hP.out.x0 (below_alloc1 _ _)).below hP.out.x0 hb2
  have hf : farR ⟨2, a, b, c⟩ xs = -1 := by simp [farR]
  rw [hf]
  have H2 := Lib.hid h2
  obtain ⟨⟨s0, s1, s2⟩, hcs, zp, zm, hne⟩ := h2
  have HB : Hid (But2 p m w w2) := Lib.hid (((But2.of_below Hb1.out).below (below_alloc1 _ _)).below hb2)
  have hbx : b < xs.length := by omega
  have q := hcs b _ (gx_at hbx)
  have hk1 : m < w2.heap.size := cell_lt q
  have k2 : ∀ j, w2.cell? ⟨w1.heap.size, j, none⟩ = #[Value.int .i64 2, .int .i64 a, .int .i64 b, .int .i64 c][j]? := keep hb2
  have lt1 : (b : Int) < (xs.length : Int) := hb1
  have la1 : (a : Int) < (xs.length : Int) := ha1
  have pc0 : (pc : Int) ≤ 300 := by omega
  have Hcs := Lib.hid hcs
  have Hb2 := Lib.hid hb2
  clear hf hb2 hcs
  obtain ⟨xa, hxa⟩ : ∃ xa, w2.cell? ⟨m, a, none⟩ = some xa := ⟨_, Hcs.out a _ (gx_at (by omega))⟩
  go_wp2_with fail
  go_still_tail 8, (by kernel_rfl)
  go_wp2
  go_end0
  refine ⟨rfl, ?_, ?_⟩
  · exact ((H2.out.setMem (by omega) _).setPc _).drew
  · exact ((HB.out.setCell (by simp) _).setCell (by simp) _).drew
end Go.Proofs.YteecpkkgjioplaaDoor

/- step: step_0, step_1, step_14. -/
namespace Go.Proofs.YteecpkkgjioplaaDoor
open Go.RowKit Go

set_option maxRecDepth 100000 in
set_option maxHeartbeats 4000000 in
theorem step_0 (p m k tb pc : Nat) (xs : List Int) (l : List Ins) (v : Value) (a b c : Int) (w : World) (h : Pre w p m k tb pc xs l v) (hi : nextP l pc xs.length = some ⟨0, a, b, c⟩) :
    Calls Tryd.prog 32 #[.pointer (some ⟨p, 0, none⟩), v, .map (some tb)] w fun e w' => e = .returned (.tuple #[]) ∧ MSt w' p m k pc xs (1 + a) ∧ (a = 0 ∨ a = 1) ∧ But2 p m w w' := by
  obtain ⟨hr, hpc⟩ := nextP_right hi
  simp only [Int.toNat_natCast] at hr hpc
  have hah := right_0 hr
  have Hah := Lib.hid hah
  have a0 : 0 ≤ a := by omega
  have a1 : a ≤ 1 := by omega
  clear hah
  have hP := Lib.hid h
  have hl := h.ll
  have hx := h.lx
  go_enter Tryd.func32, Tryd.ntmps32
  go_wp2_with fail
  refine (next_yes p m k pc xs l v _ w h.st h.ops h.code h.ll hi).mono ?_
  rintro e w1 ⟨rfl, hb1⟩
  have h1 := h.st.below h.x0 hb1
  have H1 := Lib.hid h1
  have Hr := Lib.hid hr
  have Hb1 := Lib.hid hb1
  clear h hb1 h1 hi hr
  go_wp2_with fail
  refine (far_any p m k pc 0 xs ⟨0, a, b, c⟩ l.length _ (H1.out.below hP.out.x0 (below_alloc1 _ _)) hP.out.lk Hr.out hP.out.lx hP.out.w32).mono ?_
  rintro e w2 ⟨rfl, hb2⟩
  have h2 := (H1.out.below hP.out.x0 (below_alloc1 _ _)).below hP.out.x0 hb2
  have hf : farR ⟨0, a, b, c⟩ xs = -1 := by simp [farR]
  rw [hf]
  have H2 := Lib.hid h2
  obtain ⟨⟨s0, s1, s2⟩, hcs, zp, zm, hne⟩ := h2
  have HB : Hid (But2 p m w w2) := Lib.hid (((But2.of_below Hb1.out).below (below_alloc1 _ _)).below hb2)
  have hk1 : m < w2.heap.size := cell_lt (hcs 0 _ (gx_at (k := 0) hP.out.x0))
  have k2 : ∀ j, w2.cell? ⟨w1.heap.size, j, none⟩ = #[Value.int .i64 0, .int .i64 a, .int .i64 b, .int .i64 c][j]? := keep hb2
  have pc0 : (pc : Int) ≤ 300 := by omega
  have Hcs := Lib.hid hcs
  have Hb2 := Lib.hid hb2
  clear hf hb2 hcs
  go_wp2
  refine bodyPost_ret (results_none rfl _ _ _) rfl ?_
  refine ⟨rfl, ?_, Hah.out, ?_⟩
  · exact H2.out.setHalt _
  · exact HB.out.setCell (by simp) _

set_option maxRecDepth 100000 in
set_option maxHeartbeats 4000000 in
theorem step_1 (p m k tb pc : Nat) (xs : List Int) (l : List Ins) (v : Value) (a b c : Int) (w : World) (h : Pre w p m k tb pc xs l v) (hi : nextP l pc xs.length = some ⟨1, a, b, c⟩) :
    Calls Tryd.prog 32 #[.pointer (some ⟨p, 0, none⟩), v, .map (some tb)] w fun e w' => e = .returned (.tuple #[]) ∧ MSt w' p m k (pc + 1) (wx xs a (b)) 0 ∧ But2 p m w w' := by
  obtain ⟨hr, hpc⟩ := nextP_right hi
  simp only [Int.toNat_natCast] at hr hpc
  obtain ⟨ha0, ha1, hbn⟩ := right_1 hr
  obtain ⟨a, rfl⟩ := Int.eq_ofNat_of_zero_le ha0
  simp [numP] at hbn
  obtain ⟨hb0, hb1⟩ := hbn
  have hP := Lib.hid h
  have hl := h.ll
  have hx := h.lx
  go_enter Tryd.func32, Tryd.ntmps32
  go_wp2_with fail
  refine (next_yes p m k pc xs l v _ w h.st h.ops h.code h.ll hi).mono ?_
  rintro e w1 ⟨rfl, hb1⟩
  have h1 := h.st.below h.x0 hb1
  have H1 := Lib.hid h1
  have Hr := Lib.hid hr
  have Hb1 := Lib.hid hb1
  clear h hb1 h1 hi hr
  go_wp2_with fail
  refine (far_any p m k pc 0 xs ⟨1, a, b, c⟩ l.length _ (H1.out.below hP.out.x0 (below_alloc1 _ _)) hP.out.lk Hr.out hP.out.lx hP.out.w32).mono ?_
  rintro e w2 ⟨rfl, hb2⟩
  have h2 := (H1.out.below hP.out.x0 (below_alloc1 _ _)).below hP.out.x0 hb2
  have hf : farR ⟨1, a, b, c⟩ xs = -1 := by simp [farR]
  rw [hf]
  have H2 := Lib.hid h2
  obtain ⟨⟨s0, s1, s2⟩, hcs, zp, zm, hne⟩ := h2
  have HB : Hid (But2 p m w w2) := Lib.hid (((But2.of_below Hb1.out).below (below_alloc1 _ _)).below hb2)
  have hk1 : m < w2.heap.size := cell_lt (hcs 0 _ (gx_at (k := 0) hP.out.x0))
  have k2 : ∀ j, w2.cell? ⟨w1.heap.size, j, none⟩ = #[Value.int .i64 1, .int .i64 a, .int .i64 b, .int .i64 c][j]? := keep hb2
  have pc0 : (pc : Int) ≤ 300 := by omega
  have Hcs := Lib.hid hcs
  have Hb2 := Lib.hid hb2
  clear hf hb2 hcs
  obtain ⟨xa, qa⟩ : ∃ xa, w2.cell? ⟨m, a, none⟩ = some xa := ⟨_, Hcs.out a _ (gx_at (show a < xs.length by omega))⟩
  have la : (a : Int) < (xs.length : Int) := by omega
  go_wp2
  go_end0
  refine ⟨rfl, ?_, ?_⟩
  · exact ((H2.out.setMem (by omega) _).setPc _)
  · exact ((HB.out.setCell (by simp) _).setCell (by simp) _)

set_option maxRecDepth 100000 in
set_option maxHeartbeats 4000000 in
theorem step_14 (p m k tb pc : Nat) (xs : List Int) (l : List Ins) (v : Value) (a b c : Int) (w : World) (h : Pre w p m k tb pc xs l v) (hi : nextP l pc xs.length = some ⟨14, a, b, c⟩) :
    Calls Tryd.prog 32 #[.pointer (some ⟨p, 0, none⟩), v, .map (some tb)] w fun e w' => e = .returned (.tuple #[]) ∧ MSt w' p m k (pc + 1) (wx xs a (truthP (gx xs b == 0))) 0 ∧ But2 p m w w' := by
  obtain ⟨hr, hpc⟩ := nextP_right hi
  simp only [Int.toNat_natCast] at hr hpc
  obtain ⟨ha0, ha1, hb0, hb1⟩ := right_ww (by simp) hr
  obtain ⟨a, rfl⟩ := Int.eq_ofNat_of_zero_le ha0
  obtain ⟨b, rfl⟩ := Int.eq_ofNat_of_zero_le hb0
  have hP := Lib.hid h
  have hl := h.ll
  have hx := h.lx
  go_enter Tryd.func32, Tryd.ntmps32
  go_wp2_with fail
  refine (next_yes p m k pc xs l v _ w h.st h.ops h.code h.ll hi).mono ?_
  rintro e w1 ⟨rfl, hb1⟩
  have h1 := h.st.below h.x0 hb1
  have H1 := Lib.hid h1
  have Hr := Lib.hid hr
  have Hb1 := Lib.hid hb1
  clear h hb1 h1 hi hr
  go_wp2_with fail
  refine (far_any p m k pc 0 xs ⟨14, a, b, c⟩ l.length _ (H1.out.below hP.out.x0 (below_alloc1 _ _)) hP.out.lk Hr.out hP.out.lx hP.out.w32).mono ?_
  rintro e w2 ⟨rfl, hb2⟩
  have h2 := (H1.out.below hP.out.x0 (below_alloc1 _ _)).below hP.out.x0 hb2
  have hf : farR ⟨14, a, b, c⟩ xs = -1 := by simp [farR]
  rw [hf]
  have H2 := Lib.hid h2
  obtain ⟨⟨s0, s1, s2⟩, hcs, zp, zm, hne⟩ := h2
  have HB : Hid (But2 p m w w2) := Lib.hid (((But2.of_below Hb1.out).below (below_alloc1 _ _)).below hb2)
  have hk1 : m < w2.heap.size := cell_lt (hcs 0 _ (gx_at (k := 0) hP.out.x0))
  have k2 : ∀ j, w2.cell? ⟨w1.heap.size, j, none⟩ = #[Value.int .i64 14, .int .i64 a, .int .i64 b, .int .i64 c][j]? := keep hb2
  have pc0 : (pc : Int) ≤ 300 := by omega
  have Hcs := Lib.hid hcs
  have Hb2 := Lib.hid hb2
  clear hf hb2 hcs
  have qb := Hcs.out b _ (gx_at (show b < xs.length by omega))
  have lb : (b : Int) < (xs.length : Int) := by omega
  obtain ⟨xa, qa⟩ : ∃ xa, w2.cell? ⟨m, a, none⟩ = some xa := ⟨_, Hcs.out a _ (gx_at (show a < xs.length by omega))⟩
  have la : (a : Int) < (xs.length : Int) := by omega
  go_wp2_with fail
  go_still_tail 10, (by kernel_rfl)
  still_call ((truth_any _ _).mono (by rintro e w' ⟨rfl, rfl⟩; exact ⟨rfl, rfl⟩))
  repeat still_step
  try refine wpStill_nil ?_
  go_wp2
  go_end0
  refine ⟨rfl, ?_, ?_⟩
  · exact ((H2.out.setMem (by omega) _).setPc _).drew
  · exact ((HB.out.setCell (by simp) _).setCell (by simp) _).drew
end Go.Proofs.YteecpkkgjioplaaDoor

/- step: step_15, step_15n, step_16, step_16n, step_17. -/
namespace Go.Proofs.YteecpkkgjioplaaDoor
open Go.RowKit Go

set_option maxRecDepth 100000 in
set_option maxHeartbeats 4000000 in
theorem step_15 (p m k tb pc : Nat) (xs : List Int) (l : List Ins) (v : Value) (a b c : Int) (w : World) (h : Pre w p m k tb pc xs l v) (hi : nextP l pc xs.length = some ⟨15, a, b, c⟩) (f : Nat) (hff : farI ⟨15, a, b, c⟩ xs = f) (hfl : f < xs.length) :
    Calls Tryd.prog 32 #[.pointer (some ⟨p, 0, none⟩), v, .map (some tb)] w fun e w' => e = .returned (.tuple #[]) ∧ MSt w' p m k (pc + 1) (wx xs a (gx xs f)) 0 ∧ But2 p m w w' := by
  obtain ⟨hr, hpc⟩ := nextP_right hi
  simp only [Int.toNat_natCast] at hr hpc
  obtain ⟨ha0, ha1, hb0, hb1, hc0, hc1⟩ := right_www (by simp) hr
  obtain ⟨a, rfl⟩ := Int.eq_ofNat_of_zero_le ha0
  obtain ⟨b, rfl⟩ := Int.eq_ofNat_of_zero_le hb0
  obtain ⟨c, rfl⟩ := Int.eq_ofNat_of_zero_le hc0
  have HF := Lib.hid hff
  clear hff
  have hP := Lib.hid h
  have hl := h.ll
  have hx := h.lx
  go_enter Tryd.func32, Tryd.ntmps32
  go_wp2_with fail
  refine (next_yes p m k pc xs l v _ w h.st h.ops h.code h.ll hi).mono ?_
  rintro e w1 ⟨rfl, hb1⟩
  have h1 := h.st.below h.x0 hb1
  have H1 := Lib.hid h1
  have Hr := Lib.hid hr
  have Hb1 := Lib.hid hb1
  clear h hb1 h1 hi hr
  go_wp2_with fail
  refine (far_any p m k pc 0 xs ⟨15, a, b, c⟩ l.length _ (H1.out.below hP.out.x0 (below_alloc1 _ _)) hP.out.lk Hr.out hP.out.lx hP.out.w32).mono ?_
  rintro e w2 ⟨rfl, hb2⟩
  have h2 := (H1.out.below hP.out.x0 (below_alloc1 _ _)).below hP.out.x0 hb2
  have hf : farR ⟨15, a, b, c⟩ xs = (f : Int) := by simp [farR]; exact HF.out
  rw [hf]
  have H2 := Lib.hid h2
  obtain ⟨⟨s0, s1, s2⟩, hcs, zp, zm, hne⟩ := h2
  have HB : Hid (But2 p m w w2) := Lib.hid (((But2.of_below Hb1.out).below (below_alloc1 _ _)).below hb2)
  have hk1 : m < w2.heap.size := cell_lt (hcs 0 _ (gx_at (k := 0) hP.out.x0))
  have k2 : ∀ j, w2.cell? ⟨w1.heap.size, j, none⟩ = #[Value.int .i64 15, .int .i64 a, .int .i64 b, .int .i64 c][j]? := keep hb2
  have pc0 : (pc : Int) ≤ 300 := by omega
  have Hcs := Lib.hid hcs
  have Hb2 := Lib.hid hb2
  clear hf hb2 hcs
  have qf := Hcs.out f _ (gx_at (show f < xs.length by omega))
  have lf : (f : Int) < (xs.length : Int) := by omega
  obtain ⟨xa, qa⟩ : ∃ xa, w2.cell? ⟨m, a, none⟩ = some xa := ⟨_, Hcs.out a _ (gx_at (show a < xs.length by omega))⟩
  have la : (a : Int) < (xs.length : Int) := by omega
  go_wp2_with fail
  go_still_tail 7, (by kernel_rfl)
  go_wp2
  go_end0
  refine ⟨rfl, ?_, ?_⟩
  · exact ((H2.out.setMem (by omega) _).setPc _).drew
  · exact ((HB.out.setCell (by simp) _).setCell (by simp) _).drew

set_option maxRecDepth 100000 in
set_option maxHeartbeats 4000000 in
theorem step_15n (p m k tb pc : Nat) (xs : List Int) (l : List Ins) (v : Value) (a b c : Int) (w : World) (h : Pre w p m k tb pc xs l v) (hi : nextP l pc xs.length = some ⟨15, a, b, c⟩) (hff : farI ⟨15, a, b, c⟩ xs = -1) :
    Calls Tryd.prog 32 #[.pointer (some ⟨p, 0, none⟩), v, .map (some tb)] w fun e w' => e = .returned (.tuple #[]) ∧ MSt w' p m k pc xs 2 ∧ But2 p m w w' := by
  obtain ⟨hr, hpc⟩ := nextP_right hi
  simp only [Int.toNat_natCast] at hr hpc
  obtain ⟨ha0, ha1, hb0, hb1, hc0, hc1⟩ := right_www (by simp) hr
  obtain ⟨a, rfl⟩ := Int.eq_ofNat_of_zero_le ha0
  obtain ⟨b, rfl⟩ := Int.eq_ofNat_of_zero_le hb0
  obtain ⟨c, rfl⟩ := Int.eq_ofNat_of_zero_le hc0
  have HF := Lib.hid hff
  clear hff
  have hP := Lib.hid h
  have hl := h.ll
  have hx := h.lx
  go_enter Tryd.func32, Tryd.ntmps32
  go_wp2_with fail
  refine (next_yes p m k pc xs l v _ w h.st h.ops h.code h.ll hi).mono ?_
  rintro e w1 ⟨rfl, hb1⟩
  have h1 := h.st.below h.x0 hb1
  have H1 := Lib.hid h1
  have Hr := Lib.hid hr
  have Hb1 := Lib.hid hb1
  clear h hb1 h1 hi hr
  go_wp2_with fail
  refine (far_any p m k pc 0 xs ⟨15, a, b, c⟩ l.length _ (H1.out.below hP.out.x0 (below_alloc1 _ _)) hP.out.lk Hr.out hP.out.lx hP.out.w32).mono ?_
  rintro e w2 ⟨rfl, hb2⟩
  have h2 := (H1.out.below hP.out.x0 (below_alloc1 _ _)).below hP.out.x0 hb2
  have hf : farR ⟨15, a, b, c⟩ xs = -1 := by simp [farR]; exact HF.out
  rw [hf]
  have H2 := Lib.hid h2
  obtain ⟨⟨s0, s1, s2⟩, hcs, zp, zm, hne⟩ := h2
  have HB : Hid (But2 p m w w2) := Lib.hid (((But2.of_below Hb1.out).below (below_alloc1 _ _)).below hb2)
  have hk1 : m < w2.heap.size := cell_lt (hcs 0 _ (gx_at (k := 0) hP.out.x0))
  have k2 : ∀ j, w2.cell? ⟨w1.heap.size, j, none⟩ = #[Value.int .i64 15, .int .i64 a, .int .i64 b, .int .i64 c][j]? := keep hb2
  have pc0 : (pc : Int) ≤ 300 := by omega
  have Hcs := Lib.hid hcs
  have Hb2 := Lib.hid hb2
  clear hf hb2 hcs
  go_wp2
  refine bodyPost_ret (results_none rfl _ _ _) rfl ?_
  refine ⟨rfl, ?_, ?_⟩
  · exact H2.out.setHalt _
  · exact HB.out.setCell (by simp) _

set_option maxRecDepth 100000 in
set_option maxHeartbeats 4000000 in
theorem step_16 (p m k tb pc : Nat) (xs : List Int) (l : List Ins) (v : Value) (a b c : Int) (w : World) (h : Pre w p m k tb pc xs l v) (hi : nextP l pc xs.length = some ⟨16, a, b, c⟩) (f : Nat) (hff : farI ⟨16, a, b, c⟩ xs = f) (hfl : f < xs.length) :
    Calls Tryd.prog 32 #[.pointer (some ⟨p, 0, none⟩), v, .map (some tb)] w fun e w' => e = .returned (.tuple #[]) ∧ MSt w' p m k (pc + 1) (wx xs f (gx xs c)) 0 ∧ But2 p m w w' := by
  obtain ⟨hr, hpc⟩ := nextP_right hi
  simp only [Int.toNat_natCast] at hr hpc
  obtain ⟨ha0, ha1, hb0, hb1, hc0, hc1⟩ := right_www (by simp) hr
  obtain ⟨a, rfl⟩ := Int.eq_ofNat_of_zero_le ha0
  obtain ⟨b, rfl⟩ := Int.eq_ofNat_of_zero_le hb0
  obtain ⟨c, rfl⟩ := Int.eq_ofNat_of_zero_le hc0
  have HF := Lib.hid hff
  clear hff
  have hP := Lib.hid h
  have hl := h.ll
  have hx := h.lx
  go_enter Tryd.func32, Tryd.ntmps32
  go_wp2_with fail
  refine (next_yes p m k pc xs l v _ w h.st h.ops h.code h.ll hi).mono ?_
  rintro e w1 ⟨rfl, hb1⟩
  have h1 := h.st.below h.x0 hb1
  have H1 := Lib.hid h1
  have Hr := Lib.hid hr
  have Hb1 := Lib.hid hb1
  clear h hb1 h1 hi hr
  go_wp2_with fail
  refine (far_any p m k pc 0 xs ⟨16, a, b, c⟩ l.length _ (H1.out.below hP.out.x0 (below_alloc1 _ _)) hP.out.lk Hr.out hP.out.lx hP.out.w32).mono ?_
  rintro e w2 ⟨rfl, hb2⟩
  have h2 := (H1.out.below hP.out.x0 (below_alloc1 _ _)).below hP.out.x0 hb2
  have hf : farR ⟨16, a, b, c⟩ xs = (f : Int) := by simp [farR]; exact HF.out
  rw [hf]
  have H2 := Lib.hid h2
  obtain ⟨⟨s0, s1, s2⟩, hcs, zp, zm, hne⟩ := h2
  have HB : Hid (But2 p m w w2) := Lib.hid (((But2.of_below Hb1.out).below (below_alloc1 _ _)).below hb2)
  have hk1 : m < w2.heap.size := cell_lt (hcs 0 _ (gx_at (k := 0) hP.out.x0))
  have k2 : ∀ j, w2.cell? ⟨w1.heap.size, j, none⟩ = #[Value.int .i64 16, .int .i64 a, .int .i64 b, .int .i64 c][j]? := keep hb2
  have pc0 : (pc : Int) ≤ 300 := by omega
  have Hcs := Lib.hid hcs
  have Hb2 := Lib.hid hb2
  clear hf hb2 hcs
  have qc := Hcs.out c _ (gx_at (show c < xs.length by omega))
  have lc : (c : Int) < (xs.length : Int) := by omega
  obtain ⟨xf, qf⟩ : ∃ xf, w2.cell? ⟨m, f, none⟩ = some xf := ⟨_, Hcs.out f _ (gx_at (show f < xs.length by omega))⟩
  have lf : (f : Int) < (xs.length : Int) := by omega
  go_wp2
  go_end0
  refine ⟨rfl, ?_, ?_⟩
  · exact ((H2.out.setMem (by omega) _).setPc _)
  · exact ((HB.out.setCell (by simp) _).setCell (by simp) _)

set_option maxRecDepth 100000 in
set_option maxHeartbeats 4000000 in
theorem step_16n (p m k tb pc : Nat) (xs : List Int) (l : List Ins) (v : Value) (a b c : Int) (w : World) (h : Pre w p m k tb pc xs l v) (hi : nextP l pc xs.length = some ⟨16, a, b, c⟩) (hff : farI ⟨16, a, b, c⟩ xs = -1) :
    Calls Tryd.prog 32 #[.pointer (some ⟨p, 0, none⟩), v, .map (some tb)] w fun e w' => e = .returned (.tuple #[]) ∧ MSt w' p m k pc xs 2 ∧ But2 p m w w' := by
  obtain ⟨hr, hpc⟩ := nextP_right hi
  simp only [Int.toNat_natCast] at hr hpc
  obtain ⟨ha0, ha1, hb0, hb1, hc0, hc1⟩ := right_www (by simp) hr
  obtain ⟨a, rfl⟩ := Int.eq_ofNat_of_zero_le ha0
  obtain ⟨b, rfl⟩ := Int.eq_ofNat_of_zero_le hb0
  obtain ⟨c, rfl⟩ := Int.eq_ofNat_of_zero_le hc0
  have HF := Lib.hid hff
  clear hff
  have hP := Lib.hid h
  have hl := h.ll
  have hx := h.lx
  go_enter Tryd.func32, Tryd.ntmps32
  go_wp2_with fail
  refine (next_yes p m k pc xs l v _ w h.st h.ops h.code h.ll hi).mono ?_
  rintro e w1 ⟨rfl, hb1⟩
  have h1 := h.st.below h.x0 hb1
  have H1 := Lib.hid h1
  have Hr := Lib.hid hr
  have Hb1 := Lib.hid hb1
  clear h hb1 h1 hi hr
  go_wp2_with fail
  refine (far_any p m k pc 0 xs ⟨16, a, b, c⟩ l.length _ (H1.out.below hP.out.x0 (below_alloc1 _ _)) hP.out.lk Hr.out hP.out.lx hP.out.w32).mono ?_
  rintro e w2 ⟨rfl, hb2⟩
  have h2 := (H1.out.below hP.out.x0 (below_alloc1 _ _)).below hP.out.x0 hb2
  have hf : farR ⟨16, a, b, c⟩ xs = -1 := by simp [farR]; exact HF.out
  rw [hf]
  have H2 := Lib.hid h2
  obtain ⟨⟨s0, s1, s2⟩, hcs, zp, zm, hne⟩ := h2
  have HB : Hid (But2 p m w w2) := Lib.hid (((But2.of_below Hb1.out).below (below_alloc1 _ _)).below hb2)
  have hk1 : m < w2.heap.size := cell_lt (hcs 0 _ (gx_at (k := 0) hP.out.x0))
  have k2 : ∀ j, w2.cell? ⟨w1.heap.size, j, none⟩ = #[Value.int .i64 16, .int .i64 a, .int .i64 b, .int .i64 c][j]? := keep hb2
  have pc0 : (pc : Int) ≤ 300 := by omega
  have Hcs := Lib.hid hcs
  have Hb2 := Lib.hid hb2
  clear hf hb2 hcs
  go_wp2
  refine bodyPost_ret (results_none rfl _ _ _) rfl ?_
  refine ⟨rfl, ?_, ?_⟩
  · exact H2.out.setHalt _
  · exact HB.out.setCell (by simp) _

set_option maxRecDepth 100000 in
set_option maxHeartbeats 4000000 in
theorem step_17 (p m k tb pc : Nat) (xs : List Int) (l : List Ins) (v : Value) (a b c : Int) (w : World) (h : Pre w p m k tb pc xs l v) (hi : nextP l pc xs.length = some ⟨17, a, b, c⟩) :
    Calls Tryd.prog 32 #[.pointer (some ⟨p, 0, none⟩), v, .map (some tb)] w fun e w' => e = .returned (.tuple #[]) ∧ MSt w' p m k (pc + 1) (wx xs a (min (max (gx xs a) b) c)) 0 ∧ But2 p m w w' := by
  obtain ⟨hr, hpc⟩ := nextP_right hi
  simp only [Int.toNat_natCast] at hr hpc
  obtain ⟨ha0, ha1, hbn, hcn, hbc⟩ := right_17 hr
  obtain ⟨a, rfl⟩ := Int.eq_ofNat_of_zero_le ha0
  simp [numP] at hbn hcn
  obtain ⟨hb0, hb1⟩ := hbn
  obtain ⟨hc0, hc1⟩ := hcn
  have hP := Lib.hid h
  have hl := h.ll
  have hx := h.lx
  go_enter Tryd.func32, Tryd.ntmps32
  go_wp2_with fail
  refine (next_yes p m k pc xs l v _ w h.st h.ops h.code h.ll hi).mono ?_
  rintro e w1 ⟨rfl, hb1⟩
  have h1 := h.st.below h.x0 hb1
  have H1 := Lib.hid h1
  have Hr := Lib.hid hr
  have Hb1 := Lib.hid hb1
  clear h hb1 h1 hi hr
  go_wp2_with fail
  refine (far_any p m k pc 0 xs ⟨17, a, b, c⟩ l.length _ (H1.out.below hP.out.x0 (below_alloc1 _ _)) hP.out.lk Hr.out hP.out.lx hP.out.w32).mono ?_
  rintro e w2 ⟨rfl, hb2⟩
  have h2 := (H1.out.below hP.out.x0 (below_alloc1 _ _)).below hP.out.x0 hb2
  have hf : farR ⟨17, a, b, c⟩ xs = -1 := by simp [farR]
  rw [hf]
  have H2 := Lib.hid h2
  obtain ⟨⟨s0, s1, s2⟩, hcs, zp, zm, hne⟩ := h2
  have HB : Hid (But2 p m w w2) := Lib.hid (((But2.of_below Hb1.out).below (below_alloc1 _ _)).below hb2)
  have hk1 : m < w2.heap.size := cell_lt (hcs 0 _ (gx_at (k := 0) hP.out.x0))
  have k2 : ∀ j, w2.cell? ⟨w1.heap.size, j, none⟩ = #[Value.int .i64 17, .int .i64 a, .int .i64 b, .int .i64 c][j]? := keep hb2
  have pc0 : (pc : Int) ≤ 300 := by omega
  have Hcs := Lib.hid hcs
  have Hb2 := Lib.hid hb2
  clear hf hb2 hcs
  have qa := Hcs.out a _ (gx_at (show a < xs.length by omega))
  have la : (a : Int) < (xs.length : Int) := by omega
  go_wp2_with fail
  go_still_tail 16, (by kernel_rfl)
  have key : Hid (∀ v', v' = min (max (gx xs a) b) c → MSt (((w2.setCell ⟨m, a, none⟩ (.int .i32 v')).setCell ⟨p, 0, none⟩ (.int .i64 (pc + 1))).drew) p m k (pc + 1) (wx xs a (min (max (gx xs a) b) c)) 0) := Lib.hid (by rintro _ rfl; exact ((H2.out.setMem (by omega) _).setPc _).drew)
  go_wp2
  all_goals
    go_end0
    refine ⟨rfl, key.out _ (by omega), ((HB.out.setCell (by simp) _).setCell (by simp) _).drew⟩
end Go.Proofs.YteecpkkgjioplaaDoor

/- step: step_19, step_20z, step_20n, step_21z, step_21n. -/
namespace Go.Proofs.YteecpkkgjioplaaDoor
open Go.RowKit Go

set_option maxRecDepth 100000 in
set_option maxHeartbeats 4000000 in
theorem step_19 (p m k tb pc : Nat) (xs : List Int) (l : List Ins) (v : Value) (a b c : Int) (w : World) (h : Pre w p m k tb pc xs l v) (hi : nextP l pc xs.length = some ⟨19, a, b, c⟩) :
    Calls Tryd.prog 32 #[.pointer (some ⟨p, 0, none⟩), v, .map (some tb)] w fun e w' => e = .returned (.tuple #[]) ∧ MSt w' p m k a xs 0 ∧ But2 p m w w' := by
  obtain ⟨hr, hpc⟩ := nextP_right hi
  simp only [Int.toNat_natCast] at hr hpc
  have ha := right_19 hr
  clear ha
  have hP := Lib.hid h
  have hl := h.ll
  have hx := h.lx
  go_enter Tryd.func32, Tryd.ntmps32
  go_wp2_with fail
  refine (next_yes p m k pc xs l v _ w h.st h.ops h.code h.ll hi).mono ?_
  rintro e w1 ⟨rfl, hb1⟩
  have h1 := h.st.below h.x0 hb1
  have H1 := Lib.hid h1
  have Hr := Lib.hid hr
  have Hb1 := Lib.hid hb1
  clear h hb1 h1 hi hr
  go_wp2_with fail
  refine (far_any p m k pc 0 xs ⟨19, a, b, c⟩ l.length _ (H1.out.below hP.out.x0 (below_alloc1 _ _)) hP.out.lk Hr.out hP.out.lx hP.out.w32).mono ?_
  rintro e w2 ⟨rfl, hb2⟩
  have h2 := (H1.out.below hP.out.x0 (below_alloc1 _ _)).below hP.out.x0 hb2
  have hf : farR ⟨19, a, b, c⟩ xs = -1 := by simp [farR]
  rw [hf]
  have H2 := Lib.hid h2
  obtain ⟨⟨s0, s1, s2⟩, hcs, zp, zm, hne⟩ := h2
  have HB : Hid (But2 p m w w2) := Lib.hid (((But2.of_below Hb1.out).below (below_alloc1 _ _)).below hb2)
  have hk1 : m < w2.heap.size := cell_lt (hcs 0 _ (gx_at (k := 0) hP.out.x0))
  have k2 : ∀ j, w2.cell? ⟨w1.heap.size, j, none⟩ = #[Value.int .i64 19, .int .i64 a, .int .i64 b, .int .i64 c][j]? := keep hb2
  have pc0 : (pc : Int) ≤ 300 := by omega
  have Hcs := Lib.hid hcs
  have Hb2 := Lib.hid hb2
  clear hf hb2 hcs
  go_wp2
  go_end0
  refine ⟨rfl, ?_, ?_⟩
  · exact (H2.out.setPc _)
  · exact (HB.out.setCell (by simp) _)

set_option maxRecDepth 100000 in
set_option maxHeartbeats 4000000 in
theorem step_20z (p m k tb pc : Nat) (xs : List Int) (l : List Ins) (v : Value) (a b c : Int) (w : World) (h : Pre w p m k tb pc xs l v) (hi : nextP l pc xs.length = some ⟨20, a, b, c⟩) (hz0 : gx xs b = 0) :
    Calls Tryd.prog 32 #[.pointer (some ⟨p, 0, none⟩), v, .map (some tb)] w fun e w' => e = .returned (.tuple #[]) ∧ MSt w' p m k (a) xs 0 ∧ But2 p m w w' := by
  obtain ⟨hr, hpc⟩ := nextP_right hi
  simp only [Int.toNat_natCast] at hr hpc
  obtain ⟨ha0, ha1, hb0, hb1⟩ := right_j (by simp) hr
  obtain ⟨b, rfl⟩ := Int.eq_ofNat_of_zero_le hb0
  have hz : (gx xs b == 0) = true := by simp [hz0]
  clear hz0
  have hP := Lib.hid h
  have hl := h.ll
  have hx := h.lx
  go_enter Tryd.func32, Tryd.ntmps32
  go_wp2_with fail
  refine (next_yes p m k pc xs l v _ w h.st h.ops h.code h.ll hi).mono ?_
  rintro e w1 ⟨rfl, hb1⟩
  have h1 := h.st.below h.x0 hb1
  have H1 := Lib.hid h1
  have Hr := Lib.hid hr
  have Hb1 := Lib.hid hb1
  clear h hb1 h1 hi hr
  go_wp2_with fail
  refine (far_any p m k pc 0 xs ⟨20, a, b, c⟩ l.length _ (H1.out.below hP.out.x0 (below_alloc1 _ _)) hP.out.lk Hr.out hP.out.lx hP.out.w32).mono ?_
  rintro e w2 ⟨rfl, hb2⟩
  have h2 := (H1.out.below hP.out.x0 (below_alloc1 _ _)).below hP.out.x0 hb2
  have hf : farR ⟨20, a, b, c⟩ xs = -1 := by simp [farR]
  rw [hf]
  have H2 := Lib.hid h2
  obtain ⟨⟨s0, s1, s2⟩, hcs, zp, zm, hne⟩ := h2
  have HB : Hid (But2 p m w w2) := Lib.hid (((But2.of_below Hb1.out).below (below_alloc1 _ _)).below hb2)
  have hk1 : m < w2.heap.size := cell_lt (hcs 0 _ (gx_at (k := 0) hP.out.x0))
  have k2 : ∀ j, w2.cell? ⟨w1.heap.size, j, none⟩ = #[Value.int .i64 20, .int .i64 a, .int .i64 b, .int .i64 c][j]? := keep hb2
  have pc0 : (pc : Int) ≤ 300 := by omega
  have Hcs := Lib.hid hcs
  have Hb2 := Lib.hid hb2
  clear hf hb2 hcs
  have qb := Hcs.out b _ (gx_at (show b < xs.length by omega))
  have lb : (b : Int) < (xs.length : Int) := by omega
  go_wp2_with fail
  go_quiet (fail)
  go_wp2
  go_end0
  refine ⟨rfl, ?_, ?_⟩
  · exact ((H2.out.drewN _).setPc _)
  · exact ((HB.out.drewN _).setCell (by simp) _)

set_option maxRecDepth 100000 in
set_option maxHeartbeats 4000000 in
theorem step_20n (p m k tb pc : Nat) (xs : List Int) (l : List Ins) (v : Value) (a b c : Int) (w : World) (h : Pre w p m k tb pc xs l v) (hi : nextP l pc xs.length = some ⟨20, a, b, c⟩) (hz0 : ¬ gx xs b = 0) :
    Calls Tryd.prog 32 #[.pointer (some ⟨p, 0, none⟩), v, .map (some tb)] w fun e w' => e = .returned (.tuple #[]) ∧ MSt w' p m k (pc + 1) xs 0 ∧ But2 p m w w' := by
  obtain ⟨hr, hpc⟩ := nextP_right hi
  simp only [Int.toNat_natCast] at hr hpc
  obtain ⟨ha0, ha1, hb0, hb1⟩ := right_j (by simp) hr
  obtain ⟨b, rfl⟩ := Int.eq_ofNat_of_zero_le hb0
  have hz : (gx xs b == 0) = false := by simp [hz0]
  clear hz0
  have hP := Lib.hid h
  have hl := h.ll
  have hx := h.lx
  go_enter Tryd.func32, Tryd.ntmps32
  go_wp2_with fail
  refine (next_yes p m k pc xs l v _ w h.st h.ops h.code h.ll hi).mono ?_
  rintro e w1 ⟨rfl, hb1⟩
  have h1 := h.st.below h.x0 hb1
  have H1 := Lib.hid h1
  have Hr := Lib.hid hr
  have Hb1 := Lib.hid hb1
  clear h hb1 h1 hi hr
  go_wp2_with fail
  refine (far_any p m k pc 0 xs ⟨20, a, b, c⟩ l.length _ (H1.out.below hP.out.x0 (below_alloc1 _ _)) hP.out.lk Hr.out hP.out.lx hP.out.w32).mono ?_
  rintro e w2 ⟨rfl, hb2⟩
  have h2 := (H1.out.below hP.out.x0 (below_alloc1 _ _)).below hP.out.x0 hb2
  have hf : farR ⟨20, a, b, c⟩ xs = -1 := by simp [farR]
  rw [hf]
  have H2 := Lib.hid h2
  obtain ⟨⟨s0, s1, s2⟩, hcs, zp, zm, hne⟩ := h2
  have HB : Hid (But2 p m w w2) := Lib.hid (((But2.of_below Hb1.out).below (below_alloc1 _ _)).below hb2)
  have hk1 : m < w2.heap.size := cell_lt (hcs 0 _ (gx_at (k := 0) hP.out.x0))
  have k2 : ∀ j, w2.cell? ⟨w1.heap.size, j, none⟩ = #[Value.int .i64 20, .int .i64 a, .int .i64 b, .int .i64 c][j]? := keep hb2
  have pc0 : (pc : Int) ≤ 300 := by omega
  have Hcs := Lib.hid hcs
  have Hb2 := Lib.hid hb2
  clear hf hb2 hcs
  have qb := Hcs.out b _ (gx_at (show b < xs.length by omega))
  have lb : (b : Int) < (xs.length : Int) := by omega
  go_wp2_with fail
  go_quiet (fail)
  go_wp2
  go_end0
  refine ⟨rfl, ?_, ?_⟩
  · exact ((H2.out.drewN _).setPc _)
  · exact ((HB.out.drewN _).setCell (by simp) _)

set_option maxRecDepth 100000 in
set_option maxHeartbeats 4000000 in
theorem step_21z (p m k tb pc : Nat) (xs : List Int) (l : List Ins) (v : Value) (a b c : Int) (w : World) (h : Pre w p m k tb pc xs l v) (hi : nextP l pc xs.length = some ⟨21, a, b, c⟩) (hz0 : gx xs b = 0) :
    Calls Tryd.prog 32 #[.pointer (some ⟨p, 0, none⟩), v, .map (some tb)] w fun e w' => e = .returned (.tuple #[]) ∧ MSt w' p m k (pc + 1) xs 0 ∧ But2 p m w w' := by
  obtain ⟨hr, hpc⟩ := nextP_right hi
  simp only [Int.toNat_natCast] at hr hpc
  obtain ⟨ha0, ha1, hb0, hb1⟩ := right_j (by simp) hr
  obtain ⟨b, rfl⟩ := Int.eq_ofNat_of_zero_le hb0
  have hz : (gx xs b == 0) = true := by simp [hz0]
  clear hz0
  have hP := Lib.hid h
  have hl := h.ll
  have hx := h.lx
  go_enter Tryd.func32, Tryd.ntmps32
  go_wp2_with fail
  refine (next_yes p m k pc xs l v _ w h.st h.ops h.code h.ll hi).mono ?_
  rintro e w1 ⟨rfl, hb1⟩
  have h1 := h.st.below h.x0 hb1
  have H1 := Lib.hid h1
  have Hr := Lib.hid hr
  have Hb1 := Lib.hid hb1
  clear h hb1 h1 hi hr
  go_wp2_with fail
  refine (far_any p m k pc 0 xs ⟨21, a, b, c⟩ l.length _ (H1.out.below hP.out.x0 (below_alloc1 _ _)) hP.out.lk Hr.out hP.out.lx hP.out.w32).mono ?_
  rintro e w2 ⟨rfl, hb2⟩
  have h2 := (H1.out.below hP.out.x0 (below_alloc1 _ _)).below hP.out.x0 hb2
  have hf : farR ⟨21, a, b, c⟩ xs = -1 := by simp [farR]
  rw [hf]
  have H2 := Lib.hid h2
  obtain ⟨⟨s0, s1, s2⟩, hcs, zp, zm, hne⟩ := h2
  have HB : Hid (But2 p m w w2) := Lib.hid (((But2.of_below Hb1.out).below (below_alloc1 _ _)).below hb2)
  have hk1 : m < w2.heap.size := cell_lt (hcs 0 _ (gx_at (k := 0) hP.out.x0))
  have k2 : ∀ j, w2.cell? ⟨w1.heap.size, j, none⟩ = #[Value.int .i64 21, .int .i64 a, .int .i64 b, .int .i64 c][j]? := keep hb2
  have pc0 : (pc : Int) ≤ 300 := by omega
  have Hcs := Lib.hid hcs
  have Hb2 := Lib.hid hb2
  clear hf hb2 hcs
  have qb := Hcs.out b _ (gx_at (show b < xs.length by omega))
  have lb : (b : Int) < (xs.length : Int) := by omega
  go_wp2_with fail
  go_quiet (fail)
  go_wp2
  go_end0
  refine ⟨rfl, ?_, ?_⟩
  · exact ((H2.out.drewN _).setPc _)
  · exact ((HB.out.drewN _).setCell (by simp) _)

set_option maxRecDepth 100000 in
set_option maxHeartbeats 4000000 in
theorem step_21n (p m k tb pc : Nat) (xs : List Int) (l : List Ins) (v : Value) (a b c : Int) (w : World) (h : Pre w p m k tb pc xs l v) (hi : nextP l pc xs.length = some ⟨21, a, b, c⟩) (hz0 : ¬ gx xs b = 0) :
    Calls Tryd.prog 32 #[.pointer (some ⟨p, 0, none⟩), v, .map (some tb)] w fun e w' => e = .returned (.tuple #[]) ∧ MSt w' p m k (a) xs 0 ∧ But2 p m w w' := by
  obtain ⟨hr, hpc⟩ := nextP_right hi
  simp only [Int.toNat_natCast] at hr hpc
  obtain ⟨ha0, ha1, hb0, hb1⟩ := right_j (by simp) hr
  obtain ⟨b, rfl⟩ := Int.eq_ofNat_of_zero_le hb0
  have hz : (gx xs b == 0) = false := by simp [hz0]
  clear hz0
  have hP := Lib.hid h
  have hl := h.ll
  have hx := h.lx
  go_enter Tryd.func32, Tryd.ntmps32
  go_wp2_with fail
  refine (next_yes p m k pc xs l v _ w h.st h.ops h.code h.ll hi).mono ?_
  rintro e w1 ⟨rfl, hb1⟩
  have h1 := h.st.below h.x0 hb1
  have H1 := Lib.hid h1
  have Hr := Lib.hid hr
  have Hb1 := Lib.hid hb1
  clear h hb1 h1 hi hr
  go_wp2_with fail
  refine (far_any p m k pc 0 xs ⟨21, a, b, c⟩ l.length _ (H1.out.below hP.out.x0 (below_alloc1 _ _)) hP.out.lk Hr.out hP.out.lx hP.out.w32).mono ?_
  rintro e w2 ⟨rfl, hb2⟩
  have h2 := (H1.out.below hP.out.x0 (below_alloc1 _ _)).below hP.out.x0 hb2
  have hf : farR ⟨21, a, b, c⟩ xs = -1 := by simp [farR]
  rw [hf]
  have H2 := Lib.hid h2
  obtain ⟨⟨s0, s1, s2⟩, hcs, zp, zm, hne⟩ := h2
  have HB : Hid (But2 p m w w2) := Lib.hid (((But2.of_below Hb1.out).below (below_alloc1 _ _)).below hb2)
  have hk1 : m < w2.heap.size := cell_lt (hcs 0 _ (gx_at (k := 0) hP.out.x0))
  have k2 : ∀ j, w2.cell? ⟨w1.heap.size, j, none⟩ = #[Value.int .i64 21, .int .i64 a, .int .i64 b, .int .i64 c][j]? := keep hb2
  have pc0 : (pc : Int) ≤ 300 := by omega
  have Hcs := Lib.hid hcs
  have Hb2 := Lib.hid hb2
  clear hf hb2 hcs
  have qb := Hcs.out b _ (gx_at (show b < xs.length by omega))
  have lb : (b : Int) < (xs.length : Int) := by omega
  go_wp2_with fail
  go_quiet (fail)
  go_wp2
  go_end0
  refine ⟨rfl, ?_, ?_⟩
  · exact ((H2.out.drewN _).setPc _)
  · exact ((HB.out.drewN _).setCell (by simp) _)
end Go.Proofs.YteecpkkgjioplaaDoor

/- step: step_3, step_4, step_5, step_6, step_7. -/
namespace Go.Proofs.YteecpkkgjioplaaDoor
open Go.RowKit Go

set_option maxRecDepth 100000 in
set_option maxHeartbeats 4000000 in
theorem step_3 (p m k tb pc : Nat) (xs : List Int) (l : List Ins) (v : Value) (a b c : Int) (w : World) (h : Pre w p m k tb pc xs l v) (hi : nextP l pc xs.length = some ⟨3, a, b, c⟩) :
    Calls Tryd.prog 32 #[.pointer (some ⟨p, 0, none⟩), v, .map (some tb)] w fun e w' => e = .returned (.tuple #[]) ∧ MSt w' p m k (pc + 1) (wx xs a (twoP 3 (gx xs b) (gx xs c))) 0 ∧ But2 p m w w' := by
  obtain ⟨hr, hpc⟩ := nextP_right hi
  simp only [Int.toNat_natCast] at hr hpc
  obtain ⟨ha0, ha1, hb0, hb1, hc0, hc1⟩ := right_www (by simp) hr
  obtain ⟨a, rfl⟩ := Int.eq_ofNat_of_zero_le ha0
  obtain ⟨b, rfl⟩ := Int.eq_ofNat_of_zero_le hb0
  obtain ⟨c, rfl⟩ := Int.eq_ofNat_of_zero_le hc0
  have hP := Lib.hid h
  have hl := h.ll
  have hx := h.lx
  go_enter Tryd.func32, Tryd.ntmps32
  go_wp2_with fail
  refine (next_yes p m k pc xs l v _ w h.st h.ops h.code h.ll hi).mono ?_
  rintro e w1 ⟨rfl, hb1⟩
  have h1 := h.st.below h.x0 hb1
  have H1 := Lib.hid h1
  have Hr := Lib.hid hr
  have Hb1 := Lib.hid hb1
  clear h hb1 h1 hi hr
  go_wp2_with fail
  refine (far_any p m k pc 0 xs ⟨3, a, b, c⟩ l.length _ (H1.out.below hP.out.x0 (below_alloc1 _ _)) hP.out.lk Hr.out hP.out.lx hP.out.w32).mono ?_
  rintro e w2 ⟨rfl, hb2⟩
  have h2 := (H1.out.below hP.out.x0 (below_alloc1 _ _)).below hP.out.x0 hb2
  have hf : farR ⟨3, a, b, c⟩ xs = -1 := by simp [farR]
  rw [hf]
  have H2 := Lib.hid h2
  obtain ⟨⟨s0, s1, s2⟩, hcs, zp, zm, hne⟩ := h2
  have HB : Hid (But2 p m w w2) := Lib.hid (((But2.of_below Hb1.out).below (below_alloc1 _ _)).below hb2)
  have hk1 : m < w2.heap.size := cell_lt (hcs 0 _ (gx_at (k := 0) hP.out.x0))
  have k2 : ∀ j, w2.cell? ⟨w1.heap.size, j, none⟩ = #[Value.int .i64 3, .int .i64 a, .int .i64 b, .int .i64 c][j]? := keep hb2
  have pc0 : (pc : Int) ≤ 300 := by omega
  have Hcs := Lib.hid hcs
  have Hb2 := Lib.hid hb2
  clear hf hb2 hcs
  have qb := Hcs.out b _ (gx_at (show b < xs.length by omega))
  have lb : (b : Int) < (xs.length : Int) := by omega
  have qc := Hcs.out c _ (gx_at (show c < xs.length by omega))
  have lc : (c : Int) < (xs.length : Int) := by omega
  obtain ⟨xa, qa⟩ : ∃ xa, w2.cell? ⟨m, a, none⟩ = some xa := ⟨_, Hcs.out a _ (gx_at (show a < xs.length by omega))⟩
  have la : (a : Int) < (xs.length : Int) := by omega
  have hT : w2.heap[tb]? = some (.map twosE 11) := (heap_two Hb1.out Hb2.out hP.out.two)
  have hlook := look_run w2 tb twosE 11 hT 3 _ _ rfl
  have hlook' : ∀ n, (Instr.lookup 64 (.map (some tb)) (.int .i64 3) false).run Tryd.prog (w2.drewN n) = .ok (.func (.func 42) #[] #[]) (w2.drewN n) := fun n => look_run (w2.drewN n) tb twosE 11 hT 3 _ _ rfl
  have hlook1 : (Instr.lookup 64 (.map (some tb)) (.int .i64 3) false).run Tryd.prog w2.drew = .ok (.func (.func 42) #[] #[]) w2.drew := look_run w2.drew tb twosE 11 hT 3 _ _ rfl
  clear hlook hlook' hT
  go_wp2_with fail
  go_still_tail 18, (by kernel_rfl)
  still_call ((two3 _ _ _).mono (by rintro e w' ⟨rfl, rfl⟩; exact ⟨rfl, rfl⟩))
  repeat still_step
  try refine wpStill_nil ?_
  go_wp2
  go_end0
  refine ⟨rfl, ?_, ?_⟩
  · exact ((H2.out.setMem (by omega) _).setPc _).drew
  · exact ((HB.out.setCell (by simp) _).setCell (by simp) _).drew

set_option maxRecDepth 100000 in
set_option maxHeartbeats 4000000 in
theorem step_4 (p m k tb pc : Nat) (xs : List Int) (l : List Ins) (v : Value) (a b c : Int) (w : World) (h : Pre w p m k tb pc xs l v) (hi : nextP l pc xs.length = some ⟨4, a, b, c⟩) :
    Calls Tryd.prog 32 #[.pointer (some ⟨p, 0, none⟩), v, .map (some tb)] w fun e w' => e = .returned (.tuple #[]) ∧ MSt w' p m k (pc + 1) (wx xs a (twoP 4 (gx xs b) (gx xs c))) 0 ∧ But2 p m w w' := by
  obtain ⟨hr, hpc⟩ := nextP_right hi
  simp only [Int.toNat_natCast] at hr hpc
  obtain ⟨ha0, ha1, hb0, hb1, hc0, hc1⟩ := right_www (by simp) hr
  obtain ⟨a, rfl⟩ := Int.eq_ofNat_of_zero_le ha0
  obtain ⟨b, rfl⟩ := Int.eq_ofNat_of_zero_le hb0
  obtain ⟨c, rfl⟩ := Int.eq_ofNat_of_zero_le hc0
  have hP := Lib.hid h
  have hl := h.ll
  have hx := h.lx
  go_enter Tryd.func32, Tryd.ntmps32
  go_wp2_with fail
  refine (next_yes p m k pc xs l v _ w h.st h.ops h.code h.ll hi).mono ?_
  rintro e w1 ⟨rfl, hb1⟩
  have h1 := h.st.below h.x0 hb1
  have H1 := Lib.hid h1
  have Hr := Lib.hid hr
  have Hb1 := Lib.hid hb1
  clear h hb1 h1 hi hr
  go_wp2_with fail
  refine (far_any p m k pc 0 xs ⟨4, a, b, c⟩ l.length _ (H1.out.below hP.out.x0 (below_alloc1 _ _)) hP.out.lk Hr.out hP.out.lx hP.out.w32).mono ?_
  rintro e w2 ⟨rfl, hb2⟩
  have h2 := (H1.out.below hP.out.x0 (below_alloc1 _ _)).below hP.out.x0 hb2
  have hf : farR ⟨4, a, b, c⟩ xs = -1 := by simp [farR]
  rw [hf]
  have H2 := Lib.hid h2
  obtain ⟨⟨s0, s1, s2⟩, hcs, zp, zm, hne⟩ := h2
  have HB : Hid (But2 p m w w2) := Lib.hid (((But2.of_below Hb1.out).below (below_alloc1 _ _)).below hb2)
  have hk1 : m < w2.heap.size := cell_lt (hcs 0 _ (gx_at (k := 0) hP.out.x0))
  have k2 : ∀ j, w2.cell? ⟨w1.heap.size, j, none⟩ = #[Value.int .i64 4, .int .i64 a, .int .i64 b, .int .i64 c][j]? := keep hb2
  have pc0 : (pc : Int) ≤ 300 := by omega
  have Hcs := Lib.hid hcs
  have Hb2 := Lib.hid hb2
  clear hf hb2 hcs
  have qb := Hcs.out b _ (gx_at (show b < xs.length by omega))
  have lb : (b : Int) < (xs.length : Int) := by omega
  have qc := Hcs.out c _ (gx_at (show c < xs.length by omega))
  have lc : (c : Int) < (xs.length : Int) := by omega
  obtain ⟨xa, qa⟩ : ∃ xa, w2.cell? ⟨m, a, none⟩ = some xa := ⟨_, Hcs.out a _ (gx_at (show a < xs.length by omega))⟩
  have la : (a : Int) < (xs.length : Int) := by omega
  have hT : w2.heap[tb]? = some (.map twosE 11) := (heap_two Hb1.out Hb2.out hP.out.two)
  have hlook := look_run w2 tb twosE 11 hT 4 _ _ rfl
  have hlook' : ∀ n, (Instr.lookup 64 (.map (some tb)) (.int .i64 4) false).run Tryd.prog (w2.drewN n) = .ok (.func (.func 43) #[] #[]) (w2.drewN n) := fun n => look_run (w2.drewN n) tb twosE 11 hT 4 _ _ rfl
  have hlook1 : (Instr.lookup 64 (.map (some tb)) (.int .i64 4) false).run Tryd.prog w2.drew = .ok (.func (.func 43) #[] #[]) w2.drew := look_run w2.drew tb twosE 11 hT 4 _ _ rfl
  clear hlook hlook' hT
  go_wp2_with fail
  go_still_tail 18, (by kernel_rfl)
  still_call ((two4 _ _ _).mono (by rintro e w' ⟨rfl, rfl⟩; exact ⟨rfl, rfl⟩))
  repeat still_step
  try refine wpStill_nil ?_
  go_wp2
  go_end0
  refine ⟨rfl, ?_, ?_⟩
  · exact ((H2.out.setMem (by omega) _).setPc _).drew
  · exact ((HB.out.setCell (by simp) _).setCell (by simp) _).drew

set_option maxRecDepth 100000 in
set_option maxHeartbeats 4000000 in
theorem step_5 (p m k tb pc : Nat) (xs : List Int) (l : List Ins) (v : Value) (a b c : Int) (w : World) (h : Pre w p m k tb pc xs l v) (hi : nextP l pc xs.length = some ⟨5, a, b, c⟩) :
    Calls Tryd.prog 32 #[.pointer (some ⟨p, 0, none⟩), v, .map (some tb)] w fun e w' => e = .returned (.tuple #[]) ∧ MSt w' p m k (pc + 1) (wx xs a (twoP 5 (gx xs b) (gx xs c))) 0 ∧ But2 p m w w' := by
  obtain ⟨hr, hpc⟩ := nextP_right hi
  simp only [Int.toNat_natCast] at hr hpc
  obtain ⟨ha0, ha1, hb0, hb1, hc0, hc1⟩ := right_www (by simp) hr
  obtain ⟨a, rfl⟩ := Int.eq_ofNat_of_zero_le ha0
  obtain ⟨b, rfl⟩ := Int.eq_ofNat_of_zero_le hb0
  obtain ⟨c, rfl⟩ := Int.eq_ofNat_of_zero_le hc0
  have hP := Lib.hid h
  have hl := h.ll
  have hx := h.lx
  go_enter Tryd.func32, Tryd.ntmps32
  go_wp2_with fail
  refine (next_yes p m k pc xs l v _ w h.st h.ops h.code h.ll hi).mono ?_
  rintro e w1 ⟨rfl, hb1⟩
  have h1 := h.st.below h.x0 hb1
  have H1 := Lib.hid h1
  have Hr := Lib.hid hr
  have Hb1 := Lib.hid hb1
  clear h hb1 h1 hi hr
  go_wp2_with fail
  refine (far_any p m k pc 0 xs ⟨5, a, b, c⟩ l.length _ (H1.out.below hP.out.x0 (below_alloc1 _ _)) hP.out.lk Hr.out hP.out.lx hP.out.w32).mono ?_
  rintro e w2 ⟨rfl, hb2⟩
  have h2 := (H1.out.below hP.out.x0 (below_alloc1 _ _)).below hP.out.x0 hb2
  have hf : farR ⟨5, a, b, c⟩ xs = -1 := by simp [farR]
  rw [hf]
  have H2 := Lib.hid h2
  obtain ⟨⟨s0, s1, s2⟩, hcs, zp, zm, hne⟩ := h2
  have HB : Hid (But2 p m w w2) := Lib.hid (((But2.of_below Hb1.out).below (below_alloc1 _ _)).below hb2)
  have hk1 : m < w2.heap.size := cell_lt (hcs 0 _ (gx_at (k := 0) hP.out.x0))
  have k2 : ∀ j, w2.cell? ⟨w1.heap.size, j, none⟩ = #[Value.int .i64 5, .int .i64 a, .int .i64 b, .int .i64 c][j]? := keep hb2
  have pc0 : (pc : Int) ≤ 300 := by omega
  have Hcs := Lib.hid hcs
  have Hb2 := Lib.hid hb2
  clear hf hb2 hcs
  have qb := Hcs.out b _ (gx_at (show b < xs.length by omega))
  have lb : (b : Int) < (xs.length : Int) := by omega
  have qc := Hcs.out c _ (gx_at (show c < xs.length by omega))
  have lc : (c : Int) < (xs.length : Int) := by omega
  obtain ⟨xa, qa⟩ : ∃ xa, w2.cell? ⟨m, a, none⟩ = some xa := ⟨_, Hcs.out a _ (gx_at (show a < xs.length by omega))⟩
  have la : (a : Int) < (xs.length : Int) := by omega
  have hT : w2.heap[tb]? = some (.map twosE 11) := (heap_two Hb1.out Hb2.out hP.out.two)
  have hlook := look_run w2 tb twosE 11 hT 5 _ _ rfl
  have hlook' : ∀ n, (Instr.lookup 64 (.map (some tb)) (.int .i64 5) false).run Tryd.prog (w2.drewN n) = .ok (.func (.func 44) #[] #[]) (w2.drewN n) := fun n => look_run (w2.drewN n) tb twosE 11 hT 5 _ _ rfl
  have hlook1 : (Instr.lookup 64 (.map (some tb)) (.int .i64 5) false).run Tryd.prog w2.drew = .ok (.func (.func 44) #[] #[]) w2.drew := look_run w2.drew tb twosE 11 hT 5 _ _ rfl
  clear hlook hlook' hT
  go_wp2_with fail
  go_still_tail 18, (by kernel_rfl)
  still_call ((two5 _ _ _).mono (by rintro e w' ⟨rfl, rfl⟩; exact ⟨rfl, rfl⟩))
  repeat still_step
  try refine wpStill_nil ?_
  go_wp2
  go_end0
  refine ⟨rfl, ?_, ?_⟩
  · exact ((H2.out.setMem (by omega) _).setPc _).drew
  · exact ((HB.out.setCell (by simp) _).setCell (by simp) _).drew

set_option maxRecDepth 100000 in
set_option maxHeartbeats 4000000 in
theorem step_6 (p m k tb pc : Nat) (xs : List Int) (l : List Ins) (v : Value) (a b c : Int) (w : World) (h : Pre w p m k tb pc xs l v) (hi : nextP l pc xs.length = some ⟨6, a, b, c⟩) :
    Calls Tryd.prog 32 #[.pointer (some ⟨p, 0, none⟩), v, .map (some tb)] w fun e w' => e = .returned (.tuple #[]) ∧ MSt w' p m k (pc + 1) (wx xs a (twoP 6 (gx xs b) (gx xs c))) 0 ∧ But2 p m w w' := by
  obtain ⟨hr, hpc⟩ := nextP_right hi
  simp only [Int.toNat_natCast] at hr hpc
  obtain ⟨ha0, ha1, hb0, hb1, hc0, hc1⟩ := right_www (by simp) hr
  obtain ⟨a, rfl⟩ := Int.eq_ofNat_of_zero_le ha0
  obtain ⟨b, rfl⟩ := Int.eq_ofNat_of_zero_le hb0
  obtain ⟨c, rfl⟩ := Int.eq_ofNat_of_zero_le hc0
  have hP := Lib.hid h
  have hl := h.ll
  have hx := h.lx
  go_enter Tryd.func32, Tryd.ntmps32
  go_wp2_with fail
  refine (next_yes p m k pc xs l v _ w h.st h.ops h.code h.ll hi).mono ?_
  rintro e w1 ⟨rfl, hb1⟩
  have h1 := h.st.below h.x0 hb1
  have H1 := Lib.hid h1
  have Hr := Lib.hid hr
  have Hb1 := Lib.hid hb1
  clear h hb1 h1 hi hr
  go_wp2_with fail
  refine (far_any p m k pc 0 xs ⟨6, a, b, c⟩ l.length _ (H1.out.below hP.out.x0 (below_alloc1 _ _)) hP.out.lk Hr.out hP.out.lx hP.out.w32).mono ?_
  rintro e w2 ⟨rfl, hb2⟩
  have h2 := (H1.out.below hP.out.x0 (below_alloc1 _ _)).below hP.out.x0 hb2
  have hf : farR ⟨6, a, b, c⟩ xs = -1 := by simp [farR]
  rw [hf]
  have H2 := Lib.hid h2
  obtain ⟨⟨s0, s1, s2⟩, hcs, zp, zm, hne⟩ := h2
  have HB : Hid (But2 p m w w2) := Lib.hid (((But2.of_below Hb1.out).below (below_alloc1 _ _)).below hb2)
  have hk1 : m < w2.heap.size := cell_lt (hcs 0 _ (gx_at (k := 0) hP.out.x0))
  have k2 : ∀ j, w2.cell? ⟨w1.heap.size, j, none⟩ = #[Value.int .i64 6, .int .i64 a, .int .i64 b, .int .i64 c][j]? := keep hb2
  have pc0 : (pc : Int) ≤ 300 := by omega
  have Hcs := Lib.hid hcs
  have Hb2 := Lib.hid hb2
  clear hf hb2 hcs
  have qb := Hcs.out b _ (gx_at (show b < xs.length by omega))
  have lb : (b : Int) < (xs.length : Int) := by omega
  have qc := Hcs.out c _ (gx_at (show c < xs.length by omega))
  have lc : (c : Int) < (xs.length : Int) := by omega
  obtain ⟨xa, qa⟩ : ∃ xa, w2.cell? ⟨m, a, none⟩ = some xa := ⟨_, Hcs.out a _ (gx_at (show a < xs.length by omega))⟩
  have la : (a : Int) < (xs.length : Int) := by omega
  have hT : w2.heap[tb]? = some (.map twosE 11) := (heap_two Hb1.out Hb2.out hP.out.two)
  have hlook := look_run w2 tb twosE 11 hT 6 _ _ rfl
  have hlook' : ∀ n, (Instr.lookup 64 (.map (some tb)) (.int .i64 6) false).run Tryd.prog (w2.drewN n) = .ok (.func (.func 45) #[] #[]) (w2.drewN n) := fun n => look_run (w2.drewN n) tb twosE 11 hT 6 _ _ rfl
  have hlook1 : (Instr.lookup 64 (.map (some tb)) (.int .i64 6) false).run Tryd.prog w2.drew = .ok (.func (.func 45) #[] #[]) w2.drew := look_run w2.drew tb twosE 11 hT 6 _ _ rfl
  clear hlook hlook' hT
  go_wp2_with fail
  go_still_tail 18, (by kernel_rfl)
  still_call ((two6 _ _ _).mono (by rintro e w' ⟨rfl, rfl⟩; exact ⟨rfl, rfl⟩))
  repeat still_step
  try refine wpStill_nil ?_
  go_wp2
  go_end0
  refine ⟨rfl, ?_, ?_⟩
  · exact ((H2.out.setMem (by omega) _).setPc _).drew
  · exact ((HB.out.setCell (by simp) _).setCell (by simp) _).drew

set_option maxRecDepth 100000 in
set_option maxHeartbeats 4000000 in
theorem step_7 (p m k tb pc : Nat) (xs : List Int) (l : List Ins) (v : Value) (a b c : Int) (w : World) (h : Pre w p m k tb pc xs l v) (hi : nextP l pc xs.length = some ⟨7, a, b, c⟩) :
    Calls Tryd.prog 32 #[.pointer (some ⟨p, 0, none⟩), v, .map (some tb)] w fun e w' => e = .returned (.tuple #[]) ∧ MSt w' p m k (pc + 1) (wx xs a (twoP 7 (gx xs b) (gx xs c))) 0 ∧ But2 p m w w' := by
  obtain ⟨hr, hpc⟩ := nextP_right hi
  simp only [Int.toNat_natCast] at hr hpc
  obtain ⟨ha0, ha1, hb0, hb1, hc0, hc1⟩ := right_www (by simp) hr
  obtain ⟨a, rfl⟩ := Int.eq_ofNat_of_zero_le ha0
  obtain ⟨b, rfl⟩ := Int.eq_ofNat_of_zero_le hb0
  obtain ⟨c, rfl⟩ := Int.eq_ofNat_of_zero_le hc0
  have hP := Lib.hid h
  have hl := h.ll
  have hx := h.lx
  go_enter Tryd.func32, Tryd.ntmps32
  go_wp2_with fail
  refine (next_yes p m k pc xs l v _ w h.st h.ops h.code h.ll hi).mono ?_
  rintro e w1 ⟨rfl, hb1⟩
  have h1 := h.st.below h.x0 hb1
  have H1 := Lib.hid h1
  have Hr := Lib.hid hr
  have Hb1 := Lib.hid hb1
  clear h hb1 h1 hi hr
  go_wp2_with fail
  refine (far_any p m k pc 0 xs ⟨7, a, b, c⟩ l.length _ (H1.out.below hP.out.x0 (below_alloc1 _ _)) hP.out.lk Hr.out hP.out.lx hP.out.w32).mono ?_
  rintro e w2 ⟨rfl, hb2⟩
  have h2 := (H1.out.below hP.out.x0 (below_alloc1 _ _)).below hP.out.x0 hb2
  have hf : farR ⟨7, a, b, c⟩ xs = -1 := by simp [farR]
  rw [hf]
  have H2 := Lib.hid h2
  obtain ⟨⟨s0, s1, s2⟩, hcs, zp, zm, hne⟩ := h2
  have HB : Hid (But2 p m w w2) := Lib.hid (((But2.of_below Hb1.out).below (below_alloc1 _ _)).below hb2)
  have hk1 : m < w2.heap.size := cell_lt (hcs 0 _ (gx_at (k := 0) hP.out.x0))
  have k2 : ∀ j, w2.cell? ⟨w1.heap.size, j, none⟩ = #[Value.int .i64 7, .int .i64 a, .int .i64 b, .int .i64 c][j]? := keep hb2
  have pc0 : (pc : Int) ≤ 300 := by omega
  have Hcs := Lib.hid hcs
  have Hb2 := Lib.hid hb2
  clear hf hb2 hcs
  have qb := Hcs.out b _ (gx_at (show b < xs.length by omega))
  have lb : (b : Int) < (xs.length : Int) := by omega
  have qc := Hcs.out c _ (gx_at (show c < xs.length by omega))
  have lc : (c : Int) < (xs.length : Int) := by omega
  obtain ⟨xa, qa⟩ : ∃ xa, w2.cell? ⟨m, a, none⟩ = some xa := ⟨_, Hcs.out a _ (gx_at (show a < xs.length by omega))⟩
  have la : (a : Int) < (xs.length : Int) := by omega
  have hT : w2.heap[tb]? = some (.map twosE 11) := (heap_two Hb1.out Hb2.out hP.out.two)
  have hlook := look_run w2 tb twosE 11 hT 7 _ _ rfl
  have hlook' : ∀ n, (Instr.lookup 64 (.map (some tb)) (.int .i64 7) false).run Tryd.prog (w2.drewN n) = .ok (.func (.func 46) #[] #[]) (w2.drewN n) := fun n => look_run (w2.drewN n) tb twosE 11 hT 7 _ _ rfl
  have hlook1 : (Instr.lookup 64 (.map (some tb)) (.int .i64 7) false).run Tryd.prog w2.drew = .ok (.func (.func 46) #[] #[]) w2.drew := look_run w2.drew tb twosE 11 hT 7 _ _ rfl
  clear hlook hlook' hT
  go_wp2_with fail
  go_still_tail 18, (by kernel_rfl)
  still_call ((two7 _ _ _).mono (by rintro e w' ⟨rfl, rfl⟩; exact ⟨rfl, rfl⟩))
  repeat still_step
  try refine wpStill_nil ?_
  go_wp2
  go_end0
  refine ⟨rfl, ?_, ?_⟩
  · exact ((H2.out.setMem (by omega) _).setPc _).drew
  · exact ((HB.out.setCell (by simp) _).setCell (by simp) _).drew
end Go.Proofs.YteecpkkgjioplaaDoor

/- step: step_8, step_9, step_10, step_11, step_12, step_13. -/
namespace Go.Proofs.YteecpkkgjioplaaDoor
open Go.RowKit Go

set_option maxRecDepth 100000 in
set_option maxHeartbeats 4000000 in
theorem step_8 (p m k tb pc : Nat) (xs : List Int) (l : List Ins) (v : Value) (a b c : Int) (w : World) (h : Pre w p m k tb pc xs l v) (hi : nextP l pc xs.length = some ⟨8, a, b, c⟩) :
    Calls Tryd.prog 32 #[.pointer (some ⟨p, 0, none⟩), v, .map (some tb)] w fun e w' => e = .returned (.tuple #[]) ∧ MSt w' p m k (pc + 1) (wx xs a (twoP 8 (gx xs b) (gx xs c))) 0 ∧ But2 p m w w' := by
  obtain ⟨hr, hpc⟩ := nextP_right hi
  simp only [Int.toNat_natCast] at hr hpc
  obtain ⟨ha0, ha1, hb0, hb1, hc0, hc1⟩ := right_www (by simp) hr
  obtain ⟨a, rfl⟩ := Int.eq_ofNat_of_zero_le ha0
  obtain ⟨b, rfl⟩ := Int.eq_ofNat_of_zero_le hb0
  obtain ⟨c, rfl⟩ := Int.eq_ofNat_of_zero_le hc0
  have hP := Lib.hid h
  have hl := h.ll
  have hx := h.lx
  go_enter Tryd.func32, Tryd.ntmps32
  go_wp2_with fail
  refine (next_yes p m k pc xs l v _ w h.st h.ops h.code h.ll hi).mono ?_
  rintro e w1 ⟨rfl, hb1⟩
  have h1 := h.st.below h.x0 hb1
  have H1 := Lib.hid h1
  have Hr := Lib.hid hr
  have Hb1 := Lib.hid hb1
  clear h hb1 h1 hi hr
  go_wp2_with fail
  refine (far_any p m k pc 0 xs ⟨8, a, b, c⟩ l.length _ (H1.out.below hP.out.x0 (below_alloc1 _ _)) hP.out.lk Hr.out hP.out.lx hP.out.w32).mono ?_
  rintro e w2 ⟨rfl, hb2⟩
  have h2 := (H1.out.below hP.out.x0 (below_alloc1 _ _)).below hP.out.x0 hb2
  have hf : farR ⟨8, a, b, c⟩ xs = -1 := by simp [farR]
  rw [hf]
  have H2 := Lib.hid h2
  obtain ⟨⟨s0, s1, s2⟩, hcs, zp, zm, hne⟩ := h2
  have HB : Hid (But2 p m w w2) := Lib.hid (((But2.of_below Hb1.out).below (below_alloc1 _ _)).below hb2)
  have hk1 : m < w2.heap.size := cell_lt (hcs 0 _ (gx_at (k := 0) hP.out.x0))
  have k2 : ∀ j, w2.cell? ⟨w1.heap.size, j, none⟩ = #[Value.int .i64 8, .int .i64 a, .int .i64 b, .int .i64 c][j]? := keep hb2
  have pc0 : (pc : Int) ≤ 300 := by omega
  have Hcs := Lib.hid hcs
  have Hb2 := Lib.hid hb2
  clear hf hb2 hcs
  have qb := Hcs.out b _ (gx_at (show b < xs.length by omega))
  have lb : (b : Int) < (xs.length : Int) := by omega
  have qc := Hcs.out c _ (gx_at (show c < xs.length by omega))
  have lc : (c : Int) < (xs.length : Int) := by omega
  obtain ⟨xa, qa⟩ : ∃ xa, w2.cell? ⟨m, a, none⟩ = some xa := ⟨_, Hcs.out a _ (gx_at (show a < xs.length by omega))⟩
  have la : (a : Int) < (xs.length : Int) := by omega
  have hT : w2.heap[tb]? = some (.map twosE 11) := (heap_two Hb1.out Hb2.out hP.out.two)
  have hlook := look_run w2 tb twosE 11 hT 8 _ _ rfl
  have hlook' : ∀ n, (Instr.lookup 64 (.map (some tb)) (.int .i64 8) false).run Tryd.prog (w2.drewN n) = .ok (.func (.func 47) #[] #[]) (w2.drewN n) := fun n => look_run (w2.drewN n) tb twosE 11 hT 8 _ _ rfl
  have hlook1 : (Instr.lookup 64 (.map (some tb)) (.int .i64 8) false).run Tryd.prog w2.drew = .ok (.func (.func 47) #[] #[]) w2.drew := look_run w2.drew tb twosE 11 hT 8 _ _ rfl
  clear hlook hlook' hT
  go_wp2_with fail
  go_still_tail 18, (by kernel_rfl)
  still_call ((two8 _ _ _).mono (by rintro e w' ⟨rfl, rfl⟩; exact ⟨rfl, rfl⟩))
  repeat still_step
  try refine wpStill_nil ?_
  go_wp2
  go_end0
  refine ⟨rfl, ?_, ?_⟩
  · exact ((H2.out.setMem (by omega) _).setPc _).drew
  · exact ((HB.out.setCell (by simp) _).setCell (by simp) _).drew

set_option maxRecDepth 100000 in
set_option maxHeartbeats 4000000 in
theorem step_9 (p m k tb pc : Nat) (xs : List Int) (l : List Ins) (v : Value) (a b c : Int) (w : World) (h : Pre w p m k tb pc xs l v) (hi : nextP l pc xs.length = some ⟨9, a, b, c⟩) :
    Calls Tryd.prog 32 #[.pointer (some ⟨p, 0, none⟩), v, .map (some tb)] w fun e w' => e = .returned (.tuple #[]) ∧ MSt w' p m k (pc + 1) (wx xs a (twoP 9 (gx xs b) (gx xs c))) 0 ∧ But2 p m w w' := by
  obtain ⟨hr, hpc⟩ := nextP_right hi
  simp only [Int.toNat_natCast] at hr hpc
  obtain ⟨ha0, ha1, hb0, hb1, hc0, hc1⟩ := right_www (by simp) hr
  obtain ⟨a, rfl⟩ := Int.eq_ofNat_of_zero_le ha0
  obtain ⟨b, rfl⟩ := Int.eq_ofNat_of_zero_le hb0
  obtain ⟨c, rfl⟩ := Int.eq_ofNat_of_zero_le hc0
  have hP := Lib.hid h
  have hl := h.ll
  have hx := h.lx
  go_enter Tryd.func32, Tryd.ntmps32
  go_wp2_with fail
  refine (next_yes p m k pc xs l v _ w h.st h.ops h.code h.ll hi).mono ?_
  rintro e w1 ⟨rfl, hb1⟩
  have h1 := h.st.below h.x0 hb1
  have H1 := Lib.hid h1
  have Hr := Lib.hid hr
  have Hb1 := Lib.hid hb1
  clear h hb1 h1 hi hr
  go_wp2_with fail
  refine (far_any p m k pc 0 xs ⟨9, a, b, c⟩ l.length _ (H1.out.below hP.out.x0 (below_alloc1 _ _)) hP.out.lk Hr.out hP.out.lx hP.out.w32).mono ?_
  rintro e w2 ⟨rfl, hb2⟩
  have h2 := (H1.out.below hP.out.x0 (below_alloc1 _ _)).below hP.out.x0 hb2
  have hf : farR ⟨9, a, b, c⟩ xs = -1 := by simp [farR]
  rw [hf]
  have H2 := Lib.hid h2
  obtain ⟨⟨s0, s1, s2⟩, hcs, zp, zm, hne⟩ := h2
  have HB : Hid (But2 p m w w2) := Lib.hid (((But2.of_below Hb1.out).below (below_alloc1 _ _)).below hb2)
  have hk1 : m < w2.heap.size := cell_lt (hcs 0 _ (gx_at (k := 0) hP.out.x0))
  have k2 : ∀ j, w2.cell? ⟨w1.heap.size, j, none⟩ = #[Value.int .i64 9, .int .i64 a, .int .i64 b, .int .i64 c][j]? := keep hb2
  have pc0 : (pc : Int) ≤ 300 := by omega
  have Hcs := Lib.hid hcs
  have Hb2 := Lib.hid hb2
  clear hf hb2 hcs
  have qb := Hcs.out b _ (gx_at (show b < xs.length by omega))
  have lb : (b : Int) < (xs.length : Int) := by omega
  have qc := Hcs.out c _ (gx_at (show c < xs.length by omega))
  have lc : (c : Int) < (xs.length : Int) := by omega
  obtain ⟨xa, qa⟩ : ∃ xa, w2.cell? ⟨m, a, none⟩ = some xa := ⟨_, Hcs.out a _ (gx_at (show a < xs.length by omega))⟩
  have la : (a : Int) < (xs.length : Int) := by omega
  have hT : w2.heap[tb]? = some (.map twosE 11) := (heap_two Hb1.out Hb2.out hP.out.two)
  have hlook := look_run w2 tb twosE 11 hT 9 _ _ rfl
  have hlook' : ∀ n, (Instr.lookup 64 (.map (some tb)) (.int .i64 9) false).run Tryd.prog (w2.drewN n) = .ok (.func (.func 49) #[] #[]) (w2.drewN n) := fun n => look_run (w2.drewN n) tb twosE 11 hT 9 _ _ rfl
  have hlook1 : (Instr.lookup 64 (.map (some tb)) (.int .i64 9) false).run Tryd.prog w2.drew = .ok (.func (.func 49) #[] #[]) w2.drew := look_run w2.drew tb twosE 11 hT 9 _ _ rfl
  clear hlook hlook' hT
  go_wp2_with fail
  go_still_tail 18, (by kernel_rfl)
  still_call ((two9 _ _ _).mono (by rintro e w' ⟨rfl, rfl⟩; exact ⟨rfl, rfl⟩))
  repeat still_step
  try refine wpStill_nil ?_
  go_wp2
  go_end0
  refine ⟨rfl, ?_, ?_⟩
  · exact ((H2.out.setMem (by omega) _).setPc _).drew
  · exact ((HB.out.setCell (by simp) _).setCell (by simp) _).drew

set_option maxRecDepth 100000 in
set_option maxHeartbeats 4000000 in
theorem step_10 (p m k tb pc : Nat) (xs : List Int) (l : List Ins) (v : Value) (a b c : Int) (w : World) (h : Pre w p m k tb pc xs l v) (hi : nextP l pc xs.length = some ⟨10, a, b, c⟩) :
    Calls Tryd.prog 32 #[.pointer (some ⟨p, 0, none⟩), v, .map (some tb)] w fun e w' => e = .returned (.tuple #[]) ∧ MSt w' p m k (pc + 1) (wx xs a (twoP 10 (gx xs b) (gx xs c))) 0 ∧ But2 p m w w' := by
  obtain ⟨hr, hpc⟩ := nextP_right hi
  simp only [Int.toNat_natCast] at hr hpc
  obtain ⟨ha0, ha1, hb0, hb1, hc0, hc1⟩ := right_www (by simp) hr
  obtain ⟨a, rfl⟩ := Int.eq_ofNat_of_zero_le ha0
  obtain ⟨b, rfl⟩ := Int.eq_ofNat_of_zero_le hb0
  obtain ⟨c, rfl⟩ := Int.eq_ofNat_of_zero_le hc0
  have hP := Lib.hid h
  have hl := h.ll
  have hx := h.lx
  go_enter Tryd.func32, Tryd.ntmps32
  go_wp2_with fail
  refine (next_yes p m k pc xs l v _ w h.st h.ops h.code h.ll hi).mono ?_
  rintro e w1 ⟨rfl, hb1⟩
  have h1 := h.st.below h.x0 hb1
  have H1 := Lib.hid h1
  have Hr := Lib.hid hr
  have Hb1 := Lib.hid hb1
  clear h hb1 h1 hi hr
  go_wp2_with fail
  refine (far_any p m k pc 0 xs ⟨10, a, b, c⟩ l.length _ (H1.out.below hP.out.x0 (below_alloc1 _ _)) hP.out.lk Hr.out hP.out.lx hP.out.w32).mono ?_
  rintro e w2 ⟨rfl, hb2⟩
  have h2 := (H1.out.below hP.out.x0 (below_alloc1 _ _)).below hP.out.x0 hb2
  have hf : farR ⟨10, a, b, c⟩ xs = -1 := by simp [farR]
  rw [hf]
  have H2 := Lib.hid h2
  obtain ⟨⟨s0, s1, s2⟩, hcs, zp, zm, hne⟩ := h2
  have HB : Hid (But2 p m w w2) := Lib.hid (((But2.of_below Hb1.out).below (below_alloc1 _ _)).below hb2)
  have hk1 : m < w2.heap.size := cell_lt (hcs 0 _ (gx_at (k := 0) hP.out.x0))
  have k2 : ∀ j, w2.cell? ⟨w1.heap.size, j, none⟩ = #[Value.int .i64 10, .int .i64 a, .int .i64 b, .int .i64 c][j]? := keep hb2
  have pc0 : (pc : Int) ≤ 300 := by omega
  have Hcs := Lib.hid hcs
  have Hb2 := Lib.hid hb2
  clear hf hb2 hcs
  have qb := Hcs.out b _ (gx_at (show b < xs.length by omega))
  have lb : (b : Int) < (xs.length : Int) := by omega
  have qc := Hcs.out c _ (gx_at (show c < xs.length by omega))
  have lc : (c : Int) < (xs.length : Int) := by omega
  obtain ⟨xa, qa⟩ : ∃ xa, w2.cell? ⟨m, a, none⟩ = some xa := ⟨_, Hcs.out a _ (gx_at (show a < xs.length by omega))⟩
  have la : (a : Int) < (xs.length : Int) := by omega
  have hT : w2.heap[tb]? = some (.map twosE 11) := (heap_two Hb1.out Hb2.out hP.out.two)
  have hlook := look_run w2 tb twosE 11 hT 10 _ _ rfl
  have hlook' : ∀ n, (Instr.lookup 64 (.map (some tb)) (.int .i64 10) false).run Tryd.prog (w2.drewN n) = .ok (.func (.func 50) #[] #[]) (w2.drewN n) := fun n => look_run (w2.drewN n) tb twosE 11 hT 10 _ _ rfl
  have hlook1 : (Instr.lookup 64 (.map (some tb)) (.int .i64 10) false).run Tryd.prog w2.drew = .ok (.func (.func 50) #[] #[]) w2.drew := look_run w2.drew tb twosE 11 hT 10 _ _ rfl
  clear hlook hlook' hT
  go_wp2_with fail
  go_still_tail 18, (by kernel_rfl)
  still_call ((two10 _ _ _).mono (by rintro e w' ⟨rfl, rfl⟩; exact ⟨rfl, rfl⟩))
  repeat still_step
  try refine wpStill_nil ?_
  go_wp2
  go_end0
  refine ⟨rfl, ?_, ?_⟩
  · exact ((H2.out.setMem (by omega) _).setPc _).drew
  · exact ((HB.out.setCell (by simp) _).setCell (by simp) _).drew

set_option maxRecDepth 100000 in
set_option maxHeartbeats 4000000 in
theorem step_11 (p m k tb pc : Nat) (xs : List Int) (l : List Ins) (v : Value) (a b c : Int) (w : World) (h : Pre w p m k tb pc xs l v) (hi : nextP l pc xs.length = some ⟨11, a, b, c⟩) :
    Calls Tryd.prog 32 #[.pointer (some ⟨p, 0, none⟩), v, .map (some tb)] w fun e w' => e = .returned (.tuple #[]) ∧ MSt w' p m k (pc + 1) (wx xs a (twoP 11 (gx xs b) (gx xs c))) 0 ∧ But2 p m w w' := by
  obtain ⟨hr, hpc⟩ := nextP_right hi
  simp only [Int.toNat_natCast] at hr hpc
  obtain ⟨ha0, ha1, hb0, hb1, hc0, hc1⟩ := right_www (by simp) hr
  obtain ⟨a, rfl⟩ := Int.eq_ofNat_of_zero_le ha0
  obtain ⟨b, rfl⟩ := Int.eq_ofNat_of_zero_le hb0
  obtain ⟨c, rfl⟩ := Int.eq_ofNat_of_zero_le hc0
  have hP := Lib.hid h
  have hl := h.ll
  have hx := h.lx
  go_enter Tryd.func32, Tryd.ntmps32
  go_wp2_with fail
  refine (next_yes p m k pc xs l v _ w h.st h.ops h.code h.ll hi).mono ?_
  rintro e w1 ⟨rfl, hb1⟩
  have h1 := h.st.below h.x0 hb1
  have H1 := Lib.hid h1
  have Hr := Lib.hid hr
  have Hb1 := Lib.hid hb1
  clear h hb1 h1 hi hr
  go_wp2_with fail
  refine (far_any p m k pc 0 xs ⟨11, a, b, c⟩ l.length _ (H1.out.below hP.out.x0 (below_alloc1 _ _)) hP.out.lk Hr.out hP.out.lx hP.out.w32).mono ?_
  rintro e w2 ⟨rfl, hb2⟩
  have h2 := (H1.out.below hP.out.x0 (below_alloc1 _ _)).below hP.out.x0 hb2
  have hf : farR ⟨11, a, b, c⟩ xs = -1 := by simp [farR]
  rw [hf]
  have H2 := Lib.hid h2
  obtain ⟨⟨s0, s1, s2⟩, hcs, zp, zm, hne⟩ := h2
  have HB : Hid (But2 p m w w2) := Lib.hid (((But2.of_below Hb1.out).below (below_alloc1 _ _)).below hb2)
  have hk1 : m < w2.heap.size := cell_lt (hcs 0 _ (gx_at (k := 0) hP.out.x0))
  have k2 : ∀ j, w2.cell? ⟨w1.heap.size, j, none⟩ = #[Value.int .i64 11, .int .i64 a, .int .i64 b, .int .i64 c][j]? := keep hb2
  have pc0 : (pc : Int) ≤ 300 := by omega
  have Hcs := Lib.hid hcs
  have Hb2 := Lib.hid hb2
  clear hf hb2 hcs
  have qb := Hcs.out b _ (gx_at (show b < xs.length by omega))
  have lb : (b : Int) < (xs.length : Int) := by omega
  have qc := Hcs.out c _ (gx_at (show c < xs.length by omega))
  have lc : (c : Int) < (xs.length : Int) := by omega
  obtain ⟨xa, qa⟩ : ∃ xa, w2.cell? ⟨m, a, none⟩ = some xa := ⟨_, Hcs.out a _ (gx_at (show a < xs.length by omega))⟩
  have la : (a : Int) < (xs.length : Int) := by omega
  have hT : w2.heap[tb]? = some (.map twosE 11) := (heap_two Hb1.out Hb2.out hP.out.two)
  have hlook := look_run w2 tb twosE 11 hT 11 _ _ rfl
  have hlook' : ∀ n, (Instr.lookup 64 (.map (some tb)) (.int .i64 11) false).run Tryd.prog (w2.drewN n) = .ok (.func (.func 51) #[] #[]) (w2.drewN n) := fun n => look_run (w2.drewN n) tb twosE 11 hT 11 _ _ rfl
  have hlook1 : (Instr.lookup 64 (.map (some tb)) (.int .i64 11) false).run Tryd.prog w2.drew = .ok (.func (.func 51) #[] #[]) w2.drew := look_run w2.drew tb twosE 11 hT 11 _ _ rfl
  clear hlook hlook' hT
  go_wp2_with fail
  go_still_tail 18, (by kernel_rfl)
  still_call ((two11 _ _ _).mono (by rintro e w' ⟨rfl, rfl⟩; exact ⟨rfl, rfl⟩))
  repeat still_step
  try refine wpStill_nil ?_
  go_wp2
  go_end0
  refine ⟨rfl, ?_, ?_⟩
  · exact ((H2.out.setMem (by omega) _).setPc _).drew
  · exact ((HB.out.setCell (by simp) _).setCell (by simp) _).drew

set_option maxRecDepth 100000 in
set_option maxHeartbeats 4000000 in
theorem step_12 (p m k tb pc : Nat) (xs : List Int) (l : List Ins) (v : Value) (a b c : Int) (w : World) (h : Pre w p m k tb pc xs l v) (hi : nextP l pc xs.length = some ⟨12, a, b, c⟩) :
    Calls Tryd.prog 32 #[.pointer (some ⟨p, 0, none⟩), v, .map (some tb)] w fun e w' => e = .returned (.tuple #[]) ∧ MSt w' p m k (pc + 1) (wx xs a (twoP 12 (gx xs b) (gx xs c))) 0 ∧ But2 p m w w' := by
  obtain ⟨hr, hpc⟩ := nextP_right hi
  simp only [Int.toNat_natCast] at hr hpc
  obtain ⟨ha0, ha1, hb0, hb1, hc0, hc1⟩ := right_www (by simp) hr
  obtain ⟨a, rfl⟩ := Int.eq_ofNat_of_zero_le ha0
  obtain ⟨b, rfl⟩ := Int.eq_ofNat_of_zero_le hb0
  obtain ⟨c, rfl⟩ := Int.eq_ofNat_of_zero_le hc0
  have hP := Lib.hid h
  have hl := h.ll
  have hx := h.lx
  go_enter Tryd.func32, Tryd.ntmps32
  go_wp2_with fail
  refine (next_yes p m k pc xs l v _ w h.st h.ops h.code h.ll hi).mono ?_
  rintro e w1 ⟨rfl, hb1⟩
  have h1 := h.st.below h.x0 hb1
  have H1 := Lib.hid h1
  have Hr := Lib.hid hr
  have Hb1 := Lib.hid hb1
  clear h hb1 h1 hi hr
  go_wp2_with fail
  refine (far_any p m k pc 0 xs ⟨12, a, b, c⟩ l.length _ (H1.out.below hP.out.x0 (below_alloc1 _ _)) hP.out.lk Hr.out hP.out.lx hP.out.w32).mono ?_
  rintro e w2 ⟨rfl, hb2⟩
  have h2 := (H1.out.below hP.out.x0 (below_alloc1 _ _)).below hP.out.x0 hb2
  have hf : farR ⟨12, a, b, c⟩ xs = -1 := by simp [farR]
  rw [hf]
  have H2 := Lib.hid h2
  obtain ⟨⟨s0, s1, s2⟩, hcs, zp, zm, hne⟩ := h2
  have HB : Hid (But2 p m w w2) := Lib.hid (((But2.of_below Hb1.out).below (below_alloc1 _ _)).below hb2)
  have hk1 : m < w2.heap.size := cell_lt (hcs 0 _ (gx_at (k := 0) hP.out.x0))
  have k2 : ∀ j, w2.cell? ⟨w1.heap.size, j, none⟩ = #[Value.int .i64 12, .int .i64 a, .int .i64 b, .int .i64 c][j]? := keep hb2
  have pc0 : (pc : Int) ≤ 300 := by omega
  have Hcs := Lib.hid hcs
  have Hb2 := Lib.hid hb2
  clear hf hb2 hcs
  have qb := Hcs.out b _ (gx_at (show b < xs.length by omega))
  have lb : (b : Int) < (xs.length : Int) := by omega
  have qc := Hcs.out c _ (gx_at (show c < xs.length by omega))
  have lc : (c : Int) < (xs.length : Int) := by omega
  obtain ⟨xa, qa⟩ : ∃ xa, w2.cell? ⟨m, a, none⟩ = some xa := ⟨_, Hcs.out a _ (gx_at (show a < xs.length by omega))⟩
  have la : (a : Int) < (xs.length : Int) := by omega
  have hT : w2.heap[tb]? = some (.map twosE 11) := (heap_two Hb1.out Hb2.out hP.out.two)
  have hlook := look_run w2 tb twosE 11 hT 12 _ _ rfl
  have hlook' : ∀ n, (Instr.lookup 64 (.map (some tb)) (.int .i64 12) false).run Tryd.prog (w2.drewN n) = .ok (.func (.func 52) #[] #[]) (w2.drewN n) := fun n => look_run (w2.drewN n) tb twosE 11 hT 12 _ _ rfl
  have hlook1 : (Instr.lookup 64 (.map (some tb)) (.int .i64 12) false).run Tryd.prog w2.drew = .ok (.func (.func 52) #[] #[]) w2.drew := look_run w2.drew tb twosE 11 hT 12 _ _ rfl
  clear hlook hlook' hT
  go_wp2_with fail
  go_still_tail 18, (by kernel_rfl)
  still_call ((two12 _ _ _).mono (by rintro e w' ⟨rfl, rfl⟩; exact ⟨rfl, rfl⟩))
  repeat still_step
  try refine wpStill_nil ?_
  go_wp2
  go_end0
  refine ⟨rfl, ?_, ?_⟩
  · exact ((H2.out.setMem (by omega) _).setPc _).drew
  · exact ((HB.out.setCell (by simp) _).setCell (by simp) _).drew

set_option maxRecDepth 100000 in
set_option maxHeartbeats 4000000 in
theorem step_13 (p m k tb pc : Nat) (xs : List Int) (l : List Ins) (v : Value) (a b c : Int) (w : World) (h : Pre w p m k tb pc xs l v) (hi : nextP l pc xs.length = some ⟨13, a, b, c⟩) :
    Calls Tryd.prog 32 #[.pointer (some ⟨p, 0, none⟩), v, .map (some tb)] w fun e w' => e = .returned (.tuple #[]) ∧ MSt w' p m k (pc + 1) (wx xs a (twoP 13 (gx xs b) (gx xs c))) 0 ∧ But2 p m w w' := by
  obtain ⟨hr, hpc⟩ := nextP_right hi
  simp only [Int.toNat_natCast] at hr hpc
  obtain ⟨ha0, ha1, hb0, hb1, hc0, hc1⟩ := right_www (by simp) hr
  obtain ⟨a, rfl⟩ := Int.eq_ofNat_of_zero_le ha0
  obtain ⟨b, rfl⟩ := Int.eq_ofNat_of_zero_le hb0
  obtain ⟨c, rfl⟩ := Int.eq_ofNat_of_zero_le hc0
  have hP := Lib.hid h
  have hl := h.ll
  have hx := h.lx
  go_enter Tryd.func32, Tryd.ntmps32
  go_wp2_with fail
  refine (next_yes p m k pc xs l v _ w h.st h.ops h.code h.ll hi).mono ?_
  rintro e w1 ⟨rfl, hb1⟩
  have h1 := h.st.below h.x0 hb1
  have H1 := Lib.hid h1
  have Hr := Lib.hid hr
  have Hb1 := Lib.hid hb1
  clear h hb1 h1 hi hr
  go_wp2_with fail
  refine (far_any p m k pc 0 xs ⟨13, a, b, c⟩ l.length _ (H1.out.below hP.out.x0 (below_alloc1 _ _)) hP.out.lk Hr.out hP.out.lx hP.out.w32).mono ?_
  rintro e w2 ⟨rfl, hb2⟩
  have h2 := (H1.out.below hP.out.x0 (below_alloc1 _ _)).below hP.out.x0 hb2
  have hf : farR ⟨13, a, b, c⟩ xs = -1 := by simp [farR]
  rw [hf]
  have H2 := Lib.hid h2
  obtain ⟨⟨s0, s1, s2⟩, hcs, zp, zm, hne⟩ := h2
  have HB : Hid (But2 p m w w2) := Lib.hid (((But2.of_below Hb1.out).below (below_alloc1 _ _)).below hb2)
  have hk1 : m < w2.heap.size := cell_lt (hcs 0 _ (gx_at (k := 0) hP.out.x0))
  have k2 : ∀ j, w2.cell? ⟨w1.heap.size, j, none⟩ = #[Value.int .i64 13, .int .i64 a, .int .i64 b, .int .i64 c][j]? := keep hb2
  have pc0 : (pc : Int) ≤ 300 := by omega
  have Hcs := Lib.hid hcs
  have Hb2 := Lib.hid hb2
  clear hf hb2 hcs
  have qb := Hcs.out b _ (gx_at (show b < xs.length by omega))
  have lb : (b : Int) < (xs.length : Int) := by omega
  have qc := Hcs.out c _ (gx_at (show c < xs.length by omega))
  have lc : (c : Int) < (xs.length : Int) := by omega
  obtain ⟨xa, qa⟩ : ∃ xa, w2.cell? ⟨m, a, none⟩ = some xa := ⟨_, Hcs.out a _ (gx_at (show a < xs.length by omega))⟩
  have la : (a : Int) < (xs.length : Int) := by omega
  have hT : w2.heap[tb]? = some (.map twosE 11) := (heap_two Hb1.out Hb2.out hP.out.two)
  have hlook := look_run w2 tb twosE 11 hT 13 _ _ rfl
  have hlook' : ∀ n, (Instr.lookup 64 (.map (some tb)) (.int .i64 13) false).run Tryd.prog (w2.drewN n) = .ok (.func (.func 53) #[] #[]) (w2.drewN n) := fun n => look_run (w2.drewN n) tb twosE 11 hT 13 _ _ rfl
  have hlook1 : (Instr.lookup 64 (.map (some tb)) (.int .i64 13) false).run Tryd.prog w2.drew = .ok (.func (.func 53) #[] #[]) w2.drew := look_run w2.drew tb twosE 11 hT 13 _ _ rfl
  clear hlook hlook' hT
  go_wp2_with fail
  go_still_tail 18, (by kernel_rfl)
  still_call ((two13 _ _ _).mono (by rintro e w' ⟨rfl, rfl⟩; exact ⟨rfl, rfl⟩))
  repeat still_step
  try refine wpStill_nil ?_
  go_wp2
  go_end0
  refine ⟨rfl, ?_, ?_⟩
  · exact ((H2.out.setMem (by omega) _).setPc _).drew
  · exact ((HB.out.setCell (by simp) _).setCell (by simp) _).drew
end Go.Proofs.YteecpkkgjioplaaDoor

/- step: step_18n. -/
namespace Go.Proofs.YteecpkkgjioplaaDoor
open Go.RowKit Go

attribute [local irreducible] Go.wpStill
set_option maxRecDepth 100000 in
set_option maxHeartbeats 4000000 in
theorem step_18n (p m k tb pc : Nat) (xs : List Int) (l : List Ins) (v : Value) (a b c : Int) (w : World) (h : Pre w p m k tb pc xs l v) (hi : nextP l pc xs.length = some ⟨18, a, b, c⟩) (g : Int) (hg : gx xs b = g) (hz0 : g < 0) :
    Calls Tryd.prog 32 #[.pointer (some ⟨p, 0, none⟩), v, .map (some tb)] w fun e w' => e = .returned (.tuple #[]) ∧ MSt w' p m k (pc + 1) (wx xs a (truthP (decide (0 ≤ g) && decide (g < c)))) 0 ∧ But2 p m w w' := by
  obtain ⟨hr, hpc⟩ := nextP_right hi
  simp only [Int.toNat_natCast] at hr hpc
  obtain ⟨ha0, ha1, hb0, hb1, hcn⟩ := right_18 hr
  obtain ⟨a, rfl⟩ := Int.eq_ofNat_of_zero_le ha0
  obtain ⟨b, rfl⟩ := Int.eq_ofNat_of_zero_le hb0
  simp [numP] at hcn
  obtain ⟨hc0, hc1⟩ := hcn
  have HG := Lib.hid hg
  clear hg
  have hz : decide (0 ≤ g) = false := by simp; omega
  clear hz0
  have hP := Lib.hid h
  have hl := h.ll
  have hx := h.lx
  go_enter Tryd.func32, Tryd.ntmps32
  go_wp2_with fail
  refine (next_yes p m k pc xs l v _ w h.st h.ops h.code h.ll hi).mono ?_
  rintro e w1 ⟨rfl, hb1⟩
  have h1 := h.st.below h.x0 hb1
  have H1 := Lib.hid h1
  have Hr := Lib.hid hr
  have Hb1 := Lib.hid hb1
  clear h hb1 h1 hi hr
  go_wp2_with fail
  refine (far_any p m k pc 0 xs ⟨18, a, b, c⟩ l.length _ (H1.out.below hP.out.x0 (below_alloc1 _ _)) hP.out.lk Hr.out hP.out.lx hP.out.w32).mono ?_
  rintro e w2 ⟨rfl, hb2⟩
  have h2 := (H1.out.below hP.out.x0 (below_alloc1 _ _)).below hP.out.x0 hb2
  have hf : farR ⟨18, a, b, c⟩ xs = -1 := by simp [farR]
  rw [hf]
  have H2 := Lib.hid h2
  obtain ⟨⟨s0, s1, s2⟩, hcs, zp, zm, hne⟩ := h2
  have HB : Hid (But2 p m w w2) := Lib.hid (((But2.of_below Hb1.out).below (below_alloc1 _ _)).below hb2)
  have hk1 : m < w2.heap.size := cell_lt (hcs 0 _ (gx_at (k := 0) hP.out.x0))
  have k2 : ∀ j, w2.cell? ⟨w1.heap.size, j, none⟩ = #[Value.int .i64 18, .int .i64 a, .int .i64 b, .int .i64 c][j]? := keep hb2
  have pc0 : (pc : Int) ≤ 300 := by omega
  have Hcs := Lib.hid hcs
  have Hb2 := Lib.hid hb2
  clear hf hb2 hcs
  have qb := Hcs.out b _ (gx_at (show b < xs.length by omega))
  rw [HG.out] at qb
  obtain ⟨g0, g1⟩ : -2147483648 ≤ g ∧ g ≤ 2147483647 := by rw [← HG.out]; exact hP.out.w32.gx (by omega)
  have lb : (b : Int) < (xs.length : Int) := by omega
  obtain ⟨xa, qa⟩ : ∃ xa, w2.cell? ⟨m, a, none⟩ = some xa := ⟨_, Hcs.out a _ (gx_at (show a < xs.length by omega))⟩
  have la : (a : Int) < (xs.length : Int) := by omega
  go_wp2_with fail
  refine wp_region_still_tail 21 (by kernel_rfl) (by kernel_rfl) ?_
  simp only [List.take_succ_cons, List.take_zero, List.drop_succ_cons, List.drop_zero]
  iterate 9 still_step
  have Hz := Lib.hid hz
  have HA := Lib.hid (And.intro qa (And.intro zm (And.intro s0 (And.intro zp (And.intro la s1)))))
  clear hz qa zm s0 zp la s1 s2 k2 qb lb g0 g1
  iterate 10 still_step
  repeat still_step
  still_call ((truth_any _ _).mono (by rintro e w' ⟨rfl, rfl⟩; exact ⟨rfl, rfl⟩))
  repeat still_step
  try refine wpStill_nil ?_
  have key : Hid (∀ v', v' = truthP (decide (0 ≤ g) && decide (g < c)) → MSt (((w2.setCell ⟨m, a, none⟩ (.int .i32 v')).setCell ⟨p, 0, none⟩ (.int .i64 (pc + 1))).drew) p m k (pc + 1) (wx xs a (truthP (decide (0 ≤ g) && decide (g < c)))) 0) := Lib.hid (by rintro _ rfl; exact ((H2.out.setMem (by omega) _).setPc _).drew)
  obtain ⟨qa, zm, s0, zp, la, s1⟩ := HA.out
  go_wp2
  go_end0
  exact ⟨rfl, key.out _ (by rw [Hz.out]; simp), ((HB.out.setCell (by simp) _).setCell (by simp) _).drew⟩
end Go.Proofs.YteecpkkgjioplaaDoor

/- step: step_18y. -/
namespace Go.Proofs.YteecpkkgjioplaaDoor
open Go.RowKit Go

set_option maxRecDepth 100000 in
set_option maxHeartbeats 4000000 in
theorem step_18y (p m k tb pc : Nat) (xs : List Int) (l : List Ins) (v : Value) (a b c : Int) (w : World) (h : Pre w p m k tb pc xs l v) (hi : nextP l pc xs.length = some ⟨18, a, b, c⟩) (g : Int) (hg : gx xs b = g) (hz0 : 0 ≤ g) :
    Calls Tryd.prog 32 #[.pointer (some ⟨p, 0, none⟩), v, .map (some tb)] w fun e w' => e = .returned (.tuple #[]) ∧ MSt w' p m k (pc + 1) (wx xs a (truthP (decide (0 ≤ g) && decide (g < c)))) 0 ∧ But2 p m w w' := by
  obtain ⟨hr, hpc⟩ := nextP_right hi
  simp only [Int.toNat_natCast] at hr hpc
  obtain ⟨ha0, ha1, hb0, hb1, hcn⟩ := right_18 hr
  obtain ⟨a, rfl⟩ := Int.eq_ofNat_of_zero_le ha0
  obtain ⟨b, rfl⟩ := Int.eq_ofNat_of_zero_le hb0
  simp [numP] at hcn
  obtain ⟨hc0, hc1⟩ := hcn
  have HG := Lib.hid hg
  clear hg
  have hz : decide (0 ≤ g) = true := by simp; omega
  have hP := Lib.hid h
  have hl := h.ll
  have hx := h.lx
  go_enter Tryd.func32, Tryd.ntmps32
  go_wp2_with fail
  refine (next_yes p m k pc xs l v _ w h.st h.ops h.code h.ll hi).mono ?_
  rintro e w1 ⟨rfl, hb1⟩
  have h1 := h.st.below h.x0 hb1
  have H1 := Lib.hid h1
  have Hr := Lib.hid hr
  have Hb1 := Lib.hid hb1
  clear h hb1 h1 hi hr
  go_wp2_with fail
  refine (far_any p m k pc 0 xs ⟨18, a, b, c⟩ l.length _ (H1.out.below hP.out.x0 (below_alloc1 _ _)) hP.out.lk Hr.out hP.out.lx hP.out.w32).mono ?_
  rintro e w2 ⟨rfl, hb2⟩
  have h2 := (H1.out.below hP.out.x0 (below_alloc1 _ _)).below hP.out.x0 hb2
  have hf : farR ⟨18, a, b, c⟩ xs = -1 := by simp [farR]
  rw [hf]
  have H2 := Lib.hid h2
  obtain ⟨⟨s0, s1, s2⟩, hcs, zp, zm, hne⟩ := h2
  have HB : Hid (But2 p m w w2) := Lib.hid (((But2.of_below Hb1.out).below (below_alloc1 _ _)).below hb2)
  have hk1 : m < w2.heap.size := cell_lt (hcs 0 _ (gx_at (k := 0) hP.out.x0))
  have k2 : ∀ j, w2.cell? ⟨w1.heap.size, j, none⟩ = #[Value.int .i64 18, .int .i64 a, .int .i64 b, .int .i64 c][j]? := keep hb2
  have pc0 : (pc : Int) ≤ 300 := by omega
  have Hcs := Lib.hid hcs
  have Hb2 := Lib.hid hb2
  clear hf hb2 hcs
  have qb := Hcs.out b _ (gx_at (show b < xs.length by omega))
  rw [HG.out] at qb
  obtain ⟨g0, g1⟩ : -2147483648 ≤ g ∧ g ≤ 2147483647 := by rw [← HG.out]; exact hP.out.w32.gx (by omega)
  have lb : (b : Int) < (xs.length : Int) := by omega
  obtain ⟨xa, qa⟩ : ∃ xa, w2.cell? ⟨m, a, none⟩ = some xa := ⟨_, Hcs.out a _ (gx_at (show a < xs.length by omega))⟩
  have la : (a : Int) < (xs.length : Int) := by omega
  go_wp2_with fail
  go_still_tail 21, (by kernel_rfl)
  still_call ((truth_any _ _).mono (by rintro e w' ⟨rfl, rfl⟩; exact ⟨rfl, rfl⟩))
  repeat still_step
  try refine wpStill_nil ?_
  have key : Hid (∀ v', v' = truthP (decide (0 ≤ g) && decide (g < c)) → MSt (((w2.setCell ⟨m, a, none⟩ (.int .i32 v')).setCell ⟨p, 0, none⟩ (.int .i64 (pc + 1))).drew) p m k (pc + 1) (wx xs a (truthP (decide (0 ≤ g) && decide (g < c)))) 0) := Lib.hid (by rintro _ rfl; exact ((H2.out.setMem (by omega) _).setPc _).drew)
  have Hz := Lib.hid hz
  go_wp2
  go_end0
  exact ⟨rfl, key.out _ (by rw [Hz.out]; simp), ((HB.out.setCell (by simp) _).setCell (by simp) _).drew⟩
end Go.Proofs.YteecpkkgjioplaaDoor

/- step: what it does is what the plain step says. -/
namespace Go.Proofs.YteecpkkgjioplaaDoor
open Go.RowKit Go

set_option maxRecDepth 100000 in
set_option maxHeartbeats 1000000 in
theorem step_none (p m k tb pc : Nat) (xs : List Int) (l : List Ins) (v : Value) (w : World) (h : Pre w p m k tb pc xs l v) (hi : nextP l pc xs.length = none) :
    Calls Tryd.prog 32 #[.pointer (some ⟨p, 0, none⟩), v, .map (some tb)] w fun e w' => e = .returned (.tuple #[]) ∧ MSt w' p m k pc xs 2 ∧ But2 p m w w' := by
  have hP := Lib.hid h
  go_enter Tryd.func32, Tryd.ntmps32
  go_wp2_with fail
  refine (next_no p m k pc xs l v w h.st h.ops h.code h.ll hi).mono ?_
  rintro e w1 ⟨rfl, hb1⟩
  have h1 := h.st.below h.x0 hb1
  have H1 := Lib.hid h1
  obtain ⟨⟨s0, s1, s2⟩, hcs, zp, zm, hne⟩ := h1
  have hlp := cell_lt s0
  have HB : Hid (But2 p m w w1) := Lib.hid (But2.of_below hb1)
  clear h hb1 hi hcs
  unfold zeroI
  go_wp2
  refine bodyPost_ret (results_none rfl _ _ _) rfl ?_
  refine ⟨rfl, ?_, ?_⟩
  · exact (H1.out.setHalt _).below hP.out.x0 (below_alloc1 _ _)
  · exact (HB.out.setCell (by simp) _).alloc _
theorem farC_cases (n : Nat) (pl : Int) : farC n pl = -1 ∨ ∃ f : Nat, farC n pl = f ∧ f < n := by
  unfold farC
  split
  · exact .inl rfl
  · by_cases h : 0 ≤ pl
    · obtain ⟨f, rfl⟩ := Int.eq_ofNat_of_zero_le h
      exact .inr ⟨f, by omega, by omega⟩
    · exact .inl (by omega)
/-- THE STEP. -/
theorem step_any (p m k tb pc : Nat) (xs : List Int) (l : List Ins) (v : Value) (w : World) (h : Pre w p m k tb pc xs l v) :
    Calls Tryd.prog 32 #[.pointer (some ⟨p, 0, none⟩), v, .map (some tb)] w fun e w' => e = .returned (.tuple #[]) ∧ MSt w' p m k (stepP l pc xs).1 (stepP l pc xs).2.1 (stepP l pc xs).2.2 ∧ But2 p m w w' := by
  unfold stepP
  split
  · rename_i hi
    exact step_none p m k tb pc xs l v w h hi
  · rename_i i hi
    obtain ⟨o, a, b, c⟩ := i
    obtain ⟨hr, hpc⟩ := nextP_right hi
    obtain ⟨ho0, ho1⟩ := right_o hr
    simp only at ho0 ho1 hr
    have hcase : o = 0 ∨ o = 1 ∨ o = 2 ∨ o = 3 ∨ o = 4 ∨ o = 5 ∨ o = 6 ∨ o = 7 ∨ o = 8 ∨ o = 9 ∨ o = 10 ∨ o = 11 ∨ o = 12 ∨ o = 13 ∨ o = 14 ∨ o = 15 ∨ o = 16 ∨ o = 17 ∨ o = 18 ∨ o = 19 ∨ o = 20 ∨ o = 21 := by omega
    rcases hcase with rfl | rfl | rfl | rfl | rfl | rfl | rfl | rfl | rfl | rfl | rfl | rfl | rfl | rfl | rfl | rfl | rfl | rfl | rfl | rfl | rfl | rfl
    · refine (step_0 p m k tb pc xs l v a b c w h hi).mono ?_
      rintro e w' ⟨he, hm, _, hb⟩
      exact ⟨he, by simpa [actP] using hm, hb⟩
    · simpa [actP, pcP, memP] using step_1 p m k tb pc xs l v a b c w h hi
    · simpa [actP, pcP, memP] using step_2 p m k tb pc xs l v a b c w h hi
    · simpa [actP, pcP, memP] using step_3 p m k tb pc xs l v a b c w h hi
    · simpa [actP, pcP, memP] using step_4 p m k tb pc xs l v a b c w h hi
    · simpa [actP, pcP, memP] using step_5 p m k tb pc xs l v a b c w h hi
    · simpa [actP, pcP, memP] using step_6 p m k tb pc xs l v a b c w h hi
    · simpa [actP, pcP, memP] using step_7 p m k tb pc xs l v a b c w h hi
    · simpa [actP, pcP, memP] using step_8 p m k tb pc xs l v a b c w h hi
    · simpa [actP, pcP, memP] using step_9 p m k tb pc xs l v a b c w h hi
    · simpa [actP, pcP, memP] using step_10 p m k tb pc xs l v a b c w h hi
    · simpa [actP, pcP, memP] using step_11 p m k tb pc xs l v a b c w h hi
    · simpa [actP, pcP, memP] using step_12 p m k tb pc xs l v a b c w h hi
    · simpa [actP, pcP, memP] using step_13 p m k tb pc xs l v a b c w h hi
    · simpa [actP, pcP, memP] using step_14 p m k tb pc xs l v a b c w h hi
    · rcases farC_cases xs.length (b + gx xs c) with hf | ⟨f, hf, hlt⟩
      · simpa [actP, pcP, memP, farI, hf] using step_15n p m k tb pc xs l v a b c w h hi (by simp [farI, hf])
      · have : ¬ (f : Int) < 0 := by omega
        simpa [actP, pcP, memP, farI, hf, this] using step_15 p m k tb pc xs l v a b c w h hi f (by simp [farI, hf]) hlt
    · rcases farC_cases xs.length (a + gx xs b) with hf | ⟨f, hf, hlt⟩
      · simpa [actP, pcP, memP, farI, hf] using step_16n p m k tb pc xs l v a b c w h hi (by simp [farI, hf])
      · have : ¬ (f : Int) < 0 := by omega
        simpa [actP, pcP, memP, farI, hf, this] using step_16 p m k tb pc xs l v a b c w h hi f (by simp [farI, hf]) hlt
    · simpa [actP, pcP, memP] using step_17 p m k tb pc xs l v a b c w h hi
    · by_cases hg : gx xs b < 0
      · simpa [actP, pcP, memP] using step_18n p m k tb pc xs l v a b c w h hi _ rfl hg
      · simpa [actP, pcP, memP] using step_18y p m k tb pc xs l v a b c w h hi _ rfl (by omega)
    · simpa [actP, pcP, memP] using step_19 p m k tb pc xs l v a b c w h hi
    · by_cases hz : gx xs b = 0
      · simpa [actP, pcP, memP, hz] using step_20z p m k tb pc xs l v a b c w h hi hz
      · simpa [actP, pcP, memP, hz] using step_20n p m k tb pc xs l v a b c w h hi hz
    · by_cases hz : gx xs b = 0
      · simpa [actP, pcP, memP, hz] using step_21z p m k tb pc xs l v a b c w h hi hz
      · simpa [actP, pcP, memP, hz] using step_21n p m k tb pc xs l v a b c w h hi hz
end Go.Proofs.YteecpkkgjioplaaDoor
