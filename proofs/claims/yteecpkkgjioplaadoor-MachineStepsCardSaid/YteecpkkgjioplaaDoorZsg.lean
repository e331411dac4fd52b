/- MachineSteps: for every code and state handed in, one step of the machine and one of the reference leave states that read alike, and the law returns true; what was there before the call reads as it did. Condition: the table code.operations holds what the program's text lays. -/
import Derived.Below
import Derived.Tactics2
import Derived.StillTactics
import Derived.OwnWalk
import Derived.Laws.Pointers
import Derived.Deep.RegionHeld3
import Derived.Deep.AppendLies
import Derived.KernelRfl
import Derived.LoopN
import Derived.Test.YteecpkkgjioplaaDoorRows
import Derived.ProofKit
import Derived.LaidMore
import Derived.OpenShut
import Derived.Stop.Joined
import Derived.Lib.SmallJoins
import Derived.Deep.Slices
import Derived.Test.YteecpkkgjioplaaDoorCards
import Derived.Test.YteecpkkgjioplaaDoorTie
import Derived.SevenTiedAt
import Derived.Test.YteecpkkgjioplaaDoorZsa
import Derived.Test.YteecpkkgjioplaaDoorZsb
import Derived.Test.YteecpkkgjioplaaDoorZse
import Derived.Test.YteecpkkgjioplaaDoorZsf

/- A closed run: what it begins with, and what it says. -/
namespace Go.Proofs.YteecpkkgjioplaaDoor
open Go.RowKit Go

def isTrue : Option (SV × St) → Bool
  | some (.bool true, _) => true
  | _ => false
theorem isTrue_out {x : Option (SV × St)} (h : isTrue x = true) : ∃ s, x = some (.bool true, s) := by
  match x, h with
  | some (.bool true, s), _ => exact ⟨s, rfl⟩

/-- The functions of a list, each under its number. -/
def putFns : List (Nat × Func) → Tr Func → Tr Func
  | [], t => t
  | (i, fn) :: r, t => putFns r (t.set i (some fn))
def fnsT (t : Tr Func) : Fns := fun f =>
  match t.get f with
  | none => none
  | some fn => match fn.body with
    | none => none
    | some c => some (fn, c)
theorem putFns_get : ∀ (l : List (Nat × Func)) (t : Tr Func) (f : Nat) (fn : Func), (putFns l t).get f = some fn → (f, fn) ∈ l ∨ t.get f = some fn
  | [], t, f, fn, h => Or.inr h
  | (i, g) :: r, t, f, fn, h => by
    rcases putFns_get r _ f fn h with h | h
    · exact Or.inl (List.mem_cons_of_mem _ h)
    · rw [Tr.get_set] at h
      split at h
      · rename_i e
        obtain rfl := Option.some.inj h
        rw [e]
        exact Or.inl List.mem_cons_self
      · exact Or.inr h
/-- What is asked of each function of the list. -/
def FnAt (P : Program) (p : Nat × Func) : Prop := P.funcs[p.1]? = some p.2 ∧ (p.2.name == "runtime.NumGoroutine") = false
theorem fnsOk_of {P : Program} {l : List (Nat × Func)} (h : ∀ p ∈ l, FnAt P p) : FnsOk P (fnsT (putFns l .nil)) := by
  intro f fn c e
  unfold fnsT at e
  cases hg : (putFns l .nil).get f with
  | none => simp [hg] at e
  | some g =>
    cases hb : g.body with
    | none => simp [hg, hb] at e
    | some d =>
      simp only [hg, hb, Option.some.injEq, Prod.mk.injEq] at e
      obtain ⟨rfl, rfl⟩ := e
      rcases putFns_get l .nil f g hg with h1 | h1
      · exact ⟨(h _ h1).1, hb, (h _ h1).2⟩
      · simp [Tr.get] at h1

/-- Global variables whose cells are known at the start: the block, and what it holds. -/
abbrev Lays := List (Nat × List SV)
def sizeAt (w : World) (g : Nat) : Nat :=
  match w.heap[g]? with
  | some (.cells arr _ _) => arr.size
  | _ => 0
def laysEnv (w : World) (gs : Lays) : Env := fun m => (gs[m]?).map fun p => ⟨p.1, sizeAt w p.1⟩
def laysHp : Lays → Nat → Hp → Hp
  | [], _, t => t
  | (_, l) :: r, i, t => laysHp r (i + 1) (t.set i (some (.cells l false true)))
def laysGl : Lays → Nat → Nat → Option Nat
  | [], _, _ => none
  | (g, _) :: r, i, x => bif Nat.beq g x then some i else laysGl r (i + 1) x
def laysSt (gs : Lays) : St := ⟨gs.length, laysHp gs 0 .nil, 0, 0⟩
def LaysAt (w : World) (gs : Lays) : Prop := ∀ p ∈ gs, ∃ arr ty fz vs, w.heap[p.1]? = some (.cells arr ty fz) ∧ SV.vals (laysEnv w gs) p.2 = some vs ∧ ∀ (i : Nat) (v : Value), vs[i]? = some v → arr[i]? = some v

theorem laysHp_get : ∀ (gs : Lays) (i : Nat) (t : Hp) (k : Nat), (laysHp gs i t).get k = if i ≤ k ∧ k < i + gs.length then (gs[k - i]?).map (fun p => Chunk.cells p.2 false true) else t.get k
  | [], i, t, k => by simp [laysHp]; omega
  | (g, l) :: r, i, t, k => by
    simp only [laysHp]
    rw [laysHp_get r (i + 1) _ k, Tr.get_set]
    simp only [List.length_cons]
    by_cases h1 : k = i
    · subst h1
      rw [if_neg (by omega), if_pos rfl, if_pos (by omega)]
      simp
    · by_cases h2 : i + 1 ≤ k ∧ k < i + 1 + r.length
      · rw [if_pos h2, if_pos (by omega)]
        obtain ⟨j, rfl⟩ : ∃ j, k = i + 1 + j := ⟨k - (i + 1), by omega⟩
        rw [show i + 1 + j - i = j + 1 by omega, show i + 1 + j - (i + 1) = j by omega]
        simp
      · rw [if_neg h2, if_neg h1, if_neg (by omega)]
theorem laysGl_ok : ∀ (gs : Lays) (i g n : Nat), laysGl gs i g = some n → ∃ l, i ≤ n ∧ gs[n - i]? = some (g, l)
  | [], i, g, n, h => by simp [laysGl] at h
  | (g', l) :: r, i, g, n, h => by
    simp only [laysGl] at h
    cases hb : Nat.beq g' g with
    | true =>
      simp only [hb, cond_true, Option.some.injEq] at h
      subst h
      exact ⟨l, Nat.le_refl _, by simp [Nat.eq_of_beq_eq_true hb]⟩
    | false =>
      simp only [hb, cond_false] at h
      obtain ⟨m, h1, h2⟩ := laysGl_ok r (i + 1) g n h
      refine ⟨m, by omega, ?_⟩
      rw [show n - i = (n - (i + 1)) + 1 by omega]
      simpa using h2

theorem laysSt_wf (gs : Lays) : (laysSt gs).wf := by
  intro n hn
  simp only [laysSt] at hn ⊢
  rw [laysHp_get, if_neg (by omega)]
  rfl
theorem laysEnv_none {w : World} {gs : Lays} {m : Nat} (h : (laysSt gs).nm ≤ m) : laysEnv w gs m = none := by
  simp only [laysSt] at h
  simp [laysEnv, h]
theorem lays_sim {w : World} {gs : Lays} (h : LaysAt w gs) : Sim ⟨w, fun _ => False, laysGl gs 0⟩ (laysEnv w gs) (laysSt gs).hp w := by
  refine ⟨Nat.le_refl _, rfl, rfl, rfl, fun _ _ _ => rfl, fun n c hc => ?_, fun g n hg => ?_, fun n m c d p q hc hd hr => ?_⟩
  · simp only [laysSt, laysHp_get, Nat.zero_le, true_and, Nat.zero_add, Nat.sub_zero] at hc
    split at hc
    · cases hp : gs[n]? with
      | none => simp [hp] at hc
      | some p =>
        simp only [hp, Option.map_some, Option.some.injEq] at hc
        subst hc
        obtain ⟨arr, ty, fz, vs, h1, h2, h3⟩ := h p (List.mem_of_getElem? hp)
        have hsz : sizeAt w p.1 = arr.size := by simp [sizeAt, h1]
        refine ⟨⟨p.1, arr.size⟩, by simp [laysEnv, hp, hsz], ⟨_, h1, arr, ty, fz, rfl, rfl, fun e => by simp at e, ?_, fun e => by simp at e, vs, h2, h3⟩, fun e => by simp [Chunk.ro] at e, fun _ => ⟨(Array.getElem?_eq_some_iff.1 h1).1, fun e => e⟩⟩
        have hl := SV.vals_len h2
        rw [← hl]
        show vs.length ≤ arr.size
        rcases Nat.lt_or_ge arr.size vs.length with hlt | hge
        · have := h3 arr.size vs[arr.size] (List.getElem?_eq_getElem hlt)
          simp at this
        · exact hge
    · simp [Tr.get] at hc
  · obtain ⟨l, _, h2⟩ := laysGl_ok gs 0 g n hg
    have h2' : gs[n]? = some (g, l) := h2
    exact ⟨sizeAt w g, by simp only [laysEnv, h2', Option.map_some]⟩
  · simp only [laysSt, laysHp_get, Nat.zero_le, true_and, Nat.zero_add, Nat.sub_zero] at hc
    split at hc
    · cases hp : gs[n]? with
      | none => simp [hp] at hc
      | some p =>
        simp only [hp, Option.map_some, Option.some.injEq] at hc
        subst hc
        simp [Chunk.ro] at hr
    · simp [Tr.get] at hc

theorem Sim.kept {w w' : World} {gl : Nat → Option Nat} {ρ : Env} {hp : Hp} (h : Sim ⟨w, fun _ => False, gl⟩ ρ hp w') : Below w.heap.size w w' :=
  ⟨h.os, h.tape, h.output, h.size, fun k hk => h.frame k hk fun e => e⟩

/-- A RUN THAT ENDS IN true, AND TOUCHES NOTHING THAT WAS THERE. -/
theorem closed_run {P : Program} {fns : Fns} {F n f : Nat} {gs : Lays} {w : World} (hm : P.follows .mixedOrders = true) (hfn : FnsOk P fns) (hg : LaysAt w gs) (h : isTrue (callE P (laysGl gs 0) fns F n f [] (laysSt gs)) = true) :
    Calls P f #[] w fun e w' => e = .returned (.bool true) ∧ Below w.heap.size w w' := by
  obtain ⟨s', hs'⟩ := isTrue_out h
  refine ((callE_ok hm hfn n ⟨w, fun _ => False, laysGl gs 0⟩ rfl f [] (laysSt gs) s' _ [] (laysEnv w gs) w (laysSt_wf gs) hs' rfl (fun m a _ => laysEnv_none a) (lays_sim hg)).2).mono fun e w' hh => ?_
  obtain ⟨v, rfl, ρ', _, _, hv, hsim⟩ := hh
  simp only [SV.val, Option.some.injEq] at hv
  subst hv
  exact ⟨rfl, hsim.kept⟩
end Go.Proofs.YteecpkkgjioplaaDoor

/- One function's run, its calls told by contracts. -/
namespace Go.Proofs.YteecpkkgjioplaaDoor
open Go.RowKit Go

def bodyC (fn : Func) : Code :=
  match fn.body with
  | some c => c
  | none => .skip
/-- One function, its calls by 'call'. -/
def enterE (P : Program) (gl : Nat → Option Nat) (call : CallE) (F : Nat) (fn : Func) (l : List SV) (s : St) : Option (SV × St) :=
  match codeE P gl call F (bodyC fn) (tm0 fn.ntmps l) s with
  | none => none
  | some (x, s1) => doneS P fn.results x s1

theorem Sim.below {B : Base} {ρ : Env} {hp : Hp} {w w' : World} (h : Sim B ρ hp w) (hb : Below w.heap.size w w') : Sim B ρ hp w' := by
  refine ⟨Nat.le_trans h.size hb.size, hb.tape.trans h.tape, hb.os.trans h.os, hb.output.trans h.output, fun k hk hM => (hb.block k (by have := h.size; omega)).trans (h.frame k hk hM), fun n c hc => ?_, h.gl, h.inj⟩
  obtain ⟨p, hp, ⟨o, ho, hob⟩, h3, h4⟩ := h.own n c hc
  exact ⟨p, hp, ⟨o, (hb.block _ (Array.getElem?_eq_some_iff.1 ho).1).trans ho, hob⟩, h3, h4⟩

theorem enterE_loc {P : Program} {gl : Nat → Option Nat} {call : CallE} {F : Nat} (hl : ∀ f l, Loc (call f l)) (fn : Func) (l : List SV) : Loc (enterE P gl call F fn l) := by
  refine (Loc.bind (codeE_loc (P := P) (gl := gl) (F := F) hl (bodyC fn) (tm0 fn.ntmps l)) (h := fun x s1 => doneS P fn.results x s1) fun x => doneS_loc fn.results x).congr fun s => ?_
  simp only [enterE]
  cases codeE P gl call F (bodyC fn) (tm0 fn.ntmps l) s with
  | none => rfl
  | some y => rfl
/-- WHAT ONE FUNCTION'S RUN SAYS OF THE MACHINE. -/
theorem enterE_ok {P : Program} {B : Base} {call : CallE} {F : Nat} (hm : P.follows .mixedOrders = true) (hl : ∀ f l, Loc (call f l)) (hc : CallOk P B.gl call) {f : Nat} {fn : Func} (hf : P.funcs[f]? = some fn) (hb : fn.body.isSome = true)
    {l : List SV} {s s' : St} {r : SV} {vs : List Value} {ρ : Env} {w : World} (hwf : s.wf) (e : enterE P B.gl call F fn l s = some (r, s')) (hvs : SV.vals ρ l = some vs) (hn : ∀ m, s.nm ≤ m → m < s'.nm → ρ m = none) (hs : Sim B ρ s.hp w) :
    Calls P f vs.toArray w fun e w' => ∃ v, e = .returned v ∧ Out B ρ s.nm s'.nm s'.hp r v w' := by
  unfold enterE at e
  have hb' : fn.body = some (bodyC fn) := by
    unfold bodyC
    cases h : fn.body with
    | none => simp [h] at hb
    | some c => rfl
  cases hcode : codeE P B.gl call F (bodyC fn) (tm0 fn.ntmps l) s with
  | none => rw [hcode] at e; cases e
  | some y =>
    obtain ⟨⟨ex, tm'⟩, s1⟩ := y
    rw [hcode] at e
    simp only at e
    obtain ⟨hwf1, _, _, T1⟩ := codeE_loc (P := P) (gl := B.gl) (F := F) hl (bodyC fn) (tm0 fn.ntmps l) s _ s1 hwf hcode
    obtain ⟨_, _, _, T2⟩ := doneS_loc (P := P) fn.results (ex, tm') s1 _ s' hwf1 e
    have n1 := T1.nm
    have n2 := T2.nm
    refine calls_of_wp hf hb' ?_
    refine codeE_ok hm hl hc (bodyC fn) B rfl _ tm' s s1 ex ρ _ w hwf hcode (fun m p q => hn m p (by omega)) hs (tm0_rel hvs []) _ fun a' w' hlv => ?_
    obtain ⟨ρ', g1, g2, g3, g4, g5⟩ := hlv
    exact doneS_ok g1 g2 g3 g4 g5 e
/-- The same at a world of which nothing is to be written. -/
theorem enterE_kept {P : Program} {call : CallE} {F : Nat} {gs : Lays} {w : World} (hm : P.follows .mixedOrders = true) (hl : ∀ f l, Loc (call f l)) (hc : CallOk P (laysGl gs 0) call) {f : Nat} {fn : Func} (hf : P.funcs[f]? = some fn) (hb : fn.body.isSome = true)
    {l : List SV} {s' : St} {r : SV} {vs : List Value} (hg : LaysAt w gs) (e : enterE P (laysGl gs 0) call F fn l (laysSt gs) = some (r, s')) (hvs : SV.vals (laysEnv w gs) l = some vs) :
    Calls P f vs.toArray w fun e w' => ∃ v, e = .returned v ∧ Out ⟨w, fun _ => False, laysGl gs 0⟩ (laysEnv w gs) (laysSt gs).nm s'.nm s'.hp r v w' ∧ Below w.heap.size w w' := by
  refine (enterE_ok (B := ⟨w, fun _ => False, laysGl gs 0⟩) hm hl hc hf hb (laysSt_wf gs) e hvs (fun m a _ => laysEnv_none a) (lays_sim hg)).mono fun e w' hh => ?_
  obtain ⟨v, rfl, ho⟩ := hh
  have ho' := ho
  obtain ⟨_, _, _, _, hsim⟩ := ho
  exact ⟨v, rfl, ho', hsim.kept⟩
end Go.Proofs.YteecpkkgjioplaaDoor

/- baizeref15.Step: a state without memory. -/
namespace Go.Proofs.YteecpkkgjioplaaDoor
open Go.RowKit Go
set_option maxRecDepth 100000

/-- Right of a state without memory. -/
def rightS : List SV → Option SV
  | [.agg [.int .i64 _, .nils, .int .i64 _]] => some (.bool false)
  | _ => none
def call20 : CallE := fun f l s => bif Nat.beq f 20 then (match rightS l with | some x => some (x, s) | none => none) else none
theorem call20_loc (f : FuncId) (l : List SV) : Loc (call20 f l) := by
  cases h1 : Nat.beq f 20 with
  | false => exact Loc.fail.congr fun s => by simp [call20, h1]
  | true =>
    cases h2 : rightS l with
    | none => exact Loc.fail.congr fun s => by simp [call20, h1, h2]
    | some x => exact (Loc.pure x).congr fun s => by simp [call20, h1, h2]
theorem call20_ok {gl : Nat → Option Nat} : CallOk Tryd.prog gl call20 := by
  intro B hgl f l s s' r vs ρ w hwf e hvs hf hs
  unfold call20 at e
  cases h1 : Nat.beq f 20 with
  | false => simp [h1] at e
  | true =>
    obtain rfl := Nat.eq_of_beq_eq_true h1
    simp only [h1, cond_true] at e
    unfold rightS at e
    split at e
    · rename_i x hx
      split at hx
      · rename_i a b
        simp only [Option.some.injEq, Prod.mk.injEq] at e hx
        obtain ⟨rfl, rfl⟩ := e
        subst hx
        simp only [SV.vals, SV.val, Option.map_some, Option.some.injEq] at hvs
        subst hvs
        refine ⟨run_enter Tryd.func20 (c := bodyC Tryd.f20) (by kernel_rfl) (by kernel_rfl) _ w, (rright_any a b none 0 0 w).mono fun e w' hh => ?_⟩
        obtain ⟨rfl, hb⟩ := hh
        exact ⟨_, rfl, ρ, Env.le.refl ρ, fun n hn => Or.inl hn, by simp [rightSt, SV.val], hs.below hb⟩
      · cases hx
    · cases e

theorem run17_eq (pc halt : Int) (cv : Value) : (enterE Tryd.prog (laysGl [] 0) call20 300 Tryd.f17 [.raw cv, .agg [.int .i64 pc, .nils, .int .i64 halt]] (laysSt [])).map (·.1) = some (.agg [.int .i64 pc, .slc 2 1 0 0 (some 0), .int .i64 halt]) := by kernel_rfl

theorem rstep_nil (pc halt : Int) (cv : Value) (w : World) :
    Calls Tryd.prog 17 #[cv, .agg #[.int .i64 pc, .slice none 0 0, .int .i64 halt]] w fun e w' => StPost w (pc, [], halt) e w' := by
  have he := run17_eq pc halt cv
  cases h1 : enterE Tryd.prog (laysGl [] 0) call20 300 Tryd.f17 [.raw cv, .agg [.int .i64 pc, .nils, .int .i64 halt]] (laysSt []) with
  | none => rw [h1] at he; cases he
  | some y =>
    obtain ⟨r, s'⟩ := y
    rw [h1] at he
    simp only [Option.map_some, Option.some.injEq] at he
    subst he
    refine (enterE_kept (gs := []) rfl call20_loc call20_ok Tryd.func17 (by kernel_rfl) (fun p hp => by simp at hp) h1 (by simp [SV.vals, SV.val])).mono fun e w' hh => ?_
    obtain ⟨v, rfl, ⟨ρ', _, _, hv, _⟩, hb⟩ := hh
    simp only [SV.val, SV.vals] at hv
    cases hp : ρ' 2 with
    | none => simp [hp] at hv
    | some p =>
      simp only [hp, Option.map_some, Option.some.injEq, Option.getD_some] at hv
      subst hv
      refine ⟨_, rfl, ⟨⟨_, 0, rfl, by unfold maxLen; omega, fun _ => ⟨rfl, rfl⟩, fun ad _ hx => absurd rfl hx⟩, fun h => by simp at h⟩, hb⟩
end Go.Proofs.YteecpkkgjioplaaDoor

/- baizeref15.Step: any state. -/
namespace Go.Proofs.YteecpkkgjioplaaDoor
open Go.RowKit Go

theorem rstep_any (v mv : Value) (pc halt : Int) (xs : List Int) (l : List Ins) (w : World) (hx : I32s w mv xs) (hc : InsS w v l) (hl : l.length ≤ 300) (hxl : xs.length ≤ 300) (hW : W32 xs) :
    Calls Tryd.prog 17 #[v, stV pc mv halt] w fun e w' => StPost w (runM l 1 pc xs halt).1 e w' := by
  obtain ⟨a, cap, e1, _, h0, _⟩ := id hx
  subst e1
  cases a with
  | none =>
    obtain ⟨rfl, rfl⟩ := h0 rfl
    have hr : (runM l 1 pc [] halt).1 = (pc, [], halt) := by simp [runM, rightSt]
    rw [hr]
    exact rstep_nil pc halt v w
  | some ad =>
    by_cases hr : rightSt pc xs.length halt = true
    · by_cases hh : halt = 0
      · subst hh
        obtain ⟨_, _, hp0, _⟩ := rightSt_iff.1 hr
        obtain ⟨q, rfl⟩ := Int.eq_ofNat_of_zero_le hp0
        have hs : (runM l 1 q xs 0).1 = stepP l q xs := by
          have h1 : (min (1 : Int) 1048576).toNat = 1 := rfl
          simp [runM, hr, h1, runN]
        rw [hs]
        exact rstep_right q ad cap xs v l w hx hxl hr hc hl hW
      · have hs : (runM l 1 pc xs halt).1 = (pc, xs, halt) := by
          have h1 : (min (1 : Int) 1048576).toNat = 1 := rfl
          simp [runM, hr, h1, runN, hh]
        rw [hs]
        exact rstep_bad pc halt ad cap xs v w hx hxl (Or.inr hh)
    · have hr' : rightSt pc xs.length halt = false := by simpa using hr
      have hs : (runM l 1 pc xs halt).1 = (pc, xs, halt) := by simp [runM, hr']
      rw [hs]
      exact rstep_bad pc halt ad cap xs v w hx hxl (Or.inl hr')
end Go.Proofs.YteecpkkgjioplaaDoor

/- baizeref15.Run. -/
namespace Go.Proofs.YteecpkkgjioplaaDoor
open Go.RowKit Go

/-- What baizeref15.Run answers: as Run, but the state's words may be the argument's own. -/
def RRunPost (w : World) (r : (Int × List Int × Int) × Int × Bool) (e : Ending) (w' : World) : Prop :=
  ∃ v, e = .returned (.tuple #[stV r.1.1 v r.1.2.2, .int .i64 r.2.1, .bool r.2.2]) ∧ I32s w' v r.1.2.1 ∧ Below w.heap.size w w'
theorem step1 {l : List Ins} {q : Int} {xs : List Int} (hr : rightSt q xs.length 0 = true) : (runM l 1 q xs 0).1 = stepP l q xs := by
  have h1 : (min (1 : Int) 1048576).toNat = 1 := rfl
  simp [runM, hr, h1, runN]
theorem I32s.setOther {w : World} {v : Value} {xs : List Int} (h : I32s w v xs) {x : Addr} (hx : ∀ a n c, v = .slice (some a) n c → xs ≠ [] → x.block ≠ a.block) (u : Value) : I32s (w.setCell x u) v xs := by
  obtain ⟨a, cap, hv, hc, h0, h1⟩ := h
  refine ⟨a, cap, hv, hc, h0, fun ad ha hn => ?_⟩
  obtain ⟨hs, hl, hk⟩ := h1 ad ha hn
  refine ⟨hs, by simpa using hl, fun k h => ?_⟩
  subst ha
  rw [World.cell?_setCell_far _ _ _ _ (show x.block ≠ (⟨ad.block, ad.off + k, none⟩ : Addr).block from hx ad _ _ hv hn)]
  exact hk k h

theorem I32s.drew {w : World} {v : Value} {xs : List Int} (h : I32s w v xs) : I32s w.drew v xs := h
structure RAt (w wr : World) (q : Int) (vj : Value) (xsj : List Int) (hj : Int) : Prop where
  c0 : wr.cell? ⟨w.heap.size, 0, none⟩ = some (.int .i64 q)
  c1 : wr.cell? ⟨w.heap.size, 1, none⟩ = some vj
  c2 : wr.cell? ⟨w.heap.size, 2, none⟩ = some (.int .i64 hj)
  fz : ∀ i, wr.frozen? ⟨w.heap.size, i, none⟩ = false
  r : ∀ i, wr.cell? ⟨w.heap.size + 1, i, none⟩ = #[Value.int .i64 0, .slice none 0 0, .int .i64 0][i]?
  rz : ∀ i, wr.frozen? ⟨w.heap.size + 1, i, none⟩ = false
  low : Below w.heap.size w wr
  words : I32s wr vj xsj
  far : ∀ a n c, vj = .slice (some a) n c → xsj ≠ [] → w.heap.size + 1 ≠ a.block
  size : w.heap.size + 1 < wr.heap.size

theorem RAt.next {w wr w6 : World} {q q' : Int} {vj v6 : Value} {xsj xs6 : List Int} {hj h6 : Int} (H : RAt w wr q vj xsj hj) (hb : Below wr.heap.size wr w6) (hf : Fresh w6 wr.heap.size v6 xs6) :
    RAt w (((w6.setCell ⟨w.heap.size, 0, none⟩ (.int .i64 q')).setCell ⟨w.heap.size, 1, none⟩ v6).setCell ⟨w.heap.size, 2, none⟩ (.int .i64 h6)) q' v6 xs6 h6 := by
  have lsz := H.size
  have ls6 := hb.size
  have t0 : ∀ i, w6.cell? ⟨w.heap.size, i, none⟩ = wr.cell? ⟨w.heap.size, i, none⟩ := fun i => hb.cell (p := ⟨w.heap.size, i, none⟩) (by show w.heap.size < _; omega)
  have q0 := (t0 0).trans H.c0
  have q1 := (t0 1).trans H.c1
  have q2 := (t0 2).trans H.c2
  clear t0
  have qz : ∀ i, w6.frozen? ⟨w.heap.size, i, none⟩ = false := fun i => (hb.frozen (p := ⟨w.heap.size, i, none⟩) (by show w.heap.size < _; omega)).trans (H.fz i)
  have r6 : ∀ i, w6.cell? ⟨w.heap.size + 1, i, none⟩ = #[Value.int .i64 0, .slice none 0 0, .int .i64 0][i]? := fun i => (hb.cell (p := ⟨w.heap.size + 1, i, none⟩) (by show w.heap.size + 1 < _; omega)).trans (H.r i)
  have rz : ∀ i, w6.frozen? ⟨w.heap.size + 1, i, none⟩ = false := fun i => (hb.frozen (p := ⟨w.heap.size + 1, i, none⟩) (by show w.heap.size + 1 < _; omega)).trans (H.rz i)
  refine ⟨by go_simp, by go_simp, by go_simp, fun i => by simpa using qz i, fun i => ?_, fun i => by simpa using rz i, ?_, ?_, ?_, by simp; omega⟩
  · rw [World.cell?_setCell_far _ _ _ _ (by simp <;> omega), World.cell?_setCell_far _ _ _ _ (by simp <;> omega), World.cell?_setCell_far _ _ _ _ (by simp <;> omega)]
    exact r6 i
  · exact (((H.low.trans (hb.mono (by omega))).setCell (by simp) _).setCell (by simp) _).setCell (by simp) _
  · exact (((hf.setOther (show w.heap.size < _ by omega) _).setOther (show w.heap.size < _ by omega) _).setOther (show w.heap.size < _ by omega) _).1
  · intro a n c e hn
    obtain ⟨g, cap, e2, hg, _⟩ := hf.2 (List.length_pos_iff.2 hn)
    rw [e2] at e
    simp only [Value.slice.injEq, Option.some.injEq] at e
    obtain ⟨rfl, _⟩ := e
    show w.heap.size + 1 ≠ g
    omega

set_option maxRecDepth 100000 in
set_option maxHeartbeats 4000000 in
theorem rrun_any (v mv : Value) (pc halt : Int) (xs : List Int) (l : List Ins) (most : Int) (w : World) (hx : I32s w mv xs) (hc : InsS w v l) (hl : l.length ≤ 300) (hxl : xs.length ≤ 300) (hW : W32 xs) :
    Calls Tryd.prog 19 #[v, stV pc mv halt, .int .i64 most] w fun e w' => RRunPost w (runM l most pc xs halt) e w' := by
  obtain ⟨a, cap, e1, _, h0, _⟩ := id hx
  have Hx := Lib.hid hx
  have Hc := Lib.hid hc
  have Hfar : Hid (∀ a n c, mv = .slice (some a) n c → xs ≠ [] → w.heap.size + 1 ≠ a.block) := Lib.hid fun a n c e hn => by
    obtain ⟨a', cap', e', _, _, h1⟩ := hx
    subst e'
    simp only [Value.slice.injEq] at e
    obtain ⟨rfl, _, _⟩ := e
    have := (h1 a rfl hn).2.1
    omega
  subst e1
  clear hx hc h0
  generalize hR : runM l most pc xs halt = R
  have HR := Lib.hid hR
  clear hR
  rw [stV_def]
  go_enter Tryd.func19, Tryd.ntmps19
  go_wp2_with fail
  refine (rright_any pc halt _ _ _ _).mono ?_
  rintro e w4 ⟨rfl, hb4⟩
  have hs4 := hb4.size
  simp at hs4
  have m0 : w4.cell? ⟨w.heap.size, 0, none⟩ = some (.int .i64 pc) := (hb4.cell (p := ⟨w.heap.size, 0, none⟩) (by simp; omega)).trans (by go_simp)
  have m1 : w4.cell? ⟨w.heap.size, 1, none⟩ = some (.slice a xs.length cap) := (hb4.cell (p := ⟨w.heap.size, 1, none⟩) (by simp; omega)).trans (by go_simp)
  have m2 : w4.cell? ⟨w.heap.size, 2, none⟩ = some (.int .i64 halt) := (hb4.cell (p := ⟨w.heap.size, 2, none⟩) (by simp; omega)).trans (by go_simp)
  have r4 : ∀ i, w4.cell? ⟨w.heap.size + 1, i, none⟩ = #[Value.int .i64 0, .slice none 0 0, .int .i64 0][i]? := fun i => (hb4.cell (p := ⟨w.heap.size + 1, i, none⟩) (by simp)).trans (by go_simp)
  have z4 : ∀ i, w4.frozen? ⟨w.heap.size, i, none⟩ = false := fun i => (hb4.frozen (p := ⟨w.heap.size, i, none⟩) (by simp; omega)).trans (by go_simp)
  have zr : ∀ i, w4.frozen? ⟨w.heap.size + 1, i, none⟩ = false := fun i => (hb4.frozen (p := ⟨w.heap.size + 1, i, none⟩) (by simp)).trans (by go_simp)
  have L4 : Below w.heap.size w w4 := (below_alloc2 w _ _).trans (hb4.mono (by simp; omega))
  have hRA : RAt w w4 pc (.slice a xs.length cap) xs halt := ⟨m0, m1, m2, z4, r4, zr, L4, Hx.out.below L4 (Nat.le_refl _), Hfar.out, by omega⟩
  have HA := Lib.hid hRA
  clear hb4 hRA L4
  cases hr : rightSt pc xs.length halt
  · have hm : runM l most pc xs halt = ((pc, xs, halt), 0, false) := by simp [runM, hr]
    obtain rfl : R = ((pc, xs, halt), 0, false) := HR.out.symm.trans hm
    clear hm hr
    go_wp2
    refine bodyPost_ret (v := .tuple #[.agg #[.int .i64 pc, .slice a xs.length cap, .int .i64 halt], .int .i64 0, .bool false]) (by simp [results, Tryd.results19, go_sem, *]) rfl ?_
    refine ⟨_, rfl, ?_, ?_⟩
    · exact ((HA.out.words.setOther HA.out.far _).setOther HA.out.far _).setOther HA.out.far _
    · exact ((HA.out.low.setCell (by simp) _).setCell (by simp) _).setCell (by simp) _
  · obtain ⟨hn1, hn2, hp0, hp1, hh0, hh1⟩ := rightSt_iff.1 hr
    have Hr := Lib.hid hr
    clear m0 m1 m2 r4 z4 zr hr
    have Hlen : Hid (runM l most pc xs halt = ((runN l (min most 1048576).toNat pc xs halt).1, ((runN l (min most 1048576).toNat pc xs halt).2 : Int), (runN l (min most 1048576).toNat pc xs halt).1.2.2 != 0)) := Lib.hid (by simp [runM, Hr.out])
    obtain ⟨N, hN⟩ : ∃ N, N = (min most 1048576).toNat := ⟨_, rfl⟩
    have HN := Lib.hid hN
    clear hN
    go_wp2_with fail
    go_loopw [9] (fun v wr => ∃ (j : Nat) (q : Int) (xsj : List Int) (hj : Int) (vj : Value), v = .int .i64 j ∧ j ≤ N ∧ Hid (RAt w wr q vj xsj hj ∧ rightSt q xsj.length hj = true ∧ W32 xsj ∧ xsj.length = xs.length ∧
        runN l N pc xs halt = ((runN l (N - j) q xsj hj).1, j + (runN l (N - j) q xsj hj).2))) (fun v _ => N - (intOf v).toNat)
    case atStart => exact ⟨0, pc, xs, halt, _, rfl, by omega, Lib.hid ⟨HA.out, Hr.out, hW, rfl, by simp⟩⟩
    case round =>
      obtain ⟨j, q, xsj, hj, vj, rfl, hjN, HJ⟩ := hrel
      have s0 := HJ.out.1.c0
      have s1 := HJ.out.1.c1
      have s2 := HJ.out.1.c2
      have sz := HJ.out.1.fz
      have lsz := HJ.out.1.size
      by_cases hgo : j < N ∧ hj = 0
      · obtain ⟨hlt, rfl⟩ := hgo
        have b1 : (j : Int) < most := by have := HN.out; omega
        have b2 : (j : Int) < 1048576 := by have := HN.out; omega
        have Hst := Lib.hid (rstep_any v vj q 0 xsj l wr HJ.out.1.words (Hc.out.below HJ.out.1.low (Nat.le_refl _)) hl (by rw [HJ.out.2.2.2.1]; exact hxl) HJ.out.2.2.1)
        go_wp2_with fail
        refine Hst.out.mono ?_
        rintro e w6 ⟨v6, rfl, hf6, hb6⟩
        rw [step1 HJ.out.2.1] at hf6 ⊢
        have hright := stepP_right (l := l) HJ.out.2.1 hl HJ.out.2.2.1
        have HS := Lib.hid (And.intro hf6 (And.intro hb6 hright))
        obtain ⟨a6, c6, e6⟩ := hf6.slice
        have t0 : ∀ i, w6.cell? ⟨w.heap.size, i, none⟩ = wr.cell? ⟨w.heap.size, i, none⟩ := fun i => hb6.cell (p := ⟨w.heap.size, i, none⟩) (by show w.heap.size < _; omega)
        have q0 : w6.cell? ⟨w.heap.size, 0, none⟩ = some (.int .i64 q) := (t0 0).trans s0
        have q1 : w6.cell? ⟨w.heap.size, 1, none⟩ = some vj := (t0 1).trans s1
        have q2 : w6.cell? ⟨w.heap.size, 2, none⟩ = some (.int .i64 0) := (t0 2).trans s2
        have qz : ∀ i, w6.frozen? ⟨w.heap.size, i, none⟩ = false := fun i => (hb6.frozen (p := ⟨w.heap.size, i, none⟩) (by show w.heap.size < _; omega)).trans (sz i)
        have ls6 := hb6.size
        clear hf6 hb6 hright t0 s0 s1 s2 sz
        subst e6
        rw [stV_def]
        go_wp2
        go_roundw
        case rel =>
          refine ⟨j + 1, (stepP l q xsj).1, (stepP l q xsj).2.1, (stepP l q xsj).2.2, .slice a6 (stepP l q xsj).2.1.length c6, by go_num, by omega, Lib.hid ⟨?_, HS.out.2.2.1, HS.out.2.2.2.1, HS.out.2.2.2.2.trans HJ.out.2.2.2.1, runN_next hlt HJ.out.2.2.2.2⟩⟩
          exact HJ.out.1.next HS.out.2.1 HS.out.1
        case measure => simp [intOf]; omega
      · have hend : runN l N pc xs halt = ((q, xsj, hj), j) := by
          rw [HJ.out.2.2.2.2]
          by_cases h0 : hj = 0
          · have : N - j = 0 := by have : ¬ j < N := fun h => hgo ⟨h, h0⟩; omega
            rw [this]
            rfl
          · rw [runN_stop _ _ _ _ _ h0]
            rfl
        have He := Lib.hid hend
        have rr := HJ.out.1.r
        have rz := HJ.out.1.rz
        obtain ⟨aj, cj, ej, _⟩ := id HJ.out.1.words
        clear hend
        subst ej
        by_cases b1 : (j : Int) < most
        · by_cases b2 : (j : Int) < 1048576
          · have b3 : (hj == 0) = false := by
              simp
              intro h0
              exact hgo ⟨by have := HN.out; omega, h0⟩
            go_wp2_with fail
            go_region
            go_wp2
            refine bodyPost_ret (v := .tuple #[.agg #[.int .i64 q, .slice aj xsj.length cj, .int .i64 hj], .int .i64 j, .bool (hj != 0)]) (by simp [results, Tryd.results19, go_sem, *]) rfl ?_
            obtain rfl : R = ((q, xsj, hj), (j : Int), hj != 0) := HR.out.symm.trans (Hlen.out.trans (by rw [← HN.out, He.out]))
            refine ⟨_, rfl, ?_, ?_⟩
            · exact (((HJ.out.1.words.setOther HJ.out.1.far _).setOther HJ.out.1.far _).setOther HJ.out.1.far _).drew
            · exact (((HJ.out.1.low.setCell (by simp) _).setCell (by simp) _).setCell (by simp) _).drew
          · go_wp2_with fail
            go_region
            go_wp2
            refine bodyPost_ret (v := .tuple #[.agg #[.int .i64 q, .slice aj xsj.length cj, .int .i64 hj], .int .i64 j, .bool (hj != 0)]) (by simp [results, Tryd.results19, go_sem, *]) rfl ?_
            obtain rfl : R = ((q, xsj, hj), (j : Int), hj != 0) := HR.out.symm.trans (Hlen.out.trans (by rw [← HN.out, He.out]))
            refine ⟨_, rfl, ?_, ?_⟩
            · exact (((HJ.out.1.words.setOther HJ.out.1.far _).setOther HJ.out.1.far _).setOther HJ.out.1.far _).drew
            · exact (((HJ.out.1.low.setCell (by simp) _).setCell (by simp) _).setCell (by simp) _).drew
        · go_wp2_with fail
          go_region
          go_wp2
          refine bodyPost_ret (v := .tuple #[.agg #[.int .i64 q, .slice aj xsj.length cj, .int .i64 hj], .int .i64 j, .bool (hj != 0)]) (by simp [results, Tryd.results19, go_sem, *]) rfl ?_
          obtain rfl : R = ((q, xsj, hj), (j : Int), hj != 0) := HR.out.symm.trans (Hlen.out.trans (by rw [← HN.out, He.out]))
          refine ⟨_, rfl, ?_, ?_⟩
          · exact (((HJ.out.1.words.setOther HJ.out.1.far _).setOther HJ.out.1.far _).setOther HJ.out.1.far _).drew
          · exact (((HJ.out.1.low.setCell (by simp) _).setCell (by simp) _).setCell (by simp) _).drew
end Go.Proofs.YteecpkkgjioplaaDoor

namespace Go.Proofs.YteecpkkgjioplaaDoor
open Go.RowKit Go
set_option maxRecDepth 100000

noncomputable def fl : List (Nat × Func) := [(11, Tryd.f11), (12, Tryd.f12), (13, Tryd.f13), (14, Tryd.f14), (15, Tryd.f15), (16, Tryd.f16), (17, Tryd.f17), (18, Tryd.f18), (19, Tryd.f19), (20, Tryd.f20), (21, Tryd.f21), (22, Tryd.f22), (23, Tryd.f23), (24, Tryd.f24), (25, Tryd.f25), (26, Tryd.f26), (27, Tryd.f27), (28, Tryd.f28), (29, Tryd.f29), (30, Tryd.f30), (31, Tryd.f31), (32, Tryd.f32), (33, Tryd.f33), (34, Tryd.f34), (35, Tryd.f35), (36, Tryd.f36), (37, Tryd.f37), (38, Tryd.f38), (39, Tryd.f39), (40, Tryd.f40), (41, Tryd.f41), (42, Tryd.f42), (43, Tryd.f43), (44, Tryd.f44), (45, Tryd.f45), (46, Tryd.f46), (47, Tryd.f47), (48, Tryd.f48), (49, Tryd.f49), (50, Tryd.f50), (51, Tryd.f51), (52, Tryd.f52), (53, Tryd.f53), (54, Tryd.f54), (55, Tryd.f55), (56, Tryd.f56), (57, Tryd.f57), (58, Tryd.f58), (59, Tryd.f59), (60, Tryd.f60), (61, Tryd.f61), (62, Tryd.f62), (63, Tryd.f63), (64, Tryd.f64), (65, Tryd.f65), (66, Tryd.f66)]
noncomputable def opsC (a : Nat → Value) : List SV := (List.range 22).flatMap fun n => [.raw (a n), .str ((hasL n).map UInt8.toNat)]
noncomputable def opsG (a : Nat → Value) : Lays := [(0, opsC a)]
theorem told_runs (a : Nat → Value) : isTrue (callE Tryd.prog (laysGl (opsG a) 0) (fnsT (putFns fl .nil)) 300 20 11 [] (laysSt (opsG a))) = true := by kernel_rfl

theorem fl_ok : ∀ p ∈ fl, FnAt Tryd.prog p := by
  unfold fl
  repeat' (first | (refine List.forall_mem_cons.2 ⟨⟨by kernel_rfl, by kernel_rfl⟩, ?_⟩) | exact fun _ h => absurd h (by simp))
theorem opsC_vals (ρ : Env) (a : Nat → Value) : SV.vals ρ (opsC a) = some ((List.range 22).flatMap fun n => [a n, .string (hasB n)]) := by
  unfold opsC
  generalize List.range 22 = l
  induction l with
  | nil => rfl
  | cons n l ih =>
    simp only [List.flatMap_cons]
    refine SV.vals_append (SV.vals_mk rfl (SV.vals_mk ?_ rfl)) ih
    simp only [SV.val, bytesOf, hasB, List.map_map]
    congr 4
    have : (UInt8.ofNat ∘ UInt8.toNat) = id := by funext x; simp
    rw [this, List.map_id]
theorem pairs_get (x y : Nat → Value) : ∀ (k i : Nat) (v : Value), ((List.range k).flatMap fun n => [x n, y n])[i]? = some v → ∃ n, n < k ∧ (i = n * 2 ∧ v = x n ∨ i = n * 2 + 1 ∧ v = y n)
  | 0, i, v, h => by simp at h
  | k + 1, i, v, h => by
    have hl : ∀ k, ((List.range k).flatMap fun n => [x n, y n]).length = k * 2 := by
      intro k
      induction k with
      | zero => rfl
      | succ k ih => rw [List.range_succ, List.flatMap_append, List.length_append, ih]; simp; omega
    rw [List.range_succ, List.flatMap_append, List.getElem?_append, hl] at h
    split at h
    · obtain ⟨n, hn, r⟩ := pairs_get x y k i v h
      exact ⟨n, by omega, r⟩
    · rename_i hi
      obtain ⟨j, rfl⟩ : ∃ j, i = k * 2 + j := ⟨i - k * 2, by omega⟩
      simp only [Nat.add_sub_cancel_left, List.flatMap_cons, List.flatMap_nil, List.append_nil] at h
      match j, h with
      | 0, h => exact ⟨k, by omega, Or.inl ⟨by omega, by simpa using h.symm⟩⟩
      | 1, h => exact ⟨k, by omega, Or.inr ⟨by omega, by simpa using h.symm⟩⟩
      | j + 2, h => simp at h
theorem ops_lays {w : World} (H : Ops w) : ∃ a, LaysAt w (opsG a) := by
  have h0 := H 0 (by omega)
  unfold World.cell? at h0
  split at h0
  · rename_i arr ty fz hh
    have hc : ∀ n, n < 22 → arr[n * 2 + 1]? = some (.string (hasB n)) := by
      intro n hn
      have := H n hn
      simpa [World.cell?, hh] using this
    refine ⟨fun n => arr.getD (n * 2) undef, ?_⟩
    intro p hp
    simp only [opsG, List.mem_singleton] at hp
    subst hp
    refine ⟨arr, ty, fz, _, hh, opsC_vals _ (fun n => arr.getD (n * 2) undef), ?_⟩
    intro i v hv
    obtain ⟨n, hn, ⟨rfl, rfl⟩ | ⟨rfl, rfl⟩⟩ := pairs_get _ _ 22 i v hv
    · have hlt : n * 2 + 1 < arr.size := (Array.getElem?_eq_some_iff.1 (hc n hn)).1
      simp [Array.getD_eq_getD_getElem?, Array.getElem?_eq_getElem (show n * 2 < arr.size by omega)]
    · exact hc n hn
  · cases h0
theorem told_any (w : World) (H : Ops w) : Calls Tryd.prog 11 #[] w fun e w' => e = .returned (.bool true) ∧ Below w.heap.size w w' := by
  obtain ⟨a, ha⟩ := ops_lays H
  exact closed_run rfl (fnsOk_of fl_ok) ha (told_runs a)
end Go.Proofs.YteecpkkgjioplaaDoor

/- OwnCode: instructions of the document, as the program's. -/
namespace Go.Proofs.YteecpkkgjioplaaDoor
open Go.RowKit Go
theorem infoB57 : (Tryd.prog.info? 57).map (fun i => (i.zero, i.size, i.bytes)) = some (some (.agg #[.int .i64 0, .int .i64 0, .int .i64 0, .int .i64 0]), 4, 32) := by kernel_rfl

set_option maxRecDepth 100000 in
set_option maxHeartbeats 2000000 in
theorem ownCode_any (b off cap : Nat) (l : List Ins) (w : World) (hc : InsAt w b off l) (hb : b < w.heap.size) (hl : l.length ≤ 300) (h0 : 0 < l.length) :
    Calls Tryd.prog 15 #[.slice (some ⟨b, off, none⟩) l.length cap] w fun e w' => ∃ v, e = .returned v ∧ w'.ownsRow w.heap.size 57 4 v l.length (codeCells l) ∧ Below w.heap.size w w' := by
  obtain ⟨i0, hi, hz0, hz1, hz2⟩ := info_parts infoB57
  go_enter Tryd.func15, Tryd.ntmps15
  go_wp2
  go_loopw [3, 4] (fun v i wr => ∃ k : Nat, k ≤ l.length ∧ i = .int .i64 k ∧ wr.ownsRow w.heap.size 57 4 v k (codeCells (l.take k)) ∧ Below w.heap.size w wr) (fun _ i _ => l.length - (intOf i).toNat)
  case atStart => exact ⟨0, by omega, rfl, World.ownsRow_nil _ _ _ _, Below.refl _ _⟩
  case round =>
    obtain ⟨k, hk, rfl, hown, hbel⟩ := hrel
    by_cases hlt : k < l.length
    · obtain ⟨c0, c1, c2, c3⟩ := hc.below hbel hb k hlt
      have hz := hbel.size
      have hk0 : (0 : Int) ≤ (k : Int) := Int.natCast_nonneg _
      have hk1 : (k : Int) < (l.length : Int) := by omega
      have hlt' : b < wr.heap.size := by omega
      have hne : some b ≠ u3.ownBlock := fun e => by have := (hown.lt _ e.symm).1; omega
      have Hbel := Lib.hid hbel
      clear hbel
      go_wp2
      go_region_held3 (fun w' => w'.cell? ⟨b, off + k * 4, none⟩ = some (.int .i64 l[k].o) ∧ w'.cell? ⟨b, off + k * 4 + 1, none⟩ = some (.int .i64 l[k].a) ∧
          w'.cell? ⟨b, off + k * 4 + 2, none⟩ = some (.int .i64 l[k].b) ∧ w'.cell? ⟨b, off + k * 4 + 3, none⟩ = some (.int .i64 l[k].c))
        (first | go_keep | (go_split_ands; refine ⟨?_, ?_, ?_, ?_⟩ <;> (rw [hgrow.cell_far _ (by simp; omega) hne]; assumption)))
        ((refine step_append_lies _ (by rfl) _ _ _ (by rfl) w.heap.size 57 i0 _ 4 32 Tryd.underlying32 hi hz0 hz1 hz2 rfl (by omega) u3 k (codeCells (l.take k)) (by rfl) ((hown.alloc _).drew)
            ⟨wr.heap.size, 0, none⟩ 1 1 (l[k].cells) (by rfl) (by rfl) (World.news_of_block (cs := l[k].cells.toArray) (t := 57) (fr := (0, 0)) (heap_alloc_new wr _)) (by simp [Ins.cells, Value.oneCell'])
            (by omega) (by unfold maxLen; omega) (by omega) (by simp; omega) (wr.heap.size + 1) (by simp) ?_; intro gg cap' w1 hown1 hgrow hat hgl))
      have Hb : Below w.heap.size w w1 := ((Hbel.out.alloc hz _).drew).grown hgrow (by simp; omega) (fun j e => (hown.lt j e).1)
      have HB := Lib.hid Hb
      clear Hb hgrow hgl hat c0 c1 c2 c3
      rw [← codeCells_take_succ l k hlt] at hown1
      go_wp2
      go_roundw
      case rel => exact ⟨k + 1, by omega, by go_num, hown1, HB.out⟩
      case measure => simp [intOf]; omega
    · obtain rfl : k = l.length := by omega
      rw [List.take_length] at hown
      go_wp2
      go_ret
      exact ⟨_, rfl, hown, hbel⟩

set_option maxHeartbeats 400000 in
theorem ownCode_none (a : Option Addr) (cap : Nat) (w : World) :
    Calls Tryd.prog 15 #[.slice a 0 cap] w fun e w' => ∃ v, e = .returned v ∧ w'.ownsRow w.heap.size 57 4 v 0 [] ∧ Below w.heap.size w w' := by
  go_enter Tryd.func15, Tryd.ntmps15
  go_wp2
  refine wp_loop_rounds 1 ?_
  rw [rounds_succ]
  go_wp2
  go_ret
  exact ⟨_, rfl, World.ownsRow_nil _ _ _ _, Below.refl _ _⟩
end Go.Proofs.YteecpkkgjioplaaDoor

/- MachineSteps: the walk. -/
namespace Go.Proofs.YteecpkkgjioplaaDoor
open Go.RowKit Go

theorem StAt.low {w w' : World} {p : Nat} {pc halt : Int} {v : Value} (h : StAt w p pc v halt) (hb : Below w.heap.size w w') : StAt w' p pc v halt :=
  have hp := cell_lt h.c0
  ⟨(hb.cell (p := ⟨p, 0, none⟩) hp).trans h.c0, (hb.cell (p := ⟨p, 1, none⟩) hp).trans h.c1, (hb.cell (p := ⟨p, 2, none⟩) hp).trans h.c2⟩
theorem StAt.drew {w : World} {p : Nat} {pc halt : Int} {v : Value} (h : StAt w p pc v halt) : StAt w.drew p pc v halt := ⟨h.c0, h.c1, h.c2⟩
theorem StAt.boxed {w : World} {pc halt : Int} {v : Value} {ty : TypeId} {fz : Nat × Nat} : StAt (w.alloc (.cells #[.int .i64 pc, v, .int .i64 halt] ty fz)) w.heap.size pc v halt := by
  have h : (w.alloc (.cells #[.int .i64 pc, v, .int .i64 halt] ty fz)).heap[w.heap.size]? = some (.cells #[.int .i64 pc, v, .int .i64 halt] ty fz) := by
    show (w.heap.push _)[w.heap.size]? = _
    simp
  refine ⟨?_, ?_, ?_⟩ <;> (unfold World.cell?; rw [h]; rfl)
theorem code_any (v : Value) (l : List Ins) (w : World) (h : InsS w v l) (hl : l.length ≤ 300) : Calls Tryd.prog 15 #[v] w fun e w' => ∃ v', e = .returned v' ∧ InsS w' v' l ∧ Below w.heap.size w w' := by
  obtain ⟨a, cap, rfl, h1⟩ := h
  by_cases h0 : 0 < l.length
  · obtain ⟨b, off, rfl, hb, hi⟩ := h1 h0
    refine (ownCode_any b off cap l w hi hb hl h0).mono ?_
    rintro e w' ⟨v', rfl, ho, hb'⟩
    exact ⟨v', rfl, InsS.own ho, hb'⟩
  · have : l = [] := List.length_eq_zero_iff.1 (by omega)
    subst this
    refine (ownCode_none a cap w).mono ?_
    rintro e w' ⟨v', rfl, ho, hb'⟩
    exact ⟨v', rfl, InsS.own (l := []) ho, hb'⟩
theorem Copied.out {w w' : World} {pc halt : Int} {xs : List Int} {e : Ending} (h : Copied w w' pc xs halt e) : ∃ v, e = .returned (stV pc v halt) ∧ I32s w' v xs ∧ Below w.heap.size w w' := by
  obtain ⟨v, rfl, ho, hb⟩ := h
  exact ⟨v, rfl, I32s.own ho, hb⟩
theorem own_w (pc halt : Int) (v : Value) (xs : List Int) (w : World) (h : I32s w v xs) (hl : xs.length ≤ 300) : Calls Tryd.prog 16 #[stV pc v halt] w fun e w' => ∃ v', e = .returned (stV pc v' halt) ∧ I32s w' v' xs ∧ Below w.heap.size w w' :=
  (own_any pc halt v xs w h hl).mono fun _ _ h => h.out
theorem back_w (pc halt : Int) (v : Value) (xs : List Int) (w : World) (h : I32s w v xs) (hl : xs.length ≤ 300) : Calls Tryd.prog 13 #[stV pc v halt] w fun e w' => ∃ v', e = .returned (stV pc v' halt) ∧ I32s w' v' xs ∧ Below w.heap.size w w' :=
  (back_any pc halt v xs w h hl).mono fun _ _ h => h.out
theorem clone_w (pc halt : Int) (v : Value) (xs : List Int) (w : World) (h : I32s w v xs) (hl : xs.length ≤ 300) : Calls Tryd.prog 22 #[stV pc v halt] w fun e w' => ∃ v', e = .returned (stV pc v' halt) ∧ I32s w' v' xs ∧ Below w.heap.size w w' :=
  (clone_any pc halt v xs w h hl).mono fun _ _ h => h.out
/-- What a law's call leaves. -/
def LawPost (w : World) (e : Ending) (w' : World) : Prop := e = .returned (.bool true) ∧ Below w.heap.size w w'
theorem law_end {w w1 w2 : World} (h1 : Below w.heap.size w w1) (h2 : Below w1.heap.size w1 w2) : LawPost w (.returned (.bool true)) w2 := ⟨rfl, h1.trans (h2.mono h1.size)⟩
theorem runM_len {l : List Ins} {pc halt : Int} {xs : List Int} (hl : l.length ≤ 300) (hW : W32 xs) : (runM l 1 pc xs halt).1.2.1.length = xs.length := by
  have h1 : (min (1 : Int) 1048576).toNat = 1 := rfl
  by_cases hr : rightSt pc xs.length halt = true
  · by_cases hh : halt = 0
    · subst hh
      rw [step1 hr]
      exact (stepP_right hr hl hW).2.2
    · simp [runM, hr, h1, runN, hh]
  · simp [runM, hr]

set_option linter.unusedSimpArgs false in
set_option maxRecDepth 100000 in
set_option maxHeartbeats 4000000 in
theorem msteps_any (cv mv : Value) (pc halt : Int) (xs : List Int) (l : List Ins) (w : World) (hx : I32s w mv xs) (hc : InsS w cv l) (H : Ops w) (hW : W32 xs) :
    Calls Tryd.prog 3 #[cv, stV pc mv halt] w fun e w' => LawPost w e w' := by
  obtain ⟨a, cap, e1, _⟩ := id hx
  obtain ⟨ac, capc, e2, _⟩ := id hc
  have Hx := Lib.hid hx
  have Hc := Lib.hid hc
  have HO := Lib.hid H
  clear hx hc H
  rw [stV_def]
  go_enter Tryd.func3, Tryd.ntmps3
  go_wp2_with fail
  subst e1
  subst e2
  refine (few_any _ _ _ pc halt _ _ _ _).mono ?_
  rintro e w1 ⟨rfl, hb1⟩
  have S1 : StAt w1 w.heap.size pc (.slice a xs.length cap) halt := StAt.low StAt.boxed hb1
  have B1 : Below w.heap.size w w1 := (below_alloc1 w _).trans (hb1.mono (by simp))
  clear hb1
  cases hf : (decide (l.length ≤ 300) && decide (xs.length ≤ 300))
  · go_wp2_with fail
    refine (told_any w1 (HO.out.below B1 HO.out.size)).mono ?_
    rintro e w2 ⟨rfl, hb2⟩
    go_wp2
    exact bodyPost_ret (v := .bool true) (by simp [results, Tryd.results3, go_sem]) rfl (law_end B1 hb2)
  · simp only [Bool.and_eq_true, decide_eq_true_eq] at hf
    obtain ⟨hl, hxl⟩ := hf
    go_wp2_with fail
    refine wp_region_held_drew (S := fun w' => StAt w' w.heap.size pc (.slice a xs.length cap) halt) (by kernel_rfl) S1.drew (fun hHeld => ?_)
    refine hd_take (i := 0) (some 10) (v := ?v0x1) rfl rfl (by kernel_rfl) (by kernel_rfl) (by kernel_rfl) (fun _ _ _ h => h) (by rfl) ?h0x1 (by assumption) ?r0x1
    case h0x1 =>
      intro w hSw
      (try dsimp only at hSw)
      obtain ⟨b0, b1, b2⟩ := hSw
      go_simp
      (try with_reducible rfl)
    try simp only [Act.put, List.setIfInBounds_toArray, List.set_cons_zero, List.set_cons_succ]
    refine hd_take (i := 2) (some 12) (v := ?v2x2) rfl rfl (by kernel_rfl) (by kernel_rfl) (by kernel_rfl) (fun _ _ _ h => h) (by rfl) ?h2x2 (by assumption) ?r2x2
    case h2x2 =>
      intro w hSw
      (try dsimp only at hSw)
      obtain ⟨b0, b1, b2⟩ := hSw
      go_simp
      (try with_reducible rfl)
    try simp only [Act.put, List.setIfInBounds_toArray, List.set_cons_zero, List.set_cons_succ]
    refine hd_take (i := 6) (some 16) (v := ?v6x3) rfl rfl (by kernel_rfl) (by kernel_rfl) (by kernel_rfl) (fun _ _ _ h => h) (by rfl) ?h6x3 (by assumption) ?r6x3
    case h6x3 =>
      intro w hSw
      (try dsimp only at hSw)
      obtain ⟨b0, b1, b2⟩ := hSw
      go_simp
      (try with_reducible rfl)
    try simp only [Act.put, List.setIfInBounds_toArray, List.set_cons_zero, List.set_cons_succ]
    refine hd_take (i := 7) (some 17) (v := ?v7x4) rfl rfl (by kernel_rfl) (by kernel_rfl) (by kernel_rfl) (fun _ _ _ h => h) (by rfl) ?h7x4 (by assumption) ?r7x4
    case h7x4 =>
      intro w hSw
      (try dsimp only at hSw)
      obtain ⟨b0, b1, b2⟩ := hSw
      go_simp
      (try with_reducible rfl)
    try simp only [Act.put, List.setIfInBounds_toArray, List.set_cons_zero, List.set_cons_succ]
    have C1 := Lib.hid (Hc.out.below B1 (Nat.le_refl _))
    have X1 := Lib.hid (Hx.out.below B1 (Nat.le_refl _)).drew
    have B1d : Below w.heap.size w w1.drew := B1.drew
    have hH1 : StAt w1.drew w.heap.size pc (.slice a xs.length cap) halt := S1.drew
    refine wpAnyH_ready (rs := [1]) (by kernel_rfl) (by simp) ?_
    refine AllReadyH.cons rfl (fun K hK => ?_) AllReadyH.nil
    go_simp
    refine (code_any _ l w1.drew C1.out hl).mono ?_
    rintro e w2 ⟨c2, rfl, C2, hb2⟩
    have C2 := Lib.hid C2
    go_wp2_with fail
    refine hK.out _ _ (StAt.low hH1 hb2) (fun hH2 => ?_)
    clear hK K
    refine wpAnyH_ready (rs := [3]) (by kernel_rfl) (by simp) ?_
    refine AllReadyH.cons rfl (fun K hK => ?_) AllReadyH.nil
    go_simp
    refine (own_w pc halt _ xs w2 (X1.out.below hb2 (Nat.le_refl _)) hxl).mono ?_
    rintro e w3 ⟨v3, rfl, X3, hb3⟩
    have X3 := Lib.hid X3
    have B3 : Below w.heap.size w w3 := (B1d.trans (hb2.mono B1d.size)).trans (hb3.mono (Nat.le_trans B1d.size hb2.size))
    have O3 := Lib.hid (HO.out.below B3 HO.out.size)
    go_wp2_with fail
    refine hK.out _ _ (StAt.low hH2 hb3) (fun hH3 => ?_)
    clear hK K
    refine wpAnyH_ready (rs := [4]) (by kernel_rfl) (by simp) ?_
    refine AllReadyH.cons rfl (fun K hK => ?_) AllReadyH.nil
    go_simp
    refine (mstep_any c2 v3 pc halt xs l w3 X3.out (C2.out.below hb3 (Nat.le_refl _)) O3.out hl hxl hW).mono ?_
    rintro e w4 ⟨v4, rfl, X4, hb4⟩
    have X4 := Lib.hid X4.1
    have hl4 : (runM l 1 pc xs halt).1.2.1.length ≤ 300 := by rw [runM_len hl hW]; exact hxl
    go_wp2_with fail
    refine hK.out _ _ (StAt.low hH3 hb4) (fun hH4 => ?_)
    clear hK K
    have B4 : Below w.heap.size w w4 := B3.trans (hb4.mono B3.size)
    refine wpAnyH_ready (rs := [5]) (by kernel_rfl) (by simp) ?_
    refine AllReadyH.cons rfl (fun K hK => ?_) AllReadyH.nil
    go_simp
    refine (back_w _ _ v4 _ w4 X4.out hl4).mono ?_
    rintro e w5 ⟨v5, rfl, X5, hb5⟩
    have X5 := Lib.hid X5
    have B5 : Below w.heap.size w w5 := B4.trans (hb5.mono B4.size)
    go_wp2_with fail
    refine hK.out _ _ (StAt.low hH4 hb5) (fun hH5 => ?_)
    clear hK K
    refine wpAnyH_ready (rs := [8]) (by kernel_rfl) (by simp) ?_
    refine AllReadyH.cons rfl (fun K hK => ?_) AllReadyH.nil
    go_simp
    refine (rstep_any _ _ pc halt xs l w5 (Hx.out.below B5 (Nat.le_refl _)) (Hc.out.below B5 (Nat.le_refl _)) hl hxl hW).mono ?_
    rintro e w6 ⟨v6, rfl, X6, hb6⟩
    have X6 := Lib.hid X6.1
    have B6 : Below w.heap.size w w6 := B5.trans (hb6.mono B5.size)
    go_wp2_with fail
    refine hK.out _ _ (StAt.low hH5 hb6) (fun hH6 => ?_)
    clear hK K
    refine wpAnyH_ready (rs := [9]) (by kernel_rfl) (by simp) ?_
    refine AllReadyH.cons rfl (fun K hK => ?_) AllReadyH.nil
    go_simp
    refine (rsame_any _ _ _ _ v5 v6 _ _ w6 (X5.out.below hb6 (Nat.le_refl _)) X6.out hl4).mono ?_
    rintro e w7 ⟨rfl, hb7⟩
    have B7 : Below w.heap.size w w7 := B6.trans (hb7.mono B6.size)
    simp only [and_self, decide_true]
    go_wp2_with fail
    refine hK.out _ _ (StAt.low hH6 hb7) (fun hH7 => ?_)
    clear hK K
    refine hd_take (i := 10) (some 20) (v := ?v10x5) rfl rfl (by kernel_rfl) (by kernel_rfl) (by kernel_rfl) (fun _ _ _ h => h) (by rfl) ?h10x5 (by assumption) ?r10x5
    case h10x5 =>
      intro w hSw
      (try dsimp only at hSw)
      obtain ⟨b0, b1, b2⟩ := hSw
      go_simp
      (try with_reducible rfl)
    try simp only [Act.put, List.setIfInBounds_toArray, List.set_cons_zero, List.set_cons_succ]
    refine wpAnyH_ready (rs := [11]) (by kernel_rfl) (by simp) ?_
    refine AllReadyH.cons rfl (fun K hK => ?_) AllReadyH.nil
    go_simp
    refine (told_any w7 (HO.out.below B7 HO.out.size)).mono ?_
    rintro e w8 ⟨rfl, hb8⟩
    go_wp2_with fail
    refine hK.out _ _ (StAt.low hH7 hb8) (fun hH8 => ?_)
    clear hK K
    refine hd_take (i := 12) (some 22) (v := ?v12x6) rfl rfl (by kernel_rfl) (by kernel_rfl) (by kernel_rfl) (fun _ _ _ h => h) (by rfl) ?h12x6 (by assumption) ?r12x6
    case h12x6 =>
      intro w hSw
      (try dsimp only at hSw)
      obtain ⟨b0, b1, b2⟩ := hSw
      go_simp
      (try with_reducible rfl)
    try simp only [Act.put, List.setIfInBounds_toArray, List.set_cons_zero, List.set_cons_succ]
    refine hd_take (i := 13) (some 4) (v := ?v13x7) rfl rfl (by kernel_rfl) (by kernel_rfl) (by kernel_rfl) (fun _ _ _ h => h) (by rfl) ?h13x7 (by assumption) ?r13x7
    case h13x7 =>
      intro w hSw
      (try dsimp only at hSw)
      obtain ⟨b0, b1, b2⟩ := hSw
      go_simp
      (try with_reducible rfl)
    try simp only [Act.put, List.setIfInBounds_toArray, List.set_cons_zero, List.set_cons_succ]
    refine wpAnyH_done (by kernel_rfl) ?_ _
    go_wp2_with fail
    exact bodyPost_ret (v := .bool true) (by simp [results, Tryd.results3, go_sem]) rfl (law_end B7 hb8)
end Go.Proofs.YteecpkkgjioplaaDoor

/- What the rows of Machine give the walks: the state, the code, the laid table. -/
namespace Go.Proofs.YteecpkkgjioplaaDoor
open Go.ChangeShapes Go.WideShapes Go.ChangeAt Go.WideElems Go.RowKit Go.Joins

theorem addr_add (b off k : Nat) : (⟨b, off, none⟩ : Addr).add k = ⟨b, off + k, none⟩ := by
  unfold Addr.add
  split <;> simp_all
set_option maxRecDepth 100000
theorem ownK : ownKnob Tryd.prog.godebug = none := by kernel_rfl
theorem laidOutK : laidOutB Tryd.prog = true := by kernel_rfl
theorem gOps : Tryd.prog.globalNamed "baize/code.operations" = some 0 := by kernel_rfl
theorem tOps : (Tryd.prog.globals[0]?).map (·.type) = some 91 := by kernel_rfl
theorem cells58 : Tryd.prog.cellsOf 58 = 4 := by kernel_rfl
theorem cells3 : Tryd.prog.cellsOf 3 = 1 := by kernel_rfl
theorem cells9 : Tryd.prog.cellsOf 9 = 1 := by kernel_rfl
theorem cells90 : Tryd.prog.cellsOf 90 = 2 := by kernel_rfl
abbrev laidL : List (String × DataW Unit) := [("baize/code.operations", Rows.laid_baize_code_operations)]

theorem open_words {H : Type} {enc : TypeId × Value → H} {W : World} {fuel : Nat} {cs : List Value} {x : DataW H × List MemPlace} (h : DataW.trod enc Tryd.prog W 0 (fun _ => true) true fuel 23 cs = some x) : ∃ mv xs, cs = [mv] ∧ I32s W mv xs ∧ W32 xs := by
  rcases open_ints Tryd.underlying23 Tryd.underlying21 (by kernel_rfl) h with ⟨rfl, _⟩ | ⟨a, l, c, zs, rfl, _, hl, hm, hz, _, hcell, hwz⟩
  · exact ⟨_, [], rfl, ⟨none, 0, rfl, by omega, fun _ => ⟨rfl, rfl⟩, fun ad h => by cases h⟩, fun k x h => by simp at h⟩
  · simp only [if_true] at hz
    have hlen : (zs.take l).length = l := by simp; omega
    refine ⟨_, zs.take l, rfl, ⟨some a, c, by rw [hlen], hm, (fun h => by cases h), fun ad e hn => ?_⟩, fun k x hx => ?_⟩
    · obtain rfl := Option.some.inj e
      have hpos : 0 < zs.length := by
        have := List.length_pos_iff.2 hn
        omega
      have h0 := hcell 0 hpos
      obtain ⟨b, off, spot⟩ := a
      have hspot : spot = none := by simpa [Addr.add] using World.cell?_spot h0
      subst hspot
      refine ⟨rfl, World.block_lt_of_cell? W _ h0, fun k hk => ?_⟩
      have hk' : k < zs.length := by rw [hlen] at hk; omega
      have := hcell k hk'
      rw [addr_add] at this
      simpa [List.getD_eq_getElem?_getD, List.getElem?_eq_getElem hk'] using this
    · have hm : x ∈ zs := List.mem_of_mem_take (List.mem_of_getElem? hx)
      have := bounds_i32 (hwz x hm)
      omega
theorem open_state {H : Type} {enc : TypeId × Value → H} {W : World} {base : Nat} {v : Value} {d : DataW H} {p : List MemPlace} (hv : Value.okWide Tryd.prog W .any base 25 v) (h : DataW.Trod enc Tryd.prog W 0 (fun _ => true) true 25 v d p) :
    ∃ pc mv halt xs, v = stV pc mv halt ∧ I32s W mv xs ∧ W32 xs := by
  obtain ⟨c0, c1, c2, y0, y1, y2, m, rfl, rfl, rfl, h0, h1, h2⟩ := open_agg3 Tryd.underlying25 (by kernel_rfl) (by kernel_rfl) hv h
  obtain ⟨pc, e0, _⟩ := DataW.trod_int Tryd.underlying3 h0
  obtain ⟨halt, e2, _⟩ := DataW.trod_int Tryd.underlying3 h2
  obtain ⟨mv, xs, e1, hx, hw⟩ := open_words h1
  simp at e0 e1 e2
  subst e0 e1 e2
  exact ⟨pc, c1, halt, xs, rfl, hx, hw⟩
theorem open_code {H : Type} {enc : TypeId × Value → H} {W : World} {base : Nat} {v : Value} {d : DataW H} {p : List MemPlace} (hv : Value.okWide Tryd.prog W .any base 22 v) (h : DataW.Trod enc Tryd.prog W 0 (fun _ => true) true 22 v d p) : ∃ l, InsS W v l := by
  obtain ⟨a, len, cap, rfl⟩ := okWide_slice Tryd.underlying22 hv
  obtain ⟨fuel, hf⟩ := h
  rcases Go.Deep.open_slice Tryd.underlying22 hf with ⟨hcs, _⟩ | ⟨a', l', c', m, n, D, Pl, hcs, _, hl, hm, hmm, _, hx⟩
  · simp [Value.cells] at hcs
    obtain ⟨rfl, rfl, rfl⟩ := hcs
    exact ⟨[], none, 0, rfl, fun h => by simp at h⟩
  · simp [Value.cells] at hcs
    obtain ⟨rfl, rfl, rfl⟩ := hcs
    simp only [if_true] at hmm
    subst hmm
    by_cases h0 : 0 < len
    · have hf : ∀ i : Nat, ∃ q : Ins, i < len → ∀ j, j < 4 → W.cell? ((a'.add (i * 4)).add j) = q.cells[j]? := by
        intro i
        by_cases hi : i < len
        · obtain ⟨cs', hc, ht⟩ := hx i (by omega)
          rw [cells58] at hc
          obtain ⟨_, hlen, hg⟩ := World.cells?_some hc
          obtain ⟨y0, y1, y2, y3, n', _, _, t0, t1, t2, t3⟩ := trod_struct4 Tryd.underlying58 ht
          obtain ⟨o, e0, _⟩ := DataW.trod_int Tryd.underlying3 t0
          obtain ⟨x, e1, _⟩ := DataW.trod_int Tryd.underlying3 t1
          obtain ⟨y, e2, _⟩ := DataW.trod_int Tryd.underlying3 t2
          obtain ⟨z, e3, _⟩ := DataW.trod_int Tryd.underlying3 t3
          rw [cells3] at e0 e1 e2 e3
          match cs', hlen with
          | [c0, c1, c2, c3], _ =>
            simp at e0 e1 e2 e3
            subst e0 e1 e2 e3
            exact ⟨⟨o, x, y, z⟩, fun _ j hj => hg j hj⟩
        · exact ⟨⟨0, 0, 0, 0⟩, fun h => absurd h hi⟩
      obtain ⟨q, hq⟩ := Classical.axiomOfChoice hf
      have hc0 := hq 0 h0 0 (by omega)
      obtain ⟨b, off, spot⟩ := a'
      have hspot : spot = none := by simpa [Addr.add] using World.cell?_spot hc0
      subst hspot
      have hlq : ((List.range len).map q).length = len := by simp
      refine ⟨(List.range len).map q, some ⟨b, off, none⟩, _, by rw [hlq], fun _ => ⟨b, off, rfl, World.block_lt_of_cell? W _ hc0, fun k hk => ?_⟩⟩
      rw [hlq] at hk
      have := hq k hk
      simp only [addr_add] at this
      refine ⟨?_, ?_, ?_, ?_⟩
      · simpa [Ins.cells] using this 0 (by omega)
      · simpa [Ins.cells] using this 1 (by omega)
      · simpa [Ins.cells] using this 2 (by omega)
      · simpa [Ins.cells] using this 3 (by omega)
    · obtain rfl : len = 0 := by omega
      exact ⟨[], some a', _, rfl, fun h => by simp at h⟩
noncomputable def tableL : List (DataW Unit) :=
  match (Rows.laid_baize_code_operations : DataW Unit) with
  | .agg l => l
  | _ => []
theorem tableL_at : ∀ n, n < 22 → ∃ y, tableL[n]? = some (.agg [y, .lit (.string (hasL n))])
  | 0, _ => ⟨_, rfl⟩ | 1, _ => ⟨_, rfl⟩ | 2, _ => ⟨_, rfl⟩ | 3, _ => ⟨_, rfl⟩ | 4, _ => ⟨_, rfl⟩ | 5, _ => ⟨_, rfl⟩ | 6, _ => ⟨_, rfl⟩ | 7, _ => ⟨_, rfl⟩ | 8, _ => ⟨_, rfl⟩ | 9, _ => ⟨_, rfl⟩ | 10, _ => ⟨_, rfl⟩
  | 11, _ => ⟨_, rfl⟩ | 12, _ => ⟨_, rfl⟩ | 13, _ => ⟨_, rfl⟩ | 14, _ => ⟨_, rfl⟩ | 15, _ => ⟨_, rfl⟩ | 16, _ => ⟨_, rfl⟩ | 17, _ => ⟨_, rfl⟩ | 18, _ => ⟨_, rfl⟩ | 19, _ => ⟨_, rfl⟩ | 20, _ => ⟨_, rfl⟩ | 21, _ => ⟨_, rfl⟩
  | n + 22, h => absurd h (by omega)
theorem open_table {W : World} (h : laidMetH Tryd.prog laidL W) : Ops W := by
  rw [MakeChecks.laidMetH_plain _ _ _ (by kernel_rfl)] at h
  obtain ⟨ps, ⟨g0, t0, cs0, f0, p0, q0, hg0, ht0, hv0, hd0, _⟩, _, _⟩ := h
  obtain rfl := Option.some.inj (gOps.symm.trans hg0)
  obtain rfl := Option.some.inj (tOps.symm.trans ht0)
  obtain ⟨xs, m, rfl, hx, hlen, hn, hel⟩ := DataW.trod_array Tryd.underlying91 hd0
  have key : ∀ n, n < 22 → ∃ s : ByteArray, cs0[n * 2 + 1]? = some (.string s) ∧ ∃ y : DataW Unit, (xs.map (·.1))[n]? = some (.agg [y, .lit (.string s.data.toList)]) := by
    intro n hn'
    have h1 := hel n hn'
    obtain ⟨x, hxn⟩ : ∃ x, xs[n]? = some x := ⟨xs[n], List.getElem?_eq_getElem (by omega)⟩
    rw [hxn, cells90] at h1
    obtain ⟨y0, y1, n', rfl, hl2, t0, t1⟩ := trod_struct2 Tryd.underlying90 h1
    obtain ⟨s, e1, e2, _⟩ := DataW.trod_string Tryd.underlying9 t1
    rw [cells9] at e1
    refine ⟨s, ?_, y0.1, ?_⟩
    · have h2 : (List.take 2 (List.drop (n * 2) cs0.toList))[1]? = some (.string s) := by
        have h3 : List.take 1 (List.drop 1 (List.take 2 (List.drop (n * 2) cs0.toList))) = [Value.string s] := e1
        have h4 := congrArg (fun l => l[0]?) h3
        simpa using h4
      rw [List.getElem?_take_of_lt (by omega), List.getElem?_drop] at h2
      simpa using h2
    · simp [hxn, e2]
  intro n hn0
  rw [World.var?_cell hg0 hv0]
  obtain ⟨s, h1, y, h2⟩ := key n hn0
  rw [h1]
  have hl : (xs.map (·.1)) = tableL := by
    simp only [Prod.mk.injEq] at hx
    have := hx.1
    unfold Rows.laid_baize_code_operations at this
    simp only [DataW.agg.injEq] at this
    exact this.symm
  rw [hl] at h2
  obtain ⟨y', h3⟩ := tableL_at n hn0
  rw [h3] at h2
  simp only [Option.some.injEq, DataW.agg.injEq, List.cons.injEq, DataW.lit.injEq, Lit.string.injEq, and_true] at h2
  have : s = hasB n := by
    unfold hasB
    rw [h2.2]
  rw [this]
end Go.Proofs.YteecpkkgjioplaaDoor

/- MachineSteps: the row and its tied card. -/
namespace Go.Proofs.YteecpkkgjioplaaDoor
open Go.ChangeShapes Go.WideShapes Go.ChangeAt Go.WideElems Go.RowKit

theorem door_met (os : Os) (args : Array Value) : laidMetH Tryd.prog laidL ((World.doorLaid Tryd.prog 400 os).forCall (fun _ _ => 0) ⟨#[], args, []⟩).memory :=
  laidMetH_of_parts3 (fuel := 8) (laidMet_of_run' 8 (by kernel_rfl) (by kernel_rfl)) (by kernel_rfl) (by kernel_rfl)
set_option maxRecDepth 100000 in
theorem steps_lifted (os : Os) (started : os.Started) (H : Type) (enc : TypeId × Value → H) :
    ReturnsInHanded {} Tryd.checked os 3 .any (fun w args => (Rows.machineStepsSpec.pre enc Tryd.prog Tryd.f3 [] false w args ∧ laidMetH Tryd.prog laidL w) ∧ sizedMet enc Tryd.prog Tryd.f3 (OpenSpec.ofChange Rows.machineStepsSpec) false w args)
      (Rows.machineStepsSpec.post enc Tryd.prog Tryd.f3 false true false false) := by
  refine returnsInHanded_of_change_and (C := Tryd.checked) (X := fun w _ => laidMetH Tryd.prog laidL w) (fun _ _ _ hh h => h.of_heap hh) ownK started (by kernel_rfl) Tryd.func3
    (ChangeSpec.witness_shaped (enc := enc) (C := Tryd.checked) (os := os) (X := fun w _ => laidMetH Tryd.prog laidL w) false (World.doorLaid Tryd.prog 400 os) #[.slice none 0 0, .agg #[.int .i64 0, .slice none 0 0, .int .i64 0]] 8 rfl (World.shaped_of_RefB (by kernel_rfl) (by kernel_rfl)) (by kernel_rfl) (by kernel_rfl) (by kernel_rfl) (door_met os _)) ?_
  intro W base args ds gs before hval0 hW _ _ hL _
  have hval : ∀ (j : Nat) t v, Tryd.f3.params[j]? = some t → args[j]? = some v → Value.okWide Tryd.prog W .any base t v := hval0
  have hW' := hW
  obtain ⟨p, q, hA0, hV, rfl, hfz, hnd⟩ := hW
  have hA : DataW.TrodAll enc Tryd.prog W 0 (fun _ => true) true Tryd.f3.params.toList args.toList ds p := hA0
  rw [Tryd.params3] at hA hval
  obtain ⟨v0, v1, d0, d1, p0, p1, rfl, rfl, rfl, h0, h1⟩ := trodAll_two hA
  obtain ⟨rfl, rfl⟩ := trodVars_none hV
  have k0 := h0
  have k1 := h1
  have lt0 : ∀ x ∈ p0, x.block < W.heap.size := by obtain ⟨m, hm⟩ := k0; exact DataW.trod_lt m _ _ _ hm
  have lt1 : ∀ x ∈ p1, x.block < W.heap.size := by obtain ⟨m, hm⟩ := k1; exact DataW.trod_lt m _ _ _ hm
  obtain ⟨l, hc⟩ := open_code (hval 0 22 v0 rfl rfl) h0
  obtain ⟨pc, mv, halt, xs, rfl, hx, hw⟩ := open_state (hval 1 25 v1 rfl rfl) h1
  have hO := open_table hL
  clear hA0 hval0
  refine (msteps_any v0 mv pc halt xs l W hx hc hO hw).mono fun e W' ⟨he, bel⟩ => ?_
  subst he
  exact ⟨_, rfl, _, _, _, [], _, [], hW', trodAll_mk1 (shut_bool Tryd.underlying4 _), (trodAll_mk2 (Below.trod laidOutK (by kernel_rfl) (of_decide_eq_true (by kernel_rfl)) k0 bel lt0) (Below.trod laidOutK (by kernel_rfl) (of_decide_eq_true (by kernel_rfl)) k1 bel lt1)), rfl, bel.frame _, fun h => by cases h⟩

theorem machineSteps_holds : Rows.MachineStepsSaid :=
  OpenClaim.holds_of_wide 3 Tryd.f3 rfl rfl rfl rfl rfl rfl rfl ⟨rfl, rfl, rfl, rfl, rfl⟩ rfl rfl rfl rfl rfl (by kernel_rfl) Tryd.func3 (by kernel_rfl)
    (of_decide_eq_true (by kernel_rfl)) (by unfold Func.isWrapper; first | (rw [if_pos (by decide +kernel)]; kernel_rfl) | (rw [if_neg (by decide +kernel)]; exact ⟨rfl, rfl⟩))
    (fun os started H enc _ => steps_lifted os started H enc)
theorem machineSteps_card : Rows.MachineStepsCardSaid :=
  Claim7.holds_tied_plain_at .later [] [.data] true (true, "86947f2b7cd82adea9bb62cc9dce10efcf1c3d7120d30f8d1ae1b8dc18afa626") false
    machineSteps_holds (fun _ h => by cases h) (by kernel_rfl) (fun _ h => by cases h) machineSteps_row_tie rfl ⟨rfl, rfl⟩ (by kernel_rfl) rfl
    (fun f fn hf hfn => by
      obtain rfl : f = 3 := Option.some.inj ((show Tryd.prog.funcNamed "baize/baizelaw15.MachineSteps" = some 3 by kernel_rfl).symm.trans hf) |>.symm
      obtain rfl : fn = Tryd.f3 := (Option.some.inj (Tryd.func3.symm.trans hfn)).symm
      exact ⟨by kernel_rfl, fun j t ht => by
        rw [Tryd.params3] at ht
        have hm : t ∈ [22, 25] := by simpa using Array.mem_of_getElem? ht
        have hall : ([22, 25].all fun u => !Tryd.prog.wantsStandIn u) = true := by kernel_rfl
        exact (show Tryd.prog.wantsStandIn t = false by simpa using List.all_eq_true.1 hall t hm)⟩)
    (by kernel_rfl)
end Go.Proofs.YteecpkkgjioplaaDoor
