/-
  NARROWER THAN 'FOR EVERY INPUT', by the rows' own cells (each row's printed sentence says how): MachineSteps: laid · MachineRuns: laid · MachineRests: laid · MachineApart: laid · MachineNews: laid · MachineWrites: laid · MachineHangs: laid.
  DERIVED. THE GIVEN ROWS OF THIS SEAT. 7 by the template 'for every input the law returns true; each argument reads behind the call as it read before'; 0 by the template 'total and deterministic' (their statements: YteecpkkgjioplaaDoorTotals.lean).
  GIVEN WITH THE SEED: the statements are not yours to turn. If you find one false, say at which input.
  Laid BY PROGRAM, IN A SANDBOX (cutbox-rows.mjs): the forced cells as the released guide's own fill.sh prints them over the translation 183ff1801fc569a7… (all of the seat's roots in one cut). By AI agents, Wed Nov 11 2026. No macro, syntax, notation, axiom, sorry.
-/
import Derived.Test.YteecpkkgjioplaaDoorChecked
import GoSem.Claim
import GoSem.ClaimJoined
import GoSem.ClaimMapViews
import Derived.JoinedTies
import Derived.KernelRfl
namespace Go.Proofs.YteecpkkgjioplaaDoor
/- THE CELL 'sum', in the pinned program and in every row, IS THE sha256 OF THE DUMP (.gsa) THAT YteecpkkgjioplaaDoorProg.lean LOADS. Nothing in Lean hashes anything: it is a label: what it is worth is what the hold of that sum in a sandbox is worth. -/
noncomputable def Tryd.pinned : Pinned := { name := "yteecpkkgjioplaadoor", sum := "183ff1801fc569a7202329f2e53cfb452f9a074d259e2d57a7403c3fab3ae70f", checked := Tryd.checked }
namespace Rows
def none {H : Type} : Left H := { results := [], args := [] }

/- WHAT THE LISTED PACKAGE-LEVEL VARIABLES READ AS WHEN THE CALL BEGINS. Each datum BY PROGRAM (the guide's laid-datum.mjs) off the statement by which the dump's own 'gosem.cut.vars' lays the variable. In a bare row this is a premise. The card (YteecpkkgjioplaaDoorCards.lean) ties it to the program's text. -/
def laid_baize_code_operations {H : Type} : DataW H := .agg [.agg [.lit (.string [104, 97, 108, 116]), .lit (.string [110])], .agg [.lit (.string [115, 101, 116]), .lit (.string [119, 110])], .agg [.lit (.string [109, 111, 118, 101]), .lit (.string [119, 119])], .agg [.lit (.string [97, 100, 100]), .lit (.string [119, 119, 119])], .agg [.lit (.string [115, 117, 98]), .lit (.string [119, 119, 119])], .agg [.lit (.string [109, 117, 108]), .lit (.string [119, 119, 119])], .agg [.lit (.string [100, 105, 118]), .lit (.string [119, 119, 119])], .agg [.lit (.string [114, 101, 109]), .lit (.string [119, 119, 119])], .agg [.lit (.string [101, 113]), .lit (.string [119, 119, 119])], .agg [.lit (.string [110, 101]), .lit (.string [119, 119, 119])], .agg [.lit (.string [108, 116]), .lit (.string [119, 119, 119])], .agg [.lit (.string [108, 101]), .lit (.string [119, 119, 119])], .agg [.lit (.string [97, 110, 100]), .lit (.string [119, 119, 119])], .agg [.lit (.string [111, 114]), .lit (.string [119, 119, 119])], .agg [.lit (.string [110, 111, 116]), .lit (.string [119, 119])], .agg [.lit (.string [108, 111, 97, 100]), .lit (.string [119, 119, 119])], .agg [.lit (.string [115, 116, 111, 114, 101]), .lit (.string [119, 119, 119])], .agg [.lit (.string [99, 117, 116]), .lit (.string [119, 110, 110])], .agg [.lit (.string [119, 105, 116, 104, 105, 110]), .lit (.string [119, 119, 110])], .agg [.lit (.string [106, 117, 109, 112]), .lit (.string [112])], .agg [.lit (.string [106, 122]), .lit (.string [112, 119])], .agg [.lit (.string [106, 110, 122]), .lit (.string [112, 119])]]

/-- 'baizelaw15.MachineSteps': WHATEVER THE INPUT: true; the input reads as it did. -/
def machineStepsSpec : ChangeSpec := { name := "machineSteps", fn := fun _ => fun
  | [d1, d2] => { results := [.lit (.bool true)], args := [d1, d2] }
  | _ => none }
def machineStepsRow : OpenClaim := { program := "yteecpkkgjioplaadoor", sum := "183ff1801fc569a7202329f2e53cfb452f9a074d259e2d57a7403c3fab3ae70f", func := "baize/baizelaw15.MachineSteps", spec := "machineSteps", unfollowed := true, recurses := true, named := ["baize/code.operations"], apart := false, laid := [("baize/code.operations", laid_baize_code_operations)] }
def MachineStepsSaid : Prop := machineStepsRow.holds Tryd.pinned (OpenSpec.ofChange machineStepsSpec)

/-- ITS FALSE NEIGHBOUR: 'it returns false'. Refute it at one input. -/
def machineStepsWrong : ChangeSpec := { name := "machineSteps", fn := fun _ => fun
  | [d1, d2] => { results := [.lit (.bool false)], args := [d1, d2] }
  | _ => none }
def MachineStepsWrongFalsely : Prop := machineStepsRow.holds Tryd.pinned (OpenSpec.ofChange machineStepsWrong)

/-- 'baizelaw15.MachineRuns': WHATEVER THE INPUT: true; the input reads as it did. -/
def machineRunsSpec : ChangeSpec := { name := "machineRuns", fn := fun _ => fun
  | [d1, d2, d3] => { results := [.lit (.bool true)], args := [d1, d2, d3] }
  | _ => none }
def machineRunsRow : OpenClaim := { program := "yteecpkkgjioplaadoor", sum := "183ff1801fc569a7202329f2e53cfb452f9a074d259e2d57a7403c3fab3ae70f", func := "baize/baizelaw15.MachineRuns", spec := "machineRuns", unfollowed := true, recurses := true, named := ["baize/code.operations"], apart := false, laid := [("baize/code.operations", laid_baize_code_operations)] }
def MachineRunsSaid : Prop := machineRunsRow.holds Tryd.pinned (OpenSpec.ofChange machineRunsSpec)

/-- ITS FALSE NEIGHBOUR: 'it returns false'. Refute it at one input. -/
def machineRunsWrong : ChangeSpec := { name := "machineRuns", fn := fun _ => fun
  | [d1, d2, d3] => { results := [.lit (.bool false)], args := [d1, d2, d3] }
  | _ => none }
def MachineRunsWrongFalsely : Prop := machineRunsRow.holds Tryd.pinned (OpenSpec.ofChange machineRunsWrong)

/-- 'baizelaw15.MachineRests': WHATEVER THE INPUT: true; the input reads as it did. -/
def machineRestsSpec : ChangeSpec := { name := "machineRests", fn := fun _ => fun
  | [d1, d2, d3] => { results := [.lit (.bool true)], args := [d1, d2, d3] }
  | _ => none }
def machineRestsRow : OpenClaim := { program := "yteecpkkgjioplaadoor", sum := "183ff1801fc569a7202329f2e53cfb452f9a074d259e2d57a7403c3fab3ae70f", func := "baize/baizelaw15.MachineRests", spec := "machineRests", unfollowed := true, recurses := true, named := ["baize/code.operations"], apart := false, laid := [("baize/code.operations", laid_baize_code_operations)] }
def MachineRestsSaid : Prop := machineRestsRow.holds Tryd.pinned (OpenSpec.ofChange machineRestsSpec)

/-- ITS FALSE NEIGHBOUR: 'it returns false'. Refute it at one input. -/
def machineRestsWrong : ChangeSpec := { name := "machineRests", fn := fun _ => fun
  | [d1, d2, d3] => { results := [.lit (.bool false)], args := [d1, d2, d3] }
  | _ => none }
def MachineRestsWrongFalsely : Prop := machineRestsRow.holds Tryd.pinned (OpenSpec.ofChange machineRestsWrong)

/-- 'baizelaw15.MachineApart': WHATEVER THE INPUT: true; the input reads as it did. -/
def machineApartSpec : ChangeSpec := { name := "machineApart", fn := fun _ => fun
  | [d1, d2, d3] => { results := [.lit (.bool true)], args := [d1, d2, d3] }
  | _ => none }
def machineApartRow : OpenClaim := { program := "yteecpkkgjioplaadoor", sum := "183ff1801fc569a7202329f2e53cfb452f9a074d259e2d57a7403c3fab3ae70f", func := "baize/baizelaw15.MachineApart", spec := "machineApart", unfollowed := true, recurses := true, named := ["baize/code.operations"], apart := false, laid := [("baize/code.operations", laid_baize_code_operations)] }
def MachineApartSaid : Prop := machineApartRow.holds Tryd.pinned (OpenSpec.ofChange machineApartSpec)

/-- ITS FALSE NEIGHBOUR: 'it returns false'. Refute it at one input. -/
def machineApartWrong : ChangeSpec := { name := "machineApart", fn := fun _ => fun
  | [d1, d2, d3] => { results := [.lit (.bool false)], args := [d1, d2, d3] }
  | _ => none }
def MachineApartWrongFalsely : Prop := machineApartRow.holds Tryd.pinned (OpenSpec.ofChange machineApartWrong)

/-- 'baizelaw15.MachineNews': WHATEVER THE INPUT: true; the input reads as it did. -/
def machineNewsSpec : ChangeSpec := { name := "machineNews", fn := fun _ => fun
  | [d] => { results := [.lit (.bool true)], args := [d] }
  | _ => none }
def machineNewsRow : OpenClaim := { program := "yteecpkkgjioplaadoor", sum := "183ff1801fc569a7202329f2e53cfb452f9a074d259e2d57a7403c3fab3ae70f", func := "baize/baizelaw15.MachineNews", spec := "machineNews", unfollowed := true, recurses := true, named := ["baize/code.operations"], apart := false, laid := [("baize/code.operations", laid_baize_code_operations)] }
def MachineNewsSaid : Prop := machineNewsRow.holds Tryd.pinned (OpenSpec.ofChange machineNewsSpec)

/-- ITS FALSE NEIGHBOUR: 'it returns false'. Refute it at one input. -/
def machineNewsWrong : ChangeSpec := { name := "machineNews", fn := fun _ => fun
  | [d] => { results := [.lit (.bool false)], args := [d] }
  | _ => none }
def MachineNewsWrongFalsely : Prop := machineNewsRow.holds Tryd.pinned (OpenSpec.ofChange machineNewsWrong)

/-- 'baizelaw15.MachineWrites': WHATEVER THE INPUT: true; the input reads as it did. -/
def machineWritesSpec : ChangeSpec := { name := "machineWrites", fn := fun _ => fun
  | [d1, d2] => { results := [.lit (.bool true)], args := [d1, d2] }
  | _ => none }
def machineWritesRow : OpenClaim := { program := "yteecpkkgjioplaadoor", sum := "183ff1801fc569a7202329f2e53cfb452f9a074d259e2d57a7403c3fab3ae70f", func := "baize/baizelaw15.MachineWrites", spec := "machineWrites", unfollowed := true, recurses := true, named := ["baize/code.operations"], apart := false, laid := [("baize/code.operations", laid_baize_code_operations)] }
def MachineWritesSaid : Prop := machineWritesRow.holds Tryd.pinned (OpenSpec.ofChange machineWritesSpec)

/-- ITS FALSE NEIGHBOUR: 'it returns false'. Refute it at one input. -/
def machineWritesWrong : ChangeSpec := { name := "machineWrites", fn := fun _ => fun
  | [d1, d2] => { results := [.lit (.bool false)], args := [d1, d2] }
  | _ => none }
def MachineWritesWrongFalsely : Prop := machineWritesRow.holds Tryd.pinned (OpenSpec.ofChange machineWritesWrong)

/-- 'baizelaw15.MachineHangs': WHATEVER THE INPUT: true; the input reads as it did. -/
def machineHangsSpec : ChangeSpec := { name := "machineHangs", fn := fun _ => fun
  | [d1, d2, d3] => { results := [.lit (.bool true)], args := [d1, d2, d3] }
  | _ => none }
def machineHangsRow : OpenClaim := { program := "yteecpkkgjioplaadoor", sum := "183ff1801fc569a7202329f2e53cfb452f9a074d259e2d57a7403c3fab3ae70f", func := "baize/baizelaw15.MachineHangs", spec := "machineHangs", unfollowed := true, recurses := true, named := ["baize/code.operations"], apart := false, laid := [("baize/code.operations", laid_baize_code_operations)] }
def MachineHangsSaid : Prop := machineHangsRow.holds Tryd.pinned (OpenSpec.ofChange machineHangsSpec)

/-- ITS FALSE NEIGHBOUR: 'it returns false'. Refute it at one input. -/
def machineHangsWrong : ChangeSpec := { name := "machineHangs", fn := fun _ => fun
  | [d1, d2, d3] => { results := [.lit (.bool false)], args := [d1, d2, d3] }
  | _ => none }
def MachineHangsWrongFalsely : Prop := machineHangsRow.holds Tryd.pinned (OpenSpec.ofChange machineHangsWrong)

/- THE SECOND FORM. 'bulk': how many values and letters a reading holds, each counted each time it is reached (what is shared counts as often as it is met; a slice's spare places count too). A statement '..UptoSaid' is the law's where the arguments, and the package variables that the reading takes, are together of bulk at most 1048576: NARROWER than '..Said'. Prove '..Said' where nothing that the law and all that it calls make is longer than what came in: it says more and counts as full. Else prove '..UptoSaid'. A law counts once. -/
mutual
def uptoBulk {H : Type} : DataW H → Nat
  | .lit (.string bytes) => bytes.length + 1
  | .lit _ => 1
  | .nil => 1
  | .ptr d => uptoBulk d + 1
  | .slice elems spare => uptoBulkAll elems + uptoBulkAll spare + 1
  | .agg parts => uptoBulkAll parts + 1
  | .iface _ d => uptoBulk d + 1
  | .map entries => uptoBulkEntries entries + 1
  | .held _ => 1
def uptoBulkAll {H : Type} : List (DataW H) → Nat
  | [] => 0
  | d :: r => uptoBulk d + uptoBulkAll r
def uptoBulkEntries {H : Type} : List (Lit × DataW H) → Nat
  | [] => 0
  | x :: r => uptoBulkEntry x + uptoBulkEntries r
def uptoBulkEntry {H : Type} : Lit × DataW H → Nat
  | (.string bytes, d) => bytes.length + uptoBulk d + 1
  | (_, d) => uptoBulk d + 1
 end
def uptoSmall : (H : Type) → List (DataW H) → Bool := fun _ ds => decide (uptoBulkAll ds ≤ 1048576)
def OpenSpec.upto (s : _root_.Go.ChangeSpec) : _root_.Go.OpenSpec := { _root_.Go.OpenSpec.ofChange s with cond := some uptoSmall }

/-- 'baizelaw15.MachineSteps', WHERE WHAT IT READS IS OF BULK AT MOST 1048576: true; the input reads as it did. -/
def machineStepsUptoRow : OpenClaim := { program := "yteecpkkgjioplaadoor", sum := "183ff1801fc569a7202329f2e53cfb452f9a074d259e2d57a7403c3fab3ae70f", func := "baize/baizelaw15.MachineSteps", spec := "machineSteps", unfollowed := true, recurses := true, named := ["baize/code.operations"], apart := false, laid := [("baize/code.operations", laid_baize_code_operations)], narrowed := true }
def MachineStepsUptoSaid : Prop := machineStepsUptoRow.holds Tryd.pinned (OpenSpec.upto machineStepsSpec)

/-- 'baizelaw15.MachineRuns', WHERE WHAT IT READS IS OF BULK AT MOST 1048576: true; the input reads as it did. -/
def machineRunsUptoRow : OpenClaim := { program := "yteecpkkgjioplaadoor", sum := "183ff1801fc569a7202329f2e53cfb452f9a074d259e2d57a7403c3fab3ae70f", func := "baize/baizelaw15.MachineRuns", spec := "machineRuns", unfollowed := true, recurses := true, named := ["baize/code.operations"], apart := false, laid := [("baize/code.operations", laid_baize_code_operations)], narrowed := true }
def MachineRunsUptoSaid : Prop := machineRunsUptoRow.holds Tryd.pinned (OpenSpec.upto machineRunsSpec)

/-- 'baizelaw15.MachineRests', WHERE WHAT IT READS IS OF BULK AT MOST 1048576: true; the input reads as it did. -/
def machineRestsUptoRow : OpenClaim := { program := "yteecpkkgjioplaadoor", sum := "183ff1801fc569a7202329f2e53cfb452f9a074d259e2d57a7403c3fab3ae70f", func := "baize/baizelaw15.MachineRests", spec := "machineRests", unfollowed := true, recurses := true, named := ["baize/code.operations"], apart := false, laid := [("baize/code.operations", laid_baize_code_operations)], narrowed := true }
def MachineRestsUptoSaid : Prop := machineRestsUptoRow.holds Tryd.pinned (OpenSpec.upto machineRestsSpec)

/-- 'baizelaw15.MachineApart', WHERE WHAT IT READS IS OF BULK AT MOST 1048576: true; the input reads as it did. -/
def machineApartUptoRow : OpenClaim := { program := "yteecpkkgjioplaadoor", sum := "183ff1801fc569a7202329f2e53cfb452f9a074d259e2d57a7403c3fab3ae70f", func := "baize/baizelaw15.MachineApart", spec := "machineApart", unfollowed := true, recurses := true, named := ["baize/code.operations"], apart := false, laid := [("baize/code.operations", laid_baize_code_operations)], narrowed := true }
def MachineApartUptoSaid : Prop := machineApartUptoRow.holds Tryd.pinned (OpenSpec.upto machineApartSpec)

/-- 'baizelaw15.MachineNews', WHERE WHAT IT READS IS OF BULK AT MOST 1048576: true; the input reads as it did. -/
def machineNewsUptoRow : OpenClaim := { program := "yteecpkkgjioplaadoor", sum := "183ff1801fc569a7202329f2e53cfb452f9a074d259e2d57a7403c3fab3ae70f", func := "baize/baizelaw15.MachineNews", spec := "machineNews", unfollowed := true, recurses := true, named := ["baize/code.operations"], apart := false, laid := [("baize/code.operations", laid_baize_code_operations)], narrowed := true }
def MachineNewsUptoSaid : Prop := machineNewsUptoRow.holds Tryd.pinned (OpenSpec.upto machineNewsSpec)

/-- 'baizelaw15.MachineWrites', WHERE WHAT IT READS IS OF BULK AT MOST 1048576: true; the input reads as it did. -/
def machineWritesUptoRow : OpenClaim := { program := "yteecpkkgjioplaadoor", sum := "183ff1801fc569a7202329f2e53cfb452f9a074d259e2d57a7403c3fab3ae70f", func := "baize/baizelaw15.MachineWrites", spec := "machineWrites", unfollowed := true, recurses := true, named := ["baize/code.operations"], apart := false, laid := [("baize/code.operations", laid_baize_code_operations)], narrowed := true }
def MachineWritesUptoSaid : Prop := machineWritesUptoRow.holds Tryd.pinned (OpenSpec.upto machineWritesSpec)

/-- 'baizelaw15.MachineHangs', WHERE WHAT IT READS IS OF BULK AT MOST 1048576: true; the input reads as it did. -/
def machineHangsUptoRow : OpenClaim := { program := "yteecpkkgjioplaadoor", sum := "183ff1801fc569a7202329f2e53cfb452f9a074d259e2d57a7403c3fab3ae70f", func := "baize/baizelaw15.MachineHangs", spec := "machineHangs", unfollowed := true, recurses := true, named := ["baize/code.operations"], apart := false, laid := [("baize/code.operations", laid_baize_code_operations)], narrowed := true }
def MachineHangsUptoSaid : Prop := machineHangsUptoRow.holds Tryd.pinned (OpenSpec.upto machineHangsSpec)

end Rows
end Go.Proofs.YteecpkkgjioplaaDoor
