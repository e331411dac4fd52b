/-
  DERIVED. GIVEN WITH THE SEED: THE CARDS: each row of YteecpkkgjioplaaDoorRows.lean that lists a variable, with what it lists TIED to the program's text (the seventh form; the later family's looks); each row that meets fmt, with fmt's text TOLD by the authors' own Lean function (tested against real Go, not proved from fmt's source: count such statements apart). THE CARD IS WHAT COUNTS. Prove the row's statement (the work); the ties are given (YteecpkkgjioplaaDoorTie.lean); close each card by the builder's one call (the guide's Derived/Test/ToyasCard.lean, 'card_holds'). Laid BY PROGRAM, IN A SANDBOX (cutbox-door.mjs). By AI agents, Wed Nov 11 2026. No macro, syntax, notation, axiom, sorry.
-/
import Derived.Test.YteecpkkgjioplaaDoorRows
import GoSem.ClaimSeven
namespace Go.Proofs.YteecpkkgjioplaaDoor
namespace Rows

/-- THE TIED CARD OF 'baizelaw15.MachineSteps'. -/
def machineStepsCard : Claim7 := { stood := { row := machineStepsRow, standIns := [], harness := (true, "86947f2b7cd82adea9bb62cc9dce10efcf1c3d7120d30f8d1ae1b8dc18afa626"), looks := false }, kinds := [], alts := [], laidByText := true, laidKinds := [.data], laidTests := true, laidLooks := .later }
def MachineStepsCardSaid : Prop := Claim7.holds Tryd.pinned (.plain (OpenSpec.ofChange machineStepsSpec)) machineStepsCard

/-- THE TIED CARD OF 'baizelaw15.MachineRuns'. -/
def machineRunsCard : Claim7 := { stood := { row := machineRunsRow, standIns := [], harness := (true, "86947f2b7cd82adea9bb62cc9dce10efcf1c3d7120d30f8d1ae1b8dc18afa626"), looks := false }, kinds := [], alts := [], laidByText := true, laidKinds := [.data], laidTests := true, laidLooks := .later }
def MachineRunsCardSaid : Prop := Claim7.holds Tryd.pinned (.plain (OpenSpec.ofChange machineRunsSpec)) machineRunsCard

/-- THE TIED CARD OF 'baizelaw15.MachineRests'. -/
def machineRestsCard : Claim7 := { stood := { row := machineRestsRow, standIns := [], harness := (true, "86947f2b7cd82adea9bb62cc9dce10efcf1c3d7120d30f8d1ae1b8dc18afa626"), looks := false }, kinds := [], alts := [], laidByText := true, laidKinds := [.data], laidTests := true, laidLooks := .later }
def MachineRestsCardSaid : Prop := Claim7.holds Tryd.pinned (.plain (OpenSpec.ofChange machineRestsSpec)) machineRestsCard

/-- THE TIED CARD OF 'baizelaw15.MachineApart'. -/
def machineApartCard : Claim7 := { stood := { row := machineApartRow, standIns := [], harness := (true, "86947f2b7cd82adea9bb62cc9dce10efcf1c3d7120d30f8d1ae1b8dc18afa626"), looks := false }, kinds := [], alts := [], laidByText := true, laidKinds := [.data], laidTests := true, laidLooks := .later }
def MachineApartCardSaid : Prop := Claim7.holds Tryd.pinned (.plain (OpenSpec.ofChange machineApartSpec)) machineApartCard

/-- THE TIED CARD OF 'baizelaw15.MachineNews'. -/
def machineNewsCard : Claim7 := { stood := { row := machineNewsRow, standIns := [], harness := (true, "86947f2b7cd82adea9bb62cc9dce10efcf1c3d7120d30f8d1ae1b8dc18afa626"), looks := false }, kinds := [], alts := [], laidByText := true, laidKinds := [.data], laidTests := true, laidLooks := .later }
def MachineNewsCardSaid : Prop := Claim7.holds Tryd.pinned (.plain (OpenSpec.ofChange machineNewsSpec)) machineNewsCard

/-- THE TIED CARD OF 'baizelaw15.MachineWrites'. -/
def machineWritesCard : Claim7 := { stood := { row := machineWritesRow, standIns := [], harness := (true, "86947f2b7cd82adea9bb62cc9dce10efcf1c3d7120d30f8d1ae1b8dc18afa626"), looks := false }, kinds := [], alts := [], laidByText := true, laidKinds := [.data], laidTests := true, laidLooks := .later }
def MachineWritesCardSaid : Prop := Claim7.holds Tryd.pinned (.plain (OpenSpec.ofChange machineWritesSpec)) machineWritesCard

/-- THE TIED CARD OF 'baizelaw15.MachineHangs'. -/
def machineHangsCard : Claim7 := { stood := { row := machineHangsRow, standIns := [], harness := (true, "86947f2b7cd82adea9bb62cc9dce10efcf1c3d7120d30f8d1ae1b8dc18afa626"), looks := false }, kinds := [], alts := [], laidByText := true, laidKinds := [.data], laidTests := true, laidLooks := .later }
def MachineHangsCardSaid : Prop := Claim7.holds Tryd.pinned (.plain (OpenSpec.ofChange machineHangsSpec)) machineHangsCard

/-- THE SECOND FORM's CARD OF 'baizelaw15.MachineSteps'. -/
def machineStepsUptoCard : Claim7 := { stood := { row := machineStepsUptoRow, standIns := [], harness := (true, "86947f2b7cd82adea9bb62cc9dce10efcf1c3d7120d30f8d1ae1b8dc18afa626"), looks := false }, kinds := [], alts := [], laidByText := true, laidKinds := [.data], laidTests := true, laidLooks := .later }
def MachineStepsUptoCardSaid : Prop := Claim7.holds Tryd.pinned (.plain (OpenSpec.upto machineStepsSpec)) machineStepsUptoCard

/-- THE SECOND FORM's CARD OF 'baizelaw15.MachineRuns'. -/
def machineRunsUptoCard : Claim7 := { stood := { row := machineRunsUptoRow, standIns := [], harness := (true, "86947f2b7cd82adea9bb62cc9dce10efcf1c3d7120d30f8d1ae1b8dc18afa626"), looks := false }, kinds := [], alts := [], laidByText := true, laidKinds := [.data], laidTests := true, laidLooks := .later }
def MachineRunsUptoCardSaid : Prop := Claim7.holds Tryd.pinned (.plain (OpenSpec.upto machineRunsSpec)) machineRunsUptoCard

/-- THE SECOND FORM's CARD OF 'baizelaw15.MachineRests'. -/
def machineRestsUptoCard : Claim7 := { stood := { row := machineRestsUptoRow, standIns := [], harness := (true, "86947f2b7cd82adea9bb62cc9dce10efcf1c3d7120d30f8d1ae1b8dc18afa626"), looks := false }, kinds := [], alts := [], laidByText := true, laidKinds := [.data], laidTests := true, laidLooks := .later }
def MachineRestsUptoCardSaid : Prop := Claim7.holds Tryd.pinned (.plain (OpenSpec.upto machineRestsSpec)) machineRestsUptoCard

/-- THE SECOND FORM's CARD OF 'baizelaw15.MachineApart'. -/
def machineApartUptoCard : Claim7 := { stood := { row := machineApartUptoRow, standIns := [], harness := (true, "86947f2b7cd82adea9bb62cc9dce10efcf1c3d7120d30f8d1ae1b8dc18afa626"), looks := false }, kinds := [], alts := [], laidByText := true, laidKinds := [.data], laidTests := true, laidLooks := .later }
def MachineApartUptoCardSaid : Prop := Claim7.holds Tryd.pinned (.plain (OpenSpec.upto machineApartSpec)) machineApartUptoCard

/-- THE SECOND FORM's CARD OF 'baizelaw15.MachineNews'. -/
def machineNewsUptoCard : Claim7 := { stood := { row := machineNewsUptoRow, standIns := [], harness := (true, "86947f2b7cd82adea9bb62cc9dce10efcf1c3d7120d30f8d1ae1b8dc18afa626"), looks := false }, kinds := [], alts := [], laidByText := true, laidKinds := [.data], laidTests := true, laidLooks := .later }
def MachineNewsUptoCardSaid : Prop := Claim7.holds Tryd.pinned (.plain (OpenSpec.upto machineNewsSpec)) machineNewsUptoCard

/-- THE SECOND FORM's CARD OF 'baizelaw15.MachineWrites'. -/
def machineWritesUptoCard : Claim7 := { stood := { row := machineWritesUptoRow, standIns := [], harness := (true, "86947f2b7cd82adea9bb62cc9dce10efcf1c3d7120d30f8d1ae1b8dc18afa626"), looks := false }, kinds := [], alts := [], laidByText := true, laidKinds := [.data], laidTests := true, laidLooks := .later }
def MachineWritesUptoCardSaid : Prop := Claim7.holds Tryd.pinned (.plain (OpenSpec.upto machineWritesSpec)) machineWritesUptoCard

/-- THE SECOND FORM's CARD OF 'baizelaw15.MachineHangs'. -/
def machineHangsUptoCard : Claim7 := { stood := { row := machineHangsUptoRow, standIns := [], harness := (true, "86947f2b7cd82adea9bb62cc9dce10efcf1c3d7120d30f8d1ae1b8dc18afa626"), looks := false }, kinds := [], alts := [], laidByText := true, laidKinds := [.data], laidTests := true, laidLooks := .later }
def MachineHangsUptoCardSaid : Prop := Claim7.holds Tryd.pinned (.plain (OpenSpec.upto machineHangsSpec)) machineHangsUptoCard
end Rows
end Go.Proofs.YteecpkkgjioplaaDoor
