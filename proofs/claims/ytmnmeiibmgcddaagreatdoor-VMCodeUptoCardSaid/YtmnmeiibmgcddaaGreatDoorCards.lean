/-
  DERIVED. GIVEN WITH THE SEED: THE CARDS: each row of YtmnmeiibmgcddaaGreatDoorRows.lean that lists a variable, with what it lists TIED to the program's text (the seventh form; the later family's looks); each row that meets fmt, with fmt's text TOLD by the authors' own Lean function (tested against real Go, not proved from fmt's source: count such statements apart). THE CARD IS WHAT COUNTS. Prove the row's statement (the work); the ties are given (YtmnmeiibmgcddaaGreatDoorTie.lean); close each card by the builder's one call (the guide's Derived/Test/ToyasCard.lean, 'card_holds'). Laid BY PROGRAM, IN A SANDBOX (cutbox-door.mjs). By AI agents, Wed Nov 11 2026. No macro, syntax, notation, axiom, sorry.
-/
import Derived.Test.YtmnmeiibmgcddaaGreatDoorRows
import GoSem.ClaimSeven
namespace Go.Proofs.YtmnmeiibmgcddaaGreatDoor
namespace Rows

/-- THE TIED CARD OF 'actorgridlaw22.VMStates'. -/
def vMStatesCard : Claim7 := { stood := { row := vMStatesRow, standIns := [], harness := (true, "c3f42c35f0f3a790d98bc15f05982298bd7653fad8de2260df42f35345442820"), looks := true }, kinds := [], alts := [], laidByText := true, laidKinds := [.data, .data, .data, .sentinel, .sentinel], laidTests := true, laidLooks := .later }
def VMStatesCardSaid : Prop := Claim7.holds Tryz.pinned (.plain (OpenSpec.ofChange vMStatesSpec)) vMStatesCard

/-- THE TIED CARD OF 'actorgridlaw22.VMRuns'. -/
def vMRunsCard : Claim7 := { stood := { row := vMRunsRow, standIns := [], harness := (true, "c3f42c35f0f3a790d98bc15f05982298bd7653fad8de2260df42f35345442820"), looks := true }, kinds := [], alts := [], laidByText := true, laidKinds := [.data, .data, .data, .sentinel, .sentinel], laidTests := true, laidLooks := .later }
def VMRunsCardSaid : Prop := Claim7.holds Tryz.pinned (.plain (OpenSpec.ofChange vMRunsSpec)) vMRunsCard

/-- THE TIED CARD OF 'actorgridlaw22.VMStarts'. -/
def vMStartsCard : Claim7 := { stood := { row := vMStartsRow, standIns := [], harness := (true, "c3f42c35f0f3a790d98bc15f05982298bd7653fad8de2260df42f35345442820"), looks := true }, kinds := [], alts := [], laidByText := true, laidKinds := [.data, .data, .data, .sentinel, .sentinel], laidTests := true, laidLooks := .later }
def VMStartsCardSaid : Prop := Claim7.holds Tryz.pinned (.plain (OpenSpec.ofChange vMStartsSpec)) vMStartsCard

/-- THE TIED CARD OF 'actorgridlaw22.VMSound'. -/
def vMSoundCard : Claim7 := { stood := { row := vMSoundRow, standIns := [], harness := (true, "c3f42c35f0f3a790d98bc15f05982298bd7653fad8de2260df42f35345442820"), looks := true }, kinds := [], alts := [], laidByText := true, laidKinds := [.data, .data, .data, .sentinel, .sentinel], laidTests := true, laidLooks := .later }
def VMSoundCardSaid : Prop := Claim7.holds Tryz.pinned (.plain (OpenSpec.ofChange vMSoundSpec)) vMSoundCard

/-- THE TIED CARD OF 'actorgridlaw22.VMFuel'. -/
def vMFuelCard : Claim7 := { stood := { row := vMFuelRow, standIns := [], harness := (true, "c3f42c35f0f3a790d98bc15f05982298bd7653fad8de2260df42f35345442820"), looks := true }, kinds := [], alts := [], laidByText := true, laidKinds := [.data, .data, .data, .sentinel, .sentinel], laidTests := true, laidLooks := .later }
def VMFuelCardSaid : Prop := Claim7.holds Tryz.pinned (.plain (OpenSpec.ofChange vMFuelSpec)) vMFuelCard

/-- THE TIED CARD OF 'actorgridlaw22.VMCode'. -/
def vMCodeCard : Claim7 := { stood := { row := vMCodeRow, standIns := [], harness := (true, "c3f42c35f0f3a790d98bc15f05982298bd7653fad8de2260df42f35345442820"), looks := true }, kinds := [], alts := [], laidByText := true, laidKinds := [.data, .data, .data, .sentinel, .sentinel], laidTests := true, laidLooks := .later }
def VMCodeCardSaid : Prop := Claim7.holds Tryz.pinned (.plain (OpenSpec.ofChange vMCodeSpec)) vMCodeCard

/-- THE SECOND FORM's CARD OF 'actorgridlaw22.VMStates'. -/
def vMStatesUptoCard : Claim7 := { stood := { row := vMStatesUptoRow, standIns := [], harness := (true, "c3f42c35f0f3a790d98bc15f05982298bd7653fad8de2260df42f35345442820"), looks := true }, kinds := [], alts := [], laidByText := true, laidKinds := [.data, .data, .data, .sentinel, .sentinel], laidTests := true, laidLooks := .later }
def VMStatesUptoCardSaid : Prop := Claim7.holds Tryz.pinned (.plain (OpenSpec.upto vMStatesSpec)) vMStatesUptoCard

/-- THE SECOND FORM's CARD OF 'actorgridlaw22.VMRuns'. -/
def vMRunsUptoCard : Claim7 := { stood := { row := vMRunsUptoRow, standIns := [], harness := (true, "c3f42c35f0f3a790d98bc15f05982298bd7653fad8de2260df42f35345442820"), looks := true }, kinds := [], alts := [], laidByText := true, laidKinds := [.data, .data, .data, .sentinel, .sentinel], laidTests := true, laidLooks := .later }
def VMRunsUptoCardSaid : Prop := Claim7.holds Tryz.pinned (.plain (OpenSpec.upto vMRunsSpec)) vMRunsUptoCard

/-- THE SECOND FORM's CARD OF 'actorgridlaw22.VMStarts'. -/
def vMStartsUptoCard : Claim7 := { stood := { row := vMStartsUptoRow, standIns := [], harness := (true, "c3f42c35f0f3a790d98bc15f05982298bd7653fad8de2260df42f35345442820"), looks := true }, kinds := [], alts := [], laidByText := true, laidKinds := [.data, .data, .data, .sentinel, .sentinel], laidTests := true, laidLooks := .later }
def VMStartsUptoCardSaid : Prop := Claim7.holds Tryz.pinned (.plain (OpenSpec.upto vMStartsSpec)) vMStartsUptoCard

/-- THE SECOND FORM's CARD OF 'actorgridlaw22.VMSound'. -/
def vMSoundUptoCard : Claim7 := { stood := { row := vMSoundUptoRow, standIns := [], harness := (true, "c3f42c35f0f3a790d98bc15f05982298bd7653fad8de2260df42f35345442820"), looks := true }, kinds := [], alts := [], laidByText := true, laidKinds := [.data, .data, .data, .sentinel, .sentinel], laidTests := true, laidLooks := .later }
def VMSoundUptoCardSaid : Prop := Claim7.holds Tryz.pinned (.plain (OpenSpec.upto vMSoundSpec)) vMSoundUptoCard

/-- THE SECOND FORM's CARD OF 'actorgridlaw22.VMFuel'. -/
def vMFuelUptoCard : Claim7 := { stood := { row := vMFuelUptoRow, standIns := [], harness := (true, "c3f42c35f0f3a790d98bc15f05982298bd7653fad8de2260df42f35345442820"), looks := true }, kinds := [], alts := [], laidByText := true, laidKinds := [.data, .data, .data, .sentinel, .sentinel], laidTests := true, laidLooks := .later }
def VMFuelUptoCardSaid : Prop := Claim7.holds Tryz.pinned (.plain (OpenSpec.upto vMFuelSpec)) vMFuelUptoCard

/-- THE SECOND FORM's CARD OF 'actorgridlaw22.VMCode'. -/
def vMCodeUptoCard : Claim7 := { stood := { row := vMCodeUptoRow, standIns := [], harness := (true, "c3f42c35f0f3a790d98bc15f05982298bd7653fad8de2260df42f35345442820"), looks := true }, kinds := [], alts := [], laidByText := true, laidKinds := [.data, .data, .data, .sentinel, .sentinel], laidTests := true, laidLooks := .later }
def VMCodeUptoCardSaid : Prop := Claim7.holds Tryz.pinned (.plain (OpenSpec.upto vMCodeSpec)) vMCodeUptoCard
end Rows
end Go.Proofs.YtmnmeiibmgcddaaGreatDoor
