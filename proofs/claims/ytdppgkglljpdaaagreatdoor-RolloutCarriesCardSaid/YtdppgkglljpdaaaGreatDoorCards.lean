/-
  DERIVED. GIVEN WITH THE SEED: THE CARDS: each row of YtdppgkglljpdaaaGreatDoorRows.lean that lists a variable, with what it lists TIED to the program's text (the seventh form; the later family's looks); each row that meets fmt, with fmt's text TOLD by the authors' own Lean function (tested against real Go, not proved from fmt's source: count such statements apart). THE CARD IS WHAT COUNTS. Prove the row's statement (the work); the ties are given (YtdppgkglljpdaaaGreatDoorTie.lean); close each card by the builder's one call (the guide's Derived/Test/ToyasCard.lean, 'card_holds'). Laid BY PROGRAM, IN A SANDBOX (cutbox-door.mjs). By AI agents, Wed Nov 11 2026. No macro, syntax, notation, axiom, sorry.
-/
import Derived.Test.YtdppgkglljpdaaaGreatDoorRows
import GoSem.ClaimSeven
namespace Go.Proofs.YtdppgkglljpdaaaGreatDoor
namespace Rows

/-- THE TIED CARD OF 'actorgridlaw37.RolloutShare'. -/
def rolloutShareCard : Claim7 := { stood := { row := rolloutShareRow, standIns := [], harness := (true, "859a2223d68ebcb7c2f7891ca6521f319d54ffcd5d6f5132d84f83a3e4b9f00a"), looks := true }, kinds := [], alts := [], laidByText := true, laidKinds := [.data, .data, .data], laidTests := true, laidLooks := .later }
def RolloutShareCardSaid : Prop := Claim7.holds Tryz.pinned (.plain (OpenSpec.ofChange rolloutShareSpec)) rolloutShareCard

/-- THE TIED CARD OF 'actorgridlaw37.RolloutCarries'. -/
def rolloutCarriesCard : Claim7 := { stood := { row := rolloutCarriesRow, standIns := [], harness := (true, "859a2223d68ebcb7c2f7891ca6521f319d54ffcd5d6f5132d84f83a3e4b9f00a"), looks := true }, kinds := [], alts := [], laidByText := true, laidKinds := [.data, .data, .data], laidTests := true, laidLooks := .later }
def RolloutCarriesCardSaid : Prop := Claim7.holds Tryz.pinned (.plain (OpenSpec.ofChange rolloutCarriesSpec)) rolloutCarriesCard

/-- THE TIED CARD OF 'actorgridlaw37.RolloutSteps'. -/
def rolloutStepsCard : Claim7 := { stood := { row := rolloutStepsRow, standIns := [], harness := (true, "859a2223d68ebcb7c2f7891ca6521f319d54ffcd5d6f5132d84f83a3e4b9f00a"), looks := true }, kinds := [], alts := [], laidByText := true, laidKinds := [.data, .data, .data], laidTests := true, laidLooks := .later }
def RolloutStepsCardSaid : Prop := Claim7.holds Tryz.pinned (.plain (OpenSpec.ofChange rolloutStepsSpec)) rolloutStepsCard

/-- THE TIED CARD OF 'actorgridlaw37.RolloutAny'. -/
def rolloutAnyCard : Claim7 := { stood := { row := rolloutAnyRow, standIns := [], harness := (true, "859a2223d68ebcb7c2f7891ca6521f319d54ffcd5d6f5132d84f83a3e4b9f00a"), looks := true }, kinds := [], alts := [], laidByText := true, laidKinds := [.data, .data, .data], laidTests := true, laidLooks := .later }
def RolloutAnyCardSaid : Prop := Claim7.holds Tryz.pinned (.plain (OpenSpec.ofChange rolloutAnySpec)) rolloutAnyCard

/-- THE TIED CARD OF 'actorgridlaw37.RolloutForward'. -/
def rolloutForwardCard : Claim7 := { stood := { row := rolloutForwardRow, standIns := [], harness := (true, "859a2223d68ebcb7c2f7891ca6521f319d54ffcd5d6f5132d84f83a3e4b9f00a"), looks := true }, kinds := [], alts := [], laidByText := true, laidKinds := [.data, .data, .data], laidTests := true, laidLooks := .later }
def RolloutForwardCardSaid : Prop := Claim7.holds Tryz.pinned (.plain (OpenSpec.ofChange rolloutForwardSpec)) rolloutForwardCard

/-- THE SECOND FORM's CARD OF 'actorgridlaw37.RolloutShare'. -/
def rolloutShareUptoCard : Claim7 := { stood := { row := rolloutShareUptoRow, standIns := [], harness := (true, "859a2223d68ebcb7c2f7891ca6521f319d54ffcd5d6f5132d84f83a3e4b9f00a"), looks := true }, kinds := [], alts := [], laidByText := true, laidKinds := [.data, .data, .data], laidTests := true, laidLooks := .later }
def RolloutShareUptoCardSaid : Prop := Claim7.holds Tryz.pinned (.plain (OpenSpec.upto rolloutShareSpec)) rolloutShareUptoCard

/-- THE SECOND FORM's CARD OF 'actorgridlaw37.RolloutCarries'. -/
def rolloutCarriesUptoCard : Claim7 := { stood := { row := rolloutCarriesUptoRow, standIns := [], harness := (true, "859a2223d68ebcb7c2f7891ca6521f319d54ffcd5d6f5132d84f83a3e4b9f00a"), looks := true }, kinds := [], alts := [], laidByText := true, laidKinds := [.data, .data, .data], laidTests := true, laidLooks := .later }
def RolloutCarriesUptoCardSaid : Prop := Claim7.holds Tryz.pinned (.plain (OpenSpec.upto rolloutCarriesSpec)) rolloutCarriesUptoCard

/-- THE SECOND FORM's CARD OF 'actorgridlaw37.RolloutSteps'. -/
def rolloutStepsUptoCard : Claim7 := { stood := { row := rolloutStepsUptoRow, standIns := [], harness := (true, "859a2223d68ebcb7c2f7891ca6521f319d54ffcd5d6f5132d84f83a3e4b9f00a"), looks := true }, kinds := [], alts := [], laidByText := true, laidKinds := [.data, .data, .data], laidTests := true, laidLooks := .later }
def RolloutStepsUptoCardSaid : Prop := Claim7.holds Tryz.pinned (.plain (OpenSpec.upto rolloutStepsSpec)) rolloutStepsUptoCard

/-- THE SECOND FORM's CARD OF 'actorgridlaw37.RolloutAny'. -/
def rolloutAnyUptoCard : Claim7 := { stood := { row := rolloutAnyUptoRow, standIns := [], harness := (true, "859a2223d68ebcb7c2f7891ca6521f319d54ffcd5d6f5132d84f83a3e4b9f00a"), looks := true }, kinds := [], alts := [], laidByText := true, laidKinds := [.data, .data, .data], laidTests := true, laidLooks := .later }
def RolloutAnyUptoCardSaid : Prop := Claim7.holds Tryz.pinned (.plain (OpenSpec.upto rolloutAnySpec)) rolloutAnyUptoCard

/-- THE SECOND FORM's CARD OF 'actorgridlaw37.RolloutForward'. -/
def rolloutForwardUptoCard : Claim7 := { stood := { row := rolloutForwardUptoRow, standIns := [], harness := (true, "859a2223d68ebcb7c2f7891ca6521f319d54ffcd5d6f5132d84f83a3e4b9f00a"), looks := true }, kinds := [], alts := [], laidByText := true, laidKinds := [.data, .data, .data], laidTests := true, laidLooks := .later }
def RolloutForwardUptoCardSaid : Prop := Claim7.holds Tryz.pinned (.plain (OpenSpec.upto rolloutForwardSpec)) rolloutForwardUptoCard
end Rows
end Go.Proofs.YtdppgkglljpdaaaGreatDoor
