/-
  DERIVED. GIVEN WITH THE SEED: THE CARDS: each row of YtgcndlhopflceaaGreatDoorRows.lean that lists a variable, with what it lists TIED to the program's text (the seventh form; the later family's looks); each row that meets fmt, with fmt's text TOLD by the authors' own Lean function (tested against real Go, not proved from fmt's source: count such statements apart). THE CARD IS WHAT COUNTS. Prove the row's statement (the work); the ties are given (YtgcndlhopflceaaGreatDoorTie.lean); close each card by the builder's one call (the guide's Derived/Test/ToyasCard.lean, 'card_holds'). Laid BY PROGRAM, IN A SANDBOX (cutbox-door.mjs). By AI agents, Wed Nov 11 2026. No macro, syntax, notation, axiom, sorry.
-/
import Derived.Test.YtgcndlhopflceaaGreatDoorRows
import GoSem.ClaimSeven
namespace Go.Proofs.YtgcndlhopflceaaGreatDoor
namespace Rows

/-- THE TIED CARD OF 'actorgridlaw23.EvalPrefix'. -/
def evalPrefixCard : Claim7 := { stood := { row := evalPrefixRow, standIns := [], harness := (true, "848003c9c5eb7bf489c065f300b9de0b9ee45497dcbcc23d981ffc2622038dc7"), looks := true }, kinds := [], alts := [], laidByText := true, laidKinds := [.data, .data, .data, .sentinel, .sentinel], laidTests := true, laidLooks := .later }
def EvalPrefixCardSaid : Prop := Claim7.holds Tryz.pinned (.plain (OpenSpec.ofChange evalPrefixSpec)) evalPrefixCard

/-- THE TIED CARD OF 'actorgridlaw23.EvalFails'. -/
def evalFailsCard : Claim7 := { stood := { row := evalFailsRow, standIns := [], harness := (true, "848003c9c5eb7bf489c065f300b9de0b9ee45497dcbcc23d981ffc2622038dc7"), looks := true }, kinds := [], alts := [], laidByText := true, laidKinds := [.data, .data, .data, .sentinel, .sentinel], laidTests := true, laidLooks := .later }
def EvalFailsCardSaid : Prop := Claim7.holds Tryz.pinned (.plain (OpenSpec.ofChange evalFailsSpec)) evalFailsCard

/-- THE SECOND FORM's CARD OF 'actorgridlaw23.EvalPrefix'. -/
def evalPrefixUptoCard : Claim7 := { stood := { row := evalPrefixUptoRow, standIns := [], harness := (true, "848003c9c5eb7bf489c065f300b9de0b9ee45497dcbcc23d981ffc2622038dc7"), looks := true }, kinds := [], alts := [], laidByText := true, laidKinds := [.data, .data, .data, .sentinel, .sentinel], laidTests := true, laidLooks := .later }
def EvalPrefixUptoCardSaid : Prop := Claim7.holds Tryz.pinned (.plain (OpenSpec.upto evalPrefixSpec)) evalPrefixUptoCard

/-- THE SECOND FORM's CARD OF 'actorgridlaw23.EvalFails'. -/
def evalFailsUptoCard : Claim7 := { stood := { row := evalFailsUptoRow, standIns := [], harness := (true, "848003c9c5eb7bf489c065f300b9de0b9ee45497dcbcc23d981ffc2622038dc7"), looks := true }, kinds := [], alts := [], laidByText := true, laidKinds := [.data, .data, .data, .sentinel, .sentinel], laidTests := true, laidLooks := .later }
def EvalFailsUptoCardSaid : Prop := Claim7.holds Tryz.pinned (.plain (OpenSpec.upto evalFailsSpec)) evalFailsUptoCard
end Rows
end Go.Proofs.YtgcndlhopflceaaGreatDoor
