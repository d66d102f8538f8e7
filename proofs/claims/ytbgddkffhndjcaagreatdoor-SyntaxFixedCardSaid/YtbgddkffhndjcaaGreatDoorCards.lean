/-
  DERIVED. GIVEN WITH THE SEED: THE CARDS: each row of YtbgddkffhndjcaaGreatDoorRows.lean that lists a variable, with what it lists TIED to the program's text (the seventh form; the later family's looks); each row that meets fmt, with fmt's text TOLD by the authors' own Lean function (tested against real Go, not proved from fmt's source: count such statements apart). THE CARD IS WHAT COUNTS. Prove the row's statement (the work); the ties are given (YtbgddkffhndjcaaGreatDoorTie.lean); close each card by the builder's one call (the guide's Derived/Test/ToyasCard.lean, 'card_holds'). Laid BY PROGRAM, IN A SANDBOX (cutbox-door.mjs). By AI agents, Wed Nov 11 2026. No macro, syntax, notation, axiom, sorry.
-/
import Derived.Test.YtbgddkffhndjcaaGreatDoorRows
import GoSem.ClaimSeven
namespace Go.Proofs.YtbgddkffhndjcaaGreatDoor
namespace Rows

/-- THE TIED CARD OF 'actorgridlaw18.SyntaxBack'. -/
def syntaxBackCard : Claim7 := { stood := { row := syntaxBackRow, standIns := [], harness := (true, "b346379b5a1e85c7710ceea853d29231efbb8ac0682c97332675e8392710b616"), looks := true }, kinds := [], alts := [], laidByText := true, laidKinds := [.data, .data, .data, .sentinel, .sentinel], laidTests := true, laidLooks := .later }
def SyntaxBackCardSaid : Prop := Claim7.holds Tryz.pinned (.plain (OpenSpec.ofChange syntaxBackSpec)) syntaxBackCard

/-- THE TIED CARD OF 'actorgridlaw18.SyntaxFixed'. -/
def syntaxFixedCard : Claim7 := { stood := { row := syntaxFixedRow, standIns := [], harness := (true, "b346379b5a1e85c7710ceea853d29231efbb8ac0682c97332675e8392710b616"), looks := true }, kinds := [], alts := [], laidByText := true, laidKinds := [.data, .data, .data, .sentinel, .sentinel], laidTests := true, laidLooks := .later }
def SyntaxFixedCardSaid : Prop := Claim7.holds Tryz.pinned (.plain (OpenSpec.ofChange syntaxFixedSpec)) syntaxFixedCard

/-- THE TIED CARD OF 'actorgridlaw18.SyntaxParens'. -/
def syntaxParensCard : Claim7 := { stood := { row := syntaxParensRow, standIns := [], harness := (true, "b346379b5a1e85c7710ceea853d29231efbb8ac0682c97332675e8392710b616"), looks := true }, kinds := [], alts := [], laidByText := true, laidKinds := [.data, .data, .data, .sentinel, .sentinel], laidTests := true, laidLooks := .later }
def SyntaxParensCardSaid : Prop := Claim7.holds Tryz.pinned (.plain (OpenSpec.ofChange syntaxParensSpec)) syntaxParensCard

/-- THE TIED CARD OF 'actorgridlaw18.SyntaxCuts'. -/
def syntaxCutsCard : Claim7 := { stood := { row := syntaxCutsRow, standIns := [], harness := (true, "b346379b5a1e85c7710ceea853d29231efbb8ac0682c97332675e8392710b616"), looks := true }, kinds := [], alts := [], laidByText := true, laidKinds := [.data, .data, .data, .sentinel, .sentinel], laidTests := true, laidLooks := .later }
def SyntaxCutsCardSaid : Prop := Claim7.holds Tryz.pinned (.plain (OpenSpec.ofChange syntaxCutsSpec)) syntaxCutsCard

/-- THE SECOND FORM's CARD OF 'actorgridlaw18.SyntaxBack'. -/
def syntaxBackUptoCard : Claim7 := { stood := { row := syntaxBackUptoRow, standIns := [], harness := (true, "b346379b5a1e85c7710ceea853d29231efbb8ac0682c97332675e8392710b616"), looks := true }, kinds := [], alts := [], laidByText := true, laidKinds := [.data, .data, .data, .sentinel, .sentinel], laidTests := true, laidLooks := .later }
def SyntaxBackUptoCardSaid : Prop := Claim7.holds Tryz.pinned (.plain (OpenSpec.upto syntaxBackSpec)) syntaxBackUptoCard

/-- THE SECOND FORM's CARD OF 'actorgridlaw18.SyntaxFixed'. -/
def syntaxFixedUptoCard : Claim7 := { stood := { row := syntaxFixedUptoRow, standIns := [], harness := (true, "b346379b5a1e85c7710ceea853d29231efbb8ac0682c97332675e8392710b616"), looks := true }, kinds := [], alts := [], laidByText := true, laidKinds := [.data, .data, .data, .sentinel, .sentinel], laidTests := true, laidLooks := .later }
def SyntaxFixedUptoCardSaid : Prop := Claim7.holds Tryz.pinned (.plain (OpenSpec.upto syntaxFixedSpec)) syntaxFixedUptoCard

/-- THE SECOND FORM's CARD OF 'actorgridlaw18.SyntaxParens'. -/
def syntaxParensUptoCard : Claim7 := { stood := { row := syntaxParensUptoRow, standIns := [], harness := (true, "b346379b5a1e85c7710ceea853d29231efbb8ac0682c97332675e8392710b616"), looks := true }, kinds := [], alts := [], laidByText := true, laidKinds := [.data, .data, .data, .sentinel, .sentinel], laidTests := true, laidLooks := .later }
def SyntaxParensUptoCardSaid : Prop := Claim7.holds Tryz.pinned (.plain (OpenSpec.upto syntaxParensSpec)) syntaxParensUptoCard

/-- THE SECOND FORM's CARD OF 'actorgridlaw18.SyntaxCuts'. -/
def syntaxCutsUptoCard : Claim7 := { stood := { row := syntaxCutsUptoRow, standIns := [], harness := (true, "b346379b5a1e85c7710ceea853d29231efbb8ac0682c97332675e8392710b616"), looks := true }, kinds := [], alts := [], laidByText := true, laidKinds := [.data, .data, .data, .sentinel, .sentinel], laidTests := true, laidLooks := .later }
def SyntaxCutsUptoCardSaid : Prop := Claim7.holds Tryz.pinned (.plain (OpenSpec.upto syntaxCutsSpec)) syntaxCutsUptoCard
end Rows
end Go.Proofs.YtbgddkffhndjcaaGreatDoor
