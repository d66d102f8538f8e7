/-
  DERIVED. GIVEN WITH THE SEED: THE CARDS: each row of YthaepnbiaocjkaaGreatDoorRows.lean that lists a variable, with what it lists TIED to the program's text (the seventh form; the later family's looks); each row that meets fmt, with fmt's text TOLD by the authors' own Lean function (tested against real Go, not proved from fmt's source: count such statements apart). THE CARD IS WHAT COUNTS. Prove the row's statement (the work); the ties are given (YthaepnbiaocjkaaGreatDoorTie.lean); close each card by the builder's one call (the guide's Derived/Test/ToyasCard.lean, 'card_holds'). Laid BY PROGRAM, IN A SANDBOX (cutbox-door.mjs). By AI agents, Wed Nov 11 2026. No macro, syntax, notation, axiom, sorry.
-/
import Derived.Test.YthaepnbiaocjkaaGreatDoorRows
import GoSem.ClaimSeven
namespace Go.Proofs.YthaepnbiaocjkaaGreatDoor
namespace Rows

/-- THE TIED CARD OF 'actorgridlaw38.RuntimeErrors'. -/
def runtimeErrorsCard : Claim7 := { stood := { row := runtimeErrorsRow, standIns := [], harness := (true, "02c22e3a27cd86309aba478713771579acfe34458cec72e1ae410b6de7cec997"), looks := false }, kinds := [], alts := [], laidByText := true, laidKinds := [.data, .data, .data], laidTests := true, laidLooks := .later }
def RuntimeErrorsCardSaid : Prop := Claim7.holds Tryz.pinned (.plain (OpenSpec.ofChange runtimeErrorsSpec)) runtimeErrorsCard

/-- THE TIED CARD OF 'actorgridlaw38.RuntimeReminds'. -/
def runtimeRemindsCard : Claim7 := { stood := { row := runtimeRemindsRow, standIns := [], harness := (true, "02c22e3a27cd86309aba478713771579acfe34458cec72e1ae410b6de7cec997"), looks := false }, kinds := [], alts := [], laidByText := true, laidKinds := [.data, .data, .data], laidTests := true, laidLooks := .later }
def RuntimeRemindsCardSaid : Prop := Claim7.holds Tryz.pinned (.plain (OpenSpec.ofChange runtimeRemindsSpec)) runtimeRemindsCard

/-- THE SECOND FORM's CARD OF 'actorgridlaw38.RuntimeErrors'. -/
def runtimeErrorsUptoCard : Claim7 := { stood := { row := runtimeErrorsUptoRow, standIns := [], harness := (true, "02c22e3a27cd86309aba478713771579acfe34458cec72e1ae410b6de7cec997"), looks := false }, kinds := [], alts := [], laidByText := true, laidKinds := [.data, .data, .data], laidTests := true, laidLooks := .later }
def RuntimeErrorsUptoCardSaid : Prop := Claim7.holds Tryz.pinned (.plain (OpenSpec.upto runtimeErrorsSpec)) runtimeErrorsUptoCard

/-- THE SECOND FORM's CARD OF 'actorgridlaw38.RuntimeReminds'. -/
def runtimeRemindsUptoCard : Claim7 := { stood := { row := runtimeRemindsUptoRow, standIns := [], harness := (true, "02c22e3a27cd86309aba478713771579acfe34458cec72e1ae410b6de7cec997"), looks := false }, kinds := [], alts := [], laidByText := true, laidKinds := [.data, .data, .data], laidTests := true, laidLooks := .later }
def RuntimeRemindsUptoCardSaid : Prop := Claim7.holds Tryz.pinned (.plain (OpenSpec.upto runtimeRemindsSpec)) runtimeRemindsUptoCard
end Rows
end Go.Proofs.YthaepnbiaocjkaaGreatDoor
