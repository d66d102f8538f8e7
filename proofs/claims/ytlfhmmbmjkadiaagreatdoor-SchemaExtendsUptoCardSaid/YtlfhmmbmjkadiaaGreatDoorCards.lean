/-
  DERIVED. GIVEN WITH THE SEED: THE CARDS: each row of YtlfhmmbmjkadiaaGreatDoorRows.lean that lists a variable, with what it lists TIED to the program's text (the seventh form; the later family's looks); each row that meets fmt, with fmt's text TOLD by the authors' own Lean function (tested against real Go, not proved from fmt's source: count such statements apart). THE CARD IS WHAT COUNTS. Prove the row's statement (the work); the ties are given (YtlfhmmbmjkadiaaGreatDoorTie.lean); close each card by the builder's one call (the guide's Derived/Test/ToyasCard.lean, 'card_holds'). Laid BY PROGRAM, IN A SANDBOX (cutbox-door.mjs). By AI agents, Wed Nov 11 2026. No macro, syntax, notation, axiom, sorry.
-/
import Derived.Test.YtlfhmmbmjkadiaaGreatDoorRows
import GoSem.ClaimSeven
namespace Go.Proofs.YtlfhmmbmjkadiaaGreatDoor
namespace Rows

/-- THE TIED CARD OF 'actorgridlaw36.SchemaOf'. -/
def schemaOfCard : Claim7 := { stood := { row := schemaOfRow, standIns := [], harness := (true, "6a9eb6c7a50e541e54903c78ce95f9cd1048a13502930cb55e73a10d654440fb"), looks := true }, kinds := [], alts := [], laidByText := true, laidKinds := [.data, .data, .data], laidTests := true, laidLooks := .later }
def SchemaOfCardSaid : Prop := Claim7.holds Tryz.pinned (.plain (OpenSpec.ofChange schemaOfSpec)) schemaOfCard

/-- THE TIED CARD OF 'actorgridlaw36.SchemaExtends'. -/
def schemaExtendsCard : Claim7 := { stood := { row := schemaExtendsRow, standIns := [], harness := (true, "6a9eb6c7a50e541e54903c78ce95f9cd1048a13502930cb55e73a10d654440fb"), looks := true }, kinds := [], alts := [], laidByText := true, laidKinds := [.data, .data, .data], laidTests := true, laidLooks := .later }
def SchemaExtendsCardSaid : Prop := Claim7.holds Tryz.pinned (.plain (OpenSpec.ofChange schemaExtendsSpec)) schemaExtendsCard

/-- THE TIED CARD OF 'actorgridlaw19.TypesApart'. -/
def typesApartCard : Claim7 := { stood := { row := typesApartRow, standIns := [], harness := (true, "6a9eb6c7a50e541e54903c78ce95f9cd1048a13502930cb55e73a10d654440fb"), looks := true }, kinds := [], alts := [], laidByText := true, laidKinds := [.data, .data, .data, .sentinel, .sentinel], laidTests := true, laidLooks := .later }
def TypesApartCardSaid : Prop := Claim7.holds Tryz.pinned (.plain (OpenSpec.ofChange typesApartSpec)) typesApartCard

/-- THE TIED CARD OF 'actorgridlaw19.TypesTells'. -/
def typesTellsCard : Claim7 := { stood := { row := typesTellsRow, standIns := [], harness := (true, "6a9eb6c7a50e541e54903c78ce95f9cd1048a13502930cb55e73a10d654440fb"), looks := true }, kinds := [], alts := [], laidByText := true, laidKinds := [.data, .data, .data, .sentinel, .sentinel], laidTests := true, laidLooks := .later }
def TypesTellsCardSaid : Prop := Claim7.holds Tryz.pinned (.plain (OpenSpec.ofChange typesTellsSpec)) typesTellsCard

/-- THE TIED CARD OF 'actorgridlaw19.TypesSlots'. -/
def typesSlotsCard : Claim7 := { stood := { row := typesSlotsRow, standIns := [], harness := (true, "6a9eb6c7a50e541e54903c78ce95f9cd1048a13502930cb55e73a10d654440fb"), looks := true }, kinds := [], alts := [], laidByText := true, laidKinds := [.data, .data, .data, .sentinel, .sentinel], laidTests := true, laidLooks := .later }
def TypesSlotsCardSaid : Prop := Claim7.holds Tryz.pinned (.plain (OpenSpec.ofChange typesSlotsSpec)) typesSlotsCard

/-- THE SECOND FORM's CARD OF 'actorgridlaw36.SchemaOf'. -/
def schemaOfUptoCard : Claim7 := { stood := { row := schemaOfUptoRow, standIns := [], harness := (true, "6a9eb6c7a50e541e54903c78ce95f9cd1048a13502930cb55e73a10d654440fb"), looks := true }, kinds := [], alts := [], laidByText := true, laidKinds := [.data, .data, .data], laidTests := true, laidLooks := .later }
def SchemaOfUptoCardSaid : Prop := Claim7.holds Tryz.pinned (.plain (OpenSpec.upto schemaOfSpec)) schemaOfUptoCard

/-- THE SECOND FORM's CARD OF 'actorgridlaw36.SchemaExtends'. -/
def schemaExtendsUptoCard : Claim7 := { stood := { row := schemaExtendsUptoRow, standIns := [], harness := (true, "6a9eb6c7a50e541e54903c78ce95f9cd1048a13502930cb55e73a10d654440fb"), looks := true }, kinds := [], alts := [], laidByText := true, laidKinds := [.data, .data, .data], laidTests := true, laidLooks := .later }
def SchemaExtendsUptoCardSaid : Prop := Claim7.holds Tryz.pinned (.plain (OpenSpec.upto schemaExtendsSpec)) schemaExtendsUptoCard

/-- THE SECOND FORM's CARD OF 'actorgridlaw19.TypesApart'. -/
def typesApartUptoCard : Claim7 := { stood := { row := typesApartUptoRow, standIns := [], harness := (true, "6a9eb6c7a50e541e54903c78ce95f9cd1048a13502930cb55e73a10d654440fb"), looks := true }, kinds := [], alts := [], laidByText := true, laidKinds := [.data, .data, .data, .sentinel, .sentinel], laidTests := true, laidLooks := .later }
def TypesApartUptoCardSaid : Prop := Claim7.holds Tryz.pinned (.plain (OpenSpec.upto typesApartSpec)) typesApartUptoCard

/-- THE SECOND FORM's CARD OF 'actorgridlaw19.TypesTells'. -/
def typesTellsUptoCard : Claim7 := { stood := { row := typesTellsUptoRow, standIns := [], harness := (true, "6a9eb6c7a50e541e54903c78ce95f9cd1048a13502930cb55e73a10d654440fb"), looks := true }, kinds := [], alts := [], laidByText := true, laidKinds := [.data, .data, .data, .sentinel, .sentinel], laidTests := true, laidLooks := .later }
def TypesTellsUptoCardSaid : Prop := Claim7.holds Tryz.pinned (.plain (OpenSpec.upto typesTellsSpec)) typesTellsUptoCard

/-- THE SECOND FORM's CARD OF 'actorgridlaw19.TypesSlots'. -/
def typesSlotsUptoCard : Claim7 := { stood := { row := typesSlotsUptoRow, standIns := [], harness := (true, "6a9eb6c7a50e541e54903c78ce95f9cd1048a13502930cb55e73a10d654440fb"), looks := true }, kinds := [], alts := [], laidByText := true, laidKinds := [.data, .data, .data, .sentinel, .sentinel], laidTests := true, laidLooks := .later }
def TypesSlotsUptoCardSaid : Prop := Claim7.holds Tryz.pinned (.plain (OpenSpec.upto typesSlotsSpec)) typesSlotsUptoCard
end Rows
end Go.Proofs.YtlfhmmbmjkadiaaGreatDoor
