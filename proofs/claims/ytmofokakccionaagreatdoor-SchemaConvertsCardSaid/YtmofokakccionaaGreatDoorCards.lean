/-
  DERIVED. GIVEN WITH THE SEED: THE CARDS: each row of YtmofokakccionaaGreatDoorRows.lean that lists a variable, with what it lists TIED to the program's text (the seventh form; the later family's looks); each row that meets fmt, with fmt's text TOLD by the authors' own Lean function (tested against real Go, not proved from fmt's source: count such statements apart). THE CARD IS WHAT COUNTS. Prove the row's statement (the work); the ties are given (YtmofokakccionaaGreatDoorTie.lean); close each card by the builder's one call (the guide's Derived/Test/ToyasCard.lean, 'card_holds'). Laid BY PROGRAM, IN A SANDBOX (cutbox-door.mjs). By AI agents, Wed Nov 11 2026. No macro, syntax, notation, axiom, sorry.
-/
import Derived.Test.YtmofokakccionaaGreatDoorRows
import GoSem.ClaimSeven
namespace Go.Proofs.YtmofokakccionaaGreatDoor
namespace Rows

/-- THE TIED CARD OF 'actorgridlaw36.SchemaStates'. -/
def schemaStatesCard : Claim7 := { stood := { row := schemaStatesRow, standIns := [], harness := (true, "d90c22de18f29cc82994935c5390d1db0a6293fb5a41b02989ef26bcb816694b"), looks := true }, kinds := [], alts := [], laidByText := true, laidKinds := [.data, .data, .data], laidTests := true, laidLooks := .later }
def SchemaStatesCardSaid : Prop := Claim7.holds Tryz.pinned (.plain (OpenSpec.ofChange schemaStatesSpec)) schemaStatesCard

/-- THE TIED CARD OF 'actorgridlaw36.SchemaOf'. -/
def schemaOfCard : Claim7 := { stood := { row := schemaOfRow, standIns := [], harness := (true, "d90c22de18f29cc82994935c5390d1db0a6293fb5a41b02989ef26bcb816694b"), looks := true }, kinds := [], alts := [], laidByText := true, laidKinds := [.data, .data, .data], laidTests := true, laidLooks := .later }
def SchemaOfCardSaid : Prop := Claim7.holds Tryz.pinned (.plain (OpenSpec.ofChange schemaOfSpec)) schemaOfCard

/-- THE TIED CARD OF 'actorgridlaw36.SchemaExtends'. -/
def schemaExtendsCard : Claim7 := { stood := { row := schemaExtendsRow, standIns := [], harness := (true, "d90c22de18f29cc82994935c5390d1db0a6293fb5a41b02989ef26bcb816694b"), looks := true }, kinds := [], alts := [], laidByText := true, laidKinds := [.data, .data, .data], laidTests := true, laidLooks := .later }
def SchemaExtendsCardSaid : Prop := Claim7.holds Tryz.pinned (.plain (OpenSpec.ofChange schemaExtendsSpec)) schemaExtendsCard

/-- THE TIED CARD OF 'actorgridlaw36.SchemaConverts'. -/
def schemaConvertsCard : Claim7 := { stood := { row := schemaConvertsRow, standIns := [], harness := (true, "d90c22de18f29cc82994935c5390d1db0a6293fb5a41b02989ef26bcb816694b"), looks := true }, kinds := [], alts := [], laidByText := true, laidKinds := [.data, .data, .data], laidTests := true, laidLooks := .later }
def SchemaConvertsCardSaid : Prop := Claim7.holds Tryz.pinned (.plain (OpenSpec.ofChange schemaConvertsSpec)) schemaConvertsCard

/-- THE TIED CARD OF 'actorgridlaw36.SchemaTotal'. -/
def schemaTotalCard : Claim7 := { stood := { row := schemaTotalRow, standIns := [], harness := (true, "d90c22de18f29cc82994935c5390d1db0a6293fb5a41b02989ef26bcb816694b"), looks := true }, kinds := [], alts := [], laidByText := true, laidKinds := [.data, .data, .data], laidTests := true, laidLooks := .later }
def SchemaTotalCardSaid : Prop := Claim7.holds Tryz.pinned (.plain (OpenSpec.ofChange schemaTotalSpec)) schemaTotalCard

/-- THE TIED CARD OF 'actorgridlaw36.SchemaAssociative'. -/
def schemaAssociativeCard : Claim7 := { stood := { row := schemaAssociativeRow, standIns := [], harness := (true, "d90c22de18f29cc82994935c5390d1db0a6293fb5a41b02989ef26bcb816694b"), looks := true }, kinds := [], alts := [], laidByText := true, laidKinds := [.data, .data, .data], laidTests := true, laidLooks := .later }
def SchemaAssociativeCardSaid : Prop := Claim7.holds Tryz.pinned (.plain (OpenSpec.ofChange schemaAssociativeSpec)) schemaAssociativeCard

/-- THE SECOND FORM's CARD OF 'actorgridlaw36.SchemaStates'. -/
def schemaStatesUptoCard : Claim7 := { stood := { row := schemaStatesUptoRow, standIns := [], harness := (true, "d90c22de18f29cc82994935c5390d1db0a6293fb5a41b02989ef26bcb816694b"), looks := true }, kinds := [], alts := [], laidByText := true, laidKinds := [.data, .data, .data], laidTests := true, laidLooks := .later }
def SchemaStatesUptoCardSaid : Prop := Claim7.holds Tryz.pinned (.plain (OpenSpec.upto schemaStatesSpec)) schemaStatesUptoCard

/-- THE SECOND FORM's CARD OF 'actorgridlaw36.SchemaOf'. -/
def schemaOfUptoCard : Claim7 := { stood := { row := schemaOfUptoRow, standIns := [], harness := (true, "d90c22de18f29cc82994935c5390d1db0a6293fb5a41b02989ef26bcb816694b"), looks := true }, kinds := [], alts := [], laidByText := true, laidKinds := [.data, .data, .data], laidTests := true, laidLooks := .later }
def SchemaOfUptoCardSaid : Prop := Claim7.holds Tryz.pinned (.plain (OpenSpec.upto schemaOfSpec)) schemaOfUptoCard

/-- THE SECOND FORM's CARD OF 'actorgridlaw36.SchemaExtends'. -/
def schemaExtendsUptoCard : Claim7 := { stood := { row := schemaExtendsUptoRow, standIns := [], harness := (true, "d90c22de18f29cc82994935c5390d1db0a6293fb5a41b02989ef26bcb816694b"), looks := true }, kinds := [], alts := [], laidByText := true, laidKinds := [.data, .data, .data], laidTests := true, laidLooks := .later }
def SchemaExtendsUptoCardSaid : Prop := Claim7.holds Tryz.pinned (.plain (OpenSpec.upto schemaExtendsSpec)) schemaExtendsUptoCard

/-- THE SECOND FORM's CARD OF 'actorgridlaw36.SchemaConverts'. -/
def schemaConvertsUptoCard : Claim7 := { stood := { row := schemaConvertsUptoRow, standIns := [], harness := (true, "d90c22de18f29cc82994935c5390d1db0a6293fb5a41b02989ef26bcb816694b"), looks := true }, kinds := [], alts := [], laidByText := true, laidKinds := [.data, .data, .data], laidTests := true, laidLooks := .later }
def SchemaConvertsUptoCardSaid : Prop := Claim7.holds Tryz.pinned (.plain (OpenSpec.upto schemaConvertsSpec)) schemaConvertsUptoCard

/-- THE SECOND FORM's CARD OF 'actorgridlaw36.SchemaTotal'. -/
def schemaTotalUptoCard : Claim7 := { stood := { row := schemaTotalUptoRow, standIns := [], harness := (true, "d90c22de18f29cc82994935c5390d1db0a6293fb5a41b02989ef26bcb816694b"), looks := true }, kinds := [], alts := [], laidByText := true, laidKinds := [.data, .data, .data], laidTests := true, laidLooks := .later }
def SchemaTotalUptoCardSaid : Prop := Claim7.holds Tryz.pinned (.plain (OpenSpec.upto schemaTotalSpec)) schemaTotalUptoCard

/-- THE SECOND FORM's CARD OF 'actorgridlaw36.SchemaAssociative'. -/
def schemaAssociativeUptoCard : Claim7 := { stood := { row := schemaAssociativeUptoRow, standIns := [], harness := (true, "d90c22de18f29cc82994935c5390d1db0a6293fb5a41b02989ef26bcb816694b"), looks := true }, kinds := [], alts := [], laidByText := true, laidKinds := [.data, .data, .data], laidTests := true, laidLooks := .later }
def SchemaAssociativeUptoCardSaid : Prop := Claim7.holds Tryz.pinned (.plain (OpenSpec.upto schemaAssociativeSpec)) schemaAssociativeUptoCard
end Rows
end Go.Proofs.YtmofokakccionaaGreatDoor
