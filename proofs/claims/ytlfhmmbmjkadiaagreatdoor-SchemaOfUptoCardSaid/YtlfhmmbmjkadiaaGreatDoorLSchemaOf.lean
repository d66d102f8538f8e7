/- The law SchemaOf, for every input that its row speaks of, out of the evaluator's run (run_SchemaOf): its row, its card. Conditions: none beyond the row's own. -/
import Derived.Test.YtlfhmmbmjkadiaaGreatDoorCards
import Derived.Test.YtlfhmmbmjkadiaaGreatDoorTie
import Derived.Test.YtlfhmmbmjkadiaaGreatDoorLeSchemaOf
import Derived.Test.YtlfhmmbmjkadiaaGreatDoorLfSchemaOf
import Derived.LaidSub
import Derived.WalkKit
import Derived.ProofKit
import Derived.OpenShut
import Derived.Deep.DeepHandedRow
import Derived.Deep.DeepWitnessRowRef
import Derived.Lib.LaidIn
set_option linter.all false
namespace Go.Proofs.YtlfhmmbmjkadiaaGreatDoor.schemaOf
open Go.ChangeShapes Go.WideShapes Go.ChangeAt Go.RowKit
theorem card : Rows.SchemaOfUptoCardSaid :=
  Claim7.holds_tied_plain_at .later [] _ _ _ _ said (fun _ h => by cases h) (by kernel_rfl) (fun _ h => by cases h) schemaOfUpto_row_tie rfl ⟨rfl, rfl⟩ (by kernel_rfl) rfl plain goesE
end Go.Proofs.YtlfhmmbmjkadiaaGreatDoor.schemaOf
namespace Go.Proofs.YtlfhmmbmjkadiaaGreatDoor
theorem schemaOfUpto_holds : Rows.SchemaOfUptoCardSaid := schemaOf.card
end Go.Proofs.YtlfhmmbmjkadiaaGreatDoor
