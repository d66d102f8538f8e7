/- The law SchemaExtends, for every input that its row speaks of, out of the evaluator's run (run_SchemaExtends): its row, its card. Conditions: none beyond the row's own. -/
import Derived.Test.YtlfhmmbmjkadiaaGreatDoorCards
import Derived.Test.YtlfhmmbmjkadiaaGreatDoorTie
import Derived.Test.YtlfhmmbmjkadiaaGreatDoorLeSchemaExtends
import Derived.Test.YtlfhmmbmjkadiaaGreatDoorLfSchemaExtends
import Derived.LaidSub
import Derived.WalkKit
import Derived.ProofKit
import Derived.OpenShut
import Derived.Deep.DeepHandedRow
import Derived.Deep.DeepWitnessRowRef
import Derived.Lib.LaidIn
set_option linter.all false
namespace Go.Proofs.YtlfhmmbmjkadiaaGreatDoor.schemaExtends
open Go.ChangeShapes Go.WideShapes Go.ChangeAt Go.RowKit
theorem card : Rows.SchemaExtendsUptoCardSaid :=
  Claim7.holds_tied_plain_at .later [] _ _ _ _ said (fun _ h => by cases h) (by kernel_rfl) (fun _ h => by cases h) schemaExtendsUpto_row_tie rfl ⟨rfl, rfl⟩ (by kernel_rfl) rfl plain goesE
end Go.Proofs.YtlfhmmbmjkadiaaGreatDoor.schemaExtends
namespace Go.Proofs.YtlfhmmbmjkadiaaGreatDoor
theorem schemaExtendsUpto_holds : Rows.SchemaExtendsUptoCardSaid := schemaExtends.card
end Go.Proofs.YtlfhmmbmjkadiaaGreatDoor
