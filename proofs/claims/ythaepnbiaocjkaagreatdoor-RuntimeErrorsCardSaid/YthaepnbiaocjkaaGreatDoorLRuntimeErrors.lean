/- The law RuntimeErrors, for every input that its row speaks of, out of the evaluator's run (run_RuntimeErrors): its row, its card. Conditions: none beyond the row's own. -/
import Derived.Test.YthaepnbiaocjkaaGreatDoorCards
import Derived.Test.YthaepnbiaocjkaaGreatDoorTie
import Derived.Test.YthaepnbiaocjkaaGreatDoorLeRuntimeErrors
import Derived.Test.YthaepnbiaocjkaaGreatDoorLfRuntimeErrors
import Derived.LaidSub
import Derived.WalkKit
import Derived.ProofKit
import Derived.OpenShut
import Derived.Deep.DeepHandedRow
set_option linter.all false
namespace Go.Proofs.YthaepnbiaocjkaaGreatDoor.runtimeErrors
open Go.ChangeShapes Go.WideShapes Go.ChangeAt Go.RowKit
theorem card : Rows.RuntimeErrorsCardSaid :=
  Claim7.holds_tied_plain_at .later [] _ _ _ _ said (fun _ h => by cases h) (by kernel_rfl) (fun _ h => by cases h) runtimeErrors_row_tie rfl ⟨rfl, rfl⟩ (by kernel_rfl) rfl plain goesE
end Go.Proofs.YthaepnbiaocjkaaGreatDoor.runtimeErrors
namespace Go.Proofs.YthaepnbiaocjkaaGreatDoor
theorem runtimeErrors_holds : Rows.RuntimeErrorsCardSaid := runtimeErrors.card
end Go.Proofs.YthaepnbiaocjkaaGreatDoor
