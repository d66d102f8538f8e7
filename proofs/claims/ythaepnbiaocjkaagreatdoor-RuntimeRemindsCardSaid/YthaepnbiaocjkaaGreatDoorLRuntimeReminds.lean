/- The law RuntimeReminds, for every input that its row speaks of, out of the evaluator's run (run_RuntimeReminds): its row, its card. Conditions: none beyond the row's own. -/
import Derived.Test.YthaepnbiaocjkaaGreatDoorCards
import Derived.Test.YthaepnbiaocjkaaGreatDoorTie
import Derived.Test.YthaepnbiaocjkaaGreatDoorLeRuntimeReminds
import Derived.Test.YthaepnbiaocjkaaGreatDoorLfRuntimeReminds
import Derived.LaidSub
import Derived.WalkKit
import Derived.ProofKit
import Derived.OpenShut
import Derived.Deep.DeepHandedRow
set_option linter.all false
namespace Go.Proofs.YthaepnbiaocjkaaGreatDoor.runtimeReminds
open Go.ChangeShapes Go.WideShapes Go.ChangeAt Go.RowKit
theorem card : Rows.RuntimeRemindsCardSaid :=
  Claim7.holds_tied_plain_at .later [] _ _ _ _ said (fun _ h => by cases h) (by kernel_rfl) (fun _ h => by cases h) runtimeReminds_row_tie rfl ⟨rfl, rfl⟩ (by kernel_rfl) rfl plain goesE
end Go.Proofs.YthaepnbiaocjkaaGreatDoor.runtimeReminds
namespace Go.Proofs.YthaepnbiaocjkaaGreatDoor
theorem runtimeReminds_holds : Rows.RuntimeRemindsCardSaid := runtimeReminds.card
end Go.Proofs.YthaepnbiaocjkaaGreatDoor
