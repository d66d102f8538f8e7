/- The law EvalFails, for every input that its row speaks of, out of the evaluator's run (run_EvalFails): its row, its card. Conditions: none beyond the row's own. -/
import Derived.Test.YtgcndlhopflceaaGreatDoorCards
import Derived.Test.YtgcndlhopflceaaGreatDoorTie
import Derived.Test.YtgcndlhopflceaaGreatDoorLeEvalFails
import Derived.Test.YtgcndlhopflceaaGreatDoorLfEvalFails
import Derived.LaidSub
import Derived.WalkKit
import Derived.ProofKit
import Derived.OpenShut
import Derived.Deep.DeepHandedRow
import Derived.Deep.DeepWitnessRowRef
import Derived.Lib.LaidIn
import Derived.Stop.LaidErr
set_option linter.all false
namespace Go.Proofs.YtgcndlhopflceaaGreatDoor.evalFails
open Go.ChangeShapes Go.WideShapes Go.ChangeAt Go.RowKit
theorem card : Rows.EvalFailsUptoCardSaid :=
  Claim7.holds_tied_plain_at .later [] _ _ _ _ said (fun _ h => by cases h) (by kernel_rfl) (fun _ h => by cases h) evalFailsUpto_row_tie rfl ⟨rfl, rfl⟩ (by kernel_rfl) rfl plain goesE
end Go.Proofs.YtgcndlhopflceaaGreatDoor.evalFails
namespace Go.Proofs.YtgcndlhopflceaaGreatDoor
theorem evalFailsUpto_holds : Rows.EvalFailsUptoCardSaid := evalFails.card
end Go.Proofs.YtgcndlhopflceaaGreatDoor
