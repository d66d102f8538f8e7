/- The law EvalPrefix, for every input that its row speaks of, out of the evaluator's run (run_EvalPrefix): its row, its card. Conditions: none beyond the row's own. -/
import Derived.Test.YtgcndlhopflceaaGreatDoorCards
import Derived.Test.YtgcndlhopflceaaGreatDoorTie
import Derived.Test.YtgcndlhopflceaaGreatDoorLeEvalPrefix
import Derived.Test.YtgcndlhopflceaaGreatDoorLfEvalPrefix
import Derived.LaidSub
import Derived.WalkKit
import Derived.ProofKit
import Derived.OpenShut
import Derived.Deep.DeepHandedRow
import Derived.Deep.DeepWitnessRowRef
import Derived.Lib.LaidIn
import Derived.Stop.LaidErr
set_option linter.all false
namespace Go.Proofs.YtgcndlhopflceaaGreatDoor.evalPrefix
open Go.ChangeShapes Go.WideShapes Go.ChangeAt Go.RowKit
theorem card : Rows.EvalPrefixUptoCardSaid :=
  Claim7.holds_tied_plain_at .later [] _ _ _ _ said (fun _ h => by cases h) (by kernel_rfl) (fun _ h => by cases h) evalPrefixUpto_row_tie rfl ⟨rfl, rfl⟩ (by kernel_rfl) rfl plain goesE
end Go.Proofs.YtgcndlhopflceaaGreatDoor.evalPrefix
namespace Go.Proofs.YtgcndlhopflceaaGreatDoor
theorem evalPrefixUpto_holds : Rows.EvalPrefixUptoCardSaid := evalPrefix.card
end Go.Proofs.YtgcndlhopflceaaGreatDoor
