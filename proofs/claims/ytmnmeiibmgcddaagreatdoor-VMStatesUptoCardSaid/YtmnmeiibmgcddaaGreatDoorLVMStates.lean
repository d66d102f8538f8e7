/- The law VMStates, for every input that its row speaks of, out of the evaluator's run (run_VMStates): its row, its card. Conditions: none beyond the row's own. -/
import Derived.Test.YtmnmeiibmgcddaaGreatDoorCards
import Derived.Test.YtmnmeiibmgcddaaGreatDoorTie
import Derived.Test.YtmnmeiibmgcddaaGreatDoorLeVMStates
import Derived.Test.YtmnmeiibmgcddaaGreatDoorLfVMStates
import Derived.LaidSub
import Derived.WalkKit
import Derived.ProofKit
import Derived.OpenShut
import Derived.Deep.DeepHandedRow
import Derived.Deep.DeepWitnessRowRef
import Derived.Lib.LaidIn
import Derived.Stop.LaidErr
set_option linter.all false
namespace Go.Proofs.YtmnmeiibmgcddaaGreatDoor.vMStates
open Go.ChangeShapes Go.WideShapes Go.ChangeAt Go.RowKit
theorem card : Rows.VMStatesUptoCardSaid :=
  Claim7.holds_tied_plain_at .later [] _ _ _ _ said (fun _ h => by cases h) (by kernel_rfl) (fun _ h => by cases h) vMStatesUpto_row_tie rfl ⟨rfl, rfl⟩ (by kernel_rfl) rfl plain goesE
end Go.Proofs.YtmnmeiibmgcddaaGreatDoor.vMStates
namespace Go.Proofs.YtmnmeiibmgcddaaGreatDoor
theorem vMStatesUpto_holds : Rows.VMStatesUptoCardSaid := vMStates.card
end Go.Proofs.YtmnmeiibmgcddaaGreatDoor
