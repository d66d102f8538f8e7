/- The law VMFuel, for every input that its row speaks of, out of the evaluator's run (run_VMFuel): its row, its card. Conditions: none beyond the row's own. -/
import Derived.Test.YtmnmeiibmgcddaaGreatDoorCards
import Derived.Test.YtmnmeiibmgcddaaGreatDoorTie
import Derived.Test.YtmnmeiibmgcddaaGreatDoorLeVMFuel
import Derived.Test.YtmnmeiibmgcddaaGreatDoorLfVMFuel
import Derived.LaidSub
import Derived.WalkKit
import Derived.ProofKit
import Derived.OpenShut
import Derived.Deep.DeepHandedRow
import Derived.Deep.DeepWitnessRowRef
import Derived.Lib.LaidIn
import Derived.Stop.LaidErr
set_option linter.all false
namespace Go.Proofs.YtmnmeiibmgcddaaGreatDoor.vMFuel
open Go.ChangeShapes Go.WideShapes Go.ChangeAt Go.RowKit
theorem card : Rows.VMFuelUptoCardSaid :=
  Claim7.holds_tied_plain_at .later [] _ _ _ _ said (fun _ h => by cases h) (by kernel_rfl) (fun _ h => by cases h) vMFuelUpto_row_tie rfl ⟨rfl, rfl⟩ (by kernel_rfl) rfl plain goesE
end Go.Proofs.YtmnmeiibmgcddaaGreatDoor.vMFuel
namespace Go.Proofs.YtmnmeiibmgcddaaGreatDoor
theorem vMFuelUpto_holds : Rows.VMFuelUptoCardSaid := vMFuel.card
end Go.Proofs.YtmnmeiibmgcddaaGreatDoor
