/- The law VMCode, for every input that its row speaks of, out of the evaluator's run (run_VMCode): its row, its card. Conditions: none beyond the row's own. -/
import Derived.Test.YtmnmeiibmgcddaaGreatDoorCards
import Derived.Test.YtmnmeiibmgcddaaGreatDoorTie
import Derived.Test.YtmnmeiibmgcddaaGreatDoorLeVMCode
import Derived.Test.YtmnmeiibmgcddaaGreatDoorLfVMCode
import Derived.LaidSub
import Derived.WalkKit
import Derived.ProofKit
import Derived.OpenShut
import Derived.Deep.DeepHandedRow
import Derived.Deep.DeepWitnessRowRef
import Derived.Lib.LaidIn
import Derived.Stop.LaidErr
set_option linter.all false
namespace Go.Proofs.YtmnmeiibmgcddaaGreatDoor.vMCode
open Go.ChangeShapes Go.WideShapes Go.ChangeAt Go.RowKit
theorem card : Rows.VMCodeUptoCardSaid :=
  Claim7.holds_tied_plain_at .later [] _ _ _ _ said (fun _ h => by cases h) (by kernel_rfl) (fun _ h => by cases h) vMCodeUpto_row_tie rfl ⟨rfl, rfl⟩ (by kernel_rfl) rfl plain goesE
end Go.Proofs.YtmnmeiibmgcddaaGreatDoor.vMCode
namespace Go.Proofs.YtmnmeiibmgcddaaGreatDoor
theorem vMCodeUpto_holds : Rows.VMCodeUptoCardSaid := vMCode.card
end Go.Proofs.YtmnmeiibmgcddaaGreatDoor
