/- The law VMCode, for every input that its row speaks of, out of the evaluator's run (run_VMCode): its row, its card. Conditions: none beyond the row's own. -/
import Derived.Test.YtmnmeiibmgcddaaGreatDoorCards
import Derived.Test.YtmnmeiibmgcddaaGreatDoorTie
import Derived.Test.YtmnmeiibmgcddaaGreatDoorLbVMCode
import Derived.LaidSub
import Derived.WalkKit
import Derived.ProofKit
import Derived.OpenShut
import Derived.Deep.DeepHandedRow
import Derived.Deep.DeepWitnessRowRef
import Derived.Lib.LaidIn
import Derived.Stop.LaidErr
set_option linter.all false
namespace Go.Proofs.YtmnmeiibmgcddaaGreatDoor.vMCode
open Go.ChangeShapes Go.WideShapes Go.ChangeAt Go.RowKit
theorem noStand:Tryz.f8.params.toList.all (fun t=>!(Tryz.prog.wantsStandIn t))=true:=by kernel_rfl
theorem looksE:true=Tryz.pinned.checked.prog.looks []:=by kernel_rfl
end Go.Proofs.YtmnmeiibmgcddaaGreatDoor.vMCode
