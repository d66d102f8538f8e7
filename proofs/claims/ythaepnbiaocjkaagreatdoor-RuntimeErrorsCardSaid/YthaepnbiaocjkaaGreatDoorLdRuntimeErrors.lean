/- The law RuntimeErrors, for every input that its row speaks of, out of the evaluator's run (run_RuntimeErrors): its row, its card. Conditions: none beyond the row's own. -/
import Derived.Test.YthaepnbiaocjkaaGreatDoorCards
import Derived.Test.YthaepnbiaocjkaaGreatDoorTie
import Derived.Test.YthaepnbiaocjkaaGreatDoorLbRuntimeErrors
import Derived.LaidSub
import Derived.WalkKit
import Derived.ProofKit
import Derived.OpenShut
import Derived.Deep.DeepHandedRow
set_option linter.all false
namespace Go.Proofs.YthaepnbiaocjkaaGreatDoor.runtimeErrors
open Go.ChangeShapes Go.WideShapes Go.ChangeAt Go.RowKit
theorem noStand : Tryz.f3.params.toList.all (fun t => !(Tryz.prog.wantsStandIn t)) = true := by kernel_rfl
theorem looksE : false = Tryz.pinned.checked.prog.looks [] := by kernel_rfl
end Go.Proofs.YthaepnbiaocjkaaGreatDoor.runtimeErrors
