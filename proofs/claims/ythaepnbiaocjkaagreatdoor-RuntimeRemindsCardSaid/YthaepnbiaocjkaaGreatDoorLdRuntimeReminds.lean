/- The law RuntimeReminds, for every input that its row speaks of, out of the evaluator's run (run_RuntimeReminds): its row, its card. Conditions: none beyond the row's own. -/
import Derived.Test.YthaepnbiaocjkaaGreatDoorCards
import Derived.Test.YthaepnbiaocjkaaGreatDoorTie
import Derived.Test.YthaepnbiaocjkaaGreatDoorLbRuntimeReminds
import Derived.LaidSub
import Derived.WalkKit
import Derived.ProofKit
import Derived.OpenShut
import Derived.Deep.DeepHandedRow
set_option linter.all false
namespace Go.Proofs.YthaepnbiaocjkaaGreatDoor.runtimeReminds
open Go.ChangeShapes Go.WideShapes Go.ChangeAt Go.RowKit
theorem noStand : Tryz.f4.params.toList.all (fun t => !(Tryz.prog.wantsStandIn t)) = true := by kernel_rfl
theorem looksE : false = Tryz.pinned.checked.prog.looks [] := by kernel_rfl
end Go.Proofs.YthaepnbiaocjkaaGreatDoor.runtimeReminds
