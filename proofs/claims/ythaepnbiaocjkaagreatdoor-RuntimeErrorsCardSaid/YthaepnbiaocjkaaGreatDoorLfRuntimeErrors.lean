/- The law RuntimeErrors, for every input that its row speaks of, out of the evaluator's run (run_RuntimeErrors): its row, its card. Conditions: none beyond the row's own. -/
import Derived.Test.YthaepnbiaocjkaaGreatDoorCards
import Derived.Test.YthaepnbiaocjkaaGreatDoorTie
import Derived.Test.YthaepnbiaocjkaaGreatDoorLcRuntimeErrors
import Derived.LaidSub
import Derived.WalkKit
import Derived.ProofKit
import Derived.OpenShut
import Derived.Deep.DeepHandedRow
set_option linter.all false
namespace Go.Proofs.YthaepnbiaocjkaaGreatDoor.runtimeErrors
open Go.ChangeShapes Go.WideShapes Go.ChangeAt Go.RowKit
set_option maxRecDepth 100000
theorem goesL : (cl.any fun g => (Tryz.prog.funcs[g]?).any Func.goes) = false := by kernel_rfl
theorem noneGo : Tryz.prog.funcs.any Func.goes = false := by kernel_rfl
theorem goesK : Tryz.prog.goes 3 = false := by
  have h : Tryz.prog.goes 3 = ((Tryz.prog.closure 3).any (fun g => (Tryz.prog.funcs[g]?).any Func.goes) || (Tryz.prog.unfollowed 3 && Tryz.prog.funcs.any Func.goes)) := rfl
  rw [h, closureE, goesL, noneGo, Bool.and_false]; rfl
theorem named : Tryz.pinned.checked.prog.funcNamed "actorgrid/actorgridlaw38.RuntimeErrors" = some 3 := by kernel_rfl
theorem goesP : Tryz.pinned.checked.prog.goes 3 = false := goesK
theorem goesE : false = Rows.runtimeErrorsRow.goesBy Tryz.pinned.checked.prog := by
  unfold OpenClaim.goesBy Program.goesAt Program.goesFrom
  rw [show Rows.runtimeErrorsRow.func = "actorgrid/actorgridlaw38.RuntimeErrors" from rfl, named, show Rows.runtimeErrorsRow.start = .entering from rfl, Option.any_some, goesP]
  rfl
end Go.Proofs.YthaepnbiaocjkaaGreatDoor.runtimeErrors
