/- The law SchemaOf, for every input that its row speaks of, out of the evaluator's run (run_SchemaOf): its row, its card. Conditions: none beyond the row's own. -/
import Derived.Test.YtlfhmmbmjkadiaaGreatDoorCards
import Derived.Test.YtlfhmmbmjkadiaaGreatDoorTie
import Derived.Test.YtlfhmmbmjkadiaaGreatDoorLcSchemaOf
import Derived.LaidSub
import Derived.WalkKit
import Derived.ProofKit
import Derived.OpenShut
import Derived.Deep.DeepHandedRow
import Derived.Deep.DeepWitnessRowRef
import Derived.Lib.LaidIn
set_option linter.all false
namespace Go.Proofs.YtlfhmmbmjkadiaaGreatDoor.schemaOf
open Go.ChangeShapes Go.WideShapes Go.ChangeAt Go.RowKit
set_option maxRecDepth 100000
theorem goesL : (cl.any fun g => (Tryz.prog.funcs[g]?).any Func.goes) = false := by kernel_rfl
theorem noneGo : Tryz.prog.funcs.any Func.goes = false := by kernel_rfl
theorem goesK : Tryz.prog.goes 3 = false := by
  have h : Tryz.prog.goes 3 = ((Tryz.prog.closure 3).any (fun g => (Tryz.prog.funcs[g]?).any Func.goes) || (Tryz.prog.unfollowed 3 && Tryz.prog.funcs.any Func.goes)) := rfl
  rw [h, closureE, goesL, noneGo, Bool.and_false]; rfl
theorem named : Tryz.pinned.checked.prog.funcNamed "actorgrid/actorgridlaw36.SchemaOf" = some 3 := by kernel_rfl
theorem goesP : Tryz.pinned.checked.prog.goes 3 = false := goesK
theorem goesE : false = Rows.schemaOfUptoRow.goesBy Tryz.pinned.checked.prog := by
  unfold OpenClaim.goesBy Program.goesAt Program.goesFrom
  rw [show Rows.schemaOfUptoRow.func = "actorgrid/actorgridlaw36.SchemaOf" from rfl, named, show Rows.schemaOfUptoRow.start = .entering from rfl, Option.any_some, goesP]
  rfl
end Go.Proofs.YtlfhmmbmjkadiaaGreatDoor.schemaOf
