/- The law VMCode, for every input that its row speaks of, out of the evaluator's run (run_VMCode): its row, its card. Conditions: none beyond the row's own. -/
import Derived.Test.YtmnmeiibmgcddaaGreatDoorCards
import Derived.Test.YtmnmeiibmgcddaaGreatDoorTie
import Derived.Test.YtmnmeiibmgcddaaGreatDoorLcVMCode
import Derived.LaidSub
import Derived.WalkKit
import Derived.ProofKit
import Derived.OpenShut
import Derived.Deep.DeepHandedRow
import Derived.Deep.DeepWitnessRowRef
import Derived.Lib.LaidIn
import Derived.Stop.LaidErr
set_option linter.all false
namespace Go.Proofs.YtmnmeiibmgcddaaGreatDoor.vMCode
open Go.ChangeShapes Go.WideShapes Go.ChangeAt Go.RowKit
set_option maxRecDepth 100000
theorem goesL:(cl.any fun g=>(Tryz.prog.funcs[g]?).any Func.goes)=false:=by kernel_rfl
theorem noneGo:Tryz.prog.funcs.any Func.goes=false:=by kernel_rfl
theorem goesK:Tryz.prog.goes 8=false:=by
  have h:Tryz.prog.goes 8=((Tryz.prog.closure 8).any (fun g=>(Tryz.prog.funcs[g]?).any Func.goes)||(Tryz.prog.unfollowed 8&&Tryz.prog.funcs.any Func.goes)):=rfl
  rw[h,closureE,goesL,noneGo,Bool.and_false];rfl
theorem named : Tryz.pinned.checked.prog.funcNamed "actorgrid/actorgridlaw22.VMCode" = some 8 := by kernel_rfl
theorem goesP:Tryz.pinned.checked.prog.goes 8=false:=goesK
theorem goesE:false=Rows.vMCodeUptoRow.goesBy Tryz.pinned.checked.prog:=by
  unfold OpenClaim.goesBy Program.goesAt Program.goesFrom
  rw [show Rows.vMCodeUptoRow.func = "actorgrid/actorgridlaw22.VMCode" from rfl, named, show Rows.vMCodeUptoRow.start = .entering from rfl, Option.any_some, goesP]
  rfl
end Go.Proofs.YtmnmeiibmgcddaaGreatDoor.vMCode
