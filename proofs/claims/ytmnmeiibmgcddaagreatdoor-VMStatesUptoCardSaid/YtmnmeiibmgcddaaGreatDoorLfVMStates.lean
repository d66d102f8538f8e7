/- The law VMStates, for every input that its row speaks of, out of the evaluator's run (run_VMStates): its row, its card. Conditions: none beyond the row's own. -/
import Derived.Test.YtmnmeiibmgcddaaGreatDoorCards
import Derived.Test.YtmnmeiibmgcddaaGreatDoorTie
import Derived.Test.YtmnmeiibmgcddaaGreatDoorLcVMStates
import Derived.LaidSub
import Derived.WalkKit
import Derived.ProofKit
import Derived.OpenShut
import Derived.Deep.DeepHandedRow
import Derived.Deep.DeepWitnessRowRef
import Derived.Lib.LaidIn
import Derived.Stop.LaidErr
set_option linter.all false
namespace Go.Proofs.YtmnmeiibmgcddaaGreatDoor.vMStates
open Go.ChangeShapes Go.WideShapes Go.ChangeAt Go.RowKit
set_option maxRecDepth 100000
theorem goesL:(cl.any fun g=>(Tryz.prog.funcs[g]?).any Func.goes)=false:=by kernel_rfl
theorem noneGo:Tryz.prog.funcs.any Func.goes=false:=by kernel_rfl
theorem goesK:Tryz.prog.goes 3=false:=by
  have h:Tryz.prog.goes 3=((Tryz.prog.closure 3).any (fun g=>(Tryz.prog.funcs[g]?).any Func.goes)||(Tryz.prog.unfollowed 3&&Tryz.prog.funcs.any Func.goes)):=rfl
  rw[h,closureE,goesL,noneGo,Bool.and_false];rfl
theorem named : Tryz.pinned.checked.prog.funcNamed "actorgrid/actorgridlaw22.VMStates" = some 3 := by kernel_rfl
theorem goesP:Tryz.pinned.checked.prog.goes 3=false:=goesK
theorem goesE:false=Rows.vMStatesUptoRow.goesBy Tryz.pinned.checked.prog:=by
  unfold OpenClaim.goesBy Program.goesAt Program.goesFrom
  rw [show Rows.vMStatesUptoRow.func = "actorgrid/actorgridlaw22.VMStates" from rfl, named, show Rows.vMStatesUptoRow.start = .entering from rfl, Option.any_some, goesP]
  rfl
end Go.Proofs.YtmnmeiibmgcddaaGreatDoor.vMStates
