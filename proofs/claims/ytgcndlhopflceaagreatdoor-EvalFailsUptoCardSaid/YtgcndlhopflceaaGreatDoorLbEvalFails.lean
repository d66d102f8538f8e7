/- The law EvalFails, for every input that its row speaks of, out of the evaluator's run (run_EvalFails): its row, its card. Conditions: none beyond the row's own. -/
import Derived.Test.YtgcndlhopflceaaGreatDoorCards
import Derived.Test.YtgcndlhopflceaaGreatDoorTie
import Derived.Test.YtgcndlhopflceaaGreatDoorLaEvalFails
import Derived.Test.YtgcndlhopflceaaGreatDoorLcEvalFails
import Derived.LaidSub
import Derived.WalkKit
import Derived.ProofKit
import Derived.OpenShut
import Derived.Deep.DeepHandedRow
import Derived.Deep.DeepWitnessRowRef
import Derived.Lib.LaidIn
import Derived.Stop.LaidErr
set_option linter.all false
namespace Go.Proofs.YtgcndlhopflceaaGreatDoor.evalFails
open Go.ChangeShapes Go.WideShapes Go.ChangeAt Go.RowKit
set_option maxRecDepth 100000
def unfOf (P:Program)(L:List FuncId):Bool:=L.any fun g=>(P.funcs[g]?).any fun fn=>match fn.body with|some c=>c.unfollowed|none=>entryCalls fn
theorem inPlaceL:Tryz.prog.inPlaceOf cl=Rows.evalFailsUptoRow.inPlace:=by kernel_rfl
theorem unfL:unfOf Tryz.prog cl=true:=by kernel_rfl
theorem varsL:Tryz.prog.varsOf cl=Rows.evalFailsUptoRow.named:=by kernel_rfl
theorem inPlaceE:Tryz.pinned.checked.prog.inPlace 4=Rows.evalFailsUptoRow.inPlace:=(show Tryz.prog.inPlace 4=Tryz.prog.inPlaceOf (Tryz.prog.closure 4)from rfl).trans ((congrArg Tryz.prog.inPlaceOf closureE).trans inPlaceL)
theorem unfollowedE:Tryz.pinned.checked.prog.unfollowed 4=true:=(show Tryz.prog.unfollowed 4=unfOf Tryz.prog (Tryz.prog.closure 4)from rfl).trans ((congrArg (unfOf Tryz.prog) closureE).trans unfL)
theorem recursesE:Tryz.pinned.checked.prog.recurses 4=true:=by
  unfold Program.recurses
  rw[unfollowedE];rfl
theorem varsNamedE:Tryz.pinned.checked.prog.varsNamed 4=Rows.evalFailsUptoRow.named:=(show Tryz.prog.varsNamed 4=Tryz.prog.varsOf (Tryz.prog.closure 4)from rfl).trans ((congrArg Tryz.prog.varsOf closureE).trans varsL)
theorem facts:joinedFacts Tryz.pinned.checked.prog 4 Tryz.f4 (Rows.OpenSpec.upto Rows.evalFailsSpec).bare Rows.evalFailsUptoRow=true:=by
  unfold joinedFacts
  rw[inPlaceE,unfollowedE,recursesE,varsNamedE]
  kernel_rfl
theorem said:Rows.EvalFailsUptoSaid:=
  OpenClaim.holds_of_cond 4 Tryz.f4 rfl rfl rfl rfl rfl rfl rfl ⟨rfl,rfl,rfl,rfl,rfl⟩ rfl rfl rfl rfl rfl (by kernel_rfl) Tryz.func4 facts
    (of_decide_eq_true (by kernel_rfl)) (by unfold Func.isWrapper;first|(rw[if_pos (by decide+kernel)];kernel_rfl)|(rw[if_neg (by decide+kernel)];exact⟨rfl,rfl⟩))
    (fun os started H enc _ F=>by rw[OpenClaim.pre_eq_preRow];exact lifted os started H enc F)
end Go.Proofs.YtgcndlhopflceaaGreatDoor.evalFails
