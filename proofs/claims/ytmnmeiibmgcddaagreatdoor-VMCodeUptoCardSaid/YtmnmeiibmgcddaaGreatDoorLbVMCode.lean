/- The law VMCode, for every input that its row speaks of, out of the evaluator's run (run_VMCode): its row, its card. Conditions: none beyond the row's own. -/
import Derived.Test.YtmnmeiibmgcddaaGreatDoorCards
import Derived.Test.YtmnmeiibmgcddaaGreatDoorTie
import Derived.Test.YtmnmeiibmgcddaaGreatDoorLaVMCode
import Derived.Test.YtmnmeiibmgcddaaGreatDoorLcVMCode
import Derived.LaidSub
import Derived.WalkKit
import Derived.ProofKit
import Derived.OpenShut
import Derived.Deep.DeepHandedRow
import Derived.Deep.DeepWitnessRowRef
import Derived.Lib.LaidIn
import Derived.Stop.LaidErr
set_option linter.all false
namespace Go.Proofs.YtmnmeiibmgcddaaGreatDoor.vMCode
open Go.ChangeShapes Go.WideShapes Go.ChangeAt Go.RowKit
set_option maxRecDepth 100000
def unfOf (P:Program)(L:List FuncId):Bool:=L.any fun g=>(P.funcs[g]?).any fun fn=>match fn.body with|some c=>c.unfollowed|none=>entryCalls fn
theorem inPlaceL:Tryz.prog.inPlaceOf cl=Rows.vMCodeUptoRow.inPlace:=by kernel_rfl
theorem unfL:unfOf Tryz.prog cl=true:=by kernel_rfl
theorem varsL:Tryz.prog.varsOf cl=Rows.vMCodeUptoRow.named:=by kernel_rfl
theorem inPlaceE:Tryz.pinned.checked.prog.inPlace 8=Rows.vMCodeUptoRow.inPlace:=(show Tryz.prog.inPlace 8=Tryz.prog.inPlaceOf (Tryz.prog.closure 8)from rfl).trans ((congrArg Tryz.prog.inPlaceOf closureE).trans inPlaceL)
theorem unfollowedE:Tryz.pinned.checked.prog.unfollowed 8=true:=(show Tryz.prog.unfollowed 8=unfOf Tryz.prog (Tryz.prog.closure 8)from rfl).trans ((congrArg (unfOf Tryz.prog) closureE).trans unfL)
theorem recursesE:Tryz.pinned.checked.prog.recurses 8=true:=by
  unfold Program.recurses
  rw[unfollowedE];rfl
theorem varsNamedE:Tryz.pinned.checked.prog.varsNamed 8=Rows.vMCodeUptoRow.named:=(show Tryz.prog.varsNamed 8=Tryz.prog.varsOf (Tryz.prog.closure 8)from rfl).trans ((congrArg Tryz.prog.varsOf closureE).trans varsL)
theorem facts:joinedFacts Tryz.pinned.checked.prog 8 Tryz.f8 (Rows.OpenSpec.upto Rows.vMCodeSpec).bare Rows.vMCodeUptoRow=true:=by
  unfold joinedFacts
  rw[inPlaceE,unfollowedE,recursesE,varsNamedE]
  kernel_rfl
theorem said:Rows.VMCodeUptoSaid:=
  OpenClaim.holds_of_cond 8 Tryz.f8 rfl rfl rfl rfl rfl rfl rfl ⟨rfl,rfl,rfl,rfl,rfl⟩ rfl rfl rfl rfl rfl (by kernel_rfl) Tryz.func8 facts
    (of_decide_eq_true (by kernel_rfl)) (by unfold Func.isWrapper;first|(rw[if_pos (by decide+kernel)];kernel_rfl)|(rw[if_neg (by decide+kernel)];exact⟨rfl,rfl⟩))
    (fun os started H enc _ F=>by rw[OpenClaim.pre_eq_preRow];exact lifted os started H enc F)
end Go.Proofs.YtmnmeiibmgcddaaGreatDoor.vMCode
