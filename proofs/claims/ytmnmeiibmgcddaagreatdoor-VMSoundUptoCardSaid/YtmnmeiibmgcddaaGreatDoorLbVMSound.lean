/- The law VMSound, for every input that its row speaks of, out of the evaluator's run (run_VMSound): its row, its card. Conditions: none beyond the row's own. -/
import Derived.Test.YtmnmeiibmgcddaaGreatDoorCards
import Derived.Test.YtmnmeiibmgcddaaGreatDoorTie
import Derived.Test.YtmnmeiibmgcddaaGreatDoorLaVMSound
import Derived.Test.YtmnmeiibmgcddaaGreatDoorLcVMSound
import Derived.LaidSub
import Derived.WalkKit
import Derived.ProofKit
import Derived.OpenShut
import Derived.Deep.DeepHandedRow
import Derived.Deep.DeepWitnessRowRef
import Derived.Lib.LaidIn
import Derived.Stop.LaidErr
set_option linter.all false
namespace Go.Proofs.YtmnmeiibmgcddaaGreatDoor.vMSound
open Go.ChangeShapes Go.WideShapes Go.ChangeAt Go.RowKit
set_option maxRecDepth 100000
def unfOf (P:Program)(L:List FuncId):Bool:=L.any fun g=>(P.funcs[g]?).any fun fn=>match fn.body with|some c=>c.unfollowed|none=>entryCalls fn
theorem inPlaceL:Tryz.prog.inPlaceOf cl=Rows.vMSoundUptoRow.inPlace:=by kernel_rfl
theorem unfL:unfOf Tryz.prog cl=true:=by kernel_rfl
theorem varsL:Tryz.prog.varsOf cl=Rows.vMSoundUptoRow.named:=by kernel_rfl
theorem inPlaceE:Tryz.pinned.checked.prog.inPlace 6=Rows.vMSoundUptoRow.inPlace:=(show Tryz.prog.inPlace 6=Tryz.prog.inPlaceOf (Tryz.prog.closure 6)from rfl).trans ((congrArg Tryz.prog.inPlaceOf closureE).trans inPlaceL)
theorem unfollowedE:Tryz.pinned.checked.prog.unfollowed 6=true:=(show Tryz.prog.unfollowed 6=unfOf Tryz.prog (Tryz.prog.closure 6)from rfl).trans ((congrArg (unfOf Tryz.prog) closureE).trans unfL)
theorem recursesE:Tryz.pinned.checked.prog.recurses 6=true:=by
  unfold Program.recurses
  rw[unfollowedE];rfl
theorem varsNamedE:Tryz.pinned.checked.prog.varsNamed 6=Rows.vMSoundUptoRow.named:=(show Tryz.prog.varsNamed 6=Tryz.prog.varsOf (Tryz.prog.closure 6)from rfl).trans ((congrArg Tryz.prog.varsOf closureE).trans varsL)
theorem facts:joinedFacts Tryz.pinned.checked.prog 6 Tryz.f6 (Rows.OpenSpec.upto Rows.vMSoundSpec).bare Rows.vMSoundUptoRow=true:=by
  unfold joinedFacts
  rw[inPlaceE,unfollowedE,recursesE,varsNamedE]
  kernel_rfl
theorem said:Rows.VMSoundUptoSaid:=
  OpenClaim.holds_of_cond 6 Tryz.f6 rfl rfl rfl rfl rfl rfl rfl ⟨rfl,rfl,rfl,rfl,rfl⟩ rfl rfl rfl rfl rfl (by kernel_rfl) Tryz.func6 facts
    (of_decide_eq_true (by kernel_rfl)) (by unfold Func.isWrapper;first|(rw[if_pos (by decide+kernel)];kernel_rfl)|(rw[if_neg (by decide+kernel)];exact⟨rfl,rfl⟩))
    (fun os started H enc _ F=>by rw[OpenClaim.pre_eq_preRow];exact lifted os started H enc F)
end Go.Proofs.YtmnmeiibmgcddaaGreatDoor.vMSound
