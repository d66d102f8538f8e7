/- The law VMCode, for every input that its row speaks of, out of the evaluator's run (run_VMCode): its row, its card. Conditions: none beyond the row's own. -/
import Derived.Test.YtmnmeiibmgcddaaGreatDoorCards
import Derived.Test.YtmnmeiibmgcddaaGreatDoorTie
import Derived.Test.YtmnmeiibmgcddaaGreatDoorLdVMCode
import Derived.LaidSub
import Derived.WalkKit
import Derived.ProofKit
import Derived.OpenShut
import Derived.Deep.DeepHandedRow
import Derived.Deep.DeepWitnessRowRef
import Derived.Lib.LaidIn
import Derived.Stop.LaidErr
set_option linter.all false
namespace Go.Proofs.YtmnmeiibmgcddaaGreatDoor.vMCode
open Go.ChangeShapes Go.WideShapes Go.ChangeAt Go.RowKit
theorem plain (f : FuncId) (fn : Func) (hf : Tryz.pinned.checked.prog.funcNamed "actorgrid/actorgridlaw22.VMCode" = some f) (hfn : Tryz.pinned.checked.prog.funcs[f]? = some fn) :
    true=Tryz.pinned.checked.prog.looks []∧∀(j:Nat) t,fn.params[j]?=some t→Tryz.pinned.checked.prog.wantsStandIn t=false:=by
  obtain rfl : f = 8 := Option.some.inj ((show Tryz.prog.funcNamed "actorgrid/actorgridlaw22.VMCode" = some 8 by kernel_rfl).symm.trans hf) |>.symm
  obtain rfl:fn=Tryz.f8:=(Option.some.inj (Tryz.func8.symm.trans hfn)).symm
  refine⟨looksE,fun j t ht=>?_⟩
  have hm:t∈Tryz.f8.params.toList:=by simpa using Array.mem_of_getElem? ht
  have:=List.all_eq_true.1 noStand t hm
  exact(show Tryz.prog.wantsStandIn t=false by simpa using this)
end Go.Proofs.YtmnmeiibmgcddaaGreatDoor.vMCode
