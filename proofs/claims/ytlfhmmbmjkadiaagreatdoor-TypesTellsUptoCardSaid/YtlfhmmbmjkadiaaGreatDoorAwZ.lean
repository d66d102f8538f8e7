import Derived.Test.YtlfhmmbmjkadiaaGreatDoorAwXS
import Derived.KernelRfl
set_option linter.all false
namespace Go.Ab
set_option maxRecDepth 100000
theorem ai0:TF layS.tabH 3000 16 [] []=some ((.p (.bool true)),[]):=by kernel_rfl
noncomputable def lay0:S5 prog0 globs0:=layS.memo KW 16 [([],some ((.p (.bool true)),[]))] (by
 intro p hp;simp only[mζ,List.not_mem_nil,or_false]at hp;subst hp;exact ai0)
end Go.Ab
