import Derived.Test.YtlfhmmbmjkadiaaGreatDoorAwT1
import Derived.Test.YtlfhmmbmjkadiaaGreatDoorAwT2
import Derived.Test.YtlfhmmbmjkadiaaGreatDoorAwT3
set_option linter.all false
namespace Go.Ab
set_option maxRecDepth 100000
noncomputable def knT:List (List Da×R):=[([UC],aeH),([UD],aeI),([UE],aeJ)]
noncomputable def layT:S5 prog0 globs0:=layB.memo KW 82 knT (by
 intro p hp;simp only[knT,mζ,List.not_mem_nil,or_false]at hp;rcases hp with rfl|rfl|rfl
 ·exact aig
 ·exact aih
 ·exact aii)
end Go.Ab
