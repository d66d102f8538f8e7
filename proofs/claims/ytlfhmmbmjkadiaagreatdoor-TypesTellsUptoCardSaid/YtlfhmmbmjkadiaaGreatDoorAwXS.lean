import Derived.Test.YtlfhmmbmjkadiaaGreatDoorAwS1
import Derived.Test.YtlfhmmbmjkadiaaGreatDoorAwS2
import Derived.Test.YtlfhmmbmjkadiaaGreatDoorAwS3
set_option linter.all false
namespace Go.Ab
set_option maxRecDepth 100000
noncomputable def knS:List (List Da×R):=[([UC],aeE),([UD],aeF),([UE],aeG)]
noncomputable def layS:S5 prog0 globs0:=layT.memo KW 51 knS (by
 intro p hp;simp only[knS,mζ,List.not_mem_nil,or_false]at hp;rcases hp with rfl|rfl|rfl
 ·exact aid
 ·exact aie
 ·exact aif)
end Go.Ab
