import Derived.Test.YtlfhmmbmjkadiaaGreatDoorAwS1
import Derived.Test.YtlfhmmbmjkadiaaGreatDoorAwS2
set_option linter.all false
namespace Go.Ab
set_option maxRecDepth 100000
noncomputable def knS:List (List Da×R):=[([Tz],adn),([TA],ado)]
noncomputable def layS:Dp prog0 globs0:=layM.memo zT 38 knS (by
 intro p hp;simp only[knS,mγ,List.not_mem_nil,or_false]at hp;rcases hp with rfl|rfl
 ·exact ahA
 ·exact ahB)
end Go.Ab
