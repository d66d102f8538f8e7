import Derived.Test.YtlfhmmbmjkadiaaGreatDoorAwT1
import Derived.Test.YtlfhmmbmjkadiaaGreatDoorAwT2
set_option linter.all false
namespace Go.Ab
set_option maxRecDepth 100000
noncomputable def knT:List (List Da×R):=[([Tz],adp),([TA],adq)]
noncomputable def layT:Dp prog0 globs0:=layB.memo zT 74 knT (by
 intro p hp;simp only[knT,mγ,List.not_mem_nil,or_false]at hp;rcases hp with rfl|rfl
 ·exact ahC
 ·exact ahD)
end Go.Ab
