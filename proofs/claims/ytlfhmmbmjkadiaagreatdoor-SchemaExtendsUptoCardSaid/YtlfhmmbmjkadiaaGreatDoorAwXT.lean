import Derived.Test.YtlfhmmbmjkadiaaGreatDoorAwT1
import Derived.Test.YtlfhmmbmjkadiaaGreatDoorAwT2
set_option linter.all false
namespace Go.Ab
set_option maxRecDepth 100000
noncomputable def knT:List (List Da×R):=[([Qq],aey),([Qr],aez)]
noncomputable def layT:En prog0 globs0:=layB.memo AQ 74 knT (by
 intro p hp;simp only[knT,mγ,List.not_mem_nil,or_false]at hp;rcases hp with rfl|rfl
 ·exact aiM
 ·exact aiN)
end Go.Ab
