import Derived.Test.YtlfhmmbmjkadiaaGreatDoorAwS1
import Derived.Test.YtlfhmmbmjkadiaaGreatDoorAwS2
set_option linter.all false
namespace Go.Ab
set_option maxRecDepth 100000
noncomputable def knS:List (List Da×R):=[([Qq],aew),([Qr],aex)]
noncomputable def layS:En prog0 globs0:=layM.memo AQ 38 knS (by
 intro p hp;simp only[knS,mγ,List.not_mem_nil,or_false]at hp;rcases hp with rfl|rfl
 ·exact aiK
 ·exact aiL)
end Go.Ab
