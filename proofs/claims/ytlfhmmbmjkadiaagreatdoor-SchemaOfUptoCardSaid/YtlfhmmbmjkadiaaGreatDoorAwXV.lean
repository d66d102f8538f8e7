import Derived.Test.YtlfhmmbmjkadiaaGreatDoorAwV1
set_option linter.all false
namespace Go.Ab
set_option maxRecDepth 100000
noncomputable def knV:List (List Da×R):=[([],XA)]
noncomputable def layV:Dp prog0 globs0:=layS.memo zT 9 knV (by
 intro p hp;simp only[knV,mγ,List.not_mem_nil,or_false]at hp;subst hp;exact adX)
end Go.Ab
