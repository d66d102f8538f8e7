import Derived.Test.YtlfhmmbmjkadiaaGreatDoorAwV1
set_option linter.all false
namespace Go.Ab
set_option maxRecDepth 100000
noncomputable def knV:List (List Da×R):=[([],YL)]
noncomputable def layV:En prog0 globs0:=layS.memo AQ 9 knV (by
 intro p hp;simp only[knV,mγ,List.not_mem_nil,or_false]at hp;subst hp;exact ae4)
end Go.Ab
