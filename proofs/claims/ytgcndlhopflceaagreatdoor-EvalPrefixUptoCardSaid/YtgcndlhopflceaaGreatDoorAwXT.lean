import Derived.Test.YtgcndlhopflceaaGreatDoorAwT1
set_option linter.all false
namespace Go.Ab
open Go
set_option maxRecDepth 100000
noncomputable def knT:List (LD×R):=[([PT],ĩ)]
noncomputable def layT:Hq prog0 globs0:=layB.memo EI 24 knT (by
 intro p hp;simp only[knT,mδ,List.not_mem_nil,or_false]at hp;rcases hp with rfl
 ·exact aa6)
end Go.Ab
