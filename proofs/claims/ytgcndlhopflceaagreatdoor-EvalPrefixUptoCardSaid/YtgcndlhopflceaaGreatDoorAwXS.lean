import Derived.Test.YtgcndlhopflceaaGreatDoorAwS1
set_option linter.all false
namespace Go.Ab
open Go
set_option maxRecDepth 100000
noncomputable def knS:List (LD×R):=[([PT],Ĩ)]
noncomputable def layS:Hq prog0 globs0:=layT.memo EI 10 knS (by
 intro p hp;simp only[knS,mδ,List.not_mem_nil,or_false]at hp;rcases hp with rfl
 ·exact aa5)
end Go.Ab
