import Derived.Test.YtmnmeiibmgcddaaGreatDoorAwT1
set_option linter.all false
namespace Go.Ab
open Go
set_option maxRecDepth 100000
noncomputable def knT:List (LD×R):=[([ê],ú)]
noncomputable def layT:xw prog0 globs0:=layB.memo yD 73 knT (by
 intro p hp;simp only[knT,mγ,List.not_mem_nil,or_false]at hp;rcases hp with rfl
 ·exact aaH)
end Go.Ab
