import Derived.Test.YtmnmeiibmgcddaaGreatDoorAwV1
set_option linter.all false
namespace Go.Ab
open Go
set_option maxRecDepth 100000
noncomputable def knV:List (LD×R):=[([aaN],û)]
noncomputable def layV:xw prog0 globs0:=layC.memo yD 29 knV (by
 intro p hp;simp only[knV,mγ,List.not_mem_nil,or_false]at hp;rcases hp with rfl
 ·exact aaI)
end Go.Ab
