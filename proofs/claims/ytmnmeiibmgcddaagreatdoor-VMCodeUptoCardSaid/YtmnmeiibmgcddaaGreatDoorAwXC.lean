import Derived.Test.YtmnmeiibmgcddaaGreatDoorAwC1
set_option linter.all false
namespace Go.Ab
open Go
set_option maxRecDepth 100000
noncomputable def knC:List (LD×R):=[([aaM],ø)]
noncomputable def layC:xw prog0 globs0:=layS.memo yD 34 knC (by
 intro p hp;simp only[knC,mγ,List.not_mem_nil,or_false]at hp;rcases hp with rfl
 ·exact aaF)
end Go.Ab
