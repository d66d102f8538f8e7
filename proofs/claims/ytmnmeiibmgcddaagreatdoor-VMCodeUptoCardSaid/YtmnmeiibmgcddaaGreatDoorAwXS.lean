import Derived.Test.YtmnmeiibmgcddaaGreatDoorAwS1
set_option linter.all false
namespace Go.Ab
open Go
set_option maxRecDepth 100000
noncomputable def knS:List (LD×R):=[([ê],ù)]
noncomputable def layS:xw prog0 globs0:=layT.memo yD 33 knS (by
 intro p hp;simp only[knS,mγ,List.not_mem_nil,or_false]at hp;rcases hp with rfl
 ·exact aaG)
end Go.Ab
