import Derived.Test.YtmnmeiibmgcddaaGreatDoorAwV1
set_option linter.all false
namespace Go.Ab
open Go
set_option maxRecDepth 100000
noncomputable def Ě:List (LD×R):=[([ZI],U3)]
noncomputable def layV:tR prog0 globs0:=layC.memo uT 29 Ě (by
 intro p hp;simp only[Ě,lω,List.not_mem_nil,or_false]at hp;rcases hp with rfl
 ·exact ZB)
end Go.Ab
