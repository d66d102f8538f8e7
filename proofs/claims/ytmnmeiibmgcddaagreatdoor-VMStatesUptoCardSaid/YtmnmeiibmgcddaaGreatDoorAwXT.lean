import Derived.Test.YtmnmeiibmgcddaaGreatDoorAwT1
set_option linter.all false
namespace Go.Ab
open Go
set_option maxRecDepth 100000
noncomputable def ę:List (LD×R):=[([UN],U2)]
noncomputable def layT:tR prog0 globs0:=layB.memo uT 73 ę (by
 intro p hp;simp only[ę,lω,List.not_mem_nil,or_false]at hp;rcases hp with rfl
 ·exact ZA)
end Go.Ab
