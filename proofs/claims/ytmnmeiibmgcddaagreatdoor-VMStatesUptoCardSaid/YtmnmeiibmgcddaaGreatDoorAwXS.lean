import Derived.Test.YtmnmeiibmgcddaaGreatDoorAwS1
set_option linter.all false
namespace Go.Ab
open Go
set_option maxRecDepth 100000
noncomputable def Ę:List (LD×R):=[([UN],U1)]
noncomputable def layS:tR prog0 globs0:=layT.memo uT 33 Ę (by
 intro p hp;simp only[Ę,lω,List.not_mem_nil,or_false]at hp;rcases hp with rfl
 ·exact Zz)
end Go.Ab
