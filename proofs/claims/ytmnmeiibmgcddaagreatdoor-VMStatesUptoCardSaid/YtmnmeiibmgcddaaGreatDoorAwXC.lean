import Derived.Test.YtmnmeiibmgcddaaGreatDoorAwC1
set_option linter.all false
namespace Go.Ab
open Go
set_option maxRecDepth 100000
noncomputable def ė:List (LD×R):=[([ZH],U0)]
noncomputable def layC:tR prog0 globs0:=layS.memo uT 34 ė (by
 intro p hp;simp only[ė,lω,List.not_mem_nil,or_false]at hp;rcases hp with rfl
 ·exact Zy)
end Go.Ab
