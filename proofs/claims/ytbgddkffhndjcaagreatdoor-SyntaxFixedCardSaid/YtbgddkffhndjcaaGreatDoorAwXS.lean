import Derived.Test.YtbgddkffhndjcaaGreatDoorAwS1
import Derived.Test.YtbgddkffhndjcaaGreatDoorAwS2
import Derived.Test.YtbgddkffhndjcaaGreatDoorAwS3
set_option linter.all false
namespace Go.Ab
open Go
set_option maxRecDepth 100000
noncomputable def knS:List (LD×R):=[([TB],aar),([TC],aas),([TD],aat)]
noncomputable def layS:IG prog0 globs0:=layT.memo VY 11 knS (by
 intro p hp;simp only[knS,mα,List.not_mem_nil,or_false]at hp;rcases hp with rfl|rfl|rfl
 ·exact aer
 ·exact aes
 ·exact aet)
end Go.Ab
