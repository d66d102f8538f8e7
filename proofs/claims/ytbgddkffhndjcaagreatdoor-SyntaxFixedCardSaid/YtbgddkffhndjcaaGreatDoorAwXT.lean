import Derived.Test.YtbgddkffhndjcaaGreatDoorAwT1
import Derived.Test.YtbgddkffhndjcaaGreatDoorAwT2
import Derived.Test.YtbgddkffhndjcaaGreatDoorAwT3
set_option linter.all false
namespace Go.Ab
open Go
set_option maxRecDepth 100000
noncomputable def knT:List (LD×R):=[([TB],aau),([TC],aav),([TD],aaw)]
noncomputable def layT:IG prog0 globs0:=layB.memo VY 13 knT (by
 intro p hp;simp only[knT,mα,List.not_mem_nil,or_false]at hp;rcases hp with rfl|rfl|rfl
 ·exact aeu
 ·exact aev
 ·exact aew)
end Go.Ab
