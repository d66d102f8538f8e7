import Derived.Test.YtbgddkffhndjcaaGreatDoorAwT1
import Derived.Test.YtbgddkffhndjcaaGreatDoorAwT2
import Derived.Test.YtbgddkffhndjcaaGreatDoorAwT3
set_option linter.all false
namespace Go.Ab
open Go
set_option maxRecDepth 100000
noncomputable def Vw:List (List Da×R):=[([Ho],QS),([Hp],QT),([Hq],QU)]
noncomputable def layT:Bd prog0 globs0:=layB.memo I8 13 Vw (by
 intro p hp;simp only[Vw,lω,List.not_mem_nil,or_false]at hp;rcases hp with rfl|rfl|rfl
 ·exact Uk
 ·exact Ul
 ·exact Um)
end Go.Ab
