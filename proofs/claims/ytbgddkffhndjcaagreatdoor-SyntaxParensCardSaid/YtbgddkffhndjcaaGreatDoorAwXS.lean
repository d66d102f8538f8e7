import Derived.Test.YtbgddkffhndjcaaGreatDoorAwS1
import Derived.Test.YtbgddkffhndjcaaGreatDoorAwS2
import Derived.Test.YtbgddkffhndjcaaGreatDoorAwS3
set_option linter.all false
namespace Go.Ab
open Go
set_option maxRecDepth 100000
noncomputable def Zt:List (List Da×R):=[([JE],Uf),([JF],Ug),([JG],Uh)]
noncomputable def layS:Db prog0 globs0:=layT.memo Ls 11 Zt (by
 intro p hp;simp only[Zt,lψ,List.not_mem_nil,or_false]at hp;rcases hp with rfl|rfl|rfl
 ·exact XY
 ·exact XZ
 ·exact X0)
end Go.Ab
