import Derived.Test.YtbgddkffhndjcaaGreatDoorAwT1
import Derived.Test.YtbgddkffhndjcaaGreatDoorAwT2
import Derived.Test.YtbgddkffhndjcaaGreatDoorAwT3
set_option linter.all false
namespace Go.Ab
open Go
set_option maxRecDepth 100000
noncomputable def Zu:List (List Da×R):=[([JE],Ui),([JF],Uj),([JG],Uk)]
noncomputable def layT:Db prog0 globs0:=layB.memo Ls 13 Zu (by
 intro p hp;simp only[Zu,lψ,List.not_mem_nil,or_false]at hp;rcases hp with rfl|rfl|rfl
 ·exact X1
 ·exact X2
 ·exact X3)
end Go.Ab
