import Derived.Test.YtbgddkffhndjcaaGreatDoorAwS1
import Derived.Test.YtbgddkffhndjcaaGreatDoorAwS2
import Derived.Test.YtbgddkffhndjcaaGreatDoorAwS3
set_option linter.all false
namespace Go.Ab
open Go
set_option maxRecDepth 100000
noncomputable def Vv:List (List Da×R):=[([Ho],QP),([Hp],QQ),([Hq],QR)]
noncomputable def layS:Bd prog0 globs0:=layT.memo I8 11 Vv (by
 intro p hp;simp only[Vv,lω,List.not_mem_nil,or_false]at hp;rcases hp with rfl|rfl|rfl
 ·exact Uh
 ·exact Ui
 ·exact Uj)
end Go.Ab
