import Derived.Test.YtbgddkffhndjcaaGreatDoorAwF1
set_option linter.all false
namespace Go.Ab
open Go
set_option maxRecDepth 100000
noncomputable def layF:Bd prog0 globs0:=layS.memo I8 10 [([Rb],QO)] (by
 intro p hp;simp only[lω,List.not_mem_nil,or_false]at hp;subst hp;exact Ug)
end Go.Ab
