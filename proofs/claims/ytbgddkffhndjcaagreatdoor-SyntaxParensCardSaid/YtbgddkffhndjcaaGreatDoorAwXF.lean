import Derived.Test.YtbgddkffhndjcaaGreatDoorAwF1
set_option linter.all false
namespace Go.Ab
open Go
set_option maxRecDepth 100000
noncomputable def layF:Db prog0 globs0:=layS.memo Ls 10 [([UD],Ue)] (by
 intro p hp;simp only[lψ,List.not_mem_nil,or_false]at hp;subst hp;exact XX)
end Go.Ab
