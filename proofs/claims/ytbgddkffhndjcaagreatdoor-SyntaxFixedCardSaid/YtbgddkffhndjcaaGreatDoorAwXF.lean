import Derived.Test.YtbgddkffhndjcaaGreatDoorAwF1
set_option linter.all false
namespace Go.Ab
open Go
set_option maxRecDepth 100000
noncomputable def layF:IG prog0 globs0:=layS.memo VY 10 [([aaY],aaq)] (by
 intro p hp;simp only[mα,List.not_mem_nil,or_false]at hp;subst hp;exact aeq)
end Go.Ab
