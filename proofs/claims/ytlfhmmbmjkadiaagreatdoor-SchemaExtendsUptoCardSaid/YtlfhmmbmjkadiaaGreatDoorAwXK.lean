import Derived.Test.YtlfhmmbmjkadiaaGreatDoorAwK1
import Derived.Test.YtlfhmmbmjkadiaaGreatDoorAwK2
set_option linter.all false
namespace Go.Ab
set_option maxRecDepth 100000
noncomputable def knK:List (List Da×R):=[([ag5],ael),([ag6],aem)]
noncomputable def layK:En prog0 globs0:=layV.memo AQ 18 knK (by
 intro p hp;simp only[knK,mγ,List.not_mem_nil,or_false]at hp;rcases hp with rfl|rfl
 ·exact aiz
 ·exact aiA)
end Go.Ab
