/- The layer T. -/
import Derived.Test.YtlfhmmbmjkadiaaGreatDoorAwT1
import Derived.Test.YtlfhmmbmjkadiaaGreatDoorAwT2
import Derived.Test.YtlfhmmbmjkadiaaGreatDoorAwT3
set_option linter.all false
namespace Go.Ab
set_option maxRecDepth 100000
noncomputable def knT : List (List Da × R) := [([text1], ansT1), ([text2], ansT2), ([text3], ansT3)]
noncomputable def layT : Lay prog0 globs0 := layB.memo mix0 82 knT (by
 intro p hp
 simp only [knT, List.mem_cons, List.not_mem_nil, or_false] at hp
 rcases hp with rfl | rfl | rfl
 ·exact runT1
 ·exact runT2
 ·exact runT3)
end Go.Ab
