/- The layer S. -/
import Derived.Test.YtlfhmmbmjkadiaaGreatDoorAwS1
import Derived.Test.YtlfhmmbmjkadiaaGreatDoorAwS2
import Derived.Test.YtlfhmmbmjkadiaaGreatDoorAwS3
set_option linter.all false
namespace Go.Ab
set_option maxRecDepth 100000
noncomputable def knS : List (List Da × R) := [([text1], ansS1), ([text2], ansS2), ([text3], ansS3)]
noncomputable def layS : Lay prog0 globs0 := layT.memo mix0 51 knS (by
 intro p hp
 simp only [knS, List.mem_cons, List.not_mem_nil, or_false] at hp
 rcases hp with rfl | rfl | rfl
 ·exact runS1
 ·exact runS2
 ·exact runS3)
end Go.Ab
