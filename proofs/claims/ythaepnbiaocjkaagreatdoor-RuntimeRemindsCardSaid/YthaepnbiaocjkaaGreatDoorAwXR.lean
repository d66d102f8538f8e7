/- The layer R. -/
import Derived.Test.YthaepnbiaocjkaaGreatDoorAwR1
import Derived.Test.YthaepnbiaocjkaaGreatDoorAwR2
set_option linter.all false
namespace Go.Ab
set_option maxRecDepth 100000
noncomputable def knR : List ((List D × List Ob) × R) := [(inR1, ansR1), (inR2, ansR2)]
noncomputable def layR : Lay prog0 globs0 := layN.memoH mix0 89 knR (by
  intro p hp
  simp only [knR, List.mem_cons, List.not_mem_nil, or_false] at hp
  rcases hp with rfl | rfl
  · exact runR1
  · exact runR2)
end Go.Ab
