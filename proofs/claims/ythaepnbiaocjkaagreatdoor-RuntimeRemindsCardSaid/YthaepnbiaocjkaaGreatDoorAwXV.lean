/- The layer V. -/
import Derived.Test.YthaepnbiaocjkaaGreatDoorAwV1
import Derived.Test.YthaepnbiaocjkaaGreatDoorAwV2
set_option linter.all false
namespace Go.Ab
set_option maxRecDepth 100000
noncomputable def knV : List (List Da × R) := [([(.agg [(.slice 3 [(.agg [(.str [65, 99, 99, 111, 117, 110, 116]), (.slice 7 [(.agg [(.str [98, 97, 108, 97, 110, 99, 101]), (i6 1), (i6 1), (i6 0), (.str []), (.slice 1 []), (.slice 1 [])]), (.agg [(.str [108, 111, 103]), (i6 4), (i6 4), (i6 0), (.str []), (.slice 1 []), (.slice 1 [])])]), (.slice 5 [cm1, cm2, cm3, cm4, cm5, cm6, cm7, cm8, cm9, cm10, cm11, cm12])])])])], ansV1), ([(.agg [(.slice 3 [(.agg [(.str [65, 99, 99, 111, 117, 110, 116]), (.slice 7 [(.agg [(.str [98, 97, 108, 97, 110, 99, 101]), (i6 1), (i6 1), (i6 0), (.str []), (.slice 1 []), (.slice 1 [])]), (.agg [(.str [108, 111, 103]), (i6 4), (i6 4), (i6 0), (.str []), (.slice 1 []), (.slice 1 [])]), (.agg [(.str [99, 111, 117, 110, 116]), (i6 1), (i6 1), (i6 0), (.str []), (.slice 1 []), (.slice 1 [])])]), (.slice 5 [cm13, cm1, cm2, cm14, cm15, cm16, cm17, cm7, cm8, cm9, cm10, cm11, cm12])]), (.agg [(.str [67, 111, 117, 110, 116, 101, 114]), (.slice 7 [(.agg [(.str [110]), (i6 1), (i6 1), (i6 0), (.str []), (.slice 1 []), (.slice 1 [])])]), (.slice 5 [cm18, cm19])])])])], ansV2)]
noncomputable def layV : Lay prog0 globs0 := layG.memo mix0 21 knV (by
  intro p hp
  simp only [knV, List.mem_cons, List.not_mem_nil, or_false] at hp
  rcases hp with rfl | rfl
  · exact runV1
  · exact runV2)
end Go.Ab
