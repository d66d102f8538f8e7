/- Closed runs: C1. -/
import Derived.Test.YthaepnbiaocjkaaGreatDoorAwXR
import Derived.Test.YthaepnbiaocjkaaGreatDoorAwL
import Derived.KernelRfl
set_option linter.all false
namespace Go.Ab
set_option maxRecDepth 100000
def ansC1 : R := some ((.tup [(.p (.agg [(.slice 3 [(.agg [(.str [65, 99, 99, 111, 117, 110, 116]), (.slice 7 [(.agg [(.str [98, 97, 108, 97, 110, 99, 101]), (i6 1), (i6 1), (i6 0), (.str []), (.slice 1 []), (.slice 1 [])]), (.agg [(.str [108, 111, 103]), (i6 4), (i6 4), (i6 0), (.str []), (.slice 1 []), (.slice 1 [])])]), (.slice 5 [cm1, cm2, cm3, cm4, cm5, cm6, cm7, cm8, cm9, cm10, cm11, cm12])])])])), (.p (.agg [(i6 0), (i6 0), (i6 0)])), (.p (i6 0))]), [])
theorem runC1 : evH layR.tabH 3000 43 [.p (.agg [prog1])] [] = ansC1 := by kernel_rfl
end Go.Ab
