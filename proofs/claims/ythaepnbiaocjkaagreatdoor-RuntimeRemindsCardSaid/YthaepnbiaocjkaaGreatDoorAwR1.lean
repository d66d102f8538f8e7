/- A known call: R1. -/
import Derived.Test.YthaepnbiaocjkaaGreatDoorAwXN
import Derived.Test.YthaepnbiaocjkaaGreatDoorAwL2
import Derived.KernelRfl
set_option linter.all false
namespace Go.Ab
set_option maxRecDepth 100000
def ct1 : List Da := [(.agg [(.str [65, 99, 99, 111, 117, 110, 116]), (.slice 7 [(.agg [(.str [98, 97, 108, 97, 110, 99, 101]), (i6 1), (i6 1), (i6 0), (.str []), (.slice 1 []), (.slice 1 [])]), (.agg [(.str [108, 111, 103]), (i6 4), (i6 4), (i6 0), (.str []), (.slice 1 []), (.slice 1 [])])]), (.slice 5 [cm1, cm2, cm3, cm4, cm5, cm6, cm7, cm8, cm9, cm10, cm11, cm12])])]
noncomputable def inR1 : List D × List Ob := ([(.agg [(.arr 0 0 1 3)])], [(.arr ct1)])
def ansR1 : R := some ((.p (i6 0)), [(.arr ct1)])
theorem runR1 : evH layN.tabH 3000 89 inR1.1 inR1.2 = ansR1 := by kernel_rfl
end Go.Ab
