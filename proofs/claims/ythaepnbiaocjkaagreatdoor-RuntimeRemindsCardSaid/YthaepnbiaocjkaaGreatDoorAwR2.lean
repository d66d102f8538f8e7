/- A known call: R2. -/
import Derived.Test.YthaepnbiaocjkaaGreatDoorAwXN
import Derived.Test.YthaepnbiaocjkaaGreatDoorAwL2
import Derived.KernelRfl
set_option linter.all false
namespace Go.Ab
set_option maxRecDepth 100000
def ct2 : List Da := [(.agg [(.str [65, 99, 99, 111, 117, 110, 116]), (.slice 7 [(.agg [(.str [98, 97, 108, 97, 110, 99, 101]), (i6 1), (i6 1), (i6 0), (.str []), (.slice 1 []), (.slice 1 [])]), (.agg [(.str [108, 111, 103]), (i6 4), (i6 4), (i6 0), (.str []), (.slice 1 []), (.slice 1 [])]), (.agg [(.str [99, 111, 117, 110, 116]), (i6 1), (i6 1), (i6 0), (.str []), (.slice 1 []), (.slice 1 [])])]), (.slice 5 [cm13, cm1, cm2, cm14, cm15, cm16, cm17, cm7, cm8, cm9, cm10, cm11, cm12])]), (.agg [(.str [67, 111, 117, 110, 116, 101, 114]), (.slice 7 [(.agg [(.str [110]), (i6 1), (i6 1), (i6 0), (.str []), (.slice 1 []), (.slice 1 [])])]), (.slice 5 [cm18, cm19])])]
noncomputable def inR2 : List D × List Ob := ([(.agg [(.arr 0 0 2 3)])], [(.arr ct2)])
def ansR2 : R := some ((.p (i6 0)), [(.arr ct2)])
theorem runR2 : evH layN.tabH 3000 89 inR2.1 inR2.2 = ansR2 := by kernel_rfl
end Go.Ab
