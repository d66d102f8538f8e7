/- Closed runs: N1 N2 N3 N4 N5 N6 N7. -/
import Derived.Test.YthaepnbiaocjkaaGreatDoorAwXK
import Derived.Test.YthaepnbiaocjkaaGreatDoorAwL2
import Derived.KernelRfl
set_option linter.all false
namespace Go.Ab
set_option maxRecDepth 100000
noncomputable def inN1 : List D × List Ob := ([.p (.agg [prog1]), .p (i6 0), .p (i6 0)], [])
def ansN1 : R := some ((.p cm1), [])
theorem runN1 : evH layK.tabH 3000 88 inN1.1 [] = ansN1 := by kernel_rfl
noncomputable def inN2 : List D × List Ob := ([.p (.agg [prog1]), .p (i6 0), .p (i6 1)], [])
def ansN2 : R := some ((.p cm2), [])
theorem runN2 : evH layK.tabH 3000 88 inN2.1 [] = ansN2 := by kernel_rfl
noncomputable def inN3 : List D × List Ob := ([.p (.agg [prog1]), .p (i6 0), .p (i6 2)], [])
def ansN3 : R := some ((.p cm3), [])
theorem runN3 : evH layK.tabH 3000 88 inN3.1 [] = ansN3 := by kernel_rfl
noncomputable def inN4 : List D × List Ob := ([.p (.agg [prog1]), .p (i6 0), .p (i6 3)], [])
def ansN4 : R := some ((.p cm4), [])
theorem runN4 : evH layK.tabH 3000 88 inN4.1 [] = ansN4 := by kernel_rfl
noncomputable def inN5 : List D × List Ob := ([.p (.agg [prog1]), .p (i6 0), .p (i6 4)], [])
def ansN5 : R := some ((.p cm5), [])
theorem runN5 : evH layK.tabH 3000 88 inN5.1 [] = ansN5 := by kernel_rfl
noncomputable def inN6 : List D × List Ob := ([.p (.agg [prog1]), .p (i6 0), .p (i6 5)], [])
def ansN6 : R := some ((.p cm6), [])
theorem runN6 : evH layK.tabH 3000 88 inN6.1 [] = ansN6 := by kernel_rfl
noncomputable def inN7 : List D × List Ob := ([.p (.agg [prog1]), .p (i6 0), .p (i6 6)], [])
def ansN7 : R := some ((.p cm7), [])
theorem runN7 : evH layK.tabH 3000 88 inN7.1 [] = ansN7 := by kernel_rfl
end Go.Ab
