/- Closed runs: N8 N9 N10 N11 N12 N13 N14. -/
import Derived.Test.YthaepnbiaocjkaaGreatDoorAwXK
import Derived.Test.YthaepnbiaocjkaaGreatDoorAwL2
import Derived.KernelRfl
set_option linter.all false
namespace Go.Ab
set_option maxRecDepth 100000
noncomputable def inN8 : List D × List Ob := ([.p (.agg [prog1]), .p (i6 0), .p (i6 7)], [])
def ansN8 : R := some ((.p cm8), [])
theorem runN8 : evH layK.tabH 3000 88 inN8.1 [] = ansN8 := by kernel_rfl
noncomputable def inN9 : List D × List Ob := ([.p (.agg [prog1]), .p (i6 0), .p (i6 8)], [])
def ansN9 : R := some ((.p cm9), [])
theorem runN9 : evH layK.tabH 3000 88 inN9.1 [] = ansN9 := by kernel_rfl
noncomputable def inN10 : List D × List Ob := ([.p (.agg [prog1]), .p (i6 0), .p (i6 9)], [])
def ansN10 : R := some ((.p cm10), [])
theorem runN10 : evH layK.tabH 3000 88 inN10.1 [] = ansN10 := by kernel_rfl
noncomputable def inN11 : List D × List Ob := ([.p (.agg [prog1]), .p (i6 0), .p (i6 10)], [])
def ansN11 : R := some ((.p cm11), [])
theorem runN11 : evH layK.tabH 3000 88 inN11.1 [] = ansN11 := by kernel_rfl
noncomputable def inN12 : List D × List Ob := ([.p (.agg [prog1]), .p (i6 0), .p (i6 11)], [])
def ansN12 : R := some ((.p cm12), [])
theorem runN12 : evH layK.tabH 3000 88 inN12.1 [] = ansN12 := by kernel_rfl
noncomputable def inN13 : List D × List Ob := ([.p (.agg [prog2]), .p (i6 0), .p (i6 0)], [])
def ansN13 : R := some ((.p cm13), [])
theorem runN13 : evH layK.tabH 3000 88 inN13.1 [] = ansN13 := by kernel_rfl
noncomputable def inN14 : List D × List Ob := ([.p (.agg [prog2]), .p (i6 0), .p (i6 1)], [])
def ansN14 : R := some ((.p cm1), [])
theorem runN14 : evH layK.tabH 3000 88 inN14.1 [] = ansN14 := by kernel_rfl
end Go.Ab
