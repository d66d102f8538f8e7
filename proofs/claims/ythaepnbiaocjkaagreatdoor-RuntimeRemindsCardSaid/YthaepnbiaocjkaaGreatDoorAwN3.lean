/- Closed runs: N15 N16 N17 N18 N19 N20 N21. -/
import Derived.Test.YthaepnbiaocjkaaGreatDoorAwXK
import Derived.Test.YthaepnbiaocjkaaGreatDoorAwL2
import Derived.KernelRfl
set_option linter.all false
namespace Go.Ab
set_option maxRecDepth 100000
noncomputable def inN15 : List D × List Ob := ([.p (.agg [prog2]), .p (i6 0), .p (i6 2)], [])
def ansN15 : R := some ((.p cm2), [])
theorem runN15 : evH layK.tabH 3000 88 inN15.1 [] = ansN15 := by kernel_rfl
noncomputable def inN16 : List D × List Ob := ([.p (.agg [prog2]), .p (i6 0), .p (i6 3)], [])
def ansN16 : R := some ((.p cm14), [])
theorem runN16 : evH layK.tabH 3000 88 inN16.1 [] = ansN16 := by kernel_rfl
noncomputable def inN17 : List D × List Ob := ([.p (.agg [prog2]), .p (i6 0), .p (i6 4)], [])
def ansN17 : R := some ((.p cm15), [])
theorem runN17 : evH layK.tabH 3000 88 inN17.1 [] = ansN17 := by kernel_rfl
noncomputable def inN18 : List D × List Ob := ([.p (.agg [prog2]), .p (i6 0), .p (i6 5)], [])
def ansN18 : R := some ((.p cm16), [])
theorem runN18 : evH layK.tabH 3000 88 inN18.1 [] = ansN18 := by kernel_rfl
noncomputable def inN19 : List D × List Ob := ([.p (.agg [prog2]), .p (i6 0), .p (i6 6)], [])
def ansN19 : R := some ((.p cm17), [])
theorem runN19 : evH layK.tabH 3000 88 inN19.1 [] = ansN19 := by kernel_rfl
noncomputable def inN20 : List D × List Ob := ([.p (.agg [prog2]), .p (i6 0), .p (i6 7)], [])
def ansN20 : R := some ((.p cm7), [])
theorem runN20 : evH layK.tabH 3000 88 inN20.1 [] = ansN20 := by kernel_rfl
noncomputable def inN21 : List D × List Ob := ([.p (.agg [prog2]), .p (i6 0), .p (i6 8)], [])
def ansN21 : R := some ((.p cm8), [])
theorem runN21 : evH layK.tabH 3000 88 inN21.1 [] = ansN21 := by kernel_rfl
end Go.Ab
