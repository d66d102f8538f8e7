/- Closed runs: N22 N23 N24 N25 N26 N27. -/
import Derived.Test.YthaepnbiaocjkaaGreatDoorAwXK
import Derived.Test.YthaepnbiaocjkaaGreatDoorAwL2
import Derived.KernelRfl
set_option linter.all false
namespace Go.Ab
set_option maxRecDepth 100000
noncomputable def inN22 : List D × List Ob := ([.p (.agg [prog2]), .p (i6 0), .p (i6 9)], [])
def ansN22 : R := some ((.p cm9), [])
theorem runN22 : evH layK.tabH 3000 88 inN22.1 [] = ansN22 := by kernel_rfl
noncomputable def inN23 : List D × List Ob := ([.p (.agg [prog2]), .p (i6 0), .p (i6 10)], [])
def ansN23 : R := some ((.p cm10), [])
theorem runN23 : evH layK.tabH 3000 88 inN23.1 [] = ansN23 := by kernel_rfl
noncomputable def inN24 : List D × List Ob := ([.p (.agg [prog2]), .p (i6 0), .p (i6 11)], [])
def ansN24 : R := some ((.p cm11), [])
theorem runN24 : evH layK.tabH 3000 88 inN24.1 [] = ansN24 := by kernel_rfl
noncomputable def inN25 : List D × List Ob := ([.p (.agg [prog2]), .p (i6 0), .p (i6 12)], [])
def ansN25 : R := some ((.p cm12), [])
theorem runN25 : evH layK.tabH 3000 88 inN25.1 [] = ansN25 := by kernel_rfl
noncomputable def inN26 : List D × List Ob := ([.p (.agg [prog2]), .p (i6 1), .p (i6 0)], [])
def ansN26 : R := some ((.p cm18), [])
theorem runN26 : evH layK.tabH 3000 88 inN26.1 [] = ansN26 := by kernel_rfl
noncomputable def inN27 : List D × List Ob := ([.p (.agg [prog2]), .p (i6 1), .p (i6 1)], [])
def ansN27 : R := some ((.p cm19), [])
theorem runN27 : evH layK.tabH 3000 88 inN27.1 [] = ansN27 := by kernel_rfl
end Go.Ab
