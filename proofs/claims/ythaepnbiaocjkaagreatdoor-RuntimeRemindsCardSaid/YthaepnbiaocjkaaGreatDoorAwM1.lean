/- Known calls of the parser. -/
import Derived.Test.YthaepnbiaocjkaaGreatDoorAwXT
import Derived.Test.YthaepnbiaocjkaaGreatDoorAwL
import Derived.KernelRfl
set_option linter.all false
namespace Go.Ab
set_option maxRecDepth 100000
noncomputable def inM1 : List D × List Ob := ([(.box 0 0)], [(.box [(.p tok1), (.p (i6 19)), (.p (i6 966)), (.p (i6 0)), (.p (i6 0)), (.p (i6 0)), (.p (i6 0)), (.sl .nil 8 [])])])
def ansM1 : R := some ((.p me1), [(.box [(.p tok1), (.p (i6 39)), (.p (i6 966)), (.p (i6 0)), (.p (i6 0)), (.p (i6 0)), (.p (i6 7)), (.arr 1 0 7 8)]), (.fz nk1)])
theorem runM1 : evH layT.tabH 3000 223 inM1.1 inM1.2 = ansM1 := by kernel_rfl
noncomputable def inM2 : List D × List Ob := ([(.box 0 0)], [(.box [(.p tok1), (.p (i6 39)), (.p (i6 966)), (.p (i6 0)), (.p (i6 0)), (.p (i6 0)), (.p (i6 7)), (.arr 1 0 7 8)]), (.fz nk1)])
def ansM2 : R := some ((.p me2), [(.box [(.p tok1), (.p (i6 69)), (.p (i6 966)), (.p (i6 0)), (.p (i6 0)), (.p (i6 0)), (.p (i6 20)), (.arr 2 0 13 8)]), (.fz nk1), (.fz nk2)])
theorem runM2 : evH layT.tabH 3000 223 inM2.1 inM2.2 = ansM2 := by kernel_rfl
noncomputable def inM3 : List D × List Ob := ([(.box 0 0)], [(.box [(.p tok1), (.p (i6 69)), (.p (i6 966)), (.p (i6 0)), (.p (i6 0)), (.p (i6 0)), (.p (i6 20)), (.arr 1 0 13 8)]), (.fz nk2)])
def ansM3 : R := some ((.p me3), [(.box [(.p tok1), (.p (i6 109)), (.p (i6 966)), (.p (i6 0)), (.p (i6 0)), (.p (i6 0)), (.p (i6 31)), (.arr 2 0 11 8)]), (.fz nk2), (.fz nk3)])
theorem runM3 : evH layT.tabH 3000 223 inM3.1 inM3.2 = ansM3 := by kernel_rfl
noncomputable def inM4 : List D × List Ob := ([(.box 0 0)], [(.box [(.p tok1), (.p (i6 109)), (.p (i6 966)), (.p (i6 0)), (.p (i6 0)), (.p (i6 0)), (.p (i6 31)), (.arr 1 0 11 8)]), (.fz nk3)])
def ansM4 : R := some ((.p me4), [(.box [(.p tok1), (.p (i6 160)), (.p (i6 966)), (.p (i6 0)), (.p (i6 0)), (.p (i6 0)), (.p (i6 50)), (.arr 2 0 19 8)]), (.fz nk3), (.fz nk4)])
theorem runM4 : evH layT.tabH 3000 223 inM4.1 inM4.2 = ansM4 := by kernel_rfl
noncomputable def inM5 : List D × List Ob := ([(.box 0 0)], [(.box [(.p tok1), (.p (i6 160)), (.p (i6 966)), (.p (i6 0)), (.p (i6 0)), (.p (i6 0)), (.p (i6 50)), (.arr 1 0 19 8)]), (.fz nk4)])
def ansM5 : R := some ((.p me5), [(.box [(.p tok1), (.p (i6 200)), (.p (i6 966)), (.p (i6 0)), (.p (i6 0)), (.p (i6 0)), (.p (i6 61)), (.arr 2 0 11 8)]), (.fz nk4), (.fz nk5)])
theorem runM5 : evH layT.tabH 3000 223 inM5.1 inM5.2 = ansM5 := by kernel_rfl
noncomputable def inM6 : List D × List Ob := ([(.box 0 0)], [(.box [(.p tok1), (.p (i6 200)), (.p (i6 966)), (.p (i6 0)), (.p (i6 0)), (.p (i6 0)), (.p (i6 61)), (.arr 1 0 11 8)]), (.fz nk5)])
def ansM6 : R := some ((.p me6), [(.box [(.p tok1), (.p (i6 231)), (.p (i6 966)), (.p (i6 0)), (.p (i6 0)), (.p (i6 0)), (.p (i6 69)), (.arr 2 0 8 8)]), (.fz nk5), (.fz nk6)])
theorem runM6 : evH layT.tabH 3000 223 inM6.1 inM6.2 = ansM6 := by kernel_rfl
noncomputable def inM7 : List D × List Ob := ([(.box 0 0)], [(.box [(.p tok1), (.p (i6 231)), (.p (i6 966)), (.p (i6 0)), (.p (i6 0)), (.p (i6 0)), (.p (i6 69)), (.arr 1 0 8 8)]), (.fz nk6)])
def ansM7 : R := some ((.p me7), [(.box [(.p tok1), (.p (i6 242)), (.p (i6 966)), (.p (i6 0)), (.p (i6 0)), (.p (i6 0)), (.p (i6 72)), (.arr 2 0 3 8)]), (.fz nk6), (.fz nk7)])
theorem runM7 : evH layT.tabH 3000 223 inM7.1 inM7.2 = ansM7 := by kernel_rfl
end Go.Ab
