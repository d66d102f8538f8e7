/- Known calls of the parser. -/
import Derived.Test.YthaepnbiaocjkaaGreatDoorAwXT
import Derived.Test.YthaepnbiaocjkaaGreatDoorAwL
import Derived.KernelRfl
set_option linter.all false
namespace Go.Ab
set_option maxRecDepth 100000
noncomputable def inM8 : List D × List Ob := ([(.box 0 0)], [(.box [(.p tok1), (.p (i6 242)), (.p (i6 966)), (.p (i6 0)), (.p (i6 0)), (.p (i6 0)), (.p (i6 72)), (.arr 1 0 3 8)]), (.fz nk7)])
def ansM8 : R := some ((.p me8), [(.box [(.p tok1), (.p (i6 268)), (.p (i6 966)), (.p (i6 0)), (.p (i6 0)), (.p (i6 0)), (.p (i6 80)), (.arr 2 0 8 8)]), (.fz nk7), (.fz nk8)])
theorem runM8 : evH layT.tabH 3000 223 inM8.1 inM8.2 = ansM8 := by kernel_rfl
noncomputable def inM9 : List D × List Ob := ([(.box 0 0)], [(.box [(.p tok1), (.p (i6 268)), (.p (i6 966)), (.p (i6 0)), (.p (i6 0)), (.p (i6 0)), (.p (i6 80)), (.arr 1 0 8 8)]), (.fz nk8)])
def ansM9 : R := some ((.p me9), [(.box [(.p tok1), (.p (i6 286)), (.p (i6 966)), (.p (i6 0)), (.p (i6 0)), (.p (i6 0)), (.p (i6 85)), (.arr 2 0 5 8)]), (.fz nk8), (.fz nk9)])
theorem runM9 : evH layT.tabH 3000 223 inM9.1 inM9.2 = ansM9 := by kernel_rfl
noncomputable def inM10 : List D × List Ob := ([(.box 0 0)], [(.box [(.p tok1), (.p (i6 286)), (.p (i6 966)), (.p (i6 0)), (.p (i6 0)), (.p (i6 0)), (.p (i6 85)), (.arr 1 0 5 8)]), (.fz nk9)])
def ansM10 : R := some ((.p me10), [(.box [(.p tok1), (.p (i6 297)), (.p (i6 966)), (.p (i6 0)), (.p (i6 0)), (.p (i6 0)), (.p (i6 88)), (.arr 2 0 3 8)]), (.fz nk9), (.fz nk10)])
theorem runM10 : evH layT.tabH 3000 223 inM10.1 inM10.2 = ansM10 := by kernel_rfl
noncomputable def inM11 : List D × List Ob := ([(.box 0 0)], [(.box [(.p tok1), (.p (i6 297)), (.p (i6 966)), (.p (i6 0)), (.p (i6 0)), (.p (i6 0)), (.p (i6 88)), (.arr 1 0 3 8)]), (.fz nk10)])
def ansM11 : R := some ((.p me11), [(.box [(.p tok1), (.p (i6 309)), (.p (i6 966)), (.p (i6 0)), (.p (i6 0)), (.p (i6 0)), (.p (i6 93)), (.arr 2 0 5 8)]), (.fz nk10), (.fz nk11)])
theorem runM11 : evH layT.tabH 3000 223 inM11.1 inM11.2 = ansM11 := by kernel_rfl
noncomputable def inM12 : List D × List Ob := ([(.box 0 0)], [(.box [(.p tok1), (.p (i6 309)), (.p (i6 966)), (.p (i6 0)), (.p (i6 0)), (.p (i6 0)), (.p (i6 93)), (.arr 1 0 5 8)]), (.fz nk11)])
def ansM12 : R := some ((.p me12), [(.box [(.p tok1), (.p (i6 327)), (.p (i6 966)), (.p (i6 0)), (.p (i6 0)), (.p (i6 0)), (.p (i6 98)), (.arr 2 0 5 8)]), (.fz nk11), (.fz nk12)])
theorem runM12 : evH layT.tabH 3000 223 inM12.1 inM12.2 = ansM12 := by kernel_rfl
noncomputable def inM13 : List D × List Ob := ([(.box 0 0)], [(.box [(.p tok2), (.p (i6 26)), (.p (i6 1222)), (.p (i6 0)), (.p (i6 0)), (.p (i6 0)), (.p (i6 0)), (.sl .nil 8 [])])])
def ansM13 : R := some ((.p me13), [(.box [(.p tok2), (.p (i6 43)), (.p (i6 1222)), (.p (i6 0)), (.p (i6 0)), (.p (i6 0)), (.p (i6 7)), (.arr 1 0 7 8)]), (.fz nk13)])
theorem runM13 : evH layT.tabH 3000 223 inM13.1 inM13.2 = ansM13 := by kernel_rfl
noncomputable def inM14 : List D × List Ob := ([(.box 0 0)], [(.box [(.p tok2), (.p (i6 43)), (.p (i6 1222)), (.p (i6 0)), (.p (i6 0)), (.p (i6 0)), (.p (i6 7)), (.arr 1 0 7 8)]), (.fz nk13)])
def ansM14 : R := some ((.p me1), [(.box [(.p tok2), (.p (i6 63)), (.p (i6 1222)), (.p (i6 0)), (.p (i6 0)), (.p (i6 0)), (.p (i6 14)), (.arr 2 0 7 8)]), (.fz nk13), (.fz nk1)])
theorem runM14 : evH layT.tabH 3000 223 inM14.1 inM14.2 = ansM14 := by kernel_rfl
end Go.Ab
