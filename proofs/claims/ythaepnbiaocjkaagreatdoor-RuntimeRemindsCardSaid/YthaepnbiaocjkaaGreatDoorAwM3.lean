/- Known calls of the parser. -/
import Derived.Test.YthaepnbiaocjkaaGreatDoorAwXT
import Derived.Test.YthaepnbiaocjkaaGreatDoorAwL
import Derived.KernelRfl
set_option linter.all false
namespace Go.Ab
set_option maxRecDepth 100000
noncomputable def inM15 : List D × List Ob := ([(.box 0 0)], [(.box [(.p tok2), (.p (i6 63)), (.p (i6 1222)), (.p (i6 0)), (.p (i6 0)), (.p (i6 0)), (.p (i6 14)), (.arr 1 0 7 8)]), (.fz nk1)])
def ansM15 : R := some ((.p me2), [(.box [(.p tok2), (.p (i6 93)), (.p (i6 1222)), (.p (i6 0)), (.p (i6 0)), (.p (i6 0)), (.p (i6 27)), (.arr 2 0 13 8)]), (.fz nk1), (.fz nk2)])
theorem runM15 : evH layT.tabH 3000 223 inM15.1 inM15.2 = ansM15 := by kernel_rfl
noncomputable def inM16 : List D × List Ob := ([(.box 0 0)], [(.box [(.p tok2), (.p (i6 93)), (.p (i6 1222)), (.p (i6 0)), (.p (i6 0)), (.p (i6 0)), (.p (i6 27)), (.arr 1 0 13 8)]), (.fz nk2)])
def ansM16 : R := some ((.p me3), [(.box [(.p tok2), (.p (i6 133)), (.p (i6 1222)), (.p (i6 0)), (.p (i6 0)), (.p (i6 0)), (.p (i6 38)), (.arr 2 0 11 8)]), (.fz nk2), (.fz nk3)])
theorem runM16 : evH layT.tabH 3000 223 inM16.1 inM16.2 = ansM16 := by kernel_rfl
noncomputable def inM17 : List D × List Ob := ([(.box 0 0)], [(.box [(.p tok2), (.p (i6 133)), (.p (i6 1222)), (.p (i6 0)), (.p (i6 0)), (.p (i6 0)), (.p (i6 38)), (.arr 1 0 11 8)]), (.fz nk3)])
def ansM17 : R := some ((.p me4), [(.box [(.p tok2), (.p (i6 184)), (.p (i6 1222)), (.p (i6 0)), (.p (i6 0)), (.p (i6 0)), (.p (i6 57)), (.arr 2 0 19 8)]), (.fz nk3), (.fz nk4)])
theorem runM17 : evH layT.tabH 3000 223 inM17.1 inM17.2 = ansM17 := by kernel_rfl
noncomputable def inM18 : List D × List Ob := ([(.box 0 0)], [(.box [(.p tok2), (.p (i6 184)), (.p (i6 1222)), (.p (i6 0)), (.p (i6 0)), (.p (i6 0)), (.p (i6 57)), (.arr 1 0 19 8)]), (.fz nk4)])
def ansM18 : R := some ((.p me5), [(.box [(.p tok2), (.p (i6 224)), (.p (i6 1222)), (.p (i6 0)), (.p (i6 0)), (.p (i6 0)), (.p (i6 68)), (.arr 2 0 11 8)]), (.fz nk4), (.fz nk5)])
theorem runM18 : evH layT.tabH 3000 223 inM18.1 inM18.2 = ansM18 := by kernel_rfl
noncomputable def inM19 : List D × List Ob := ([(.box 0 0)], [(.box [(.p tok2), (.p (i6 224)), (.p (i6 1222)), (.p (i6 0)), (.p (i6 0)), (.p (i6 0)), (.p (i6 68)), (.arr 1 0 11 8)]), (.fz nk5)])
def ansM19 : R := some ((.p me6), [(.box [(.p tok2), (.p (i6 255)), (.p (i6 1222)), (.p (i6 0)), (.p (i6 0)), (.p (i6 0)), (.p (i6 76)), (.arr 2 0 8 8)]), (.fz nk5), (.fz nk6)])
theorem runM19 : evH layT.tabH 3000 223 inM19.1 inM19.2 = ansM19 := by kernel_rfl
noncomputable def inM20 : List D × List Ob := ([(.box 0 0)], [(.box [(.p tok2), (.p (i6 255)), (.p (i6 1222)), (.p (i6 0)), (.p (i6 0)), (.p (i6 0)), (.p (i6 76)), (.arr 1 0 8 8)]), (.fz nk6)])
def ansM20 : R := some ((.p me7), [(.box [(.p tok2), (.p (i6 266)), (.p (i6 1222)), (.p (i6 0)), (.p (i6 0)), (.p (i6 0)), (.p (i6 79)), (.arr 2 0 3 8)]), (.fz nk6), (.fz nk7)])
theorem runM20 : evH layT.tabH 3000 223 inM20.1 inM20.2 = ansM20 := by kernel_rfl
noncomputable def inM21 : List D × List Ob := ([(.box 0 0)], [(.box [(.p tok2), (.p (i6 266)), (.p (i6 1222)), (.p (i6 0)), (.p (i6 0)), (.p (i6 0)), (.p (i6 79)), (.arr 1 0 3 8)]), (.fz nk7)])
def ansM21 : R := some ((.p me8), [(.box [(.p tok2), (.p (i6 292)), (.p (i6 1222)), (.p (i6 0)), (.p (i6 0)), (.p (i6 0)), (.p (i6 87)), (.arr 2 0 8 8)]), (.fz nk7), (.fz nk8)])
theorem runM21 : evH layT.tabH 3000 223 inM21.1 inM21.2 = ansM21 := by kernel_rfl
end Go.Ab
