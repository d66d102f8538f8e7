/- Known calls of the parser. -/
import Derived.Test.YthaepnbiaocjkaaGreatDoorAwXT
import Derived.Test.YthaepnbiaocjkaaGreatDoorAwL
import Derived.KernelRfl
set_option linter.all false
namespace Go.Ab
set_option maxRecDepth 100000
noncomputable def inM22 : List D × List Ob := ([(.box 0 0)], [(.box [(.p tok2), (.p (i6 292)), (.p (i6 1222)), (.p (i6 0)), (.p (i6 0)), (.p (i6 0)), (.p (i6 87)), (.arr 1 0 8 8)]), (.fz nk8)])
def ansM22 : R := some ((.p me9), [(.box [(.p tok2), (.p (i6 310)), (.p (i6 1222)), (.p (i6 0)), (.p (i6 0)), (.p (i6 0)), (.p (i6 92)), (.arr 2 0 5 8)]), (.fz nk8), (.fz nk9)])
theorem runM22 : evH layT.tabH 3000 223 inM22.1 inM22.2 = ansM22 := by kernel_rfl
noncomputable def inM23 : List D × List Ob := ([(.box 0 0)], [(.box [(.p tok2), (.p (i6 310)), (.p (i6 1222)), (.p (i6 0)), (.p (i6 0)), (.p (i6 0)), (.p (i6 92)), (.arr 1 0 5 8)]), (.fz nk9)])
def ansM23 : R := some ((.p me10), [(.box [(.p tok2), (.p (i6 321)), (.p (i6 1222)), (.p (i6 0)), (.p (i6 0)), (.p (i6 0)), (.p (i6 95)), (.arr 2 0 3 8)]), (.fz nk9), (.fz nk10)])
theorem runM23 : evH layT.tabH 3000 223 inM23.1 inM23.2 = ansM23 := by kernel_rfl
noncomputable def inM24 : List D × List Ob := ([(.box 0 0)], [(.box [(.p tok2), (.p (i6 321)), (.p (i6 1222)), (.p (i6 0)), (.p (i6 0)), (.p (i6 0)), (.p (i6 95)), (.arr 1 0 3 8)]), (.fz nk10)])
def ansM24 : R := some ((.p me11), [(.box [(.p tok2), (.p (i6 333)), (.p (i6 1222)), (.p (i6 0)), (.p (i6 0)), (.p (i6 0)), (.p (i6 100)), (.arr 2 0 5 8)]), (.fz nk10), (.fz nk11)])
theorem runM24 : evH layT.tabH 3000 223 inM24.1 inM24.2 = ansM24 := by kernel_rfl
noncomputable def inM25 : List D × List Ob := ([(.box 0 0)], [(.box [(.p tok2), (.p (i6 333)), (.p (i6 1222)), (.p (i6 0)), (.p (i6 0)), (.p (i6 0)), (.p (i6 100)), (.arr 1 0 5 8)]), (.fz nk11)])
def ansM25 : R := some ((.p me12), [(.box [(.p tok2), (.p (i6 351)), (.p (i6 1222)), (.p (i6 0)), (.p (i6 0)), (.p (i6 0)), (.p (i6 105)), (.arr 2 0 5 8)]), (.fz nk11), (.fz nk12)])
theorem runM25 : evH layT.tabH 3000 223 inM25.1 inM25.2 = ansM25 := by kernel_rfl
noncomputable def inM26 : List D × List Ob := ([(.box 0 0)], [(.box [(.p tok2), (.p (i6 362)), (.p (i6 1222)), (.p (i6 0)), (.p (i6 0)), (.p (i6 0)), (.p (i6 105)), (.arr 1 0 5 8)]), (.fz nk12)])
def ansM26 : R := some ((.p me14), [(.box [(.p tok2), (.p (i6 382)), (.p (i6 1222)), (.p (i6 0)), (.p (i6 0)), (.p (i6 0)), (.p (i6 112)), (.arr 2 0 7 8)]), (.fz nk12), (.fz nk14)])
theorem runM26 : evH layT.tabH 3000 223 inM26.1 inM26.2 = ansM26 := by kernel_rfl
noncomputable def inM27 : List D × List Ob := ([(.box 0 0)], [(.box [(.p tok2), (.p (i6 382)), (.p (i6 1222)), (.p (i6 0)), (.p (i6 0)), (.p (i6 0)), (.p (i6 112)), (.arr 1 0 7 8)]), (.fz nk14)])
def ansM27 : R := some ((.p me15), [(.box [(.p tok2), (.p (i6 417)), (.p (i6 1222)), (.p (i6 0)), (.p (i6 0)), (.p (i6 0)), (.p (i6 122)), (.arr 2 0 10 8)]), (.fz nk14), (.fz nk15)])
theorem runM27 : evH layT.tabH 3000 223 inM27.1 inM27.2 = ansM27 := by kernel_rfl
end Go.Ab
