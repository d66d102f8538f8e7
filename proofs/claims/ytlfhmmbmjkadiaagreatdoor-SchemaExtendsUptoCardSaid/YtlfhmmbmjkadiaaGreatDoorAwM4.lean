import Derived.Test.YtlfhmmbmjkadiaaGreatDoorAwXT
import Derived.Test.YtlfhmmbmjkadiaaGreatDoorAwL
import Derived.KernelRfl
set_option linter.all false
namespace Go.Ab
set_option maxRecDepth 100000
noncomputable def inM22:List D×List Ob:=([(.box 0 0)],[(bV iI 292 1222 87 (.arr 1 0 8 8)),(.fz nk8)])
def YF:R:=some ((.p me9),[(bV iI 310 1222 92 (.arr 2 0 5 8)),(.fz nk8),(.fz nk9)])
theorem ahr:nG layT.tabH 3000 155 inM22.1 inM22.2=YF:=by kernel_rfl
noncomputable def inM23:List D×List Ob:=([(.box 0 0)],[(bV iI 310 1222 92 (.arr 1 0 5 8)),(.fz nk9)])
def YG:R:=some ((.p WI),[(bV iI 321 1222 95 (.arr 2 0 3 8)),(.fz nk9),(.fz Sp)])
theorem ahs:nG layT.tabH 3000 155 inM23.1 inM23.2=YG:=by kernel_rfl
noncomputable def inM24:List D×List Ob:=([(.box 0 0)],[(bV iI 321 1222 95 (.arr 1 0 3 8)),(.fz Sp)])
def YH:R:=some ((.p WJ),[(bV iI 333 1222 100 (.arr 2 0 5 8)),(.fz Sp),(.fz Sq)])
theorem aht:nG layT.tabH 3000 155 inM24.1 inM24.2=YH:=by kernel_rfl
noncomputable def inM25:List D×List Ob:=([(.box 0 0)],[(bV iI 333 1222 100 (.arr 1 0 5 8)),(.fz Sq)])
def YI:R:=some ((.p WK),[(bV iI 351 1222 105 (.arr 2 0 5 8)),(.fz Sq),(.fz aa5)])
theorem ahu:nG layT.tabH 3000 155 inM25.1 inM25.2=YI:=by kernel_rfl
noncomputable def inM26:List D×List Ob:=([(.box 0 0)],[(bV iI 362 1222 105 (.arr 1 0 5 8)),(.fz aa5)])
def YJ:R:=some ((.p agR),[(bV iI 382 1222 112 (.arr 2 0 7 8)),(.fz aa5),(.fz adQ)])
theorem ahv:nG layT.tabH 3000 155 inM26.1 inM26.2=YJ:=by kernel_rfl
noncomputable def inM27:List D×List Ob:=([(.box 0 0)],[(bV iI 382 1222 112 (.arr 1 0 7 8)),(.fz adQ)])
def YK:R:=some ((.p agS),[(bV iI 417 1222 122 (.arr 2 0 10 8)),(.fz adQ),(.fz ais)])
theorem ahw:nG layT.tabH 3000 155 inM27.1 inM27.2=YK:=by kernel_rfl
end Go.Ab
