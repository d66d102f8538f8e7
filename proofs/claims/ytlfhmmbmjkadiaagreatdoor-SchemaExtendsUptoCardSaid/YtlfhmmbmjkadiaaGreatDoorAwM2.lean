import Derived.Test.YtlfhmmbmjkadiaaGreatDoorAwXT
import Derived.Test.YtlfhmmbmjkadiaaGreatDoorAwL
import Derived.KernelRfl
set_option linter.all false
namespace Go.Ab
set_option maxRecDepth 100000
noncomputable def inM8:List D×List Ob:=([(.box 0 0)],[(bV lM 242 966 72 (.arr 1 0 3 8)),(.fz nk7)])
def aeu:R:=some ((.p me8),[(bV lM 268 966 80 (.arr 2 0 8 8)),(.fz nk7),(.fz nk8)])
theorem aiI:nG layT.tabH 3000 155 inM8.1 inM8.2=aeu:=by kernel_rfl
noncomputable def inM9:List D×List Ob:=([(.box 0 0)],[(bV lM 268 966 80 (.arr 1 0 8 8)),(.fz nk8)])
def aev:R:=some ((.p me9),[(bV lM 286 966 85 (.arr 2 0 5 8)),(.fz nk8),(.fz nk9)])
theorem aiJ:nG layT.tabH 3000 155 inM9.1 inM9.2=aev:=by kernel_rfl
noncomputable def inM10:List D×List Ob:=([(.box 0 0)],[(bV lM 286 966 85 (.arr 1 0 5 8)),(.fz nk9)])
def Yt:R:=some ((.p WI),[(bV lM 297 966 88 (.arr 2 0 3 8)),(.fz nk9),(.fz Sp)])
theorem ahf:nG layT.tabH 3000 155 inM10.1 inM10.2=Yt:=by kernel_rfl
noncomputable def inM11:List D×List Ob:=([(.box 0 0)],[(bV lM 297 966 88 (.arr 1 0 3 8)),(.fz Sp)])
def Yu:R:=some ((.p WJ),[(bV lM 309 966 93 (.arr 2 0 5 8)),(.fz Sp),(.fz Sq)])
theorem ahg:nG layT.tabH 3000 155 inM11.1 inM11.2=Yu:=by kernel_rfl
noncomputable def inM12:List D×List Ob:=([(.box 0 0)],[(bV lM 309 966 93 (.arr 1 0 5 8)),(.fz Sq)])
def Yv:R:=some ((.p WK),[(bV lM 327 966 98 (.arr 2 0 5 8)),(.fz Sq),(.fz aa5)])
theorem ahh:nG layT.tabH 3000 155 inM12.1 inM12.2=Yv:=by kernel_rfl
noncomputable def inM13:List D×List Ob:=([(.box 0 0)],[(bV iI 26 1222 0 (.sl .nil 8 []))])
def Yw:R:=some ((.p agQ),[(bV iI 43 1222 7 (.arr 1 0 7 8)),(.fz adP)])
theorem ahi:nG layT.tabH 3000 155 inM13.1 inM13.2=Yw:=by kernel_rfl
noncomputable def inM14:List D×List Ob:=([(.box 0 0)],[(bV iI 43 1222 7 (.arr 1 0 7 8)),(.fz adP)])
def Yx:R:=some ((.p me1),[(bV iI 63 1222 14 (.arr 2 0 7 8)),(.fz adP),(.fz nk1)])
theorem ahj:nG layT.tabH 3000 155 inM14.1 inM14.2=Yx:=by kernel_rfl
end Go.Ab
