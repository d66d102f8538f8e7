import Derived.Test.YtlfhmmbmjkadiaaGreatDoorAwXT
import Derived.Test.YtlfhmmbmjkadiaaGreatDoorAwL
import Derived.KernelRfl
set_option linter.all false
namespace Go.Ab
set_option maxRecDepth 100000
noncomputable def inM15:List D×List Ob:=([(.box 0 0)],[(bV iI 63 1222 14 (.arr 1 0 7 8)),(.fz nk1)])
def Yy:R:=some ((.p me2),[(bV iI 93 1222 27 (.arr 2 0 13 8)),(.fz nk1),(.fz nk2)])
theorem ahk:nG layT.tabH 3000 155 inM15.1 inM15.2=Yy:=by kernel_rfl
noncomputable def inM16:List D×List Ob:=([(.box 0 0)],[(bV iI 93 1222 27 (.arr 1 0 13 8)),(.fz nk2)])
def Yz:R:=some ((.p me3),[(bV iI 133 1222 38 (.arr 2 0 11 8)),(.fz nk2),(.fz nk3)])
theorem ahl:nG layT.tabH 3000 155 inM16.1 inM16.2=Yz:=by kernel_rfl
noncomputable def inM17:List D×List Ob:=([(.box 0 0)],[(bV iI 133 1222 38 (.arr 1 0 11 8)),(.fz nk3)])
def YA:R:=some ((.p me4),[(bV iI 184 1222 57 (.arr 2 0 19 8)),(.fz nk3),(.fz nk4)])
theorem ahm:nG layT.tabH 3000 155 inM17.1 inM17.2=YA:=by kernel_rfl
noncomputable def inM18:List D×List Ob:=([(.box 0 0)],[(bV iI 184 1222 57 (.arr 1 0 19 8)),(.fz nk4)])
def YB:R:=some ((.p me5),[(bV iI 224 1222 68 (.arr 2 0 11 8)),(.fz nk4),(.fz nk5)])
theorem ahn:nG layT.tabH 3000 155 inM18.1 inM18.2=YB:=by kernel_rfl
noncomputable def inM19:List D×List Ob:=([(.box 0 0)],[(bV iI 224 1222 68 (.arr 1 0 11 8)),(.fz nk5)])
def YC:R:=some ((.p me6),[(bV iI 255 1222 76 (.arr 2 0 8 8)),(.fz nk5),(.fz nk6)])
theorem aho:nG layT.tabH 3000 155 inM19.1 inM19.2=YC:=by kernel_rfl
noncomputable def inM20:List D×List Ob:=([(.box 0 0)],[(bV iI 255 1222 76 (.arr 1 0 8 8)),(.fz nk6)])
def YD:R:=some ((.p me7),[(bV iI 266 1222 79 (.arr 2 0 3 8)),(.fz nk6),(.fz nk7)])
theorem ahp:nG layT.tabH 3000 155 inM20.1 inM20.2=YD:=by kernel_rfl
noncomputable def inM21:List D×List Ob:=([(.box 0 0)],[(bV iI 266 1222 79 (.arr 1 0 3 8)),(.fz nk7)])
def YE:R:=some ((.p me8),[(bV iI 292 1222 87 (.arr 2 0 8 8)),(.fz nk7),(.fz nk8)])
theorem ahq:nG layT.tabH 3000 155 inM21.1 inM21.2=YE:=by kernel_rfl
end Go.Ab
