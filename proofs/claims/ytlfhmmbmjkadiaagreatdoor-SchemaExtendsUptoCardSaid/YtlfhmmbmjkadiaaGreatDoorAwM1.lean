import Derived.Test.YtlfhmmbmjkadiaaGreatDoorAwXT
import Derived.Test.YtlfhmmbmjkadiaaGreatDoorAwL
import Derived.KernelRfl
set_option linter.all false
namespace Go.Ab
set_option maxRecDepth 100000
noncomputable def inM1:List D×List Ob:=([(.box 0 0)],[(bV lM 19 966 0 (.sl .nil 8 []))])
def aen:R:=some ((.p me1),[(bV lM 39 966 7 (.arr 1 0 7 8)),(.fz nk1)])
theorem aiB:nG layT.tabH 3000 155 inM1.1 inM1.2=aen:=by kernel_rfl
noncomputable def inM2:List D×List Ob:=([(.box 0 0)],[(bV lM 39 966 7 (.arr 1 0 7 8)),(.fz nk1)])
def aeo:R:=some ((.p me2),[(bV lM 69 966 20 (.arr 2 0 13 8)),(.fz nk1),(.fz nk2)])
theorem aiC:nG layT.tabH 3000 155 inM2.1 inM2.2=aeo:=by kernel_rfl
noncomputable def inM3:List D×List Ob:=([(.box 0 0)],[(bV lM 69 966 20 (.arr 1 0 13 8)),(.fz nk2)])
def aep:R:=some ((.p me3),[(bV lM 109 966 31 (.arr 2 0 11 8)),(.fz nk2),(.fz nk3)])
theorem aiD:nG layT.tabH 3000 155 inM3.1 inM3.2=aep:=by kernel_rfl
noncomputable def inM4:List D×List Ob:=([(.box 0 0)],[(bV lM 109 966 31 (.arr 1 0 11 8)),(.fz nk3)])
def aeq:R:=some ((.p me4),[(bV lM 160 966 50 (.arr 2 0 19 8)),(.fz nk3),(.fz nk4)])
theorem aiE:nG layT.tabH 3000 155 inM4.1 inM4.2=aeq:=by kernel_rfl
noncomputable def inM5:List D×List Ob:=([(.box 0 0)],[(bV lM 160 966 50 (.arr 1 0 19 8)),(.fz nk4)])
def aer:R:=some ((.p me5),[(bV lM 200 966 61 (.arr 2 0 11 8)),(.fz nk4),(.fz nk5)])
theorem aiF:nG layT.tabH 3000 155 inM5.1 inM5.2=aer:=by kernel_rfl
noncomputable def inM6:List D×List Ob:=([(.box 0 0)],[(bV lM 200 966 61 (.arr 1 0 11 8)),(.fz nk5)])
def aes:R:=some ((.p me6),[(bV lM 231 966 69 (.arr 2 0 8 8)),(.fz nk5),(.fz nk6)])
theorem aiG:nG layT.tabH 3000 155 inM6.1 inM6.2=aes:=by kernel_rfl
noncomputable def inM7:List D×List Ob:=([(.box 0 0)],[(bV lM 231 966 69 (.arr 1 0 8 8)),(.fz nk6)])
def aet:R:=some ((.p me7),[(bV lM 242 966 72 (.arr 2 0 3 8)),(.fz nk6),(.fz nk7)])
theorem aiH:nG layT.tabH 3000 155 inM7.1 inM7.2=aet:=by kernel_rfl
end Go.Ab
