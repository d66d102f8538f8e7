import Derived.Test.YtlfhmmbmjkadiaaGreatDoorAwXT
import Derived.Test.YtlfhmmbmjkadiaaGreatDoorAwL
import Derived.KernelRfl
set_option linter.all false
namespace Go.Ab
set_option maxRecDepth 100000
noncomputable def inM15:List D×List Ob:=([(.box 0 0)],[(.box [(.p ik),(.p (i6 63)),(.p (i6 1222)),(.p (i6 0)),(.p (i6 0)),(.p (i6 0)),(.p (i6 14)),(.arr 1 0 7 8)]),(.fz nk1)])
def Xn:R:=some ((.p me2),[(.box [(.p ik),(.p (i6 93)),(.p (i6 1222)),(.p (i6 0)),(.p (i6 0)),(.p (i6 0)),(.p (i6 27)),(.arr 2 0 13 8)]),(.fz nk1),(.fz nk2)])
theorem agd:m6 layT.tabH 3000 155 inM15.1 inM15.2=Xn:=by kernel_rfl
noncomputable def inM16:List D×List Ob:=([(.box 0 0)],[(.box [(.p ik),(.p (i6 93)),(.p (i6 1222)),(.p (i6 0)),(.p (i6 0)),(.p (i6 0)),(.p (i6 27)),(.arr 1 0 13 8)]),(.fz nk2)])
def Xo:R:=some ((.p me3),[(.box [(.p ik),(.p (i6 133)),(.p (i6 1222)),(.p (i6 0)),(.p (i6 0)),(.p (i6 0)),(.p (i6 38)),(.arr 2 0 11 8)]),(.fz nk2),(.fz nk3)])
theorem age:m6 layT.tabH 3000 155 inM16.1 inM16.2=Xo:=by kernel_rfl
noncomputable def inM17:List D×List Ob:=([(.box 0 0)],[(.box [(.p ik),(.p (i6 133)),(.p (i6 1222)),(.p (i6 0)),(.p (i6 0)),(.p (i6 0)),(.p (i6 38)),(.arr 1 0 11 8)]),(.fz nk3)])
def Xp:R:=some ((.p me4),[(.box [(.p ik),(.p (i6 184)),(.p (i6 1222)),(.p (i6 0)),(.p (i6 0)),(.p (i6 0)),(.p (i6 57)),(.arr 2 0 19 8)]),(.fz nk3),(.fz nk4)])
theorem agf:m6 layT.tabH 3000 155 inM17.1 inM17.2=Xp:=by kernel_rfl
noncomputable def inM18:List D×List Ob:=([(.box 0 0)],[(.box [(.p ik),(.p (i6 184)),(.p (i6 1222)),(.p (i6 0)),(.p (i6 0)),(.p (i6 0)),(.p (i6 57)),(.arr 1 0 19 8)]),(.fz nk4)])
def Xq:R:=some ((.p me5),[(.box [(.p ik),(.p (i6 224)),(.p (i6 1222)),(.p (i6 0)),(.p (i6 0)),(.p (i6 0)),(.p (i6 68)),(.arr 2 0 11 8)]),(.fz nk4),(.fz nk5)])
theorem agh:m6 layT.tabH 3000 155 inM18.1 inM18.2=Xq:=by kernel_rfl
noncomputable def inM19:List D×List Ob:=([(.box 0 0)],[(.box [(.p ik),(.p (i6 224)),(.p (i6 1222)),(.p (i6 0)),(.p (i6 0)),(.p (i6 0)),(.p (i6 68)),(.arr 1 0 11 8)]),(.fz nk5)])
def Xr:R:=some ((.p me6),[(.box [(.p ik),(.p (i6 255)),(.p (i6 1222)),(.p (i6 0)),(.p (i6 0)),(.p (i6 0)),(.p (i6 76)),(.arr 2 0 8 8)]),(.fz nk5),(.fz nk6)])
theorem agi:m6 layT.tabH 3000 155 inM19.1 inM19.2=Xr:=by kernel_rfl
noncomputable def inM20:List D×List Ob:=([(.box 0 0)],[(.box [(.p ik),(.p (i6 255)),(.p (i6 1222)),(.p (i6 0)),(.p (i6 0)),(.p (i6 0)),(.p (i6 76)),(.arr 1 0 8 8)]),(.fz nk6)])
def Xs:R:=some ((.p me7),[(.box [(.p ik),(.p (i6 266)),(.p (i6 1222)),(.p (i6 0)),(.p (i6 0)),(.p (i6 0)),(.p (i6 79)),(.arr 2 0 3 8)]),(.fz nk6),(.fz nk7)])
theorem agj:m6 layT.tabH 3000 155 inM20.1 inM20.2=Xs:=by kernel_rfl
noncomputable def inM21:List D×List Ob:=([(.box 0 0)],[(.box [(.p ik),(.p (i6 266)),(.p (i6 1222)),(.p (i6 0)),(.p (i6 0)),(.p (i6 0)),(.p (i6 79)),(.arr 1 0 3 8)]),(.fz nk7)])
def Xt:R:=some ((.p me8),[(.box [(.p ik),(.p (i6 292)),(.p (i6 1222)),(.p (i6 0)),(.p (i6 0)),(.p (i6 0)),(.p (i6 87)),(.arr 2 0 8 8)]),(.fz nk7),(.fz nk8)])
theorem agk:m6 layT.tabH 3000 155 inM21.1 inM21.2=Xt:=by kernel_rfl
end Go.Ab
