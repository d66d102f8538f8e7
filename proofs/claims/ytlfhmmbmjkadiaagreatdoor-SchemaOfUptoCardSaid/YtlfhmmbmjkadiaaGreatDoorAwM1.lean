import Derived.Test.YtlfhmmbmjkadiaaGreatDoorAwXT
import Derived.Test.YtlfhmmbmjkadiaaGreatDoorAwL
import Derived.KernelRfl
set_option linter.all false
namespace Go.Ab
set_option maxRecDepth 100000
noncomputable def inM1:List D×List Ob:=([(.box 0 0)],[(.box [(.p lm),(.p (i6 19)),(.p (i6 966)),(.p (i6 0)),(.p (i6 0)),(.p (i6 0)),(.p (i6 0)),(.sl .nil 8 [])])])
def ade:R:=some ((.p me1),[(.box [(.p lm),(.p (i6 39)),(.p (i6 966)),(.p (i6 0)),(.p (i6 0)),(.p (i6 0)),(.p (i6 7)),(.arr 1 0 7 8)]),(.fz nk1)])
theorem ahr:m6 layT.tabH 3000 155 inM1.1 inM1.2=ade:=by kernel_rfl
noncomputable def inM2:List D×List Ob:=([(.box 0 0)],[(.box [(.p lm),(.p (i6 39)),(.p (i6 966)),(.p (i6 0)),(.p (i6 0)),(.p (i6 0)),(.p (i6 7)),(.arr 1 0 7 8)]),(.fz nk1)])
def adf:R:=some ((.p me2),[(.box [(.p lm),(.p (i6 69)),(.p (i6 966)),(.p (i6 0)),(.p (i6 0)),(.p (i6 0)),(.p (i6 20)),(.arr 2 0 13 8)]),(.fz nk1),(.fz nk2)])
theorem ahs:m6 layT.tabH 3000 155 inM2.1 inM2.2=adf:=by kernel_rfl
noncomputable def inM3:List D×List Ob:=([(.box 0 0)],[(.box [(.p lm),(.p (i6 69)),(.p (i6 966)),(.p (i6 0)),(.p (i6 0)),(.p (i6 0)),(.p (i6 20)),(.arr 1 0 13 8)]),(.fz nk2)])
def adg:R:=some ((.p me3),[(.box [(.p lm),(.p (i6 109)),(.p (i6 966)),(.p (i6 0)),(.p (i6 0)),(.p (i6 0)),(.p (i6 31)),(.arr 2 0 11 8)]),(.fz nk2),(.fz nk3)])
theorem aht:m6 layT.tabH 3000 155 inM3.1 inM3.2=adg:=by kernel_rfl
noncomputable def inM4:List D×List Ob:=([(.box 0 0)],[(.box [(.p lm),(.p (i6 109)),(.p (i6 966)),(.p (i6 0)),(.p (i6 0)),(.p (i6 0)),(.p (i6 31)),(.arr 1 0 11 8)]),(.fz nk3)])
def adh:R:=some ((.p me4),[(.box [(.p lm),(.p (i6 160)),(.p (i6 966)),(.p (i6 0)),(.p (i6 0)),(.p (i6 0)),(.p (i6 50)),(.arr 2 0 19 8)]),(.fz nk3),(.fz nk4)])
theorem ahu:m6 layT.tabH 3000 155 inM4.1 inM4.2=adh:=by kernel_rfl
noncomputable def inM5:List D×List Ob:=([(.box 0 0)],[(.box [(.p lm),(.p (i6 160)),(.p (i6 966)),(.p (i6 0)),(.p (i6 0)),(.p (i6 0)),(.p (i6 50)),(.arr 1 0 19 8)]),(.fz nk4)])
def adi:R:=some ((.p me5),[(.box [(.p lm),(.p (i6 200)),(.p (i6 966)),(.p (i6 0)),(.p (i6 0)),(.p (i6 0)),(.p (i6 61)),(.arr 2 0 11 8)]),(.fz nk4),(.fz nk5)])
theorem ahv:m6 layT.tabH 3000 155 inM5.1 inM5.2=adi:=by kernel_rfl
noncomputable def inM6:List D×List Ob:=([(.box 0 0)],[(.box [(.p lm),(.p (i6 200)),(.p (i6 966)),(.p (i6 0)),(.p (i6 0)),(.p (i6 0)),(.p (i6 61)),(.arr 1 0 11 8)]),(.fz nk5)])
def adj:R:=some ((.p me6),[(.box [(.p lm),(.p (i6 231)),(.p (i6 966)),(.p (i6 0)),(.p (i6 0)),(.p (i6 0)),(.p (i6 69)),(.arr 2 0 8 8)]),(.fz nk5),(.fz nk6)])
theorem ahw:m6 layT.tabH 3000 155 inM6.1 inM6.2=adj:=by kernel_rfl
noncomputable def inM7:List D×List Ob:=([(.box 0 0)],[(.box [(.p lm),(.p (i6 231)),(.p (i6 966)),(.p (i6 0)),(.p (i6 0)),(.p (i6 0)),(.p (i6 69)),(.arr 1 0 8 8)]),(.fz nk6)])
def adk:R:=some ((.p me7),[(.box [(.p lm),(.p (i6 242)),(.p (i6 966)),(.p (i6 0)),(.p (i6 0)),(.p (i6 0)),(.p (i6 72)),(.arr 2 0 3 8)]),(.fz nk6),(.fz nk7)])
theorem ahx:m6 layT.tabH 3000 155 inM7.1 inM7.2=adk:=by kernel_rfl
end Go.Ab
