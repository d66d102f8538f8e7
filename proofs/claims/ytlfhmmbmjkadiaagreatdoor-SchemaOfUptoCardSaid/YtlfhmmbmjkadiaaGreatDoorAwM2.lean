import Derived.Test.YtlfhmmbmjkadiaaGreatDoorAwXT
import Derived.Test.YtlfhmmbmjkadiaaGreatDoorAwL
import Derived.KernelRfl
set_option linter.all false
namespace Go.Ab
set_option maxRecDepth 100000
noncomputable def inM8:List D×List Ob:=([(.box 0 0)],[(.box [(.p lm),(.p (i6 242)),(.p (i6 966)),(.p (i6 0)),(.p (i6 0)),(.p (i6 0)),(.p (i6 72)),(.arr 1 0 3 8)]),(.fz nk7)])
def adl:R:=some ((.p me8),[(.box [(.p lm),(.p (i6 268)),(.p (i6 966)),(.p (i6 0)),(.p (i6 0)),(.p (i6 0)),(.p (i6 80)),(.arr 2 0 8 8)]),(.fz nk7),(.fz nk8)])
theorem ahy:m6 layT.tabH 3000 155 inM8.1 inM8.2=adl:=by kernel_rfl
noncomputable def inM9:List D×List Ob:=([(.box 0 0)],[(.box [(.p lm),(.p (i6 268)),(.p (i6 966)),(.p (i6 0)),(.p (i6 0)),(.p (i6 0)),(.p (i6 80)),(.arr 1 0 8 8)]),(.fz nk8)])
def adm:R:=some ((.p me9),[(.box [(.p lm),(.p (i6 286)),(.p (i6 966)),(.p (i6 0)),(.p (i6 0)),(.p (i6 0)),(.p (i6 85)),(.arr 2 0 5 8)]),(.fz nk8),(.fz nk9)])
theorem ahz:m6 layT.tabH 3000 155 inM9.1 inM9.2=adm:=by kernel_rfl
noncomputable def inM10:List D×List Ob:=([(.box 0 0)],[(.box [(.p lm),(.p (i6 286)),(.p (i6 966)),(.p (i6 0)),(.p (i6 0)),(.p (i6 0)),(.p (i6 85)),(.arr 1 0 5 8)]),(.fz nk9)])
def Xi:R:=some ((.p VD),[(.box [(.p lm),(.p (i6 297)),(.p (i6 966)),(.p (i6 0)),(.p (i6 0)),(.p (i6 0)),(.p (i6 88)),(.arr 2 0 3 8)]),(.fz nk9),(.fz Rc)])
theorem af8:m6 layT.tabH 3000 155 inM10.1 inM10.2=Xi:=by kernel_rfl
noncomputable def inM11:List D×List Ob:=([(.box 0 0)],[(.box [(.p lm),(.p (i6 297)),(.p (i6 966)),(.p (i6 0)),(.p (i6 0)),(.p (i6 0)),(.p (i6 88)),(.arr 1 0 3 8)]),(.fz Rc)])
def Xj:R:=some ((.p VE),[(.box [(.p lm),(.p (i6 309)),(.p (i6 966)),(.p (i6 0)),(.p (i6 0)),(.p (i6 0)),(.p (i6 93)),(.arr 2 0 5 8)]),(.fz Rc),(.fz Re)])
theorem af9:m6 layT.tabH 3000 155 inM11.1 inM11.2=Xj:=by kernel_rfl
noncomputable def inM12:List D×List Ob:=([(.box 0 0)],[(.box [(.p lm),(.p (i6 309)),(.p (i6 966)),(.p (i6 0)),(.p (i6 0)),(.p (i6 0)),(.p (i6 93)),(.arr 1 0 5 8)]),(.fz Re)])
def Xk:R:=some ((.p VF),[(.box [(.p lm),(.p (i6 327)),(.p (i6 966)),(.p (i6 0)),(.p (i6 0)),(.p (i6 0)),(.p (i6 98)),(.arr 2 0 5 8)]),(.fz Re),(.fz ZV)])
theorem aga:m6 layT.tabH 3000 155 inM12.1 inM12.2=Xk:=by kernel_rfl
noncomputable def inM13:List D×List Ob:=([(.box 0 0)],[(.box [(.p ik),(.p (i6 26)),(.p (i6 1222)),(.p (i6 0)),(.p (i6 0)),(.p (i6 0)),(.p (i6 0)),(.sl .nil 8 [])])])
def Xl:R:=some ((.p afI),[(.box [(.p ik),(.p (i6 43)),(.p (i6 1222)),(.p (i6 0)),(.p (i6 0)),(.p (i6 0)),(.p (i6 7)),(.arr 1 0 7 8)]),(.fz acE)])
theorem agb:m6 layT.tabH 3000 155 inM13.1 inM13.2=Xl:=by kernel_rfl
noncomputable def inM14:List D×List Ob:=([(.box 0 0)],[(.box [(.p ik),(.p (i6 43)),(.p (i6 1222)),(.p (i6 0)),(.p (i6 0)),(.p (i6 0)),(.p (i6 7)),(.arr 1 0 7 8)]),(.fz acE)])
def Xm:R:=some ((.p me1),[(.box [(.p ik),(.p (i6 63)),(.p (i6 1222)),(.p (i6 0)),(.p (i6 0)),(.p (i6 0)),(.p (i6 14)),(.arr 2 0 7 8)]),(.fz acE),(.fz nk1)])
theorem agc:m6 layT.tabH 3000 155 inM14.1 inM14.2=Xm:=by kernel_rfl
end Go.Ab
