import Derived.Test.YtlfhmmbmjkadiaaGreatDoorAwXT
import Derived.Test.YtlfhmmbmjkadiaaGreatDoorAwL
import Derived.KernelRfl
set_option linter.all false
namespace Go.Ab
set_option maxRecDepth 100000
noncomputable def inM22:List D×List Ob:=([(.box 0 0)],[(.box [(.p ik),(.p (i6 292)),(.p (i6 1222)),(.p (i6 0)),(.p (i6 0)),(.p (i6 0)),(.p (i6 87)),(.arr 1 0 8 8)]),(.fz nk8)])
def Xu:R:=some ((.p me9),[(.box [(.p ik),(.p (i6 310)),(.p (i6 1222)),(.p (i6 0)),(.p (i6 0)),(.p (i6 0)),(.p (i6 92)),(.arr 2 0 5 8)]),(.fz nk8),(.fz nk9)])
theorem agl:m6 layT.tabH 3000 155 inM22.1 inM22.2=Xu:=by kernel_rfl
noncomputable def inM23:List D×List Ob:=([(.box 0 0)],[(.box [(.p ik),(.p (i6 310)),(.p (i6 1222)),(.p (i6 0)),(.p (i6 0)),(.p (i6 0)),(.p (i6 92)),(.arr 1 0 5 8)]),(.fz nk9)])
def Xv:R:=some ((.p VD),[(.box [(.p ik),(.p (i6 321)),(.p (i6 1222)),(.p (i6 0)),(.p (i6 0)),(.p (i6 0)),(.p (i6 95)),(.arr 2 0 3 8)]),(.fz nk9),(.fz Rc)])
theorem agm:m6 layT.tabH 3000 155 inM23.1 inM23.2=Xv:=by kernel_rfl
noncomputable def inM24:List D×List Ob:=([(.box 0 0)],[(.box [(.p ik),(.p (i6 321)),(.p (i6 1222)),(.p (i6 0)),(.p (i6 0)),(.p (i6 0)),(.p (i6 95)),(.arr 1 0 3 8)]),(.fz Rc)])
def Xw:R:=some ((.p VE),[(.box [(.p ik),(.p (i6 333)),(.p (i6 1222)),(.p (i6 0)),(.p (i6 0)),(.p (i6 0)),(.p (i6 100)),(.arr 2 0 5 8)]),(.fz Rc),(.fz Re)])
theorem agn:m6 layT.tabH 3000 155 inM24.1 inM24.2=Xw:=by kernel_rfl
noncomputable def inM25:List D×List Ob:=([(.box 0 0)],[(.box [(.p ik),(.p (i6 333)),(.p (i6 1222)),(.p (i6 0)),(.p (i6 0)),(.p (i6 0)),(.p (i6 100)),(.arr 1 0 5 8)]),(.fz Re)])
def Xx:R:=some ((.p VF),[(.box [(.p ik),(.p (i6 351)),(.p (i6 1222)),(.p (i6 0)),(.p (i6 0)),(.p (i6 0)),(.p (i6 105)),(.arr 2 0 5 8)]),(.fz Re),(.fz ZV)])
theorem ago:m6 layT.tabH 3000 155 inM25.1 inM25.2=Xx:=by kernel_rfl
noncomputable def inM26:List D×List Ob:=([(.box 0 0)],[(.box [(.p ik),(.p (i6 362)),(.p (i6 1222)),(.p (i6 0)),(.p (i6 0)),(.p (i6 0)),(.p (i6 105)),(.arr 1 0 5 8)]),(.fz ZV)])
def Xy:R:=some ((.p afJ),[(.box [(.p ik),(.p (i6 382)),(.p (i6 1222)),(.p (i6 0)),(.p (i6 0)),(.p (i6 0)),(.p (i6 112)),(.arr 2 0 7 8)]),(.fz ZV),(.fz acF)])
theorem agp:m6 layT.tabH 3000 155 inM26.1 inM26.2=Xy:=by kernel_rfl
noncomputable def inM27:List D×List Ob:=([(.box 0 0)],[(.box [(.p ik),(.p (i6 382)),(.p (i6 1222)),(.p (i6 0)),(.p (i6 0)),(.p (i6 0)),(.p (i6 112)),(.arr 1 0 7 8)]),(.fz acF)])
def Xz:R:=some ((.p afK),[(.box [(.p ik),(.p (i6 417)),(.p (i6 1222)),(.p (i6 0)),(.p (i6 0)),(.p (i6 0)),(.p (i6 122)),(.arr 2 0 10 8)]),(.fz acF),(.fz ahi)])
theorem agq:m6 layT.tabH 3000 155 inM27.1 inM27.2=Xz:=by kernel_rfl
end Go.Ab
