import Derived.Test.YtlfhmmbmjkadiaaGreatDoorAwL
import Derived.KernelRfl
set_option linter.all false
namespace Go.Ab
set_option maxRecDepth 100000
def adq:R:=some ((.tup [(.p ik),(.p (i6 0)),(.p (i6 0))]),[])
theorem ahD:m6 layB.tabH 3000 74 [(.p TA)] []=adq:=by kernel_rfl
end Go.Ab
