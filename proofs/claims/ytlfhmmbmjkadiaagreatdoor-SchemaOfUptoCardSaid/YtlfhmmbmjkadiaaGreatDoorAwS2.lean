import Derived.Test.YtlfhmmbmjkadiaaGreatDoorAwXM
import Derived.Test.YtlfhmmbmjkadiaaGreatDoorAwL
import Derived.KernelRfl
set_option linter.all false
namespace Go.Ab
set_option maxRecDepth 100000
def ado:R:=some ((.tup [(.p afZ),(.p (i6 0)),(.p (i6 0))]),[])
theorem ahB:m6 layM.tabH 3000 38 [(.p TA)] []=ado:=by kernel_rfl
end Go.Ab
