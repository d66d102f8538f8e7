import Derived.Test.YtlfhmmbmjkadiaaGreatDoorAwXM
import Derived.Test.YtlfhmmbmjkadiaaGreatDoorAwL
import Derived.KernelRfl
set_option linter.all false
namespace Go.Ab
set_option maxRecDepth 100000
def aew:R:=some ((.tup [(.p ag5),(.p (i6 0)),(.p (i6 0))]),[])
theorem aiK:nG layM.tabH 3000 38 [(.p Qq)] []=aew:=by kernel_rfl
end Go.Ab
