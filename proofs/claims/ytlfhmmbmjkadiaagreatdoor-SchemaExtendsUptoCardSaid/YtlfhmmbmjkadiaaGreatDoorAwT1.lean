import Derived.Test.YtlfhmmbmjkadiaaGreatDoorAwL
import Derived.KernelRfl
set_option linter.all false
namespace Go.Ab
set_option maxRecDepth 100000
def aey:R:=some ((.tup [(.p lM),(.p (i6 0)),(.p (i6 0))]),[])
theorem aiM:nG layB.tabH 3000 74 [(.p Qq)] []=aey:=by kernel_rfl
end Go.Ab
