import Derived.Test.YtlfhmmbmjkadiaaGreatDoorAwXV
import Derived.Test.YtlfhmmbmjkadiaaGreatDoorAwL
import Derived.KernelRfl
set_option linter.all false
namespace Go.Ab
set_option maxRecDepth 100000
def aem:R:=some ((.tup [(.p (.agg [(i6 0),(i6 0),(i6 0)])),(.p (i6 0))]),[])
theorem aiA:nG layV.tabH 3000 18 [(.p ag6)] []=aem:=by kernel_rfl
end Go.Ab
