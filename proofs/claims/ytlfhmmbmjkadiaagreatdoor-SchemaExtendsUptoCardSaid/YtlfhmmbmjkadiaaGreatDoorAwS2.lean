import Derived.Test.YtlfhmmbmjkadiaaGreatDoorAwXM
import Derived.Test.YtlfhmmbmjkadiaaGreatDoorAwL
import Derived.KernelRfl
set_option linter.all false
namespace Go.Ab
set_option maxRecDepth 100000
def aex:R:=some ((.tup [(.p ag6),(.p (i6 0)),(.p (i6 0))]),[])
theorem aiL:nG layM.tabH 3000 38 [(.p Qr)] []=aex:=by kernel_rfl
end Go.Ab
