import Derived.Test.YtlfhmmbmjkadiaaGreatDoorAwL
import Derived.KernelRfl
set_option linter.all false
namespace Go.Ab
set_option maxRecDepth 100000
def aez:R:=some ((.tup [(.p iI),(.p (i6 0)),(.p (i6 0))]),[])
theorem aiN:nG layB.tabH 3000 74 [(.p Qr)] []=aez:=by kernel_rfl
end Go.Ab
