import Derived.Test.YtlfhmmbmjkadiaaGreatDoorAwL
import Derived.KernelRfl
set_option linter.all false
namespace Go.Ab
set_option maxRecDepth 100000
def adp:R:=some ((.tup [(.p lm),(.p (i6 0)),(.p (i6 0))]),[])
theorem ahC:m6 layB.tabH 3000 74 [(.p Tz)] []=adp:=by kernel_rfl
end Go.Ab
