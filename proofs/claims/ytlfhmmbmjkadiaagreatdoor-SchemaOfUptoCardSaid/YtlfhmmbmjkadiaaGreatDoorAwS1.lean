import Derived.Test.YtlfhmmbmjkadiaaGreatDoorAwXM
import Derived.Test.YtlfhmmbmjkadiaaGreatDoorAwL
import Derived.KernelRfl
set_option linter.all false
namespace Go.Ab
set_option maxRecDepth 100000
def adn:R:=some ((.tup [(.p afY),(.p (i6 0)),(.p (i6 0))]),[])
theorem ahA:m6 layM.tabH 3000 38 [(.p Tz)] []=adn:=by kernel_rfl
end Go.Ab
