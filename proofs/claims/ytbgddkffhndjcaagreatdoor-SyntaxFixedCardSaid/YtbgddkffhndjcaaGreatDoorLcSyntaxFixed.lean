/- What the law SyntaxFixed reaches. -/
import Derived.Test.YtbgddkffhndjcaaGreatDoorProg
import Derived.KernelRfl
import GoSem.ClaimFn
set_option linter.all false
namespace Go.Proofs.YtbgddkffhndjcaaGreatDoor.syntaxFixed
open Go
set_option maxRecDepth 100000
def cl:List FuncId:=[4,7,11,13,40,65,95,111,66,96,67,68,41,46,78,79,69,47,70,97,112,126,141,142,113,127,143,128,129,90,110,125,137,138,149,148,150,139,140,151,152,157,158,144,130,71,91,98,114,72,14,42,43,73,99,16,115,44,45,74,100,75,101,76,102,103,116,117,118,104,119,120,77,105,106,107,121,122,131,133,135,147,156,159,160,161,123,162,145,153,154,124,146,155,132,134,136,55,10,9,17,48,18,19,49,50,51,80,20,21,52,31,53,81,82,83,84,85,86,87,54,30,64,93,94,88,108,22,56,89,109,57,23,24,58,59,60,25,61,26,27,62,92,63,28,12,29,32,33,34,35,37,38,39,36]
theorem closureE:Tryz.prog.closure 4=cl:=by kernel_rfl
end Go.Proofs.YtbgddkffhndjcaaGreatDoor.syntaxFixed
