/- The law RuntimeReminds: the run on letters. -/
import Derived.Test.YthaepnbiaocjkaaGreatDoorAwXW
import Derived.Test.YthaepnbiaocjkaaGreatDoorAm5
import Derived.KernelRfl
set_option linter.all false
namespace Go.Ab
open Go Go.RowKit Go.WideShapes Go.ChangeShapes
set_option maxRecDepth 100000
def yes : R := some (.p (.bool true), [])
def pY : Da := .sym .u8 (.lin 0 [(1, 0, 49), (50, 0, 5)])
def sY : Da := .sym .u16 (.lin 0 [(0, 0, 49), (0, 0, 5), (1, 0, 999), (1000, 0, 65)])
def tY : Da := .sym .u16 (.lin 0 [(0, 0, 49), (0, 0, 5), (0, 0, 999), (0, 0, 65), (1, 0, 499), (500, 0, 131)])
theorem run_all : evH layW.tabH 3000 4 [.p pY, .p sY, .p tY] [] = yes := by kernel_rfl
end Go.Ab
