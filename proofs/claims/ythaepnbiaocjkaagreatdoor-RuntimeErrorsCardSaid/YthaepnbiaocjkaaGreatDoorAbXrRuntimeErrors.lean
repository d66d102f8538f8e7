/- The law RuntimeErrors: the five runs on letters. -/
import Derived.Test.YthaepnbiaocjkaaGreatDoorAwXW
import Derived.Test.YthaepnbiaocjkaaGreatDoorAm5
import Derived.KernelRfl
set_option linter.all false
namespace Go.Ab
open Go Go.RowKit Go.WideShapes Go.ChangeShapes
set_option maxRecDepth 100000
def codeY (l h : Int) : Da := .sym .u8 (.lin 0 [(0, l, h), (1, 0, 26), (27, 0, 9)])
def yes : R := some (.p (.bool true), [])
theorem run_lo : evH layW.tabH 3000 3 [.p (.sym .i64 (.rng (-9223372036854775808) (-1001))), .p (.sym .u8 (.rng 0 255))] [] = yes := by kernel_rfl
theorem run_hi : evH layW.tabH 3000 3 [.p (.sym .i64 (.rng 1001 9223372036854775807)), .p (.sym .u8 (.rng 0 255))] [] = yes := by kernel_rfl
theorem run_neg : evH layW.tabH 3000 3 [.p (.sym .i64 (.lin 0 [(1, -1000, -1)])), .p (codeY (-1000) (-1))] [] = yes := by kernel_rfl
theorem run_zero : evH layW.tabH 3000 3 [.p (.int .i64 0), .p (codeY 0 0)] [] = yes := by kernel_rfl
theorem run_pos : evH layW.tabH 3000 3 [.p (.sym .i64 (.lin 0 [(1, 1, 1000)])), .p (codeY 1 1000)] [] = yes := by kernel_rfl
end Go.Ab
