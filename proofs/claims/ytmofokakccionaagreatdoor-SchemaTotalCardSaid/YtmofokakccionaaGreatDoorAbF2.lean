/- The code is the program's. Printed by mkco.py. -/
import Derived.Test.YtmofokakccionaaGreatDoorAbG
import Derived.KernelRfl
import Derived.Test.YtmofokakccionaaGreatDoorAbC0
import Derived.Test.YtmofokakccionaaGreatDoorAbC1
import Derived.Test.YtmofokakccionaaGreatDoorAbC2
import Derived.Test.YtmofokakccionaaGreatDoorAbC3
set_option linter.all false
namespace Go.Ab
open Go.Proofs.Tryz
set_option maxRecDepth 100000
theorem fits170 : fits prog0 globs0 raws0 f170 x170 := ⟨by kernel_rfl, by kernel_rfl⟩
theorem name170 : (f170.name == "runtime.NumGoroutine") = false := by kernel_rfl
theorem fits25 : fits prog0 globs0 raws0 f25 x25 := ⟨by kernel_rfl, by kernel_rfl⟩
theorem name25 : (f25.name == "runtime.NumGoroutine") = false := by kernel_rfl
theorem fits27 : fits prog0 globs0 raws0 f27 x27 := ⟨by kernel_rfl, by kernel_rfl⟩
theorem name27 : (f27.name == "runtime.NumGoroutine") = false := by kernel_rfl
theorem fits33 : fits prog0 globs0 raws0 f33 x33 := ⟨by kernel_rfl, by kernel_rfl⟩
theorem name33 : (f33.name == "runtime.NumGoroutine") = false := by kernel_rfl
theorem fits96 : fits prog0 globs0 raws0 f96 x96 := ⟨by kernel_rfl, by kernel_rfl⟩
theorem name96 : (f96.name == "runtime.NumGoroutine") = false := by kernel_rfl
theorem fits23 : fits prog0 globs0 raws0 f23 x23 := ⟨by kernel_rfl, by kernel_rfl⟩
theorem name23 : (f23.name == "runtime.NumGoroutine") = false := by kernel_rfl
theorem fits139 : fits prog0 globs0 raws0 f139 x139 := ⟨by kernel_rfl, by kernel_rfl⟩
theorem name139 : (f139.name == "runtime.NumGoroutine") = false := by kernel_rfl
theorem fits34 : fits prog0 globs0 raws0 f34 x34 := ⟨by kernel_rfl, by kernel_rfl⟩
theorem name34 : (f34.name == "runtime.NumGoroutine") = false := by kernel_rfl
theorem fits222 : fits prog0 globs0 raws0 f222 x222 := ⟨by kernel_rfl, by kernel_rfl⟩
theorem name222 : (f222.name == "runtime.NumGoroutine") = false := by kernel_rfl
theorem fits216 : fits prog0 globs0 raws0 f216 x216 := ⟨by kernel_rfl, by kernel_rfl⟩
theorem name216 : (f216.name == "runtime.NumGoroutine") = false := by kernel_rfl
theorem fits19 : fits prog0 globs0 raws0 f19 x19 := ⟨by kernel_rfl, by kernel_rfl⟩
theorem name19 : (f19.name == "runtime.NumGoroutine") = false := by kernel_rfl
theorem fits223 : fits prog0 globs0 raws0 f223 x223 := ⟨by kernel_rfl, by kernel_rfl⟩
theorem name223 : (f223.name == "runtime.NumGoroutine") = false := by kernel_rfl
theorem fits53 : fits prog0 globs0 raws0 f53 x53 := ⟨by kernel_rfl, by kernel_rfl⟩
theorem name53 : (f53.name == "runtime.NumGoroutine") = false := by kernel_rfl
theorem fits198 : fits prog0 globs0 raws0 f198 x198 := ⟨by kernel_rfl, by kernel_rfl⟩
theorem name198 : (f198.name == "runtime.NumGoroutine") = false := by kernel_rfl
theorem fits152 : fits prog0 globs0 raws0 f152 x152 := ⟨by kernel_rfl, by kernel_rfl⟩
theorem name152 : (f152.name == "runtime.NumGoroutine") = false := by kernel_rfl
theorem fits89 : fits prog0 globs0 raws0 f89 x89 := ⟨by kernel_rfl, by kernel_rfl⟩
theorem name89 : (f89.name == "runtime.NumGoroutine") = false := by kernel_rfl
theorem fits150 : fits prog0 globs0 raws0 f150 x150 := ⟨by kernel_rfl, by kernel_rfl⟩
theorem name150 : (f150.name == "runtime.NumGoroutine") = false := by kernel_rfl
theorem fits29 : fits prog0 globs0 raws0 f29 x29 := ⟨by kernel_rfl, by kernel_rfl⟩
theorem name29 : (f29.name == "runtime.NumGoroutine") = false := by kernel_rfl
theorem fits232 : fits prog0 globs0 raws0 f232 x232 := ⟨by kernel_rfl, by kernel_rfl⟩
theorem name232 : (f232.name == "runtime.NumGoroutine") = false := by kernel_rfl
theorem fits153 : fits prog0 globs0 raws0 f153 x153 := ⟨by kernel_rfl, by kernel_rfl⟩
theorem name153 : (f153.name == "runtime.NumGoroutine") = false := by kernel_rfl
theorem fits15 : fits prog0 globs0 raws0 f15 x15 := ⟨by kernel_rfl, by kernel_rfl⟩
theorem name15 : (f15.name == "runtime.NumGoroutine") = false := by kernel_rfl
theorem fits236 : fits prog0 globs0 raws0 f236 x236 := ⟨by kernel_rfl, by kernel_rfl⟩
theorem name236 : (f236.name == "runtime.NumGoroutine") = false := by kernel_rfl
theorem fits70 : fits prog0 globs0 raws0 f70 x70 := ⟨by kernel_rfl, by kernel_rfl⟩
theorem name70 : (f70.name == "runtime.NumGoroutine") = false := by kernel_rfl
theorem fits107 : fits prog0 globs0 raws0 f107 x107 := ⟨by kernel_rfl, by kernel_rfl⟩
theorem name107 : (f107.name == "runtime.NumGoroutine") = false := by kernel_rfl
theorem fits205 : fits prog0 globs0 raws0 f205 x205 := ⟨by kernel_rfl, by kernel_rfl⟩
theorem name205 : (f205.name == "runtime.NumGoroutine") = false := by kernel_rfl
theorem fits82 : fits prog0 globs0 raws0 f82 x82 := ⟨by kernel_rfl, by kernel_rfl⟩
theorem name82 : (f82.name == "runtime.NumGoroutine") = false := by kernel_rfl
theorem fits202 : fits prog0 globs0 raws0 f202 x202 := ⟨by kernel_rfl, by kernel_rfl⟩
theorem name202 : (f202.name == "runtime.NumGoroutine") = false := by kernel_rfl
theorem fits80 : fits prog0 globs0 raws0 f80 x80 := ⟨by kernel_rfl, by kernel_rfl⟩
theorem name80 : (f80.name == "runtime.NumGoroutine") = false := by kernel_rfl
theorem fits42 : fits prog0 globs0 raws0 f42 x42 := ⟨by kernel_rfl, by kernel_rfl⟩
theorem name42 : (f42.name == "runtime.NumGoroutine") = false := by kernel_rfl
theorem fits47 : fits prog0 globs0 raws0 f47 x47 := ⟨by kernel_rfl, by kernel_rfl⟩
theorem name47 : (f47.name == "runtime.NumGoroutine") = false := by kernel_rfl
theorem fits48 : fits prog0 globs0 raws0 f48 x48 := ⟨by kernel_rfl, by kernel_rfl⟩
theorem name48 : (f48.name == "runtime.NumGoroutine") = false := by kernel_rfl
theorem fits76 : fits prog0 globs0 raws0 f76 x76 := ⟨by kernel_rfl, by kernel_rfl⟩
theorem name76 : (f76.name == "runtime.NumGoroutine") = false := by kernel_rfl
theorem fits208 : fits prog0 globs0 raws0 f208 x208 := ⟨by kernel_rfl, by kernel_rfl⟩
theorem name208 : (f208.name == "runtime.NumGoroutine") = false := by kernel_rfl
theorem fits72 : fits prog0 globs0 raws0 f72 x72 := ⟨by kernel_rfl, by kernel_rfl⟩
theorem name72 : (f72.name == "runtime.NumGoroutine") = false := by kernel_rfl
theorem fits58 : fits prog0 globs0 raws0 f58 x58 := ⟨by kernel_rfl, by kernel_rfl⟩
theorem name58 : (f58.name == "runtime.NumGoroutine") = false := by kernel_rfl
theorem fits124 : fits prog0 globs0 raws0 f124 x124 := ⟨by kernel_rfl, by kernel_rfl⟩
theorem name124 : (f124.name == "runtime.NumGoroutine") = false := by kernel_rfl
theorem fits100 : fits prog0 globs0 raws0 f100 x100 := ⟨by kernel_rfl, by kernel_rfl⟩
theorem name100 : (f100.name == "runtime.NumGoroutine") = false := by kernel_rfl
theorem fits123 : fits prog0 globs0 raws0 f123 x123 := ⟨by kernel_rfl, by kernel_rfl⟩
theorem name123 : (f123.name == "runtime.NumGoroutine") = false := by kernel_rfl
theorem fits148 : fits prog0 globs0 raws0 f148 x148 := ⟨by kernel_rfl, by kernel_rfl⟩
theorem name148 : (f148.name == "runtime.NumGoroutine") = false := by kernel_rfl
theorem fits69 : fits prog0 globs0 raws0 f69 x69 := ⟨by kernel_rfl, by kernel_rfl⟩
theorem name69 : (f69.name == "runtime.NumGoroutine") = false := by kernel_rfl
theorem fits211 : fits prog0 globs0 raws0 f211 x211 := ⟨by kernel_rfl, by kernel_rfl⟩
theorem name211 : (f211.name == "runtime.NumGoroutine") = false := by kernel_rfl
end Go.Ab
