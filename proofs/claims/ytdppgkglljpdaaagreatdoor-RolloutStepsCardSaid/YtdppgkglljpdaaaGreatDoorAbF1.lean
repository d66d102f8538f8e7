/- The code is the program's. Printed by mkco.py. -/
import Derived.Test.YtdppgkglljpdaaaGreatDoorAbG
import Derived.KernelRfl
import Derived.Test.YtdppgkglljpdaaaGreatDoorAbC0
import Derived.Test.YtdppgkglljpdaaaGreatDoorAbC1
import Derived.Test.YtdppgkglljpdaaaGreatDoorAbC2
import Derived.Test.YtdppgkglljpdaaaGreatDoorAbC3
set_option linter.all false
namespace Go.Ab
open Go.Proofs.Tryz
set_option maxRecDepth 100000
theorem fits107 : fits prog0 globs0 raws0 f107 x107 := ⟨by kernel_rfl, by kernel_rfl⟩
theorem name107 : (f107.name == "runtime.NumGoroutine") = false := by kernel_rfl
theorem fits104 : fits prog0 globs0 raws0 f104 x104 := ⟨by kernel_rfl, by kernel_rfl⟩
theorem name104 : (f104.name == "runtime.NumGoroutine") = false := by kernel_rfl
theorem fits138 : fits prog0 globs0 raws0 f138 x138 := ⟨by kernel_rfl, by kernel_rfl⟩
theorem name138 : (f138.name == "runtime.NumGoroutine") = false := by kernel_rfl
theorem fits50 : fits prog0 globs0 raws0 f50 x50 := ⟨by kernel_rfl, by kernel_rfl⟩
theorem name50 : (f50.name == "runtime.NumGoroutine") = false := by kernel_rfl
theorem fits79 : fits prog0 globs0 raws0 f79 x79 := ⟨by kernel_rfl, by kernel_rfl⟩
theorem name79 : (f79.name == "runtime.NumGoroutine") = false := by kernel_rfl
theorem fits81 : fits prog0 globs0 raws0 f81 x81 := ⟨by kernel_rfl, by kernel_rfl⟩
theorem name81 : (f81.name == "runtime.NumGoroutine") = false := by kernel_rfl
theorem fits173 : fits prog0 globs0 raws0 f173 x173 := ⟨by kernel_rfl, by kernel_rfl⟩
theorem name173 : (f173.name == "runtime.NumGoroutine") = false := by kernel_rfl
theorem fits57 : fits prog0 globs0 raws0 f57 x57 := ⟨by kernel_rfl, by kernel_rfl⟩
theorem name57 : (f57.name == "runtime.NumGoroutine") = false := by kernel_rfl
theorem fits247 : fits prog0 globs0 raws0 f247 x247 := ⟨by kernel_rfl, by kernel_rfl⟩
theorem name247 : (f247.name == "runtime.NumGoroutine") = false := by kernel_rfl
theorem fits241 : fits prog0 globs0 raws0 f241 x241 := ⟨by kernel_rfl, by kernel_rfl⟩
theorem name241 : (f241.name == "runtime.NumGoroutine") = false := by kernel_rfl
theorem fits15 : fits prog0 globs0 raws0 f15 x15 := ⟨by kernel_rfl, by kernel_rfl⟩
theorem name15 : (f15.name == "runtime.NumGoroutine") = false := by kernel_rfl
theorem fits248 : fits prog0 globs0 raws0 f248 x248 := ⟨by kernel_rfl, by kernel_rfl⟩
theorem name248 : (f248.name == "runtime.NumGoroutine") = false := by kernel_rfl
theorem fits87 : fits prog0 globs0 raws0 f87 x87 := ⟨by kernel_rfl, by kernel_rfl⟩
theorem name87 : (f87.name == "runtime.NumGoroutine") = false := by kernel_rfl
theorem fits201 : fits prog0 globs0 raws0 f201 x201 := ⟨by kernel_rfl, by kernel_rfl⟩
theorem name201 : (f201.name == "runtime.NumGoroutine") = false := by kernel_rfl
theorem fits16 : fits prog0 globs0 raws0 f16 x16 := ⟨by kernel_rfl, by kernel_rfl⟩
theorem name16 : (f16.name == "runtime.NumGoroutine") = false := by kernel_rfl
theorem fits219 : fits prog0 globs0 raws0 f219 x219 := ⟨by kernel_rfl, by kernel_rfl⟩
theorem name219 : (f219.name == "runtime.NumGoroutine") = false := by kernel_rfl
theorem fits19 : fits prog0 globs0 raws0 f19 x19 := ⟨by kernel_rfl, by kernel_rfl⟩
theorem name19 : (f19.name == "runtime.NumGoroutine") = false := by kernel_rfl
theorem fits148 : fits prog0 globs0 raws0 f148 x148 := ⟨by kernel_rfl, by kernel_rfl⟩
theorem name148 : (f148.name == "runtime.NumGoroutine") = false := by kernel_rfl
theorem fits85 : fits prog0 globs0 raws0 f85 x85 := ⟨by kernel_rfl, by kernel_rfl⟩
theorem name85 : (f85.name == "runtime.NumGoroutine") = false := by kernel_rfl
theorem fits143 : fits prog0 globs0 raws0 f143 x143 := ⟨by kernel_rfl, by kernel_rfl⟩
theorem name143 : (f143.name == "runtime.NumGoroutine") = false := by kernel_rfl
theorem fits137 : fits prog0 globs0 raws0 f137 x137 := ⟨by kernel_rfl, by kernel_rfl⟩
theorem name137 : (f137.name == "runtime.NumGoroutine") = false := by kernel_rfl
theorem fits25 : fits prog0 globs0 raws0 f25 x25 := ⟨by kernel_rfl, by kernel_rfl⟩
theorem name25 : (f25.name == "runtime.NumGoroutine") = false := by kernel_rfl
theorem fits95 : fits prog0 globs0 raws0 f95 x95 := ⟨by kernel_rfl, by kernel_rfl⟩
theorem name95 : (f95.name == "runtime.NumGoroutine") = false := by kernel_rfl
theorem fits69 : fits prog0 globs0 raws0 f69 x69 := ⟨by kernel_rfl, by kernel_rfl⟩
theorem name69 : (f69.name == "runtime.NumGoroutine") = false := by kernel_rfl
theorem fits141 : fits prog0 globs0 raws0 f141 x141 := ⟨by kernel_rfl, by kernel_rfl⟩
theorem name141 : (f141.name == "runtime.NumGoroutine") = false := by kernel_rfl
theorem fits226 : fits prog0 globs0 raws0 f226 x226 := ⟨by kernel_rfl, by kernel_rfl⟩
theorem name226 : (f226.name == "runtime.NumGoroutine") = false := by kernel_rfl
theorem fits259 : fits prog0 globs0 raws0 f259 x259 := ⟨by kernel_rfl, by kernel_rfl⟩
theorem name259 : (f259.name == "runtime.NumGoroutine") = false := by kernel_rfl
theorem fits147 : fits prog0 globs0 raws0 f147 x147 := ⟨by kernel_rfl, by kernel_rfl⟩
theorem name147 : (f147.name == "runtime.NumGoroutine") = false := by kernel_rfl
theorem fits227 : fits prog0 globs0 raws0 f227 x227 := ⟨by kernel_rfl, by kernel_rfl⟩
theorem name227 : (f227.name == "runtime.NumGoroutine") = false := by kernel_rfl
theorem fits71 : fits prog0 globs0 raws0 f71 x71 := ⟨by kernel_rfl, by kernel_rfl⟩
theorem name71 : (f71.name == "runtime.NumGoroutine") = false := by kernel_rfl
theorem fits249 : fits prog0 globs0 raws0 f249 x249 := ⟨by kernel_rfl, by kernel_rfl⟩
theorem name249 : (f249.name == "runtime.NumGoroutine") = false := by kernel_rfl
theorem fits118 : fits prog0 globs0 raws0 f118 x118 := ⟨by kernel_rfl, by kernel_rfl⟩
theorem name118 : (f118.name == "runtime.NumGoroutine") = false := by kernel_rfl
theorem fits117 : fits prog0 globs0 raws0 f117 x117 := ⟨by kernel_rfl, by kernel_rfl⟩
theorem name117 : (f117.name == "runtime.NumGoroutine") = false := by kernel_rfl
theorem fits237 : fits prog0 globs0 raws0 f237 x237 := ⟨by kernel_rfl, by kernel_rfl⟩
theorem name237 : (f237.name == "runtime.NumGoroutine") = false := by kernel_rfl
theorem fits73 : fits prog0 globs0 raws0 f73 x73 := ⟨by kernel_rfl, by kernel_rfl⟩
theorem name73 : (f73.name == "runtime.NumGoroutine") = false := by kernel_rfl
theorem fits86 : fits prog0 globs0 raws0 f86 x86 := ⟨by kernel_rfl, by kernel_rfl⟩
theorem name86 : (f86.name == "runtime.NumGoroutine") = false := by kernel_rfl
theorem fits91 : fits prog0 globs0 raws0 f91 x91 := ⟨by kernel_rfl, by kernel_rfl⟩
theorem name91 : (f91.name == "runtime.NumGoroutine") = false := by kernel_rfl
theorem fits129 : fits prog0 globs0 raws0 f129 x129 := ⟨by kernel_rfl, by kernel_rfl⟩
theorem name129 : (f129.name == "runtime.NumGoroutine") = false := by kernel_rfl
theorem fits89 : fits prog0 globs0 raws0 f89 x89 := ⟨by kernel_rfl, by kernel_rfl⟩
theorem name89 : (f89.name == "runtime.NumGoroutine") = false := by kernel_rfl
theorem fits244 : fits prog0 globs0 raws0 f244 x244 := ⟨by kernel_rfl, by kernel_rfl⟩
theorem name244 : (f244.name == "runtime.NumGoroutine") = false := by kernel_rfl
theorem fits128 : fits prog0 globs0 raws0 f128 x128 := ⟨by kernel_rfl, by kernel_rfl⟩
theorem name128 : (f128.name == "runtime.NumGoroutine") = false := by kernel_rfl
theorem fits164 : fits prog0 globs0 raws0 f164 x164 := ⟨by kernel_rfl, by kernel_rfl⟩
theorem name164 : (f164.name == "runtime.NumGoroutine") = false := by kernel_rfl
theorem fits58 : fits prog0 globs0 raws0 f58 x58 := ⟨by kernel_rfl, by kernel_rfl⟩
theorem name58 : (f58.name == "runtime.NumGoroutine") = false := by kernel_rfl
theorem fits236 : fits prog0 globs0 raws0 f236 x236 := ⟨by kernel_rfl, by kernel_rfl⟩
theorem name236 : (f236.name == "runtime.NumGoroutine") = false := by kernel_rfl
end Go.Ab
