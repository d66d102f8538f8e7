/- The code is the program's. Printed by mkco.py. -/
import Derived.Test.YtdppgkglljpdaaaGreatDoorAbG
import Derived.KernelRfl
import Derived.Test.YtdppgkglljpdaaaGreatDoorAbC0
import Derived.Test.YtdppgkglljpdaaaGreatDoorAbC1
import Derived.Test.YtdppgkglljpdaaaGreatDoorAbC2
import Derived.Test.YtdppgkglljpdaaaGreatDoorAbC3
set_option linter.all false
namespace Go.Ab
open Go.Proofs.Tryz
set_option maxRecDepth 100000
theorem fits107 : fits prog0 globs0 raws0 f107 x107 := ⟨by kernel_rfl, by kernel_rfl⟩
theorem name107 : (f107.name == "runtime.NumGoroutine") = false := by kernel_rfl
theorem fits104 : fits prog0 globs0 raws0 f104 x104 := ⟨by kernel_rfl, by kernel_rfl⟩
theorem name104 : (f104.name == "runtime.NumGoroutine") = false := by kernel_rfl
theorem fits138 : fits prog0 globs0 raws0 f138 x138 := ⟨by kernel_rfl, by kernel_rfl⟩
theorem name138 : (f138.name == "runtime.NumGoroutine") = false := by kernel_rfl
theorem fits50 : fits prog0 globs0 raws0 f50 x50 := ⟨by kernel_rfl, by kernel_rfl⟩
theorem name50 : (f50.name == "runtime.NumGoroutine") = false := by kernel_rfl
theorem fits79 : fits prog0 globs0 raws0 f79 x79 := ⟨by kernel_rfl, by kernel_rfl⟩
theorem name79 : (f79.name == "runtime.NumGoroutine") = false := by kernel_rfl
theorem fits171 : fits prog0 globs0 raws0 f171 x171 := ⟨by kernel_rfl, by kernel_rfl⟩
theorem name171 : (f171.name == "runtime.NumGoroutine") = false := by kernel_rfl
theorem fits126 : fits prog0 globs0 raws0 f126 x126 := ⟨by kernel_rfl, by kernel_rfl⟩
theorem name126 : (f126.name == "runtime.NumGoroutine") = false := by kernel_rfl
theorem fits57 : fits prog0 globs0 raws0 f57 x57 := ⟨by kernel_rfl, by kernel_rfl⟩
theorem name57 : (f57.name == "runtime.NumGoroutine") = false := by kernel_rfl
theorem fits247 : fits prog0 globs0 raws0 f247 x247 := ⟨by kernel_rfl, by kernel_rfl⟩
theorem name247 : (f247.name == "runtime.NumGoroutine") = false := by kernel_rfl
theorem fits80 : fits prog0 globs0 raws0 f80 x80 := ⟨by kernel_rfl, by kernel_rfl⟩
theorem name80 : (f80.name == "runtime.NumGoroutine") = false := by kernel_rfl
theorem fits135 : fits prog0 globs0 raws0 f135 x135 := ⟨by kernel_rfl, by kernel_rfl⟩
theorem name135 : (f135.name == "runtime.NumGoroutine") = false := by kernel_rfl
theorem fits263 : fits prog0 globs0 raws0 f263 x263 := ⟨by kernel_rfl, by kernel_rfl⟩
theorem name263 : (f263.name == "runtime.NumGoroutine") = false := by kernel_rfl
theorem fits140 : fits prog0 globs0 raws0 f140 x140 := ⟨by kernel_rfl, by kernel_rfl⟩
theorem name140 : (f140.name == "runtime.NumGoroutine") = false := by kernel_rfl
theorem fits144 : fits prog0 globs0 raws0 f144 x144 := ⟨by kernel_rfl, by kernel_rfl⟩
theorem name144 : (f144.name == "runtime.NumGoroutine") = false := by kernel_rfl
theorem fits56 : fits prog0 globs0 raws0 f56 x56 := ⟨by kernel_rfl, by kernel_rfl⟩
theorem name56 : (f56.name == "runtime.NumGoroutine") = false := by kernel_rfl
theorem fits168 : fits prog0 globs0 raws0 f168 x168 := ⟨by kernel_rfl, by kernel_rfl⟩
theorem name168 : (f168.name == "runtime.NumGoroutine") = false := by kernel_rfl
theorem fits219 : fits prog0 globs0 raws0 f219 x219 := ⟨by kernel_rfl, by kernel_rfl⟩
theorem name219 : (f219.name == "runtime.NumGoroutine") = false := by kernel_rfl
theorem fits206 : fits prog0 globs0 raws0 f206 x206 := ⟨by kernel_rfl, by kernel_rfl⟩
theorem name206 : (f206.name == "runtime.NumGoroutine") = false := by kernel_rfl
theorem fits166 : fits prog0 globs0 raws0 f166 x166 := ⟨by kernel_rfl, by kernel_rfl⟩
theorem name166 : (f166.name == "runtime.NumGoroutine") = false := by kernel_rfl
theorem fits156 : fits prog0 globs0 raws0 f156 x156 := ⟨by kernel_rfl, by kernel_rfl⟩
theorem name156 : (f156.name == "runtime.NumGoroutine") = false := by kernel_rfl
theorem fits23 : fits prog0 globs0 raws0 f23 x23 := ⟨by kernel_rfl, by kernel_rfl⟩
theorem name23 : (f23.name == "runtime.NumGoroutine") = false := by kernel_rfl
theorem fits105 : fits prog0 globs0 raws0 f105 x105 := ⟨by kernel_rfl, by kernel_rfl⟩
theorem name105 : (f105.name == "runtime.NumGoroutine") = false := by kernel_rfl
theorem fits243 : fits prog0 globs0 raws0 f243 x243 := ⟨by kernel_rfl, by kernel_rfl⟩
theorem name243 : (f243.name == "runtime.NumGoroutine") = false := by kernel_rfl
theorem fits178 : fits prog0 globs0 raws0 f178 x178 := ⟨by kernel_rfl, by kernel_rfl⟩
theorem name178 : (f178.name == "runtime.NumGoroutine") = false := by kernel_rfl
theorem fits267 : fits prog0 globs0 raws0 f267 x267 := ⟨by kernel_rfl, by kernel_rfl⟩
theorem name267 : (f267.name == "runtime.NumGoroutine") = false := by kernel_rfl
theorem fits54 : fits prog0 globs0 raws0 f54 x54 := ⟨by kernel_rfl, by kernel_rfl⟩
theorem name54 : (f54.name == "runtime.NumGoroutine") = false := by kernel_rfl
theorem fits76 : fits prog0 globs0 raws0 f76 x76 := ⟨by kernel_rfl, by kernel_rfl⟩
theorem name76 : (f76.name == "runtime.NumGoroutine") = false := by kernel_rfl
theorem fits78 : fits prog0 globs0 raws0 f78 x78 := ⟨by kernel_rfl, by kernel_rfl⟩
theorem name78 : (f78.name == "runtime.NumGoroutine") = false := by kernel_rfl
theorem fits259 : fits prog0 globs0 raws0 f259 x259 := ⟨by kernel_rfl, by kernel_rfl⟩
theorem name259 : (f259.name == "runtime.NumGoroutine") = false := by kernel_rfl
theorem fits147 : fits prog0 globs0 raws0 f147 x147 := ⟨by kernel_rfl, by kernel_rfl⟩
theorem name147 : (f147.name == "runtime.NumGoroutine") = false := by kernel_rfl
theorem fits227 : fits prog0 globs0 raws0 f227 x227 := ⟨by kernel_rfl, by kernel_rfl⟩
theorem name227 : (f227.name == "runtime.NumGoroutine") = false := by kernel_rfl
theorem fits71 : fits prog0 globs0 raws0 f71 x71 := ⟨by kernel_rfl, by kernel_rfl⟩
theorem name71 : (f71.name == "runtime.NumGoroutine") = false := by kernel_rfl
theorem fits249 : fits prog0 globs0 raws0 f249 x249 := ⟨by kernel_rfl, by kernel_rfl⟩
theorem name249 : (f249.name == "runtime.NumGoroutine") = false := by kernel_rfl
theorem fits242 : fits prog0 globs0 raws0 f242 x242 := ⟨by kernel_rfl, by kernel_rfl⟩
theorem name242 : (f242.name == "runtime.NumGoroutine") = false := by kernel_rfl
theorem fits47 : fits prog0 globs0 raws0 f47 x47 := ⟨by kernel_rfl, by kernel_rfl⟩
theorem name47 : (f47.name == "runtime.NumGoroutine") = false := by kernel_rfl
theorem fits180 : fits prog0 globs0 raws0 f180 x180 := ⟨by kernel_rfl, by kernel_rfl⟩
theorem name180 : (f180.name == "runtime.NumGoroutine") = false := by kernel_rfl
theorem fits136 : fits prog0 globs0 raws0 f136 x136 := ⟨by kernel_rfl, by kernel_rfl⟩
theorem name136 : (f136.name == "runtime.NumGoroutine") = false := by kernel_rfl
theorem fits73 : fits prog0 globs0 raws0 f73 x73 := ⟨by kernel_rfl, by kernel_rfl⟩
theorem name73 : (f73.name == "runtime.NumGoroutine") = false := by kernel_rfl
theorem fits265 : fits prog0 globs0 raws0 f265 x265 := ⟨by kernel_rfl, by kernel_rfl⟩
theorem name265 : (f265.name == "runtime.NumGoroutine") = false := by kernel_rfl
theorem fits14 : fits prog0 globs0 raws0 f14 x14 := ⟨by kernel_rfl, by kernel_rfl⟩
theorem name14 : (f14.name == "runtime.NumGoroutine") = false := by kernel_rfl
theorem fits127 : fits prog0 globs0 raws0 f127 x127 := ⟨by kernel_rfl, by kernel_rfl⟩
theorem name127 : (f127.name == "runtime.NumGoroutine") = false := by kernel_rfl
theorem fits38 : fits prog0 globs0 raws0 f38 x38 := ⟨by kernel_rfl, by kernel_rfl⟩
theorem name38 : (f38.name == "runtime.NumGoroutine") = false := by kernel_rfl
theorem fits182 : fits prog0 globs0 raws0 f182 x182 := ⟨by kernel_rfl, by kernel_rfl⟩
theorem name182 : (f182.name == "runtime.NumGoroutine") = false := by kernel_rfl
theorem fits30 : fits prog0 globs0 raws0 f30 x30 := ⟨by kernel_rfl, by kernel_rfl⟩
theorem name30 : (f30.name == "runtime.NumGoroutine") = false := by kernel_rfl
theorem fits200 : fits prog0 globs0 raws0 f200 x200 := ⟨by kernel_rfl, by kernel_rfl⟩
theorem name200 : (f200.name == "runtime.NumGoroutine") = false := by kernel_rfl
theorem fits165 : fits prog0 globs0 raws0 f165 x165 := ⟨by kernel_rfl, by kernel_rfl⟩
theorem name165 : (f165.name == "runtime.NumGoroutine") = false := by kernel_rfl
theorem fits175 : fits prog0 globs0 raws0 f175 x175 := ⟨by kernel_rfl, by kernel_rfl⟩
theorem name175 : (f175.name == "runtime.NumGoroutine") = false := by kernel_rfl
theorem fits119 : fits prog0 globs0 raws0 f119 x119 := ⟨by kernel_rfl, by kernel_rfl⟩
theorem name119 : (f119.name == "runtime.NumGoroutine") = false := by kernel_rfl
end Go.Ab
