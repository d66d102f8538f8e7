/- The code is the program's. Printed by mkco.py. -/
import Derived.Test.YtmofokakccionaaGreatDoorAbG
import Derived.KernelRfl
import Derived.Test.YtmofokakccionaaGreatDoorAbC0
import Derived.Test.YtmofokakccionaaGreatDoorAbC1
import Derived.Test.YtmofokakccionaaGreatDoorAbC2
import Derived.Test.YtmofokakccionaaGreatDoorAbC3
set_option linter.all false
namespace Go.Ab
open Go.Proofs.Tryz
set_option maxRecDepth 100000
theorem fits93 : fits prog0 globs0 raws0 f93 x93 := ⟨by kernel_rfl, by kernel_rfl⟩
theorem name93 : (f93.name == "runtime.NumGoroutine") = false := by kernel_rfl
theorem fits25 : fits prog0 globs0 raws0 f25 x25 := ⟨by kernel_rfl, by kernel_rfl⟩
theorem name25 : (f25.name == "runtime.NumGoroutine") = false := by kernel_rfl
theorem fits27 : fits prog0 globs0 raws0 f27 x27 := ⟨by kernel_rfl, by kernel_rfl⟩
theorem name27 : (f27.name == "runtime.NumGoroutine") = false := by kernel_rfl
theorem fits33 : fits prog0 globs0 raws0 f33 x33 := ⟨by kernel_rfl, by kernel_rfl⟩
theorem name33 : (f33.name == "runtime.NumGoroutine") = false := by kernel_rfl
theorem fits96 : fits prog0 globs0 raws0 f96 x96 := ⟨by kernel_rfl, by kernel_rfl⟩
theorem name96 : (f96.name == "runtime.NumGoroutine") = false := by kernel_rfl
theorem fits23 : fits prog0 globs0 raws0 f23 x23 := ⟨by kernel_rfl, by kernel_rfl⟩
theorem name23 : (f23.name == "runtime.NumGoroutine") = false := by kernel_rfl
theorem fits139 : fits prog0 globs0 raws0 f139 x139 := ⟨by kernel_rfl, by kernel_rfl⟩
theorem name139 : (f139.name == "runtime.NumGoroutine") = false := by kernel_rfl
theorem fits221 : fits prog0 globs0 raws0 f221 x221 := ⟨by kernel_rfl, by kernel_rfl⟩
theorem name221 : (f221.name == "runtime.NumGoroutine") = false := by kernel_rfl
theorem fits18 : fits prog0 globs0 raws0 f18 x18 := ⟨by kernel_rfl, by kernel_rfl⟩
theorem name18 : (f18.name == "runtime.NumGoroutine") = false := by kernel_rfl
theorem fits234 : fits prog0 globs0 raws0 f234 x234 := ⟨by kernel_rfl, by kernel_rfl⟩
theorem name234 : (f234.name == "runtime.NumGoroutine") = false := by kernel_rfl
theorem fits109 : fits prog0 globs0 raws0 f109 x109 := ⟨by kernel_rfl, by kernel_rfl⟩
theorem name109 : (f109.name == "runtime.NumGoroutine") = false := by kernel_rfl
theorem fits233 : fits prog0 globs0 raws0 f233 x233 := ⟨by kernel_rfl, by kernel_rfl⟩
theorem name233 : (f233.name == "runtime.NumGoroutine") = false := by kernel_rfl
theorem fits114 : fits prog0 globs0 raws0 f114 x114 := ⟨by kernel_rfl, by kernel_rfl⟩
theorem name114 : (f114.name == "runtime.NumGoroutine") = false := by kernel_rfl
theorem fits118 : fits prog0 globs0 raws0 f118 x118 := ⟨by kernel_rfl, by kernel_rfl⟩
theorem name118 : (f118.name == "runtime.NumGoroutine") = false := by kernel_rfl
theorem fits13 : fits prog0 globs0 raws0 f13 x13 := ⟨by kernel_rfl, by kernel_rfl⟩
theorem name13 : (f13.name == "runtime.NumGoroutine") = false := by kernel_rfl
theorem fits37 : fits prog0 globs0 raws0 f37 x37 := ⟨by kernel_rfl, by kernel_rfl⟩
theorem name37 : (f37.name == "runtime.NumGoroutine") = false := by kernel_rfl
theorem fits143 : fits prog0 globs0 raws0 f143 x143 := ⟨by kernel_rfl, by kernel_rfl⟩
theorem name143 : (f143.name == "runtime.NumGoroutine") = false := by kernel_rfl
theorem fits83 : fits prog0 globs0 raws0 f83 x83 := ⟨by kernel_rfl, by kernel_rfl⟩
theorem name83 : (f83.name == "runtime.NumGoroutine") = false := by kernel_rfl
theorem fits71 : fits prog0 globs0 raws0 f71 x71 := ⟨by kernel_rfl, by kernel_rfl⟩
theorem name71 : (f71.name == "runtime.NumGoroutine") = false := by kernel_rfl
theorem fits117 : fits prog0 globs0 raws0 f117 x117 := ⟨by kernel_rfl, by kernel_rfl⟩
theorem name117 : (f117.name == "runtime.NumGoroutine") = false := by kernel_rfl
theorem fits16 : fits prog0 globs0 raws0 f16 x16 := ⟨by kernel_rfl, by kernel_rfl⟩
theorem name16 : (f16.name == "runtime.NumGoroutine") = false := by kernel_rfl
theorem fits31 : fits prog0 globs0 raws0 f31 x31 := ⟨by kernel_rfl, by kernel_rfl⟩
theorem name31 : (f31.name == "runtime.NumGoroutine") = false := by kernel_rfl
theorem fits236 : fits prog0 globs0 raws0 f236 x236 := ⟨by kernel_rfl, by kernel_rfl⟩
theorem name236 : (f236.name == "runtime.NumGoroutine") = false := by kernel_rfl
theorem fits70 : fits prog0 globs0 raws0 f70 x70 := ⟨by kernel_rfl, by kernel_rfl⟩
theorem name70 : (f70.name == "runtime.NumGoroutine") = false := by kernel_rfl
theorem fits107 : fits prog0 globs0 raws0 f107 x107 := ⟨by kernel_rfl, by kernel_rfl⟩
theorem name107 : (f107.name == "runtime.NumGoroutine") = false := by kernel_rfl
theorem fits205 : fits prog0 globs0 raws0 f205 x205 := ⟨by kernel_rfl, by kernel_rfl⟩
theorem name205 : (f205.name == "runtime.NumGoroutine") = false := by kernel_rfl
theorem fits82 : fits prog0 globs0 raws0 f82 x82 := ⟨by kernel_rfl, by kernel_rfl⟩
theorem name82 : (f82.name == "runtime.NumGoroutine") = false := by kernel_rfl
theorem fits202 : fits prog0 globs0 raws0 f202 x202 := ⟨by kernel_rfl, by kernel_rfl⟩
theorem name202 : (f202.name == "runtime.NumGoroutine") = false := by kernel_rfl
theorem fits80 : fits prog0 globs0 raws0 f80 x80 := ⟨by kernel_rfl, by kernel_rfl⟩
theorem name80 : (f80.name == "runtime.NumGoroutine") = false := by kernel_rfl
theorem fits42 : fits prog0 globs0 raws0 f42 x42 := ⟨by kernel_rfl, by kernel_rfl⟩
theorem name42 : (f42.name == "runtime.NumGoroutine") = false := by kernel_rfl
theorem fits47 : fits prog0 globs0 raws0 f47 x47 := ⟨by kernel_rfl, by kernel_rfl⟩
theorem name47 : (f47.name == "runtime.NumGoroutine") = false := by kernel_rfl
theorem fits65 : fits prog0 globs0 raws0 f65 x65 := ⟨by kernel_rfl, by kernel_rfl⟩
theorem name65 : (f65.name == "runtime.NumGoroutine") = false := by kernel_rfl
theorem fits212 : fits prog0 globs0 raws0 f212 x212 := ⟨by kernel_rfl, by kernel_rfl⟩
theorem name212 : (f212.name == "runtime.NumGoroutine") = false := by kernel_rfl
theorem fits77 : fits prog0 globs0 raws0 f77 x77 := ⟨by kernel_rfl, by kernel_rfl⟩
theorem name77 : (f77.name == "runtime.NumGoroutine") = false := by kernel_rfl
theorem fits108 : fits prog0 globs0 raws0 f108 x108 := ⟨by kernel_rfl, by kernel_rfl⟩
theorem name108 : (f108.name == "runtime.NumGoroutine") = false := by kernel_rfl
theorem fits52 : fits prog0 globs0 raws0 f52 x52 := ⟨by kernel_rfl, by kernel_rfl⟩
theorem name52 : (f52.name == "runtime.NumGoroutine") = false := by kernel_rfl
theorem fits213 : fits prog0 globs0 raws0 f213 x213 := ⟨by kernel_rfl, by kernel_rfl⟩
theorem name213 : (f213.name == "runtime.NumGoroutine") = false := by kernel_rfl
theorem fits102 : fits prog0 globs0 raws0 f102 x102 := ⟨by kernel_rfl, by kernel_rfl⟩
theorem name102 : (f102.name == "runtime.NumGoroutine") = false := by kernel_rfl
theorem fits175 : fits prog0 globs0 raws0 f175 x175 := ⟨by kernel_rfl, by kernel_rfl⟩
theorem name175 : (f175.name == "runtime.NumGoroutine") = false := by kernel_rfl
theorem fits149 : fits prog0 globs0 raws0 f149 x149 := ⟨by kernel_rfl, by kernel_rfl⟩
theorem name149 : (f149.name == "runtime.NumGoroutine") = false := by kernel_rfl
theorem fits141 : fits prog0 globs0 raws0 f141 x141 := ⟨by kernel_rfl, by kernel_rfl⟩
theorem name141 : (f141.name == "runtime.NumGoroutine") = false := by kernel_rfl
end Go.Ab
