/- The code is the program's. Printed by mkco.py. -/
import Derived.Test.YtmofokakccionaaGreatDoorAbG
import Derived.KernelRfl
import Derived.Test.YtmofokakccionaaGreatDoorAbC0
import Derived.Test.YtmofokakccionaaGreatDoorAbC1
import Derived.Test.YtmofokakccionaaGreatDoorAbC2
import Derived.Test.YtmofokakccionaaGreatDoorAbC3
set_option linter.all false
namespace Go.Ab
open Go.Proofs.Tryz
set_option maxRecDepth 100000
theorem fits235 : fits prog0 globs0 raws0 f235 x235 := ⟨by kernel_rfl, by kernel_rfl⟩
theorem name235 : (f235.name == "runtime.NumGoroutine") = false := by kernel_rfl
theorem fits9 : fits prog0 globs0 raws0 f9 x9 := ⟨by kernel_rfl, by kernel_rfl⟩
theorem name9 : (f9.name == "runtime.NumGoroutine") = false := by kernel_rfl
theorem fits177 : fits prog0 globs0 raws0 f177 x177 := ⟨by kernel_rfl, by kernel_rfl⟩
theorem name177 : (f177.name == "runtime.NumGoroutine") = false := by kernel_rfl
theorem fits30 : fits prog0 globs0 raws0 f30 x30 := ⟨by kernel_rfl, by kernel_rfl⟩
theorem name30 : (f30.name == "runtime.NumGoroutine") = false := by kernel_rfl
theorem fits179 : fits prog0 globs0 raws0 f179 x179 := ⟨by kernel_rfl, by kernel_rfl⟩
theorem name179 : (f179.name == "runtime.NumGoroutine") = false := by kernel_rfl
theorem fits183 : fits prog0 globs0 raws0 f183 x183 := ⟨by kernel_rfl, by kernel_rfl⟩
theorem name183 : (f183.name == "runtime.NumGoroutine") = false := by kernel_rfl
theorem fits35 : fits prog0 globs0 raws0 f35 x35 := ⟨by kernel_rfl, by kernel_rfl⟩
theorem name35 : (f35.name == "runtime.NumGoroutine") = false := by kernel_rfl
theorem fits145 : fits prog0 globs0 raws0 f145 x145 := ⟨by kernel_rfl, by kernel_rfl⟩
theorem name145 : (f145.name == "runtime.NumGoroutine") = false := by kernel_rfl
theorem fits18 : fits prog0 globs0 raws0 f18 x18 := ⟨by kernel_rfl, by kernel_rfl⟩
theorem name18 : (f18.name == "runtime.NumGoroutine") = false := by kernel_rfl
theorem fits234 : fits prog0 globs0 raws0 f234 x234 := ⟨by kernel_rfl, by kernel_rfl⟩
theorem name234 : (f234.name == "runtime.NumGoroutine") = false := by kernel_rfl
theorem fits109 : fits prog0 globs0 raws0 f109 x109 := ⟨by kernel_rfl, by kernel_rfl⟩
theorem name109 : (f109.name == "runtime.NumGoroutine") = false := by kernel_rfl
theorem fits233 : fits prog0 globs0 raws0 f233 x233 := ⟨by kernel_rfl, by kernel_rfl⟩
theorem name233 : (f233.name == "runtime.NumGoroutine") = false := by kernel_rfl
theorem fits114 : fits prog0 globs0 raws0 f114 x114 := ⟨by kernel_rfl, by kernel_rfl⟩
theorem name114 : (f114.name == "runtime.NumGoroutine") = false := by kernel_rfl
theorem fits118 : fits prog0 globs0 raws0 f118 x118 := ⟨by kernel_rfl, by kernel_rfl⟩
theorem name118 : (f118.name == "runtime.NumGoroutine") = false := by kernel_rfl
theorem fits13 : fits prog0 globs0 raws0 f13 x13 := ⟨by kernel_rfl, by kernel_rfl⟩
theorem name13 : (f13.name == "runtime.NumGoroutine") = false := by kernel_rfl
theorem fits37 : fits prog0 globs0 raws0 f37 x37 := ⟨by kernel_rfl, by kernel_rfl⟩
theorem name37 : (f37.name == "runtime.NumGoroutine") = false := by kernel_rfl
theorem fits143 : fits prog0 globs0 raws0 f143 x143 := ⟨by kernel_rfl, by kernel_rfl⟩
theorem name143 : (f143.name == "runtime.NumGoroutine") = false := by kernel_rfl
theorem fits83 : fits prog0 globs0 raws0 f83 x83 := ⟨by kernel_rfl, by kernel_rfl⟩
theorem name83 : (f83.name == "runtime.NumGoroutine") = false := by kernel_rfl
theorem fits71 : fits prog0 globs0 raws0 f71 x71 := ⟨by kernel_rfl, by kernel_rfl⟩
theorem name71 : (f71.name == "runtime.NumGoroutine") = false := by kernel_rfl
theorem fits117 : fits prog0 globs0 raws0 f117 x117 := ⟨by kernel_rfl, by kernel_rfl⟩
theorem name117 : (f117.name == "runtime.NumGoroutine") = false := by kernel_rfl
theorem fits16 : fits prog0 globs0 raws0 f16 x16 := ⟨by kernel_rfl, by kernel_rfl⟩
theorem name16 : (f16.name == "runtime.NumGoroutine") = false := by kernel_rfl
theorem fits15 : fits prog0 globs0 raws0 f15 x15 := ⟨by kernel_rfl, by kernel_rfl⟩
theorem name15 : (f15.name == "runtime.NumGoroutine") = false := by kernel_rfl
theorem fits237 : fits prog0 globs0 raws0 f237 x237 := ⟨by kernel_rfl, by kernel_rfl⟩
theorem name237 : (f237.name == "runtime.NumGoroutine") = false := by kernel_rfl
theorem fits45 : fits prog0 globs0 raws0 f45 x45 := ⟨by kernel_rfl, by kernel_rfl⟩
theorem name45 : (f45.name == "runtime.NumGoroutine") = false := by kernel_rfl
theorem fits201 : fits prog0 globs0 raws0 f201 x201 := ⟨by kernel_rfl, by kernel_rfl⟩
theorem name201 : (f201.name == "runtime.NumGoroutine") = false := by kernel_rfl
theorem fits229 : fits prog0 globs0 raws0 f229 x229 := ⟨by kernel_rfl, by kernel_rfl⟩
theorem name229 : (f229.name == "runtime.NumGoroutine") = false := by kernel_rfl
theorem fits90 : fits prog0 globs0 raws0 f90 x90 := ⟨by kernel_rfl, by kernel_rfl⟩
theorem name90 : (f90.name == "runtime.NumGoroutine") = false := by kernel_rfl
theorem fits231 : fits prog0 globs0 raws0 f231 x231 := ⟨by kernel_rfl, by kernel_rfl⟩
theorem name231 : (f231.name == "runtime.NumGoroutine") = false := by kernel_rfl
theorem fits172 : fits prog0 globs0 raws0 f172 x172 := ⟨by kernel_rfl, by kernel_rfl⟩
theorem name172 : (f172.name == "runtime.NumGoroutine") = false := by kernel_rfl
theorem fits195 : fits prog0 globs0 raws0 f195 x195 := ⟨by kernel_rfl, by kernel_rfl⟩
theorem name195 : (f195.name == "runtime.NumGoroutine") = false := by kernel_rfl
theorem fits38 : fits prog0 globs0 raws0 f38 x38 := ⟨by kernel_rfl, by kernel_rfl⟩
theorem name38 : (f38.name == "runtime.NumGoroutine") = false := by kernel_rfl
theorem fits146 : fits prog0 globs0 raws0 f146 x146 := ⟨by kernel_rfl, by kernel_rfl⟩
theorem name146 : (f146.name == "runtime.NumGoroutine") = false := by kernel_rfl
theorem fits110 : fits prog0 globs0 raws0 f110 x110 := ⟨by kernel_rfl, by kernel_rfl⟩
theorem name110 : (f110.name == "runtime.NumGoroutine") = false := by kernel_rfl
theorem fits209 : fits prog0 globs0 raws0 f209 x209 := ⟨by kernel_rfl, by kernel_rfl⟩
theorem name209 : (f209.name == "runtime.NumGoroutine") = false := by kernel_rfl
theorem fits203 : fits prog0 globs0 raws0 f203 x203 := ⟨by kernel_rfl, by kernel_rfl⟩
theorem name203 : (f203.name == "runtime.NumGoroutine") = false := by kernel_rfl
theorem fits122 : fits prog0 globs0 raws0 f122 x122 := ⟨by kernel_rfl, by kernel_rfl⟩
theorem name122 : (f122.name == "runtime.NumGoroutine") = false := by kernel_rfl
theorem fits75 : fits prog0 globs0 raws0 f75 x75 := ⟨by kernel_rfl, by kernel_rfl⟩
theorem name75 : (f75.name == "runtime.NumGoroutine") = false := by kernel_rfl
theorem fits219 : fits prog0 globs0 raws0 f219 x219 := ⟨by kernel_rfl, by kernel_rfl⟩
theorem name219 : (f219.name == "runtime.NumGoroutine") = false := by kernel_rfl
theorem fits214 : fits prog0 globs0 raws0 f214 x214 := ⟨by kernel_rfl, by kernel_rfl⟩
theorem name214 : (f214.name == "runtime.NumGoroutine") = false := by kernel_rfl
theorem fits40 : fits prog0 globs0 raws0 f40 x40 := ⟨by kernel_rfl, by kernel_rfl⟩
theorem name40 : (f40.name == "runtime.NumGoroutine") = false := by kernel_rfl
theorem fits184 : fits prog0 globs0 raws0 f184 x184 := ⟨by kernel_rfl, by kernel_rfl⟩
theorem name184 : (f184.name == "runtime.NumGoroutine") = false := by kernel_rfl
end Go.Ab
