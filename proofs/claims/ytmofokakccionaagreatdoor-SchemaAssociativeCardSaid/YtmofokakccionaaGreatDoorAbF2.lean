/- The code is the program's. Printed by mkco.py. -/
import Derived.Test.YtmofokakccionaaGreatDoorAbG
import Derived.KernelRfl
import Derived.Test.YtmofokakccionaaGreatDoorAbC0
import Derived.Test.YtmofokakccionaaGreatDoorAbC1
import Derived.Test.YtmofokakccionaaGreatDoorAbC2
import Derived.Test.YtmofokakccionaaGreatDoorAbC3
set_option linter.all false
namespace Go.Ab
open Go.Proofs.Tryz
set_option maxRecDepth 100000
theorem fits170 : fits prog0 globs0 raws0 f170 x170 := ⟨by kernel_rfl, by kernel_rfl⟩
theorem name170 : (f170.name == "runtime.NumGoroutine") = false := by kernel_rfl
theorem fits97 : fits prog0 globs0 raws0 f97 x97 := ⟨by kernel_rfl, by kernel_rfl⟩
theorem name97 : (f97.name == "runtime.NumGoroutine") = false := by kernel_rfl
theorem fits112 : fits prog0 globs0 raws0 f112 x112 := ⟨by kernel_rfl, by kernel_rfl⟩
theorem name112 : (f112.name == "runtime.NumGoroutine") = false := by kernel_rfl
theorem fits32 : fits prog0 globs0 raws0 f32 x32 := ⟨by kernel_rfl, by kernel_rfl⟩
theorem name32 : (f32.name == "runtime.NumGoroutine") = false := by kernel_rfl
theorem fits199 : fits prog0 globs0 raws0 f199 x199 := ⟨by kernel_rfl, by kernel_rfl⟩
theorem name199 : (f199.name == "runtime.NumGoroutine") = false := by kernel_rfl
theorem fits154 : fits prog0 globs0 raws0 f154 x154 := ⟨by kernel_rfl, by kernel_rfl⟩
theorem name154 : (f154.name == "runtime.NumGoroutine") = false := by kernel_rfl
theorem fits12 : fits prog0 globs0 raws0 f12 x12 := ⟨by kernel_rfl, by kernel_rfl⟩
theorem name12 : (f12.name == "runtime.NumGoroutine") = false := by kernel_rfl
theorem fits8 : fits prog0 globs0 raws0 f8 x8 := ⟨by kernel_rfl, by kernel_rfl⟩
theorem name8 : (f8.name == "runtime.NumGoroutine") = false := by kernel_rfl
theorem fits11 : fits prog0 globs0 raws0 f11 x11 := ⟨by kernel_rfl, by kernel_rfl⟩
theorem name11 : (f11.name == "runtime.NumGoroutine") = false := by kernel_rfl
theorem fits79 : fits prog0 globs0 raws0 f79 x79 := ⟨by kernel_rfl, by kernel_rfl⟩
theorem name79 : (f79.name == "runtime.NumGoroutine") = false := by kernel_rfl
theorem fits173 : fits prog0 globs0 raws0 f173 x173 := ⟨by kernel_rfl, by kernel_rfl⟩
theorem name173 : (f173.name == "runtime.NumGoroutine") = false := by kernel_rfl
theorem fits180 : fits prog0 globs0 raws0 f180 x180 := ⟨by kernel_rfl, by kernel_rfl⟩
theorem name180 : (f180.name == "runtime.NumGoroutine") = false := by kernel_rfl
theorem fits53 : fits prog0 globs0 raws0 f53 x53 := ⟨by kernel_rfl, by kernel_rfl⟩
theorem name53 : (f53.name == "runtime.NumGoroutine") = false := by kernel_rfl
theorem fits198 : fits prog0 globs0 raws0 f198 x198 := ⟨by kernel_rfl, by kernel_rfl⟩
theorem name198 : (f198.name == "runtime.NumGoroutine") = false := by kernel_rfl
theorem fits14 : fits prog0 globs0 raws0 f14 x14 := ⟨by kernel_rfl, by kernel_rfl⟩
theorem name14 : (f14.name == "runtime.NumGoroutine") = false := by kernel_rfl
theorem fits186 : fits prog0 globs0 raws0 f186 x186 := ⟨by kernel_rfl, by kernel_rfl⟩
theorem name186 : (f186.name == "runtime.NumGoroutine") = false := by kernel_rfl
theorem fits225 : fits prog0 globs0 raws0 f225 x225 := ⟨by kernel_rfl, by kernel_rfl⟩
theorem name225 : (f225.name == "runtime.NumGoroutine") = false := by kernel_rfl
theorem fits3 : fits prog0 globs0 raws0 f3 x3 := ⟨by kernel_rfl, by kernel_rfl⟩
theorem name3 : (f3.name == "runtime.NumGoroutine") = false := by kernel_rfl
theorem fits126 : fits prog0 globs0 raws0 f126 x126 := ⟨by kernel_rfl, by kernel_rfl⟩
theorem name126 : (f126.name == "runtime.NumGoroutine") = false := by kernel_rfl
theorem fits111 : fits prog0 globs0 raws0 f111 x111 := ⟨by kernel_rfl, by kernel_rfl⟩
theorem name111 : (f111.name == "runtime.NumGoroutine") = false := by kernel_rfl
theorem fits17 : fits prog0 globs0 raws0 f17 x17 := ⟨by kernel_rfl, by kernel_rfl⟩
theorem name17 : (f17.name == "runtime.NumGoroutine") = false := by kernel_rfl
theorem fits15 : fits prog0 globs0 raws0 f15 x15 := ⟨by kernel_rfl, by kernel_rfl⟩
theorem name15 : (f15.name == "runtime.NumGoroutine") = false := by kernel_rfl
theorem fits237 : fits prog0 globs0 raws0 f237 x237 := ⟨by kernel_rfl, by kernel_rfl⟩
theorem name237 : (f237.name == "runtime.NumGoroutine") = false := by kernel_rfl
theorem fits45 : fits prog0 globs0 raws0 f45 x45 := ⟨by kernel_rfl, by kernel_rfl⟩
theorem name45 : (f45.name == "runtime.NumGoroutine") = false := by kernel_rfl
theorem fits201 : fits prog0 globs0 raws0 f201 x201 := ⟨by kernel_rfl, by kernel_rfl⟩
theorem name201 : (f201.name == "runtime.NumGoroutine") = false := by kernel_rfl
theorem fits229 : fits prog0 globs0 raws0 f229 x229 := ⟨by kernel_rfl, by kernel_rfl⟩
theorem name229 : (f229.name == "runtime.NumGoroutine") = false := by kernel_rfl
theorem fits90 : fits prog0 globs0 raws0 f90 x90 := ⟨by kernel_rfl, by kernel_rfl⟩
theorem name90 : (f90.name == "runtime.NumGoroutine") = false := by kernel_rfl
theorem fits231 : fits prog0 globs0 raws0 f231 x231 := ⟨by kernel_rfl, by kernel_rfl⟩
theorem name231 : (f231.name == "runtime.NumGoroutine") = false := by kernel_rfl
theorem fits172 : fits prog0 globs0 raws0 f172 x172 := ⟨by kernel_rfl, by kernel_rfl⟩
theorem name172 : (f172.name == "runtime.NumGoroutine") = false := by kernel_rfl
theorem fits195 : fits prog0 globs0 raws0 f195 x195 := ⟨by kernel_rfl, by kernel_rfl⟩
theorem name195 : (f195.name == "runtime.NumGoroutine") = false := by kernel_rfl
theorem fits38 : fits prog0 globs0 raws0 f38 x38 := ⟨by kernel_rfl, by kernel_rfl⟩
theorem name38 : (f38.name == "runtime.NumGoroutine") = false := by kernel_rfl
theorem fits146 : fits prog0 globs0 raws0 f146 x146 := ⟨by kernel_rfl, by kernel_rfl⟩
theorem name146 : (f146.name == "runtime.NumGoroutine") = false := by kernel_rfl
theorem fits110 : fits prog0 globs0 raws0 f110 x110 := ⟨by kernel_rfl, by kernel_rfl⟩
theorem name110 : (f110.name == "runtime.NumGoroutine") = false := by kernel_rfl
theorem fits209 : fits prog0 globs0 raws0 f209 x209 := ⟨by kernel_rfl, by kernel_rfl⟩
theorem name209 : (f209.name == "runtime.NumGoroutine") = false := by kernel_rfl
theorem fits203 : fits prog0 globs0 raws0 f203 x203 := ⟨by kernel_rfl, by kernel_rfl⟩
theorem name203 : (f203.name == "runtime.NumGoroutine") = false := by kernel_rfl
theorem fits122 : fits prog0 globs0 raws0 f122 x122 := ⟨by kernel_rfl, by kernel_rfl⟩
theorem name122 : (f122.name == "runtime.NumGoroutine") = false := by kernel_rfl
theorem fits75 : fits prog0 globs0 raws0 f75 x75 := ⟨by kernel_rfl, by kernel_rfl⟩
theorem name75 : (f75.name == "runtime.NumGoroutine") = false := by kernel_rfl
theorem fits219 : fits prog0 globs0 raws0 f219 x219 := ⟨by kernel_rfl, by kernel_rfl⟩
theorem name219 : (f219.name == "runtime.NumGoroutine") = false := by kernel_rfl
theorem fits214 : fits prog0 globs0 raws0 f214 x214 := ⟨by kernel_rfl, by kernel_rfl⟩
theorem name214 : (f214.name == "runtime.NumGoroutine") = false := by kernel_rfl
theorem fits40 : fits prog0 globs0 raws0 f40 x40 := ⟨by kernel_rfl, by kernel_rfl⟩
theorem name40 : (f40.name == "runtime.NumGoroutine") = false := by kernel_rfl
theorem fits184 : fits prog0 globs0 raws0 f184 x184 := ⟨by kernel_rfl, by kernel_rfl⟩
theorem name184 : (f184.name == "runtime.NumGoroutine") = false := by kernel_rfl
end Go.Ab
