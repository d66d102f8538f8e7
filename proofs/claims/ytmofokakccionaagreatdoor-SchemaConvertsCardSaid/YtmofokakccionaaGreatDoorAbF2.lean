/- The code is the program's. Printed by mkco.py. -/
import Derived.Test.YtmofokakccionaaGreatDoorAbG
import Derived.KernelRfl
import Derived.Test.YtmofokakccionaaGreatDoorAbC0
import Derived.Test.YtmofokakccionaaGreatDoorAbC1
import Derived.Test.YtmofokakccionaaGreatDoorAbC2
import Derived.Test.YtmofokakccionaaGreatDoorAbC3
set_option linter.all false
namespace Go.Ab
open Go.Proofs.Tryz
set_option maxRecDepth 100000
theorem fits170 : fits prog0 globs0 raws0 f170 x170 := ⟨by kernel_rfl, by kernel_rfl⟩
theorem name170 : (f170.name == "runtime.NumGoroutine") = false := by kernel_rfl
theorem fits25 : fits prog0 globs0 raws0 f25 x25 := ⟨by kernel_rfl, by kernel_rfl⟩
theorem name25 : (f25.name == "runtime.NumGoroutine") = false := by kernel_rfl
theorem fits26 : fits prog0 globs0 raws0 f26 x26 := ⟨by kernel_rfl, by kernel_rfl⟩
theorem name26 : (f26.name == "runtime.NumGoroutine") = false := by kernel_rfl
theorem fits30 : fits prog0 globs0 raws0 f30 x30 := ⟨by kernel_rfl, by kernel_rfl⟩
theorem name30 : (f30.name == "runtime.NumGoroutine") = false := by kernel_rfl
theorem fits179 : fits prog0 globs0 raws0 f179 x179 := ⟨by kernel_rfl, by kernel_rfl⟩
theorem name179 : (f179.name == "runtime.NumGoroutine") = false := by kernel_rfl
theorem fits183 : fits prog0 globs0 raws0 f183 x183 := ⟨by kernel_rfl, by kernel_rfl⟩
theorem name183 : (f183.name == "runtime.NumGoroutine") = false := by kernel_rfl
theorem fits35 : fits prog0 globs0 raws0 f35 x35 := ⟨by kernel_rfl, by kernel_rfl⟩
theorem name35 : (f35.name == "runtime.NumGoroutine") = false := by kernel_rfl
theorem fits221 : fits prog0 globs0 raws0 f221 x221 := ⟨by kernel_rfl, by kernel_rfl⟩
theorem name221 : (f221.name == "runtime.NumGoroutine") = false := by kernel_rfl
theorem fits11 : fits prog0 globs0 raws0 f11 x11 := ⟨by kernel_rfl, by kernel_rfl⟩
theorem name11 : (f11.name == "runtime.NumGoroutine") = false := by kernel_rfl
theorem fits79 : fits prog0 globs0 raws0 f79 x79 := ⟨by kernel_rfl, by kernel_rfl⟩
theorem name79 : (f79.name == "runtime.NumGoroutine") = false := by kernel_rfl
theorem fits173 : fits prog0 globs0 raws0 f173 x173 := ⟨by kernel_rfl, by kernel_rfl⟩
theorem name173 : (f173.name == "runtime.NumGoroutine") = false := by kernel_rfl
theorem fits180 : fits prog0 globs0 raws0 f180 x180 := ⟨by kernel_rfl, by kernel_rfl⟩
theorem name180 : (f180.name == "runtime.NumGoroutine") = false := by kernel_rfl
theorem fits7 : fits prog0 globs0 raws0 f7 x7 := ⟨by kernel_rfl, by kernel_rfl⟩
theorem name7 : (f7.name == "runtime.NumGoroutine") = false := by kernel_rfl
theorem fits151 : fits prog0 globs0 raws0 f151 x151 := ⟨by kernel_rfl, by kernel_rfl⟩
theorem name151 : (f151.name == "runtime.NumGoroutine") = false := by kernel_rfl
theorem fits68 : fits prog0 globs0 raws0 f68 x68 := ⟨by kernel_rfl, by kernel_rfl⟩
theorem name68 : (f68.name == "runtime.NumGoroutine") = false := by kernel_rfl
theorem fits37 : fits prog0 globs0 raws0 f37 x37 := ⟨by kernel_rfl, by kernel_rfl⟩
theorem name37 : (f37.name == "runtime.NumGoroutine") = false := by kernel_rfl
theorem fits143 : fits prog0 globs0 raws0 f143 x143 := ⟨by kernel_rfl, by kernel_rfl⟩
theorem name143 : (f143.name == "runtime.NumGoroutine") = false := by kernel_rfl
theorem fits63 : fits prog0 globs0 raws0 f63 x63 := ⟨by kernel_rfl, by kernel_rfl⟩
theorem name63 : (f63.name == "runtime.NumGoroutine") = false := by kernel_rfl
theorem fits71 : fits prog0 globs0 raws0 f71 x71 := ⟨by kernel_rfl, by kernel_rfl⟩
theorem name71 : (f71.name == "runtime.NumGoroutine") = false := by kernel_rfl
theorem fits117 : fits prog0 globs0 raws0 f117 x117 := ⟨by kernel_rfl, by kernel_rfl⟩
theorem name117 : (f117.name == "runtime.NumGoroutine") = false := by kernel_rfl
theorem fits16 : fits prog0 globs0 raws0 f16 x16 := ⟨by kernel_rfl, by kernel_rfl⟩
theorem name16 : (f16.name == "runtime.NumGoroutine") = false := by kernel_rfl
theorem fits62 : fits prog0 globs0 raws0 f62 x62 := ⟨by kernel_rfl, by kernel_rfl⟩
theorem name62 : (f62.name == "runtime.NumGoroutine") = false := by kernel_rfl
theorem fits237 : fits prog0 globs0 raws0 f237 x237 := ⟨by kernel_rfl, by kernel_rfl⟩
theorem name237 : (f237.name == "runtime.NumGoroutine") = false := by kernel_rfl
theorem fits70 : fits prog0 globs0 raws0 f70 x70 := ⟨by kernel_rfl, by kernel_rfl⟩
theorem name70 : (f70.name == "runtime.NumGoroutine") = false := by kernel_rfl
theorem fits107 : fits prog0 globs0 raws0 f107 x107 := ⟨by kernel_rfl, by kernel_rfl⟩
theorem name107 : (f107.name == "runtime.NumGoroutine") = false := by kernel_rfl
theorem fits205 : fits prog0 globs0 raws0 f205 x205 := ⟨by kernel_rfl, by kernel_rfl⟩
theorem name205 : (f205.name == "runtime.NumGoroutine") = false := by kernel_rfl
theorem fits82 : fits prog0 globs0 raws0 f82 x82 := ⟨by kernel_rfl, by kernel_rfl⟩
theorem name82 : (f82.name == "runtime.NumGoroutine") = false := by kernel_rfl
theorem fits202 : fits prog0 globs0 raws0 f202 x202 := ⟨by kernel_rfl, by kernel_rfl⟩
theorem name202 : (f202.name == "runtime.NumGoroutine") = false := by kernel_rfl
theorem fits80 : fits prog0 globs0 raws0 f80 x80 := ⟨by kernel_rfl, by kernel_rfl⟩
theorem name80 : (f80.name == "runtime.NumGoroutine") = false := by kernel_rfl
theorem fits42 : fits prog0 globs0 raws0 f42 x42 := ⟨by kernel_rfl, by kernel_rfl⟩
theorem name42 : (f42.name == "runtime.NumGoroutine") = false := by kernel_rfl
theorem fits47 : fits prog0 globs0 raws0 f47 x47 := ⟨by kernel_rfl, by kernel_rfl⟩
theorem name47 : (f47.name == "runtime.NumGoroutine") = false := by kernel_rfl
theorem fits48 : fits prog0 globs0 raws0 f48 x48 := ⟨by kernel_rfl, by kernel_rfl⟩
theorem name48 : (f48.name == "runtime.NumGoroutine") = false := by kernel_rfl
theorem fits76 : fits prog0 globs0 raws0 f76 x76 := ⟨by kernel_rfl, by kernel_rfl⟩
theorem name76 : (f76.name == "runtime.NumGoroutine") = false := by kernel_rfl
theorem fits208 : fits prog0 globs0 raws0 f208 x208 := ⟨by kernel_rfl, by kernel_rfl⟩
theorem name208 : (f208.name == "runtime.NumGoroutine") = false := by kernel_rfl
theorem fits72 : fits prog0 globs0 raws0 f72 x72 := ⟨by kernel_rfl, by kernel_rfl⟩
theorem name72 : (f72.name == "runtime.NumGoroutine") = false := by kernel_rfl
theorem fits58 : fits prog0 globs0 raws0 f58 x58 := ⟨by kernel_rfl, by kernel_rfl⟩
theorem name58 : (f58.name == "runtime.NumGoroutine") = false := by kernel_rfl
theorem fits124 : fits prog0 globs0 raws0 f124 x124 := ⟨by kernel_rfl, by kernel_rfl⟩
theorem name124 : (f124.name == "runtime.NumGoroutine") = false := by kernel_rfl
theorem fits100 : fits prog0 globs0 raws0 f100 x100 := ⟨by kernel_rfl, by kernel_rfl⟩
theorem name100 : (f100.name == "runtime.NumGoroutine") = false := by kernel_rfl
theorem fits123 : fits prog0 globs0 raws0 f123 x123 := ⟨by kernel_rfl, by kernel_rfl⟩
theorem name123 : (f123.name == "runtime.NumGoroutine") = false := by kernel_rfl
theorem fits148 : fits prog0 globs0 raws0 f148 x148 := ⟨by kernel_rfl, by kernel_rfl⟩
theorem name148 : (f148.name == "runtime.NumGoroutine") = false := by kernel_rfl
theorem fits69 : fits prog0 globs0 raws0 f69 x69 := ⟨by kernel_rfl, by kernel_rfl⟩
theorem name69 : (f69.name == "runtime.NumGoroutine") = false := by kernel_rfl
theorem fits211 : fits prog0 globs0 raws0 f211 x211 := ⟨by kernel_rfl, by kernel_rfl⟩
theorem name211 : (f211.name == "runtime.NumGoroutine") = false := by kernel_rfl
end Go.Ab
