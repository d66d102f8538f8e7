/- The code is the program's. Printed by mkco.py. -/
import Derived.Test.YtdppgkglljpdaaaGreatDoorAbG
import Derived.KernelRfl
import Derived.Test.YtdppgkglljpdaaaGreatDoorAbC0
import Derived.Test.YtdppgkglljpdaaaGreatDoorAbC1
import Derived.Test.YtdppgkglljpdaaaGreatDoorAbC2
import Derived.Test.YtdppgkglljpdaaaGreatDoorAbC3
set_option linter.all false
namespace Go.Ab
open Go.Proofs.Tryz
set_option maxRecDepth 100000
theorem fits146 : fits prog0 globs0 raws0 f146 x146 := ⟨by kernel_rfl, by kernel_rfl⟩
theorem name146 : (f146.name == "runtime.NumGoroutine") = false := by kernel_rfl
theorem fits202 : fits prog0 globs0 raws0 f202 x202 := ⟨by kernel_rfl, by kernel_rfl⟩
theorem name202 : (f202.name == "runtime.NumGoroutine") = false := by kernel_rfl
theorem fits6 : fits prog0 globs0 raws0 f6 x6 := ⟨by kernel_rfl, by kernel_rfl⟩
theorem name6 : (f6.name == "runtime.NumGoroutine") = false := by kernel_rfl
theorem fits110 : fits prog0 globs0 raws0 f110 x110 := ⟨by kernel_rfl, by kernel_rfl⟩
theorem name110 : (f110.name == "runtime.NumGoroutine") = false := by kernel_rfl
theorem fits208 : fits prog0 globs0 raws0 f208 x208 := ⟨by kernel_rfl, by kernel_rfl⟩
theorem name208 : (f208.name == "runtime.NumGoroutine") = false := by kernel_rfl
theorem fits35 : fits prog0 globs0 raws0 f35 x35 := ⟨by kernel_rfl, by kernel_rfl⟩
theorem name35 : (f35.name == "runtime.NumGoroutine") = false := by kernel_rfl
theorem fits246 : fits prog0 globs0 raws0 f246 x246 := ⟨by kernel_rfl, by kernel_rfl⟩
theorem name246 : (f246.name == "runtime.NumGoroutine") = false := by kernel_rfl
theorem fits32 : fits prog0 globs0 raws0 f32 x32 := ⟨by kernel_rfl, by kernel_rfl⟩
theorem name32 : (f32.name == "runtime.NumGoroutine") = false := by kernel_rfl
theorem fits31 : fits prog0 globs0 raws0 f31 x31 := ⟨by kernel_rfl, by kernel_rfl⟩
theorem name31 : (f31.name == "runtime.NumGoroutine") = false := by kernel_rfl
theorem fits53 : fits prog0 globs0 raws0 f53 x53 := ⟨by kernel_rfl, by kernel_rfl⟩
theorem name53 : (f53.name == "runtime.NumGoroutine") = false := by kernel_rfl
theorem fits15 : fits prog0 globs0 raws0 f15 x15 := ⟨by kernel_rfl, by kernel_rfl⟩
theorem name15 : (f15.name == "runtime.NumGoroutine") = false := by kernel_rfl
theorem fits248 : fits prog0 globs0 raws0 f248 x248 := ⟨by kernel_rfl, by kernel_rfl⟩
theorem name248 : (f248.name == "runtime.NumGoroutine") = false := by kernel_rfl
theorem fits87 : fits prog0 globs0 raws0 f87 x87 := ⟨by kernel_rfl, by kernel_rfl⟩
theorem name87 : (f87.name == "runtime.NumGoroutine") = false := by kernel_rfl
theorem fits18 : fits prog0 globs0 raws0 f18 x18 := ⟨by kernel_rfl, by kernel_rfl⟩
theorem name18 : (f18.name == "runtime.NumGoroutine") = false := by kernel_rfl
theorem fits84 : fits prog0 globs0 raws0 f84 x84 := ⟨by kernel_rfl, by kernel_rfl⟩
theorem name84 : (f84.name == "runtime.NumGoroutine") = false := by kernel_rfl
theorem fits20 : fits prog0 globs0 raws0 f20 x20 := ⟨by kernel_rfl, by kernel_rfl⟩
theorem name20 : (f20.name == "runtime.NumGoroutine") = false := by kernel_rfl
theorem fits28 : fits prog0 globs0 raws0 f28 x28 := ⟨by kernel_rfl, by kernel_rfl⟩
theorem name28 : (f28.name == "runtime.NumGoroutine") = false := by kernel_rfl
theorem fits177 : fits prog0 globs0 raws0 f177 x177 := ⟨by kernel_rfl, by kernel_rfl⟩
theorem name177 : (f177.name == "runtime.NumGoroutine") = false := by kernel_rfl
theorem fits258 : fits prog0 globs0 raws0 f258 x258 := ⟨by kernel_rfl, by kernel_rfl⟩
theorem name258 : (f258.name == "runtime.NumGoroutine") = false := by kernel_rfl
theorem fits109 : fits prog0 globs0 raws0 f109 x109 := ⟨by kernel_rfl, by kernel_rfl⟩
theorem name109 : (f109.name == "runtime.NumGoroutine") = false := by kernel_rfl
theorem fits262 : fits prog0 globs0 raws0 f262 x262 := ⟨by kernel_rfl, by kernel_rfl⟩
theorem name262 : (f262.name == "runtime.NumGoroutine") = false := by kernel_rfl
theorem fits24 : fits prog0 globs0 raws0 f24 x24 := ⟨by kernel_rfl, by kernel_rfl⟩
theorem name24 : (f24.name == "runtime.NumGoroutine") = false := by kernel_rfl
theorem fits170 : fits prog0 globs0 raws0 f170 x170 := ⟨by kernel_rfl, by kernel_rfl⟩
theorem name170 : (f170.name == "runtime.NumGoroutine") = false := by kernel_rfl
theorem fits95 : fits prog0 globs0 raws0 f95 x95 := ⟨by kernel_rfl, by kernel_rfl⟩
theorem name95 : (f95.name == "runtime.NumGoroutine") = false := by kernel_rfl
theorem fits26 : fits prog0 globs0 raws0 f26 x26 := ⟨by kernel_rfl, by kernel_rfl⟩
theorem name26 : (f26.name == "runtime.NumGoroutine") = false := by kernel_rfl
theorem fits232 : fits prog0 globs0 raws0 f232 x232 := ⟨by kernel_rfl, by kernel_rfl⟩
theorem name232 : (f232.name == "runtime.NumGoroutine") = false := by kernel_rfl
theorem fits226 : fits prog0 globs0 raws0 f226 x226 := ⟨by kernel_rfl, by kernel_rfl⟩
theorem name226 : (f226.name == "runtime.NumGoroutine") = false := by kernel_rfl
theorem fits210 : fits prog0 globs0 raws0 f210 x210 := ⟨by kernel_rfl, by kernel_rfl⟩
theorem name210 : (f210.name == "runtime.NumGoroutine") = false := by kernel_rfl
theorem fits37 : fits prog0 globs0 raws0 f37 x37 := ⟨by kernel_rfl, by kernel_rfl⟩
theorem name37 : (f37.name == "runtime.NumGoroutine") = false := by kernel_rfl
theorem fits169 : fits prog0 globs0 raws0 f169 x169 := ⟨by kernel_rfl, by kernel_rfl⟩
theorem name169 : (f169.name == "runtime.NumGoroutine") = false := by kernel_rfl
theorem fits150 : fits prog0 globs0 raws0 f150 x150 := ⟨by kernel_rfl, by kernel_rfl⟩
theorem name150 : (f150.name == "runtime.NumGoroutine") = false := by kernel_rfl
theorem fits174 : fits prog0 globs0 raws0 f174 x174 := ⟨by kernel_rfl, by kernel_rfl⟩
theorem name174 : (f174.name == "runtime.NumGoroutine") = false := by kernel_rfl
theorem fits231 : fits prog0 globs0 raws0 f231 x231 := ⟨by kernel_rfl, by kernel_rfl⟩
theorem name231 : (f231.name == "runtime.NumGoroutine") = false := by kernel_rfl
theorem fits9 : fits prog0 globs0 raws0 f9 x9 := ⟨by kernel_rfl, by kernel_rfl⟩
theorem name9 : (f9.name == "runtime.NumGoroutine") = false := by kernel_rfl
theorem fits52 : fits prog0 globs0 raws0 f52 x52 := ⟨by kernel_rfl, by kernel_rfl⟩
theorem name52 : (f52.name == "runtime.NumGoroutine") = false := by kernel_rfl
theorem fits72 : fits prog0 globs0 raws0 f72 x72 := ⟨by kernel_rfl, by kernel_rfl⟩
theorem name72 : (f72.name == "runtime.NumGoroutine") = false := by kernel_rfl
theorem fits229 : fits prog0 globs0 raws0 f229 x229 := ⟨by kernel_rfl, by kernel_rfl⟩
theorem name229 : (f229.name == "runtime.NumGoroutine") = false := by kernel_rfl
theorem fits77 : fits prog0 globs0 raws0 f77 x77 := ⟨by kernel_rfl, by kernel_rfl⟩
theorem name77 : (f77.name == "runtime.NumGoroutine") = false := by kernel_rfl
theorem fits134 : fits prog0 globs0 raws0 f134 x134 := ⟨by kernel_rfl, by kernel_rfl⟩
theorem name134 : (f134.name == "runtime.NumGoroutine") = false := by kernel_rfl
theorem fits94 : fits prog0 globs0 raws0 f94 x94 := ⟨by kernel_rfl, by kernel_rfl⟩
theorem name94 : (f94.name == "runtime.NumGoroutine") = false := by kernel_rfl
theorem fits131 : fits prog0 globs0 raws0 f131 x131 := ⟨by kernel_rfl, by kernel_rfl⟩
theorem name131 : (f131.name == "runtime.NumGoroutine") = false := by kernel_rfl
theorem fits152 : fits prog0 globs0 raws0 f152 x152 := ⟨by kernel_rfl, by kernel_rfl⟩
theorem name152 : (f152.name == "runtime.NumGoroutine") = false := by kernel_rfl
theorem fits132 : fits prog0 globs0 raws0 f132 x132 := ⟨by kernel_rfl, by kernel_rfl⟩
theorem name132 : (f132.name == "runtime.NumGoroutine") = false := by kernel_rfl
theorem fits128 : fits prog0 globs0 raws0 f128 x128 := ⟨by kernel_rfl, by kernel_rfl⟩
theorem name128 : (f128.name == "runtime.NumGoroutine") = false := by kernel_rfl
theorem fits164 : fits prog0 globs0 raws0 f164 x164 := ⟨by kernel_rfl, by kernel_rfl⟩
theorem name164 : (f164.name == "runtime.NumGoroutine") = false := by kernel_rfl
theorem fits58 : fits prog0 globs0 raws0 f58 x58 := ⟨by kernel_rfl, by kernel_rfl⟩
theorem name58 : (f58.name == "runtime.NumGoroutine") = false := by kernel_rfl
theorem fits236 : fits prog0 globs0 raws0 f236 x236 := ⟨by kernel_rfl, by kernel_rfl⟩
theorem name236 : (f236.name == "runtime.NumGoroutine") = false := by kernel_rfl
theorem fits93 : fits prog0 globs0 raws0 f93 x93 := ⟨by kernel_rfl, by kernel_rfl⟩
theorem name93 : (f93.name == "runtime.NumGoroutine") = false := by kernel_rfl
end Go.Ab
