/- The code is the program's. Printed by mkco.py. -/
import Derived.Test.YtmofokakccionaaGreatDoorAbG
import Derived.KernelRfl
import Derived.Test.YtmofokakccionaaGreatDoorAbC0
import Derived.Test.YtmofokakccionaaGreatDoorAbC1
import Derived.Test.YtmofokakccionaaGreatDoorAbC2
import Derived.Test.YtmofokakccionaaGreatDoorAbC3
set_option linter.all false
namespace Go.Ab
open Go.Proofs.Tryz
set_option maxRecDepth 100000
theorem fits93 : fits prog0 globs0 raws0 f93 x93 := ⟨by kernel_rfl, by kernel_rfl⟩
theorem name93 : (f93.name == "runtime.NumGoroutine") = false := by kernel_rfl
theorem fits9 : fits prog0 globs0 raws0 f9 x9 := ⟨by kernel_rfl, by kernel_rfl⟩
theorem name9 : (f9.name == "runtime.NumGoroutine") = false := by kernel_rfl
theorem fits177 : fits prog0 globs0 raws0 f177 x177 := ⟨by kernel_rfl, by kernel_rfl⟩
theorem name177 : (f177.name == "runtime.NumGoroutine") = false := by kernel_rfl
theorem fits142 : fits prog0 globs0 raws0 f142 x142 := ⟨by kernel_rfl, by kernel_rfl⟩
theorem name142 : (f142.name == "runtime.NumGoroutine") = false := by kernel_rfl
theorem fits39 : fits prog0 globs0 raws0 f39 x39 := ⟨by kernel_rfl, by kernel_rfl⟩
theorem name39 : (f39.name == "runtime.NumGoroutine") = false := by kernel_rfl
theorem fits78 : fits prog0 globs0 raws0 f78 x78 := ⟨by kernel_rfl, by kernel_rfl⟩
theorem name78 : (f78.name == "runtime.NumGoroutine") = false := by kernel_rfl
theorem fits125 : fits prog0 globs0 raws0 f125 x125 := ⟨by kernel_rfl, by kernel_rfl⟩
theorem name125 : (f125.name == "runtime.NumGoroutine") = false := by kernel_rfl
theorem fits145 : fits prog0 globs0 raws0 f145 x145 := ⟨by kernel_rfl, by kernel_rfl⟩
theorem name145 : (f145.name == "runtime.NumGoroutine") = false := by kernel_rfl
theorem fits18 : fits prog0 globs0 raws0 f18 x18 := ⟨by kernel_rfl, by kernel_rfl⟩
theorem name18 : (f18.name == "runtime.NumGoroutine") = false := by kernel_rfl
theorem fits234 : fits prog0 globs0 raws0 f234 x234 := ⟨by kernel_rfl, by kernel_rfl⟩
theorem name234 : (f234.name == "runtime.NumGoroutine") = false := by kernel_rfl
theorem fits109 : fits prog0 globs0 raws0 f109 x109 := ⟨by kernel_rfl, by kernel_rfl⟩
theorem name109 : (f109.name == "runtime.NumGoroutine") = false := by kernel_rfl
theorem fits233 : fits prog0 globs0 raws0 f233 x233 := ⟨by kernel_rfl, by kernel_rfl⟩
theorem name233 : (f233.name == "runtime.NumGoroutine") = false := by kernel_rfl
theorem fits114 : fits prog0 globs0 raws0 f114 x114 := ⟨by kernel_rfl, by kernel_rfl⟩
theorem name114 : (f114.name == "runtime.NumGoroutine") = false := by kernel_rfl
theorem fits73 : fits prog0 globs0 raws0 f73 x73 := ⟨by kernel_rfl, by kernel_rfl⟩
theorem name73 : (f73.name == "runtime.NumGoroutine") = false := by kernel_rfl
theorem fits176 : fits prog0 globs0 raws0 f176 x176 := ⟨by kernel_rfl, by kernel_rfl⟩
theorem name176 : (f176.name == "runtime.NumGoroutine") = false := by kernel_rfl
theorem fits197 : fits prog0 globs0 raws0 f197 x197 := ⟨by kernel_rfl, by kernel_rfl⟩
theorem name197 : (f197.name == "runtime.NumGoroutine") = false := by kernel_rfl
theorem fits181 : fits prog0 globs0 raws0 f181 x181 := ⟨by kernel_rfl, by kernel_rfl⟩
theorem name181 : (f181.name == "runtime.NumGoroutine") = false := by kernel_rfl
theorem fits92 : fits prog0 globs0 raws0 f92 x92 := ⟨by kernel_rfl, by kernel_rfl⟩
theorem name92 : (f92.name == "runtime.NumGoroutine") = false := by kernel_rfl
theorem fits29 : fits prog0 globs0 raws0 f29 x29 := ⟨by kernel_rfl, by kernel_rfl⟩
theorem name29 : (f29.name == "runtime.NumGoroutine") = false := by kernel_rfl
theorem fits232 : fits prog0 globs0 raws0 f232 x232 := ⟨by kernel_rfl, by kernel_rfl⟩
theorem name232 : (f232.name == "runtime.NumGoroutine") = false := by kernel_rfl
theorem fits153 : fits prog0 globs0 raws0 f153 x153 := ⟨by kernel_rfl, by kernel_rfl⟩
theorem name153 : (f153.name == "runtime.NumGoroutine") = false := by kernel_rfl
theorem fits15 : fits prog0 globs0 raws0 f15 x15 := ⟨by kernel_rfl, by kernel_rfl⟩
theorem name15 : (f15.name == "runtime.NumGoroutine") = false := by kernel_rfl
theorem fits236 : fits prog0 globs0 raws0 f236 x236 := ⟨by kernel_rfl, by kernel_rfl⟩
theorem name236 : (f236.name == "runtime.NumGoroutine") = false := by kernel_rfl
theorem fits64 : fits prog0 globs0 raws0 f64 x64 := ⟨by kernel_rfl, by kernel_rfl⟩
theorem name64 : (f64.name == "runtime.NumGoroutine") = false := by kernel_rfl
theorem fits207 : fits prog0 globs0 raws0 f207 x207 := ⟨by kernel_rfl, by kernel_rfl⟩
theorem name207 : (f207.name == "runtime.NumGoroutine") = false := by kernel_rfl
theorem fits169 : fits prog0 globs0 raws0 f169 x169 := ⟨by kernel_rfl, by kernel_rfl⟩
theorem name169 : (f169.name == "runtime.NumGoroutine") = false := by kernel_rfl
theorem fits74 : fits prog0 globs0 raws0 f74 x74 := ⟨by kernel_rfl, by kernel_rfl⟩
theorem name74 : (f74.name == "runtime.NumGoroutine") = false := by kernel_rfl
theorem fits137 : fits prog0 globs0 raws0 f137 x137 := ⟨by kernel_rfl, by kernel_rfl⟩
theorem name137 : (f137.name == "runtime.NumGoroutine") = false := by kernel_rfl
theorem fits196 : fits prog0 globs0 raws0 f196 x196 := ⟨by kernel_rfl, by kernel_rfl⟩
theorem name196 : (f196.name == "runtime.NumGoroutine") = false := by kernel_rfl
theorem fits140 : fits prog0 globs0 raws0 f140 x140 := ⟨by kernel_rfl, by kernel_rfl⟩
theorem name140 : (f140.name == "runtime.NumGoroutine") = false := by kernel_rfl
theorem fits206 : fits prog0 globs0 raws0 f206 x206 := ⟨by kernel_rfl, by kernel_rfl⟩
theorem name206 : (f206.name == "runtime.NumGoroutine") = false := by kernel_rfl
theorem fits41 : fits prog0 globs0 raws0 f41 x41 := ⟨by kernel_rfl, by kernel_rfl⟩
theorem name41 : (f41.name == "runtime.NumGoroutine") = false := by kernel_rfl
theorem fits215 : fits prog0 globs0 raws0 f215 x215 := ⟨by kernel_rfl, by kernel_rfl⟩
theorem name215 : (f215.name == "runtime.NumGoroutine") = false := by kernel_rfl
theorem fits174 : fits prog0 globs0 raws0 f174 x174 := ⟨by kernel_rfl, by kernel_rfl⟩
theorem name174 : (f174.name == "runtime.NumGoroutine") = false := by kernel_rfl
theorem fits226 : fits prog0 globs0 raws0 f226 x226 := ⟨by kernel_rfl, by kernel_rfl⟩
theorem name226 : (f226.name == "runtime.NumGoroutine") = false := by kernel_rfl
theorem fits36 : fits prog0 globs0 raws0 f36 x36 := ⟨by kernel_rfl, by kernel_rfl⟩
theorem name36 : (f36.name == "runtime.NumGoroutine") = false := by kernel_rfl
theorem fits122 : fits prog0 globs0 raws0 f122 x122 := ⟨by kernel_rfl, by kernel_rfl⟩
theorem name122 : (f122.name == "runtime.NumGoroutine") = false := by kernel_rfl
theorem fits91 : fits prog0 globs0 raws0 f91 x91 := ⟨by kernel_rfl, by kernel_rfl⟩
theorem name91 : (f91.name == "runtime.NumGoroutine") = false := by kernel_rfl
theorem fits104 : fits prog0 globs0 raws0 f104 x104 := ⟨by kernel_rfl, by kernel_rfl⟩
theorem name104 : (f104.name == "runtime.NumGoroutine") = false := by kernel_rfl
theorem fits51 : fits prog0 globs0 raws0 f51 x51 := ⟨by kernel_rfl, by kernel_rfl⟩
theorem name51 : (f51.name == "runtime.NumGoroutine") = false := by kernel_rfl
theorem fits40 : fits prog0 globs0 raws0 f40 x40 := ⟨by kernel_rfl, by kernel_rfl⟩
theorem name40 : (f40.name == "runtime.NumGoroutine") = false := by kernel_rfl
theorem fits184 : fits prog0 globs0 raws0 f184 x184 := ⟨by kernel_rfl, by kernel_rfl⟩
theorem name184 : (f184.name == "runtime.NumGoroutine") = false := by kernel_rfl
theorem fits116 : fits prog0 globs0 raws0 f116 x116 := ⟨by kernel_rfl, by kernel_rfl⟩
theorem name116 : (f116.name == "runtime.NumGoroutine") = false := by kernel_rfl
end Go.Ab
