/- The code is the program's. Printed by mkco.py. -/
import Derived.Test.YtdppgkglljpdaaaGreatDoorAbG
import Derived.KernelRfl
import Derived.Test.YtdppgkglljpdaaaGreatDoorAbC0
import Derived.Test.YtdppgkglljpdaaaGreatDoorAbC1
import Derived.Test.YtdppgkglljpdaaaGreatDoorAbC2
import Derived.Test.YtdppgkglljpdaaaGreatDoorAbC3
set_option linter.all false
namespace Go.Ab
open Go.Proofs.Tryz
set_option maxRecDepth 100000
theorem fits211 : fits prog0 globs0 raws0 f211 x211 := ⟨by kernel_rfl, by kernel_rfl⟩
theorem name211 : (f211.name == "runtime.NumGoroutine") = false := by kernel_rfl
theorem fits203 : fits prog0 globs0 raws0 f203 x203 := ⟨by kernel_rfl, by kernel_rfl⟩
theorem name203 : (f203.name == "runtime.NumGoroutine") = false := by kernel_rfl
theorem fits176 : fits prog0 globs0 raws0 f176 x176 := ⟨by kernel_rfl, by kernel_rfl⟩
theorem name176 : (f176.name == "runtime.NumGoroutine") = false := by kernel_rfl
theorem fits204 : fits prog0 globs0 raws0 f204 x204 := ⟨by kernel_rfl, by kernel_rfl⟩
theorem name204 : (f204.name == "runtime.NumGoroutine") = false := by kernel_rfl
theorem fits8 : fits prog0 globs0 raws0 f8 x8 := ⟨by kernel_rfl, by kernel_rfl⟩
theorem name8 : (f8.name == "runtime.NumGoroutine") = false := by kernel_rfl
theorem fits171 : fits prog0 globs0 raws0 f171 x171 := ⟨by kernel_rfl, by kernel_rfl⟩
theorem name171 : (f171.name == "runtime.NumGoroutine") = false := by kernel_rfl
theorem fits126 : fits prog0 globs0 raws0 f126 x126 := ⟨by kernel_rfl, by kernel_rfl⟩
theorem name126 : (f126.name == "runtime.NumGoroutine") = false := by kernel_rfl
theorem fits145 : fits prog0 globs0 raws0 f145 x145 := ⟨by kernel_rfl, by kernel_rfl⟩
theorem name145 : (f145.name == "runtime.NumGoroutine") = false := by kernel_rfl
theorem fits139 : fits prog0 globs0 raws0 f139 x139 := ⟨by kernel_rfl, by kernel_rfl⟩
theorem name139 : (f139.name == "runtime.NumGoroutine") = false := by kernel_rfl
theorem fits53 : fits prog0 globs0 raws0 f53 x53 := ⟨by kernel_rfl, by kernel_rfl⟩
theorem name53 : (f53.name == "runtime.NumGoroutine") = false := by kernel_rfl
theorem fits207 : fits prog0 globs0 raws0 f207 x207 := ⟨by kernel_rfl, by kernel_rfl⟩
theorem name207 : (f207.name == "runtime.NumGoroutine") = false := by kernel_rfl
theorem fits266 : fits prog0 globs0 raws0 f266 x266 := ⟨by kernel_rfl, by kernel_rfl⟩
theorem name266 : (f266.name == "runtime.NumGoroutine") = false := by kernel_rfl
theorem fits167 : fits prog0 globs0 raws0 f167 x167 := ⟨by kernel_rfl, by kernel_rfl⟩
theorem name167 : (f167.name == "runtime.NumGoroutine") = false := by kernel_rfl
theorem fits56 : fits prog0 globs0 raws0 f56 x56 := ⟨by kernel_rfl, by kernel_rfl⟩
theorem name56 : (f56.name == "runtime.NumGoroutine") = false := by kernel_rfl
theorem fits168 : fits prog0 globs0 raws0 f168 x168 := ⟨by kernel_rfl, by kernel_rfl⟩
theorem name168 : (f168.name == "runtime.NumGoroutine") = false := by kernel_rfl
theorem fits27 : fits prog0 globs0 raws0 f27 x27 := ⟨by kernel_rfl, by kernel_rfl⟩
theorem name27 : (f27.name == "runtime.NumGoroutine") = false := by kernel_rfl
theorem fits177 : fits prog0 globs0 raws0 f177 x177 := ⟨by kernel_rfl, by kernel_rfl⟩
theorem name177 : (f177.name == "runtime.NumGoroutine") = false := by kernel_rfl
theorem fits34 : fits prog0 globs0 raws0 f34 x34 := ⟨by kernel_rfl, by kernel_rfl⟩
theorem name34 : (f34.name == "runtime.NumGoroutine") = false := by kernel_rfl
theorem fits156 : fits prog0 globs0 raws0 f156 x156 := ⟨by kernel_rfl, by kernel_rfl⟩
theorem name156 : (f156.name == "runtime.NumGoroutine") = false := by kernel_rfl
theorem fits262 : fits prog0 globs0 raws0 f262 x262 := ⟨by kernel_rfl, by kernel_rfl⟩
theorem name262 : (f262.name == "runtime.NumGoroutine") = false := by kernel_rfl
theorem fits243 : fits prog0 globs0 raws0 f243 x243 := ⟨by kernel_rfl, by kernel_rfl⟩
theorem name243 : (f243.name == "runtime.NumGoroutine") = false := by kernel_rfl
theorem fits178 : fits prog0 globs0 raws0 f178 x178 := ⟨by kernel_rfl, by kernel_rfl⟩
theorem name178 : (f178.name == "runtime.NumGoroutine") = false := by kernel_rfl
theorem fits114 : fits prog0 globs0 raws0 f114 x114 := ⟨by kernel_rfl, by kernel_rfl⟩
theorem name114 : (f114.name == "runtime.NumGoroutine") = false := by kernel_rfl
theorem fits70 : fits prog0 globs0 raws0 f70 x70 := ⟨by kernel_rfl, by kernel_rfl⟩
theorem name70 : (f70.name == "runtime.NumGoroutine") = false := by kernel_rfl
theorem fits232 : fits prog0 globs0 raws0 f232 x232 := ⟨by kernel_rfl, by kernel_rfl⟩
theorem name232 : (f232.name == "runtime.NumGoroutine") = false := by kernel_rfl
theorem fits163 : fits prog0 globs0 raws0 f163 x163 := ⟨by kernel_rfl, by kernel_rfl⟩
theorem name163 : (f163.name == "runtime.NumGoroutine") = false := by kernel_rfl
theorem fits212 : fits prog0 globs0 raws0 f212 x212 := ⟨by kernel_rfl, by kernel_rfl⟩
theorem name212 : (f212.name == "runtime.NumGoroutine") = false := by kernel_rfl
theorem fits151 : fits prog0 globs0 raws0 f151 x151 := ⟨by kernel_rfl, by kernel_rfl⟩
theorem name151 : (f151.name == "runtime.NumGoroutine") = false := by kernel_rfl
theorem fits261 : fits prog0 globs0 raws0 f261 x261 := ⟨by kernel_rfl, by kernel_rfl⟩
theorem name261 : (f261.name == "runtime.NumGoroutine") = false := by kernel_rfl
theorem fits197 : fits prog0 globs0 raws0 f197 x197 := ⟨by kernel_rfl, by kernel_rfl⟩
theorem name197 : (f197.name == "runtime.NumGoroutine") = false := by kernel_rfl
theorem fits55 : fits prog0 globs0 raws0 f55 x55 := ⟨by kernel_rfl, by kernel_rfl⟩
theorem name55 : (f55.name == "runtime.NumGoroutine") = false := by kernel_rfl
theorem fits74 : fits prog0 globs0 raws0 f74 x74 := ⟨by kernel_rfl, by kernel_rfl⟩
theorem name74 : (f74.name == "runtime.NumGoroutine") = false := by kernel_rfl
theorem fits180 : fits prog0 globs0 raws0 f180 x180 := ⟨by kernel_rfl, by kernel_rfl⟩
theorem name180 : (f180.name == "runtime.NumGoroutine") = false := by kernel_rfl
theorem fits136 : fits prog0 globs0 raws0 f136 x136 := ⟨by kernel_rfl, by kernel_rfl⟩
theorem name136 : (f136.name == "runtime.NumGoroutine") = false := by kernel_rfl
theorem fits75 : fits prog0 globs0 raws0 f75 x75 := ⟨by kernel_rfl, by kernel_rfl⟩
theorem name75 : (f75.name == "runtime.NumGoroutine") = false := by kernel_rfl
theorem fits134 : fits prog0 globs0 raws0 f134 x134 := ⟨by kernel_rfl, by kernel_rfl⟩
theorem name134 : (f134.name == "runtime.NumGoroutine") = false := by kernel_rfl
theorem fits94 : fits prog0 globs0 raws0 f94 x94 := ⟨by kernel_rfl, by kernel_rfl⟩
theorem name94 : (f94.name == "runtime.NumGoroutine") = false := by kernel_rfl
theorem fits131 : fits prog0 globs0 raws0 f131 x131 := ⟨by kernel_rfl, by kernel_rfl⟩
theorem name131 : (f131.name == "runtime.NumGoroutine") = false := by kernel_rfl
theorem fits152 : fits prog0 globs0 raws0 f152 x152 := ⟨by kernel_rfl, by kernel_rfl⟩
theorem name152 : (f152.name == "runtime.NumGoroutine") = false := by kernel_rfl
theorem fits132 : fits prog0 globs0 raws0 f132 x132 := ⟨by kernel_rfl, by kernel_rfl⟩
theorem name132 : (f132.name == "runtime.NumGoroutine") = false := by kernel_rfl
theorem fits149 : fits prog0 globs0 raws0 f149 x149 := ⟨by kernel_rfl, by kernel_rfl⟩
theorem name149 : (f149.name == "runtime.NumGoroutine") = false := by kernel_rfl
theorem fits120 : fits prog0 globs0 raws0 f120 x120 := ⟨by kernel_rfl, by kernel_rfl⟩
theorem name120 : (f120.name == "runtime.NumGoroutine") = false := by kernel_rfl
theorem fits108 : fits prog0 globs0 raws0 f108 x108 := ⟨by kernel_rfl, by kernel_rfl⟩
theorem name108 : (f108.name == "runtime.NumGoroutine") = false := by kernel_rfl
theorem fits92 : fits prog0 globs0 raws0 f92 x92 := ⟨by kernel_rfl, by kernel_rfl⟩
theorem name92 : (f92.name == "runtime.NumGoroutine") = false := by kernel_rfl
end Go.Ab
