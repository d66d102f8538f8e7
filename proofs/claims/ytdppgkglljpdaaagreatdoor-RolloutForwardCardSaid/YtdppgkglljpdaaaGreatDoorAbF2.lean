/- The code is the program's. Printed by mkco.py. -/
import Derived.Test.YtdppgkglljpdaaaGreatDoorAbG
import Derived.KernelRfl
import Derived.Test.YtdppgkglljpdaaaGreatDoorAbC0
import Derived.Test.YtdppgkglljpdaaaGreatDoorAbC1
import Derived.Test.YtdppgkglljpdaaaGreatDoorAbC2
import Derived.Test.YtdppgkglljpdaaaGreatDoorAbC3
set_option linter.all false
namespace Go.Ab
open Go.Proofs.Tryz
set_option maxRecDepth 100000
theorem fits211 : fits prog0 globs0 raws0 f211 x211 := ⟨by kernel_rfl, by kernel_rfl⟩
theorem name211 : (f211.name == "runtime.NumGoroutine") = false := by kernel_rfl
theorem fits203 : fits prog0 globs0 raws0 f203 x203 := ⟨by kernel_rfl, by kernel_rfl⟩
theorem name203 : (f203.name == "runtime.NumGoroutine") = false := by kernel_rfl
theorem fits176 : fits prog0 globs0 raws0 f176 x176 := ⟨by kernel_rfl, by kernel_rfl⟩
theorem name176 : (f176.name == "runtime.NumGoroutine") = false := by kernel_rfl
theorem fits204 : fits prog0 globs0 raws0 f204 x204 := ⟨by kernel_rfl, by kernel_rfl⟩
theorem name204 : (f204.name == "runtime.NumGoroutine") = false := by kernel_rfl
theorem fits8 : fits prog0 globs0 raws0 f8 x8 := ⟨by kernel_rfl, by kernel_rfl⟩
theorem name8 : (f8.name == "runtime.NumGoroutine") = false := by kernel_rfl
theorem fits130 : fits prog0 globs0 raws0 f130 x130 := ⟨by kernel_rfl, by kernel_rfl⟩
theorem name130 : (f130.name == "runtime.NumGoroutine") = false := by kernel_rfl
theorem fits179 : fits prog0 globs0 raws0 f179 x179 := ⟨by kernel_rfl, by kernel_rfl⟩
theorem name179 : (f179.name == "runtime.NumGoroutine") = false := by kernel_rfl
theorem fits145 : fits prog0 globs0 raws0 f145 x145 := ⟨by kernel_rfl, by kernel_rfl⟩
theorem name145 : (f145.name == "runtime.NumGoroutine") = false := by kernel_rfl
theorem fits139 : fits prog0 globs0 raws0 f139 x139 := ⟨by kernel_rfl, by kernel_rfl⟩
theorem name139 : (f139.name == "runtime.NumGoroutine") = false := by kernel_rfl
theorem fits241 : fits prog0 globs0 raws0 f241 x241 := ⟨by kernel_rfl, by kernel_rfl⟩
theorem name241 : (f241.name == "runtime.NumGoroutine") = false := by kernel_rfl
theorem fits198 : fits prog0 globs0 raws0 f198 x198 := ⟨by kernel_rfl, by kernel_rfl⟩
theorem name198 : (f198.name == "runtime.NumGoroutine") = false := by kernel_rfl
theorem fits205 : fits prog0 globs0 raws0 f205 x205 := ⟨by kernel_rfl, by kernel_rfl⟩
theorem name205 : (f205.name == "runtime.NumGoroutine") = false := by kernel_rfl
theorem fits113 : fits prog0 globs0 raws0 f113 x113 := ⟨by kernel_rfl, by kernel_rfl⟩
theorem name113 : (f113.name == "runtime.NumGoroutine") = false := by kernel_rfl
theorem fits252 : fits prog0 globs0 raws0 f252 x252 := ⟨by kernel_rfl, by kernel_rfl⟩
theorem name252 : (f252.name == "runtime.NumGoroutine") = false := by kernel_rfl
theorem fits17 : fits prog0 globs0 raws0 f17 x17 := ⟨by kernel_rfl, by kernel_rfl⟩
theorem name17 : (f17.name == "runtime.NumGoroutine") = false := by kernel_rfl
theorem fits251 : fits prog0 globs0 raws0 f251 x251 := ⟨by kernel_rfl, by kernel_rfl⟩
theorem name251 : (f251.name == "runtime.NumGoroutine") = false := by kernel_rfl
theorem fits27 : fits prog0 globs0 raws0 f27 x27 := ⟨by kernel_rfl, by kernel_rfl⟩
theorem name27 : (f27.name == "runtime.NumGoroutine") = false := by kernel_rfl
theorem fits19 : fits prog0 globs0 raws0 f19 x19 := ⟨by kernel_rfl, by kernel_rfl⟩
theorem name19 : (f19.name == "runtime.NumGoroutine") = false := by kernel_rfl
theorem fits148 : fits prog0 globs0 raws0 f148 x148 := ⟨by kernel_rfl, by kernel_rfl⟩
theorem name148 : (f148.name == "runtime.NumGoroutine") = false := by kernel_rfl
theorem fits254 : fits prog0 globs0 raws0 f254 x254 := ⟨by kernel_rfl, by kernel_rfl⟩
theorem name254 : (f254.name == "runtime.NumGoroutine") = false := by kernel_rfl
theorem fits143 : fits prog0 globs0 raws0 f143 x143 := ⟨by kernel_rfl, by kernel_rfl⟩
theorem name143 : (f143.name == "runtime.NumGoroutine") = false := by kernel_rfl
theorem fits22 : fits prog0 globs0 raws0 f22 x22 := ⟨by kernel_rfl, by kernel_rfl⟩
theorem name22 : (f22.name == "runtime.NumGoroutine") = false := by kernel_rfl
theorem fits33 : fits prog0 globs0 raws0 f33 x33 := ⟨by kernel_rfl, by kernel_rfl⟩
theorem name33 : (f33.name == "runtime.NumGoroutine") = false := by kernel_rfl
theorem fits245 : fits prog0 globs0 raws0 f245 x245 := ⟨by kernel_rfl, by kernel_rfl⟩
theorem name245 : (f245.name == "runtime.NumGoroutine") = false := by kernel_rfl
theorem fits268 : fits prog0 globs0 raws0 f268 x268 := ⟨by kernel_rfl, by kernel_rfl⟩
theorem name268 : (f268.name == "runtime.NumGoroutine") = false := by kernel_rfl
theorem fits141 : fits prog0 globs0 raws0 f141 x141 := ⟨by kernel_rfl, by kernel_rfl⟩
theorem name141 : (f141.name == "runtime.NumGoroutine") = false := by kernel_rfl
theorem fits133 : fits prog0 globs0 raws0 f133 x133 := ⟨by kernel_rfl, by kernel_rfl⟩
theorem name133 : (f133.name == "runtime.NumGoroutine") = false := by kernel_rfl
theorem fits106 : fits prog0 globs0 raws0 f106 x106 := ⟨by kernel_rfl, by kernel_rfl⟩
theorem name106 : (f106.name == "runtime.NumGoroutine") = false := by kernel_rfl
theorem fits212 : fits prog0 globs0 raws0 f212 x212 := ⟨by kernel_rfl, by kernel_rfl⟩
theorem name212 : (f212.name == "runtime.NumGoroutine") = false := by kernel_rfl
theorem fits151 : fits prog0 globs0 raws0 f151 x151 := ⟨by kernel_rfl, by kernel_rfl⟩
theorem name151 : (f151.name == "runtime.NumGoroutine") = false := by kernel_rfl
theorem fits261 : fits prog0 globs0 raws0 f261 x261 := ⟨by kernel_rfl, by kernel_rfl⟩
theorem name261 : (f261.name == "runtime.NumGoroutine") = false := by kernel_rfl
theorem fits197 : fits prog0 globs0 raws0 f197 x197 := ⟨by kernel_rfl, by kernel_rfl⟩
theorem name197 : (f197.name == "runtime.NumGoroutine") = false := by kernel_rfl
theorem fits55 : fits prog0 globs0 raws0 f55 x55 := ⟨by kernel_rfl, by kernel_rfl⟩
theorem name55 : (f55.name == "runtime.NumGoroutine") = false := by kernel_rfl
theorem fits118 : fits prog0 globs0 raws0 f118 x118 := ⟨by kernel_rfl, by kernel_rfl⟩
theorem name118 : (f118.name == "runtime.NumGoroutine") = false := by kernel_rfl
theorem fits51 : fits prog0 globs0 raws0 f51 x51 := ⟨by kernel_rfl, by kernel_rfl⟩
theorem name51 : (f51.name == "runtime.NumGoroutine") = false := by kernel_rfl
theorem fits240 : fits prog0 globs0 raws0 f240 x240 := ⟨by kernel_rfl, by kernel_rfl⟩
theorem name240 : (f240.name == "runtime.NumGoroutine") = false := by kernel_rfl
theorem fits199 : fits prog0 globs0 raws0 f199 x199 := ⟨by kernel_rfl, by kernel_rfl⟩
theorem name199 : (f199.name == "runtime.NumGoroutine") = false := by kernel_rfl
theorem fits75 : fits prog0 globs0 raws0 f75 x75 := ⟨by kernel_rfl, by kernel_rfl⟩
theorem name75 : (f75.name == "runtime.NumGoroutine") = false := by kernel_rfl
theorem fits86 : fits prog0 globs0 raws0 f86 x86 := ⟨by kernel_rfl, by kernel_rfl⟩
theorem name86 : (f86.name == "runtime.NumGoroutine") = false := by kernel_rfl
theorem fits91 : fits prog0 globs0 raws0 f91 x91 := ⟨by kernel_rfl, by kernel_rfl⟩
theorem name91 : (f91.name == "runtime.NumGoroutine") = false := by kernel_rfl
theorem fits129 : fits prog0 globs0 raws0 f129 x129 := ⟨by kernel_rfl, by kernel_rfl⟩
theorem name129 : (f129.name == "runtime.NumGoroutine") = false := by kernel_rfl
theorem fits89 : fits prog0 globs0 raws0 f89 x89 := ⟨by kernel_rfl, by kernel_rfl⟩
theorem name89 : (f89.name == "runtime.NumGoroutine") = false := by kernel_rfl
theorem fits244 : fits prog0 globs0 raws0 f244 x244 := ⟨by kernel_rfl, by kernel_rfl⟩
theorem name244 : (f244.name == "runtime.NumGoroutine") = false := by kernel_rfl
theorem fits111 : fits prog0 globs0 raws0 f111 x111 := ⟨by kernel_rfl, by kernel_rfl⟩
theorem name111 : (f111.name == "runtime.NumGoroutine") = false := by kernel_rfl
theorem fits239 : fits prog0 globs0 raws0 f239 x239 := ⟨by kernel_rfl, by kernel_rfl⟩
theorem name239 : (f239.name == "runtime.NumGoroutine") = false := by kernel_rfl
theorem fits116 : fits prog0 globs0 raws0 f116 x116 := ⟨by kernel_rfl, by kernel_rfl⟩
theorem name116 : (f116.name == "runtime.NumGoroutine") = false := by kernel_rfl
theorem fits209 : fits prog0 globs0 raws0 f209 x209 := ⟨by kernel_rfl, by kernel_rfl⟩
theorem name209 : (f209.name == "runtime.NumGoroutine") = false := by kernel_rfl
theorem fits92 : fits prog0 globs0 raws0 f92 x92 := ⟨by kernel_rfl, by kernel_rfl⟩
theorem name92 : (f92.name == "runtime.NumGoroutine") = false := by kernel_rfl
end Go.Ab
