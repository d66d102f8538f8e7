/- The code is the program's. Printed by mkco.py. -/
import Derived.Test.YtdppgkglljpdaaaGreatDoorAbG
import Derived.KernelRfl
import Derived.Test.YtdppgkglljpdaaaGreatDoorAbC0
import Derived.Test.YtdppgkglljpdaaaGreatDoorAbC1
import Derived.Test.YtdppgkglljpdaaaGreatDoorAbC2
import Derived.Test.YtdppgkglljpdaaaGreatDoorAbC3
set_option linter.all false
namespace Go.Ab
open Go.Proofs.Tryz
set_option maxRecDepth 100000
theorem fits107 : Ft f107 x107 := ⟨by kernel_rfl, by kernel_rfl⟩
theorem fits59 : Ft f59 x59 := ⟨by kernel_rfl, by kernel_rfl⟩
theorem fits202 : Ft f202 x202 := ⟨by kernel_rfl, by kernel_rfl⟩
theorem fits176 : Ft f176 x176 := ⟨by kernel_rfl, by kernel_rfl⟩
theorem fits10 : Ft f10 x10 := ⟨by kernel_rfl, by kernel_rfl⟩
theorem fits12 : Ft f12 x12 := ⟨by kernel_rfl, by kernel_rfl⟩
theorem fits60 : Ft f60 x60 := ⟨by kernel_rfl, by kernel_rfl⟩
theorem fits8 : Ft f8 x8 := ⟨by kernel_rfl, by kernel_rfl⟩
theorem fits171 : Ft f171 x171 := ⟨by kernel_rfl, by kernel_rfl⟩
theorem fits173 : Ft f173 x173 := ⟨by kernel_rfl, by kernel_rfl⟩
theorem fits246 : Ft f246 x246 := ⟨by kernel_rfl, by kernel_rfl⟩
theorem fits145 : Ft f145 x145 := ⟨by kernel_rfl, by kernel_rfl⟩
theorem fits139 : Ft f139 x139 := ⟨by kernel_rfl, by kernel_rfl⟩
theorem fits241 : Ft f241 x241 := ⟨by kernel_rfl, by kernel_rfl⟩
theorem fits198 : Ft f198 x198 := ⟨by kernel_rfl, by kernel_rfl⟩
theorem fits196 : Ft f196 x196 := ⟨by kernel_rfl, by kernel_rfl⟩
theorem fits100 : Ft f100 x100 := ⟨by kernel_rfl, by kernel_rfl⟩
theorem fits87 : Ft f87 x87 := ⟨by kernel_rfl, by kernel_rfl⟩
theorem fits161 : Ft f161 x161 := ⟨by kernel_rfl, by kernel_rfl⟩
theorem fits56 : Ft f56 x56 := ⟨by kernel_rfl, by kernel_rfl⟩
theorem fits41 : Ft f41 x41 := ⟨by kernel_rfl, by kernel_rfl⟩
theorem fits36 : Ft f36 x36 := ⟨by kernel_rfl, by kernel_rfl⟩
theorem fits206 : Ft f206 x206 := ⟨by kernel_rfl, by kernel_rfl⟩
theorem fits166 : Ft f166 x166 := ⟨by kernel_rfl, by kernel_rfl⟩
theorem fits158 : Ft f158 x158 := ⟨by kernel_rfl, by kernel_rfl⟩
theorem fits45 : Ft f45 x45 := ⟨by kernel_rfl, by kernel_rfl⟩
theorem fits109 : Ft f109 x109 := ⟨by kernel_rfl, by kernel_rfl⟩
theorem fits262 : Ft f262 x262 := ⟨by kernel_rfl, by kernel_rfl⟩
theorem fits62 : Ft f62 x62 := ⟨by kernel_rfl, by kernel_rfl⟩
theorem fits39 : Ft f39 x39 := ⟨by kernel_rfl, by kernel_rfl⟩
theorem fits13 : Ft f13 x13 := ⟨by kernel_rfl, by kernel_rfl⟩
theorem fits268 : Ft f268 x268 := ⟨by kernel_rfl, by kernel_rfl⟩
theorem fits103 : Ft f103 x103 := ⟨by kernel_rfl, by kernel_rfl⟩
theorem fits190 : Ft f190 x190 := ⟨by kernel_rfl, by kernel_rfl⟩
theorem fits67 : Ft f67 x67 := ⟨by kernel_rfl, by kernel_rfl⟩
theorem fits76 : Ft f76 x76 := ⟨by kernel_rfl, by kernel_rfl⟩
theorem fits42 : Ft f42 x42 := ⟨by kernel_rfl, by kernel_rfl⟩
theorem fits230 : Ft f230 x230 := ⟨by kernel_rfl, by kernel_rfl⟩
theorem fits88 : Ft f88 x88 := ⟨by kernel_rfl, by kernel_rfl⟩
theorem fits183 : Ft f183 x183 := ⟨by kernel_rfl, by kernel_rfl⟩
theorem fits261 : Ft f261 x261 := ⟨by kernel_rfl, by kernel_rfl⟩
theorem fits71 : Ft f71 x71 := ⟨by kernel_rfl, by kernel_rfl⟩
theorem fits48 : Ft f48 x48 := ⟨by kernel_rfl, by kernel_rfl⟩
theorem fits46 : Ft f46 x46 := ⟨by kernel_rfl, by kernel_rfl⟩
theorem fits74 : Ft f74 x74 := ⟨by kernel_rfl, by kernel_rfl⟩
theorem fits117 : Ft f117 x117 := ⟨by kernel_rfl, by kernel_rfl⟩
theorem fits222 : Ft f222 x222 := ⟨by kernel_rfl, by kernel_rfl⟩
theorem fits220 : Ft f220 x220 := ⟨by kernel_rfl, by kernel_rfl⟩
theorem fits73 : Ft f73 x73 := ⟨by kernel_rfl, by kernel_rfl⟩
theorem fits86 : Ft f86 x86 := ⟨by kernel_rfl, by kernel_rfl⟩
theorem fits91 : Ft f91 x91 := ⟨by kernel_rfl, by kernel_rfl⟩
theorem fits129 : Ft f129 x129 := ⟨by kernel_rfl, by kernel_rfl⟩
theorem fits89 : Ft f89 x89 := ⟨by kernel_rfl, by kernel_rfl⟩
theorem fits244 : Ft f244 x244 := ⟨by kernel_rfl, by kernel_rfl⟩
theorem fits128 : Ft f128 x128 := ⟨by kernel_rfl, by kernel_rfl⟩
theorem fits164 : Ft f164 x164 := ⟨by kernel_rfl, by kernel_rfl⟩
theorem fits58 : Ft f58 x58 := ⟨by kernel_rfl, by kernel_rfl⟩
theorem fits236 : Ft f236 x236 := ⟨by kernel_rfl, by kernel_rfl⟩
theorem fits93 : Ft f93 x93 := ⟨by kernel_rfl, by kernel_rfl⟩
end Go.Ab
