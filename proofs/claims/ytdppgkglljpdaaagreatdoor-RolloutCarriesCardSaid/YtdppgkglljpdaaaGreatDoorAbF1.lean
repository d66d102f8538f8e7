/- The code is the program's. Printed by mkco.py. -/
import Derived.Test.YtdppgkglljpdaaaGreatDoorAbG
import Derived.KernelRfl
import Derived.Test.YtdppgkglljpdaaaGreatDoorAbC0
import Derived.Test.YtdppgkglljpdaaaGreatDoorAbC1
import Derived.Test.YtdppgkglljpdaaaGreatDoorAbC2
import Derived.Test.YtdppgkglljpdaaaGreatDoorAbC3
set_option linter.all false
namespace Go.Ab
open Go.Proofs.Tryz
set_option maxRecDepth 100000
theorem fits162 : Ft f162 x162 := ⟨by kernel_rfl, by kernel_rfl⟩
theorem fits101 : Ft f101 x101 := ⟨by kernel_rfl, by kernel_rfl⟩
theorem fits122 : Ft f122 x122 := ⟨by kernel_rfl, by kernel_rfl⟩
theorem fits90 : Ft f90 x90 := ⟨by kernel_rfl, by kernel_rfl⟩
theorem fits191 : Ft f191 x191 := ⟨by kernel_rfl, by kernel_rfl⟩
theorem fits97 : Ft f97 x97 := ⟨by kernel_rfl, by kernel_rfl⟩
theorem fits204 : Ft f204 x204 := ⟨by kernel_rfl, by kernel_rfl⟩
theorem fits96 : Ft f96 x96 := ⟨by kernel_rfl, by kernel_rfl⟩
theorem fits66 : Ft f66 x66 := ⟨by kernel_rfl, by kernel_rfl⟩
theorem fits44 : Ft f44 x44 := ⟨by kernel_rfl, by kernel_rfl⟩
theorem fits126 : Ft f126 x126 := ⟨by kernel_rfl, by kernel_rfl⟩
theorem fits57 : Ft f57 x57 := ⟨by kernel_rfl, by kernel_rfl⟩
theorem fits49 : Ft f49 x49 := ⟨by kernel_rfl, by kernel_rfl⟩
theorem fits269 : Ft f269 x269 := ⟨by kernel_rfl, by kernel_rfl⟩
theorem fits195 : Ft f195 x195 := ⟨by kernel_rfl, by kernel_rfl⟩
theorem fits207 : Ft f207 x207 := ⟨by kernel_rfl, by kernel_rfl⟩
theorem fits205 : Ft f205 x205 := ⟨by kernel_rfl, by kernel_rfl⟩
theorem fits140 : Ft f140 x140 := ⟨by kernel_rfl, by kernel_rfl⟩
theorem fits167 : Ft f167 x167 := ⟨by kernel_rfl, by kernel_rfl⟩
theorem fits4 : Ft f4 x4 := ⟨by kernel_rfl, by kernel_rfl⟩
theorem fits84 : Ft f84 x84 := ⟨by kernel_rfl, by kernel_rfl⟩
theorem fits223 : Ft f223 x223 := ⟨by kernel_rfl, by kernel_rfl⟩
theorem fits27 : Ft f27 x27 := ⟨by kernel_rfl, by kernel_rfl⟩
theorem fits177 : Ft f177 x177 := ⟨by kernel_rfl, by kernel_rfl⟩
theorem fits40 : Ft f40 x40 := ⟨by kernel_rfl, by kernel_rfl⟩
theorem fits154 : Ft f154 x154 := ⟨by kernel_rfl, by kernel_rfl⟩
theorem fits156 : Ft f156 x156 := ⟨by kernel_rfl, by kernel_rfl⟩
theorem fits21 : Ft f21 x21 := ⟨by kernel_rfl, by kernel_rfl⟩
theorem fits105 : Ft f105 x105 := ⟨by kernel_rfl, by kernel_rfl⟩
theorem fits33 : Ft f33 x33 := ⟨by kernel_rfl, by kernel_rfl⟩
theorem fits178 : Ft f178 x178 := ⟨by kernel_rfl, by kernel_rfl⟩
theorem fits114 : Ft f114 x114 := ⟨by kernel_rfl, by kernel_rfl⟩
theorem fits70 : Ft f70 x70 := ⟨by kernel_rfl, by kernel_rfl⟩
theorem fits141 : Ft f141 x141 := ⟨by kernel_rfl, by kernel_rfl⟩
theorem fits172 : Ft f172 x172 := ⟨by kernel_rfl, by kernel_rfl⟩
theorem fits155 : Ft f155 x155 := ⟨by kernel_rfl, by kernel_rfl⟩
theorem fits226 : Ft f226 x226 := ⟨by kernel_rfl, by kernel_rfl⟩
theorem fits160 : Ft f160 x160 := ⟨by kernel_rfl, by kernel_rfl⟩
theorem fits212 : Ft f212 x212 := ⟨by kernel_rfl, by kernel_rfl⟩
theorem fits151 : Ft f151 x151 := ⟨by kernel_rfl, by kernel_rfl⟩
theorem fits225 : Ft f225 x225 := ⟨by kernel_rfl, by kernel_rfl⟩
theorem fits250 : Ft f250 x250 := ⟨by kernel_rfl, by kernel_rfl⟩
theorem fits65 : Ft f65 x65 := ⟨by kernel_rfl, by kernel_rfl⟩
theorem fits55 : Ft f55 x55 := ⟨by kernel_rfl, by kernel_rfl⟩
theorem fits242 : Ft f242 x242 := ⟨by kernel_rfl, by kernel_rfl⟩
theorem fits47 : Ft f47 x47 := ⟨by kernel_rfl, by kernel_rfl⟩
theorem fits240 : Ft f240 x240 := ⟨by kernel_rfl, by kernel_rfl⟩
theorem fits136 : Ft f136 x136 := ⟨by kernel_rfl, by kernel_rfl⟩
theorem fits229 : Ft f229 x229 := ⟨by kernel_rfl, by kernel_rfl⟩
theorem fits234 : Ft f234 x234 := ⟨by kernel_rfl, by kernel_rfl⟩
theorem fits228 : Ft f228 x228 := ⟨by kernel_rfl, by kernel_rfl⟩
theorem fits112 : Ft f112 x112 := ⟨by kernel_rfl, by kernel_rfl⟩
theorem fits238 : Ft f238 x238 := ⟨by kernel_rfl, by kernel_rfl⟩
theorem fits181 : Ft f181 x181 := ⟨by kernel_rfl, by kernel_rfl⟩
theorem fits29 : Ft f29 x29 := ⟨by kernel_rfl, by kernel_rfl⟩
theorem fits200 : Ft f200 x200 := ⟨by kernel_rfl, by kernel_rfl⟩
theorem fits165 : Ft f165 x165 := ⟨by kernel_rfl, by kernel_rfl⟩
theorem fits175 : Ft f175 x175 := ⟨by kernel_rfl, by kernel_rfl⟩
theorem fits119 : Ft f119 x119 := ⟨by kernel_rfl, by kernel_rfl⟩
end Go.Ab
