/- The code is the program's. Printed by mkco.py. -/
import Derived.Test.YtdppgkglljpdaaaGreatDoorAbG
import Derived.KernelRfl
import Derived.Test.YtdppgkglljpdaaaGreatDoorAbC0
import Derived.Test.YtdppgkglljpdaaaGreatDoorAbC1
import Derived.Test.YtdppgkglljpdaaaGreatDoorAbC2
import Derived.Test.YtdppgkglljpdaaaGreatDoorAbC3
set_option linter.all false
namespace Go.Ab
open Go.Proofs.Tryz
set_option maxRecDepth 100000
theorem fits270 : Ft f270 x270 := ⟨by kernel_rfl, by kernel_rfl⟩
theorem fits146 : Ft f146 x146 := ⟨by kernel_rfl, by kernel_rfl⟩
theorem fits203 : Ft f203 x203 := ⟨by kernel_rfl, by kernel_rfl⟩
theorem fits138 : Ft f138 x138 := ⟨by kernel_rfl, by kernel_rfl⟩
theorem fits64 : Ft f64 x64 := ⟨by kernel_rfl, by kernel_rfl⟩
theorem fits99 : Ft f99 x99 := ⟨by kernel_rfl, by kernel_rfl⟩
theorem fits110 : Ft f110 x110 := ⟨by kernel_rfl, by kernel_rfl⟩
theorem fits79 : Ft f79 x79 := ⟨by kernel_rfl, by kernel_rfl⟩
theorem fits81 : Ft f81 x81 := ⟨by kernel_rfl, by kernel_rfl⟩
theorem fits35 : Ft f35 x35 := ⟨by kernel_rfl, by kernel_rfl⟩
theorem fits179 : Ft f179 x179 := ⟨by kernel_rfl, by kernel_rfl⟩
theorem fits121 : Ft f121 x121 := ⟨by kernel_rfl, by kernel_rfl⟩
theorem fits247 : Ft f247 x247 := ⟨by kernel_rfl, by kernel_rfl⟩
theorem fits80 : Ft f80 x80 := ⟨by kernel_rfl, by kernel_rfl⟩
theorem fits135 : Ft f135 x135 := ⟨by kernel_rfl, by kernel_rfl⟩
theorem fits157 : Ft f157 x157 := ⟨by kernel_rfl, by kernel_rfl⟩
theorem fits248 : Ft f248 x248 := ⟨by kernel_rfl, by kernel_rfl⟩
theorem fits113 : Ft f113 x113 := ⟨by kernel_rfl, by kernel_rfl⟩
theorem fits144 : Ft f144 x144 := ⟨by kernel_rfl, by kernel_rfl⟩
theorem fits201 : Ft f201 x201 := ⟨by kernel_rfl, by kernel_rfl⟩
theorem fits16 : Ft f16 x16 := ⟨by kernel_rfl, by kernel_rfl⟩
theorem fits251 : Ft f251 x251 := ⟨by kernel_rfl, by kernel_rfl⟩
theorem fits115 : Ft f115 x115 := ⟨by kernel_rfl, by kernel_rfl⟩
theorem fits264 : Ft f264 x264 := ⟨by kernel_rfl, by kernel_rfl⟩
theorem fits148 : Ft f148 x148 := ⟨by kernel_rfl, by kernel_rfl⟩
theorem fits258 : Ft f258 x258 := ⟨by kernel_rfl, by kernel_rfl⟩
theorem fits254 : Ft f254 x254 := ⟨by kernel_rfl, by kernel_rfl⟩
theorem fits143 : Ft f143 x143 := ⟨by kernel_rfl, by kernel_rfl⟩
theorem fits137 : Ft f137 x137 := ⟨by kernel_rfl, by kernel_rfl⟩
theorem fits170 : Ft f170 x170 := ⟨by kernel_rfl, by kernel_rfl⟩
theorem fits245 : Ft f245 x245 := ⟨by kernel_rfl, by kernel_rfl⟩
theorem fits267 : Ft f267 x267 := ⟨by kernel_rfl, by kernel_rfl⟩
theorem fits83 : Ft f83 x83 := ⟨by kernel_rfl, by kernel_rfl⟩
theorem fits232 : Ft f232 x232 := ⟨by kernel_rfl, by kernel_rfl⟩
theorem fits43 : Ft f43 x43 := ⟨by kernel_rfl, by kernel_rfl⟩
theorem fits159 : Ft f159 x159 := ⟨by kernel_rfl, by kernel_rfl⟩
theorem fits218 : Ft f218 x218 := ⟨by kernel_rfl, by kernel_rfl⟩
theorem fits210 : Ft f210 x210 := ⟨by kernel_rfl, by kernel_rfl⟩
theorem fits37 : Ft f37 x37 := ⟨by kernel_rfl, by kernel_rfl⟩
theorem fits169 : Ft f169 x169 := ⟨by kernel_rfl, by kernel_rfl⟩
theorem fits227 : Ft f227 x227 := ⟨by kernel_rfl, by kernel_rfl⟩
theorem fits125 : Ft f125 x125 := ⟨by kernel_rfl, by kernel_rfl⟩
theorem fits174 : Ft f174 x174 := ⟨by kernel_rfl, by kernel_rfl⟩
theorem fits231 : Ft f231 x231 := ⟨by kernel_rfl, by kernel_rfl⟩
theorem fits118 : Ft f118 x118 := ⟨by kernel_rfl, by kernel_rfl⟩
theorem fits51 : Ft f51 x51 := ⟨by kernel_rfl, by kernel_rfl⟩
theorem fits72 : Ft f72 x72 := ⟨by kernel_rfl, by kernel_rfl⟩
theorem fits199 : Ft f199 x199 := ⟨by kernel_rfl, by kernel_rfl⟩
theorem fits233 : Ft f233 x233 := ⟨by kernel_rfl, by kernel_rfl⟩
theorem fits265 : Ft f265 x265 := ⟨by kernel_rfl, by kernel_rfl⟩
theorem fits14 : Ft f14 x14 := ⟨by kernel_rfl, by kernel_rfl⟩
theorem fits127 : Ft f127 x127 := ⟨by kernel_rfl, by kernel_rfl⟩
theorem fits38 : Ft f38 x38 := ⟨by kernel_rfl, by kernel_rfl⟩
theorem fits182 : Ft f182 x182 := ⟨by kernel_rfl, by kernel_rfl⟩
theorem fits111 : Ft f111 x111 := ⟨by kernel_rfl, by kernel_rfl⟩
theorem fits239 : Ft f239 x239 := ⟨by kernel_rfl, by kernel_rfl⟩
theorem fits116 : Ft f116 x116 := ⟨by kernel_rfl, by kernel_rfl⟩
theorem fits209 : Ft f209 x209 := ⟨by kernel_rfl, by kernel_rfl⟩
end Go.Ab
