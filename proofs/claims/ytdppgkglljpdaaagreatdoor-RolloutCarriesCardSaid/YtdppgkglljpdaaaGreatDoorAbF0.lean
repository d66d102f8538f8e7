/- The code is the program's. Printed by mkco.py. -/
import Derived.Test.YtdppgkglljpdaaaGreatDoorAbG
import Derived.KernelRfl
import Derived.Test.YtdppgkglljpdaaaGreatDoorAbC0
import Derived.Test.YtdppgkglljpdaaaGreatDoorAbC1
import Derived.Test.YtdppgkglljpdaaaGreatDoorAbC2
import Derived.Test.YtdppgkglljpdaaaGreatDoorAbC3
set_option linter.all false
namespace Go.Ab
open Go.Proofs.Tryz
set_option maxRecDepth 100000
theorem fits189 : Ft f189 x189 := ⟨by kernel_rfl, by kernel_rfl⟩
theorem fits211 : Ft f211 x211 := ⟨by kernel_rfl, by kernel_rfl⟩
theorem fits104 : Ft f104 x104 := ⟨by kernel_rfl, by kernel_rfl⟩
theorem fits68 : Ft f68 x68 := ⟨by kernel_rfl, by kernel_rfl⟩
theorem fits124 : Ft f124 x124 := ⟨by kernel_rfl, by kernel_rfl⟩
theorem fits11 : Ft f11 x11 := ⟨by kernel_rfl, by kernel_rfl⟩
theorem fits50 : Ft f50 x50 := ⟨by kernel_rfl, by kernel_rfl⟩
theorem fits253 : Ft f253 x253 := ⟨by kernel_rfl, by kernel_rfl⟩
theorem fits208 : Ft f208 x208 := ⟨by kernel_rfl, by kernel_rfl⟩
theorem fits130 : Ft f130 x130 := ⟨by kernel_rfl, by kernel_rfl⟩
theorem fits63 : Ft f63 x63 := ⟨by kernel_rfl, by kernel_rfl⟩
theorem fits193 : Ft f193 x193 := ⟨by kernel_rfl, by kernel_rfl⟩
theorem fits32 : Ft f32 x32 := ⟨by kernel_rfl, by kernel_rfl⟩
theorem fits192 : Ft f192 x192 := ⟨by kernel_rfl, by kernel_rfl⟩
theorem fits53 : Ft f53 x53 := ⟨by kernel_rfl, by kernel_rfl⟩
theorem fits15 : Ft f15 x15 := ⟨by kernel_rfl, by kernel_rfl⟩
theorem fits263 : Ft f263 x263 := ⟨by kernel_rfl, by kernel_rfl⟩
theorem fits266 : Ft f266 x266 := ⟨by kernel_rfl, by kernel_rfl⟩
theorem fits188 : Ft f188 x188 := ⟨by kernel_rfl, by kernel_rfl⟩
theorem fits252 : Ft f252 x252 := ⟨by kernel_rfl, by kernel_rfl⟩
theorem fits17 : Ft f17 x17 := ⟨by kernel_rfl, by kernel_rfl⟩
theorem fits168 : Ft f168 x168 := ⟨by kernel_rfl, by kernel_rfl⟩
theorem fits219 : Ft f219 x219 := ⟨by kernel_rfl, by kernel_rfl⟩
theorem fits19 : Ft f19 x19 := ⟨by kernel_rfl, by kernel_rfl⟩
theorem fits102 : Ft f102 x102 := ⟨by kernel_rfl, by kernel_rfl⟩
theorem fits34 : Ft f34 x34 := ⟨by kernel_rfl, by kernel_rfl⟩
theorem fits85 : Ft f85 x85 := ⟨by kernel_rfl, by kernel_rfl⟩
theorem fits194 : Ft f194 x194 := ⟨by kernel_rfl, by kernel_rfl⟩
theorem fits82 : Ft f82 x82 := ⟨by kernel_rfl, by kernel_rfl⟩
theorem fits243 : Ft f243 x243 := ⟨by kernel_rfl, by kernel_rfl⟩
theorem fits25 : Ft f25 x25 := ⟨by kernel_rfl, by kernel_rfl⟩
theorem fits95 : Ft f95 x95 := ⟨by kernel_rfl, by kernel_rfl⟩
theorem fits69 : Ft f69 x69 := ⟨by kernel_rfl, by kernel_rfl⟩
theorem fits54 : Ft f54 x54 := ⟨by kernel_rfl, by kernel_rfl⟩
theorem fits257 : Ft f257 x257 := ⟨by kernel_rfl, by kernel_rfl⟩
theorem fits123 : Ft f123 x123 := ⟨by kernel_rfl, by kernel_rfl⟩
theorem fits133 : Ft f133 x133 := ⟨by kernel_rfl, by kernel_rfl⟩
theorem fits163 : Ft f163 x163 := ⟨by kernel_rfl, by kernel_rfl⟩
theorem fits259 : Ft f259 x259 := ⟨by kernel_rfl, by kernel_rfl⟩
theorem fits147 : Ft f147 x147 := ⟨by kernel_rfl, by kernel_rfl⟩
theorem fits224 : Ft f224 x224 := ⟨by kernel_rfl, by kernel_rfl⟩
theorem fits150 : Ft f150 x150 := ⟨by kernel_rfl, by kernel_rfl⟩
theorem fits197 : Ft f197 x197 := ⟨by kernel_rfl, by kernel_rfl⟩
theorem fits249 : Ft f249 x249 := ⟨by kernel_rfl, by kernel_rfl⟩
theorem fits61 : Ft f61 x61 := ⟨by kernel_rfl, by kernel_rfl⟩
theorem fits98 : Ft f98 x98 := ⟨by kernel_rfl, by kernel_rfl⟩
theorem fits180 : Ft f180 x180 := ⟨by kernel_rfl, by kernel_rfl⟩
theorem fits237 : Ft f237 x237 := ⟨by kernel_rfl, by kernel_rfl⟩
theorem fits221 : Ft f221 x221 := ⟨by kernel_rfl, by kernel_rfl⟩
theorem fits75 : Ft f75 x75 := ⟨by kernel_rfl, by kernel_rfl⟩
theorem fits134 : Ft f134 x134 := ⟨by kernel_rfl, by kernel_rfl⟩
theorem fits94 : Ft f94 x94 := ⟨by kernel_rfl, by kernel_rfl⟩
theorem fits131 : Ft f131 x131 := ⟨by kernel_rfl, by kernel_rfl⟩
theorem fits152 : Ft f152 x152 := ⟨by kernel_rfl, by kernel_rfl⟩
theorem fits132 : Ft f132 x132 := ⟨by kernel_rfl, by kernel_rfl⟩
theorem fits149 : Ft f149 x149 := ⟨by kernel_rfl, by kernel_rfl⟩
theorem fits120 : Ft f120 x120 := ⟨by kernel_rfl, by kernel_rfl⟩
theorem fits108 : Ft f108 x108 := ⟨by kernel_rfl, by kernel_rfl⟩
theorem fits235 : Ft f235 x235 := ⟨by kernel_rfl, by kernel_rfl⟩
theorem fits142 : Ft f142 x142 := ⟨by kernel_rfl, by kernel_rfl⟩
end Go.Ab
