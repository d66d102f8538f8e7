/- The code as functions, computed. Printed by mkco2.py. -/
import Derived.Test.YtdppgkglljpdaaaGreatDoorAbC0
import Derived.Test.YtdppgkglljpdaaaGreatDoorAbC1
import Derived.Test.YtdppgkglljpdaaaGreatDoorAbC2
import Derived.Test.YtdppgkglljpdaaaGreatDoorAbC3
import Derived.Test.YtdppgkglljpdaaaGreatDoorAm4
set_option linter.all false
namespace Go.Ab
set_option maxRecDepth 100000
set_option maxHeartbeats 4000000
noncomputable section
def p270 : PX x270 := ⟨_, by simp -implicitDefEqProofs only [x270, go_sem]; exact rfl⟩
def p101 : PX x101 := ⟨_, by simp -implicitDefEqProofs only [x101, go_sem]; exact rfl⟩
def h101 : Sem := p101.1
def p59 : PX x59 := ⟨_, by simp -implicitDefEqProofs only [x59, go_sem]; exact rfl⟩
def h59 : Sem := p59.1
def p202 : PX x202 := ⟨_, by simp -implicitDefEqProofs only [x202, go_sem]; exact rfl⟩
def p176 : PX x176 := ⟨_, by simp -implicitDefEqProofs only [x176, go_sem]; exact rfl⟩
def p10 : PX x10 := ⟨_, by simp -implicitDefEqProofs only [x10, go_sem]; exact rfl⟩
def h10 : Sem := p10.1
def p99_1 : PY y99_1 := ⟨_, by simp -implicitDefEqProofs only [y99_1, go_sem]; exact rfl⟩
def l99_1 : Sem := p99_1.1
theorem el99_1 : den y99_1 = l99_1 := p99_1.2
def p99_2 : PY y99_2 := ⟨_, by simp -implicitDefEqProofs only [y99_2, el99_1, go_sem]; exact rfl⟩
def l99_2 : Sem := p99_2.1
theorem el99_2 : den y99_2 = l99_2 := p99_2.2
def p99_3 : PY y99_3 := ⟨_, by simp -implicitDefEqProofs only [y99_3, el99_1, el99_2, go_sem]; exact rfl⟩
def l99_3 : Sem := p99_3.1
theorem el99_3 : den y99_3 = l99_3 := p99_3.2
def p99 : PX x99 := ⟨_, by simp -implicitDefEqProofs only [x99, el99_1, el99_2, el99_3, go_sem]; exact rfl⟩
def h99 : Sem := p99.1
def p110 : PX x110 := ⟨_, by simp -implicitDefEqProofs only [x110, go_sem]; exact rfl⟩
def p79 : PX x79 := ⟨_, by simp -implicitDefEqProofs only [x79, go_sem]; exact rfl⟩
def p81 : PX x81 := ⟨_, by simp -implicitDefEqProofs only [x81, go_sem]; exact rfl⟩
def p35_1 : PY y35_1 := ⟨_, by simp -implicitDefEqProofs only [y35_1, go_sem]; exact rfl⟩
def l35_1 : Sem := p35_1.1
theorem el35_1 : den y35_1 = l35_1 := p35_1.2
def p35_2 : PY y35_2 := ⟨_, by simp -implicitDefEqProofs only [y35_2, el35_1, go_sem]; exact rfl⟩
def l35_2 : Sem := p35_2.1
theorem el35_2 : den y35_2 = l35_2 := p35_2.2
def p35 : PX x35 := ⟨_, by simp -implicitDefEqProofs only [x35, el35_1, el35_2, go_sem]; exact rfl⟩
def h35 : Sem := p35.1
def p179 : PX x179 := ⟨_, by simp -implicitDefEqProofs only [x179, go_sem]; exact rfl⟩
def p145 : PX x145 := ⟨_, by simp -implicitDefEqProofs only [x145, go_sem]; exact rfl⟩
def p139 : PX x139 := ⟨_, by simp -implicitDefEqProofs only [x139, go_sem]; exact rfl⟩
def p80 : PX x80 := ⟨_, by simp -implicitDefEqProofs only [x80, go_sem]; exact rfl⟩
def p207 : PX x207 := ⟨_, by simp -implicitDefEqProofs only [x207, go_sem]; exact rfl⟩
def p196 : PX x196 := ⟨_, by simp -implicitDefEqProofs only [x196, go_sem]; exact rfl⟩
def p248 : PX x248 := ⟨_, by simp -implicitDefEqProofs only [x248, go_sem]; exact rfl⟩
def p167 : PX x167 := ⟨_, by simp -implicitDefEqProofs only [x167, go_sem]; exact rfl⟩
def p144 : PX x144 := ⟨_, by simp -implicitDefEqProofs only [x144, go_sem]; exact rfl⟩
def p17 : PX x17 := ⟨_, by simp -implicitDefEqProofs only [x17, go_sem]; exact rfl⟩
def p223 : PX x223 := ⟨_, by simp -implicitDefEqProofs only [x223, go_sem]; exact rfl⟩
def p27 : PX x27 := ⟨_, by simp -implicitDefEqProofs only [x27, go_sem]; exact rfl⟩
def p115 : PX x115 := ⟨_, by simp -implicitDefEqProofs only [x115, go_sem]; exact rfl⟩
def h115 : Sem := p115.1
def p166 : PX x166 := ⟨_, by simp -implicitDefEqProofs only [x166, go_sem]; exact rfl⟩
def p148 : PX x148 := ⟨_, by simp -implicitDefEqProofs only [x148, go_sem]; exact rfl⟩
def p156 : PX x156 := ⟨_, by simp -implicitDefEqProofs only [x156, go_sem]; exact rfl⟩
def p254 : PX x254 := ⟨_, by simp -implicitDefEqProofs only [x254, go_sem]; exact rfl⟩
def p105 : PX x105 := ⟨_, by simp -implicitDefEqProofs only [x105, go_sem]; exact rfl⟩
def p137 : PX x137 := ⟨_, by simp -implicitDefEqProofs only [x137, go_sem]; exact rfl⟩
def p39 : PX x39 := ⟨_, by simp -implicitDefEqProofs only [x39, go_sem]; exact rfl⟩
def p114 : PX x114 := ⟨_, by simp -implicitDefEqProofs only [x114, go_sem]; exact rfl⟩
def p69_1 : PY y69_1 := ⟨_, by simp -implicitDefEqProofs only [y69_1, go_sem]; exact rfl⟩
def l69_1 : Sem := p69_1.1
theorem el69_1 : den y69_1 = l69_1 := p69_1.2
def p69 : PX x69 := ⟨_, by simp -implicitDefEqProofs only [x69, el69_1, go_sem]; exact rfl⟩
def h69 : Sem := p69.1
def p54 : PX x54 := ⟨_, by simp -implicitDefEqProofs only [x54, go_sem]; exact rfl⟩
def p190 : PX x190 := ⟨_, by simp -implicitDefEqProofs only [x190, go_sem]; exact rfl⟩
def p155 : PX x155 := ⟨_, by simp -implicitDefEqProofs only [x155, go_sem]; exact rfl⟩
def p226 : PX x226 := ⟨_, by simp -implicitDefEqProofs only [x226, go_sem]; exact rfl⟩
def p160 : PX x160 := ⟨_, by simp -implicitDefEqProofs only [x160, go_sem]; exact rfl⟩
def p230 : PX x230 := ⟨_, by simp -implicitDefEqProofs only [x230, go_sem]; exact rfl⟩
def p37_1 : PY y37_1 := ⟨_, by simp -implicitDefEqProofs only [y37_1, go_sem]; exact rfl⟩
def l37_1 : Sem := p37_1.1
theorem el37_1 : den y37_1 = l37_1 := p37_1.2
def p37 : PX x37 := ⟨_, by simp -implicitDefEqProofs only [x37, el37_1, go_sem]; exact rfl⟩
def h37 : Sem := p37.1
def p169 : PX x169 := ⟨_, by simp -implicitDefEqProofs only [x169, go_sem]; exact rfl⟩
def p227 : PX x227 := ⟨_, by simp -implicitDefEqProofs only [x227, go_sem]; exact rfl⟩
def p197 : PX x197 := ⟨_, by simp -implicitDefEqProofs only [x197, go_sem]; exact rfl⟩
def p174 : PX x174 := ⟨_, by simp -implicitDefEqProofs only [x174, go_sem]; exact rfl⟩
def p231 : PX x231 := ⟨_, by simp -implicitDefEqProofs only [x231, go_sem]; exact rfl⟩
def p180 : PX x180 := ⟨_, by simp -implicitDefEqProofs only [x180, go_sem]; exact rfl⟩
def p237 : PX x237 := ⟨_, by simp -implicitDefEqProofs only [x237, go_sem]; exact rfl⟩
def p221 : PX x221 := ⟨_, by simp -implicitDefEqProofs only [x221, go_sem]; exact rfl⟩
def p75 : PX x75 := ⟨_, by simp -implicitDefEqProofs only [x75, go_sem]; exact rfl⟩
def p86 : PX x86 := ⟨_, by simp -implicitDefEqProofs only [x86, go_sem]; exact rfl⟩
def h86 : Sem := p86.1
def p94 : PX x94 := ⟨_, by simp -implicitDefEqProofs only [x94, go_sem]; exact rfl⟩
def h94 : Sem := p94.1
def p131 : PX x131 := ⟨_, by simp -implicitDefEqProofs only [x131, go_sem]; exact rfl⟩
def p152 : PX x152 := ⟨_, by simp -implicitDefEqProofs only [x152, go_sem]; exact rfl⟩
def h152 : Sem := p152.1
def p132 : PX x132 := ⟨_, by simp -implicitDefEqProofs only [x132, go_sem]; exact rfl⟩
def p128 : PX x128 := ⟨_, by simp -implicitDefEqProofs only [x128, go_sem]; exact rfl⟩
def p164 : PX x164 := ⟨_, by simp -implicitDefEqProofs only [x164, go_sem]; exact rfl⟩
def p58 : PX x58 := ⟨_, by simp -implicitDefEqProofs only [x58, go_sem]; exact rfl⟩
def h58 : Sem := p58.1
def p236 : PX x236 := ⟨_, by simp -implicitDefEqProofs only [x236, go_sem]; exact rfl⟩
end
end Go.Ab
