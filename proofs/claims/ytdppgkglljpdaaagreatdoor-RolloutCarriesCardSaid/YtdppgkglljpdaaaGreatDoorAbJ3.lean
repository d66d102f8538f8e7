/- The code as functions, computed. Printed by mkco2.py. -/
import Derived.Test.YtdppgkglljpdaaaGreatDoorAbC0
import Derived.Test.YtdppgkglljpdaaaGreatDoorAbC1
import Derived.Test.YtdppgkglljpdaaaGreatDoorAbC2
import Derived.Test.YtdppgkglljpdaaaGreatDoorAbC3
import Derived.Test.YtdppgkglljpdaaaGreatDoorAm4
set_option linter.all false
namespace Go.Ab
set_option maxRecDepth 100000
set_option maxHeartbeats 4000000
noncomputable section
def p107 : PX x107 := ⟨_, by simp -implicitDefEqProofs only [x107, go_sem]; exact rfl⟩
def p211 : PX x211 := ⟨_, by simp -implicitDefEqProofs only [x211, go_sem]; exact rfl⟩
def p146 : PX x146 := ⟨_, by simp -implicitDefEqProofs only [x146, go_sem]; exact rfl⟩
def p203 : PX x203 := ⟨_, by simp -implicitDefEqProofs only [x203, go_sem]; exact rfl⟩
def p138 : PX x138 := ⟨_, by simp -implicitDefEqProofs only [x138, go_sem]; exact rfl⟩
def p64_1 : PY y64_1 := ⟨_, by simp -implicitDefEqProofs only [y64_1, go_sem]; exact rfl⟩
def l64_1 : Sem := p64_1.1
theorem el64_1 : den y64_1 = l64_1 := p64_1.2
def p64 : PX x64 := ⟨_, by simp -implicitDefEqProofs only [x64, el64_1, go_sem]; exact rfl⟩
def h64 : Sem := p64.1
def p12_1 : PY y12_1 := ⟨_, by simp -implicitDefEqProofs only [y12_1, go_sem]; exact rfl⟩
def l12_1 : Sem := p12_1.1
theorem el12_1 : den y12_1 = l12_1 := p12_1.2
def p12 : PX x12 := ⟨_, by simp -implicitDefEqProofs only [x12, el12_1, go_sem]; exact rfl⟩
def h12 : Sem := p12.1
def p60 : PX x60 := ⟨_, by simp -implicitDefEqProofs only [x60, go_sem]; exact rfl⟩
def p8 : PX x8 := ⟨_, by simp -implicitDefEqProofs only [x8, go_sem]; exact rfl⟩
def p171 : PX x171 := ⟨_, by simp -implicitDefEqProofs only [x171, go_sem]; exact rfl⟩
def p173 : PX x173 := ⟨_, by simp -implicitDefEqProofs only [x173, go_sem]; exact rfl⟩
def p246 : PX x246 := ⟨_, by simp -implicitDefEqProofs only [x246, go_sem]; exact rfl⟩
def p121 : PX x121 := ⟨_, by simp -implicitDefEqProofs only [x121, go_sem]; exact rfl⟩
def p247 : PX x247 := ⟨_, by simp -implicitDefEqProofs only [x247, go_sem]; exact rfl⟩
def p53 : PX x53 := ⟨_, by simp -implicitDefEqProofs only [x53, go_sem]; exact rfl⟩
def p15_1 : PY y15_1 := ⟨_, by simp -implicitDefEqProofs only [y15_1, go_sem]; exact rfl⟩
def l15_1 : Sem := p15_1.1
theorem el15_1 : den y15_1 = l15_1 := p15_1.2
def p15_2 : PY y15_2 := ⟨_, by simp -implicitDefEqProofs only [y15_2, el15_1, go_sem]; exact rfl⟩
def l15_2 : Sem := p15_2.1
theorem el15_2 : den y15_2 = l15_2 := p15_2.2
def p15 : PX x15 := ⟨_, by simp -implicitDefEqProofs only [x15, el15_1, el15_2, go_sem]; exact rfl⟩
def h15 : Sem := p15.1
def p157 : PX x157 := ⟨_, by simp -implicitDefEqProofs only [x157, go_sem]; exact rfl⟩
def p266 : PX x266 := ⟨_, by simp -implicitDefEqProofs only [x266, go_sem]; exact rfl⟩
def p188 : PX x188 := ⟨_, by simp -implicitDefEqProofs only [x188, go_sem]; exact rfl⟩
def p161 : PX x161 := ⟨_, by simp -implicitDefEqProofs only [x161, go_sem]; exact rfl⟩
def p201 : PX x201 := ⟨_, by simp -implicitDefEqProofs only [x201, go_sem]; exact rfl⟩
def p41_1 : PY y41_1 := ⟨_, by simp -implicitDefEqProofs only [y41_1, go_sem]; exact rfl⟩
def l41_1 : Sem := p41_1.1
theorem el41_1 : den y41_1 = l41_1 := p41_1.2
def p41 : PX x41 := ⟨_, by simp -implicitDefEqProofs only [x41, el41_1, go_sem]; exact rfl⟩
def h41 : Sem := p41.1
def p219 : PX x219 := ⟨_, by simp -implicitDefEqProofs only [x219, go_sem]; exact rfl⟩
def p206 : PX x206 := ⟨_, by simp -implicitDefEqProofs only [x206, go_sem]; exact rfl⟩
def p102_1 : PY y102_1 := ⟨_, by simp -implicitDefEqProofs only [y102_1, go_sem]; exact rfl⟩
def l102_1 : Sem := p102_1.1
theorem el102_1 : den y102_1 = l102_1 := p102_1.2
def p102 : PX x102 := ⟨_, by simp -implicitDefEqProofs only [x102, el102_1, go_sem]; exact rfl⟩
def h102 : Sem := p102.1
def p34 : PX x34 := ⟨_, by simp -implicitDefEqProofs only [x34, go_sem]; exact rfl⟩
def p45 : PX x45 := ⟨_, by simp -implicitDefEqProofs only [x45, go_sem]; exact rfl⟩
def h45 : Sem := p45.1
def p21 : PX x21 := ⟨_, by simp -implicitDefEqProofs only [x21, go_sem]; exact rfl⟩
def p143 : PX x143 := ⟨_, by simp -implicitDefEqProofs only [x143, go_sem]; exact rfl⟩
def p62_1 : PY y62_1 := ⟨_, by simp -implicitDefEqProofs only [y62_1, go_sem]; exact rfl⟩
def l62_1 : Sem := p62_1.1
theorem el62_1 : den y62_1 = l62_1 := p62_1.2
def p62 : PX x62 := ⟨_, by simp -implicitDefEqProofs only [x62, el62_1, go_sem]; exact rfl⟩
def h62 : Sem := p62.1
def p178 : PX x178 := ⟨_, by simp -implicitDefEqProofs only [x178, go_sem]; exact rfl⟩
def p13_1 : PY y13_1 := ⟨_, by simp -implicitDefEqProofs only [y13_1, go_sem]; exact rfl⟩
def l13_1 : Sem := p13_1.1
theorem el13_1 : den y13_1 = l13_1 := p13_1.2
def p13 : PX x13 := ⟨_, by simp -implicitDefEqProofs only [x13, el13_1, go_sem]; exact rfl⟩
def h13 : Sem := p13.1
def p267 : PX x267 := ⟨_, by simp -implicitDefEqProofs only [x267, go_sem]; exact rfl⟩
def p83 : PX x83 := ⟨_, by simp -implicitDefEqProofs only [x83, go_sem]; exact rfl⟩
def p172 : PX x172 := ⟨_, by simp -implicitDefEqProofs only [x172, go_sem]; exact rfl⟩
def p43_1 : PY y43_1 := ⟨_, by simp -implicitDefEqProofs only [y43_1, go_sem]; exact rfl⟩
def l43_1 : Sem := p43_1.1
theorem el43_1 : den y43_1 = l43_1 := p43_1.2
def p43 : PX x43 := ⟨_, by simp -implicitDefEqProofs only [x43, el43_1, go_sem]; exact rfl⟩
def h43 : Sem := p43.1
def p159 : PX x159 := ⟨_, by simp -implicitDefEqProofs only [x159, go_sem]; exact rfl⟩
def p218 : PX x218 := ⟨_, by simp -implicitDefEqProofs only [x218, go_sem]; exact rfl⟩
def p210 : PX x210 := ⟨_, by simp -implicitDefEqProofs only [x210, go_sem]; exact rfl⟩
def p88_1 : PY y88_1 := ⟨_, by simp -implicitDefEqProofs only [y88_1, go_sem]; exact rfl⟩
def l88_1 : Sem := p88_1.1
theorem el88_1 : den y88_1 = l88_1 := p88_1.2
def p88 : PX x88 := ⟨_, by simp -implicitDefEqProofs only [x88, el88_1, go_sem]; exact rfl⟩
def h88 : Sem := p88.1
def p183_1 : PY y183_1 := ⟨_, by simp -implicitDefEqProofs only [y183_1, go_sem]; exact rfl⟩
def l183_1 : Sem := p183_1.1
theorem el183_1 : den y183_1 = l183_1 := p183_1.2
def p183 : PX x183 := ⟨_, by simp -implicitDefEqProofs only [x183, el183_1, go_sem]; exact rfl⟩
def h183 : Sem := p183.1
def p261 : PX x261 := ⟨_, by simp -implicitDefEqProofs only [x261, go_sem]; exact rfl⟩
def p65 : PX x65 := ⟨_, by simp -implicitDefEqProofs only [x65, go_sem]; exact rfl⟩
def h65 : Sem := p65.1
def p48 : PX x48 := ⟨_, by simp -implicitDefEqProofs only [x48, go_sem]; exact rfl⟩
def h48 : Sem := p48.1
def p46 : PX x46 := ⟨_, by simp -implicitDefEqProofs only [x46, go_sem]; exact rfl⟩
def h46 : Sem := p46.1
def p118 : PX x118 := ⟨_, by simp -implicitDefEqProofs only [x118, go_sem]; exact rfl⟩
def h118 : Sem := p118.1
def p240 : PX x240 := ⟨_, by simp -implicitDefEqProofs only [x240, go_sem]; exact rfl⟩
def p136 : PX x136 := ⟨_, by simp -implicitDefEqProofs only [x136, go_sem]; exact rfl⟩
def p229 : PX x229 := ⟨_, by simp -implicitDefEqProofs only [x229, go_sem]; exact rfl⟩
def p234 : PX x234 := ⟨_, by simp -implicitDefEqProofs only [x234, go_sem]; exact rfl⟩
def p228 : PX x228 := ⟨_, by simp -implicitDefEqProofs only [x228, go_sem]; exact rfl⟩
def p112 : PX x112 := ⟨_, by simp -implicitDefEqProofs only [x112, go_sem]; exact rfl⟩
def p238 : PX x238 := ⟨_, by simp -implicitDefEqProofs only [x238, go_sem]; exact rfl⟩
def p38 : PX x38 := ⟨_, by simp -implicitDefEqProofs only [x38, go_sem]; exact rfl⟩
def h38 : Sem := p38.1
def p182 : PX x182 := ⟨_, by simp -implicitDefEqProofs only [x182, go_sem]; exact rfl⟩
def p200 : PX x200 := ⟨_, by simp -implicitDefEqProofs only [x200, go_sem]; exact rfl⟩
def p165 : PX x165 := ⟨_, by simp -implicitDefEqProofs only [x165, go_sem]; exact rfl⟩
def p175 : PX x175 := ⟨_, by simp -implicitDefEqProofs only [x175, go_sem]; exact rfl⟩
def p119 : PX x119 := ⟨_, by simp -implicitDefEqProofs only [x119, go_sem]; exact rfl⟩
def h119 : Sem := p119.1
def p142 : PX x142 := ⟨_, by simp -implicitDefEqProofs only [x142, go_sem]; exact rfl⟩
end
end Go.Ab
