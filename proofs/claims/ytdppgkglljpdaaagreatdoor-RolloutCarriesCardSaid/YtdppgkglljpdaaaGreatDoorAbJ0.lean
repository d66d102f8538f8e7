/- The code as functions, computed. Printed by mkco2.py. -/
import Derived.Test.YtdppgkglljpdaaaGreatDoorAbC0
import Derived.Test.YtdppgkglljpdaaaGreatDoorAbC1
import Derived.Test.YtdppgkglljpdaaaGreatDoorAbC2
import Derived.Test.YtdppgkglljpdaaaGreatDoorAbC3
import Derived.Test.YtdppgkglljpdaaaGreatDoorAm4
set_option linter.all false
namespace Go.Ab
set_option maxRecDepth 100000
set_option maxHeartbeats 4000000
noncomputable section
def p189 : PX x189 := ⟨_, by simp -implicitDefEqProofs only [x189, go_sem]; exact rfl⟩
def p122 : PX x122 := ⟨_, by simp -implicitDefEqProofs only [x122, go_sem]; exact rfl⟩
def p90 : PX x90 := ⟨_, by simp -implicitDefEqProofs only [x90, go_sem]; exact rfl⟩
def h90 : Sem := p90.1
def p124 : PX x124 := ⟨_, by simp -implicitDefEqProofs only [x124, go_sem]; exact rfl⟩
def p97 : PX x97 := ⟨_, by simp -implicitDefEqProofs only [x97, go_sem]; exact rfl⟩
def p204 : PX x204 := ⟨_, by simp -implicitDefEqProofs only [x204, go_sem]; exact rfl⟩
def p96 : PX x96 := ⟨_, by simp -implicitDefEqProofs only [x96, go_sem]; exact rfl⟩
def p66_1 : PY y66_1 := ⟨_, by simp -implicitDefEqProofs only [y66_1, go_sem]; exact rfl⟩
def l66_1 : Sem := p66_1.1
theorem el66_1 : den y66_1 = l66_1 := p66_1.2
def p66_2 : PY y66_2 := ⟨_, by simp -implicitDefEqProofs only [y66_2, el66_1, go_sem]; exact rfl⟩
def l66_2 : Sem := p66_2.1
theorem el66_2 : den y66_2 = l66_2 := p66_2.2
def p66 : PX x66 := ⟨_, by simp -implicitDefEqProofs only [x66, el66_1, el66_2, go_sem]; exact rfl⟩
def h66 : Sem := p66.1
def p44_1 : PY y44_1 := ⟨_, by simp -implicitDefEqProofs only [y44_1, go_sem]; exact rfl⟩
def l44_1 : Sem := p44_1.1
theorem el44_1 : den y44_1 = l44_1 := p44_1.2
def p44_2 : PY y44_2 := ⟨_, by simp -implicitDefEqProofs only [y44_2, el44_1, go_sem]; exact rfl⟩
def l44_2 : Sem := p44_2.1
theorem el44_2 : den y44_2 = l44_2 := p44_2.2
def p44 : PX x44 := ⟨_, by simp -implicitDefEqProofs only [x44, el44_1, el44_2, go_sem]; exact rfl⟩
def h44 : Sem := p44.1
def p126 : PX x126 := ⟨_, by simp -implicitDefEqProofs only [x126, go_sem]; exact rfl⟩
def p57_1 : PY y57_1 := ⟨_, by simp -implicitDefEqProofs only [y57_1, go_sem]; exact rfl⟩
def l57_1 : Sem := p57_1.1
theorem el57_1 : den y57_1 = l57_1 := p57_1.2
def p57 : PX x57 := ⟨_, by simp -implicitDefEqProofs only [x57, el57_1, go_sem]; exact rfl⟩
def h57 : Sem := p57.1
def p49_1 : PY y49_1 := ⟨_, by simp -implicitDefEqProofs only [y49_1, go_sem]; exact rfl⟩
def l49_1 : Sem := p49_1.1
theorem el49_1 : den y49_1 = l49_1 := p49_1.2
def p49 : PX x49 := ⟨_, by simp -implicitDefEqProofs only [x49, el49_1, go_sem]; exact rfl⟩
def h49 : Sem := p49.1
def p192 : PX x192 := ⟨_, by simp -implicitDefEqProofs only [x192, go_sem]; exact rfl⟩
def p195 : PX x195 := ⟨_, by simp -implicitDefEqProofs only [x195, go_sem]; exact rfl⟩
def p198 : PX x198 := ⟨_, by simp -implicitDefEqProofs only [x198, go_sem]; exact rfl⟩
def p205 : PX x205 := ⟨_, by simp -implicitDefEqProofs only [x205, go_sem]; exact rfl⟩
def p100_1 : PY y100_1 := ⟨_, by simp -implicitDefEqProofs only [y100_1, go_sem]; exact rfl⟩
def l100_1 : Sem := p100_1.1
theorem el100_1 : den y100_1 = l100_1 := p100_1.2
def p100 : PX x100 := ⟨_, by simp -implicitDefEqProofs only [x100, el100_1, go_sem]; exact rfl⟩
def h100 : Sem := p100.1
def p113 : PX x113 := ⟨_, by simp -implicitDefEqProofs only [x113, go_sem]; exact rfl⟩
def p4 : PX x4 := ⟨_, by simp -implicitDefEqProofs only [x4, go_sem]; exact rfl⟩
def h4 : Sem := p4.1
def p56 : PX x56 := ⟨_, by simp -implicitDefEqProofs only [x56, go_sem]; exact rfl⟩
def p16_1 : PY y16_1 := ⟨_, by simp -implicitDefEqProofs only [y16_1, go_sem]; exact rfl⟩
def l16_1 : Sem := p16_1.1
theorem el16_1 : den y16_1 = l16_1 := p16_1.2
def p16 : PX x16 := ⟨_, by simp -implicitDefEqProofs only [x16, el16_1, go_sem]; exact rfl⟩
def h16 : Sem := p16.1
def p36_1 : PY y36_1 := ⟨_, by simp -implicitDefEqProofs only [y36_1, go_sem]; exact rfl⟩
def l36_1 : Sem := p36_1.1
theorem el36_1 : den y36_1 = l36_1 := p36_1.2
def p36 : PX x36 := ⟨_, by simp -implicitDefEqProofs only [x36, el36_1, go_sem]; exact rfl⟩
def h36 : Sem := p36.1
def p19 : PX x19 := ⟨_, by simp -implicitDefEqProofs only [x19, go_sem]; exact rfl⟩
def p264 : PX x264 := ⟨_, by simp -implicitDefEqProofs only [x264, go_sem]; exact rfl⟩
def p154 : PX x154 := ⟨_, by simp -implicitDefEqProofs only [x154, go_sem]; exact rfl⟩
def p258 : PX x258 := ⟨_, by simp -implicitDefEqProofs only [x258, go_sem]; exact rfl⟩
def p109 : PX x109 := ⟨_, by simp -implicitDefEqProofs only [x109, go_sem]; exact rfl⟩
def p82 : PX x82 := ⟨_, by simp -implicitDefEqProofs only [x82, go_sem]; exact rfl⟩
def p243 : PX x243 := ⟨_, by simp -implicitDefEqProofs only [x243, go_sem]; exact rfl⟩
def p25 : PX x25 := ⟨_, by simp -implicitDefEqProofs only [x25, go_sem]; exact rfl⟩
def p245 : PX x245 := ⟨_, by simp -implicitDefEqProofs only [x245, go_sem]; exact rfl⟩
def p268 : PX x268 := ⟨_, by simp -implicitDefEqProofs only [x268, go_sem]; exact rfl⟩
def p103 : PX x103 := ⟨_, by simp -implicitDefEqProofs only [x103, go_sem]; exact rfl⟩
def h103 : Sem := p103.1
def p257 : PX x257 := ⟨_, by simp -implicitDefEqProofs only [x257, go_sem]; exact rfl⟩
def p123 : PX x123 := ⟨_, by simp -implicitDefEqProofs only [x123, go_sem]; exact rfl⟩
def p133 : PX x133 := ⟨_, by simp -implicitDefEqProofs only [x133, go_sem]; exact rfl⟩
def p163 : PX x163 := ⟨_, by simp -implicitDefEqProofs only [x163, go_sem]; exact rfl⟩
def p259 : PX x259 := ⟨_, by simp -implicitDefEqProofs only [x259, go_sem]; exact rfl⟩
def p147 : PX x147 := ⟨_, by simp -implicitDefEqProofs only [x147, go_sem]; exact rfl⟩
def p224 : PX x224 := ⟨_, by simp -implicitDefEqProofs only [x224, go_sem]; exact rfl⟩
def p150 : PX x150 := ⟨_, by simp -implicitDefEqProofs only [x150, go_sem]; exact rfl⟩
def h150 : Sem := p150.1
def p71 : PX x71 := ⟨_, by simp -implicitDefEqProofs only [x71, go_sem]; exact rfl⟩
def p55 : PX x55 := ⟨_, by simp -implicitDefEqProofs only [x55, go_sem]; exact rfl⟩
def p242 : PX x242 := ⟨_, by simp -implicitDefEqProofs only [x242, go_sem]; exact rfl⟩
def p74 : PX x74 := ⟨_, by simp -implicitDefEqProofs only [x74, go_sem]; exact rfl⟩
def h74 : Sem := p74.1
def p51 : PX x51 := ⟨_, by simp -implicitDefEqProofs only [x51, go_sem]; exact rfl⟩
def p199 : PX x199 := ⟨_, by simp -implicitDefEqProofs only [x199, go_sem]; exact rfl⟩
def p233 : PX x233 := ⟨_, by simp -implicitDefEqProofs only [x233, go_sem]; exact rfl⟩
def p134 : PX x134 := ⟨_, by simp -implicitDefEqProofs only [x134, go_sem]; exact rfl⟩
def p14 : PX x14 := ⟨_, by simp -implicitDefEqProofs only [x14, go_sem]; exact rfl⟩
def h14 : Sem := p14.1
def p127 : PX x127 := ⟨_, by simp -implicitDefEqProofs only [x127, go_sem]; exact rfl⟩
def p89 : PX x89 := ⟨_, by simp -implicitDefEqProofs only [x89, go_sem]; exact rfl⟩
def h89 : Sem := p89.1
def p244 : PX x244 := ⟨_, by simp -implicitDefEqProofs only [x244, go_sem]; exact rfl⟩
def p149 : PX x149 := ⟨_, by simp -implicitDefEqProofs only [x149, go_sem]; exact rfl⟩
def h149 : Sem := p149.1
def p120 : PX x120 := ⟨_, by simp -implicitDefEqProofs only [x120, go_sem]; exact rfl⟩
def h120 : Sem := p120.1
def p108 : PX x108 := ⟨_, by simp -implicitDefEqProofs only [x108, go_sem]; exact rfl⟩
def p235 : PX x235 := ⟨_, by simp -implicitDefEqProofs only [x235, go_sem]; exact rfl⟩
def p93 : PX x93 := ⟨_, by simp -implicitDefEqProofs only [x93, go_sem]; exact rfl⟩
def h93 : Sem := p93.1
end
end Go.Ab
