/- The code as functions, computed. Printed by mkco2.py. -/
import Derived.Test.YtdppgkglljpdaaaGreatDoorAbC0
import Derived.Test.YtdppgkglljpdaaaGreatDoorAbC1
import Derived.Test.YtdppgkglljpdaaaGreatDoorAbC2
import Derived.Test.YtdppgkglljpdaaaGreatDoorAbC3
import Derived.Test.YtdppgkglljpdaaaGreatDoorAm4
set_option linter.all false
namespace Go.Ab
set_option maxRecDepth 100000
set_option maxHeartbeats 4000000
noncomputable section
def p162 : PX x162 := ⟨_, by simp -implicitDefEqProofs only [x162, go_sem]; exact rfl⟩
def p104 : PX x104 := ⟨_, by simp -implicitDefEqProofs only [x104, go_sem]; exact rfl⟩
def p68 : PX x68 := ⟨_, by simp -implicitDefEqProofs only [x68, go_sem]; exact rfl⟩
def h68 : Sem := p68.1
def p191 : PX x191 := ⟨_, by simp -implicitDefEqProofs only [x191, go_sem]; exact rfl⟩
def p11_1 : PY y11_1 := ⟨_, by simp -implicitDefEqProofs only [y11_1, go_sem]; exact rfl⟩
def l11_1 : Sem := p11_1.1
theorem el11_1 : den y11_1 = l11_1 := p11_1.2
def p11 : PX x11 := ⟨_, by simp -implicitDefEqProofs only [x11, el11_1, go_sem]; exact rfl⟩
def h11 : Sem := p11.1
def p50_1 : PY y50_1 := ⟨_, by simp -implicitDefEqProofs only [y50_1, go_sem]; exact rfl⟩
def l50_1 : Sem := p50_1.1
theorem el50_1 : den y50_1 = l50_1 := p50_1.2
def p50 : PX x50 := ⟨_, by simp -implicitDefEqProofs only [x50, el50_1, go_sem]; exact rfl⟩
def h50 : Sem := p50.1
def p253 : PX x253 := ⟨_, by simp -implicitDefEqProofs only [x253, go_sem]; exact rfl⟩
def p208 : PX x208 := ⟨_, by simp -implicitDefEqProofs only [x208, go_sem]; exact rfl⟩
def p130 : PX x130 := ⟨_, by simp -implicitDefEqProofs only [x130, go_sem]; exact rfl⟩
def p63_1 : PY y63_1 := ⟨_, by simp -implicitDefEqProofs only [y63_1, go_sem]; exact rfl⟩
def l63_1 : Sem := p63_1.1
theorem el63_1 : den y63_1 = l63_1 := p63_1.2
def p63_2 : PY y63_2 := ⟨_, by simp -implicitDefEqProofs only [y63_2, el63_1, go_sem]; exact rfl⟩
def l63_2 : Sem := p63_2.1
theorem el63_2 : den y63_2 = l63_2 := p63_2.2
def p63 : PX x63 := ⟨_, by simp -implicitDefEqProofs only [x63, el63_1, el63_2, go_sem]; exact rfl⟩
def h63 : Sem := p63.1
def p193 : PX x193 := ⟨_, by simp -implicitDefEqProofs only [x193, go_sem]; exact rfl⟩
def p32 : PX x32 := ⟨_, by simp -implicitDefEqProofs only [x32, go_sem]; exact rfl⟩
def p269 : PX x269 := ⟨_, by simp -implicitDefEqProofs only [x269, go_sem]; exact rfl⟩
def p241 : PX x241 := ⟨_, by simp -implicitDefEqProofs only [x241, go_sem]; exact rfl⟩
def p135 : PX x135 := ⟨_, by simp -implicitDefEqProofs only [x135, go_sem]; exact rfl⟩
def p263 : PX x263 := ⟨_, by simp -implicitDefEqProofs only [x263, go_sem]; exact rfl⟩
def p140 : PX x140 := ⟨_, by simp -implicitDefEqProofs only [x140, go_sem]; exact rfl⟩
def p87_1 : PY y87_1 := ⟨_, by simp -implicitDefEqProofs only [y87_1, go_sem]; exact rfl⟩
def l87_1 : Sem := p87_1.1
theorem el87_1 : den y87_1 = l87_1 := p87_1.2
def p87 : PX x87 := ⟨_, by simp -implicitDefEqProofs only [x87, el87_1, go_sem]; exact rfl⟩
def h87 : Sem := p87.1
def p252 : PX x252 := ⟨_, by simp -implicitDefEqProofs only [x252, go_sem]; exact rfl⟩
def p84_1 : PY y84_1 := ⟨_, by simp -implicitDefEqProofs only [y84_1, go_sem]; exact rfl⟩
def l84_1 : Sem := p84_1.1
theorem el84_1 : den y84_1 = l84_1 := p84_1.2
def p84 : PX x84 := ⟨_, by simp -implicitDefEqProofs only [x84, el84_1, go_sem]; exact rfl⟩
def h84 : Sem := p84.1
def p168 : PX x168 := ⟨_, by simp -implicitDefEqProofs only [x168, go_sem]; exact rfl⟩
def p251 : PX x251 := ⟨_, by simp -implicitDefEqProofs only [x251, go_sem]; exact rfl⟩
def p177 : PX x177 := ⟨_, by simp -implicitDefEqProofs only [x177, go_sem]; exact rfl⟩
def p40_1 : PY y40_1 := ⟨_, by simp -implicitDefEqProofs only [y40_1, go_sem]; exact rfl⟩
def l40_1 : Sem := p40_1.1
theorem el40_1 : den y40_1 = l40_1 := p40_1.2
def p40 : PX x40 := ⟨_, by simp -implicitDefEqProofs only [x40, el40_1, go_sem]; exact rfl⟩
def h40 : Sem := p40.1
def p158 : PX x158 := ⟨_, by simp -implicitDefEqProofs only [x158, go_sem]; exact rfl⟩
def p85_1 : PY y85_1 := ⟨_, by simp -implicitDefEqProofs only [y85_1, go_sem]; exact rfl⟩
def l85_1 : Sem := p85_1.1
theorem el85_1 : den y85_1 = l85_1 := p85_1.2
def p85 : PX x85 := ⟨_, by simp -implicitDefEqProofs only [x85, el85_1, go_sem]; exact rfl⟩
def h85 : Sem := p85.1
def p194 : PX x194 := ⟨_, by simp -implicitDefEqProofs only [x194, go_sem]; exact rfl⟩
def p262 : PX x262 := ⟨_, by simp -implicitDefEqProofs only [x262, go_sem]; exact rfl⟩
def p33 : PX x33 := ⟨_, by simp -implicitDefEqProofs only [x33, go_sem]; exact rfl⟩
def p170 : PX x170 := ⟨_, by simp -implicitDefEqProofs only [x170, go_sem]; exact rfl⟩
def p95 : PX x95 := ⟨_, by simp -implicitDefEqProofs only [x95, go_sem]; exact rfl⟩
def h95 : Sem := p95.1
def p70_1 : PY y70_1 := ⟨_, by simp -implicitDefEqProofs only [y70_1, go_sem]; exact rfl⟩
def l70_1 : Sem := p70_1.1
theorem el70_1 : den y70_1 = l70_1 := p70_1.2
def p70 : PX x70 := ⟨_, by simp -implicitDefEqProofs only [x70, el70_1, go_sem]; exact rfl⟩
def h70 : Sem := p70.1
def p141 : PX x141 := ⟨_, by simp -implicitDefEqProofs only [x141, go_sem]; exact rfl⟩
def p232 : PX x232 := ⟨_, by simp -implicitDefEqProofs only [x232, go_sem]; exact rfl⟩
def p67_1 : PY y67_1 := ⟨_, by simp -implicitDefEqProofs only [y67_1, go_sem]; exact rfl⟩
def l67_1 : Sem := p67_1.1
theorem el67_1 : den y67_1 = l67_1 := p67_1.2
def p67 : PX x67 := ⟨_, by simp -implicitDefEqProofs only [x67, el67_1, go_sem]; exact rfl⟩
def h67 : Sem := p67.1
def p76 : PX x76 := ⟨_, by simp -implicitDefEqProofs only [x76, go_sem]; exact rfl⟩
def p42_1 : PY y42_1 := ⟨_, by simp -implicitDefEqProofs only [y42_1, go_sem]; exact rfl⟩
def l42_1 : Sem := p42_1.1
theorem el42_1 : den y42_1 = l42_1 := p42_1.2
def p42 : PX x42 := ⟨_, by simp -implicitDefEqProofs only [x42, el42_1, go_sem]; exact rfl⟩
def h42 : Sem := p42.1
def p212 : PX x212 := ⟨_, by simp -implicitDefEqProofs only [x212, go_sem]; exact rfl⟩
def p151_1 : PY y151_1 := ⟨_, by simp -implicitDefEqProofs only [y151_1, go_sem]; exact rfl⟩
def l151_1 : Sem := p151_1.1
theorem el151_1 : den y151_1 = l151_1 := p151_1.2
def p151 : PX x151 := ⟨_, by simp -implicitDefEqProofs only [x151, el151_1, go_sem]; exact rfl⟩
def h151 : Sem := p151.1
def p225 : PX x225 := ⟨_, by simp -implicitDefEqProofs only [x225, go_sem]; exact rfl⟩
def p250 : PX x250 := ⟨_, by simp -implicitDefEqProofs only [x250, go_sem]; exact rfl⟩
def p125 : PX x125 := ⟨_, by simp -implicitDefEqProofs only [x125, go_sem]; exact rfl⟩
def h125 : Sem := p125.1
def p249 : PX x249 := ⟨_, by simp -implicitDefEqProofs only [x249, go_sem]; exact rfl⟩
def p61 : PX x61 := ⟨_, by simp -implicitDefEqProofs only [x61, go_sem]; exact rfl⟩
def h61 : Sem := p61.1
def p98 : PX x98 := ⟨_, by simp -implicitDefEqProofs only [x98, go_sem]; exact rfl⟩
def h98 : Sem := p98.1
def p117 : PX x117 := ⟨_, by simp -implicitDefEqProofs only [x117, go_sem]; exact rfl⟩
def h117 : Sem := p117.1
def p222 : PX x222 := ⟨_, by simp -implicitDefEqProofs only [x222, go_sem]; exact rfl⟩
def p220 : PX x220 := ⟨_, by simp -implicitDefEqProofs only [x220, go_sem]; exact rfl⟩
def p265 : PX x265 := ⟨_, by simp -implicitDefEqProofs only [x265, go_sem]; exact rfl⟩
def p91 : PX x91 := ⟨_, by simp -implicitDefEqProofs only [x91, go_sem]; exact rfl⟩
def h91 : Sem := p91.1
def p129 : PX x129 := ⟨_, by simp -implicitDefEqProofs only [x129, go_sem]; exact rfl⟩
def p181 : PX x181 := ⟨_, by simp -implicitDefEqProofs only [x181, go_sem]; exact rfl⟩
def p29 : PX x29 := ⟨_, by simp -implicitDefEqProofs only [x29, go_sem]; exact rfl⟩
def p111 : PX x111 := ⟨_, by simp -implicitDefEqProofs only [x111, go_sem]; exact rfl⟩
def p239 : PX x239 := ⟨_, by simp -implicitDefEqProofs only [x239, go_sem]; exact rfl⟩
def p116 : PX x116 := ⟨_, by simp -implicitDefEqProofs only [x116, go_sem]; exact rfl⟩
def h116 : Sem := p116.1
def p209 : PX x209 := ⟨_, by simp -implicitDefEqProofs only [x209, go_sem]; exact rfl⟩
end
end Go.Ab
