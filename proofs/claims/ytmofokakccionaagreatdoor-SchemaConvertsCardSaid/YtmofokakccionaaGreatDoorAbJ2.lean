/- The code as functions, computed. Printed by mkco2.py. -/
import Derived.Test.YtmofokakccionaaGreatDoorAbC0
import Derived.Test.YtmofokakccionaaGreatDoorAbC1
import Derived.Test.YtmofokakccionaaGreatDoorAbC2
import Derived.Test.YtmofokakccionaaGreatDoorAbC3
import Derived.Test.YtmofokakccionaaGreatDoorAm4
set_option linter.all false
namespace Go.Ab
set_option maxRecDepth 100000
set_option maxHeartbeats 4000000
noncomputable section
def p170 : { h : Sem // den x170.body = h } := ⟨_, by simp -implicitDefEqProofs only [x170, d_seq, go_sem, Nat.reduceEqDiff, reduceIte]; exact rfl⟩
def h170 : Sem := p170.1
theorem e170 : den x170.body = h170 := p170.2
def p97 : { h : Sem // den x97.body = h } := ⟨_, by simp -implicitDefEqProofs only [x97, d_seq, go_sem, Nat.reduceEqDiff, reduceIte]; exact rfl⟩
def h97 : Sem := p97.1
theorem e97 : den x97.body = h97 := p97.2
def p142 : { h : Sem // den x142.body = h } := ⟨_, by simp -implicitDefEqProofs only [x142, d_seq, go_sem, Nat.reduceEqDiff, reduceIte]; exact rfl⟩
def h142 : Sem := p142.1
theorem e142 : den x142.body = h142 := p142.2
def p78 : { h : Sem // den x78.body = h } := ⟨_, by simp -implicitDefEqProofs only [x78, d_seq, go_sem, Nat.reduceEqDiff, reduceIte]; exact rfl⟩
def h78 : Sem := p78.1
theorem e78 : den x78.body = h78 := p78.2
def p125 : { h : Sem // den x125.body = h } := ⟨_, by simp -implicitDefEqProofs only [x125, d_seq, go_sem, Nat.reduceEqDiff, reduceIte]; exact rfl⟩
def h125 : Sem := p125.1
theorem e125 : den x125.body = h125 := p125.2
def p145 : { h : Sem // den x145.body = h } := ⟨_, by simp -implicitDefEqProofs only [x145, d_seq, go_sem, Nat.reduceEqDiff, reduceIte]; exact rfl⟩
def h145 : Sem := p145.1
theorem e145 : den x145.body = h145 := p145.2
def p119 : { h : Sem // den x119.body = h } := ⟨_, by simp -implicitDefEqProofs only [x119, d_seq, go_sem, Nat.reduceEqDiff, reduceIte]; exact rfl⟩
def h119 : Sem := p119.1
theorem e119 : den x119.body = h119 := p119.2
def p222 : { h : Sem // den x222.body = h } := ⟨_, by simp -implicitDefEqProofs only [x222, d_seq, go_sem, Nat.reduceEqDiff, reduceIte]; exact rfl⟩
def h222 : Sem := p222.1
theorem e222 : den x222.body = h222 := p222.2
def p109 : { h : Sem // den x109.body = h } := ⟨_, by simp -implicitDefEqProofs only [x109, d_seq, go_sem, Nat.reduceEqDiff, reduceIte]; exact rfl⟩
def h109 : Sem := p109.1
theorem e109 : den x109.body = h109 := p109.2
def p19 : { h : Sem // den x19.body = h } := ⟨_, by simp -implicitDefEqProofs only [x19, d_seq, go_sem, Nat.reduceEqDiff, reduceIte]; exact rfl⟩
def h19 : Sem := p19.1
theorem e19 : den x19.body = h19 := p19.2
def p227 : { h : Sem // den x227.body = h } := ⟨_, by simp -implicitDefEqProofs only [x227, d_seq, go_sem, Nat.reduceEqDiff, reduceIte]; exact rfl⟩
def h227 : Sem := p227.1
theorem e227 : den x227.body = h227 := p227.2
def p151 : { h : Sem // den x151.body = h } := ⟨_, by simp -implicitDefEqProofs only [x151, d_seq, go_sem, Nat.reduceEqDiff, reduceIte]; exact rfl⟩
def h151 : Sem := p151.1
theorem e151 : den x151.body = h151 := p151.2
def p198 : { h : Sem // den x198.body = h } := ⟨_, by simp -implicitDefEqProofs only [x198, d_seq, go_sem, Nat.reduceEqDiff, reduceIte]; exact rfl⟩
def h198 : Sem := p198.1
theorem e198 : den x198.body = h198 := p198.2
def p186 : { h : Sem // den x186.body = h } := ⟨_, by simp -implicitDefEqProofs only [x186, d_seq, go_sem, Nat.reduceEqDiff, reduceIte]; exact rfl⟩
def h186 : Sem := p186.1
theorem e186 : den x186.body = h186 := p186.2
def p225 : { h : Sem // den x225.body = h } := ⟨_, by simp -implicitDefEqProofs only [x225, d_seq, go_sem, Nat.reduceEqDiff, reduceIte]; exact rfl⟩
def h225 : Sem := p225.1
theorem e225 : den x225.body = h225 := p225.2
def p228 : { h : Sem // den x228.body = h } := ⟨_, by simp -implicitDefEqProofs only [x228, d_seq, go_sem, Nat.reduceEqDiff, reduceIte]; exact rfl⟩
def h228 : Sem := p228.1
theorem e228 : den x228.body = h228 := p228.2
def p71 : { h : Sem // den x71.body = h } := ⟨_, by simp -implicitDefEqProofs only [x71, d_seq, go_sem, Nat.reduceEqDiff, reduceIte]; exact rfl⟩
def h71 : Sem := p71.1
theorem e71 : den x71.body = h71 := p71.2
def p117 : { h : Sem // den x117.body = h } := ⟨_, by simp -implicitDefEqProofs only [x117, d_seq, go_sem, Nat.reduceEqDiff, reduceIte]; exact rfl⟩
def h117 : Sem := p117.1
theorem e117 : den x117.body = h117 := p117.2
def p106 : { h : Sem // den x106.body = h } := ⟨_, by simp -implicitDefEqProofs only [x106, d_seq, go_sem, Nat.reduceEqDiff, reduceIte]; exact rfl⟩
def h106 : Sem := p106.1
theorem e106 : den x106.body = h106 := p106.2
def p237 : { h : Sem // den x237.body = h } := ⟨_, by simp -implicitDefEqProofs only [x237, d_seq, go_sem, Nat.reduceEqDiff, reduceIte]; exact rfl⟩
def h237 : Sem := p237.1
theorem e237 : den x237.body = h237 := p237.2
def p107 : { h : Sem // den x107.body = h } := ⟨_, by simp -implicitDefEqProofs only [x107, d_seq, go_sem, Nat.reduceEqDiff, reduceIte]; exact rfl⟩
def h107 : Sem := p107.1
theorem e107 : den x107.body = h107 := p107.2
def p201 : { h : Sem // den x201.body = h } := ⟨_, by simp -implicitDefEqProofs only [x201, d_seq, go_sem, Nat.reduceEqDiff, reduceIte]; exact rfl⟩
def h201 : Sem := p201.1
theorem e201 : den x201.body = h201 := p201.2
def p229 : { h : Sem // den x229.body = h } := ⟨_, by simp -implicitDefEqProofs only [x229, d_seq, go_sem, Nat.reduceEqDiff, reduceIte]; exact rfl⟩
def h229 : Sem := p229.1
theorem e229 : den x229.body = h229 := p229.2
def p101 : { h : Sem // den x101.body = h } := ⟨_, by simp -implicitDefEqProofs only [x101, d_seq, go_sem, Nat.reduceEqDiff, reduceIte]; exact rfl⟩
def h101 : Sem := p101.1
theorem e101 : den x101.body = h101 := p101.2
def p105 : { h : Sem // den x105.body = h } := ⟨_, by simp -implicitDefEqProofs only [x105, d_seq, go_sem, Nat.reduceEqDiff, reduceIte]; exact rfl⟩
def h105 : Sem := p105.1
theorem e105 : den x105.body = h105 := p105.2
def p46 : { h : Sem // den x46.body = h } := ⟨_, by simp -implicitDefEqProofs only [x46, d_seq, go_sem, Nat.reduceEqDiff, reduceIte]; exact rfl⟩
def h46 : Sem := p46.1
theorem e46 : den x46.body = h46 := p46.2
def p215 : { h : Sem // den x215.body = h } := ⟨_, by simp -implicitDefEqProofs only [x215, d_seq, go_sem, Nat.reduceEqDiff, reduceIte]; exact rfl⟩
def h215 : Sem := p215.1
theorem e215 : den x215.body = h215 := p215.2
def p110 : { h : Sem // den x110.body = h } := ⟨_, by simp -implicitDefEqProofs only [x110, d_seq, go_sem, Nat.reduceEqDiff, reduceIte]; exact rfl⟩
def h110 : Sem := p110.1
theorem e110 : den x110.body = h110 := p110.2
def p226 : { h : Sem // den x226.body = h } := ⟨_, by simp -implicitDefEqProofs only [x226, d_seq, go_sem, Nat.reduceEqDiff, reduceIte]; exact rfl⟩
def h226 : Sem := p226.1
theorem e226 : den x226.body = h226 := p226.2
def p36 : { h : Sem // den x36.body = h } := ⟨_, by simp -implicitDefEqProofs only [x36, d_seq, go_sem, Nat.reduceEqDiff, reduceIte]; exact rfl⟩
def h36 : Sem := p36.1
theorem e36 : den x36.body = h36 := p36.2
def p91 : { h : Sem // den x91.body = h } := ⟨_, by simp -implicitDefEqProofs only [x91, d_seq, go_sem, Nat.reduceEqDiff, reduceIte]; exact rfl⟩
def h91 : Sem := p91.1
theorem e91 : den x91.body = h91 := p91.2
def p102 : { h : Sem // den x102.body = h } := ⟨_, by simp -implicitDefEqProofs only [x102, d_seq, go_sem, Nat.reduceEqDiff, reduceIte]; exact rfl⟩
def h102 : Sem := p102.1
theorem e102 : den x102.body = h102 := p102.2
def p51 : { h : Sem // den x51.body = h } := ⟨_, by simp -implicitDefEqProofs only [x51, d_seq, go_sem, Nat.reduceEqDiff, reduceIte]; exact rfl⟩
def h51 : Sem := p51.1
theorem e51 : den x51.body = h51 := p51.2
def p94 : { h : Sem // den x94.body = h } := ⟨_, by simp -implicitDefEqProofs only [x94, d_seq, go_sem, Nat.reduceEqDiff, reduceIte]; exact rfl⟩
def h94 : Sem := p94.1
theorem e94 : den x94.body = h94 := p94.2
def p116 : { h : Sem // den x116.body = h } := ⟨_, by simp -implicitDefEqProofs only [x116, d_seq, go_sem, Nat.reduceEqDiff, reduceIte]; exact rfl⟩
def h116 : Sem := p116.1
theorem e116 : den x116.body = h116 := p116.2
end
end Go.Ab
