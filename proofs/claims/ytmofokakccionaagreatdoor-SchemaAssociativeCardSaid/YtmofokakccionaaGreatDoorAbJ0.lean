/- The code as functions, computed. Printed by mkco2.py. -/
import Derived.Test.YtmofokakccionaaGreatDoorAbC0
import Derived.Test.YtmofokakccionaaGreatDoorAbC1
import Derived.Test.YtmofokakccionaaGreatDoorAbC2
import Derived.Test.YtmofokakccionaaGreatDoorAbC3
import Derived.Test.YtmofokakccionaaGreatDoorAm4
set_option linter.all false
namespace Go.Ab
set_option maxRecDepth 100000
set_option maxHeartbeats 4000000
noncomputable section
def p235 : { h : Sem // den x235.body = h } := ⟨_, by simp -implicitDefEqProofs only [x235, d_seq, go_sem, Nat.reduceEqDiff, reduceIte]; exact rfl⟩
def h235 : Sem := p235.1
theorem e235 : den x235.body = h235 := p235.2
def p178 : { h : Sem // den x178.body = h } := ⟨_, by simp -implicitDefEqProofs only [x178, d_seq, go_sem, Nat.reduceEqDiff, reduceIte]; exact rfl⟩
def h178 : Sem := p178.1
theorem e178 : den x178.body = h178 := p178.2
def p142 : { h : Sem // den x142.body = h } := ⟨_, by simp -implicitDefEqProofs only [x142, d_seq, go_sem, Nat.reduceEqDiff, reduceIte]; exact rfl⟩
def h142 : Sem := p142.1
theorem e142 : den x142.body = h142 := p142.2
def p78 : { h : Sem // den x78.body = h } := ⟨_, by simp -implicitDefEqProofs only [x78, d_seq, go_sem, Nat.reduceEqDiff, reduceIte]; exact rfl⟩
def h78 : Sem := p78.1
theorem e78 : den x78.body = h78 := p78.2
def p125 : { h : Sem // den x125.body = h } := ⟨_, by simp -implicitDefEqProofs only [x125, d_seq, go_sem, Nat.reduceEqDiff, reduceIte]; exact rfl⟩
def h125 : Sem := p125.1
theorem e125 : den x125.body = h125 := p125.2
def p145 : { h : Sem // den x145.body = h } := ⟨_, by simp -implicitDefEqProofs only [x145, d_seq, go_sem, Nat.reduceEqDiff, reduceIte]; exact rfl⟩
def h145 : Sem := p145.1
theorem e145 : den x145.body = h145 := p145.2
def p18 : { h : Sem // den x18.body = h } := ⟨_, by simp -implicitDefEqProofs only [x18, d_seq, go_sem, Nat.reduceEqDiff, reduceIte]; exact rfl⟩
def h18 : Sem := p18.1
theorem e18 : den x18.body = h18 := p18.2
def p79 : { h : Sem // den x79.body = h } := ⟨_, by simp -implicitDefEqProofs only [x79, d_seq, go_sem, Nat.reduceEqDiff, reduceIte]; exact rfl⟩
def h79 : Sem := p79.1
theorem e79 : den x79.body = h79 := p79.2
def p109 : { h : Sem // den x109.body = h } := ⟨_, by simp -implicitDefEqProofs only [x109, d_seq, go_sem, Nat.reduceEqDiff, reduceIte]; exact rfl⟩
def h109 : Sem := p109.1
theorem e109 : den x109.body = h109 := p109.2
def p19 : { h : Sem // den x19.body = h } := ⟨_, by simp -implicitDefEqProofs only [x19, d_seq, go_sem, Nat.reduceEqDiff, reduceIte]; exact rfl⟩
def h19 : Sem := p19.1
theorem e19 : den x19.body = h19 := p19.2
def p53 : { h : Sem // den x53.body = h } := ⟨_, by simp -implicitDefEqProofs only [x53, d_seq, go_sem, Nat.reduceEqDiff, reduceIte]; exact rfl⟩
def h53 : Sem := p53.1
theorem e53 : den x53.body = h53 := p53.2
def p118 : { h : Sem // den x118.body = h } := ⟨_, by simp -implicitDefEqProofs only [x118, d_seq, go_sem, Nat.reduceEqDiff, reduceIte]; exact rfl⟩
def h118 : Sem := p118.1
theorem e118 : den x118.body = h118 := p118.2
def p197 : { h : Sem // den x197.body = h } := ⟨_, by simp -implicitDefEqProofs only [x197, d_seq, go_sem, Nat.reduceEqDiff, reduceIte]; exact rfl⟩
def h197 : Sem := p197.1
theorem e197 : den x197.body = h197 := p197.2
def p186 : { h : Sem // den x186.body = h } := ⟨_, by simp -implicitDefEqProofs only [x186, d_seq, go_sem, Nat.reduceEqDiff, reduceIte]; exact rfl⟩
def h186 : Sem := p186.1
theorem e186 : den x186.body = h186 := p186.2
def p71 : { h : Sem // den x71.body = h } := ⟨_, by simp -implicitDefEqProofs only [x71, d_seq, go_sem, Nat.reduceEqDiff, reduceIte]; exact rfl⟩
def h71 : Sem := p71.1
theorem e71 : den x71.body = h71 := p71.2
def p200 : { h : Sem // den x200.body = h } := ⟨_, by simp -implicitDefEqProofs only [x200, d_seq, go_sem, Nat.reduceEqDiff, reduceIte]; exact rfl⟩
def h200 : Sem := p200.1
theorem e200 : den x200.body = h200 := p200.2
def p144 : { h : Sem // den x144.body = h } := ⟨_, by simp -implicitDefEqProofs only [x144, d_seq, go_sem, Nat.reduceEqDiff, reduceIte]; exact rfl⟩
def h144 : Sem := p144.1
theorem e144 : den x144.body = h144 := p144.2
def p220 : { h : Sem // den x220.body = h } := ⟨_, by simp -implicitDefEqProofs only [x220, d_seq, go_sem, Nat.reduceEqDiff, reduceIte]; exact rfl⟩
def h220 : Sem := p220.1
theorem e220 : den x220.body = h220 := p220.2
def p45 : { h : Sem // den x45.body = h } := ⟨_, by simp -implicitDefEqProofs only [x45, d_seq, go_sem, Nat.reduceEqDiff, reduceIte]; exact rfl⟩
def h45 : Sem := p45.1
theorem e45 : den x45.body = h45 := p45.2
def p147 : { h : Sem // den x147.body = h } := ⟨_, by simp -implicitDefEqProofs only [x147, d_seq, go_sem, Nat.reduceEqDiff, reduceIte]; exact rfl⟩
def h147 : Sem := p147.1
theorem e147 : den x147.body = h147 := p147.2
def p101 : { h : Sem // den x101.body = h } := ⟨_, by simp -implicitDefEqProofs only [x101, d_seq, go_sem, Nat.reduceEqDiff, reduceIte]; exact rfl⟩
def h101 : Sem := p101.1
theorem e101 : den x101.body = h101 := p101.2
def p80 : { h : Sem // den x80.body = h } := ⟨_, by simp -implicitDefEqProofs only [x80, d_seq, go_sem, Nat.reduceEqDiff, reduceIte]; exact rfl⟩
def h80 : Sem := p80.1
theorem e80 : den x80.body = h80 := p80.2
def p172 : { h : Sem // den x172.body = h } := ⟨_, by simp -implicitDefEqProofs only [x172, d_seq, go_sem, Nat.reduceEqDiff, reduceIte]; exact rfl⟩
def h172 : Sem := p172.1
theorem e172 : den x172.body = h172 := p172.2
def p206 : { h : Sem // den x206.body = h } := ⟨_, by simp -implicitDefEqProofs only [x206, d_seq, go_sem, Nat.reduceEqDiff, reduceIte]; exact rfl⟩
def h206 : Sem := p206.1
theorem e206 : den x206.body = h206 := p206.2
def p110 : { h : Sem // den x110.body = h } := ⟨_, by simp -implicitDefEqProofs only [x110, d_seq, go_sem, Nat.reduceEqDiff, reduceIte]; exact rfl⟩
def h110 : Sem := p110.1
theorem e110 : den x110.body = h110 := p110.2
def p226 : { h : Sem // den x226.body = h } := ⟨_, by simp -implicitDefEqProofs only [x226, d_seq, go_sem, Nat.reduceEqDiff, reduceIte]; exact rfl⟩
def h226 : Sem := p226.1
theorem e226 : den x226.body = h226 := p226.2
def p36 : { h : Sem // den x36.body = h } := ⟨_, by simp -implicitDefEqProofs only [x36, d_seq, go_sem, Nat.reduceEqDiff, reduceIte]; exact rfl⟩
def h36 : Sem := p36.1
theorem e36 : den x36.body = h36 := p36.2
def p124 : { h : Sem // den x124.body = h } := ⟨_, by simp -implicitDefEqProofs only [x124, d_seq, go_sem, Nat.reduceEqDiff, reduceIte]; exact rfl⟩
def h124 : Sem := p124.1
theorem e124 : den x124.body = h124 := p124.2
def p219 : { h : Sem // den x219.body = h } := ⟨_, by simp -implicitDefEqProofs only [x219, d_seq, go_sem, Nat.reduceEqDiff, reduceIte]; exact rfl⟩
def h219 : Sem := p219.1
theorem e219 : den x219.body = h219 := p219.2
def p51 : { h : Sem // den x51.body = h } := ⟨_, by simp -implicitDefEqProofs only [x51, d_seq, go_sem, Nat.reduceEqDiff, reduceIte]; exact rfl⟩
def h51 : Sem := p51.1
theorem e51 : den x51.body = h51 := p51.2
def p141 : { h : Sem // den x141.body = h } := ⟨_, by simp -implicitDefEqProofs only [x141, d_seq, go_sem, Nat.reduceEqDiff, reduceIte]; exact rfl⟩
def h141 : Sem := p141.1
theorem e141 : den x141.body = h141 := p141.2
end
end Go.Ab
