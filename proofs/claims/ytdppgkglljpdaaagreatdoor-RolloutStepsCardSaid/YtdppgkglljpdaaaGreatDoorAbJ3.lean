/- The code as functions, computed. Printed by mkco2.py. -/
import Derived.Test.YtdppgkglljpdaaaGreatDoorAbC0
import Derived.Test.YtdppgkglljpdaaaGreatDoorAbC1
import Derived.Test.YtdppgkglljpdaaaGreatDoorAbC2
import Derived.Test.YtdppgkglljpdaaaGreatDoorAbC3
import Derived.Test.YtdppgkglljpdaaaGreatDoorAm4
set_option linter.all false
namespace Go.Ab
set_option maxRecDepth 100000
set_option maxHeartbeats 4000000
noncomputable section
def p146 : { h : Sem // den x146.body = h } := ⟨_, by simp -implicitDefEqProofs only [x146, d_seq, go_sem, Nat.reduceEqDiff, reduceIte]; exact rfl⟩
def h146 : Sem := p146.1
theorem e146 : den x146.body = h146 := p146.2
def p104 : { h : Sem // den x104.body = h } := ⟨_, by simp -implicitDefEqProofs only [x104, d_seq, go_sem, Nat.reduceEqDiff, reduceIte]; exact rfl⟩
def h104 : Sem := p104.1
theorem e104 : den x104.body = h104 := p104.2
def p176 : { h : Sem // den x176.body = h } := ⟨_, by simp -implicitDefEqProofs only [x176, d_seq, go_sem, Nat.reduceEqDiff, reduceIte]; exact rfl⟩
def h176 : Sem := p176.1
theorem e176 : den x176.body = h176 := p176.2
def p81 : { h : Sem // den x81.body = h } := ⟨_, by simp -implicitDefEqProofs only [x81, d_seq, go_sem, Nat.reduceEqDiff, reduceIte]; exact rfl⟩
def h81 : Sem := p81.1
theorem e81 : den x81.body = h81 := p81.2
def p126 : { h : Sem // den x126.body = h } := ⟨_, by simp -implicitDefEqProofs only [x126, d_seq, go_sem, Nat.reduceEqDiff, reduceIte]; exact rfl⟩
def h126 : Sem := p126.1
theorem e126 : den x126.body = h126 := p126.2
def p145 : { h : Sem // den x145.body = h } := ⟨_, by simp -implicitDefEqProofs only [x145, d_seq, go_sem, Nat.reduceEqDiff, reduceIte]; exact rfl⟩
def h145 : Sem := p145.1
theorem e145 : den x145.body = h145 := p145.2
def p269 : { h : Sem // den x269.body = h } := ⟨_, by simp -implicitDefEqProofs only [x269, d_seq, go_sem, Nat.reduceEqDiff, reduceIte]; exact rfl⟩
def h269 : Sem := p269.1
theorem e269 : den x269.body = h269 := p269.2
def p135 : { h : Sem // den x135.body = h } := ⟨_, by simp -implicitDefEqProofs only [x135, d_seq, go_sem, Nat.reduceEqDiff, reduceIte]; exact rfl⟩
def h135 : Sem := p135.1
theorem e135 : den x135.body = h135 := p135.2
def p198 : { h : Sem // den x198.body = h } := ⟨_, by simp -implicitDefEqProofs only [x198, d_seq, go_sem, Nat.reduceEqDiff, reduceIte]; exact rfl⟩
def h198 : Sem := p198.1
theorem e198 : den x198.body = h198 := p198.2
def p140 : { h : Sem // den x140.body = h } := ⟨_, by simp -implicitDefEqProofs only [x140, d_seq, go_sem, Nat.reduceEqDiff, reduceIte]; exact rfl⟩
def h140 : Sem := p140.1
theorem e140 : den x140.body = h140 := p140.2
def p144 : { h : Sem // den x144.body = h } := ⟨_, by simp -implicitDefEqProofs only [x144, d_seq, go_sem, Nat.reduceEqDiff, reduceIte]; exact rfl⟩
def h144 : Sem := p144.1
theorem e144 : den x144.body = h144 := p144.2
def p252 : { h : Sem // den x252.body = h } := ⟨_, by simp -implicitDefEqProofs only [x252, d_seq, go_sem, Nat.reduceEqDiff, reduceIte]; exact rfl⟩
def h252 : Sem := p252.1
theorem e252 : den x252.body = h252 := p252.2
def p36 : { h : Sem // den x36.body = h } := ⟨_, by simp -implicitDefEqProofs only [x36, d_seq, go_sem, Nat.reduceEqDiff, reduceIte]; exact rfl⟩
def h36 : Sem := p36.1
theorem e36 : den x36.body = h36 := p36.2
def p27 : { h : Sem // den x27.body = h } := ⟨_, by simp -implicitDefEqProofs only [x27, d_seq, go_sem, Nat.reduceEqDiff, reduceIte]; exact rfl⟩
def h27 : Sem := p27.1
theorem e27 : den x27.body = h27 := p27.2
def p264 : { h : Sem // den x264.body = h } := ⟨_, by simp -implicitDefEqProofs only [x264, d_seq, go_sem, Nat.reduceEqDiff, reduceIte]; exact rfl⟩
def h264 : Sem := p264.1
theorem e264 : den x264.body = h264 := p264.2
def p258 : { h : Sem // den x258.body = h } := ⟨_, by simp -implicitDefEqProofs only [x258, d_seq, go_sem, Nat.reduceEqDiff, reduceIte]; exact rfl⟩
def h258 : Sem := p258.1
theorem e258 : den x258.body = h258 := p258.2
def p254 : { h : Sem // den x254.body = h } := ⟨_, by simp -implicitDefEqProofs only [x254, d_seq, go_sem, Nat.reduceEqDiff, reduceIte]; exact rfl⟩
def h254 : Sem := p254.1
theorem e254 : den x254.body = h254 := p254.2
def p82 : { h : Sem // den x82.body = h } := ⟨_, by simp -implicitDefEqProofs only [x82, d_seq, go_sem, Nat.reduceEqDiff, reduceIte]; exact rfl⟩
def h82 : Sem := p82.1
theorem e82 : den x82.body = h82 := p82.2
def p170 : { h : Sem // den x170.body = h } := ⟨_, by simp -implicitDefEqProofs only [x170, d_seq, go_sem, Nat.reduceEqDiff, reduceIte]; exact rfl⟩
def h170 : Sem := p170.1
theorem e170 : den x170.body = h170 := p170.2
def p114 : { h : Sem // den x114.body = h } := ⟨_, by simp -implicitDefEqProofs only [x114, d_seq, go_sem, Nat.reduceEqDiff, reduceIte]; exact rfl⟩
def h114 : Sem := p114.1
theorem e114 : den x114.body = h114 := p114.2
def p83 : { h : Sem // den x83.body = h } := ⟨_, by simp -implicitDefEqProofs only [x83, d_seq, go_sem, Nat.reduceEqDiff, reduceIte]; exact rfl⟩
def h83 : Sem := p83.1
theorem e83 : den x83.body = h83 := p83.2
def p226 : { h : Sem // den x226.body = h } := ⟨_, by simp -implicitDefEqProofs only [x226, d_seq, go_sem, Nat.reduceEqDiff, reduceIte]; exact rfl⟩
def h226 : Sem := p226.1
theorem e226 : den x226.body = h226 := p226.2
def p230 : { h : Sem // den x230.body = h } := ⟨_, by simp -implicitDefEqProofs only [x230, d_seq, go_sem, Nat.reduceEqDiff, reduceIte]; exact rfl⟩
def h230 : Sem := p230.1
theorem e230 : den x230.body = h230 := p230.2
def p212 : { h : Sem // den x212.body = h } := ⟨_, by simp -implicitDefEqProofs only [x212, d_seq, go_sem, Nat.reduceEqDiff, reduceIte]; exact rfl⟩
def h212 : Sem := p212.1
theorem e212 : den x212.body = h212 := p212.2
def p169 : { h : Sem // den x169.body = h } := ⟨_, by simp -implicitDefEqProofs only [x169, d_seq, go_sem, Nat.reduceEqDiff, reduceIte]; exact rfl⟩
def h169 : Sem := p169.1
theorem e169 : den x169.body = h169 := p169.2
def p150 : { h : Sem // den x150.body = h } := ⟨_, by simp -implicitDefEqProofs only [x150, d_seq, go_sem, Nat.reduceEqDiff, reduceIte]; exact rfl⟩
def h150 : Sem := p150.1
theorem e150 : den x150.body = h150 := p150.2
def p231 : { h : Sem // den x231.body = h } := ⟨_, by simp -implicitDefEqProofs only [x231, d_seq, go_sem, Nat.reduceEqDiff, reduceIte]; exact rfl⟩
def h231 : Sem := p231.1
theorem e231 : den x231.body = h231 := p231.2
def p51 : { h : Sem // den x51.body = h } := ⟨_, by simp -implicitDefEqProofs only [x51, d_seq, go_sem, Nat.reduceEqDiff, reduceIte]; exact rfl⟩
def h51 : Sem := p51.1
theorem e51 : den x51.body = h51 := p51.2
def p237 : { h : Sem // den x237.body = h } := ⟨_, by simp -implicitDefEqProofs only [x237, d_seq, go_sem, Nat.reduceEqDiff, reduceIte]; exact rfl⟩
def h237 : Sem := p237.1
theorem e237 : den x237.body = h237 := p237.2
def p233 : { h : Sem // den x233.body = h } := ⟨_, by simp -implicitDefEqProofs only [x233, d_seq, go_sem, Nat.reduceEqDiff, reduceIte]; exact rfl⟩
def h233 : Sem := p233.1
theorem e233 : den x233.body = h233 := p233.2
def p265 : { h : Sem // den x265.body = h } := ⟨_, by simp -implicitDefEqProofs only [x265, d_seq, go_sem, Nat.reduceEqDiff, reduceIte]; exact rfl⟩
def h265 : Sem := p265.1
theorem e265 : den x265.body = h265 := p265.2
def p228 : { h : Sem // den x228.body = h } := ⟨_, by simp -implicitDefEqProofs only [x228, d_seq, go_sem, Nat.reduceEqDiff, reduceIte]; exact rfl⟩
def h228 : Sem := p228.1
theorem e228 : den x228.body = h228 := p228.2
def p238 : { h : Sem // den x238.body = h } := ⟨_, by simp -implicitDefEqProofs only [x238, d_seq, go_sem, Nat.reduceEqDiff, reduceIte]; exact rfl⟩
def h238 : Sem := p238.1
theorem e238 : den x238.body = h238 := p238.2
def p181 : { h : Sem // den x181.body = h } := ⟨_, by simp -implicitDefEqProofs only [x181, d_seq, go_sem, Nat.reduceEqDiff, reduceIte]; exact rfl⟩
def h181 : Sem := p181.1
theorem e181 : den x181.body = h181 := p181.2
def p128 : { h : Sem // den x128.body = h } := ⟨_, by simp -implicitDefEqProofs only [x128, d_seq, go_sem, Nat.reduceEqDiff, reduceIte]; exact rfl⟩
def h128 : Sem := p128.1
theorem e128 : den x128.body = h128 := p128.2
def p165 : { h : Sem // den x165.body = h } := ⟨_, by simp -implicitDefEqProofs only [x165, d_seq, go_sem, Nat.reduceEqDiff, reduceIte]; exact rfl⟩
def h165 : Sem := p165.1
theorem e165 : den x165.body = h165 := p165.2
def p108 : { h : Sem // den x108.body = h } := ⟨_, by simp -implicitDefEqProofs only [x108, d_seq, go_sem, Nat.reduceEqDiff, reduceIte]; exact rfl⟩
def h108 : Sem := p108.1
theorem e108 : den x108.body = h108 := p108.2
end
end Go.Ab
