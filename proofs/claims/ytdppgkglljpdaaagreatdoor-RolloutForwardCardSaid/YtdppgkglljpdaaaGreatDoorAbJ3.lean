/- The code as functions, computed. Printed by mkco2.py. -/
import Derived.Test.YtdppgkglljpdaaaGreatDoorAbC0
import Derived.Test.YtdppgkglljpdaaaGreatDoorAbC1
import Derived.Test.YtdppgkglljpdaaaGreatDoorAbC2
import Derived.Test.YtdppgkglljpdaaaGreatDoorAbC3
import Derived.Test.YtdppgkglljpdaaaGreatDoorAm4
set_option linter.all false
namespace Go.Ab
set_option maxRecDepth 100000
set_option maxHeartbeats 4000000
noncomputable section
def p146 : { h : Sem // den x146.body = h } := ⟨_, by simp -implicitDefEqProofs only [x146, d_seq, go_sem, Nat.reduceEqDiff, reduceIte]; exact rfl⟩
def h146 : Sem := p146.1
theorem e146 : den x146.body = h146 := p146.2
def p59 : { h : Sem // den x59.body = h } := ⟨_, by simp -implicitDefEqProofs only [x59, d_seq, go_sem, Nat.reduceEqDiff, reduceIte]; exact rfl⟩
def h59 : Sem := p59.1
theorem e59 : den x59.body = h59 := p59.2
def p90 : { h : Sem // den x90.body = h } := ⟨_, by simp -implicitDefEqProofs only [x90, d_seq, go_sem, Nat.reduceEqDiff, reduceIte]; exact rfl⟩
def h90 : Sem := p90.1
theorem e90 : den x90.body = h90 := p90.2
def p204 : { h : Sem // den x204.body = h } := ⟨_, by simp -implicitDefEqProofs only [x204, d_seq, go_sem, Nat.reduceEqDiff, reduceIte]; exact rfl⟩
def h204 : Sem := p204.1
theorem e204 : den x204.body = h204 := p204.2
def p8 : { h : Sem // den x8.body = h } := ⟨_, by simp -implicitDefEqProofs only [x8, d_seq, go_sem, Nat.reduceEqDiff, reduceIte]; exact rfl⟩
def h8 : Sem := p8.1
theorem e8 : den x8.body = h8 := p8.2
def p130 : { h : Sem // den x130.body = h } := ⟨_, by simp -implicitDefEqProofs only [x130, d_seq, go_sem, Nat.reduceEqDiff, reduceIte]; exact rfl⟩
def h130 : Sem := p130.1
theorem e130 : den x130.body = h130 := p130.2
def p126 : { h : Sem // den x126.body = h } := ⟨_, by simp -implicitDefEqProofs only [x126, d_seq, go_sem, Nat.reduceEqDiff, reduceIte]; exact rfl⟩
def h126 : Sem := p126.1
theorem e126 : den x126.body = h126 := p126.2
def p49 : { h : Sem // den x49.body = h } := ⟨_, by simp -implicitDefEqProofs only [x49, d_seq, go_sem, Nat.reduceEqDiff, reduceIte]; exact rfl⟩
def h49 : Sem := p49.1
theorem e49 : den x49.body = h49 := p49.2
def p241 : { h : Sem // den x241.body = h } := ⟨_, by simp -implicitDefEqProofs only [x241, d_seq, go_sem, Nat.reduceEqDiff, reduceIte]; exact rfl⟩
def h241 : Sem := p241.1
theorem e241 : den x241.body = h241 := p241.2
def p53 : { h : Sem // den x53.body = h } := ⟨_, by simp -implicitDefEqProofs only [x53, d_seq, go_sem, Nat.reduceEqDiff, reduceIte]; exact rfl⟩
def h53 : Sem := p53.1
theorem e53 : den x53.body = h53 := p53.2
def p207 : { h : Sem // den x207.body = h } := ⟨_, by simp -implicitDefEqProofs only [x207, d_seq, go_sem, Nat.reduceEqDiff, reduceIte]; exact rfl⟩
def h207 : Sem := p207.1
theorem e207 : den x207.body = h207 := p207.2
def p87 : { h : Sem // den x87.body = h } := ⟨_, by simp -implicitDefEqProofs only [x87, d_seq, go_sem, Nat.reduceEqDiff, reduceIte]; exact rfl⟩
def h87 : Sem := p87.1
theorem e87 : den x87.body = h87 := p87.2
def p252 : { h : Sem // den x252.body = h } := ⟨_, by simp -implicitDefEqProofs only [x252, d_seq, go_sem, Nat.reduceEqDiff, reduceIte]; exact rfl⟩
def h252 : Sem := p252.1
theorem e252 : den x252.body = h252 := p252.2
def p84 : { h : Sem // den x84.body = h } := ⟨_, by simp -implicitDefEqProofs only [x84, d_seq, go_sem, Nat.reduceEqDiff, reduceIte]; exact rfl⟩
def h84 : Sem := p84.1
theorem e84 : den x84.body = h84 := p84.2
def p36 : { h : Sem // den x36.body = h } := ⟨_, by simp -implicitDefEqProofs only [x36, d_seq, go_sem, Nat.reduceEqDiff, reduceIte]; exact rfl⟩
def h36 : Sem := p36.1
theorem e36 : den x36.body = h36 := p36.2
def p264 : { h : Sem // den x264.body = h } := ⟨_, by simp -implicitDefEqProofs only [x264, d_seq, go_sem, Nat.reduceEqDiff, reduceIte]; exact rfl⟩
def h264 : Sem := p264.1
theorem e264 : den x264.body = h264 := p264.2
def p148 : { h : Sem // den x148.body = h } := ⟨_, by simp -implicitDefEqProofs only [x148, d_seq, go_sem, Nat.reduceEqDiff, reduceIte]; exact rfl⟩
def h148 : Sem := p148.1
theorem e148 : den x148.body = h148 := p148.2
def p262 : { h : Sem // den x262.body = h } := ⟨_, by simp -implicitDefEqProofs only [x262, d_seq, go_sem, Nat.reduceEqDiff, reduceIte]; exact rfl⟩
def h262 : Sem := p262.1
theorem e262 : den x262.body = h262 := p262.2
def p33 : { h : Sem // den x33.body = h } := ⟨_, by simp -implicitDefEqProofs only [x33, d_seq, go_sem, Nat.reduceEqDiff, reduceIte]; exact rfl⟩
def h33 : Sem := p33.1
theorem e33 : den x33.body = h33 := p33.2
def p245 : { h : Sem // den x245.body = h } := ⟨_, by simp -implicitDefEqProofs only [x245, d_seq, go_sem, Nat.reduceEqDiff, reduceIte]; exact rfl⟩
def h245 : Sem := p245.1
theorem e245 : den x245.body = h245 := p245.2
def p267 : { h : Sem // den x267.body = h } := ⟨_, by simp -implicitDefEqProofs only [x267, d_seq, go_sem, Nat.reduceEqDiff, reduceIte]; exact rfl⟩
def h267 : Sem := p267.1
theorem e267 : den x267.body = h267 := p267.2
def p141 : { h : Sem // den x141.body = h } := ⟨_, by simp -implicitDefEqProofs only [x141, d_seq, go_sem, Nat.reduceEqDiff, reduceIte]; exact rfl⟩
def h141 : Sem := p141.1
theorem e141 : den x141.body = h141 := p141.2
def p226 : { h : Sem // den x226.body = h } := ⟨_, by simp -implicitDefEqProofs only [x226, d_seq, go_sem, Nat.reduceEqDiff, reduceIte]; exact rfl⟩
def h226 : Sem := p226.1
theorem e226 : den x226.body = h226 := p226.2
def p37 : { h : Sem // den x37.body = h } := ⟨_, by simp -implicitDefEqProofs only [x37, d_seq, go_sem, Nat.reduceEqDiff, reduceIte]; exact rfl⟩
def h37 : Sem := p37.1
theorem e37 : den x37.body = h37 := p37.2
def p147 : { h : Sem // den x147.body = h } := ⟨_, by simp -implicitDefEqProofs only [x147, d_seq, go_sem, Nat.reduceEqDiff, reduceIte]; exact rfl⟩
def h147 : Sem := p147.1
theorem e147 : den x147.body = h147 := p147.2
def p227 : { h : Sem // den x227.body = h } := ⟨_, by simp -implicitDefEqProofs only [x227, d_seq, go_sem, Nat.reduceEqDiff, reduceIte]; exact rfl⟩
def h227 : Sem := p227.1
theorem e227 : den x227.body = h227 := p227.2
def p174 : { h : Sem // den x174.body = h } := ⟨_, by simp -implicitDefEqProofs only [x174, d_seq, go_sem, Nat.reduceEqDiff, reduceIte]; exact rfl⟩
def h174 : Sem := p174.1
theorem e174 : den x174.body = h174 := p174.2
def p249 : { h : Sem // den x249.body = h } := ⟨_, by simp -implicitDefEqProofs only [x249, d_seq, go_sem, Nat.reduceEqDiff, reduceIte]; exact rfl⟩
def h249 : Sem := p249.1
theorem e249 : den x249.body = h249 := p249.2
def p46 : { h : Sem // den x46.body = h } := ⟨_, by simp -implicitDefEqProofs only [x46, d_seq, go_sem, Nat.reduceEqDiff, reduceIte]; exact rfl⟩
def h46 : Sem := p46.1
theorem e46 : den x46.body = h46 := p46.2
def p117 : { h : Sem // den x117.body = h } := ⟨_, by simp -implicitDefEqProofs only [x117, d_seq, go_sem, Nat.reduceEqDiff, reduceIte]; exact rfl⟩
def h117 : Sem := p117.1
theorem e117 : den x117.body = h117 := p117.2
def p237 : { h : Sem // den x237.body = h } := ⟨_, by simp -implicitDefEqProofs only [x237, d_seq, go_sem, Nat.reduceEqDiff, reduceIte]; exact rfl⟩
def h237 : Sem := p237.1
theorem e237 : den x237.body = h237 := p237.2
def p233 : { h : Sem // den x233.body = h } := ⟨_, by simp -implicitDefEqProofs only [x233, d_seq, go_sem, Nat.reduceEqDiff, reduceIte]; exact rfl⟩
def h233 : Sem := p233.1
theorem e233 : den x233.body = h233 := p233.2
def p134 : { h : Sem // den x134.body = h } := ⟨_, by simp -implicitDefEqProofs only [x134, d_seq, go_sem, Nat.reduceEqDiff, reduceIte]; exact rfl⟩
def h134 : Sem := p134.1
theorem e134 : den x134.body = h134 := p134.2
def p91 : { h : Sem // den x91.body = h } := ⟨_, by simp -implicitDefEqProofs only [x91, d_seq, go_sem, Nat.reduceEqDiff, reduceIte]; exact rfl⟩
def h91 : Sem := p91.1
theorem e91 : den x91.body = h91 := p91.2
def p238 : { h : Sem // den x238.body = h } := ⟨_, by simp -implicitDefEqProofs only [x238, d_seq, go_sem, Nat.reduceEqDiff, reduceIte]; exact rfl⟩
def h238 : Sem := p238.1
theorem e238 : den x238.body = h238 := p238.2
def p152 : { h : Sem // den x152.body = h } := ⟨_, by simp -implicitDefEqProofs only [x152, d_seq, go_sem, Nat.reduceEqDiff, reduceIte]; exact rfl⟩
def h152 : Sem := p152.1
theorem e152 : den x152.body = h152 := p152.2
def p111 : { h : Sem // den x111.body = h } := ⟨_, by simp -implicitDefEqProofs only [x111, d_seq, go_sem, Nat.reduceEqDiff, reduceIte]; exact rfl⟩
def h111 : Sem := p111.1
theorem e111 : den x111.body = h111 := p111.2
def p200 : { h : Sem // den x200.body = h } := ⟨_, by simp -implicitDefEqProofs only [x200, d_seq, go_sem, Nat.reduceEqDiff, reduceIte]; exact rfl⟩
def h200 : Sem := p200.1
theorem e200 : den x200.body = h200 := p200.2
def p165 : { h : Sem // den x165.body = h } := ⟨_, by simp -implicitDefEqProofs only [x165, d_seq, go_sem, Nat.reduceEqDiff, reduceIte]; exact rfl⟩
def h165 : Sem := p165.1
theorem e165 : den x165.body = h165 := p165.2
def p175 : { h : Sem // den x175.body = h } := ⟨_, by simp -implicitDefEqProofs only [x175, d_seq, go_sem, Nat.reduceEqDiff, reduceIte]; exact rfl⟩
def h175 : Sem := p175.1
theorem e175 : den x175.body = h175 := p175.2
def p142 : { h : Sem // den x142.body = h } := ⟨_, by simp -implicitDefEqProofs only [x142, d_seq, go_sem, Nat.reduceEqDiff, reduceIte]; exact rfl⟩
def h142 : Sem := p142.1
theorem e142 : den x142.body = h142 := p142.2
end
end Go.Ab
