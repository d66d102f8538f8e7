/- The code as functions, computed. Printed by mkco2.py. -/
import Derived.Test.YtmofokakccionaaGreatDoorAbC0
import Derived.Test.YtmofokakccionaaGreatDoorAbC1
import Derived.Test.YtmofokakccionaaGreatDoorAbC2
import Derived.Test.YtmofokakccionaaGreatDoorAbC3
import Derived.Test.YtmofokakccionaaGreatDoorAm4
set_option linter.all false
namespace Go.Ab
set_option maxRecDepth 100000
set_option maxHeartbeats 4000000
noncomputable section
def p120 : { h : Sem // den x120.body = h } := ⟨_, by simp -implicitDefEqProofs only [x120, d_seq, go_sem, Nat.reduceEqDiff, reduceIte]; exact rfl⟩
def h120 : Sem := p120.1
theorem e120 : den x120.body = h120 := p120.2
def p9 : { h : Sem // den x9.body = h } := ⟨_, by simp -implicitDefEqProofs only [x9, d_seq, go_sem, Nat.reduceEqDiff, reduceIte]; exact rfl⟩
def h9 : Sem := p9.1
theorem e9 : den x9.body = h9 := p9.2
def p177 : { h : Sem // den x177.body = h } := ⟨_, by simp -implicitDefEqProofs only [x177, d_seq, go_sem, Nat.reduceEqDiff, reduceIte]; exact rfl⟩
def h177 : Sem := p177.1
theorem e177 : den x177.body = h177 := p177.2
def p33 : { h : Sem // den x33.body = h } := ⟨_, by simp -implicitDefEqProofs only [x33, d_seq, go_sem, Nat.reduceEqDiff, reduceIte]; exact rfl⟩
def h33 : Sem := p33.1
theorem e33 : den x33.body = h33 := p33.2
def p78 : { h : Sem // den x78.body = h } := ⟨_, by simp -implicitDefEqProofs only [x78, d_seq, go_sem, Nat.reduceEqDiff, reduceIte]; exact rfl⟩
def h78 : Sem := p78.1
theorem e78 : den x78.body = h78 := p78.2
def p35 : { h : Sem // den x35.body = h } := ⟨_, by simp -implicitDefEqProofs only [x35, d_seq, go_sem, Nat.reduceEqDiff, reduceIte]; exact rfl⟩
def h35 : Sem := p35.1
theorem e35 : den x35.body = h35 := p35.2
def p221 : { h : Sem // den x221.body = h } := ⟨_, by simp -implicitDefEqProofs only [x221, d_seq, go_sem, Nat.reduceEqDiff, reduceIte]; exact rfl⟩
def h221 : Sem := p221.1
theorem e221 : den x221.body = h221 := p221.2
def p119 : { h : Sem // den x119.body = h } := ⟨_, by simp -implicitDefEqProofs only [x119, d_seq, go_sem, Nat.reduceEqDiff, reduceIte]; exact rfl⟩
def h119 : Sem := p119.1
theorem e119 : den x119.body = h119 := p119.2
def p216 : { h : Sem // den x216.body = h } := ⟨_, by simp -implicitDefEqProofs only [x216, d_seq, go_sem, Nat.reduceEqDiff, reduceIte]; exact rfl⟩
def h216 : Sem := p216.1
theorem e216 : den x216.body = h216 := p216.2
def p173 : { h : Sem // den x173.body = h } := ⟨_, by simp -implicitDefEqProofs only [x173, d_seq, go_sem, Nat.reduceEqDiff, reduceIte]; exact rfl⟩
def h173 : Sem := p173.1
theorem e173 : den x173.body = h173 := p173.2
def p227 : { h : Sem // den x227.body = h } := ⟨_, by simp -implicitDefEqProofs only [x227, d_seq, go_sem, Nat.reduceEqDiff, reduceIte]; exact rfl⟩
def h227 : Sem := p227.1
theorem e227 : den x227.body = h227 := p227.2
def p114 : { h : Sem // den x114.body = h } := ⟨_, by simp -implicitDefEqProofs only [x114, d_seq, go_sem, Nat.reduceEqDiff, reduceIte]; exact rfl⟩
def h114 : Sem := p114.1
theorem e114 : den x114.body = h114 := p114.2
def p68 : { h : Sem // den x68.body = h } := ⟨_, by simp -implicitDefEqProofs only [x68, d_seq, go_sem, Nat.reduceEqDiff, reduceIte]; exact rfl⟩
def h68 : Sem := p68.1
theorem e68 : den x68.body = h68 := p68.2
def p152 : { h : Sem // den x152.body = h } := ⟨_, by simp -implicitDefEqProofs only [x152, d_seq, go_sem, Nat.reduceEqDiff, reduceIte]; exact rfl⟩
def h152 : Sem := p152.1
theorem e152 : den x152.body = h152 := p152.2
def p89 : { h : Sem // den x89.body = h } := ⟨_, by simp -implicitDefEqProofs only [x89, d_seq, go_sem, Nat.reduceEqDiff, reduceIte]; exact rfl⟩
def h89 : Sem := p89.1
theorem e89 : den x89.body = h89 := p89.2
def p228 : { h : Sem // den x228.body = h } := ⟨_, by simp -implicitDefEqProofs only [x228, d_seq, go_sem, Nat.reduceEqDiff, reduceIte]; exact rfl⟩
def h228 : Sem := p228.1
theorem e228 : den x228.body = h228 := p228.2
def p71 : { h : Sem // den x71.body = h } := ⟨_, by simp -implicitDefEqProofs only [x71, d_seq, go_sem, Nat.reduceEqDiff, reduceIte]; exact rfl⟩
def h71 : Sem := p71.1
theorem e71 : den x71.body = h71 := p71.2
def p117 : { h : Sem // den x117.body = h } := ⟨_, by simp -implicitDefEqProofs only [x117, d_seq, go_sem, Nat.reduceEqDiff, reduceIte]; exact rfl⟩
def h117 : Sem := p117.1
theorem e117 : den x117.body = h117 := p117.2
def p54 : { h : Sem // den x54.body = h } := ⟨_, by simp -implicitDefEqProofs only [x54, d_seq, go_sem, Nat.reduceEqDiff, reduceIte]; exact rfl⟩
def h54 : Sem := p54.1
theorem e54 : den x54.body = h54 := p54.2
def p45 : { h : Sem // den x45.body = h } := ⟨_, by simp -implicitDefEqProofs only [x45, d_seq, go_sem, Nat.reduceEqDiff, reduceIte]; exact rfl⟩
def h45 : Sem := p45.1
theorem e45 : den x45.body = h45 := p45.2
def p207 : { h : Sem // den x207.body = h } := ⟨_, by simp -implicitDefEqProofs only [x207, d_seq, go_sem, Nat.reduceEqDiff, reduceIte]; exact rfl⟩
def h207 : Sem := p207.1
theorem e207 : den x207.body = h207 := p207.2
def p205 : { h : Sem // den x205.body = h } := ⟨_, by simp -implicitDefEqProofs only [x205, d_seq, go_sem, Nat.reduceEqDiff, reduceIte]; exact rfl⟩
def h205 : Sem := p205.1
theorem e205 : den x205.body = h205 := p205.2
def p82 : { h : Sem // den x82.body = h } := ⟨_, by simp -implicitDefEqProofs only [x82, d_seq, go_sem, Nat.reduceEqDiff, reduceIte]; exact rfl⟩
def h82 : Sem := p82.1
theorem e82 : den x82.body = h82 := p82.2
def p202 : { h : Sem // den x202.body = h } := ⟨_, by simp -implicitDefEqProofs only [x202, d_seq, go_sem, Nat.reduceEqDiff, reduceIte]; exact rfl⟩
def h202 : Sem := p202.1
theorem e202 : den x202.body = h202 := p202.2
def p172 : { h : Sem // den x172.body = h } := ⟨_, by simp -implicitDefEqProofs only [x172, d_seq, go_sem, Nat.reduceEqDiff, reduceIte]; exact rfl⟩
def h172 : Sem := p172.1
theorem e172 : den x172.body = h172 := p172.2
def p195 : { h : Sem // den x195.body = h } := ⟨_, by simp -implicitDefEqProofs only [x195, d_seq, go_sem, Nat.reduceEqDiff, reduceIte]; exact rfl⟩
def h195 : Sem := p195.1
theorem e195 : den x195.body = h195 := p195.2
def p48 : { h : Sem // den x48.body = h } := ⟨_, by simp -implicitDefEqProofs only [x48, d_seq, go_sem, Nat.reduceEqDiff, reduceIte]; exact rfl⟩
def h48 : Sem := p48.1
theorem e48 : den x48.body = h48 := p48.2
def p110 : { h : Sem // den x110.body = h } := ⟨_, by simp -implicitDefEqProofs only [x110, d_seq, go_sem, Nat.reduceEqDiff, reduceIte]; exact rfl⟩
def h110 : Sem := p110.1
theorem e110 : den x110.body = h110 := p110.2
def p226 : { h : Sem // den x226.body = h } := ⟨_, by simp -implicitDefEqProofs only [x226, d_seq, go_sem, Nat.reduceEqDiff, reduceIte]; exact rfl⟩
def h226 : Sem := p226.1
theorem e226 : den x226.body = h226 := p226.2
def p36 : { h : Sem // den x36.body = h } := ⟨_, by simp -implicitDefEqProofs only [x36, d_seq, go_sem, Nat.reduceEqDiff, reduceIte]; exact rfl⟩
def h36 : Sem := p36.1
theorem e36 : den x36.body = h36 := p36.2
def p213 : { h : Sem // den x213.body = h } := ⟨_, by simp -implicitDefEqProofs only [x213, d_seq, go_sem, Nat.reduceEqDiff, reduceIte]; exact rfl⟩
def h213 : Sem := p213.1
theorem e213 : den x213.body = h213 := p213.2
def p100 : { h : Sem // den x100.body = h } := ⟨_, by simp -implicitDefEqProofs only [x100, d_seq, go_sem, Nat.reduceEqDiff, reduceIte]; exact rfl⟩
def h100 : Sem := p100.1
theorem e100 : den x100.body = h100 := p100.2
def p175 : { h : Sem // den x175.body = h } := ⟨_, by simp -implicitDefEqProofs only [x175, d_seq, go_sem, Nat.reduceEqDiff, reduceIte]; exact rfl⟩
def h175 : Sem := p175.1
theorem e175 : den x175.body = h175 := p175.2
def p149 : { h : Sem // den x149.body = h } := ⟨_, by simp -implicitDefEqProofs only [x149, d_seq, go_sem, Nat.reduceEqDiff, reduceIte]; exact rfl⟩
def h149 : Sem := p149.1
theorem e149 : den x149.body = h149 := p149.2
def p141 : { h : Sem // den x141.body = h } := ⟨_, by simp -implicitDefEqProofs only [x141, d_seq, go_sem, Nat.reduceEqDiff, reduceIte]; exact rfl⟩
def h141 : Sem := p141.1
theorem e141 : den x141.body = h141 := p141.2
end
end Go.Ab
