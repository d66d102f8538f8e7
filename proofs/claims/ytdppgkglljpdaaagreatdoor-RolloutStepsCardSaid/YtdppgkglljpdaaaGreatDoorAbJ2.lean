/- The code as functions, computed. Printed by mkco2.py. -/
import Derived.Test.YtdppgkglljpdaaaGreatDoorAbC0
import Derived.Test.YtdppgkglljpdaaaGreatDoorAbC1
import Derived.Test.YtdppgkglljpdaaaGreatDoorAbC2
import Derived.Test.YtdppgkglljpdaaaGreatDoorAbC3
import Derived.Test.YtdppgkglljpdaaaGreatDoorAm4
set_option linter.all false
namespace Go.Ab
set_option maxRecDepth 100000
set_option maxHeartbeats 4000000
noncomputable section
def p211 : { h : Sem // den x211.body = h } := ⟨_, by simp -implicitDefEqProofs only [x211, d_seq, go_sem, Nat.reduceEqDiff, reduceIte]; exact rfl⟩
def h211 : Sem := p211.1
theorem e211 : den x211.body = h211 := p211.2
def p203 : { h : Sem // den x203.body = h } := ⟨_, by simp -implicitDefEqProofs only [x203, d_seq, go_sem, Nat.reduceEqDiff, reduceIte]; exact rfl⟩
def h203 : Sem := p203.1
theorem e203 : den x203.body = h203 := p203.2
def p110 : { h : Sem // den x110.body = h } := ⟨_, by simp -implicitDefEqProofs only [x110, d_seq, go_sem, Nat.reduceEqDiff, reduceIte]; exact rfl⟩
def h110 : Sem := p110.1
theorem e110 : den x110.body = h110 := p110.2
def p8 : { h : Sem // den x8.body = h } := ⟨_, by simp -implicitDefEqProofs only [x8, d_seq, go_sem, Nat.reduceEqDiff, reduceIte]; exact rfl⟩
def h8 : Sem := p8.1
theorem e8 : den x8.body = h8 := p8.2
def p130 : { h : Sem // den x130.body = h } := ⟨_, by simp -implicitDefEqProofs only [x130, d_seq, go_sem, Nat.reduceEqDiff, reduceIte]; exact rfl⟩
def h130 : Sem := p130.1
theorem e130 : den x130.body = h130 := p130.2
def p246 : { h : Sem // den x246.body = h } := ⟨_, by simp -implicitDefEqProofs only [x246, d_seq, go_sem, Nat.reduceEqDiff, reduceIte]; exact rfl⟩
def h246 : Sem := p246.1
theorem e246 : den x246.body = h246 := p246.2
def p247 : { h : Sem // den x247.body = h } := ⟨_, by simp -implicitDefEqProofs only [x247, d_seq, go_sem, Nat.reduceEqDiff, reduceIte]; exact rfl⟩
def h247 : Sem := p247.1
theorem e247 : den x247.body = h247 := p247.2
def p80 : { h : Sem // den x80.body = h } := ⟨_, by simp -implicitDefEqProofs only [x80, d_seq, go_sem, Nat.reduceEqDiff, reduceIte]; exact rfl⟩
def h80 : Sem := p80.1
theorem e80 : den x80.body = h80 := p80.2
def p263 : { h : Sem // den x263.body = h } := ⟨_, by simp -implicitDefEqProofs only [x263, d_seq, go_sem, Nat.reduceEqDiff, reduceIte]; exact rfl⟩
def h263 : Sem := p263.1
theorem e263 : den x263.body = h263 := p263.2
def p205 : { h : Sem // den x205.body = h } := ⟨_, by simp -implicitDefEqProofs only [x205, d_seq, go_sem, Nat.reduceEqDiff, reduceIte]; exact rfl⟩
def h205 : Sem := p205.1
theorem e205 : den x205.body = h205 := p205.2
def p87 : { h : Sem // den x87.body = h } := ⟨_, by simp -implicitDefEqProofs only [x87, d_seq, go_sem, Nat.reduceEqDiff, reduceIte]; exact rfl⟩
def h87 : Sem := p87.1
theorem e87 : den x87.body = h87 := p87.2
def p56 : { h : Sem // den x56.body = h } := ⟨_, by simp -implicitDefEqProofs only [x56, d_seq, go_sem, Nat.reduceEqDiff, reduceIte]; exact rfl⟩
def h56 : Sem := p56.1
theorem e56 : den x56.body = h56 := p56.2
def p168 : { h : Sem // den x168.body = h } := ⟨_, by simp -implicitDefEqProofs only [x168, d_seq, go_sem, Nat.reduceEqDiff, reduceIte]; exact rfl⟩
def h168 : Sem := p168.1
theorem e168 : den x168.body = h168 := p168.2
def p206 : { h : Sem // den x206.body = h } := ⟨_, by simp -implicitDefEqProofs only [x206, d_seq, go_sem, Nat.reduceEqDiff, reduceIte]; exact rfl⟩
def h206 : Sem := p206.1
theorem e206 : den x206.body = h206 := p206.2
def p19 : { h : Sem // den x19.body = h } := ⟨_, by simp -implicitDefEqProofs only [x19, d_seq, go_sem, Nat.reduceEqDiff, reduceIte]; exact rfl⟩
def h19 : Sem := p19.1
theorem e19 : den x19.body = h19 := p19.2
def p148 : { h : Sem // den x148.body = h } := ⟨_, by simp -implicitDefEqProofs only [x148, d_seq, go_sem, Nat.reduceEqDiff, reduceIte]; exact rfl⟩
def h148 : Sem := p148.1
theorem e148 : den x148.body = h148 := p148.2
def p143 : { h : Sem // den x143.body = h } := ⟨_, by simp -implicitDefEqProofs only [x143, d_seq, go_sem, Nat.reduceEqDiff, reduceIte]; exact rfl⟩
def h143 : Sem := p143.1
theorem e143 : den x143.body = h143 := p143.2
def p105 : { h : Sem // den x105.body = h } := ⟨_, by simp -implicitDefEqProofs only [x105, d_seq, go_sem, Nat.reduceEqDiff, reduceIte]; exact rfl⟩
def h105 : Sem := p105.1
theorem e105 : den x105.body = h105 := p105.2
def p33 : { h : Sem // den x33.body = h } := ⟨_, by simp -implicitDefEqProofs only [x33, d_seq, go_sem, Nat.reduceEqDiff, reduceIte]; exact rfl⟩
def h33 : Sem := p33.1
theorem e33 : den x33.body = h33 := p33.2
def p245 : { h : Sem // den x245.body = h } := ⟨_, by simp -implicitDefEqProofs only [x245, d_seq, go_sem, Nat.reduceEqDiff, reduceIte]; exact rfl⟩
def h245 : Sem := p245.1
theorem e245 : den x245.body = h245 := p245.2
def p141 : { h : Sem // den x141.body = h } := ⟨_, by simp -implicitDefEqProofs only [x141, d_seq, go_sem, Nat.reduceEqDiff, reduceIte]; exact rfl⟩
def h141 : Sem := p141.1
theorem e141 : den x141.body = h141 := p141.2
def p232 : { h : Sem // den x232.body = h } := ⟨_, by simp -implicitDefEqProofs only [x232, d_seq, go_sem, Nat.reduceEqDiff, reduceIte]; exact rfl⟩
def h232 : Sem := p232.1
theorem e232 : den x232.body = h232 := p232.2
def p259 : { h : Sem // den x259.body = h } := ⟨_, by simp -implicitDefEqProofs only [x259, d_seq, go_sem, Nat.reduceEqDiff, reduceIte]; exact rfl⟩
def h259 : Sem := p259.1
theorem e259 : den x259.body = h259 := p259.2
def p151 : { h : Sem // den x151.body = h } := ⟨_, by simp -implicitDefEqProofs only [x151, d_seq, go_sem, Nat.reduceEqDiff, reduceIte]; exact rfl⟩
def h151 : Sem := p151.1
theorem e151 : den x151.body = h151 := p151.2
def p261 : { h : Sem // den x261.body = h } := ⟨_, by simp -implicitDefEqProofs only [x261, d_seq, go_sem, Nat.reduceEqDiff, reduceIte]; exact rfl⟩
def h261 : Sem := p261.1
theorem e261 : den x261.body = h261 := p261.2
def p197 : { h : Sem // den x197.body = h } := ⟨_, by simp -implicitDefEqProofs only [x197, d_seq, go_sem, Nat.reduceEqDiff, reduceIte]; exact rfl⟩
def h197 : Sem := p197.1
theorem e197 : den x197.body = h197 := p197.2
def p174 : { h : Sem // den x174.body = h } := ⟨_, by simp -implicitDefEqProofs only [x174, d_seq, go_sem, Nat.reduceEqDiff, reduceIte]; exact rfl⟩
def h174 : Sem := p174.1
theorem e174 : den x174.body = h174 := p174.2
def p46 : { h : Sem // den x46.body = h } := ⟨_, by simp -implicitDefEqProofs only [x46, d_seq, go_sem, Nat.reduceEqDiff, reduceIte]; exact rfl⟩
def h46 : Sem := p46.1
theorem e46 : den x46.body = h46 := p46.2
def p136 : { h : Sem // den x136.body = h } := ⟨_, by simp -implicitDefEqProofs only [x136, d_seq, go_sem, Nat.reduceEqDiff, reduceIte]; exact rfl⟩
def h136 : Sem := p136.1
theorem e136 : den x136.body = h136 := p136.2
def p75 : { h : Sem // den x75.body = h } := ⟨_, by simp -implicitDefEqProofs only [x75, d_seq, go_sem, Nat.reduceEqDiff, reduceIte]; exact rfl⟩
def h75 : Sem := p75.1
theorem e75 : den x75.body = h75 := p75.2
def p134 : { h : Sem // den x134.body = h } := ⟨_, by simp -implicitDefEqProofs only [x134, d_seq, go_sem, Nat.reduceEqDiff, reduceIte]; exact rfl⟩
def h134 : Sem := p134.1
theorem e134 : den x134.body = h134 := p134.2
def p129 : { h : Sem // den x129.body = h } := ⟨_, by simp -implicitDefEqProofs only [x129, d_seq, go_sem, Nat.reduceEqDiff, reduceIte]; exact rfl⟩
def h129 : Sem := p129.1
theorem e129 : den x129.body = h129 := p129.2
def p152 : { h : Sem // den x152.body = h } := ⟨_, by simp -implicitDefEqProofs only [x152, d_seq, go_sem, Nat.reduceEqDiff, reduceIte]; exact rfl⟩
def h152 : Sem := p152.1
theorem e152 : den x152.body = h152 := p152.2
def p132 : { h : Sem // den x132.body = h } := ⟨_, by simp -implicitDefEqProofs only [x132, d_seq, go_sem, Nat.reduceEqDiff, reduceIte]; exact rfl⟩
def h132 : Sem := p132.1
theorem e132 : den x132.body = h132 := p132.2
def p29 : { h : Sem // den x29.body = h } := ⟨_, by simp -implicitDefEqProofs only [x29, d_seq, go_sem, Nat.reduceEqDiff, reduceIte]; exact rfl⟩
def h29 : Sem := p29.1
theorem e29 : den x29.body = h29 := p29.2
def p200 : { h : Sem // den x200.body = h } := ⟨_, by simp -implicitDefEqProofs only [x200, d_seq, go_sem, Nat.reduceEqDiff, reduceIte]; exact rfl⟩
def h200 : Sem := p200.1
theorem e200 : den x200.body = h200 := p200.2
def p209 : { h : Sem // den x209.body = h } := ⟨_, by simp -implicitDefEqProofs only [x209, d_seq, go_sem, Nat.reduceEqDiff, reduceIte]; exact rfl⟩
def h209 : Sem := p209.1
theorem e209 : den x209.body = h209 := p209.2
def p142 : { h : Sem // den x142.body = h } := ⟨_, by simp -implicitDefEqProofs only [x142, d_seq, go_sem, Nat.reduceEqDiff, reduceIte]; exact rfl⟩
def h142 : Sem := p142.1
theorem e142 : den x142.body = h142 := p142.2
end
end Go.Ab
