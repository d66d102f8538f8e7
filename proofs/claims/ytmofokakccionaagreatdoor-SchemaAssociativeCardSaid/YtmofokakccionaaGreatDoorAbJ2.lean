/- The code as functions, computed. Printed by mkco2.py. -/
import Derived.Test.YtmofokakccionaaGreatDoorAbC0
import Derived.Test.YtmofokakccionaaGreatDoorAbC1
import Derived.Test.YtmofokakccionaaGreatDoorAbC2
import Derived.Test.YtmofokakccionaaGreatDoorAbC3
import Derived.Test.YtmofokakccionaaGreatDoorAm4
set_option linter.all false
namespace Go.Ab
set_option maxRecDepth 100000
set_option maxHeartbeats 4000000
noncomputable section
def p170 : { h : Sem // den x170.body = h } := ⟨_, by simp -implicitDefEqProofs only [x170, d_seq, go_sem, Nat.reduceEqDiff, reduceIte]; exact rfl⟩
def h170 : Sem := p170.1
theorem e170 : den x170.body = h170 := p170.2
def p25 : { h : Sem // den x25.body = h } := ⟨_, by simp -implicitDefEqProofs only [x25, d_seq, go_sem, Nat.reduceEqDiff, reduceIte]; exact rfl⟩
def h25 : Sem := p25.1
theorem e25 : den x25.body = h25 := p25.2
def p27 : { h : Sem // den x27.body = h } := ⟨_, by simp -implicitDefEqProofs only [x27, d_seq, go_sem, Nat.reduceEqDiff, reduceIte]; exact rfl⟩
def h27 : Sem := p27.1
theorem e27 : den x27.body = h27 := p27.2
def p199 : { h : Sem // den x199.body = h } := ⟨_, by simp -implicitDefEqProofs only [x199, d_seq, go_sem, Nat.reduceEqDiff, reduceIte]; exact rfl⟩
def h199 : Sem := p199.1
theorem e199 : den x199.body = h199 := p199.2
def p154 : { h : Sem // den x154.body = h } := ⟨_, by simp -implicitDefEqProofs only [x154, d_seq, go_sem, Nat.reduceEqDiff, reduceIte]; exact rfl⟩
def h154 : Sem := p154.1
theorem e154 : den x154.body = h154 := p154.2
def p121 : { h : Sem // den x121.body = h } := ⟨_, by simp -implicitDefEqProofs only [x121, d_seq, go_sem, Nat.reduceEqDiff, reduceIte]; exact rfl⟩
def h121 : Sem := p121.1
theorem e121 : den x121.body = h121 := p121.2
def p221 : { h : Sem // den x221.body = h } := ⟨_, by simp -implicitDefEqProofs only [x221, d_seq, go_sem, Nat.reduceEqDiff, reduceIte]; exact rfl⟩
def h221 : Sem := p221.1
theorem e221 : den x221.body = h221 := p221.2
def p234 : { h : Sem // den x234.body = h } := ⟨_, by simp -implicitDefEqProofs only [x234, d_seq, go_sem, Nat.reduceEqDiff, reduceIte]; exact rfl⟩
def h234 : Sem := p234.1
theorem e234 : den x234.body = h234 := p234.2
def p216 : { h : Sem // den x216.body = h } := ⟨_, by simp -implicitDefEqProofs only [x216, d_seq, go_sem, Nat.reduceEqDiff, reduceIte]; exact rfl⟩
def h216 : Sem := p216.1
theorem e216 : den x216.body = h216 := p216.2
def p233 : { h : Sem // den x233.body = h } := ⟨_, by simp -implicitDefEqProofs only [x233, d_seq, go_sem, Nat.reduceEqDiff, reduceIte]; exact rfl⟩
def h233 : Sem := p233.1
theorem e233 : den x233.body = h233 := p233.2
def p227 : { h : Sem // den x227.body = h } := ⟨_, by simp -implicitDefEqProofs only [x227, d_seq, go_sem, Nat.reduceEqDiff, reduceIte]; exact rfl⟩
def h227 : Sem := p227.1
theorem e227 : den x227.body = h227 := p227.2
def p73 : { h : Sem // den x73.body = h } := ⟨_, by simp -implicitDefEqProofs only [x73, d_seq, go_sem, Nat.reduceEqDiff, reduceIte]; exact rfl⟩
def h73 : Sem := p73.1
theorem e73 : den x73.body = h73 := p73.2
def p37 : { h : Sem // den x37.body = h } := ⟨_, by simp -implicitDefEqProofs only [x37, d_seq, go_sem, Nat.reduceEqDiff, reduceIte]; exact rfl⟩
def h37 : Sem := p37.1
theorem e37 : den x37.body = h37 := p37.2
def p225 : { h : Sem // den x225.body = h } := ⟨_, by simp -implicitDefEqProofs only [x225, d_seq, go_sem, Nat.reduceEqDiff, reduceIte]; exact rfl⟩
def h225 : Sem := p225.1
theorem e225 : den x225.body = h225 := p225.2
def p228 : { h : Sem // den x228.body = h } := ⟨_, by simp -implicitDefEqProofs only [x228, d_seq, go_sem, Nat.reduceEqDiff, reduceIte]; exact rfl⟩
def h228 : Sem := p228.1
theorem e228 : den x228.body = h228 := p228.2
def p126 : { h : Sem // den x126.body = h } := ⟨_, by simp -implicitDefEqProofs only [x126, d_seq, go_sem, Nat.reduceEqDiff, reduceIte]; exact rfl⟩
def h126 : Sem := p126.1
theorem e126 : den x126.body = h126 := p126.2
def p111 : { h : Sem // den x111.body = h } := ⟨_, by simp -implicitDefEqProofs only [x111, d_seq, go_sem, Nat.reduceEqDiff, reduceIte]; exact rfl⟩
def h111 : Sem := p111.1
theorem e111 : den x111.body = h111 := p111.2
def p237 : { h : Sem // den x237.body = h } := ⟨_, by simp -implicitDefEqProofs only [x237, d_seq, go_sem, Nat.reduceEqDiff, reduceIte]; exact rfl⟩
def h237 : Sem := p237.1
theorem e237 : den x237.body = h237 := p237.2
def p107 : { h : Sem // den x107.body = h } := ⟨_, by simp -implicitDefEqProofs only [x107, d_seq, go_sem, Nat.reduceEqDiff, reduceIte]; exact rfl⟩
def h107 : Sem := p107.1
theorem e107 : den x107.body = h107 := p107.2
def p201 : { h : Sem // den x201.body = h } := ⟨_, by simp -implicitDefEqProofs only [x201, d_seq, go_sem, Nat.reduceEqDiff, reduceIte]; exact rfl⟩
def h201 : Sem := p201.1
theorem e201 : den x201.body = h201 := p201.2
def p229 : { h : Sem // den x229.body = h } := ⟨_, by simp -implicitDefEqProofs only [x229, d_seq, go_sem, Nat.reduceEqDiff, reduceIte]; exact rfl⟩
def h229 : Sem := p229.1
theorem e229 : den x229.body = h229 := p229.2
def p202 : { h : Sem // den x202.body = h } := ⟨_, by simp -implicitDefEqProofs only [x202, d_seq, go_sem, Nat.reduceEqDiff, reduceIte]; exact rfl⟩
def h202 : Sem := p202.1
theorem e202 : den x202.body = h202 := p202.2
def p195 : { h : Sem // den x195.body = h } := ⟨_, by simp -implicitDefEqProofs only [x195, d_seq, go_sem, Nat.reduceEqDiff, reduceIte]; exact rfl⟩
def h195 : Sem := p195.1
theorem e195 : den x195.body = h195 := p195.2
def p48 : { h : Sem // den x48.body = h } := ⟨_, by simp -implicitDefEqProofs only [x48, d_seq, go_sem, Nat.reduceEqDiff, reduceIte]; exact rfl⟩
def h48 : Sem := p48.1
theorem e48 : den x48.body = h48 := p48.2
def p215 : { h : Sem // den x215.body = h } := ⟨_, by simp -implicitDefEqProofs only [x215, d_seq, go_sem, Nat.reduceEqDiff, reduceIte]; exact rfl⟩
def h215 : Sem := p215.1
theorem e215 : den x215.body = h215 := p215.2
def p208 : { h : Sem // den x208.body = h } := ⟨_, by simp -implicitDefEqProofs only [x208, d_seq, go_sem, Nat.reduceEqDiff, reduceIte]; exact rfl⟩
def h208 : Sem := p208.1
theorem e208 : den x208.body = h208 := p208.2
def p108 : { h : Sem // den x108.body = h } := ⟨_, by simp -implicitDefEqProofs only [x108, d_seq, go_sem, Nat.reduceEqDiff, reduceIte]; exact rfl⟩
def h108 : Sem := p108.1
theorem e108 : den x108.body = h108 := p108.2
def p52 : { h : Sem // den x52.body = h } := ⟨_, by simp -implicitDefEqProofs only [x52, d_seq, go_sem, Nat.reduceEqDiff, reduceIte]; exact rfl⟩
def h52 : Sem := p52.1
theorem e52 : den x52.body = h52 := p52.2
def p213 : { h : Sem // den x213.body = h } := ⟨_, by simp -implicitDefEqProofs only [x213, d_seq, go_sem, Nat.reduceEqDiff, reduceIte]; exact rfl⟩
def h213 : Sem := p213.1
theorem e213 : den x213.body = h213 := p213.2
def p123 : { h : Sem // den x123.body = h } := ⟨_, by simp -implicitDefEqProofs only [x123, d_seq, go_sem, Nat.reduceEqDiff, reduceIte]; exact rfl⟩
def h123 : Sem := p123.1
theorem e123 : den x123.body = h123 := p123.2
def p148 : { h : Sem // den x148.body = h } := ⟨_, by simp -implicitDefEqProofs only [x148, d_seq, go_sem, Nat.reduceEqDiff, reduceIte]; exact rfl⟩
def h148 : Sem := p148.1
theorem e148 : den x148.body = h148 := p148.2
def p211 : { h : Sem // den x211.body = h } := ⟨_, by simp -implicitDefEqProofs only [x211, d_seq, go_sem, Nat.reduceEqDiff, reduceIte]; exact rfl⟩
def h211 : Sem := p211.1
theorem e211 : den x211.body = h211 := p211.2
end
end Go.Ab
