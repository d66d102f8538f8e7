/- The code as functions, computed. Printed by mkco2.py. -/
import Derived.Test.YtmofokakccionaaGreatDoorAbC0
import Derived.Test.YtmofokakccionaaGreatDoorAbC1
import Derived.Test.YtmofokakccionaaGreatDoorAbC2
import Derived.Test.YtmofokakccionaaGreatDoorAbC3
import Derived.Test.YtmofokakccionaaGreatDoorAm4
set_option linter.all false
namespace Go.Ab
set_option maxRecDepth 100000
set_option maxHeartbeats 4000000
noncomputable section
def p120 : { h : Sem // den x120.body = h } := ⟨_, by simp -implicitDefEqProofs only [x120, d_seq, go_sem, Nat.reduceEqDiff, reduceIte]; exact rfl⟩
def h120 : Sem := p120.1
theorem e120 : den x120.body = h120 := p120.2
def p9 : { h : Sem // den x9.body = h } := ⟨_, by simp -implicitDefEqProofs only [x9, d_seq, go_sem, Nat.reduceEqDiff, reduceIte]; exact rfl⟩
def h9 : Sem := p9.1
theorem e9 : den x9.body = h9 := p9.2
def p112 : { h : Sem // den x112.body = h } := ⟨_, by simp -implicitDefEqProofs only [x112, d_seq, go_sem, Nat.reduceEqDiff, reduceIte]; exact rfl⟩
def h112 : Sem := p112.1
theorem e112 : den x112.body = h112 := p112.2
def p179 : { h : Sem // den x179.body = h } := ⟨_, by simp -implicitDefEqProofs only [x179, d_seq, go_sem, Nat.reduceEqDiff, reduceIte]; exact rfl⟩
def h179 : Sem := p179.1
theorem e179 : den x179.body = h179 := p179.2
def p183 : { h : Sem // den x183.body = h } := ⟨_, by simp -implicitDefEqProofs only [x183, d_seq, go_sem, Nat.reduceEqDiff, reduceIte]; exact rfl⟩
def h183 : Sem := p183.1
theorem e183 : den x183.body = h183 := p183.2
def p121 : { h : Sem // den x121.body = h } := ⟨_, by simp -implicitDefEqProofs only [x121, d_seq, go_sem, Nat.reduceEqDiff, reduceIte]; exact rfl⟩
def h121 : Sem := p121.1
theorem e121 : den x121.body = h121 := p121.2
def p18 : { h : Sem // den x18.body = h } := ⟨_, by simp -implicitDefEqProofs only [x18, d_seq, go_sem, Nat.reduceEqDiff, reduceIte]; exact rfl⟩
def h18 : Sem := p18.1
theorem e18 : den x18.body = h18 := p18.2
def p234 : { h : Sem // den x234.body = h } := ⟨_, by simp -implicitDefEqProofs only [x234, d_seq, go_sem, Nat.reduceEqDiff, reduceIte]; exact rfl⟩
def h234 : Sem := p234.1
theorem e234 : den x234.body = h234 := p234.2
def p79 : { h : Sem // den x79.body = h } := ⟨_, by simp -implicitDefEqProofs only [x79, d_seq, go_sem, Nat.reduceEqDiff, reduceIte]; exact rfl⟩
def h79 : Sem := p79.1
theorem e79 : den x79.body = h79 := p79.2
def p233 : { h : Sem // den x233.body = h } := ⟨_, by simp -implicitDefEqProofs only [x233, d_seq, go_sem, Nat.reduceEqDiff, reduceIte]; exact rfl⟩
def h233 : Sem := p233.1
theorem e233 : den x233.body = h233 := p233.2
def p180 : { h : Sem // den x180.body = h } := ⟨_, by simp -implicitDefEqProofs only [x180, d_seq, go_sem, Nat.reduceEqDiff, reduceIte]; exact rfl⟩
def h180 : Sem := p180.1
theorem e180 : den x180.body = h180 := p180.2
def p53 : { h : Sem // den x53.body = h } := ⟨_, by simp -implicitDefEqProofs only [x53, d_seq, go_sem, Nat.reduceEqDiff, reduceIte]; exact rfl⟩
def h53 : Sem := p53.1
theorem e53 : den x53.body = h53 := p53.2
def p13 : { h : Sem // den x13.body = h } := ⟨_, by simp -implicitDefEqProofs only [x13, d_seq, go_sem, Nat.reduceEqDiff, reduceIte]; exact rfl⟩
def h13 : Sem := p13.1
theorem e13 : den x13.body = h13 := p13.2
def p37 : { h : Sem // den x37.body = h } := ⟨_, by simp -implicitDefEqProofs only [x37, d_seq, go_sem, Nat.reduceEqDiff, reduceIte]; exact rfl⟩
def h37 : Sem := p37.1
theorem e37 : den x37.body = h37 := p37.2
def p89 : { h : Sem // den x89.body = h } := ⟨_, by simp -implicitDefEqProofs only [x89, d_seq, go_sem, Nat.reduceEqDiff, reduceIte]; exact rfl⟩
def h89 : Sem := p89.1
theorem e89 : den x89.body = h89 := p89.2
def p83 : { h : Sem // den x83.body = h } := ⟨_, by simp -implicitDefEqProofs only [x83, d_seq, go_sem, Nat.reduceEqDiff, reduceIte]; exact rfl⟩
def h83 : Sem := p83.1
theorem e83 : den x83.body = h83 := p83.2
def p200 : { h : Sem // den x200.body = h } := ⟨_, by simp -implicitDefEqProofs only [x200, d_seq, go_sem, Nat.reduceEqDiff, reduceIte]; exact rfl⟩
def h200 : Sem := p200.1
theorem e200 : den x200.body = h200 := p200.2
def p218 : { h : Sem // den x218.body = h } := ⟨_, by simp -implicitDefEqProofs only [x218, d_seq, go_sem, Nat.reduceEqDiff, reduceIte]; exact rfl⟩
def h218 : Sem := p218.1
theorem e218 : den x218.body = h218 := p218.2
def p220 : { h : Sem // den x220.body = h } := ⟨_, by simp -implicitDefEqProofs only [x220, d_seq, go_sem, Nat.reduceEqDiff, reduceIte]; exact rfl⟩
def h220 : Sem := p220.1
theorem e220 : den x220.body = h220 := p220.2
def p236 : { h : Sem // den x236.body = h } := ⟨_, by simp -implicitDefEqProofs only [x236, d_seq, go_sem, Nat.reduceEqDiff, reduceIte]; exact rfl⟩
def h236 : Sem := p236.1
theorem e236 : den x236.body = h236 := p236.2
def p207 : { h : Sem // den x207.body = h } := ⟨_, by simp -implicitDefEqProofs only [x207, d_seq, go_sem, Nat.reduceEqDiff, reduceIte]; exact rfl⟩
def h207 : Sem := p207.1
theorem e207 : den x207.body = h207 := p207.2
def p169 : { h : Sem // den x169.body = h } := ⟨_, by simp -implicitDefEqProofs only [x169, d_seq, go_sem, Nat.reduceEqDiff, reduceIte]; exact rfl⟩
def h169 : Sem := p169.1
theorem e169 : den x169.body = h169 := p169.2
def p82 : { h : Sem // den x82.body = h } := ⟨_, by simp -implicitDefEqProofs only [x82, d_seq, go_sem, Nat.reduceEqDiff, reduceIte]; exact rfl⟩
def h82 : Sem := p82.1
theorem e82 : den x82.body = h82 := p82.2
def p202 : { h : Sem // den x202.body = h } := ⟨_, by simp -implicitDefEqProofs only [x202, d_seq, go_sem, Nat.reduceEqDiff, reduceIte]; exact rfl⟩
def h202 : Sem := p202.1
theorem e202 : den x202.body = h202 := p202.2
def p196 : { h : Sem // den x196.body = h } := ⟨_, by simp -implicitDefEqProofs only [x196, d_seq, go_sem, Nat.reduceEqDiff, reduceIte]; exact rfl⟩
def h196 : Sem := p196.1
theorem e196 : den x196.body = h196 := p196.2
def p206 : { h : Sem // den x206.body = h } := ⟨_, by simp -implicitDefEqProofs only [x206, d_seq, go_sem, Nat.reduceEqDiff, reduceIte]; exact rfl⟩
def h206 : Sem := p206.1
theorem e206 : den x206.body = h206 := p206.2
def p146 : { h : Sem // den x146.body = h } := ⟨_, by simp -implicitDefEqProofs only [x146, d_seq, go_sem, Nat.reduceEqDiff, reduceIte]; exact rfl⟩
def h146 : Sem := p146.1
theorem e146 : den x146.body = h146 := p146.2
def p212 : { h : Sem // den x212.body = h } := ⟨_, by simp -implicitDefEqProofs only [x212, d_seq, go_sem, Nat.reduceEqDiff, reduceIte]; exact rfl⟩
def h212 : Sem := p212.1
theorem e212 : den x212.body = h212 := p212.2
def p209 : { h : Sem // den x209.body = h } := ⟨_, by simp -implicitDefEqProofs only [x209, d_seq, go_sem, Nat.reduceEqDiff, reduceIte]; exact rfl⟩
def h209 : Sem := p209.1
theorem e209 : den x209.body = h209 := p209.2
def p203 : { h : Sem // den x203.body = h } := ⟨_, by simp -implicitDefEqProofs only [x203, d_seq, go_sem, Nat.reduceEqDiff, reduceIte]; exact rfl⟩
def h203 : Sem := p203.1
theorem e203 : den x203.body = h203 := p203.2
def p213 : { h : Sem // den x213.body = h } := ⟨_, by simp -implicitDefEqProofs only [x213, d_seq, go_sem, Nat.reduceEqDiff, reduceIte]; exact rfl⟩
def h213 : Sem := p213.1
theorem e213 : den x213.body = h213 := p213.2
def p219 : { h : Sem // den x219.body = h } := ⟨_, by simp -implicitDefEqProofs only [x219, d_seq, go_sem, Nat.reduceEqDiff, reduceIte]; exact rfl⟩
def h219 : Sem := p219.1
theorem e219 : den x219.body = h219 := p219.2
def p175 : { h : Sem // den x175.body = h } := ⟨_, by simp -implicitDefEqProofs only [x175, d_seq, go_sem, Nat.reduceEqDiff, reduceIte]; exact rfl⟩
def h175 : Sem := p175.1
theorem e175 : den x175.body = h175 := p175.2
def p149 : { h : Sem // den x149.body = h } := ⟨_, by simp -implicitDefEqProofs only [x149, d_seq, go_sem, Nat.reduceEqDiff, reduceIte]; exact rfl⟩
def h149 : Sem := p149.1
theorem e149 : den x149.body = h149 := p149.2
def p184 : { h : Sem // den x184.body = h } := ⟨_, by simp -implicitDefEqProofs only [x184, d_seq, go_sem, Nat.reduceEqDiff, reduceIte]; exact rfl⟩
def h184 : Sem := p184.1
theorem e184 : den x184.body = h184 := p184.2
end
end Go.Ab
