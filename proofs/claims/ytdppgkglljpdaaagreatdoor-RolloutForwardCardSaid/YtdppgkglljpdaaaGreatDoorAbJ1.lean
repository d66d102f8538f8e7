/- The code as functions, computed. Printed by mkco2.py. -/
import Derived.Test.YtdppgkglljpdaaaGreatDoorAbC0
import Derived.Test.YtdppgkglljpdaaaGreatDoorAbC1
import Derived.Test.YtdppgkglljpdaaaGreatDoorAbC2
import Derived.Test.YtdppgkglljpdaaaGreatDoorAbC3
import Derived.Test.YtdppgkglljpdaaaGreatDoorAm4
set_option linter.all false
namespace Go.Ab
set_option maxRecDepth 100000
set_option maxHeartbeats 4000000
noncomputable section
def p107 : { h : Sem // den x107.body = h } := ⟨_, by simp -implicitDefEqProofs only [x107, d_seq, go_sem, Nat.reduceEqDiff, reduceIte]; exact rfl⟩
def h107 : Sem := p107.1
theorem e107 : den x107.body = h107 := p107.2
def p203 : { h : Sem // den x203.body = h } := ⟨_, by simp -implicitDefEqProofs only [x203, d_seq, go_sem, Nat.reduceEqDiff, reduceIte]; exact rfl⟩
def h203 : Sem := p203.1
theorem e203 : den x203.body = h203 := p203.2
def p176 : { h : Sem // den x176.body = h } := ⟨_, by simp -implicitDefEqProofs only [x176, d_seq, go_sem, Nat.reduceEqDiff, reduceIte]; exact rfl⟩
def h176 : Sem := p176.1
theorem e176 : den x176.body = h176 := p176.2
def p253 : { h : Sem // den x253.body = h } := ⟨_, by simp -implicitDefEqProofs only [x253, d_seq, go_sem, Nat.reduceEqDiff, reduceIte]; exact rfl⟩
def h253 : Sem := p253.1
theorem e253 : den x253.body = h253 := p253.2
def p81 : { h : Sem // den x81.body = h } := ⟨_, by simp -implicitDefEqProofs only [x81, d_seq, go_sem, Nat.reduceEqDiff, reduceIte]; exact rfl⟩
def h81 : Sem := p81.1
theorem e81 : den x81.body = h81 := p81.2
def p35 : { h : Sem // den x35.body = h } := ⟨_, by simp -implicitDefEqProofs only [x35, d_seq, go_sem, Nat.reduceEqDiff, reduceIte]; exact rfl⟩
def h35 : Sem := p35.1
theorem e35 : den x35.body = h35 := p35.2
def p246 : { h : Sem // den x246.body = h } := ⟨_, by simp -implicitDefEqProofs only [x246, d_seq, go_sem, Nat.reduceEqDiff, reduceIte]; exact rfl⟩
def h246 : Sem := p246.1
theorem e246 : den x246.body = h246 := p246.2
def p32 : { h : Sem // den x32.body = h } := ⟨_, by simp -implicitDefEqProofs only [x32, d_seq, go_sem, Nat.reduceEqDiff, reduceIte]; exact rfl⟩
def h32 : Sem := p32.1
theorem e32 : den x32.body = h32 := p32.2
def p269 : { h : Sem // den x269.body = h } := ⟨_, by simp -implicitDefEqProofs only [x269, d_seq, go_sem, Nat.reduceEqDiff, reduceIte]; exact rfl⟩
def h269 : Sem := p269.1
theorem e269 : den x269.body = h269 := p269.2
def p198 : { h : Sem // den x198.body = h } := ⟨_, by simp -implicitDefEqProofs only [x198, d_seq, go_sem, Nat.reduceEqDiff, reduceIte]; exact rfl⟩
def h198 : Sem := p198.1
theorem e198 : den x198.body = h198 := p198.2
def p248 : { h : Sem // den x248.body = h } := ⟨_, by simp -implicitDefEqProofs only [x248, d_seq, go_sem, Nat.reduceEqDiff, reduceIte]; exact rfl⟩
def h248 : Sem := p248.1
theorem e248 : den x248.body = h248 := p248.2
def p266 : { h : Sem // den x266.body = h } := ⟨_, by simp -implicitDefEqProofs only [x266, d_seq, go_sem, Nat.reduceEqDiff, reduceIte]; exact rfl⟩
def h266 : Sem := p266.1
theorem e266 : den x266.body = h266 := p266.2
def p144 : { h : Sem // den x144.body = h } := ⟨_, by simp -implicitDefEqProofs only [x144, d_seq, go_sem, Nat.reduceEqDiff, reduceIte]; exact rfl⟩
def h144 : Sem := p144.1
theorem e144 : den x144.body = h144 := p144.2
def p16 : { h : Sem // den x16.body = h } := ⟨_, by simp -implicitDefEqProofs only [x16, d_seq, go_sem, Nat.reduceEqDiff, reduceIte]; exact rfl⟩
def h16 : Sem := p16.1
theorem e16 : den x16.body = h16 := p16.2
def p219 : { h : Sem // den x219.body = h } := ⟨_, by simp -implicitDefEqProofs only [x219, d_seq, go_sem, Nat.reduceEqDiff, reduceIte]; exact rfl⟩
def h219 : Sem := p219.1
theorem e219 : den x219.body = h219 := p219.2
def p166 : { h : Sem // den x166.body = h } := ⟨_, by simp -implicitDefEqProofs only [x166, d_seq, go_sem, Nat.reduceEqDiff, reduceIte]; exact rfl⟩
def h166 : Sem := p166.1
theorem e166 : den x166.body = h166 := p166.2
def p156 : { h : Sem // den x156.body = h } := ⟨_, by simp -implicitDefEqProofs only [x156, d_seq, go_sem, Nat.reduceEqDiff, reduceIte]; exact rfl⟩
def h156 : Sem := p156.1
theorem e156 : den x156.body = h156 := p156.2
def p254 : { h : Sem // den x254.body = h } := ⟨_, by simp -implicitDefEqProofs only [x254, d_seq, go_sem, Nat.reduceEqDiff, reduceIte]; exact rfl⟩
def h254 : Sem := p254.1
theorem e254 : den x254.body = h254 := p254.2
def p243 : { h : Sem // den x243.body = h } := ⟨_, by simp -implicitDefEqProofs only [x243, d_seq, go_sem, Nat.reduceEqDiff, reduceIte]; exact rfl⟩
def h243 : Sem := p243.1
theorem e243 : den x243.body = h243 := p243.2
def p170 : { h : Sem // den x170.body = h } := ⟨_, by simp -implicitDefEqProofs only [x170, d_seq, go_sem, Nat.reduceEqDiff, reduceIte]; exact rfl⟩
def h170 : Sem := p170.1
theorem e170 : den x170.body = h170 := p170.2
def p83 : { h : Sem // den x83.body = h } := ⟨_, by simp -implicitDefEqProofs only [x83, d_seq, go_sem, Nat.reduceEqDiff, reduceIte]; exact rfl⟩
def h83 : Sem := p83.1
theorem e83 : den x83.body = h83 := p83.2
def p172 : { h : Sem // den x172.body = h } := ⟨_, by simp -implicitDefEqProofs only [x172, d_seq, go_sem, Nat.reduceEqDiff, reduceIte]; exact rfl⟩
def h172 : Sem := p172.1
theorem e172 : den x172.body = h172 := p172.2
def p133 : { h : Sem // den x133.body = h } := ⟨_, by simp -implicitDefEqProofs only [x133, d_seq, go_sem, Nat.reduceEqDiff, reduceIte]; exact rfl⟩
def h133 : Sem := p133.1
theorem e133 : den x133.body = h133 := p133.2
def p259 : { h : Sem // den x259.body = h } := ⟨_, by simp -implicitDefEqProofs only [x259, d_seq, go_sem, Nat.reduceEqDiff, reduceIte]; exact rfl⟩
def h259 : Sem := p259.1
theorem e259 : den x259.body = h259 := p259.2
def p169 : { h : Sem // den x169.body = h } := ⟨_, by simp -implicitDefEqProofs only [x169, d_seq, go_sem, Nat.reduceEqDiff, reduceIte]; exact rfl⟩
def h169 : Sem := p169.1
theorem e169 : den x169.body = h169 := p169.2
def p150 : { h : Sem // den x150.body = h } := ⟨_, by simp -implicitDefEqProofs only [x150, d_seq, go_sem, Nat.reduceEqDiff, reduceIte]; exact rfl⟩
def h150 : Sem := p150.1
theorem e150 : den x150.body = h150 := p150.2
def p250 : { h : Sem // den x250.body = h } := ⟨_, by simp -implicitDefEqProofs only [x250, d_seq, go_sem, Nat.reduceEqDiff, reduceIte]; exact rfl⟩
def h250 : Sem := p250.1
theorem e250 : den x250.body = h250 := p250.2
def p231 : { h : Sem // den x231.body = h } := ⟨_, by simp -implicitDefEqProofs only [x231, d_seq, go_sem, Nat.reduceEqDiff, reduceIte]; exact rfl⟩
def h231 : Sem := p231.1
theorem e231 : den x231.body = h231 := p231.2
def p118 : { h : Sem // den x118.body = h } := ⟨_, by simp -implicitDefEqProofs only [x118, d_seq, go_sem, Nat.reduceEqDiff, reduceIte]; exact rfl⟩
def h118 : Sem := p118.1
theorem e118 : den x118.body = h118 := p118.2
def p240 : { h : Sem // den x240.body = h } := ⟨_, by simp -implicitDefEqProofs only [x240, d_seq, go_sem, Nat.reduceEqDiff, reduceIte]; exact rfl⟩
def h240 : Sem := p240.1
theorem e240 : den x240.body = h240 := p240.2
def p199 : { h : Sem // den x199.body = h } := ⟨_, by simp -implicitDefEqProofs only [x199, d_seq, go_sem, Nat.reduceEqDiff, reduceIte]; exact rfl⟩
def h199 : Sem := p199.1
theorem e199 : den x199.body = h199 := p199.2
def p234 : { h : Sem // den x234.body = h } := ⟨_, by simp -implicitDefEqProofs only [x234, d_seq, go_sem, Nat.reduceEqDiff, reduceIte]; exact rfl⟩
def h234 : Sem := p234.1
theorem e234 : den x234.body = h234 := p234.2
def p228 : { h : Sem // den x228.body = h } := ⟨_, by simp -implicitDefEqProofs only [x228, d_seq, go_sem, Nat.reduceEqDiff, reduceIte]; exact rfl⟩
def h228 : Sem := p228.1
theorem e228 : den x228.body = h228 := p228.2
def p112 : { h : Sem // den x112.body = h } := ⟨_, by simp -implicitDefEqProofs only [x112, d_seq, go_sem, Nat.reduceEqDiff, reduceIte]; exact rfl⟩
def h112 : Sem := p112.1
theorem e112 : den x112.body = h112 := p112.2
def p129 : { h : Sem // den x129.body = h } := ⟨_, by simp -implicitDefEqProofs only [x129, d_seq, go_sem, Nat.reduceEqDiff, reduceIte]; exact rfl⟩
def h129 : Sem := p129.1
theorem e129 : den x129.body = h129 := p129.2
def p182 : { h : Sem // den x182.body = h } := ⟨_, by simp -implicitDefEqProofs only [x182, d_seq, go_sem, Nat.reduceEqDiff, reduceIte]; exact rfl⟩
def h182 : Sem := p182.1
theorem e182 : den x182.body = h182 := p182.2
def p149 : { h : Sem // den x149.body = h } := ⟨_, by simp -implicitDefEqProofs only [x149, d_seq, go_sem, Nat.reduceEqDiff, reduceIte]; exact rfl⟩
def h149 : Sem := p149.1
theorem e149 : den x149.body = h149 := p149.2
def p120 : { h : Sem // den x120.body = h } := ⟨_, by simp -implicitDefEqProofs only [x120, d_seq, go_sem, Nat.reduceEqDiff, reduceIte]; exact rfl⟩
def h120 : Sem := p120.1
theorem e120 : den x120.body = h120 := p120.2
def p108 : { h : Sem // den x108.body = h } := ⟨_, by simp -implicitDefEqProofs only [x108, d_seq, go_sem, Nat.reduceEqDiff, reduceIte]; exact rfl⟩
def h108 : Sem := p108.1
theorem e108 : den x108.body = h108 := p108.2
def p235 : { h : Sem // den x235.body = h } := ⟨_, by simp -implicitDefEqProofs only [x235, d_seq, go_sem, Nat.reduceEqDiff, reduceIte]; exact rfl⟩
def h235 : Sem := p235.1
theorem e235 : den x235.body = h235 := p235.2
def p92 : { h : Sem // den x92.body = h } := ⟨_, by simp -implicitDefEqProofs only [x92, d_seq, go_sem, Nat.reduceEqDiff, reduceIte]; exact rfl⟩
def h92 : Sem := p92.1
theorem e92 : den x92.body = h92 := p92.2
end
end Go.Ab
