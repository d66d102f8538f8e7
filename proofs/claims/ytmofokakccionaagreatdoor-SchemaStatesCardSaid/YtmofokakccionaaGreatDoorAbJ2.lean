/- The code as functions, computed. Printed by mkco2.py. -/
import Derived.Test.YtmofokakccionaaGreatDoorAbC0
import Derived.Test.YtmofokakccionaaGreatDoorAbC1
import Derived.Test.YtmofokakccionaaGreatDoorAbC2
import Derived.Test.YtmofokakccionaaGreatDoorAbC3
import Derived.Test.YtmofokakccionaaGreatDoorAm4
set_option linter.all false
namespace Go.Ab
set_option maxRecDepth 100000
set_option maxHeartbeats 4000000
noncomputable section
def p170 : { h : Sem // den x170.body = h } := ⟨_, by simp -implicitDefEqProofs only [x170, d_seq, go_sem, Nat.reduceEqDiff, reduceIte]; exact rfl⟩
def h170 : Sem := p170.1
theorem e170 : den x170.body = h170 := p170.2
def p25 : { h : Sem // den x25.body = h } := ⟨_, by simp -implicitDefEqProofs only [x25, d_seq, go_sem, Nat.reduceEqDiff, reduceIte]; exact rfl⟩
def h25 : Sem := p25.1
theorem e25 : den x25.body = h25 := p25.2
def p27 : { h : Sem // den x27.body = h } := ⟨_, by simp -implicitDefEqProofs only [x27, d_seq, go_sem, Nat.reduceEqDiff, reduceIte]; exact rfl⟩
def h27 : Sem := p27.1
theorem e27 : den x27.body = h27 := p27.2
def p179 : { h : Sem // den x179.body = h } := ⟨_, by simp -implicitDefEqProofs only [x179, d_seq, go_sem, Nat.reduceEqDiff, reduceIte]; exact rfl⟩
def h179 : Sem := p179.1
theorem e179 : den x179.body = h179 := p179.2
def p199 : { h : Sem // den x199.body = h } := ⟨_, by simp -implicitDefEqProofs only [x199, d_seq, go_sem, Nat.reduceEqDiff, reduceIte]; exact rfl⟩
def h199 : Sem := p199.1
theorem e199 : den x199.body = h199 := p199.2
def p125 : { h : Sem // den x125.body = h } := ⟨_, by simp -implicitDefEqProofs only [x125, d_seq, go_sem, Nat.reduceEqDiff, reduceIte]; exact rfl⟩
def h125 : Sem := p125.1
theorem e125 : den x125.body = h125 := p125.2
def p145 : { h : Sem // den x145.body = h } := ⟨_, by simp -implicitDefEqProofs only [x145, d_seq, go_sem, Nat.reduceEqDiff, reduceIte]; exact rfl⟩
def h145 : Sem := p145.1
theorem e145 : den x145.body = h145 := p145.2
def p222 : { h : Sem // den x222.body = h } := ⟨_, by simp -implicitDefEqProofs only [x222, d_seq, go_sem, Nat.reduceEqDiff, reduceIte]; exact rfl⟩
def h222 : Sem := p222.1
theorem e222 : den x222.body = h222 := p222.2
def p234 : { h : Sem // den x234.body = h } := ⟨_, by simp -implicitDefEqProofs only [x234, d_seq, go_sem, Nat.reduceEqDiff, reduceIte]; exact rfl⟩
def h234 : Sem := p234.1
theorem e234 : den x234.body = h234 := p234.2
def p182 : { h : Sem // den x182.body = h } := ⟨_, by simp -implicitDefEqProofs only [x182, d_seq, go_sem, Nat.reduceEqDiff, reduceIte]; exact rfl⟩
def h182 : Sem := p182.1
theorem e182 : den x182.body = h182 := p182.2
def p233 : { h : Sem // den x233.body = h } := ⟨_, by simp -implicitDefEqProofs only [x233, d_seq, go_sem, Nat.reduceEqDiff, reduceIte]; exact rfl⟩
def h233 : Sem := p233.1
theorem e233 : den x233.body = h233 := p233.2
def p73 : { h : Sem // den x73.body = h } := ⟨_, by simp -implicitDefEqProofs only [x73, d_seq, go_sem, Nat.reduceEqDiff, reduceIte]; exact rfl⟩
def h73 : Sem := p73.1
theorem e73 : den x73.body = h73 := p73.2
def p198 : { h : Sem // den x198.body = h } := ⟨_, by simp -implicitDefEqProofs only [x198, d_seq, go_sem, Nat.reduceEqDiff, reduceIte]; exact rfl⟩
def h198 : Sem := p198.1
theorem e198 : den x198.body = h198 := p198.2
def p186 : { h : Sem // den x186.body = h } := ⟨_, by simp -implicitDefEqProofs only [x186, d_seq, go_sem, Nat.reduceEqDiff, reduceIte]; exact rfl⟩
def h186 : Sem := p186.1
theorem e186 : den x186.body = h186 := p186.2
def p143 : { h : Sem // den x143.body = h } := ⟨_, by simp -implicitDefEqProofs only [x143, d_seq, go_sem, Nat.reduceEqDiff, reduceIte]; exact rfl⟩
def h143 : Sem := p143.1
theorem e143 : den x143.body = h143 := p143.2
def p92 : { h : Sem // den x92.body = h } := ⟨_, by simp -implicitDefEqProofs only [x92, d_seq, go_sem, Nat.reduceEqDiff, reduceIte]; exact rfl⟩
def h92 : Sem := p92.1
theorem e92 : den x92.body = h92 := p92.2
def p232 : { h : Sem // den x232.body = h } := ⟨_, by simp -implicitDefEqProofs only [x232, d_seq, go_sem, Nat.reduceEqDiff, reduceIte]; exact rfl⟩
def h232 : Sem := p232.1
theorem e232 : den x232.body = h232 := p232.2
def p111 : { h : Sem // den x111.body = h } := ⟨_, by simp -implicitDefEqProofs only [x111, d_seq, go_sem, Nat.reduceEqDiff, reduceIte]; exact rfl⟩
def h111 : Sem := p111.1
theorem e111 : den x111.body = h111 := p111.2
def p144 : { h : Sem // den x144.body = h } := ⟨_, by simp -implicitDefEqProofs only [x144, d_seq, go_sem, Nat.reduceEqDiff, reduceIte]; exact rfl⟩
def h144 : Sem := p144.1
theorem e144 : den x144.body = h144 := p144.2
def p70 : { h : Sem // den x70.body = h } := ⟨_, by simp -implicitDefEqProofs only [x70, d_seq, go_sem, Nat.reduceEqDiff, reduceIte]; exact rfl⟩
def h70 : Sem := p70.1
theorem e70 : den x70.body = h70 := p70.2
def p115 : { h : Sem // den x115.body = h } := ⟨_, by simp -implicitDefEqProofs only [x115, d_seq, go_sem, Nat.reduceEqDiff, reduceIte]; exact rfl⟩
def h115 : Sem := p115.1
theorem e115 : den x115.body = h115 := p115.2
def p229 : { h : Sem // den x229.body = h } := ⟨_, by simp -implicitDefEqProofs only [x229, d_seq, go_sem, Nat.reduceEqDiff, reduceIte]; exact rfl⟩
def h229 : Sem := p229.1
theorem e229 : den x229.body = h229 := p229.2
def p90 : { h : Sem // den x90.body = h } := ⟨_, by simp -implicitDefEqProofs only [x90, d_seq, go_sem, Nat.reduceEqDiff, reduceIte]; exact rfl⟩
def h90 : Sem := p90.1
theorem e90 : den x90.body = h90 := p90.2
def p231 : { h : Sem // den x231.body = h } := ⟨_, by simp -implicitDefEqProofs only [x231, d_seq, go_sem, Nat.reduceEqDiff, reduceIte]; exact rfl⟩
def h231 : Sem := p231.1
theorem e231 : den x231.body = h231 := p231.2
def p80 : { h : Sem // den x80.body = h } := ⟨_, by simp -implicitDefEqProofs only [x80, d_seq, go_sem, Nat.reduceEqDiff, reduceIte]; exact rfl⟩
def h80 : Sem := p80.1
theorem e80 : den x80.body = h80 := p80.2
def p206 : { h : Sem // den x206.body = h } := ⟨_, by simp -implicitDefEqProofs only [x206, d_seq, go_sem, Nat.reduceEqDiff, reduceIte]; exact rfl⟩
def h206 : Sem := p206.1
theorem e206 : den x206.body = h206 := p206.2
def p215 : { h : Sem // den x215.body = h } := ⟨_, by simp -implicitDefEqProofs only [x215, d_seq, go_sem, Nat.reduceEqDiff, reduceIte]; exact rfl⟩
def h215 : Sem := p215.1
theorem e215 : den x215.body = h215 := p215.2
def p208 : { h : Sem // den x208.body = h } := ⟨_, by simp -implicitDefEqProofs only [x208, d_seq, go_sem, Nat.reduceEqDiff, reduceIte]; exact rfl⟩
def h208 : Sem := p208.1
theorem e208 : den x208.body = h208 := p208.2
def p108 : { h : Sem // den x108.body = h } := ⟨_, by simp -implicitDefEqProofs only [x108, d_seq, go_sem, Nat.reduceEqDiff, reduceIte]; exact rfl⟩
def h108 : Sem := p108.1
theorem e108 : den x108.body = h108 := p108.2
def p52 : { h : Sem // den x52.body = h } := ⟨_, by simp -implicitDefEqProofs only [x52, d_seq, go_sem, Nat.reduceEqDiff, reduceIte]; exact rfl⟩
def h52 : Sem := p52.1
theorem e52 : den x52.body = h52 := p52.2
def p124 : { h : Sem // den x124.body = h } := ⟨_, by simp -implicitDefEqProofs only [x124, d_seq, go_sem, Nat.reduceEqDiff, reduceIte]; exact rfl⟩
def h124 : Sem := p124.1
theorem e124 : den x124.body = h124 := p124.2
def p104 : { h : Sem // den x104.body = h } := ⟨_, by simp -implicitDefEqProofs only [x104, d_seq, go_sem, Nat.reduceEqDiff, reduceIte]; exact rfl⟩
def h104 : Sem := p104.1
theorem e104 : den x104.body = h104 := p104.2
def p123 : { h : Sem // den x123.body = h } := ⟨_, by simp -implicitDefEqProofs only [x123, d_seq, go_sem, Nat.reduceEqDiff, reduceIte]; exact rfl⟩
def h123 : Sem := p123.1
theorem e123 : den x123.body = h123 := p123.2
def p148 : { h : Sem // den x148.body = h } := ⟨_, by simp -implicitDefEqProofs only [x148, d_seq, go_sem, Nat.reduceEqDiff, reduceIte]; exact rfl⟩
def h148 : Sem := p148.1
theorem e148 : den x148.body = h148 := p148.2
def p116 : { h : Sem // den x116.body = h } := ⟨_, by simp -implicitDefEqProofs only [x116, d_seq, go_sem, Nat.reduceEqDiff, reduceIte]; exact rfl⟩
def h116 : Sem := p116.1
theorem e116 : den x116.body = h116 := p116.2
end
end Go.Ab
