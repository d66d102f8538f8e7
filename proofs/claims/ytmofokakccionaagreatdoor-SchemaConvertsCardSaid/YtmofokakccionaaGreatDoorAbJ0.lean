/- The code as functions, computed. Printed by mkco2.py. -/
import Derived.Test.YtmofokakccionaaGreatDoorAbC0
import Derived.Test.YtmofokakccionaaGreatDoorAbC1
import Derived.Test.YtmofokakccionaaGreatDoorAbC2
import Derived.Test.YtmofokakccionaaGreatDoorAbC3
import Derived.Test.YtmofokakccionaaGreatDoorAm4
set_option linter.all false
namespace Go.Ab
set_option maxRecDepth 100000
set_option maxHeartbeats 4000000
noncomputable section
def p235 : { h : Sem // den x235.body = h } := ⟨_, by simp -implicitDefEqProofs only [x235, d_seq, go_sem, Nat.reduceEqDiff, reduceIte]; exact rfl⟩
def h235 : Sem := p235.1
theorem e235 : den x235.body = h235 := p235.2
def p177 : { h : Sem // den x177.body = h } := ⟨_, by simp -implicitDefEqProofs only [x177, d_seq, go_sem, Nat.reduceEqDiff, reduceIte]; exact rfl⟩
def h177 : Sem := p177.1
theorem e177 : den x177.body = h177 := p177.2
def p32 : { h : Sem // den x32.body = h } := ⟨_, by simp -implicitDefEqProofs only [x32, d_seq, go_sem, Nat.reduceEqDiff, reduceIte]; exact rfl⟩
def h32 : Sem := p32.1
theorem e32 : den x32.body = h32 := p32.2
def p199 : { h : Sem // den x199.body = h } := ⟨_, by simp -implicitDefEqProofs only [x199, d_seq, go_sem, Nat.reduceEqDiff, reduceIte]; exact rfl⟩
def h199 : Sem := p199.1
theorem e199 : den x199.body = h199 := p199.2
def p154 : { h : Sem // den x154.body = h } := ⟨_, by simp -implicitDefEqProofs only [x154, d_seq, go_sem, Nat.reduceEqDiff, reduceIte]; exact rfl⟩
def h154 : Sem := p154.1
theorem e154 : den x154.body = h154 := p154.2
def p35 : { h : Sem // den x35.body = h } := ⟨_, by simp -implicitDefEqProofs only [x35, d_seq, go_sem, Nat.reduceEqDiff, reduceIte]; exact rfl⟩
def h35 : Sem := p35.1
theorem e35 : den x35.body = h35 := p35.2
def p34 : { h : Sem // den x34.body = h } := ⟨_, by simp -implicitDefEqProofs only [x34, d_seq, go_sem, Nat.reduceEqDiff, reduceIte]; exact rfl⟩
def h34 : Sem := p34.1
theorem e34 : den x34.body = h34 := p34.2
def p11 : { h : Sem // den x11.body = h } := ⟨_, by simp -implicitDefEqProofs only [x11, d_seq, go_sem, Nat.reduceEqDiff, reduceIte]; exact rfl⟩
def h11 : Sem := p11.1
theorem e11 : den x11.body = h11 := p11.2
def p44 : { h : Sem // den x44.body = h } := ⟨_, by simp -implicitDefEqProofs only [x44, d_seq, go_sem, Nat.reduceEqDiff, reduceIte]; exact rfl⟩
def h44 : Sem := p44.1
theorem e44 : den x44.body = h44 := p44.2
def p182 : { h : Sem // den x182.body = h } := ⟨_, by simp -implicitDefEqProofs only [x182, d_seq, go_sem, Nat.reduceEqDiff, reduceIte]; exact rfl⟩
def h182 : Sem := p182.1
theorem e182 : den x182.body = h182 := p182.2
def p223 : { h : Sem // den x223.body = h } := ⟨_, by simp -implicitDefEqProofs only [x223, d_seq, go_sem, Nat.reduceEqDiff, reduceIte]; exact rfl⟩
def h223 : Sem := p223.1
theorem e223 : den x223.body = h223 := p223.2
def p73 : { h : Sem // den x73.body = h } := ⟨_, by simp -implicitDefEqProofs only [x73, d_seq, go_sem, Nat.reduceEqDiff, reduceIte]; exact rfl⟩
def h73 : Sem := p73.1
theorem e73 : den x73.body = h73 := p73.2
def p68 : { h : Sem // den x68.body = h } := ⟨_, by simp -implicitDefEqProofs only [x68, d_seq, go_sem, Nat.reduceEqDiff, reduceIte]; exact rfl⟩
def h68 : Sem := p68.1
theorem e68 : den x68.body = h68 := p68.2
def p152 : { h : Sem // den x152.body = h } := ⟨_, by simp -implicitDefEqProofs only [x152, d_seq, go_sem, Nat.reduceEqDiff, reduceIte]; exact rfl⟩
def h152 : Sem := p152.1
theorem e152 : den x152.body = h152 := p152.2
def p143 : { h : Sem // den x143.body = h } := ⟨_, by simp -implicitDefEqProofs only [x143, d_seq, go_sem, Nat.reduceEqDiff, reduceIte]; exact rfl⟩
def h143 : Sem := p143.1
theorem e143 : den x143.body = h143 := p143.2
def p150 : { h : Sem // den x150.body = h } := ⟨_, by simp -implicitDefEqProofs only [x150, d_seq, go_sem, Nat.reduceEqDiff, reduceIte]; exact rfl⟩
def h150 : Sem := p150.1
theorem e150 : den x150.body = h150 := p150.2
def p126 : { h : Sem // den x126.body = h } := ⟨_, by simp -implicitDefEqProofs only [x126, d_seq, go_sem, Nat.reduceEqDiff, reduceIte]; exact rfl⟩
def h126 : Sem := p126.1
theorem e126 : den x126.body = h126 := p126.2
def p153 : { h : Sem // den x153.body = h } := ⟨_, by simp -implicitDefEqProofs only [x153, d_seq, go_sem, Nat.reduceEqDiff, reduceIte]; exact rfl⟩
def h153 : Sem := p153.1
theorem e153 : den x153.body = h153 := p153.2
def p144 : { h : Sem // den x144.body = h } := ⟨_, by simp -implicitDefEqProofs only [x144, d_seq, go_sem, Nat.reduceEqDiff, reduceIte]; exact rfl⟩
def h144 : Sem := p144.1
theorem e144 : den x144.body = h144 := p144.2
def p54 : { h : Sem // den x54.body = h } := ⟨_, by simp -implicitDefEqProofs only [x54, d_seq, go_sem, Nat.reduceEqDiff, reduceIte]; exact rfl⟩
def h54 : Sem := p54.1
theorem e54 : den x54.body = h54 := p54.2
def p45 : { h : Sem // den x45.body = h } := ⟨_, by simp -implicitDefEqProofs only [x45, d_seq, go_sem, Nat.reduceEqDiff, reduceIte]; exact rfl⟩
def h45 : Sem := p45.1
theorem e45 : den x45.body = h45 := p45.2
def p205 : { h : Sem // den x205.body = h } := ⟨_, by simp -implicitDefEqProofs only [x205, d_seq, go_sem, Nat.reduceEqDiff, reduceIte]; exact rfl⟩
def h205 : Sem := p205.1
theorem e205 : den x205.body = h205 := p205.2
def p171 : { h : Sem // den x171.body = h } := ⟨_, by simp -implicitDefEqProofs only [x171, d_seq, go_sem, Nat.reduceEqDiff, reduceIte]; exact rfl⟩
def h171 : Sem := p171.1
theorem e171 : den x171.body = h171 := p171.2
def p137 : { h : Sem // den x137.body = h } := ⟨_, by simp -implicitDefEqProofs only [x137, d_seq, go_sem, Nat.reduceEqDiff, reduceIte]; exact rfl⟩
def h137 : Sem := p137.1
theorem e137 : den x137.body = h137 := p137.2
def p80 : { h : Sem // den x80.body = h } := ⟨_, by simp -implicitDefEqProofs only [x80, d_seq, go_sem, Nat.reduceEqDiff, reduceIte]; exact rfl⟩
def h80 : Sem := p80.1
theorem e80 : den x80.body = h80 := p80.2
def p195 : { h : Sem // den x195.body = h } := ⟨_, by simp -implicitDefEqProofs only [x195, d_seq, go_sem, Nat.reduceEqDiff, reduceIte]; exact rfl⟩
def h195 : Sem := p195.1
theorem e195 : den x195.body = h195 := p195.2
def p48 : { h : Sem // den x48.body = h } := ⟨_, by simp -implicitDefEqProofs only [x48, d_seq, go_sem, Nat.reduceEqDiff, reduceIte]; exact rfl⟩
def h48 : Sem := p48.1
theorem e48 : den x48.body = h48 := p48.2
def p174 : { h : Sem // den x174.body = h } := ⟨_, by simp -implicitDefEqProofs only [x174, d_seq, go_sem, Nat.reduceEqDiff, reduceIte]; exact rfl⟩
def h174 : Sem := p174.1
theorem e174 : den x174.body = h174 := p174.2
def p72 : { h : Sem // den x72.body = h } := ⟨_, by simp -implicitDefEqProofs only [x72, d_seq, go_sem, Nat.reduceEqDiff, reduceIte]; exact rfl⟩
def h72 : Sem := p72.1
theorem e72 : den x72.body = h72 := p72.2
def p52 : { h : Sem // den x52.body = h } := ⟨_, by simp -implicitDefEqProofs only [x52, d_seq, go_sem, Nat.reduceEqDiff, reduceIte]; exact rfl⟩
def h52 : Sem := p52.1
theorem e52 : den x52.body = h52 := p52.2
def p124 : { h : Sem // den x124.body = h } := ⟨_, by simp -implicitDefEqProofs only [x124, d_seq, go_sem, Nat.reduceEqDiff, reduceIte]; exact rfl⟩
def h124 : Sem := p124.1
theorem e124 : den x124.body = h124 := p124.2
def p104 : { h : Sem // den x104.body = h } := ⟨_, by simp -implicitDefEqProofs only [x104, d_seq, go_sem, Nat.reduceEqDiff, reduceIte]; exact rfl⟩
def h104 : Sem := p104.1
theorem e104 : den x104.body = h104 := p104.2
def p214 : { h : Sem // den x214.body = h } := ⟨_, by simp -implicitDefEqProofs only [x214, d_seq, go_sem, Nat.reduceEqDiff, reduceIte]; exact rfl⟩
def h214 : Sem := p214.1
theorem e214 : den x214.body = h214 := p214.2
def p69 : { h : Sem // den x69.body = h } := ⟨_, by simp -implicitDefEqProofs only [x69, d_seq, go_sem, Nat.reduceEqDiff, reduceIte]; exact rfl⟩
def h69 : Sem := p69.1
theorem e69 : den x69.body = h69 := p69.2
def p211 : { h : Sem // den x211.body = h } := ⟨_, by simp -implicitDefEqProofs only [x211, d_seq, go_sem, Nat.reduceEqDiff, reduceIte]; exact rfl⟩
def h211 : Sem := p211.1
theorem e211 : den x211.body = h211 := p211.2
end
end Go.Ab
