/- The code as functions, computed. Printed by mkco2.py. -/
import Derived.Test.YtmofokakccionaaGreatDoorAbC0
import Derived.Test.YtmofokakccionaaGreatDoorAbC1
import Derived.Test.YtmofokakccionaaGreatDoorAbC2
import Derived.Test.YtmofokakccionaaGreatDoorAbC3
import Derived.Test.YtmofokakccionaaGreatDoorAm4
set_option linter.all false
namespace Go.Ab
set_option maxRecDepth 100000
set_option maxHeartbeats 4000000
noncomputable section
def p93 : { h : Sem // den x93.body = h } := ⟨_, by simp -implicitDefEqProofs only [x93, d_seq, go_sem, Nat.reduceEqDiff, reduceIte]; exact rfl⟩
def h93 : Sem := p93.1
theorem e93 : den x93.body = h93 := p93.2
def p97 : { h : Sem // den x97.body = h } := ⟨_, by simp -implicitDefEqProofs only [x97, d_seq, go_sem, Nat.reduceEqDiff, reduceIte]; exact rfl⟩
def h97 : Sem := p97.1
theorem e97 : den x97.body = h97 := p97.2
def p112 : { h : Sem // den x112.body = h } := ⟨_, by simp -implicitDefEqProofs only [x112, d_seq, go_sem, Nat.reduceEqDiff, reduceIte]; exact rfl⟩
def h112 : Sem := p112.1
theorem e112 : den x112.body = h112 := p112.2
def p96 : { h : Sem // den x96.body = h } := ⟨_, by simp -implicitDefEqProofs only [x96, d_seq, go_sem, Nat.reduceEqDiff, reduceIte]; exact rfl⟩
def h96 : Sem := p96.1
theorem e96 : den x96.body = h96 := p96.2
def p23 : { h : Sem // den x23.body = h } := ⟨_, by simp -implicitDefEqProofs only [x23, d_seq, go_sem, Nat.reduceEqDiff, reduceIte]; exact rfl⟩
def h23 : Sem := p23.1
theorem e23 : den x23.body = h23 := p23.2
def p139 : { h : Sem // den x139.body = h } := ⟨_, by simp -implicitDefEqProofs only [x139, d_seq, go_sem, Nat.reduceEqDiff, reduceIte]; exact rfl⟩
def h139 : Sem := p139.1
theorem e139 : den x139.body = h139 := p139.2
def p119 : { h : Sem // den x119.body = h } := ⟨_, by simp -implicitDefEqProofs only [x119, d_seq, go_sem, Nat.reduceEqDiff, reduceIte]; exact rfl⟩
def h119 : Sem := p119.1
theorem e119 : den x119.body = h119 := p119.2
def p113 : { h : Sem // den x113.body = h } := ⟨_, by simp -implicitDefEqProofs only [x113, d_seq, go_sem, Nat.reduceEqDiff, reduceIte]; exact rfl⟩
def h113 : Sem := p113.1
theorem e113 : den x113.body = h113 := p113.2
def p44 : { h : Sem // den x44.body = h } := ⟨_, by simp -implicitDefEqProofs only [x44, d_seq, go_sem, Nat.reduceEqDiff, reduceIte]; exact rfl⟩
def h44 : Sem := p44.1
theorem e44 : den x44.body = h44 := p44.2
def p182 : { h : Sem // den x182.body = h } := ⟨_, by simp -implicitDefEqProofs only [x182, d_seq, go_sem, Nat.reduceEqDiff, reduceIte]; exact rfl⟩
def h182 : Sem := p182.1
theorem e182 : den x182.body = h182 := p182.2
def p114 : { h : Sem // den x114.body = h } := ⟨_, by simp -implicitDefEqProofs only [x114, d_seq, go_sem, Nat.reduceEqDiff, reduceIte]; exact rfl⟩
def h114 : Sem := p114.1
theorem e114 : den x114.body = h114 := p114.2
def p198 : { h : Sem // den x198.body = h } := ⟨_, by simp -implicitDefEqProofs only [x198, d_seq, go_sem, Nat.reduceEqDiff, reduceIte]; exact rfl⟩
def h198 : Sem := p198.1
theorem e198 : den x198.body = h198 := p198.2
def p176 : { h : Sem // den x176.body = h } := ⟨_, by simp -implicitDefEqProofs only [x176, d_seq, go_sem, Nat.reduceEqDiff, reduceIte]; exact rfl⟩
def h176 : Sem := p176.1
theorem e176 : den x176.body = h176 := p176.2
def p143 : { h : Sem // den x143.body = h } := ⟨_, by simp -implicitDefEqProofs only [x143, d_seq, go_sem, Nat.reduceEqDiff, reduceIte]; exact rfl⟩
def h143 : Sem := p143.1
theorem e143 : den x143.body = h143 := p143.2
def p150 : { h : Sem // den x150.body = h } := ⟨_, by simp -implicitDefEqProofs only [x150, d_seq, go_sem, Nat.reduceEqDiff, reduceIte]; exact rfl⟩
def h150 : Sem := p150.1
theorem e150 : den x150.body = h150 := p150.2
def p117 : { h : Sem // den x117.body = h } := ⟨_, by simp -implicitDefEqProofs only [x117, d_seq, go_sem, Nat.reduceEqDiff, reduceIte]; exact rfl⟩
def h117 : Sem := p117.1
theorem e117 : den x117.body = h117 := p117.2
def p153 : { h : Sem // den x153.body = h } := ⟨_, by simp -implicitDefEqProofs only [x153, d_seq, go_sem, Nat.reduceEqDiff, reduceIte]; exact rfl⟩
def h153 : Sem := p153.1
theorem e153 : den x153.body = h153 := p153.2
def p54 : { h : Sem // den x54.body = h } := ⟨_, by simp -implicitDefEqProofs only [x54, d_seq, go_sem, Nat.reduceEqDiff, reduceIte]; exact rfl⟩
def h54 : Sem := p54.1
theorem e54 : den x54.body = h54 := p54.2
def p115 : { h : Sem // den x115.body = h } := ⟨_, by simp -implicitDefEqProofs only [x115, d_seq, go_sem, Nat.reduceEqDiff, reduceIte]; exact rfl⟩
def h115 : Sem := p115.1
theorem e115 : den x115.body = h115 := p115.2
def p169 : { h : Sem // den x169.body = h } := ⟨_, by simp -implicitDefEqProofs only [x169, d_seq, go_sem, Nat.reduceEqDiff, reduceIte]; exact rfl⟩
def h169 : Sem := p169.1
theorem e169 : den x169.body = h169 := p169.2
def p82 : { h : Sem // den x82.body = h } := ⟨_, by simp -implicitDefEqProofs only [x82, d_seq, go_sem, Nat.reduceEqDiff, reduceIte]; exact rfl⟩
def h82 : Sem := p82.1
theorem e82 : den x82.body = h82 := p82.2
def p196 : { h : Sem // den x196.body = h } := ⟨_, by simp -implicitDefEqProofs only [x196, d_seq, go_sem, Nat.reduceEqDiff, reduceIte]; exact rfl⟩
def h196 : Sem := p196.1
theorem e196 : den x196.body = h196 := p196.2
def p140 : { h : Sem // den x140.body = h } := ⟨_, by simp -implicitDefEqProofs only [x140, d_seq, go_sem, Nat.reduceEqDiff, reduceIte]; exact rfl⟩
def h140 : Sem := p140.1
theorem e140 : den x140.body = h140 := p140.2
def p47 : { h : Sem // den x47.body = h } := ⟨_, by simp -implicitDefEqProofs only [x47, d_seq, go_sem, Nat.reduceEqDiff, reduceIte]; exact rfl⟩
def h47 : Sem := p47.1
theorem e47 : den x47.body = h47 := p47.2
def p212 : { h : Sem // den x212.body = h } := ⟨_, by simp -implicitDefEqProofs only [x212, d_seq, go_sem, Nat.reduceEqDiff, reduceIte]; exact rfl⟩
def h212 : Sem := p212.1
theorem e212 : den x212.body = h212 := p212.2
def p209 : { h : Sem // den x209.body = h } := ⟨_, by simp -implicitDefEqProofs only [x209, d_seq, go_sem, Nat.reduceEqDiff, reduceIte]; exact rfl⟩
def h209 : Sem := p209.1
theorem e209 : den x209.body = h209 := p209.2
def p203 : { h : Sem // den x203.body = h } := ⟨_, by simp -implicitDefEqProofs only [x203, d_seq, go_sem, Nat.reduceEqDiff, reduceIte]; exact rfl⟩
def h203 : Sem := p203.1
theorem e203 : den x203.body = h203 := p203.2
def p122 : { h : Sem // den x122.body = h } := ⟨_, by simp -implicitDefEqProofs only [x122, d_seq, go_sem, Nat.reduceEqDiff, reduceIte]; exact rfl⟩
def h122 : Sem := p122.1
theorem e122 : den x122.body = h122 := p122.2
def p102 : { h : Sem // den x102.body = h } := ⟨_, by simp -implicitDefEqProofs only [x102, d_seq, go_sem, Nat.reduceEqDiff, reduceIte]; exact rfl⟩
def h102 : Sem := p102.1
theorem e102 : den x102.body = h102 := p102.2
def p214 : { h : Sem // den x214.body = h } := ⟨_, by simp -implicitDefEqProofs only [x214, d_seq, go_sem, Nat.reduceEqDiff, reduceIte]; exact rfl⟩
def h214 : Sem := p214.1
theorem e214 : den x214.body = h214 := p214.2
def p94 : { h : Sem // den x94.body = h } := ⟨_, by simp -implicitDefEqProofs only [x94, d_seq, go_sem, Nat.reduceEqDiff, reduceIte]; exact rfl⟩
def h94 : Sem := p94.1
theorem e94 : den x94.body = h94 := p94.2
def p116 : { h : Sem // den x116.body = h } := ⟨_, by simp -implicitDefEqProofs only [x116, d_seq, go_sem, Nat.reduceEqDiff, reduceIte]; exact rfl⟩
def h116 : Sem := p116.1
theorem e116 : den x116.body = h116 := p116.2
end
end Go.Ab
