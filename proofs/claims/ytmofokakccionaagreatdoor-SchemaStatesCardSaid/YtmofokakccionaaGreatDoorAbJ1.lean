/- The code as functions, computed. Printed by mkco2.py. -/
import Derived.Test.YtmofokakccionaaGreatDoorAbC0
import Derived.Test.YtmofokakccionaaGreatDoorAbC1
import Derived.Test.YtmofokakccionaaGreatDoorAbC2
import Derived.Test.YtmofokakccionaaGreatDoorAbC3
import Derived.Test.YtmofokakccionaaGreatDoorAm4
set_option linter.all false
namespace Go.Ab
set_option maxRecDepth 100000
set_option maxHeartbeats 4000000
noncomputable section
def p93 : { h : Sem // den x93.body = h } := ⟨_, by simp -implicitDefEqProofs only [x93, d_seq, go_sem, Nat.reduceEqDiff, reduceIte]; exact rfl⟩
def h93 : Sem := p93.1
theorem e93 : den x93.body = h93 := p93.2
def p97 : { h : Sem // den x97.body = h } := ⟨_, by simp -implicitDefEqProofs only [x97, d_seq, go_sem, Nat.reduceEqDiff, reduceIte]; exact rfl⟩
def h97 : Sem := p97.1
theorem e97 : den x97.body = h97 := p97.2
def p112 : { h : Sem // den x112.body = h } := ⟨_, by simp -implicitDefEqProofs only [x112, d_seq, go_sem, Nat.reduceEqDiff, reduceIte]; exact rfl⟩
def h112 : Sem := p112.1
theorem e112 : den x112.body = h112 := p112.2
def p32 : { h : Sem // den x32.body = h } := ⟨_, by simp -implicitDefEqProofs only [x32, d_seq, go_sem, Nat.reduceEqDiff, reduceIte]; exact rfl⟩
def h32 : Sem := p32.1
theorem e32 : den x32.body = h32 := p32.2
def p183 : { h : Sem // den x183.body = h } := ⟨_, by simp -implicitDefEqProofs only [x183, d_seq, go_sem, Nat.reduceEqDiff, reduceIte]; exact rfl⟩
def h183 : Sem := p183.1
theorem e183 : den x183.body = h183 := p183.2
def p139 : { h : Sem // den x139.body = h } := ⟨_, by simp -implicitDefEqProofs only [x139, d_seq, go_sem, Nat.reduceEqDiff, reduceIte]; exact rfl⟩
def h139 : Sem := p139.1
theorem e139 : den x139.body = h139 := p139.2
def p34 : { h : Sem // den x34.body = h } := ⟨_, by simp -implicitDefEqProofs only [x34, d_seq, go_sem, Nat.reduceEqDiff, reduceIte]; exact rfl⟩
def h34 : Sem := p34.1
theorem e34 : den x34.body = h34 := p34.2
def p18 : { h : Sem // den x18.body = h } := ⟨_, by simp -implicitDefEqProofs only [x18, d_seq, go_sem, Nat.reduceEqDiff, reduceIte]; exact rfl⟩
def h18 : Sem := p18.1
theorem e18 : den x18.body = h18 := p18.2
def p79 : { h : Sem // den x79.body = h } := ⟨_, by simp -implicitDefEqProofs only [x79, d_seq, go_sem, Nat.reduceEqDiff, reduceIte]; exact rfl⟩
def h79 : Sem := p79.1
theorem e79 : den x79.body = h79 := p79.2
def p19 : { h : Sem // den x19.body = h } := ⟨_, by simp -implicitDefEqProofs only [x19, d_seq, go_sem, Nat.reduceEqDiff, reduceIte]; exact rfl⟩
def h19 : Sem := p19.1
theorem e19 : den x19.body = h19 := p19.2
def p180 : { h : Sem // den x180.body = h } := ⟨_, by simp -implicitDefEqProofs only [x180, d_seq, go_sem, Nat.reduceEqDiff, reduceIte]; exact rfl⟩
def h180 : Sem := p180.1
theorem e180 : den x180.body = h180 := p180.2
def p151 : { h : Sem // den x151.body = h } := ⟨_, by simp -implicitDefEqProofs only [x151, d_seq, go_sem, Nat.reduceEqDiff, reduceIte]; exact rfl⟩
def h151 : Sem := p151.1
theorem e151 : den x151.body = h151 := p151.2
def p118 : { h : Sem // den x118.body = h } := ⟨_, by simp -implicitDefEqProofs only [x118, d_seq, go_sem, Nat.reduceEqDiff, reduceIte]; exact rfl⟩
def h118 : Sem := p118.1
theorem e118 : den x118.body = h118 := p118.2
def p37 : { h : Sem // den x37.body = h } := ⟨_, by simp -implicitDefEqProofs only [x37, d_seq, go_sem, Nat.reduceEqDiff, reduceIte]; exact rfl⟩
def h37 : Sem := p37.1
theorem e37 : den x37.body = h37 := p37.2
def p225 : { h : Sem // den x225.body = h } := ⟨_, by simp -implicitDefEqProofs only [x225, d_seq, go_sem, Nat.reduceEqDiff, reduceIte]; exact rfl⟩
def h225 : Sem := p225.1
theorem e225 : den x225.body = h225 := p225.2
def p83 : { h : Sem // den x83.body = h } := ⟨_, by simp -implicitDefEqProofs only [x83, d_seq, go_sem, Nat.reduceEqDiff, reduceIte]; exact rfl⟩
def h83 : Sem := p83.1
theorem e83 : den x83.body = h83 := p83.2
def p200 : { h : Sem // den x200.body = h } := ⟨_, by simp -implicitDefEqProofs only [x200, d_seq, go_sem, Nat.reduceEqDiff, reduceIte]; exact rfl⟩
def h200 : Sem := p200.1
theorem e200 : den x200.body = h200 := p200.2
def p218 : { h : Sem // den x218.body = h } := ⟨_, by simp -implicitDefEqProofs only [x218, d_seq, go_sem, Nat.reduceEqDiff, reduceIte]; exact rfl⟩
def h218 : Sem := p218.1
theorem e218 : den x218.body = h218 := p218.2
def p106 : { h : Sem // den x106.body = h } := ⟨_, by simp -implicitDefEqProofs only [x106, d_seq, go_sem, Nat.reduceEqDiff, reduceIte]; exact rfl⟩
def h106 : Sem := p106.1
theorem e106 : den x106.body = h106 := p106.2
def p237 : { h : Sem // den x237.body = h } := ⟨_, by simp -implicitDefEqProofs only [x237, d_seq, go_sem, Nat.reduceEqDiff, reduceIte]; exact rfl⟩
def h237 : Sem := p237.1
theorem e237 : den x237.body = h237 := p237.2
def p201 : { h : Sem // den x201.body = h } := ⟨_, by simp -implicitDefEqProofs only [x201, d_seq, go_sem, Nat.reduceEqDiff, reduceIte]; exact rfl⟩
def h201 : Sem := p201.1
theorem e201 : den x201.body = h201 := p201.2
def p169 : { h : Sem // den x169.body = h } := ⟨_, by simp -implicitDefEqProofs only [x169, d_seq, go_sem, Nat.reduceEqDiff, reduceIte]; exact rfl⟩
def h169 : Sem := p169.1
theorem e169 : den x169.body = h169 := p169.2
def p171 : { h : Sem // den x171.body = h } := ⟨_, by simp -implicitDefEqProofs only [x171, d_seq, go_sem, Nat.reduceEqDiff, reduceIte]; exact rfl⟩
def h171 : Sem := p171.1
theorem e171 : den x171.body = h171 := p171.2
def p137 : { h : Sem // den x137.body = h } := ⟨_, by simp -implicitDefEqProofs only [x137, d_seq, go_sem, Nat.reduceEqDiff, reduceIte]; exact rfl⟩
def h137 : Sem := p137.1
theorem e137 : den x137.body = h137 := p137.2
def p140 : { h : Sem // den x140.body = h } := ⟨_, by simp -implicitDefEqProofs only [x140, d_seq, go_sem, Nat.reduceEqDiff, reduceIte]; exact rfl⟩
def h140 : Sem := p140.1
theorem e140 : den x140.body = h140 := p140.2
def p46 : { h : Sem // den x46.body = h } := ⟨_, by simp -implicitDefEqProofs only [x46, d_seq, go_sem, Nat.reduceEqDiff, reduceIte]; exact rfl⟩
def h46 : Sem := p46.1
theorem e46 : den x46.body = h46 := p46.2
def p65 : { h : Sem // den x65.body = h } := ⟨_, by simp -implicitDefEqProofs only [x65, d_seq, go_sem, Nat.reduceEqDiff, reduceIte]; exact rfl⟩
def h65 : Sem := p65.1
theorem e65 : den x65.body = h65 := p65.2
def p212 : { h : Sem // den x212.body = h } := ⟨_, by simp -implicitDefEqProofs only [x212, d_seq, go_sem, Nat.reduceEqDiff, reduceIte]; exact rfl⟩
def h212 : Sem := p212.1
theorem e212 : den x212.body = h212 := p212.2
def p209 : { h : Sem // den x209.body = h } := ⟨_, by simp -implicitDefEqProofs only [x209, d_seq, go_sem, Nat.reduceEqDiff, reduceIte]; exact rfl⟩
def h209 : Sem := p209.1
theorem e209 : den x209.body = h209 := p209.2
def p203 : { h : Sem // den x203.body = h } := ⟨_, by simp -implicitDefEqProofs only [x203, d_seq, go_sem, Nat.reduceEqDiff, reduceIte]; exact rfl⟩
def h203 : Sem := p203.1
theorem e203 : den x203.body = h203 := p203.2
def p122 : { h : Sem // den x122.body = h } := ⟨_, by simp -implicitDefEqProofs only [x122, d_seq, go_sem, Nat.reduceEqDiff, reduceIte]; exact rfl⟩
def h122 : Sem := p122.1
theorem e122 : den x122.body = h122 := p122.2
def p219 : { h : Sem // den x219.body = h } := ⟨_, by simp -implicitDefEqProofs only [x219, d_seq, go_sem, Nat.reduceEqDiff, reduceIte]; exact rfl⟩
def h219 : Sem := p219.1
theorem e219 : den x219.body = h219 := p219.2
def p51 : { h : Sem // den x51.body = h } := ⟨_, by simp -implicitDefEqProofs only [x51, d_seq, go_sem, Nat.reduceEqDiff, reduceIte]; exact rfl⟩
def h51 : Sem := p51.1
theorem e51 : den x51.body = h51 := p51.2
def p94 : { h : Sem // den x94.body = h } := ⟨_, by simp -implicitDefEqProofs only [x94, d_seq, go_sem, Nat.reduceEqDiff, reduceIte]; exact rfl⟩
def h94 : Sem := p94.1
theorem e94 : den x94.body = h94 := p94.2
def p211 : { h : Sem // den x211.body = h } := ⟨_, by simp -implicitDefEqProofs only [x211, d_seq, go_sem, Nat.reduceEqDiff, reduceIte]; exact rfl⟩
def h211 : Sem := p211.1
theorem e211 : den x211.body = h211 := p211.2
end
end Go.Ab
