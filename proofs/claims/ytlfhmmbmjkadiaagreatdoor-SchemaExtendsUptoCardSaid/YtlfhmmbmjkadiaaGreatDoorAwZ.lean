import Derived.Test.YtlfhmmbmjkadiaaGreatDoorAwXK
import Derived.KernelRfl
set_option linter.all false
namespace Go.Ab
set_option maxRecDepth 100000
section
variable {P:Program} {G:ce}
noncomputable def En.graft (b l:En P G)(hmix:P.follows .mixedOrders=true)(f:Nat)(kn:List (List Da×R))(h:∀p∈kn,nG l.tabH 3000 f (p.1.map .p) []=p.2):En P G where
 tabH g:=ado (Nat.beq g f) (some (.prim (_root_.Go.Ab.memo kn))) (b.tabH g)
 tab g:=bif Nat.beq g f then some (.prim (_root_.Go.Ab.memo kn))else b.tab g
 same g:=A4 rfl (b.same g)
 ok L:= @UH L P G b.tab (b.ok L) f _ (@WM L P G _ (l.call hmix L 3000) f kn fun p hp=> .inr (h p hp))
end
theorem ajw:nG layK.tabH 3000 8 [] []=some ((.p (.bool true)),[]):=by kernel_rfl
noncomputable def lay0:En prog0 globs0:=(layB.graft layK AQ 8 [([],some ((.p (.bool true)),[]))] (by
 intro p hp;simp only[mγ,List.not_mem_nil,or_false]at hp;subst hp;exact ajw)).graft layS AQ 9 knV (by
 intro p hp;simp only[knV,mγ,List.not_mem_nil,or_false]at hp;subst hp;exact ae4)
end Go.Ab
