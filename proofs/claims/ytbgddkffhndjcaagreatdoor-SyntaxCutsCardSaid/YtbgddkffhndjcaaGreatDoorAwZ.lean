import Derived.Test.YtbgddkffhndjcaaGreatDoorAwXF
import Derived.KernelRfl
set_option linter.all false
namespace Go.Ab
open Go
set_option maxRecDepth 100000
theorem Vh:Be layF.tabH 3000 7 [] []=some ((.p (.bool true)),[]):=by kernel_rfl
noncomputable def Bd.memoOf {P:Program}{G:bx}(l l2:Bd P G)(hmix:P.follows .mixedOrders=true)(f:Nat)(kn:List (List Da×R))(h:∀p∈kn,Be l2.tabH 3000 f (p.1.map .p) []=p.2):Bd P G where
 tabH g:=SC (Nat.beq g f) (some (.prim (yF kn (Be l2.tabH 3000) f))) (l.tabH g)
 tab g:=bif Nat.beq g f then some (.prim (yF kn (Be l2.tabH 3000) f))else l.tab g
 same g:=yX rfl (l.same g)
 ok L:= @Hl L P G l.tab (l.ok L) f _ (@vZ L P G _ (l2.call hmix L 3000) f kn fun p hp=> .inr (h p hp))
noncomputable def lay0:Bd prog0 globs0:=layB.memoOf layF I8 7 [([],some ((.p (.bool true)),[]))] (by
 intro p hp;simp only[lω,List.not_mem_nil,or_false]at hp;subst hp;exact Vh)
end Go.Ab
