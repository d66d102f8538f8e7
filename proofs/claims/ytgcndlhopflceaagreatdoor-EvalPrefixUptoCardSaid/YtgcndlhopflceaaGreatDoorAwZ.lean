import Derived.Test.YtgcndlhopflceaaGreatDoorAwXS
import Derived.KernelRfl
set_option linter.all false
namespace Go.Ab
open Go
set_option maxRecDepth 100000
def ab8:R3 layS.tabH 3000 5 [] []=some ((.p (.bool true)),[]):=by kernel_rfl
noncomputable def Hq.memoOf {P:Program}{G:bY}(l l2:Hq P G)(hmix:P.follows .mixedOrders=true)(f:Nat)(kn:List (LD×R))(h:∀p∈kn,R3 l2.tabH 3000 f (p.1.map .p) []=p.2):Hq P G where
 tabH g:=ϴ (Nat.beq g f) (some (.prim (Cw kn (R3 l2.tabH 3000) f))) (l.tabH g)
 tab g:=bif Nat.beq g f then some (.prim (Cw kn (R3 l2.tabH 3000) f))else l.tab g
 same g:=CL rfl (l.same g)
 ok L:= @PQ L P G l.tab (l.ok L) f _ (@zo L P G _ (l2.call hmix L 3000) f kn fun p hp=> .inr (h p hp))
noncomputable def lay0:Hq prog0 globs0:=layB.memoOf layS EI 5 [([],some ((.p (.bool true)),[]))] (by
 intro p hp;simp only[mδ,List.not_mem_nil,or_false]at hp;subst hp;exact ab8)
end Go.Ab
