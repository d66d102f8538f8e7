import Derived.Test.YtbgddkffhndjcaaGreatDoorAwXF
import Derived.KernelRfl
set_option linter.all false
namespace Go.Ab
open Go
set_option maxRecDepth 100000
theorem Zb:Dc layF.tabH 3000 7 [] []=some ((.p (.bool true)),[]):=by kernel_rfl
noncomputable def Db.memoOf {P:Program}{G:bF}(l l2:Db P G)(hmix:P.follows .mixedOrders=true)(f:Nat)(kn:List (List Da×R))(h:∀p∈kn,Dc l2.tabH 3000 f (p.1.map .p) []=p.2):Db P G where
 tabH g:=Wi (Nat.beq g f) (some (.prim (Ay kn (Dc l2.tabH 3000) f))) (l.tabH g)
 tab g:=bif Nat.beq g f then some (.prim (Ay kn (Dc l2.tabH 3000) f))else l.tab g
 same g:=AQ rfl (l.same g)
 ok L:= @JC L P G l.tab (l.ok L) f _ (@xO L P G _ (l2.call hmix L 3000) f kn fun p hp=> .inr (h p hp))
noncomputable def lay0:Db prog0 globs0:=layB.memoOf layF Ls 7 [([],some ((.p (.bool true)),[]))] (by
 intro p hp;simp only[lψ,List.not_mem_nil,or_false]at hp;subst hp;exact Zb)
end Go.Ab
