import Derived.Test.YtmnmeiibmgcddaaGreatDoorAwXV
import Derived.KernelRfl
set_option linter.all false
namespace Go.Ab
open Go
set_option maxRecDepth 100000
def Ă:F0 layV.tabH 3000 9 [] []=some ((.p (.bool true)),[]):=by kernel_rfl
noncomputable def tR.memoOf {P:Program}{G:bH}(l l2:tR P G)(hmix:P.follows .mixedOrders=true)(f:Nat)(kn:List (LD×R))(h:∀p∈kn,F0 l2.tabH 3000 f (p.1.map .p) []=p.2):tR P G where
 tabH g:=T2 (Nat.beq g f) (some (.prim (yc kn (F0 l2.tabH 3000) f))) (l.tabH g)
 tab g:=bif Nat.beq g f then some (.prim (yc kn (F0 l2.tabH 3000) f))else l.tab g
 same g:=Ż rfl (l.same g)
 ok L:= @I3 L P G l.tab (l.ok L) f _ (@uR L P G _ (l2.call hmix L 3000) f kn fun p hp=> .inr (h p hp))
noncomputable def lay0:tR prog0 globs0:=layB.memoOf layV uT 9 [([],some ((.p (.bool true)),[]))] (by
 intro p hp;simp only[lω,List.not_mem_nil,or_false]at hp;subst hp;exact Ă)
end Go.Ab
