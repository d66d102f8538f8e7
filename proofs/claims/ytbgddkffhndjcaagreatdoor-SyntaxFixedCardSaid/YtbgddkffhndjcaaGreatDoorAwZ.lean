import Derived.Test.YtbgddkffhndjcaaGreatDoorAwXF
import Derived.KernelRfl
set_option linter.all false
namespace Go.Ab
open Go
set_option maxRecDepth 100000
def afD:IJ layF.tabH 3000 7 [] []=some ((.p (.bool true)),[]):=by kernel_rfl
noncomputable def IG.memoOf {P:Program}{G:bV}(l l2:IG P G)(hmix:P.follows .mixedOrders=true)(f:Nat)(kn:List (LD×R))(h:∀p∈kn,IJ l2.tabH 3000 f (p.1.map .p) []=p.2):IG P G where
 tabH g:=acA (Nat.beq g f) (some (.prim (EU kn (IJ l2.tabH 3000) f))) (l.tabH g)
 tab g:=bif Nat.beq g f then some (.prim (EU kn (IJ l2.tabH 3000) f))else l.tab g
 same g:=Fh rfl (l.same g)
 ok L:= @Tz L P G l.tab (l.ok L) f _ (@BH L P G _ (l2.call hmix L 3000) f kn fun p hp=> .inr (h p hp))
noncomputable def lay0:IG prog0 globs0:=layB.memoOf layF VY 7 [([],some ((.p (.bool true)),[]))] (by
 intro p hp;simp only[mα,List.not_mem_nil,or_false]at hp;subst hp;exact afD)
end Go.Ab
