import Derived.Test.YtmnmeiibmgcddaaGreatDoorAwXV
import Derived.KernelRfl
set_option linter.all false
namespace Go.Ab
open Go
set_option maxRecDepth 100000
def abv:KQ layV.tabH 3000 9 [] []=some ((.p (.bool true)),[]):=by kernel_rfl
noncomputable def xw.memoOf {P:Program}{G:bP}(l l2:xw P G)(hmix:P.follows .mixedOrders=true)(f:Nat)(kn:List (LD×R))(h:∀p∈kn,KQ l2.tabH 3000 f (p.1.map .p) []=p.2):xw P G where
 tabH g:=Z1 (Nat.beq g f) (some (.prim (BP kn (KQ l2.tabH 3000) f))) (l.tabH g)
 tab g:=bif Nat.beq g f then some (.prim (BP kn (KQ l2.tabH 3000) f))else l.tab g
 same g:=uc rfl (l.same g)
 ok L:= @Ol L P G l.tab (l.ok L) f _ (@yC L P G _ (l2.call hmix L 3000) f kn fun p hp=> .inr (h p hp))
noncomputable def lay0:xw prog0 globs0:=layB.memoOf layV yD 9 [([],some ((.p (.bool true)),[]))] (by
 intro p hp;simp only[mγ,List.not_mem_nil,or_false]at hp;subst hp;exact abv)
end Go.Ab
