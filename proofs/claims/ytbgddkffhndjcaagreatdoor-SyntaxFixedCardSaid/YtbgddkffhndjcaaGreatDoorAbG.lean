import Derived.Test.YtbgddkffhndjcaaGreatDoorAbIx
import Derived.Test.YtbgddkffhndjcaaGreatDoorPi
import Derived.Test.YtbgddkffhndjcaaGreatDoorIt
import Derived.Test.YtbgddkffhndjcaaGreatDoorProg
import Derived.KernelRfl
set_option linter.all false
namespace Go.Ab
open Go
set_option maxRecDepth 100000
noncomputable def prog0:Program:=Go.Proofs.Tryz.prog
def txS:LN:=[105,110,118,97,108,105,100,32,115,121,110,116,97,120]
def txR:LN:=[118,97,108,117,101,32,111,117,116,32,111,102,32,114,97,110,103,101]
def globs0:bV:=fun g=>bif Nat.beq g 1 then some (.iface 169 (.ptr (.str txS)))else bif Nat.beq g 2 then some (.iface 169 (.ptr (.str txR)))else bif Nat.beq g 3 then some xX else none
def ē (f:Nat):Option (LD->Option (D×List Ob)):=
 bif Nat.beq f 95 then some rt else bif Nat.beq f 97 then some (xc 149)else bif Nat.beq f 90 then some nQ else none
def afq:List (Nat×List (LN×Gh)):=[(10,[([1,1,1],.frzc 3 1002)]),
 (14,[([1,1],.frzc 7 7)]),
 (50,[([1,1,1,0,0],.keep [1]),([1,1,0,0,1,1,0,1,1,1,1],.keep [1]),([1,1,0,0,1,1,0,1,1,0],.keep [1]),([1,1,0,0,1,1,0,0],.keep [1]),([1,1,0,0,0],.keep [1]),([1,0,0],.keep [1])]),
 (52,[([1,1,0,1,0],.own 3 1)]),
 (76,[([1,1,1,1,1,1,0,0],.keep [0,2,3])]),
 (77,[([1,1,1],.ownc 3 1 2),([1,1,1,1,1,1,1,1,1],.frzc 1 1007)]),
 (103,[([1,0,1,0,1,1,1,1,1,1,1,0,1],.ownc 4 3 1),([1,0,1,0,1,1,1,1,1,1,1,1,1,0,1],.ownc 5 4 1)]),
 (107,[([0],.ownc 0 7 8)]),
 (123,[([1],.frzc 3 7)]),
 (145,[([1,1],.ownc 3 0 1)]),
 (162,[([1,1,1,1,0,0,0],.keep [0,3,5]),([1,1,1,0],.keep [0,3,4])])]
def aaP:List (Nat×List (LN×Gh))->Nat->List (LN×Gh)
 |[],_=>[]
 |(g,l)::r,f=>bif Nat.beq g f then l else aaP r f
def aa4:Rg where
 raw f q:=bif Nat.beq q 6000000 then(bif Nat.beq f 56 then true else Nat.beq f 57)else bif Nat.beq q 1000063 then Nat.beq f 59 else false
 thaw f:=eO f []
 ghs f:=aaP afq f
 prim:=ē
def VY:prog0.follows .mixedOrders=true:=by kernel_rfl
def acP : prog0.funcs.toList.all (fun fn => !(fn.name == "runtime.NumGoroutine")) = true := by kernel_rfl
def ac7 (L:Letters)(f:Nat)(g:LD->Option (D×List Ob))(h:ē f=some g): @iK L prog0 globs0 f g:=by
 unfold ē at h;cases hx:Nat.beq f 95 with
 |true=>
  rw[hx]at h;simp only[cond_true,lβ]at h;rw[<-h,lη hx];exact Ϲ (b:=111) VY (by kernel_rfl) (by kernel_rfl) (by kernel_rfl) (by kernel_rfl) (by kernel_rfl) (by kernel_rfl) (by kernel_rfl) (by kernel_rfl) (by kernel_rfl) (by kernel_rfl) (by kernel_rfl) L
 |false=>
 rw[hx]at h;simp only[cond_false]at h;cases hy:Nat.beq f 97 with
 |true=>
  rw[hy]at h;simp only[cond_true,lβ]at h;rw[<-h,lη hy];exact I_ L (G:=globs0) rfl rfl ⟨_,Go.Proofs.Tryz.func97,by kernel_rfl,by kernel_rfl⟩
 |false=>
 rw[hy]at h;simp only[cond_false]at h;cases hz:Nat.beq f 90 with
 |true=>
  rw[hz]at h;simp only[cond_true,lβ]at h;rw[<-h,lη hz];exact c_ L (G:=globs0) rfl
 |false=>
  rw[hz]at h;cases h
noncomputable def layB:IG prog0 globs0:=IG.base aa4 acP ac7
end Go.Ab
