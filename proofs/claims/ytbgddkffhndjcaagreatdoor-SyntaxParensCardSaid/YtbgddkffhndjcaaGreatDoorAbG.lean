import Derived.Test.YtbgddkffhndjcaaGreatDoorAbIx
import Derived.Test.YtbgddkffhndjcaaGreatDoorPi
import Derived.Test.YtbgddkffhndjcaaGreatDoorProg
import Derived.KernelRfl
set_option linter.all false
namespace Go.Ab
open Go
set_option maxRecDepth 100000
noncomputable def prog0:Program:=Go.Proofs.Tryz.prog
def ZM:List Nat:=[105,110,118,97,108,105,100,32,115,121,110,116,97,120]
def ZL:List Nat:=[118,97,108,117,101,32,111,117,116,32,111,102,32,114,97,110,103,101]
def globs0:bF:=fun g=>bif Nat.beq g 1 then some (.iface 169 (.ptr (.str ZM)))else bif Nat.beq g 2 then some (.iface 169 (.ptr (.str ZL)))else none
def QH (f:Nat):Option (List Da→Option (D×List Ob)):=
 bif Nat.beq f 95 then some oo else bif Nat.beq f 97 then some (tB 149)else none
def YZ:List (Nat×List (List Nat×Gh)):=[(14,[([1,1],.frzc 7 7)]),
 (76,[([1,1,1,1,1,1,0,0],.keep [0,2,3])]),
 (77,[([1,1,1],.ownc 3 1 2),([1,1,1,1,1,1,1,1,1],.frzc 1 1007)]),
 (103,[([1,0,1,0,1,1,1,1,1,1,1,0,1],.ownc 4 3 1),([1,0,1,0,1,1,1,1,1,1,1,1,1,0,1],.ownc 5 4 1)]),
 (107,[([0],.ownc 0 7 8)]),
 (123,[([1],.frzc 3 7)]),
 (145,[([1,1],.ownc 3 0 1)]),
 (162,[([1,1,1,1,0,0,0],.keep [0,3,5]),([1,1,1,0],.keep [0,3,4])])]
def Uv:List (Nat×List (List Nat×Gh))→Nat→List (List Nat×Gh)
 |[],_=>[]
 |(g,l)::r,f=>bif Nat.beq g f then l else Uv r f
def UL:T8 where
 raw f q:=bif Nat.beq q 6000000 then(bif Nat.beq f 56 then true else Nat.beq f 57)else false
 thaw f:=bX f []
 ghs f:=Uv YZ f
 prim:=QH
theorem Ls:prog0.follows .mixedOrders=true:=by kernel_rfl
theorem Wu : prog0.funcs.toList.all (fun fn => !(fn.name == "runtime.NumGoroutine")) = true := by kernel_rfl
theorem WE (L:Letters)(f:Nat)(g:List Da→Option (D×List Ob))(h:QH f=some g): @ib L prog0 globs0 f g:=by
 unfold QH at h;cases hx:Nat.beq f 95 with
 |true=>
  rw[hx]at h;simp only[cond_true,lα]at h;rw[←h,lζ hx];exact Tg (b:=111) Ls (by kernel_rfl) (by kernel_rfl) (by kernel_rfl) (by kernel_rfl) (by kernel_rfl) (by kernel_rfl) (by kernel_rfl) (by kernel_rfl) (by kernel_rfl) (by kernel_rfl) (by kernel_rfl) L
 |false=>
 rw[hx]at h;simp only[cond_false]at h;cases hy:Nat.beq f 97 with
 |true=>
  rw[hy]at h;simp only[cond_true,lα]at h;rw[←h,lζ hy];exact TL L (G:=globs0) rfl rfl ⟨_,Go.Proofs.Tryz.func97,by kernel_rfl,by kernel_rfl⟩
 |false=>
  rw[hy]at h;cases h
noncomputable def layB:Db prog0 globs0:=Db.base UL Wu WE
end Go.Ab
