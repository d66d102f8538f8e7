import Derived.Test.YtlfhmmbmjkadiaaGreatDoorAbIx
import Derived.Test.YtlfhmmbmjkadiaaGreatDoorProg
import Derived.KernelRfl
set_option linter.all false
namespace Go.Ab
open Go
set_option maxRecDepth 100000
noncomputable def prog0:Program:=Go.Proofs.Tryz.prog
def globs0:ce:=fun _=>none
def clO:List (Nat×Nat×Nat):=[(41,7,104)]
def clX:List (Nat×Nat×Nat):=[(76,1,8),(77,1,16),(96,2,24)]
def E4:List (Nat×Nat×Nat)→Nat→Option (Nat×Nat)
 |[],_=>none
 |(g,z,b)::r,f=>bif Nat.beq g f then some (z,b)else E4 r f
theorem Ay {f z b:Nat}:∀{l:List (Nat×Nat×Nat)},E4 l f=some (z,b)→(f,z,b)∈l
 |[],h=>by cases h
 |(g,y,c)::r,h=>by
  simp only[E4]at h;cases hg:Nat.beq g f
  ·rw[hg]at h;exact lψ _ (Ay h)
  ·rw[hg]at h;simp only[cond_true,lα,lε]at h;obtain⟨rfl,rfl⟩:=h;rw[lζ hg];exact lυ ..
def abf (f:Nat):Option (List Da→Option (D×List Ob)):=
 bif Nat.beq f 202 then some Do else match E4 clO f with
 |some (z,b)=>some (qU z b)
 |none=>match E4 clX f with
  |some (z,b)=>some (ui z b)
  |none=>none
def ajj:List (Nat×List (List Nat×Gh)):=[(5,[([1,1,1],.frzc 9 0)]),
 (53,[([1,1,1,0,1,0,0,0,1,1,0,0,1,1,1,1],.frz 8)]),
 (71,[([1,1,1,0,0],.keep [1]),([1,1,0,0,1,1,0,1,1,1,1],.keep [1]),([1,1,0,0,1,1,0,1,1,0],.keep [1]),([1,1,0,0,1,1,0,0],.keep [1]),([1,1,0,0,0],.keep [1]),([1,0,0],.keep [1])]),
 (88,[([1,1],.ownc 9 6 2)]),
 (128,[([1,1,1,1,1],.frz 8)]),
 (176,[([1,1,0,1,0],.own 3 1)]),
 (199,[([1,1,0,0],.keep [1]),([1,0,0],.keep [1])]),
 (200,[([1,1,0,1,0],.own 3 1)]),
 (234,[([1,1,0,1,0,1,1,1,1,1,1,1,0],.keep [0,1,3,12]),([1,1,0,1,0,1,1,1,1,1,0],.keep [0,1,3,12]),([1,1,0,1,0,1,1,1,0],.keep [0,1,3,11,12]),([1,1,0,1,0,1,0],.keep [0,1,3,11,12])])]
def aeO:List (Nat×List (List Nat×Gh))→Nat→List (List Nat×Gh)
 |[],_=>[]
 |(g,l)::r,f=>bif Nat.beq g f then l else aeO r f
def j3:Cfg where
 raw f q:=Nat.beq q 141||(Nat.beq f 13&&Nat.beq q 5000000)
 thaw f:=match E4 clO f with
  |some _=>true
  |none=>dh f [228,109,141]
 ghs f:=match E4 clO f with
  |some (z,_)=>[([1,0,1,0,1],.own 2 z)]
  |none=>aeO ajj f
 prim:=abf
theorem AQ:prog0.follows .mixedOrders=true:=by kernel_rfl
theorem FF : prog0.funcs.toList.all (fun fn => !(fn.name == "runtime.NumGoroutine")) = true := by kernel_rfl
def C0:Option Fx→Da
 |some ⟨.seq _ (.seq _ (.seq (.reg _ (⟨_,.bsl _ zd _ _,_,_,_⟩::_) _ _) _)),_,_⟩=>zd
 |_=> .nilif
theorem ajf:mq prog0 globs0 j3 41=some (pc 7 (C0 (mq prog0 globs0 j3 41)) 104):=by kernel_rfl
theorem ai7:fh (fun _ _ _=>none) 0 (pc 7 (C0 (mq prog0 globs0 j3 41)) 104) [.sl .na 7 []] []=some (.arr 0 0 0 7,[.arr []]):=by kernel_rfl
theorem ajb:fh (fun _ _ _=>none) 0 (pc 7 (C0 (mq prog0 globs0 j3 41)) 104) [.sl .some 7 []] []=some (.arr 0 0 0 7,[.arr []]):=by kernel_rfl
theorem ajg:mq prog0 globs0 j3 76=some (gE 1 (C0 (mq prog0 globs0 j3 76)) 8):=by kernel_rfl
theorem ai8:fh (fun _ _ _=>none) 0 (gE 1 (C0 (mq prog0 globs0 j3 76)) 8) [.sl .na 1 []] []=some (.p (.slice 1 []),[]):=by kernel_rfl
theorem ajc:fh (fun _ _ _=>none) 0 (gE 1 (C0 (mq prog0 globs0 j3 76)) 8) [.sl .some 1 []] []=some (.p (.slice 1 []),[]):=by kernel_rfl
theorem ajh:mq prog0 globs0 j3 77=some (gE 1 (C0 (mq prog0 globs0 j3 77)) 16):=by kernel_rfl
theorem ai9:fh (fun _ _ _=>none) 0 (gE 1 (C0 (mq prog0 globs0 j3 77)) 16) [.sl .na 1 []] []=some (.p (.slice 1 []),[]):=by kernel_rfl
theorem ajd:fh (fun _ _ _=>none) 0 (gE 1 (C0 (mq prog0 globs0 j3 77)) 16) [.sl .some 1 []] []=some (.p (.slice 1 []),[]):=by kernel_rfl
theorem aji:mq prog0 globs0 j3 96=some (gE 2 (C0 (mq prog0 globs0 j3 96)) 24):=by kernel_rfl
theorem aja:fh (fun _ _ _=>none) 0 (gE 2 (C0 (mq prog0 globs0 j3 96)) 24) [.sl .na 2 []] []=some (.p (.slice 2 []),[]):=by kernel_rfl
theorem aje:fh (fun _ _ _=>none) 0 (gE 2 (C0 (mq prog0 globs0 j3 96)) 24) [.sl .some 2 []] []=some (.p (.slice 2 []),[]):=by kernel_rfl
theorem ag4 (L:Letters)(f:Nat)(g:List Da→Option (D×List Ob))(h:abf f=some g): @gC L prog0 globs0 f g:=by
 unfold abf at h;cases hx:Nat.beq f 202 with
 |true=>
  rw[hx]at h;simp only[cond_true,lα]at h;rw[←h,lζ hx];exact adn (b:=250) AQ (by kernel_rfl) (by kernel_rfl) (by kernel_rfl) (by kernel_rfl) (by kernel_rfl) (by kernel_rfl) (by kernel_rfl) (by kernel_rfl) (by kernel_rfl) (by kernel_rfl) (by kernel_rfl) L
 |false=>
 rw[hx]at h;simp only[cond_false]at h;split at h
 ·rename_i z b hf;have hm:=Ay hf;simp only[lα]at h;subst h;simp only[clO,mγ,List.not_mem_nil,or_false,lε]at hm;obtain⟨rfl,rfl,rfl⟩:=hm;exact PL AQ ajf FF ai7 ajb L
 ·split at h
  ·rename_i z b hf;have hm:=Ay hf;simp only[lα]at h;subst h;simp only[clX,mγ,List.not_mem_nil,or_false,lε]at hm;rcases hm with⟨rfl,rfl,rfl⟩|⟨rfl,rfl,rfl⟩|⟨rfl,rfl,rfl⟩
   ·exact wB AQ ajg FF ai8 ajc L
   ·exact wB AQ ajh FF ai9 ajd L
   ·exact wB AQ aji FF aja aje L
  ·cases h
noncomputable def layB:En prog0 globs0:=En.base j3 FF ag4
end Go.Ab
