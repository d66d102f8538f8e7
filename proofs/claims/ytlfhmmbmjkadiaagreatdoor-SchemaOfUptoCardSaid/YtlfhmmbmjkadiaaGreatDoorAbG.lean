import Derived.Test.YtlfhmmbmjkadiaaGreatDoorAbIx
import Derived.Test.YtlfhmmbmjkadiaaGreatDoorProg
import Derived.KernelRfl
set_option linter.all false
namespace Go.Ab
open Go
set_option maxRecDepth 100000
noncomputable def prog0:Program:=Go.Proofs.Tryz.prog
def globs0:ce:=fun _=>none
def clO:List (Nat×Nat×Nat):=[(41,7,104)]
def clX:List (Nat×Nat×Nat):=[(76,1,8),(77,1,16),(96,2,24)]
def D3:List (Nat×Nat×Nat)→Nat→Option (Nat×Nat)
 |[],_=>none
 |(g,z,b)::r,f=>bif Nat.beq g f then some (z,b)else D3 r f
theorem zB {f z b:Nat}:∀{l:List (Nat×Nat×Nat)},D3 l f=some (z,b)→(f,z,b)∈l
 |[],h=>by cases h
 |(g,y,c)::r,h=>by
  simp only[D3]at h;cases hg:Nat.beq g f
  ·rw[hg]at h;exact lχ _ (zB h)
  ·rw[hg]at h;simp only[cond_true,lα,lε]at h;obtain⟨rfl,rfl⟩:=h;rw[lζ hg];exact lτ ..
def Z7 (f:Nat):Option (List Da→Option (D×List Ob)):=
 bif Nat.beq f 202 then some Cr else match D3 clO f with
 |some (z,b)=>some (j2 z b)
 |none=>match D3 clX f with
  |some (z,b)=>some (iC z b)
  |none=>none
def aie:List (Nat×List (List Nat×Gh)):=[(5,[([1,1,1],.frzc 9 0)]),
 (53,[([1,1,1,0,1,0,0,0,1,1,0,0,1,1,1,1],.frz 8)]),
 (71,[([1,1,1,0,0],.keep [1]),([1,1,0,0,1,1,0,1,1,1,1],.keep [1]),([1,1,0,0,1,1,0,1,1,0],.keep [1]),([1,1,0,0,1,1,0,0],.keep [1]),([1,1,0,0,0],.keep [1]),([1,0,0],.keep [1])]),
 (88,[([1,1],.ownc 9 6 2)]),
 (128,[([1,1,1,1,1],.frz 8)]),
 (176,[([1,1,0,1,0],.own 3 1)]),
 (199,[([1,1,0,0],.keep [1]),([1,0,0],.keep [1])]),
 (200,[([1,1,0,1,0],.own 3 1)]),
 (234,[([1,1,0,1,0,1,1,1,1,1,1,1,0],.keep [0,1,3,12]),([1,1,0,1,0,1,1,1,1,1,0],.keep [0,1,3,12]),([1,1,0,1,0,1,1,1,0],.keep [0,1,3,11,12]),([1,1,0,1,0,1,0],.keep [0,1,3,11,12])])]
def adE:List (Nat×List (List Nat×Gh))→Nat→List (List Nat×Gh)
 |[],_=>[]
 |(g,l)::r,f=>bif Nat.beq g f then l else adE r f
def gT:Cfg where
 raw _ q:=Nat.beq q 141
 thaw f:=match D3 clO f with
  |some _=>true
  |none=>cZ f [228,109,141]
 ghs f:=match D3 clO f with
  |some (z,_)=>[([1,0,1,0,1],.own 2 z)]
  |none=>adE aie f
 prim:=Z7
theorem zT:prog0.follows .mixedOrders=true:=by kernel_rfl
theorem EA : prog0.funcs.toList.all (fun fn => !(fn.name == "runtime.NumGoroutine")) = true := by kernel_rfl
def B2:Option Fx→Da
 |some ⟨.seq _ (.seq _ (.seq (.reg _ (⟨_,.bsl _ zd _ _,_,_,_⟩::_) _ _) _)),_,_⟩=>zd
 |_=> .nilif
theorem aia:jY prog0 globs0 gT 41=some (oz 7 (B2 (jY prog0 globs0 gT 41)) 104):=by kernel_rfl
theorem ah2:fc (fun _ _ _=>none) 0 (oz 7 (B2 (jY prog0 globs0 gT 41)) 104) [.sl .na 7 []] []=some (.arr 0 0 0 7,[.arr []]):=by kernel_rfl
theorem ah6:fc (fun _ _ _=>none) 0 (oz 7 (B2 (jY prog0 globs0 gT 41)) 104) [.sl .some 7 []] []=some (.arr 0 0 0 7,[.arr []]):=by kernel_rfl
theorem aib:jY prog0 globs0 gT 76=some (gn 1 (B2 (jY prog0 globs0 gT 76)) 8):=by kernel_rfl
theorem ah3:fc (fun _ _ _=>none) 0 (gn 1 (B2 (jY prog0 globs0 gT 76)) 8) [.sl .na 1 []] []=some (.p (.slice 1 []),[]):=by kernel_rfl
theorem ah7:fc (fun _ _ _=>none) 0 (gn 1 (B2 (jY prog0 globs0 gT 76)) 8) [.sl .some 1 []] []=some (.p (.slice 1 []),[]):=by kernel_rfl
theorem aic:jY prog0 globs0 gT 77=some (gn 1 (B2 (jY prog0 globs0 gT 77)) 16):=by kernel_rfl
theorem ah4:fc (fun _ _ _=>none) 0 (gn 1 (B2 (jY prog0 globs0 gT 77)) 16) [.sl .na 1 []] []=some (.p (.slice 1 []),[]):=by kernel_rfl
theorem ah8:fc (fun _ _ _=>none) 0 (gn 1 (B2 (jY prog0 globs0 gT 77)) 16) [.sl .some 1 []] []=some (.p (.slice 1 []),[]):=by kernel_rfl
theorem aid:jY prog0 globs0 gT 96=some (gn 2 (B2 (jY prog0 globs0 gT 96)) 24):=by kernel_rfl
theorem ah5:fc (fun _ _ _=>none) 0 (gn 2 (B2 (jY prog0 globs0 gT 96)) 24) [.sl .na 2 []] []=some (.p (.slice 2 []),[]):=by kernel_rfl
theorem ah9:fc (fun _ _ _=>none) 0 (gn 2 (B2 (jY prog0 globs0 gT 96)) 24) [.sl .some 2 []] []=some (.p (.slice 2 []),[]):=by kernel_rfl
theorem afX (L:Letters)(f:Nat)(g:List Da→Option (D×List Ob))(h:Z7 f=some g): @gl L prog0 globs0 f g:=by
 unfold Z7 at h;cases hx:Nat.beq f 202 with
 |true=>
  rw[hx]at h;simp only[cond_true,lα]at h;rw[←h,lζ hx];exact acd (b:=250) zT (by kernel_rfl) (by kernel_rfl) (by kernel_rfl) (by kernel_rfl) (by kernel_rfl) (by kernel_rfl) (by kernel_rfl) (by kernel_rfl) (by kernel_rfl) (by kernel_rfl) (by kernel_rfl) L
 |false=>
 rw[hx]at h;simp only[cond_false]at h;split at h
 ·rename_i z b hf;have hm:=zB hf;simp only[lα]at h;subst h;simp only[clO,mγ,List.not_mem_nil,or_false,lε]at hm;obtain⟨rfl,rfl,rfl⟩:=hm;exact Ox zT aia EA ah2 ah6 L
 ·split at h
  ·rename_i z b hf;have hm:=zB hf;simp only[lα]at h;subst h;simp only[clX,mγ,List.not_mem_nil,or_false,lε]at hm;rcases hm with⟨rfl,rfl,rfl⟩|⟨rfl,rfl,rfl⟩|⟨rfl,rfl,rfl⟩
   ·exact vy zT aib EA ah3 ah7 L
   ·exact vy zT aic EA ah4 ah8 L
   ·exact vy zT aid EA ah5 ah9 L
  ·cases h
noncomputable def layB:Dp prog0 globs0:=Dp.base gT EA afX
end Go.Ab
