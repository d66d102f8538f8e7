import Derived.Test.YtlfhmmbmjkadiaaGreatDoorAbIx
import Derived.Test.YtlfhmmbmjkadiaaGreatDoorProg
import Derived.KernelRfl
set_option linter.all false
namespace Go.Ab
open Go
set_option maxRecDepth 100000
noncomputable def prog0:Program:=Go.Proofs.Tryz.prog
def globs0:ci:=fun _=>none
def clO:List (Nat×Nat×Nat):=[(41,7,104)]
def clX:List (Nat×Nat×Nat):=[(76,1,8),(77,1,16),(96,2,24)]
def EI:List (Nat×Nat×Nat)→Nat→Option (Nat×Nat)
 |[],_=>none
 |(g,z,b)::r,f=>bif Nat.beq g f then some (z,b)else EI r f
theorem Ah {f z b:Nat}:∀{l:List (Nat×Nat×Nat)},EI l f=some (z,b)→(f,z,b)∈l
 |[],h=>by cases h
 |(g,y,c)::r,h=>by
  simp only[EI]at h;cases hg:Nat.beq g f
  ·rw[hg]at h;exact lψ _ (Ah h)
  ·rw[hg]at h;simp only[cond_true,lα,lε]at h;obtain⟨rfl,rfl⟩:=h;rw[lθ hg];exact lυ ..
def aba (f:Nat):Option (List Da→Option (D×List Ob)):=
 bif Nat.beq f 202 then some C2 else match EI clO f with
 |some (z,b)=>some (qV z b)
 |none=>match EI clX f with
  |some (z,b)=>some (mw z b)
  |none=>none
def aiQ:List (Nat×List (List Nat×Gh)):=[(5,[([1,1,1],.frzc 9 0)]),
 (53,[([1,1,1,0,1,0,0,0,1,1,0,0,1,1,1,1],.frz 8)]),
 (71,[([1,1,1,0,0],.keep [1]),([1,1,0,0,1,1,0,1,1,1,1],.keep [1]),([1,1,0,0,1,1,0,1,1,0],.keep [1]),([1,1,0,0,1,1,0,0],.keep [1]),([1,1,0,0,0],.keep [1]),([1,0,0],.keep [1])]),
 (88,[([1,1],.ownc 9 6 2)]),
 (128,[([1,1,1,1,1],.frz 8)]),
 (176,[([1,1,0,1,0],.own 3 1)]),
 (199,[([1,1,0,0],.keep [1]),([1,0,0],.keep [1])]),
 (200,[([1,1,0,1,0],.own 3 1)]),
 (234,[([1,1,0,1,0,1,1,1,1,1,1,1,0],.keep [0,1,3,12]),([1,1,0,1,0,1,1,1,1,1,0],.keep [0,1,3,12]),([1,1,0,1,0,1,1,1,0],.keep [0,1,3,11,12]),([1,1,0,1,0,1,0],.keep [0,1,3,11,12])])]
def aeW:List (Nat×List (List Nat×Gh))→Nat→List (List Nat×Gh)
 |[],_=>[]
 |(g,l)::r,f=>bif Nat.beq g f then l else aeW r f
def jN:Cfg where
 raw _ _:=false
 thaw f:=match EI clO f with
  |some _=>true
  |none=>bF f [228]
 ghs f:=match EI clO f with
  |some (z,_)=>[([1,0,1,0,1],.own 2 z)]
  |none=>aeW aiQ f
 prim:=aba
theorem KW:prog0.follows .mixedOrders=true:=by kernel_rfl
theorem Fh : prog0.funcs.toList.all (fun fn => !(fn.name == "runtime.NumGoroutine")) = true := by kernel_rfl
def CB:Option Fx→Da
 |some ⟨.seq _ (.seq _ (.seq (.reg _ (⟨_,.bsl _ zd _ _,_,_,_⟩::_) _ _) _)),_,_⟩=>zd
 |_=> .nilif
theorem aiM:lF prog0 globs0 jN 41=some (oT 7 (CB (lF prog0 globs0 jN 41)) 104):=by kernel_rfl
theorem aiE:fo (fun _ _ _=>none) 0 (oT 7 (CB (lF prog0 globs0 jN 41)) 104) [.sl .na 7 []] []=some (.arr 0 0 0 7,[.arr []]):=by kernel_rfl
theorem aiI:fo (fun _ _ _=>none) 0 (oT 7 (CB (lF prog0 globs0 jN 41)) 104) [.sl .some 7 []] []=some (.arr 0 0 0 7,[.arr []]):=by kernel_rfl
theorem aiN:lF prog0 globs0 jN 76=some (gv 1 (CB (lF prog0 globs0 jN 76)) 8):=by kernel_rfl
theorem aiF:fo (fun _ _ _=>none) 0 (gv 1 (CB (lF prog0 globs0 jN 76)) 8) [.sl .na 1 []] []=some (.p (.slice 1 []),[]):=by kernel_rfl
theorem aiJ:fo (fun _ _ _=>none) 0 (gv 1 (CB (lF prog0 globs0 jN 76)) 8) [.sl .some 1 []] []=some (.p (.slice 1 []),[]):=by kernel_rfl
theorem aiO:lF prog0 globs0 jN 77=some (gv 1 (CB (lF prog0 globs0 jN 77)) 16):=by kernel_rfl
theorem aiG:fo (fun _ _ _=>none) 0 (gv 1 (CB (lF prog0 globs0 jN 77)) 16) [.sl .na 1 []] []=some (.p (.slice 1 []),[]):=by kernel_rfl
theorem aiK:fo (fun _ _ _=>none) 0 (gv 1 (CB (lF prog0 globs0 jN 77)) 16) [.sl .some 1 []] []=some (.p (.slice 1 []),[]):=by kernel_rfl
theorem aiP:lF prog0 globs0 jN 96=some (gv 2 (CB (lF prog0 globs0 jN 96)) 24):=by kernel_rfl
theorem aiH:fo (fun _ _ _=>none) 0 (gv 2 (CB (lF prog0 globs0 jN 96)) 24) [.sl .na 2 []] []=some (.p (.slice 2 []),[]):=by kernel_rfl
theorem aiL:fo (fun _ _ _=>none) 0 (gv 2 (CB (lF prog0 globs0 jN 96)) 24) [.sl .some 2 []] []=some (.p (.slice 2 []),[]):=by kernel_rfl
theorem ahf (L:Letters)(f:Nat)(g:List Da→Option (D×List Ob))(h:aba f=some g): @iq L prog0 globs0 f g:=by
 unfold aba at h;cases hx:Nat.beq f 202 with
 |true=>
  rw[hx]at h;simp only[cond_true,lα]at h;rw[←h,lθ hx];exact adL (b:=250) KW (by kernel_rfl) (by kernel_rfl) (by kernel_rfl) (by kernel_rfl) (by kernel_rfl) (by kernel_rfl) (by kernel_rfl) (by kernel_rfl) (by kernel_rfl) (by kernel_rfl) (by kernel_rfl) L
 |false=>
 rw[hx]at h;simp only[cond_false]at h;split at h
 ·rename_i z b hf;have hm:=Ah hf;simp only[lα]at h;subst h;simp only[clO,mζ,List.not_mem_nil,or_false,lε]at hm;obtain⟨rfl,rfl,rfl⟩:=hm;exact Pu KW aiM Fh aiE aiI L
 ·split at h
  ·rename_i z b hf;have hm:=Ah hf;simp only[lα]at h;subst h;simp only[clX,mζ,List.not_mem_nil,or_false,lε]at hm;rcases hm with⟨rfl,rfl,rfl⟩|⟨rfl,rfl,rfl⟩|⟨rfl,rfl,rfl⟩
   ·exact we KW aiN Fh aiF aiJ L
   ·exact we KW aiO Fh aiG aiK L
   ·exact we KW aiP Fh aiH aiL L
  ·cases h
noncomputable def layB:S5 prog0 globs0:=S5.base jN Fh ahf
end Go.Ab
