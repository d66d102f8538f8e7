import Derived.Test.YtmnmeiibmgcddaaGreatDoorAbIx
import Derived.Test.YtmnmeiibmgcddaaGreatDoorAl
import Derived.Test.YtmnmeiibmgcddaaGreatDoorIt
import Derived.Test.YtmnmeiibmgcddaaGreatDoorProg
import Derived.KernelRfl
set_option linter.all false
namespace Go.Ab
open Go
set_option maxRecDepth 100000
noncomputable def prog0:Program:=Go.Proofs.Tryz.prog
def globs0:bH:=fun g=>bif Nat.beq g 3 then some rH else none
def ZV:List (Nat×Nat×Nat):=[(76,1,8),(77,1,16)]
def ď:List (Nat×Nat×Nat):=[(217,2,24)]
def uu:List (Nat×Nat×Nat)->Nat->Option (Nat×Nat)
 |[],_=>none
 |(g,z,b)::r,f=>bif Nat.beq g f then some (z,b)else uu r f
def qN {f z b:Nat}:∀{l:List (Nat×Nat×Nat)},uu l f=some (z,b)->(f,z,b)∈l
 |[],h=>by cases h
 |(g,y,c)::r,h=>by
  simp only[uu]at h;cases hg:Nat.beq g f
  ·rw[hg]at h;exact mα _ (qN h)
  ·rw[hg]at h;simp only[cond_true,lα,lμ]at h;obtain⟨rfl,rfl⟩:=h;rw[lθ hg];exact lυ ..
def Qt (f:Nat):Option (LD->Option (D×List Ob)):=
 bif Nat.beq f 253 then some sV else bif Nat.beq f 301 then some ka else match uu ZV f with
 |some (z,b)=>some (dH z b)
 |none=>match uu ď f with
  |some (z,b)=>some (Ŭ z b)
  |none=>none
def ð:List (Nat×List (LN×Gh)):=[(24,[([1,1,0,0],.keep [2,3,5,6,7,10,12,14,15]),([1,1,1,1,1,1],.ownc 18 12 5),([1,1,1,1,1,1],.ownc 18 13 4),([1,1,1,1,1,1],.frzc 18 19),([1,1,1,1,1,1],.frzc 18 20),([1,1,1,1,1,1],.frzc 18 24),([1,1,1,1,1,1],.frzc 18 29),([1,1,1,1,1,1],.frzc 18 30),([1,1,1,1,1,1],.frzc 18 31)]),
 (28,[([1,1,0,0],.keep [1]),([1,0,0],.keep [1])]),
 (49,[([1,1,1,1,1,0,1,0,0,1,0,1,1,0,0,1,0,0,1,1,1,1,1],.frz 15),([1,1,1,1,1,0,1,0,0,1,0,1,1,0,0,1,0,0,1,1,1,1,1,1,1,1],.frz 16)]),
 (75,[([1,1,1,0,1,0,0,0,1,1,0,0,1,1,1,1],.frz 8)]),
 (84,[([1,0,1,0,1],.own 2 5)]),
 (87,[([1,1,1,0,0],.keep [1]),([1,1,0,0,1,1,0,1,1,1,1],.keep [1]),([1,1,0,0,1,1,0,1,1,0],.keep [1]),([1,1,0,0,1,1,0,0],.keep [1]),([1,1,0,0,0],.keep [1]),([1,0,0],.keep [1])]),
 (95,[([1,1,0,1],.keep [1,3,9]),([1,1,0,1],.pkp [1,3])]),
 (96,[([1,1,1,0],.pkp [0,5,6]),([1,1,1,1,1,1],.frz 8)]),
 (134,[([1,1],.ownc 9 6 2)]),
 (163,[([1,1,1,1,0],.pfz 0 19),([1,1,1,1,0],.pfz 0 20),([1,1,1,1,0],.pfz 0 24),([1,1,1,1,0],.pfz 0 29),([1,1,1,1,0],.pfz 0 30),([1,1,1,1,0],.pfz 0 31)]),
 (165,[([1,1,1],.frzc 0 19),([1,1,1],.frzc 0 20),([1,1,1],.frzc 0 24),([1,1,1],.frzc 0 29),([1,1,1],.frzc 0 30),([1,1,1],.frzc 0 31),([1,1,1,0,1,0],.pfz 0 19),([1,1,1,0,1,0],.pfz 0 20)]),
 (187,[([1,1,1,1,0,1,0,1,1,1,1,1,1,1,1,1,1,1,0,0],.keep [4,7,9]),([1,1,1,1,0,1,0,1,0,0],.keep [7]),([1,1,0,0],.keep [4,5,6,7]),([1,0,0],.keep [4,5,6,7])]),
 (215,[([1,1,1,1,1],.frz 8)]),
 (271,[([1,1,0,1,0],.own 3 1)]),
 (297,[([1,0,1,0,1,1,1,1,1,1,1,0,1,0],.keep [1,2]),([1,0,1,0,1,1,1,1,1,0,1,1,0],.keep [1,2,10]),([1,0,1,0,1,1,1,1,1,0,0,0],.keep [1,2])])]
def Vo:List (Nat×List (LN×Gh))->Nat->List (LN×Gh)
 |[],_=>[]
 |(g,l)::r,f=>bif Nat.beq g f then l else Vo r f
def fe:L1 where
 raw f q:=Nat.beq f 64&&Nat.beq q 1000042
 thaw f:=match uu ZV f with
  |some _=>true
  |none=>KO f [55,39,84,95,153,154,331]
 ghs f:=match uu ZV f with
  |some (z,_)=>[([1,0,1,0,1],.own 2 z)]
  |none=>Vo ð f
 prim:=Qt
def uT:prog0.follows .mixedOrders=true:=by kernel_rfl
def uW : prog0.funcs.toList.all (fun fn => !(fn.name == "runtime.NumGoroutine")) = true := by kernel_rfl
def nj:Option Fx->Da
 |some ⟨.seq _ (.seq _ (.seq (.reg _ (⟨_,.bsl _ zd _ _,_,_,_⟩::_) _ _) _)),_,_⟩=>zd
 |_=> .nilif
def ì:fY prog0 globs0 fe 76=some (cb 1 (nj (fY prog0 globs0 fe 76)) 8):=by kernel_rfl
def è:cw (fun _ _ _=>none) 0 (cb 1 (nj (fY prog0 globs0 fe 76)) 8) [.sl .na 1 []] []=some (.arr 0 0 0 1,[.arr []]):=by kernel_rfl
def ê:cw (fun _ _ _=>none) 0 (cb 1 (nj (fY prog0 globs0 fe 76)) 8) [.sl .some 1 []] []=some (.arr 0 0 0 1,[.arr []]):=by kernel_rfl
def í:fY prog0 globs0 fe 77=some (cb 1 (nj (fY prog0 globs0 fe 77)) 16):=by kernel_rfl
def é:cw (fun _ _ _=>none) 0 (cb 1 (nj (fY prog0 globs0 fe 77)) 16) [.sl .na 1 []] []=some (.arr 0 0 0 1,[.arr []]):=by kernel_rfl
def ë:cw (fun _ _ _=>none) 0 (cb 1 (nj (fY prog0 globs0 fe 77)) 16) [.sl .some 1 []] []=some (.arr 0 0 0 1,[.arr []]):=by kernel_rfl
def Y8:fY prog0 globs0 fe 217=some (jK 2 (nj (fY prog0 globs0 fe 217)) 24):=by kernel_rfl
def Y4:cw (fun _ _ _=>none) 0 (jK 2 (nj (fY prog0 globs0 fe 217)) 24) [.sl .na 2 []] []=some (.p (.slice 2 []),[]):=by kernel_rfl
def Y5:cw (fun _ _ _=>none) 0 (jK 2 (nj (fY prog0 globs0 fe 217)) 24) [.sl .some 2 []] []=some (.p (.slice 2 []),[]):=by kernel_rfl
def XZ (L:Letters)(f:Nat)(g:LD->Option (D×List Ob))(h:Qt f=some g): @eB L prog0 globs0 f g:=by
 unfold Qt at h;cases hx:Nat.beq f 253 with
 |true=>
  rw[hx]at h;simp only[cond_true,lα]at h;rw[<-h,lθ hx];exact T1 (b:=307) uT (by kernel_rfl) (by kernel_rfl) (by kernel_rfl) (by kernel_rfl) (by kernel_rfl) (by kernel_rfl) (by kernel_rfl) (by kernel_rfl) (by kernel_rfl) (by kernel_rfl) (by kernel_rfl) L
 |false=>
 rw[hx]at h;simp only[cond_false]at h;cases hz:Nat.beq f 301 with
 |true=>
  rw[hz]at h;simp only[cond_true,lα]at h;rw[<-h,lθ hz];exact T4 L (G:=globs0) rfl
 |false=>
 rw[hz]at h;simp only[cond_false]at h;split at h
 ·rename_i z b hf;have hm:=qN hf;simp only[lα]at h;subst h;simp only[ZV,lω,List.not_mem_nil,or_false,lμ]at hm;rcases hm with⟨rfl,rfl,rfl⟩|⟨rfl,rfl,rfl⟩
  ·exact my uT ì uW è ê L
  ·exact my uT í uW é ë L
 ·split at h
  ·rename_i z b hf;have hm:=qN hf;simp only[lα]at h;subst h;simp only[ď,lω,List.not_mem_nil,or_false,lμ]at hm;rcases hm with⟨rfl,rfl,rfl⟩
   ·exact GK uT Y8 uW Y4 Y5 L
  ·cases h
noncomputable def layA:tR prog0 globs0:=tR.base fe uW XZ
def į:fY prog0 globs0 fe 84=some (cb 5 (nj (fY prog0 globs0 fe 84)) 80):=by kernel_rfl
def ĩ:cw (fun _ _ _=>none) 0 (cb 5 (nj (fY prog0 globs0 fe 84)) 80) [.sl .na 5 []] []=some (.arr 0 0 0 5,[.arr []]):=by kernel_rfl
def Ī:cw (fun _ _ _=>none) 0 (cb 5 (nj (fY prog0 globs0 fe 84)) 80) [.sl .some 5 []] []=some (.arr 0 0 0 5,[.arr []]):=by kernel_rfl
def ī (es:LD):cw (fun _ _ _=>none) 0 (cb 5 (nj (fY prog0 globs0 fe 84)) 80) [.sl .na 5 []] [.arr es]=some (.arr 1 0 0 5,[.arr es,.arr []]):=by kernel_rfl
def Ĭ (es:LD):cw (fun _ _ _=>none) 0 (cb 5 (nj (fY prog0 globs0 fe 84)) 80) [.sl .some 5 []] [.arr es]=some (.arr 1 0 0 5,[.arr es,.arr []]):=by kernel_rfl
def dcV0:gI:=⟨fun _ x k=>k x,fun _ _ v o k=>k v o,fun _ x k=>k x,false,false,true⟩
def SQ:dcV0.Ok:=⟨fun _ _ _=>Le.refl _,fun _ _ _ _ _=>Le.refl _,fun _ _ _=>Le.refl _⟩
def Į (lo n:Nat)(es:LD):G2 1 eD dcV0 (fun _ _ _ _=>none) 0 (cb 5 (nj (fY prog0 globs0 fe 84)) 80) [.arr 0 lo (n+1) 5] [.arr es]=iL (c8 (0+((es.drop lo).take (n+1)).length) 80) (some (.arr 1 0 ((es.drop lo).take (n+1)).length 5,[.arr es,.arr ((es.drop lo).take (n+1))])) none:=by kernel_rfl
def ĭ (lo n:Nat)(es:LD)(h:((es.drop lo).take (n+1)).length=n+1)(hr:et (n+1) 80=true):cw (fun _ _ _=>none) 0 (cb 5 (nj (fY prog0 globs0 fe 84)) 80) [.arr 0 lo (n+1) 5] [.arr es]=some (.arr 1 0 (n+1) 5,[.arr es,.arr ((es.drop lo).take (n+1))]):=by
 have hc:bO (fun _ _ _ _=>none) (fun _ _ _=>none):=fun _ _ _ _ _ _=>Le.no _
 refine IX (m:=1) SQ hc (lp:=eD) (fun e he=>?_) _ ?_
 ·cases he
 ·rw[Į,h];have:c8 (0+(n+1)) 80=true:=hr;rw[this];rfl
noncomputable def layB:tR prog0 globs0:=layA.anyOf 84 (jb 5 80) (fun L=>D0 uT į uW ĩ Ī ī Ĭ ĭ L)
end Go.Ab
