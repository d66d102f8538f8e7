import Derived.Test.YtmnmeiibmgcddaaGreatDoorAbIx
import Derived.Test.YtmnmeiibmgcddaaGreatDoorAl
import Derived.Test.YtmnmeiibmgcddaaGreatDoorIt
import Derived.Test.YtmnmeiibmgcddaaGreatDoorProg
import Derived.KernelRfl
set_option linter.all false
namespace Go.Ab
open Go
set_option maxRecDepth 100000
noncomputable def prog0:Program:=Go.Proofs.Tryz.prog
def globs0:bP:=fun g=>bif Nat.beq g 3 then some uI else none
def clO:List (Nat×Nat×Nat):=[(76,1,8),(77,1,16)]
def clX:List (Nat×Nat×Nat):=[(217,2,24)]
def ye:List (Nat×Nat×Nat)->Nat->Option (Nat×Nat)
 |[],_=>none
 |(g,z,b)::r,f=>bif Nat.beq g f then some (z,b)else ye r f
def tH {f z b:Nat}:∀{l:List (Nat×Nat×Nat)},ye l f=some (z,b)->(f,z,b)∈l
 |[],h=>by cases h
 |(g,y,c)::r,h=>by
  simp only[ye]at h;cases hg:Nat.beq g f
  ·rw[hg]at h;exact mα _ (tH h)
  ·rw[hg]at h;simp only[cond_true,lβ,lτ]at h;obtain⟨rfl,rfl⟩:=h;rw[lν hg];exact lχ ..
def Wo (f:Nat):Option (LD->Option (D×List Ob)):=
 bif Nat.beq f 253 then some wy else bif Nat.beq f 301 then some lJ else match ye clO f with
 |some (z,b)=>some (eo z b)
 |none=>match ye clX f with
  |some (z,b)=>some (oS z b)
  |none=>none
def abj:List (Nat×List (LN×Gh)):=[(24,[([1,1,0,0],.keep [2,3,5,6,7,10,12,14,15]),([1,1,1,1,1,1],.ownc 18 12 5),([1,1,1,1,1,1],.ownc 18 13 4),([1,1,1,1,1,1],.frzc 18 19),([1,1,1,1,1,1],.frzc 18 20),([1,1,1,1,1,1],.frzc 18 24),([1,1,1,1,1,1],.frzc 18 29),([1,1,1,1,1,1],.frzc 18 30),([1,1,1,1,1,1],.frzc 18 31)]),
 (28,[([1,1,0,0],.keep [1]),([1,0,0],.keep [1])]),
 (30,[([1,1,1],.frzc 2 0)]),
 (31,[([1,1,1],.frzc 3 0)]),
 (75,[([1,1,1,0,1,0,0,0,1,1,0,0,1,1,1,1],.frz 8)]),
 (84,[([1,0,1,0,1],.own 2 5)]),
 (87,[([1,1,1,0,0],.keep [1]),([1,1,0,0,1,1,0,1,1,1,1],.keep [1]),([1,1,0,0,1,1,0,1,1,0],.keep [1]),([1,1,0,0,1,1,0,0],.keep [1]),([1,1,0,0,0],.keep [1]),([1,0,0],.keep [1])]),
 (95,[([1,1,0,1],.keep [1,3,9]),([1,1,0,1],.pkp [1,3])]),
 (96,[([1,1,1,0],.pkp [0,5,6]),([1,1,1,1,1,1],.frz 8)]),
 (134,[([1,1],.ownc 9 6 2)]),
 (163,[([1,1,1,1,0],.pfz 0 19),([1,1,1,1,0],.pfz 0 20),([1,1,1,1,0],.pfz 0 24),([1,1,1,1,0],.pfz 0 29),([1,1,1,1,0],.pfz 0 30),([1,1,1,1,0],.pfz 0 31)]),
 (165,[([1,1,1],.frzc 0 19),([1,1,1],.frzc 0 20),([1,1,1],.frzc 0 24),([1,1,1],.frzc 0 29),([1,1,1],.frzc 0 30),([1,1,1],.frzc 0 31),([1,1,1,0,1,0],.pfz 0 19),([1,1,1,0,1,0],.pfz 0 20)]),
 (187,[([1,1,1,1,0,1,0,1,1,1,1,1,1,1,1,1,1,1,0,0],.keep [4,7,9]),([1,1,1,1,0,1,0,1,0,0],.keep [7]),([1,1,0,0],.keep [4,5,6,7]),([1,0,0],.keep [4,5,6,7])]),
 (192,[([0],.own 0 1001)]),
 (215,[([1,1,1,1,1],.frz 8)]),
 (271,[([1,1,0,1,0],.own 3 1)]),
 (297,[([1,0,1,0,1,1,1,1,1,1,1,0,1,0],.keep [1,2]),([1,0,1,0,1,1,1,1,1,0,1,1,0],.keep [1,2,10]),([1,0,1,0,1,1,1,1,1,0,0,0],.keep [1,2])])]
def ď:List (Nat×List (LN×Gh))->Nat->List (LN×Gh)
 |[],_=>[]
 |(g,l)::r,f=>bif Nat.beq g f then l else ď r f
def fN:Ry where
 raw f q:=Nat.beq f 64&&Nat.beq q 1000042
 thaw f:=match ye clO f with
  |some _=>true
  |none=>eW f [55,39,84,95,153,154,331,118,192,119,120]
 ghs f:=match ye clO f with
  |some (z,_)=>[([1,0,1,0,1],.own 2 z)]
  |none=>ď abj f
 prim:=Wo
def yD:prog0.follows .mixedOrders=true:=by kernel_rfl
def yG : prog0.funcs.toList.all (fun fn => !(fn.name == "runtime.NumGoroutine")) = true := by kernel_rfl
def pe:Option Fx->Da
 |some ⟨.seq _ (.seq _ (.seq (.reg _ (⟨_,.bsl _ zd _ _,_,_,_⟩::_) _ _) _)),_,_⟩=>zd
 |_=> .nilif
def abf:gK prog0 globs0 fN 76=some (cB 1 (pe (gK prog0 globs0 fN 76)) 8):=by kernel_rfl
def abb:cU (fun _ _ _=>none) 0 (cB 1 (pe (gK prog0 globs0 fN 76)) 8) [.sl .na 1 []] []=some (.arr 0 0 0 1,[.arr []]):=by kernel_rfl
def abd:cU (fun _ _ _=>none) 0 (cB 1 (pe (gK prog0 globs0 fN 76)) 8) [.sl .some 1 []] []=some (.arr 0 0 0 1,[.arr []]):=by kernel_rfl
def abg:gK prog0 globs0 fN 77=some (cB 1 (pe (gK prog0 globs0 fN 77)) 16):=by kernel_rfl
def abc:cU (fun _ _ _=>none) 0 (cB 1 (pe (gK prog0 globs0 fN 77)) 16) [.sl .na 1 []] []=some (.arr 0 0 0 1,[.arr []]):=by kernel_rfl
def abe:cU (fun _ _ _=>none) 0 (cB 1 (pe (gK prog0 globs0 fN 77)) 16) [.sl .some 1 []] []=some (.arr 0 0 0 1,[.arr []]):=by kernel_rfl
def aag:gK prog0 globs0 fN 217=some (k8 2 (pe (gK prog0 globs0 fN 217)) 24):=by kernel_rfl
def aab:cU (fun _ _ _=>none) 0 (k8 2 (pe (gK prog0 globs0 fN 217)) 24) [.sl .na 2 []] []=some (.p (.slice 2 []),[]):=by kernel_rfl
def aac:cU (fun _ _ _=>none) 0 (k8 2 (pe (gK prog0 globs0 fN 217)) 24) [.sl .some 2 []] []=some (.p (.slice 2 []),[]):=by kernel_rfl
def Ϥ (L:Letters)(f:Nat)(g:LD->Option (D×List Ob))(h:Wo f=some g): @fe L prog0 globs0 f g:=by
 unfold Wo at h;cases hx:Nat.beq f 253 with
 |true=>
  rw[hx]at h;simp only[cond_true,lβ]at h;rw[<-h,lν hx];exact Z0 (b:=307) yD (by kernel_rfl) (by kernel_rfl) (by kernel_rfl) (by kernel_rfl) (by kernel_rfl) (by kernel_rfl) (by kernel_rfl) (by kernel_rfl) (by kernel_rfl) (by kernel_rfl) (by kernel_rfl) L
 |false=>
 rw[hx]at h;simp only[cond_false]at h;cases hz:Nat.beq f 301 with
 |true=>
  rw[hz]at h;simp only[cond_true,lβ]at h;rw[<-h,lν hz];exact Z4 L (G:=globs0) rfl
 |false=>
 rw[hz]at h;simp only[cond_false]at h;split at h
 ·rename_i z b hf;have hm:=tH hf;simp only[lβ]at h;subst h;simp only[clO,mγ,List.not_mem_nil,or_false,lτ]at hm;rcases hm with⟨rfl,rfl,rfl⟩|⟨rfl,rfl,rfl⟩
  ·exact nZ yD abf yG abb abd L
  ·exact nZ yD abg yG abc abe L
 ·split at h
  ·rename_i z b hf;have hm:=tH hf;simp only[lβ]at h;subst h;simp only[clX,mγ,List.not_mem_nil,or_false,lτ]at hm;rcases hm with⟨rfl,rfl,rfl⟩
   ·exact LL yD aag yG aab aac L
  ·cases h
noncomputable def layA:xw prog0 globs0:=xw.base fN yG Ϥ
def fxV:gK prog0 globs0 fN 84=some (cB 5 (pe (gK prog0 globs0 fN 84)) 80):=by kernel_rfl
def fvA:cU (fun _ _ _=>none) 0 (cB 5 (pe (gK prog0 globs0 fN 84)) 80) [.sl .na 5 []] []=some (.arr 0 0 0 5,[.arr []]):=by kernel_rfl
def fvB:cU (fun _ _ _=>none) 0 (cB 5 (pe (gK prog0 globs0 fN 84)) 80) [.sl .some 5 []] []=some (.arr 0 0 0 5,[.arr []]):=by kernel_rfl
def fvC (es:LD):cU (fun _ _ _=>none) 0 (cB 5 (pe (gK prog0 globs0 fN 84)) 80) [.sl .na 5 []] [.arr es]=some (.arr 1 0 0 5,[.arr es,.arr []]):=by kernel_rfl
def fvD (es:LD):cU (fun _ _ _=>none) 0 (cB 5 (pe (gK prog0 globs0 fN 84)) 80) [.sl .some 5 []] [.arr es]=some (.arr 1 0 0 5,[.arr es,.arr []]):=by kernel_rfl
def dcV0:hR:=⟨fun _ x k=>k x,fun _ _ v o k=>k v o,fun _ x k=>k x,false,false,true⟩
def YX:dcV0.Ok:=⟨fun _ _ _=>Le.refl _,fun _ _ _ _ _=>Le.refl _,fun _ _ _=>Le.refl _⟩
def fvL (lo n:Nat)(es:LD):L7 1 c7 dcV0 (fun _ _ _ _=>none) 0 (cB 5 (pe (gK prog0 globs0 fN 84)) 80) [.arr 0 lo (n+1) 5] [.arr es]=iL (cI (0+((es.drop lo).take (n+1)).length) 80) (some (.arr 1 0 ((es.drop lo).take (n+1)).length 5,[.arr es,.arr ((es.drop lo).take (n+1))])) none:=by kernel_rfl
def fvE (lo n:Nat)(es:LD)(h:((es.drop lo).take (n+1)).length=n+1)(hr:eY (n+1) 80=true):cU (fun _ _ _=>none) 0 (cB 5 (pe (gK prog0 globs0 fN 84)) 80) [.arr 0 lo (n+1) 5] [.arr es]=some (.arr 1 0 (n+1) 5,[.arr es,.arr ((es.drop lo).take (n+1))]):=by
 have hc:bE (fun _ _ _ _=>none) (fun _ _ _=>none):=fun _ _ _ _ _ _=>Le.no _
 refine Oc (m:=1) YX hc (lp:=c7) (fun e he=>?_) _ ?_
 ·cases he
 ·rw[fvL,h];have:cI (0+(n+1)) 80=true:=hr;rw[this];rfl
noncomputable def layB:xw prog0 globs0:=layA.anyOf 84 (j7 5 80) (fun L=>Iw yD fxV yG fvA fvB fvC fvD fvE L)
end Go.Ab
