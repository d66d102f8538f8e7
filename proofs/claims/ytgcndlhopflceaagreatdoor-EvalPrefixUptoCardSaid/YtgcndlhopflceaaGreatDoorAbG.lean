import Derived.Test.YtgcndlhopflceaaGreatDoorAbIx
import Derived.Test.YtgcndlhopflceaaGreatDoorIt
import Derived.Test.YtgcndlhopflceaaGreatDoorProg
import Derived.KernelRfl
set_option linter.all false
namespace Go.Ab
open Go
set_option maxRecDepth 100000
noncomputable def prog0:Program:=Go.Proofs.Tryz.prog
def globs0:bY:=fun g=>bif Nat.beq g 3 then some vD else none
def clO:List (Nat×Nat×Nat):=[(44,5,80),(45,1,8),(46,1,16)]
def clX:List (Nat×Nat×Nat):=[(43,2,24)]
def yU:List (Nat×Nat×Nat)->Nat->Option (Nat×Nat)
 |[],_=>none
 |(g,z,b)::r,f=>bif Nat.beq g f then some (z,b)else yU r f
def uD {f z b:Nat}:∀{l:List (Nat×Nat×Nat)},yU l f=some (z,b)->(f,z,b)∈l
 |[],h=>by cases h
 |(g,y,c)::r,h=>by
  simp only[yU]at h;cases hg:Nat.beq g f
  ·rw[hg]at h;exact lρ _ (uD h)
  ·rw[hg]at h;simp only[cond_true,lα,lζ]at h;obtain⟨rfl,rfl⟩:=h;rw[lκ hg];exact lη ..
def X6 (f:Nat):Option (LD->Option (D×List Ob)):=
 bif Nat.beq f 120 then some xy else bif Nat.beq f 166 then some mg else match yU clO f with
 |some (z,b)=>some (fD z b)
 |none=>match yU clX f with
  |some (z,b)=>some (jK z b)
  |none=>none
def abX:List (Nat×List (LN×Gh)):=[(7,[([1,1,1,1,1,1,1,1,1,0,0,1,1,0],.keep [3,4,5,6,16,19,21,22]),([1,1,1,1,1,1,1,1,1,1,1,0],.keep [3,4,5,6,16,19,21,22,26]),([1,1,1,1,1,1,1,1,1,1,1,0],.pkp [3,5,6,16,19,21,22,26]),([1,1,1,1,1,1,1,1,1,1,1,1,1,0],.ownc 27 11 5),([1,1,1,1,1,1,1,1,1,1,1,1,1,0],.ownc 27 13 4),([1,1,1,1,1,1,1,1,1,1,1,1,1,0],.ownc 27 16 18),([1,1,1,1,1,1,1,1,1,1,1,1,1,0],.tog 27 11),([1,1,1,1,1,1,1,1,1,1,1,1,1,0],.tog 27 13)]),
 (13,[([1,1,1,0,1,0,0,0,1,1,0,0,1,1,1,1],.frz 8)]),
 (19,[([1,1],.ownc 0 13 4),([1,1],.tog 0 13),([1,1],.tog 0 11)]),
 (20,[([1,1,1,0,1,0,1,1,0],.tog 0 11),([1,1,1,0,1,0,1,1,0],.pst 0 11)]),
 (21,[([1,1],.tog 0 11),([1,1],.tog 0 13),([1,1],.pst 0 11),([1,1],.pst 0 13)]),
 (32,[([1,1],.ownc 9 6 2)]),
 (49,[([1,1,1,1,0,1,1,0],.keep [0,1,4,7]),([1,1,1,1,0,1,1,0],.pkp [0,1,4]),([1,1,1,1],.frz 6),([1,1,1,1,1,1,0],.tog 0 11),([1,1,1,1,1,1,0],.tog 0 13),([1,1,1,1,1,1,0],.pst 0 11),([1,1,1,1,1,1,0],.pst 0 13)]),
 (50,[([1,0],.keep [0,3]),([1,0],.pkp [0,3,4])]),
 (51,[([1,0,0,1,0,1,1,0],.keep [0,3]),([1,0,0,1,0,1,1,0],.pkp [0,3,4])]),
 (52,[([1,1,0,1,0,0,0,1,1,0,0,1,0],.keep [0,5,7,9,10,11]),([1,1,0,1,0,0,0,1,1,0,0,1,0],.pkp [0,5,8,9,10,11]),([1,1,0,1,0,0,0,1,1,0,0,1,1,0,1,0,1],.own 4 5)]),
 (54,[([1,1,1,0],.frz 6),([1,1,1,1,1],.tog 0 13),([1,1,1,1,1],.pst 0 13)]),
 (72,[([1,1,1,1,1],.frz 8)]),
 (73,[([1,1,1,0,0],.keep [1]),([1,1,0,0,1,1,0,1,1,1,1],.keep [1]),([1,1,0,0,1,1,0,1,1,0],.keep [1]),([1,1,0,0,1,1,0,0],.keep [1]),([1,1,0,0,0],.keep [1]),([1,0,0],.keep [1])]),
 (99,[([1,1,0,1,0],.own 3 1)]),
 (110,[([1,0],.tog 0 1011),([1,0],.pst 0 1011)]),
 (154,[([1,1,0,1,0,1,1,1,1,1,1,1,0],.keep [0,1,3,12]),([1,1,0,1,0,1,1,1,1,1,0],.keep [0,1,3,12]),([1,1,0,1,0,1,1,1,0],.keep [0,1,3,11,12]),([1,1,0,1,0,1,0],.keep [0,1,3,11,12])]),
 (157,[([1,1,1,0],.frz 4)]),
 (160,[([1,0,1,0,1,1,1,1,1,1,1,0,1,0],.keep [1,2]),([1,0,1,0,1,1,1,1,1,0,1,1,0],.keep [1,2,10]),([1,0,1,0,1,1,1,1,1,0,0,0],.keep [1,2])]),
 (162,[([1,0],.keep [0,1,2,3]),([1,0],.pkp [0,1,2,3,4])])]
def Ļ:List (Nat×List (LN×Gh))->Nat->List (LN×Gh)
 |[],_=>[]
 |(g,l)::r,f=>bif Nat.beq g f then l else Ļ r f
def gT:YC where
 raw f q:=false
 thaw f:=match yU clO f with
  |some _=>true
  |none=>gK f [147,18,164,52]
 ghs f:=match yU clO f with
  |some (z,_)=>[([1,0,1,0,1],.own 2 z)]
  |none=>Ļ abX f
 prim:=X6
def EI:prog0.follows .mixedOrders=true:=by kernel_rfl
def zt : prog0.funcs.toList.all (fun fn => !(fn.name == "runtime.NumGoroutine")) = true := by kernel_rfl
def wW:Option Fx->Da
 |some ⟨.seq _ (.seq _ (.seq (.reg _ (⟨_,.bsl _ zd _ _,_,_,_⟩::_) _ _) _)),_,_⟩=>zd
 |_=> .nilif
def abU:jc prog0 globs0 gT 44=some (fQ 5 (wW (jc prog0 globs0 gT 44)) 80):=by kernel_rfl
def abM:eS (fun _ _ _=>none) 0 (fQ 5 (wW (jc prog0 globs0 gT 44)) 80) [.sl .na 5 []] []=some (.arr 0 0 0 5,[.arr []]):=by kernel_rfl
def abQ:eS (fun _ _ _=>none) 0 (fQ 5 (wW (jc prog0 globs0 gT 44)) 80) [.sl .some 5 []] []=some (.arr 0 0 0 5,[.arr []]):=by kernel_rfl
def abV:jc prog0 globs0 gT 45=some (fQ 1 (wW (jc prog0 globs0 gT 45)) 8):=by kernel_rfl
def abN:eS (fun _ _ _=>none) 0 (fQ 1 (wW (jc prog0 globs0 gT 45)) 8) [.sl .na 1 []] []=some (.arr 0 0 0 1,[.arr []]):=by kernel_rfl
def abR:eS (fun _ _ _=>none) 0 (fQ 1 (wW (jc prog0 globs0 gT 45)) 8) [.sl .some 1 []] []=some (.arr 0 0 0 1,[.arr []]):=by kernel_rfl
def abW:jc prog0 globs0 gT 46=some (fQ 1 (wW (jc prog0 globs0 gT 46)) 16):=by kernel_rfl
def abO:eS (fun _ _ _=>none) 0 (fQ 1 (wW (jc prog0 globs0 gT 46)) 16) [.sl .na 1 []] []=some (.arr 0 0 0 1,[.arr []]):=by kernel_rfl
def abS:eS (fun _ _ _=>none) 0 (fQ 1 (wW (jc prog0 globs0 gT 46)) 16) [.sl .some 1 []] []=some (.arr 0 0 0 1,[.arr []]):=by kernel_rfl
def abT:jc prog0 globs0 gT 43=some (lB 2 (wW (jc prog0 globs0 gT 43)) 24):=by kernel_rfl
def abL:eS (fun _ _ _=>none) 0 (lB 2 (wW (jc prog0 globs0 gT 43)) 24) [.sl .na 2 []] []=some (.p (.slice 2 []),[]):=by kernel_rfl
def abP:eS (fun _ _ _=>none) 0 (lB 2 (wW (jc prog0 globs0 gT 43)) 24) [.sl .some 2 []] []=some (.p (.slice 2 []),[]):=by kernel_rfl
def y_ (L:Letters)(f:Nat)(g:LD->Option (D×List Ob))(h:X6 f=some g): @fp L prog0 globs0 f g:=by
 unfold X6 at h;cases hx:Nat.beq f 120 with
 |true=>
  rw[hx]at h;simp only[cond_true,lα]at h;rw[<-h,lκ hx];exact ç (b:=167) EI (by kernel_rfl) (by kernel_rfl) (by kernel_rfl) (by kernel_rfl) (by kernel_rfl) (by kernel_rfl) (by kernel_rfl) (by kernel_rfl) (by kernel_rfl) (by kernel_rfl) (by kernel_rfl) L
 |false=>
 rw[hx]at h;simp only[cond_false]at h;cases hz:Nat.beq f 166 with
 |true=>
  rw[hz]at h;simp only[cond_true,lα]at h;rw[<-h,lκ hz];exact ë L (G:=globs0) rfl
 |false=>
 rw[hz]at h;simp only[cond_false]at h;split at h
 ·rename_i z b hf;have hm:=uD hf;simp only[lα]at h;subst h;simp only[clO,mδ,List.not_mem_nil,or_false,lζ]at hm;rcases hm with⟨rfl,rfl,rfl⟩|⟨rfl,rfl,rfl⟩|⟨rfl,rfl,rfl⟩
  ·exact oC EI abU zt abM abQ L
  ·exact oC EI abV zt abN abR L
  ·exact oC EI abW zt abO abS L
 ·split at h
  ·rename_i z b hf;have hm:=uD hf;simp only[lα]at h;subst h;simp only[clX,mδ,List.not_mem_nil,or_false,lζ]at hm;rcases hm with⟨rfl,rfl,rfl⟩
   ·exact MV EI abT zt abL abP L
  ·cases h
noncomputable def layB:Hq prog0 globs0:=Hq.base gT zt y_
end Go.Ab
