import Derived.Test.YtlfhmmbmjkadiaaGreatDoorAwM1
import Derived.Test.YtlfhmmbmjkadiaaGreatDoorAwM2
import Derived.Test.YtlfhmmbmjkadiaaGreatDoorAwM3
import Derived.Test.YtlfhmmbmjkadiaaGreatDoorAwM4
set_option linter.all false
namespace Go.Ab
set_option maxRecDepth 100000
noncomputable def knM:List ((List D×List Ob)×R):=[(inM1,aen),(inM2,aeo),(inM3,aep),(inM4,aeq),(inM5,aer),(inM6,aes),(inM7,aet),(inM8,aeu),(inM9,aev),(inM10,Yt),(inM11,Yu),(inM12,Yv),(inM13,Yw),(inM14,Yx),(inM15,Yy),(inM16,Yz),(inM17,YA),(inM18,YB),(inM19,YC),(inM20,YD),(inM21,YE),(inM22,YF),(inM23,YG),(inM24,YH),(inM25,YI),(inM26,YJ),(inM27,YK)]
noncomputable def layM:En prog0 globs0:=layT.memoH AQ 155 knM (by
 intro p hp;simp only[knM,mγ,List.not_mem_nil,or_false]at hp;rcases hp with rfl|rfl|rfl|rfl|rfl|rfl|rfl|rfl|rfl|rfl|rfl|rfl|rfl|rfl|rfl|rfl|rfl|rfl|rfl|rfl|rfl|rfl|rfl|rfl|rfl|rfl|rfl
 ·exact aiB
 ·exact aiC
 ·exact aiD
 ·exact aiE
 ·exact aiF
 ·exact aiG
 ·exact aiH
 ·exact aiI
 ·exact aiJ
 ·exact ahf
 ·exact ahg
 ·exact ahh
 ·exact ahi
 ·exact ahj
 ·exact ahk
 ·exact ahl
 ·exact ahm
 ·exact ahn
 ·exact aho
 ·exact ahp
 ·exact ahq
 ·exact ahr
 ·exact ahs
 ·exact aht
 ·exact ahu
 ·exact ahv
 ·exact ahw)
end Go.Ab
