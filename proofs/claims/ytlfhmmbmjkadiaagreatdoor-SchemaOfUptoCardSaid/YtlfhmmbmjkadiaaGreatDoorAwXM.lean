import Derived.Test.YtlfhmmbmjkadiaaGreatDoorAwM1
import Derived.Test.YtlfhmmbmjkadiaaGreatDoorAwM2
import Derived.Test.YtlfhmmbmjkadiaaGreatDoorAwM3
import Derived.Test.YtlfhmmbmjkadiaaGreatDoorAwM4
set_option linter.all false
namespace Go.Ab
set_option maxRecDepth 100000
noncomputable def knM:List ((List D×List Ob)×R):=[(inM1,ade),(inM2,adf),(inM3,adg),(inM4,adh),(inM5,adi),(inM6,adj),(inM7,adk),(inM8,adl),(inM9,adm),(inM10,Xi),(inM11,Xj),(inM12,Xk),(inM13,Xl),(inM14,Xm),(inM15,Xn),(inM16,Xo),(inM17,Xp),(inM18,Xq),(inM19,Xr),(inM20,Xs),(inM21,Xt),(inM22,Xu),(inM23,Xv),(inM24,Xw),(inM25,Xx),(inM26,Xy),(inM27,Xz)]
noncomputable def layM:Dp prog0 globs0:=layT.memoH zT 155 knM (by
 intro p hp;simp only[knM,mγ,List.not_mem_nil,or_false]at hp;rcases hp with rfl|rfl|rfl|rfl|rfl|rfl|rfl|rfl|rfl|rfl|rfl|rfl|rfl|rfl|rfl|rfl|rfl|rfl|rfl|rfl|rfl|rfl|rfl|rfl|rfl|rfl|rfl
 ·exact ahr
 ·exact ahs
 ·exact aht
 ·exact ahu
 ·exact ahv
 ·exact ahw
 ·exact ahx
 ·exact ahy
 ·exact ahz
 ·exact af8
 ·exact af9
 ·exact aga
 ·exact agb
 ·exact agc
 ·exact agd
 ·exact age
 ·exact agf
 ·exact agh
 ·exact agi
 ·exact agj
 ·exact agk
 ·exact agl
 ·exact agm
 ·exact agn
 ·exact ago
 ·exact agp
 ·exact agq)
end Go.Ab
