import Derived.Test.YtmnmeiibmgcddaaGreatDoorAbIt
import Derived.Test.YtmnmeiibmgcddaaGreatDoorProg
import Derived.Shelf.LaysM
import Derived.Shelf.Strconv.Itoa3
set_option linter.all false
namespace Go.Proofs
open Go.Shelf
theorem ics {α:Type}{a b:α}(h:a=b:=by kernel_rfl):some a=some b:=congrArg some h
def Tryz.laysM171_ren:Go.Shelf.Ren:=⟨fun|171=>301|243=>347|246=>369|283=>379|284=>380|285=>381|286=>382|129=>388|317=>387|318=>389|319=>390|320=>391|337=>393|338=>394|n=>n,fun|3=>3|9=>9|2=>2|4=>4|171=>406|0=>0|53=>186|37=>74|5=>5|173=>409|212=>416|51=>394|20=>20|213=>417|46=>158|232=>420|233=>421|n=>n,fun|17=>3|18=>4|19=>5|n=>n⟩
theorem Tryz.laysM171:Go.Proofs.LaysM.n171 Tryz.prog Tryz.laysM171_ren:={
 mixed:=by kernel_rfl
 f129:=Tryz.func388.trans ics
 f171:=Tryz.func301.trans ics
 f243:=Tryz.func347.trans ics
 f246:=Tryz.func369.trans ics
 f283:=Tryz.func379.trans ics
 f284:=Tryz.func380.trans ics
 f285:=Tryz.func381.trans ics
 f286:=Tryz.func382.trans ics
 f317:=Tryz.func387.trans ics
 f318:=Tryz.func389.trans ics
 f319:=Tryz.func390.trans ics
 f320:=Tryz.func391.trans ics
 f337:=Tryz.func393.trans ics
 f338:=Tryz.func394.trans ics
 t0:=Tryz.underlying0
 a0:=Tryz.isAgg0
 z0:=Tryz.sizeOf0
 v0:=Tryz.zeroValue0
 t2:=Tryz.underlying2
 a2:=Tryz.isAgg2
 z2:=Tryz.sizeOf2
 v2:=Tryz.zeroValue2
 t3:=Tryz.underlying3
 a3:=Tryz.isAgg3
 z3:=Tryz.sizeOf3
 v3:=Tryz.zeroValue3
 t4:=Tryz.underlying4
 a4:=Tryz.isAgg4
 z4:=Tryz.sizeOf4
 v4:=Tryz.zeroValue4
 t5:=Tryz.underlying5
 a5:=Tryz.isAgg5
 z5:=Tryz.sizeOf5
 v5:=Tryz.zeroValue5
 t9:=Tryz.underlying9
 a9:=Tryz.isAgg9
 z9:=Tryz.sizeOf9
 v9:=Tryz.zeroValue9
 t20:=Tryz.underlying20
 a20:=Tryz.isAgg20
 z20:=Tryz.sizeOf20
 v20:=Tryz.zeroValue20
 t37:=Tryz.underlying74
 a37:=Tryz.isAgg74
 z37:=Tryz.sizeOf74
 v37:=Tryz.zeroValue74
 t46:=Tryz.underlying158
 a46:=Tryz.isAgg158
 z46:=Tryz.sizeOf158
 v46:=Tryz.zeroValue158
 t51:=Tryz.underlying394
 a51:=Tryz.isAgg394
 z51:=Tryz.sizeOf394
 v51:=Tryz.zeroValue394
 t53:=Tryz.underlying186
 a53:=Tryz.isAgg186
 z53:=Tryz.sizeOf186
 v53:=Tryz.zeroValue186
 t171:=Tryz.underlying406
 a171:=Tryz.isAgg406
 z171:=Tryz.sizeOf406
 v171:=Tryz.zeroValue406
 t173:=Tryz.underlying409
 a173:=Tryz.isAgg409
 z173:=Tryz.sizeOf409
 v173:=Tryz.zeroValue409
 t212:=Tryz.underlying416
 a212:=Tryz.isAgg416
 z212:=Tryz.sizeOf416
 v212:=Tryz.zeroValue416
 t213:=Tryz.underlying417
 a213:=Tryz.isAgg417
 z213:=Tryz.sizeOf417
 t232:=Tryz.underlying420
 a232:=Tryz.isAgg420
 z232:=Tryz.sizeOf420
 v232:=Tryz.zeroValue420
 t233:=Tryz.underlying421
 a233:=Tryz.isAgg421
 z233:=Tryz.sizeOf421
 v233:=Tryz.zeroValue421
 g17:=by kernel_rfl
 g18:=by kernel_rfl
 g19:=by kernel_rfl
 i0:=by kernel_rfl
 i2:=by kernel_rfl
 i3:=by kernel_rfl
 i4:=by kernel_rfl
 i5:=by kernel_rfl
 i9:=by kernel_rfl
 i20:=by kernel_rfl
 i37:=by kernel_rfl
 i46:=by kernel_rfl
 i51:=by kernel_rfl
 i53:=by kernel_rfl
 i171:=by kernel_rfl
 i173:=by kernel_rfl
 i212:=by kernel_rfl
 i232:=by kernel_rfl
 i233:=by kernel_rfl
 m17:=by kernel_rfl
 m18:=by kernel_rfl
 m19:=by kernel_rfl}
open Go.RowKit Go.Sort Go.Lib in
theorem Tryz.strconv_Itoa (n : Int) (h0 : -9223372036854775808 ≤ n) (h1 : n ≤ 9223372036854775807) (w : World) (htab : Lib.TabIs Tryz.prog w "internal/strconv.uint64pow10" .u64 Lib.pow10Tab) :
  Calls Tryz.prog 301 #[.int .i64 n] w fun e w'=>e= .returned (.string ⟨(Lib.itoa n).toArray⟩)∧∃k os,w'=grow (w.drewN k) os:=Any.strconv_Itoa Tryz.laysM171 n h0 h1 w htab
end Go.Proofs
namespace Go.Ab
open Go
theorem Z4 (L:Letters){G:bP}(hG:G 3=some uI): @fe L Go.Proofs.Tryz.prog G 301 lJ:=Qr (g0:=3) hG (by kernel_rfl) ⟨_,Go.Proofs.Tryz.func301,by kernel_rfl,by kernel_rfl⟩ (fun n h0 h1 w ht=>Go.Proofs.Tryz.strconv_Itoa n h0 h1 w ht)
end Go.Ab
