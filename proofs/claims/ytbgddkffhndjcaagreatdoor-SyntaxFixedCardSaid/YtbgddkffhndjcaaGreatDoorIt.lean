import Derived.Test.YtbgddkffhndjcaaGreatDoorAbIt
import Derived.Test.YtbgddkffhndjcaaGreatDoorProg
import Derived.Shelf.LaysM
import Derived.Shelf.Strconv.Itoa3
set_option linter.all false
namespace Go.Proofs
open Go.Shelf
theorem ics {α:Type}{a b:α}(h:a=b:=by kernel_rfl):some a=some b:=congrArg some h
def Tryz.laysM171_ren:Go.Shelf.Ren:=⟨fun|171=>90|243=>110|246=>125|283=>137|284=>138|285=>139|286=>140|129=>149|317=>148|318=>150|319=>151|320=>152|337=>157|338=>158|n=>n,fun|3=>3|9=>9|2=>2|4=>4|171=>154|0=>0|53=>146|37=>63|5=>5|173=>157|212=>165|51=>166|20=>20|213=>167|46=>124|232=>174|233=>175|n=>n,fun|17=>3|18=>4|19=>5|n=>n⟩
theorem Tryz.laysM171:Go.Proofs.LaysM.n171 Tryz.prog Tryz.laysM171_ren:={
 mixed:=by kernel_rfl
 f129:=Tryz.func149.trans ics
 f171:=Tryz.func90.trans ics
 f243:=Tryz.func110.trans ics
 f246:=Tryz.func125.trans ics
 f283:=Tryz.func137.trans ics
 f284:=Tryz.func138.trans ics
 f285:=Tryz.func139.trans ics
 f286:=Tryz.func140.trans ics
 f317:=Tryz.func148.trans ics
 f318:=Tryz.func150.trans ics
 f319:=Tryz.func151.trans ics
 f320:=Tryz.func152.trans ics
 f337:=Tryz.func157.trans ics
 f338:=Tryz.func158.trans ics
 t0:=Tryz.underlying0
 a0:=Tryz.isAgg0
 z0:=Tryz.sizeOf0
 v0:=Tryz.zeroValue0
 t2:=Tryz.underlying2
 a2:=Tryz.isAgg2
 z2:=Tryz.sizeOf2
 v2:=Tryz.zeroValue2
 t3:=Tryz.underlying3
 a3:=Tryz.isAgg3
 z3:=Tryz.sizeOf3
 v3:=Tryz.zeroValue3
 t4:=Tryz.underlying4
 a4:=Tryz.isAgg4
 z4:=Tryz.sizeOf4
 v4:=Tryz.zeroValue4
 t5:=Tryz.underlying5
 a5:=Tryz.isAgg5
 z5:=Tryz.sizeOf5
 v5:=Tryz.zeroValue5
 t9:=Tryz.underlying9
 a9:=Tryz.isAgg9
 z9:=Tryz.sizeOf9
 v9:=Tryz.zeroValue9
 t20:=Tryz.underlying20
 a20:=Tryz.isAgg20
 z20:=Tryz.sizeOf20
 v20:=Tryz.zeroValue20
 t37:=Tryz.underlying63
 a37:=Tryz.isAgg63
 z37:=Tryz.sizeOf63
 v37:=Tryz.zeroValue63
 t46:=Tryz.underlying124
 a46:=Tryz.isAgg124
 z46:=Tryz.sizeOf124
 v46:=Tryz.zeroValue124
 t51:=Tryz.underlying166
 a51:=Tryz.isAgg166
 z51:=Tryz.sizeOf166
 v51:=Tryz.zeroValue166
 t53:=Tryz.underlying146
 a53:=Tryz.isAgg146
 z53:=Tryz.sizeOf146
 v53:=Tryz.zeroValue146
 t171:=Tryz.underlying154
 a171:=Tryz.isAgg154
 z171:=Tryz.sizeOf154
 v171:=Tryz.zeroValue154
 t173:=Tryz.underlying157
 a173:=Tryz.isAgg157
 z173:=Tryz.sizeOf157
 v173:=Tryz.zeroValue157
 t212:=Tryz.underlying165
 a212:=Tryz.isAgg165
 z212:=Tryz.sizeOf165
 v212:=Tryz.zeroValue165
 t213:=Tryz.underlying167
 a213:=Tryz.isAgg167
 z213:=Tryz.sizeOf167
 t232:=Tryz.underlying174
 a232:=Tryz.isAgg174
 z232:=Tryz.sizeOf174
 v232:=Tryz.zeroValue174
 t233:=Tryz.underlying175
 a233:=Tryz.isAgg175
 z233:=Tryz.sizeOf175
 v233:=Tryz.zeroValue175
 g17:=by kernel_rfl
 g18:=by kernel_rfl
 g19:=by kernel_rfl
 i0:=by kernel_rfl
 i2:=by kernel_rfl
 i3:=by kernel_rfl
 i4:=by kernel_rfl
 i5:=by kernel_rfl
 i9:=by kernel_rfl
 i20:=by kernel_rfl
 i37:=by kernel_rfl
 i46:=by kernel_rfl
 i51:=by kernel_rfl
 i53:=by kernel_rfl
 i171:=by kernel_rfl
 i173:=by kernel_rfl
 i212:=by kernel_rfl
 i232:=by kernel_rfl
 i233:=by kernel_rfl
 m17:=by kernel_rfl
 m18:=by kernel_rfl
 m19:=by kernel_rfl}
open Go.RowKit Go.Sort Go.Lib in
theorem Tryz.strconv_Itoa (n : Int) (h0 : -9223372036854775808 ≤ n) (h1 : n ≤ 9223372036854775807) (w : World) (htab : Lib.TabIs Tryz.prog w "internal/strconv.uint64pow10" .u64 Lib.pow10Tab) :
  Calls Tryz.prog 90 #[.int .i64 n] w fun e w'=>e= .returned (.string ⟨(Lib.itoa n).toArray⟩)∧∃k os,w'=grow (w.drewN k) os:=Any.strconv_Itoa Tryz.laysM171 n h0 h1 w htab
end Go.Proofs
namespace Go.Ab
open Go
theorem c_ (L:Letters){G:bV}(hG:G 3=some xX): @iK L Go.Proofs.Tryz.prog G 90 nQ:=VG (g0:=3) hG (by kernel_rfl) ⟨_,Go.Proofs.Tryz.func90,by kernel_rfl,by kernel_rfl⟩ (fun n h0 h1 w ht=>Go.Proofs.Tryz.strconv_Itoa n h0 h1 w ht)
end Go.Ab
