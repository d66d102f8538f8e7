import Derived.Test.YtgcndlhopflceaaGreatDoorAbIt
import Derived.Test.YtgcndlhopflceaaGreatDoorProg
import Derived.Shelf.LaysM
import Derived.Shelf.Strconv.Itoa3
set_option linter.all false
namespace Go.Proofs
open Go.Shelf
theorem ics {α:Type}{a b:α}(h:a=b:=by kernel_rfl):some a=some b:=congrArg some h
def Tryz.laysM171_ren:Go.Shelf.Ren:=⟨fun|171=>166|243=>188|246=>200|283=>208|284=>209|285=>210|286=>211|129=>217|317=>216|318=>218|319=>219|320=>220|337=>222|338=>223|n=>n,fun|3=>3|9=>9|2=>2|4=>4|171=>254|0=>0|53=>239|37=>193|5=>5|173=>257|212=>264|51=>265|20=>20|213=>266|46=>226|232=>269|233=>270|n=>n,fun|17=>3|18=>4|19=>5|n=>n⟩
theorem Tryz.laysM171:Go.Proofs.LaysM.n171 Tryz.prog Tryz.laysM171_ren:={
 mixed:=by kernel_rfl
 f129:=Tryz.func217.trans ics
 f171:=Tryz.func166.trans ics
 f243:=Tryz.func188.trans ics
 f246:=Tryz.func200.trans ics
 f283:=Tryz.func208.trans ics
 f284:=Tryz.func209.trans ics
 f285:=Tryz.func210.trans ics
 f286:=Tryz.func211.trans ics
 f317:=Tryz.func216.trans ics
 f318:=Tryz.func218.trans ics
 f319:=Tryz.func219.trans ics
 f320:=Tryz.func220.trans ics
 f337:=Tryz.func222.trans ics
 f338:=Tryz.func223.trans ics
 t0:=Tryz.underlying0
 a0:=Tryz.isAgg0
 z0:=Tryz.sizeOf0
 v0:=Tryz.zeroValue0
 t2:=Tryz.underlying2
 a2:=Tryz.isAgg2
 z2:=Tryz.sizeOf2
 v2:=Tryz.zeroValue2
 t3:=Tryz.underlying3
 a3:=Tryz.isAgg3
 z3:=Tryz.sizeOf3
 v3:=Tryz.zeroValue3
 t4:=Tryz.underlying4
 a4:=Tryz.isAgg4
 z4:=Tryz.sizeOf4
 v4:=Tryz.zeroValue4
 t5:=Tryz.underlying5
 a5:=Tryz.isAgg5
 z5:=Tryz.sizeOf5
 v5:=Tryz.zeroValue5
 t9:=Tryz.underlying9
 a9:=Tryz.isAgg9
 z9:=Tryz.sizeOf9
 v9:=Tryz.zeroValue9
 t20:=Tryz.underlying20
 a20:=Tryz.isAgg20
 z20:=Tryz.sizeOf20
 v20:=Tryz.zeroValue20
 t37:=Tryz.underlying193
 a37:=Tryz.isAgg193
 z37:=Tryz.sizeOf193
 v37:=Tryz.zeroValue193
 t46:=Tryz.underlying226
 a46:=Tryz.isAgg226
 z46:=Tryz.sizeOf226
 v46:=Tryz.zeroValue226
 t51:=Tryz.underlying265
 a51:=Tryz.isAgg265
 z51:=Tryz.sizeOf265
 v51:=Tryz.zeroValue265
 t53:=Tryz.underlying239
 a53:=Tryz.isAgg239
 z53:=Tryz.sizeOf239
 v53:=Tryz.zeroValue239
 t171:=Tryz.underlying254
 a171:=Tryz.isAgg254
 z171:=Tryz.sizeOf254
 v171:=Tryz.zeroValue254
 t173:=Tryz.underlying257
 a173:=Tryz.isAgg257
 z173:=Tryz.sizeOf257
 v173:=Tryz.zeroValue257
 t212:=Tryz.underlying264
 a212:=Tryz.isAgg264
 z212:=Tryz.sizeOf264
 v212:=Tryz.zeroValue264
 t213:=Tryz.underlying266
 a213:=Tryz.isAgg266
 z213:=Tryz.sizeOf266
 t232:=Tryz.underlying269
 a232:=Tryz.isAgg269
 z232:=Tryz.sizeOf269
 v232:=Tryz.zeroValue269
 t233:=Tryz.underlying270
 a233:=Tryz.isAgg270
 z233:=Tryz.sizeOf270
 v233:=Tryz.zeroValue270
 g17:=by kernel_rfl
 g18:=by kernel_rfl
 g19:=by kernel_rfl
 i0:=by kernel_rfl
 i2:=by kernel_rfl
 i3:=by kernel_rfl
 i4:=by kernel_rfl
 i5:=by kernel_rfl
 i9:=by kernel_rfl
 i20:=by kernel_rfl
 i37:=by kernel_rfl
 i46:=by kernel_rfl
 i51:=by kernel_rfl
 i53:=by kernel_rfl
 i171:=by kernel_rfl
 i173:=by kernel_rfl
 i212:=by kernel_rfl
 i232:=by kernel_rfl
 i233:=by kernel_rfl
 m17:=by kernel_rfl
 m18:=by kernel_rfl
 m19:=by kernel_rfl}
open Go.RowKit Go.Sort Go.Lib in
theorem Tryz.strconv_Itoa (n : Int) (h0 : -9223372036854775808 ≤ n) (h1 : n ≤ 9223372036854775807) (w : World) (htab : Lib.TabIs Tryz.prog w "internal/strconv.uint64pow10" .u64 Lib.pow10Tab) :
  Calls Tryz.prog 166 #[.int .i64 n] w fun e w'=>e= .returned (.string ⟨(Lib.itoa n).toArray⟩)∧∃k os,w'=grow (w.drewN k) os:=Any.strconv_Itoa Tryz.laysM171 n h0 h1 w htab
end Go.Proofs
namespace Go.Ab
open Go
theorem ë (L:Letters){G:bY}(hG:G 3=some vD): @fp L Go.Proofs.Tryz.prog G 166 mg:=Sc (g0:=3) hG (by kernel_rfl) ⟨_,Go.Proofs.Tryz.func166,by kernel_rfl,by kernel_rfl⟩ (fun n h0 h1 w ht=>Go.Proofs.Tryz.strconv_Itoa n h0 h1 w ht)
end Go.Ab
