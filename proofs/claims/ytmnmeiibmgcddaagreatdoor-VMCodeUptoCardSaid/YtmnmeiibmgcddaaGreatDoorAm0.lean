import Derived.Calls
import Derived.Orders
import Derived.RowKit3
import Derived.Laws.IdiomCopy
import Derived.Laws.Entries
import Derived.ChangeKeysEq
import Derived.IntWalk
import Derived.Lib.Builder
import Derived.Lib.UnsafeStr
import Derived.Laws.StructEq
set_option linter.all false
namespace Go.Ab
open Go
abbrev LN:=List Nat
abbrev LI:=List Int
def lα:=@List.length_map
def lβ:=@Option.some.injEq
def lγ:=@Bool.and_eq_true
def lδ:=@decide_eq_true_eq
def lε:=@List.length_append
def lζ:=@decide_eq_false_iff_not
def lη:=@List.getElem?_eq_getElem
def lθ:=@List.eq_nil_of_length_eq_zero
def lι:=@List.getElem?_append_left
def lκ:=@decide_eq_true
def lμ:=@List.getElem_mem
def lν:=@Nat.eq_of_beq_eq_true
def lξ:=@List.take_of_length_le
def lπ:=@List.getElem?_append_right
def lρ:=@List.append_assoc
def lσ:=@List.getElem?_map
def lτ:=@Prod.mk.injEq
def lυ:=@List.getElem?_eq_none
def lχ:=@List.mem_cons_self
def lψ:=@Nat.mul_le_mul_right
def lω:=@List.cons.injEq
def mα:=@List.mem_cons_of_mem
def mβ:=@decide_eq_false
def mγ:=@List.mem_cons
def mδ:=@Nat.lt_or_ge
def mε:=@List.length_take
def mζ:=@List.all_eq_true
def mη:=@List.append_nil
def mθ:=@List.mem_of_getElem?
def mι:=@Bool.eq_iff_iff
def mκ:=@Nat.add_mul
def mμ:=@List.drop_eq_getElem_cons
def mν:=@List.length_replicate
def mξ:=@List.getD_eq_getElem?_getD
def mπ:=@Bool.or_eq_true
def mρ:=@Option.map_eq_some_iff
def mσ:=@List.findIdx?_eq_none_iff
def mτ:=@List.getElem?_set_ne
def mυ:=@Int.toNat_of_nonneg
def mχ:=@List.length_drop
def mψ:=@Nat.lt_of_lt_of_le
def mω:=@List.drop_drop
def qα:=@List.getElem?_set_self
def qβ:=@List.length_zip
def qγ:=@Bool.or_eq_false_iff
def qδ:=@Nat.le_trans
def qε:=@List.mem_append
def qζ:=@List.getElem_of_mem
def qη:=@List.findIdx?_cons
def qθ:=@List.findIdx?_eq_some_iff_getElem
def qι:=@List.mem_of_mem_take
def qκ:=@List.any_eq_false
inductive kI where
 |exact|nil|some|na
 deriving DecidableEq
inductive Sy where
 |lin (c:Int) (ks:List (Int×Int×Int))
 |rng (lo hi:Int)
inductive Da where
 |bool (b:Bool)
 |int (k:IntKind) (n:Int)
 |str (s:LN)
 |agg (cs:List Da)
 |slice (z:Nat) (es:List Da)
 |nilptr
 |ptr (x:Da)
 |map (ks vs:List Da)
 |nilmap
 |fn (f:Nat) (caps:List Da)
 |nilfn
 |iface (t:Nat) (x:Da)
 |nilif
 |sliceE (z:Nat) (es:List Da)
 |sym (k:IntKind) (s:Sy)
abbrev LD:=List Da
inductive D where
 |p (x:Da)
 |agg (cs:List D)
 |tup (ds:List D)
 |box (id off:Nat)
 |el (id i off:Nat)
 |ip (x:Da) (off:Nat)
 |arr (id lo len z:Nat)
 |sl (g:kI) (z:Nat) (es:LD)
 |map (id:Nat)
 |fn (f:Nat) (caps:List D)
 |iface (t:Nat) (d:D)
 |junk
inductive Ob where
 |box (cs:List D)
 |arr (es:LD)
 |fz (es:LD)
 |map (ks vs:LD)
 |fzm (ks vs:LD)
 |dead
 |unborn
 |mapd (ks:LD) (vs:List D)
 |byt (es:LD)
 |may (b:Bool) (es:LD)
inductive A where
 |t (n:Nat)
 |c (x:Da)
 |n (z:Nat)
 |f (g:Nat)
 |g (x:Da)
inductive O where
 |mv|pick
 |alloc (zs:List D)
 |box (n:Nat)
 |build (zs:List D) (ps:List (Nat×Nat))
 |bsl (esz:Nat) (z:Da) (n:Nat) (ps:LN)
 |bslm (esz:Nat) (z:Da) (n:Nat) (ps:LN)
 |bsle (esz:Nat) (z:Da) (n:Nat) (ps:LN)
 |load (n:Nat) (agg:Bool)
 |store (n:Nat)
 |nilck
 |bin (op:BinOp)
 |binB (op:BinOp)
 |binN (kd:Nat) (op:BinOp)
 |binS (ks:LN) (op:BinOp)
 |un (op:UnOp)
 |conv (k:IntKind)
 |mkif (t:Nat)
 |mkfn (f:Nat)
 |mkmap
 |mksl (esz:Nat) (z:Da) (bytes:Nat)
 |slStr (lo hi:Bool)
 |slSl (esz:Nat) (lo hi mx:Bool)
 |fa (off:Nat)
 |fld (off n:Nat) (agg:Bool)
 |ia (esz:Nat)
 |iaa (n esz:Nat)
 |ix
 |ixa (n esz:Nat) (agg:Bool)
 |lkp (kt:TypeDesc) (z:D) (ok:Bool)
 |mupd (kt:TypeDesc)
 |cpy (esz:Nat)
 |clr (esz:Nat) (z:Da)
 |slX (esz:Nat) (lo:Bool)
 |slck (lo hi:Bool)
 |slW (esz:Nat) (lo hi:Bool)
 |appI (esz:Nat)
 |ext (i:Nat)
 |call (f:Nat) (raw:Bool)
 |callv
 |len (kd:Nat)
 |cap|min2|max2
 |app (esz bytes:Nat)
 |appm (esz:Nat) (z:Da) (bytes:Nat)
 |same
 |assertT (t:Nat) (z:D) (ok:Bool)
 |clone
 |b2s
 |s2b
 |pan
 |appB (bytes:Nat)
 |pne
 |uns
 |sdata
 |ustr
structure eT where
 dst:Option Nat
 op:O
 as:List A
 k:Nat
 gd:Option (Nat×Bool)
inductive Gh where
 |own (slot z:Nat)
 |ownc (slot off z:Nat)
 |frz (slot:Nat)
 |frzc (slot off:Nat)
 |tog (slot off:Nat)
 |pst (slot off:Nat)
 |pfz (slot off:Nat)
 |pkp (live:LN)
 |keep (live:LN)
inductive Co where
 |skip
 |reg (nal:Nat) (ops:List eT) (prs:Option (List (Nat×Nat))) (out:LN)
 |seq (a b:Co)
 |cond (c:A) (t e:Co)
 |block (id:Nat) (b:Co)
 |loop (live:LN) (b:Co)
 |exit (id:Nat)
 |ret
 |gh (g:Gh) (c:Co)
inductive Rv where
 |t (n:Nat)
 |cell (a n:Nat) (agg:Bool)
structure Fx where
 body:Co
 res:List Rv
 fz:Bool
inductive Tm where
 |nil
 |cons (s:Nat) (d:D) (r:Tm)
structure St where
 tm:Tm
 hp:List Ob
def zM (f:Nat):Nat:=f % 1000000
def Đ (f:Nat):Nat:=f / 1000000
def gJ {α:Type}(f:Nat)(caps args:List α):List α:=caps.take (Đ f)++(args++caps.drop (Đ f))
def get:Tm->Nat->D
 | .nil,_=> .junk
 | .cons s d r,t=>bif Nat.beq s t then d else get r t
def ev (tm:Tm):A->D
 | .t n=>get tm n
 | .c x=> .p x
 | .n z=> .sl .nil z []
 | .f g=> .p (.fn g [])
 | .g x=> .ip x 0
def put (dst:Option Nat)(v:D)(tm:Tm):Tm:=
 match dst with
 |some d=> .cons d v tm
 |none=>tm
def iV:List D->Option (LD)
 |[]=>some []
 | .p x::r=>match iV r with
  |some xs=>some (x::xs)
  |none=>none
 |_::_=>none
def yE (ds:List D):D:=
 match iV ds with
 |some xs=> .p (.agg xs)
 |none=> .agg ds
def cells:Da->LD
 | .agg cs=>cs
 |x=>[x]
def bA:D->List D
 | .p (.agg cs)=>cs.map .p
 | .agg ds=>ds
 |d=>[d]
def dZ:D->Bool
 | .junk=>false
 | .tup _=>false
 | .agg _=>false
 |_=>true
def dids:D->LN
 | .agg cs=>didsL cs
 | .tup ds=>didsL ds
 | .box id _=>[id]
 | .el id _ _=>[id]
 | .arr id _ _ _=>[id]
 | .sl _ _ _=>[]
 | .map id=>[id]
 | .fn _ caps=>didsL caps
 | .iface _ d=>dids d
 | .p _=>[]
 | .ip _ _=>[]
 | .junk=>[]
where
 didsL:List D->LN
 |[]=>[]
 |d::r=>dids d++didsL r
def hO:Ob->LN
 | .box cs=>dids.didsL cs
 | .mapd _ vs=>dids.didsL vs
 |_=>[]
def cF (hp:List Ob):Nat->LN->LN->LN
 |0,_,acc=>acc
 |_+1,[],acc=>acc
 |n+1,id::ws,acc=>
  if acc.contains id then cF hp n ws acc
  else cF hp n (hO (hp.getD id .dead)++ws) (acc++[id])
def bf:Nat:=4000
def mapD (σ:Nat->Option Nat):D->D
 | .agg cs=> .agg (mapDL cs)
 | .tup ds=> .tup (mapDL ds)
 | .box id off=>match σ id with|some j=> .box j off|none=> .junk
 | .el id i off=>match σ id with|some j=> .el j i off|none=> .junk
 | .arr id lo len z=>match σ id with|some j=> .arr j lo len z|none=> .junk
 | .sl g z es=> .sl g z es
 | .map id=>match σ id with|some j=> .map j|none=> .junk
 | .fn f caps=> .fn f (mapDL caps)
 | .iface t d=> .iface t (mapD σ d)
 | .p x=> .p x
 | .ip x off=> .ip x off
 | .junk=> .junk
where
 mapDL:List D->List D
 |[]=>[]
 |d::r=>mapD σ d::mapDL r
def cm (σ:Nat->Option Nat):Ob->Ob
 | .box cs=> .box (mapD.mapDL σ cs)
 | .mapd ks vs=> .mapd ks (mapD.mapDL σ vs)
 |o=>o
def idx (ids:LN)(id:Nat):Option Nat:=
 go ids 0
where
 go:LN->Nat->Option Nat
 |[],_=>none
 |x::r,n=>bif Nat.beq x id then some n else go r (n+1)
def aS (hp:List Ob)(i:Nat):Ob:=hp.getD i .dead
def jm:List Ob->Nat->Ob->List Ob
 |[],_,_=>[]
 |_::r,0,o=>o::r
 |x::r,n+1,o=>x::jm r n o
def aw:List Ob->List (Nat×Ob)->List Ob
 |hp,[]=>hp
 |hp,(i,o)::r=>aw (jm hp i o) r
def eS:List (Nat×Ob)->Nat->Ob
 |[],_=> .dead
 |(i,o)::r,id=>bif Nat.beq i id then o else eS r id
def G_ (os:List (Nat×Ob))(id off:Nat):Option Da:=
 match eS os id with
 | .box cs=>bif Nat.beq off 0 then(match iV cs with
  |some xs=>some (.ptr (.agg xs))
  |none=>none)else none
 |_=>none
def Ţ (os:List (Nat×Ob))(d:D)(o:Option Da):Option Da:=
 match d with
 | .box id off=>G_ os id off
 |_=>o
def pur (os:List (Nat×Ob)):D->Option Da
 | .p x=>some x
 | .agg cs=>(purL cs).map .agg
 | .arr id lo len z=>match eS os id with
  | .arr es=>some (.slice z ((es.drop lo).take len))
  | .fz es=>some (.slice z ((es.drop lo).take len))
  |_=>none
 | .sl _ z es=>some (.slice z es)
 | .map id=>match eS os id with
  | .map ks vs=>some (.map ks vs)
  | .fzm ks vs=>some (.map ks vs)
  |_=>none
 | .fn f caps=>(purC caps).map (.fn f)
 | .iface t d=>(pur os d).map (.iface t)
 | .ip x off=>bif Nat.beq off 0 then some (.ptr x)else none
 | .tup _=>none
 | .box _ _=>none
 | .el _ _ _=>none
 | .junk=>none
where
 purL:List D->Option (LD)
 |[]=>some []
 |d::r=>match pur os d with
  |some x=>match purL r with
   |some xs=>some (x::xs)
   |none=>none
  |none=>none
 purC:List D->Option (LD)
 |[]=>some []
 |d::r=>match Ţ os d (pur os d)with
  |some x=>match purC r with
   |some xs=>some (x::xs)
   |none=>none
  |none=>none
def mG:Ob->Ob
 | .box _=> .dead
 | .arr es=> .fz es
 | .map ks vs=> .fzm ks vs
 |o=>o
def dU (os:List (Nat×Ob)):List (Nat×Ob):=os.map fun(i,o)=>(i,mG o)
def cM:LN->LN->Bool
 |[],[]=>true
 |a::x,b::y=>bif Nat.beq a b then cM x y else false
 |_,_=>false
def Ä:LN->LN->Bool
 |_,[]=>false
 |[],_::_=>true
 |a::x,b::y=>bif Nat.blt a b then true else bif Nat.beq a b then Ä x y else false
def az:Int->Int->Bool
 | .ofNat a,.ofNat b=>Nat.beq a b
 | .negSucc a,.negSucc b=>Nat.beq a b
 |_,_=>false
def aK:Int->Int->Bool
 | .ofNat a,.ofNat b=>Nat.blt a b
 | .negSucc a,.negSucc b=>Nat.blt b a
 | .negSucc _,.ofNat _=>true
 | .ofNat _,.negSucc _=>false
def aV (a b:Int):Bool:=!(aK b a)
def ab (k:IntKind)(n:Int):Int:=
 match k,n with
 | .i64,.ofNat m=>bif Nat.blt m 9223372036854775808 then .ofNat m else k.wrap n
 | .i64,.negSucc m=>bif Nat.blt m 9223372036854775808 then .negSucc m else k.wrap n
 | .u64,.ofNat m=>bif Nat.blt m 18446744073709551616 then .ofNat m else k.wrap n
 | .u8,.ofNat m=>bif Nat.blt m 256 then .ofNat m else k.wrap n
 | .i32,.ofNat m=>bif Nat.blt m 2147483648 then .ofNat m else k.wrap n
 | .u32,.ofNat m=>bif Nat.blt m 4294967296 then .ofNat m else k.wrap n
 |_,_=>k.wrap n
def oU:Nat:=9223372036854775807
def Ã:List (Int×Int×Int)->Int
 |[]=>0
 |(a,l,h)::r=>(bif aK a 0 then a*h else a*l)+Ã r
def é:List (Int×Int×Int)->Int
 |[]=>0
 |(a,l,h)::r=>(bif aK a 0 then a*l else a*h)+é r
def Sy.low:Sy->Int
 | .lin c ks=>c+Ã ks
 | .rng l _=>l
def Sy.top:Sy->Int
 | .lin c ks=>c+é ks
 | .rng _ h=>h
def zI (f:Int):List (Int×Int×Int)->List (Int×Int×Int)->List (Int×Int×Int)
 |[],[]=>[]
 |[],(b,l,h)::s=>(f*b,l,h)::zI f [] s
 |(a,l,h)::r,[]=>(a,l,h)::r
 |(a,l,h)::r,(b,_,_)::s=>(a+f*b,l,h)::zI f r s
def Ń (a b:Sy):Sy:=
 match a,b with
 | .lin c ks,.lin d js=> .lin (c+d) (zI 1 ks js)
 |a,b=> .rng (a.low+b.low) (a.top+b.top)
def za (a b:Sy):Sy:=
 match a,b with
 | .lin c ks,.lin d js=> .lin (c - d) (zI (-1) ks js)
 |a,b=> .rng (a.low - b.top) (a.top - b.low)
def qA (f:Int):List (Int×Int×Int)->List (Int×Int×Int)
 |[]=>[]
 |(a,l,h)::r=>(f*a,l,h)::qA f r
def vF (m:Int):List (Int×Int×Int)->List (Int×Int×Int)
 |[]=>[]
 |(a,l,h)::r=>(bif az (a.emod m) 0 then 0 else a,l,h)::vF m r
def kLo:IntKind->Int
 | .i64=> -9223372036854775808
 | .u8=>0
 | .u16=>0
 | .u32=>0
 | .u64=>0
 |_=>1
def kHi:IntKind->Int
 | .i64=>9223372036854775807
 | .u8=>255
 | .u16=>65535
 | .u32=>4294967295
 | .u64=>18446744073709551615
 |_=>0
def TX:List (Int×Int×Int)->Bool
 |[]=>true
 |(a,_,_)::r=>az a 0&&TX r
def Ç (k:IntKind)(s:Sy):Option Da:=
 bif aV (kLo k) s.low&&aV s.top (kHi k)then
  match s with
  | .lin c ks=>bif TX ks then some (.int k c)else some (.sym k (.lin c ks))
  |s=>some (.sym k s)
 else none
def ϛ (a b:Sy):Option Sy:=
 match a,b with
 | .lin c [],.lin d js=>some (.lin (c*d) (qA c js))
 | .lin d ks,.lin c []=>some (.lin (c*d) (qA c ks))
 |_,_=>none
def Ϧ (a b:Sy):Option Sy:=
 bif aV 0 a.low&&aK 0 b.low then some (.rng (a.low.tdiv b.top) (a.top.tdiv b.low))else none
def Ϩ (a b:Sy):Option Sy:=
 match a,b with
 | .lin c ks,.lin m []=>
  let r:Sy:= .lin (c.emod m) (vF m ks)
  bif aK 0 m&&(aV 0 (Sy.lin c ks).low&&(aV 0 r.low&&aK r.top m))then some r else none
 |_,_=>none
def Vg (d:Sy):Option Bool:=
 bif az d.low 0&&az d.top 0 then some true else bif aK 0 d.low||aK d.top 0 then some false else none
def Å (d:Sy):Option Bool:=
 bif aK d.top 0 then some true else bif aV 0 d.low then some false else none
def Z9 (d:Sy):Option Bool:=
 bif aV d.top 0 then some true else bif aK 0 d.low then some false else none
def qY (w:Bool):Option Bool->Option Da
 |some b=>some (.bool (b==w))
 |none=>none
def mkO (k:IntKind):Option Sy->Option Da
 |some s=>Ç k s
 |none=>none
def Ud (op:BinOp)(k:IntKind)(a b:Sy):Option Da:=
 match op with
 | .add=>Ç k (Ń a b)
 | .sub=>Ç k (za a b)
 | .mul=>mkO k (ϛ a b)
 | .quo=>mkO k (Ϧ a b)
 | .rem=>mkO k (Ϩ a b)
 | .eql=>qY true (Vg (za a b))
 | .neq=>qY false (Vg (za a b))
 | .lss=>qY true (Å (za a b))
 | .geq=>qY false (Å (za a b))
 | .leq=>qY true (Z9 (za a b))
 | .gtr=>qY false (Z9 (za a b))
 |_=>none
def B5:Da->Option (IntKind×Sy)
 | .int k n=>some (k,.lin n [])
 | .sym k s=>some (k,s)
 |_=>none
def CN (op:BinOp)(x y:Da):Option Da:=
 match B5 x,B5 y with
 |some (k,a),some (k',b)=>if k=k' then Ud op k a b else none
 |_,_=>none
def jX (op:BinOp)(k:IntKind)(a b:Int):Option Da:=
 match op with
 | .add=>some (.int k (ab k (a+b)))
 | .sub=>some (.int k (ab k (a - b)))
 | .mul=>some (.int k (ab k (a*b)))
 | .quo=>bif az b 0 then none else some (.int k (ab k (a.tdiv b)))
 | .rem=>bif az b 0 then none else some (.int k (a.tmod b))
 | .and=>some (.int k (ab k (BitVec.ofInt k.bits a &&& BitVec.ofInt k.bits b).toNat))
 | .or=>some (.int k (ab k (BitVec.ofInt k.bits a ||| BitVec.ofInt k.bits b).toNat))
 | .xor=>some (.int k (ab k (BitVec.ofInt k.bits a ^^^ BitVec.ofInt k.bits b).toNat))
 | .andNot=>some (.int k (ab k (BitVec.ofInt k.bits a &&& ~~~(BitVec.ofInt k.bits b)).toNat))
 | .eql=>some (.bool (az a b))
 | .neq=>some (.bool (!(az a b)))
 | .lss=>some (.bool (aK a b))
 | .leq=>some (.bool (aV a b))
 | .gtr=>some (.bool (aK b a))
 | .geq=>some (.bool (aV b a))
 |_=>none
def lK (op:BinOp)(k:IntKind)(a b:Int):Option Da:=
 bif aK b 0 then none else
 match op with
 | .shl=>some (.int k (ab k (a*2 ^ (min b.toNat k.bits))))
 | .shr=>some (.int k (a.fdiv (2 ^ (min b.toNat k.bits))))
 |_=>none
def gL:BinOp->Bool
 | .shl=>true
 | .shr=>true
 |_=>false
def p9 (op:BinOp)(a b:LN):Option Da:=
 match op with
 | .add=>bif Nat.ble (a.length+b.length) oU then some (.str (a++b))else none
 | .eql=>some (.bool (cM a b))
 | .neq=>some (.bool (!(cM a b)))
 | .lss=>some (.bool (Ä a b))
 | .leq=>some (.bool (Ä a b||cM a b))
 | .gtr=>some (.bool (!(Ä a b||cM a b)))
 | .geq=>some (.bool (!(Ä a b)))
 |_=>none
def gq (kd:Nat)(d:D):Option Bool:=
 match kd with
 |0=>match d with
  | .p .nilptr=>some true
  | .p (.ptr _)=>some false
  | .box _ _=>some false
  | .el _ _ _=>some false
  | .ip _ _=>some false
  |_=>none
 |1=>match d with
  | .sl .nil _ _=>some true
  | .sl .na _ _=>some true
  | .sl .some _ _=>some false
  | .sl .exact _ (_::_)=>some false
  | .p (.slice _ (_::_))=>some false
  | .arr _ _ (_+1) _=>some false
  |_=>none
 |2=>match d with
  | .p .nilmap=>some true
  | .p (.map _ _)=>some false
  | .map _=>some false
  |_=>none
 |3=>match d with
  | .p .nilfn=>some true
  | .p (.fn _ _)=>some false
  | .fn _ _=>some false
  |_=>none
 |4=>match d with
  | .p .nilif=>some true
  | .p (.iface _ _)=>some false
  | .iface _ _=>some false
  |_=>none
 |_=>none
def lF (kd:Nat)(d:D):Bool:=
 match gq kd d with
 |some b=>b
 |none=>false
def tg (op:BinOp)(r:Option Bool):Option Da:=
 match r with
 |some b=>match op with
  | .eql=>some (.bool b)
  | .neq=>some (.bool (!b))
  |_=>none
 |none=>none
def DP:D->Bool
 | .p (.ptr _)=>true
 | .p (.fn _ _)=>true
 | .p (.iface _ _)=>true
 | .box _ _=>true
 | .el _ _ _=>true
 | .ip _ _=>true
 | .fn _ _=>true
 | .iface _ _=>true
 |_=>false
def bin (op:BinOp)(x y:D):Option Da:=
 match x,y with
 | .p (.int k a),.p (.int k' b)=>
  bif gL op then lK op k a b
  else if k=k' then jX op k a b else none
 | .p (.str a),.p (.str b)=>p9 op a b
 | .p x,.p y=>CN op x y
 |_,_=>none
def binB (op:BinOp)(x y:D):Option Da:=
 match x,y with
 | .p (.bool a),.p (.bool b)=>match op with
  | .eql=>some (.bool (a==b))
  | .neq=>some (.bool (!(a==b)))
  |_=>none
 |_,_=>none
def binN (kd:Nat)(op:BinOp)(x y:D):Option Da:=
 bif lF kd y then tg op (gq kd x)else bif lF kd x then tg op (gq kd y)else none
def Ey:D->D->Bool
 | .box i o,.box j p=>Nat.beq i j&&Nat.beq o p
 |_,_=>false
def LO (x y:D):Option Da:=bif Ey x y then some (.bool false)else binN 0 .neq x y
def tD (k:Nat)(x y:Da):Option Bool:=
 match k with
 |0=>match x,y with
  | .int i a,.int j b=>if i=j then some (az a b)else none
  |x,y=>match CN .eql x y with
   |some (.bool b)=>some b
   |_=>none
 |1=>match x,y with
  | .str a,.str b=>some (cM a b)
  |_,_=>none
 |2=>match x,y with
  | .bool a,.bool b=>some (a==b)
  |_,_=>none
 |_=>none
def gH:LN->LD->LD->Option Bool
 |[],_,_=>some true
 |k::ks,x::xs,y::ys=>match tD k x y with
  |some b=>bif b then gH ks xs ys else some false
  |none=>none
 |_,_,_=>none
def binS (ks:LN)(op:BinOp)(x y:D):Option Da:=
 match x,y with
 | .p (.agg xs),.p (.agg ys)=>match gH ks xs ys with
  |some b=>match op with
   | .eql=>some (.bool b)
   | .neq=>some (.bool (!b))
   |_=>none
  |none=>none
 |_,_=>none
def un (op:UnOp)(x:D):Option Da:=
 match op,x with
 | .neg,.p (.int k n)=>some (.int k (ab k (0 - n)))
 | .neg,.p (.sym k s)=>Ç k (za (.lin 0 []) s)
 | .not,.p (.bool b)=>some (.bool (!b))
 |_,_=>none
def splice {α:Type}(l:List α)(off:Nat)(xs:List α):List α:=l.take off++xs++l.drop (off+xs.length)
def pk (cs:List D):List (Nat×Nat)->List D->Option (List D)
 |[],[]=>some cs
 |(off,n)::ps,d::ds=>
  let xs:=bA d
  bif Nat.beq xs.length n&&Nat.ble (off+n) cs.length&&xs.all dZ then pk (splice cs off xs) ps ds else none
 |_,_=>none
def uB (es:LD):LN->LD->Option (LD)
 |[],[]=>some es
 |i::is,x::xs=>bif Nat.blt i es.length then uB (es.set i x) is xs else none
 |_,_=>none
def fk (old:Da)(cs:LD):Option Da:=
 match old,cs with
 | .agg _,cs=>some (.agg cs)
 |_,[c]=>some c
 |_,_=>none
def eC (agg:Bool)(ds:List D):Option D:=
 bif agg then some (yE ds)else match ds with
  |[d]=>some d
  |_=>none
def sub {α:Type}(l:List α)(off n:Nat):Option (List α):=
 bif Nat.ble (off+n) l.length then some ((l.drop off).take n)else none
def bI (es:LD)(i:Int):Option Da:=bif aV 0 i then es[i.toNat]? else none
def lw (x:D)(y:Nat):Option Nat:=
 match x with
 | .p (.int _ i)=>bif aV 0 i&&aV i y then some i.toNat else none
 |_=>none
def cz (lo hi mx:Bool)(len:Nat)(xs:List D):Option (Nat×Nat×Nat):=
 match lo,hi,mx,xs with
 |false,false,false,[]=>some (0,len,len)
 |true,false,false,[a]=>match lw a len with
  |some l=>some (l,len,len)
  |none=>none
 |false,true,false,[b]=>match lw b len with
  |some h=>some (0,h,len)
  |none=>none
 |true,true,false,[a,b]=>match lw b len with
  |some h=>match lw a h with
   |some l=>some (l,h,len)
   |none=>none
  |none=>none
 |false,true,true,[b,c]=>match lw c len with
  |some m=>match lw b m with
   |some h=>some (0,h,m)
   |none=>none
  |none=>none
 |true,true,true,[a,b,c]=>match lw c len with
  |some m=>match lw b m with
   |some h=>match lw a h with
    |some l=>some (l,h,m)
    |none=>none
   |none=>none
  |none=>none
 |_,_,_,_=>none
def j5 (kt:TypeDesc)(x y:Da):Option Bool:=
 match kt,x,y with
 | .int _,.int k a,.int k' b=>if k=k' then some (az a b)else none
 | .string,.str a,.str b=>some (cM a b)
 |_,_,_=>none
def cS (kt:TypeDesc)(k:Da):LD->Nat->Option (Option Nat)
 |[],_=>some none
 |x::r,i=>match j5 kt k x with
  |some true=>some (some i)
  |some false=>cS kt k r (i+1)
  |none=>none
def BB (n:Nat):Da:= .int .i64 n
def EL:Nat:=67
def Jp:Nat:=5
def pH:List D->Bool
 | .p .nilptr::_=>true
 | .box _ _::_=>true
 |_=>false
def b3 (cs:List D):Bool:=Nat.beq cs.length 3&&pH cs
def bB (o:O)(vs:List D)(hp:List Ob):LN:=
 match o with
 | .load _ _=>match vs with|d::_=>dids d|_=>[]
 | .store _=>dids.didsL vs
 | .bsl _ _ _ _=>dids.didsL vs
 | .bslm _ _ _ _=>dids.didsL vs
 | .bsle _ _ _ _=>dids.didsL vs
 | .app _ _=>dids.didsL vs
 | .appm _ _ _=>dids.didsL vs
 | .lkp _ _ _=>match vs with|d::_=>dids d|_=>[]
 | .mupd _=>dids.didsL vs
 | .cpy _=>dids.didsL vs
 | .clr _ _=>dids.didsL vs
 | .slX _ _=>match vs with|d::_=>dids d|_=>[]
 | .appI _=>dids.didsL vs
 | .len _=>match vs with| .map id::_=>[id]|_=>[]
 | .slSl _ lo hi mx=>bif mx||(lo&&!hi)then(match vs with|d::_=>dids d|_=>[])else[]
 | .call _ _=>cF hp bf (dids.didsL vs) []
 | .callv=>cF hp bf (dids.didsL vs) []
 | .clone=>dids.didsL vs
 | .b2s=>dids.didsL vs
 | .uns=>dids.didsL vs
 | .appB _=>dids.didsL vs
 | .ustr=>dids.didsL vs
 |_=>[]
def wF (z esz:Nat)(es:LD):Bool:=Nat.beq z esz||es.isEmpty
def mV (z esz:Nat)(es:LD):Option (LD):=bif wF z esz es then some es else none
def elems (esz:Nat)(os:List (Nat×Ob)):D->Option (LD)
 | .p (.slice z es)=>mV z esz es
 | .p (.sliceE z es)=>mV z esz es
 | .sl _ z es=>mV z esz es
 | .p (.str s)=>bif Nat.beq esz 1 then some (s.map fun b=> .int .u8 (Int.ofNat b))else none
 | .arr id lo len z=>match eS os id with
  | .arr es=>bif Nat.beq z esz then some ((es.drop lo).take len)else none
  | .fz es=>bif Nat.beq z esz then some ((es.drop lo).take len)else none
  |_=>none
 |_=>none
def fi:LD->Option (LN)
 |[]=>some []
 | .int .u8 n::r=>match fi r with
  |some s=>some (n.toNat % 256::s)
  |none=>none
 |_::_=>none
def sc:D->Option Nat
 | .p (.slice _ es)=>some es.length
 | .p (.sliceE _ es)=>some es.length
 | .sl _ _ es=>some es.length
 | .arr _ _ len _=>some len
 |_=>none
def kK (esz:Nat)(os:List (Nat×Ob)):D->Option (LD×List (Nat×Ob))
 | .sl .nil _ _=>some ([],[])
 | .sl .exact z es=>bif wF z esz es then some (es,[])else none
 | .p (.sliceE z es)=>bif wF z esz es then some (es,[])else none
 | .arr id lo len z=>match eS os id with
  | .arr es=>bif Nat.beq z esz then some ((es.drop lo).take len,[(id,.dead)])else none
  |_=>none
 |_=>none
def back (m len:Nat)(ids:LN)(total:Nat)(k:Nat):Option Nat:=
 bif Nat.blt k m then ids[k]? else bif Nat.blt k total then some (len+(k - m))else none
def HV:D->D
 | .sl _ z es=> .p (.slice z es)
 |d=>d
def norm:D->D
 | .sl _ z es=> .p (.slice z es)
 | .agg ds=>yE (ds.map HV)
 | .tup ds=> .tup (ds.map HV)
 |d=>d
abbrev aG:=Nat->List D->List Ob->Option (D×List Ob)
abbrev fF:=D×List (Nat×Ob)×List Ob
def fO (call:aG)(f:Nat)(args:List D)(ids:LN)(obs:List Ob)(len:Nat):Option fF:=
 match call f (mapD.mapDL (idx ids) args) (obs.map (cm (idx ids)))with
 |none=>none
 |some (r,out)=>
  bif Nat.ble ids.length out.length then
   let σ:=back ids.length len ids out.length
   let out':=out.map (cm σ)
   some (mapD σ r,ids.zip out',out'.drop ids.length)
  else none
def val (d:D):Option fF:=some (d,[],[])
def kf:Option Da->Option fF
 |some x=>some (.p x,[],[])
 |none=>none
def d_ (vs:List D):Option fF:=
 match vs with|[d]=>val d|_=>none
def Bb (vs:List D):Option fF:=
 match vs with|[.p (.bool c),a,b]=>val (bif c then a else b)|_=>none
def TJ (zs:List D)(base:Nat)(kk:Nat):Option fF:=
 some (.box (base+kk) 0,[(base+kk,.box zs)],[])
def TO (n:Nat)(base:Nat)(kk:Nat)(vs:List D):Option fF:=
 match vs with
  |[d]=>bif(bif Nat.beq n 1000003 then Nat.beq (bA d).length 3 else Nat.beq (bA d).length n&&!b3 (bA d))&&(bA d).all dZ then some (.box (base+kk) 0,[(base+kk,.box (bA d))],[])else none
  |_=>none
def pX (zs:List D)(ps:List (Nat×Nat))(vs:List D):Option fF:=
 match pk zs ps vs with
  |some cs=>val (yE cs)
  |none=>none
def PG (esz:Nat)(z:Da)(n:Nat)(ps:LN)(vs:List D)(ids:LN)(obs:List Ob):Option fF:=
 match pur.purL (ids.zip obs) vs with
  |some xs=>bif xs.all (fun e=>Nat.beq (cells e).length esz)then
   match uB (List.replicate n z) ps xs with
   |some es=>some (.sl .exact esz es,dU (ids.zip obs),[])
   |none=>none
   else none
  |none=>none
def TP (esz:Nat)(z:Da)(n:Nat)(ps:LN)(vs:List D)(ids:LN)(obs:List Ob):Option fF:=
 match PG esz z n ps vs ids obs with
  |some (.sl .exact z es,ups,new)=>some (.p (.sliceE z es),ups,new)
  |_=>none
def TQ (esz:Nat)(z:Da)(n:Nat)(ps:LN)(base kk:Nat)(vs:List D)(ids:LN)(obs:List Ob):Option fF:=
 match pur.purL (ids.zip obs) vs with
  |some xs=>bif xs.all (fun e=>Nat.beq (cells e).length esz)then
   match uB (List.replicate n z) ps xs with
   |some es=>some (.arr (base+kk) 0 n esz,dU (ids.zip obs)++[(base+kk,.arr es)],[])
   |none=>none
   else none
  |none=>none
def gn (n:Nat)(agg:Bool)(vs:List D)(obs:List Ob):Option fF:=
 match vs with
  |[.box _ off]=>match obs with
   |[.box cs]=>match sub cs off n with
    |some ds=>match eC agg ds with
     |some d=>val d
     |none=>none
    |none=>none
   |_=>none
  |[.el _ i off]=>match obs with
   |[.arr es]=>match es[i]? with
    |some e=>match sub (cells e) off n with
     |some ds=>match eC agg (ds.map .p)with
      |some d=>val d
      |none=>none
     |none=>none
    |none=>none
   |[.fz es]=>match es[i]? with
    |some e=>match sub (cells e) off n with
     |some ds=>match eC agg (ds.map .p)with
      |some d=>val d
      |none=>none
     |none=>none
    |none=>none
   |_=>none
  |[.ip x off]=>match sub (cells x) off n with
   |some ds=>match eC agg (ds.map .p)with
    |some d=>val d
    |none=>none
   |none=>none
  |[.p (.ptr x)]=>match sub (cells x) 0 n with
   |some ds=>match eC agg (ds.map .p)with
    |some d=>val d
    |none=>none
   |none=>none
  |_=>none
def mA (n:Nat)(vs:List D)(ids:LN)(obs:List Ob):Option fF:=
 match vs with
  |[.box id off,d]=>
   let xs:=bA d
   match eS (ids.zip obs) id with
   | .box cs=>bif Nat.beq xs.length n&&Nat.ble (off+n) cs.length&&xs.all dZ then(bif b3 (splice cs off xs)&&!b3 cs then none else some (.junk,[(id,.box (splice cs off xs))],[]))else none
   |_=>none
  |[.el id i off,d]=>
   let os:=(ids.zip obs).filter fun p=>!Nat.beq p.1 id
   match eS (ids.zip obs) id with
   | .arr es=>match es[i]? with
    |some e=>match pur os d with
     |some x=>
      bif Nat.beq (cells x).length n&&Nat.ble (off+n) (cells e).length then
       match fk e (splice (cells e) off (cells x))with
       |some e'=>some (.junk,dU os++[(id,.arr (es.set i e'))],[])
       |none=>none
      else none
     |none=>none
    |none=>none
   |_=>none
  |_=>none
def pY (vs:List D):Option fF:=
 match vs with
 |[d]=>bif DP d then val d else none
 |_=>none
def CG (op:BinOp)(vs:List D):Option fF:=
 match vs with|[x,y]=>kf (bin op x y)|_=>none
def TM (op:BinOp)(vs:List D):Option fF:=
 match vs with|[x,y]=>kf (binB op x y)|_=>none
def TN (kd:Nat)(op:BinOp)(vs:List D):Option fF:=
 match vs with|[x,y]=>kf (binN kd op x y)|_=>none
def Ba (ks:LN)(op:BinOp)(vs:List D):Option fF:=
 match vs with|[x,y]=>kf (binS ks op x y)|_=>none
def aUn (op:UnOp)(vs:List D):Option fF:=
 match vs with|[x]=>kf (un op x)|_=>none
def MW (k:IntKind)(vs:List D):Option fF:=
 match vs with|[.p (.int _ n)]=>val (.p (.int k (ab k n)))|[.p (.sym _ s)]=>kf (Ç k s)|_=>none
def MY (vs:List D):Option fF:=
 match vs with|[.p (.str s)]=>val (.p (.str s))|_=>none
def Gv (t:Nat)(vs:List D):Option fF:=
 match vs with
  |[.p x]=>val (.p (.iface t x))
  |[d]=>val (.iface t d)
  |_=>none
def Gu (f:Nat)(vs:List D):Option fF:=
 match iV vs with
  |some xs=>val (.p (.fn f xs))
  |none=>val (.fn f vs)
def Kq (base:Nat)(kk:Nat):Option fF:=
 some (.map (base+kk),[(base+kk,.map [] [])],[])
def Gw (esz:Nat)(z:Da)(bytes:Nat)(base:Nat)(kk:Nat)(vs:List D):Option fF:=
 match vs with
  |[.p (.int _ l),.p (.int _ c)]=>
   bif aV 0 l&&aV l c&&Nat.ble (c.toNat*bytes) 281474976710656&&aV c 9223372036854775807 then
    some (.arr (base+kk) 0 l.toNat esz,[(base+kk,.arr (List.replicate l.toNat z))],[])else none
  |_=>none
def mz (lo:Bool)(hi:Bool)(vs:List D):Option fF:=
 match vs with
  | .p (.str s)::xs=>match cz lo hi false s.length xs with
   |some (l,h,_)=>val (.p (.str ((s.drop l).take (h - l))))
   |none=>none
  |_=>none
def nO (os:List (Nat×Ob))(id lo:Nat):Bool:=
 match eS os id with
 | .arr es=>Nat.blt lo es.length
 | .fz es=>Nat.blt lo es.length
 |_=>false
def hD (esz:Nat)(lo:Bool)(hi:Bool)(mx:Bool)(vs:List D)(ids:LN)(obs:List Ob):Option fF:=
 match vs with
  | .p (.slice z es)::xs=>bif wF z esz es then match cz lo hi mx es.length xs with
   |some (l,h,m)=>val (bif mx&&Nat.beq h m then .sl .exact z ((es.drop l).take (h - l))else .p (.slice z ((es.drop l).take (h - l))))
   |none=>none
   else none
  | .sl g z es::xs=>bif wF z esz es then match cz lo hi mx es.length xs with
   |some (l,h,m)=>val (match g with
    | .nil=> .sl .nil z []
    | .exact=>bif Nat.beq h m then .sl .exact z ((es.drop l).take (h - l))else .p (.slice z ((es.drop l).take (h - l)))
    |_=>bif mx&&Nat.beq h m then .sl .exact z ((es.drop l).take (h - l))else .p (.slice z ((es.drop l).take (h - l))))
   |none=>none
   else none
  | .arr id lo0 len0 z::xs=>bif Nat.beq z esz then match cz lo hi mx len0 xs with
   |some (l,h,m)=>
    bif mx then bif Nat.beq m l then val (.sl .exact z [])else match eS (ids.zip obs) id with
     | .arr es=>some (bif Nat.beq h m then .sl .exact z ((es.drop (lo0+l)).take (h - l))else .p (.slice z ((es.drop (lo0+l)).take (h - l))),[(id,.fz es)],[])
     | .fz es=>val (bif Nat.beq h m then .sl .exact z ((es.drop (lo0+l)).take (h - l))else .p (.slice z ((es.drop (lo0+l)).take (h - l))))
     |_=>none
    else bif lo&&!hi&&(Nat.beq l h&&nO (ids.zip obs) id lo0)then val (.sl .some z [])else val (.arr id (lo0+l) (h - l) z)
   |none=>none
   else none
  |_=>none
def Ŀ (off:Nat)(vs:List D):Option fF:=
 match vs with
  |[.box id o]=>val (.box id (o+off))
  |[.el id i o]=>val (.el id i (o+off))
  |[.ip x o]=>val (.ip x (o+off))
  |[.p (.ptr x)]=>val (.ip x off)
  |_=>none
def Gq (off:Nat)(n:Nat)(agg:Bool)(vs:List D):Option fF:=
 match vs with
  |[.p (.agg cs)]=>match sub (cs.map .p) off n with
   |some ds=>match eC agg ds with
    |some d=>val d
    |none=>none
   |none=>none
  |[.agg ds]=>match sub ds off n with
   |some ds=>match eC agg ds with
    |some d=>val d
    |none=>none
   |none=>none
  |_=>none
def MX (esz:Nat)(vs:List D):Option fF:=
 match vs with
  |[.p (.slice z es),.p (.int _ i)]=>bif Nat.beq z esz then match bI es i with
   |some e=>val (.ip e 0)
   |none=>none
   else none
  |[.p (.sliceE z es),.p (.int _ i)]=>bif Nat.beq z esz then match bI es i with
   |some e=>val (.ip e 0)
   |none=>none
   else none
  |[.sl _ z es,.p (.int _ i)]=>bif Nat.beq z esz then match bI es i with
   |some e=>val (.ip e 0)
   |none=>none
   else none
  |[.arr id lo len z,.p (.int _ i)]=>bif Nat.beq z esz&&aV 0 i&&aK i len then val (.el id (lo+i.toNat) 0)else none
  |_=>none
def Gr (n:Nat)(esz:Nat)(vs:List D):Option fF:=
 match vs with
  |[.box id o,.p (.int _ i)]=>bif aV 0 i&&aK i n then val (.box id (o+i.toNat*esz))else none
  |[.ip x o,.p (.int _ i)]=>bif aV 0 i&&aK i n then val (.ip x (o+i.toNat*esz))else none
  |_=>none
def X8 (vs:List D):Option fF:=
 match vs with
  |[.p (.str s),.p (.int _ i)]=>match (bif aV 0 i then s[i.toNat]? else none)with
   |some b=>val (.p (.int .u8 (Int.ofNat b)))
   |none=>none
  |_=>none
def Kp (n esz:Nat)(agg:Bool)(vs:List D):Option fF:=
 match vs with
  |[.p (.agg cs),.p (.int _ i)]=>bif aV 0 i&&aK i n then(match sub (cs.map .p) (i.toNat*esz) esz with
   |some ds=>match eC agg ds with
    |some d=>val d
    |none=>none
   |none=>none)else none
  |_=>none
def QE (kt:TypeDesc)(z:D)(ok:Bool)(ks:LD)(ws:List D)(k:D):Option fF:=
 match k with
 | .p k=>match cS kt k ks 0 with
  |some (some i)=>match ws[i]? with
   |some v=>val (bif ok then .tup [v,.p (.bool true)]else v)
   |none=>none
  |some none=>val (bif ok then .tup [z,.p (.bool false)]else z)
  |none=>none
 |_=>none
def NT (kt:TypeDesc)(id:Nat)(k:Da)(d:D)(ks:LD)(ws:List D):Option fF:=
 match cS kt k ks 0 with
 |some (some i)=>some (.junk,[(id,.mapd ks (ws.set i d))],[])
 |some none=>some (.junk,[(id,.mapd (ks++[k]) (ws++[d]))],[])
 |none=>none
def xD (kt:TypeDesc)(z:D)(ok:Bool)(vs:List D)(ids:LN)(obs:List Ob):Option fF:=
   let r (ks ws:LD) (k:D):Option fF:=match k with
   | .p k=>match cS kt k ks 0 with
    |some (some i)=>match ws[i]? with
     |some v=>val (bif ok then .tup [.p v,.p (.bool true)]else .p v)
     |none=>none
    |some none=>val (bif ok then .tup [z,.p (.bool false)]else z)
    |none=>none
   |_=>none
  match vs with
  |[.p .nilmap,k]=>r [] [] k
  |[.p (.map ks ws),k]=>r ks ws k
  |[.map id,k]=>match eS (ids.zip obs) id with
   | .map ks ws=>r ks ws k
   | .fzm ks ws=>r ks ws k
   | .mapd ks ws=>QE kt z ok ks ws k
   |_=>none
  |_=>none
def PH (esz:Nat)(vs:List D)(ids:LN)(obs:List Ob):Option fF:=
 match vs with
  |[.arr id lo len z,b]=>match eS (ids.zip obs) id with
   | .arr es=>match elems esz (ids.zip obs) b with
    |some ys=>bif(ys.take len).isEmpty then val (.p (BB 0))else
     bif Nat.beq z esz then some (.p (BB (ys.take len).length),[(id,.arr (splice es lo (ys.take len)))],[])else none
    |none=>none
   |_=>none
  |_=>none
def ľ (esz:Nat)(z:Da)(vs:List D)(ids:LN)(obs:List Ob):Option fF:=
 match vs with
  |[.arr id lo len y]=>match eS (ids.zip obs) id with
   | .arr es=>bif Nat.beq len 0 then val (.tup [])else
     bif Nat.beq y esz then some (.tup [],[(id,.arr (splice es lo (List.replicate len z)))],[])else none
   |_=>none
  |_=>none
def uA (os:List (Nat×Ob))(id:Nat):Option Nat:=
 match eS os id with
 | .arr es=>some es.length
 | .fz es=>some es.length
 |_=>none
def ŀ (esz:Nat)(lo:Bool)(vs:List D)(ids:LN)(obs:List Ob):Option fF:=
 match vs with
  | .arr id lo0 _ z::xs=>bif Nat.beq z esz then match uA (ids.zip obs) id with
   |some n=>match cz lo true false (n - lo0) xs with
    |some (l,h,_)=>val (.arr id (lo0+l) (h - l) z)
    |none=>none
   |none=>none
   else none
  |_=>none
def PJ (esz:Nat)(lo hi:Bool)(vs:List D):Option fF:=
 match vs with
  | .arr id lo0 len0 z::xs=>bif Nat.beq z esz then match cz lo hi false len0 xs with
   |some (l,h,_)=>val (.arr id (lo0+l) (h - l) z)
   |none=>none
   else none
  |_=>none
def MZ (lo hi:Bool)(vs:List D):Option fF:=
 match vs with
  | .arr _ _ len0 _::xs=>match cz lo hi true len0 xs with
   |some _=>val .junk
   |none=>none
  |_=>none
def TK (esz:Nat)(vs:List D)(ids:LN)(obs:List Ob):Option fF:=
 match vs with
  |[.arr id lo len z,b]=>match elems esz (ids.zip obs) b with
   |some ys=>bif ys.isEmpty then val (.arr id lo len z)else none
   |none=>none
  |_=>none
def uw (kt:TypeDesc)(vs:List D)(ids:LN)(obs:List Ob):Option fF:=
 match vs with
  |[.map id,.p k,d]=>
   let os:=(ids.zip obs).filter fun p=>!Nat.beq p.1 id
   match eS (ids.zip obs) id with
   | .map ks ws=>match pur os d with
    |some x=>match cS kt k ks 0 with
     |some (some i)=>some (.junk,dU os++[(id,.map ks (ws.set i x))],[])
     |some none=>some (.junk,dU os++[(id,.map (ks++[k]) (ws++[x]))],[])
     |none=>none
    |none=>NT kt id k d ks (ws.map .p)
   | .mapd ks ws=>NT kt id k d ks ws
   |_=>none
  |_=>none
def Ko (i:Nat)(vs:List D):Option fF:=
 match vs with
  |[.tup ds]=>match ds[i]? with
   |some d=>val d
   |none=>none
  |_=>none
def TR (call:aG)(vs:List D)(ids:LN)(obs:List Ob)(len:Nat):Option fF:=
 match vs with
  | .p (.fn f caps)::args=>fO call (zM f) (gJ f (caps.map .p) (args.map norm)) ids obs len
  | .fn f caps::args=>fO call (zM f) (gJ f caps (args.map norm)) ids obs len
  |_=>none
def PI (kd:Nat)(vs:List D)(ids:LN)(obs:List Ob):Option fF:=
 match kd,vs with
  |0,[.p (.str s)]=>val (.p (BB s.length))
  |1,[d]=>match sc d with
   |some n=>val (.p (BB n))
   |none=>none
  |2,[.map id]=>match eS (ids.zip obs) id with
   | .map ks _=>val (.p (BB ks.length))
   | .fzm ks _=>val (.p (BB ks.length))
   |_=>none
  |2,[.p .nilmap]=>val (.p (BB 0))
  |2,[.p (.map ks _)]=>val (.p (BB ks.length))
  |_,_=>none
def TS (vs:List D):Option fF:=
 match vs with
  |[.sl .exact _ es]=>val (.p (BB es.length))
  |[.sl .nil _ _]=>val (.p (BB 0))
  |_=>none
def Gt (vs:List D):Option fF:=
 match vs with
  |[.p (.int k a),.p (.int k' b)]=>if k=k' then val (.p (.int k (bif aK b a then b else a)))else none
  |_=>none
def Gs (vs:List D):Option fF:=
 match vs with
  |[.p (.int k a),.p (.int k' b)]=>if k=k' then val (.p (.int k (bif aK a b then b else a)))else none
  |_=>none
def m4 (esz:Nat)(bytes:Nat)(base:Nat)(kk:Nat)(vs:List D)(ids:LN)(obs:List Ob):Option fF:=
 match vs with
  |[a,b]=>match kK esz (ids.zip obs) a with
   |some (xs,kill)=>match elems esz (ids.zip obs) b with
    |some ys=>
     bif kill.isEmpty&&ys.isEmpty&&!xs.isEmpty then val a else
     bif Nat.ble ((2*(xs.length+ys.length)+192)*bytes) 281474976710656&&Nat.ble (2*(xs.length+ys.length)+192) 9223372036854775807 then
      some (.arr (base+kk) 0 (xs.length+ys.length) esz,kill++[(base+kk,.arr (xs++ys))],[])
     else none
    |none=>none
   |none=>none
  |_=>none
def xL (os:List (Nat×Ob)):D->Option (LD×List (Nat×Ob))
 | .sl .nil _ _=>some ([],[])
 | .arr id lo len z=>match eS os id with
  | .byt es=>bif Nat.beq z 1 then some ((es.drop lo).take len,[(id,.dead)])else none
  |_=>none
 |_=>none
def xC (bytes:Nat)(base:Nat)(kk:Nat)(vs:List D)(ids:LN)(obs:List Ob):Option fF:=
 match vs with
  |[a,b]=>match xL (ids.zip obs) a with
   |some (xs,kill)=>match elems 1 (ids.zip obs) b with
    |some ys=>
     bif kill.isEmpty&&ys.isEmpty&&!xs.isEmpty then none else
     bif Nat.ble ((2*(xs.length+ys.length)+192)*bytes) 281474976710656&&Nat.ble (2*(xs.length+ys.length)+192) 9223372036854775807 then
      some (.arr (base+kk) 0 (xs.length+ys.length) 1,kill++[(base+kk,.byt (xs++ys))],[])
     else none
    |none=>none
   |none=>none
  |_=>none
def TL (esz:Nat)(z:Da)(bytes:Nat)(base:Nat)(kk:Nat)(vs:List D)(ids:LN)(obs:List Ob):Option fF:=
 match vs with
  |[a,.p (.int _ n)]=>match kK esz (ids.zip obs) a with
   |some (xs,kill)=>
    bif aV 0 n&&Nat.ble ((2*(xs.length+n.toNat)+192)*bytes) 281474976710656&&Nat.ble (2*(xs.length+n.toNat)+192) 9223372036854775807 then
     bif kill.isEmpty&&az n 0&&!xs.isEmpty then val a else
     some (.arr (base+kk) 0 (xs.length+n.toNat) esz,kill++[(base+kk,.arr (xs++List.replicate n.toNat z))],[])
    else none
   |none=>none
  |_=>none
def nw (t:Nat)(z:D)(ok:Bool)(vs:List D):Option fF:=
 match vs with
  |[.p (.iface t' x)]=>bif Nat.beq t t' then val (bif ok then .tup [.p x,.p (.bool true)]else .p x)else bif ok then val (.tup [z,.p (.bool false)])else none
  |[.iface t' d]=>bif Nat.beq t t' then val (bif ok then .tup [d,.p (.bool true)]else d)else bif ok then val (.tup [z,.p (.bool false)])else none
  |_=>none
def TT (base:Nat)(kk:Nat)(vs:List D)(ids:LN)(obs:List Ob):Option fF:=
 match vs with
  |[.iface t (.map id)]=>match eS (ids.zip obs) id with
   | .map ks ws=>some (.iface t (.map (base+kk)),[(base+kk,.map ks ws)],[])
   | .fzm ks ws=>some (.iface t (.map (base+kk)),[(base+kk,.map ks ws)],[])
   |_=>none
  |[.p (.iface t (.map ks ws))]=>some (.iface t (.map (base+kk)),[(base+kk,.map ks ws)],[])
  |_=>none
def PF (vs:List D)(ids:LN)(obs:List Ob):Option fF:=
 match vs with
  |[d]=>match elems 1 (ids.zip obs) d with
   |some es=>match fi es with
    |some s=>val (.p (.str s))
    |none=>none
   |none=>none
  |_=>none
def TU (vs:List D):Option fF:=
 match vs with
  |[.p (.str s)]=>val (.p (.slice 1 (s.map fun b=> .int .u8 (Int.ofNat b))))
  |_=>none
def x_ (vs:List D):Option fF:=
 match vs with|[x,y]=>kf (LO x y)|_=>none
def Ł (vs:List D)(obs:List Ob):Option fF:=
 match vs with
  |[.box id off]=>match obs with
   |[.box cs]=>bif Nat.beq off 0&&b3 cs then val (.box id off)else none
   |_=>none
  |_=>none
def pZ (vs:List D):Option fF:=
 match vs with
  |[.arr id lo len _]=>bif Nat.beq len 0 then none else val (.el id lo 0)
  |[.sl .nil _ []]=>val (.p .nilptr)
  |_=>none
def Bd (vs:List D)(ids:LN)(obs:List Ob):Option fF:=
 match vs with
  |[.el id i off,.p (.int k n)]=>match eS (ids.zip obs) id with
   | .byt es=>bif Nat.beq off 0&&((aV 1 n&&aV n 9223372036854775807)&&Nat.ble (i+n.toNat) es.length)then
     if k= .i64 then match fi ((es.drop i).take n.toNat)with
      |some s=>some (.p (.str s),[(id,.dead)],[])
      |none=>none
     else none
    else none
   |_=>none
  |[.p .nilptr,.p (.int k n)]=>bif az n 0 then(if k= .i64 then val (.p (.str []))else none)else none
  |_=>none
def oX (call:aG)(base:Nat)(o:O)(kk:Nat)(vs:List D)(ids:LN)(obs:List Ob)(len:Nat):Option fF:=
 match o with
 | .mv=>d_ vs
 | .pick=>Bb vs
 | .alloc zs=>TJ zs base kk
 | .box n=>TO n base kk vs
 | .build zs ps=>pX zs ps vs
 | .bsl esz z n ps=>PG esz z n ps vs ids obs
 | .bsle esz z n ps=>TP esz z n ps vs ids obs
 | .bslm esz z n ps=>TQ esz z n ps base kk vs ids obs
 | .load n agg=>gn n agg vs obs
 | .store n=>mA n vs ids obs
 | .nilck=>pY vs
 | .bin op=>CG op vs
 | .binB op=>TM op vs
 | .binN kd op=>TN kd op vs
 | .binS ks op=>Ba ks op vs
 | .un op=>aUn op vs
 | .conv k=>MW k vs
 | .same=>MY vs
 | .mkif t=>Gv t vs
 | .mkfn f=>Gu f vs
 | .mkmap=>Kq base kk
 | .mksl esz z bytes=>Gw esz z bytes base kk vs
 | .slStr lo hi=>mz lo hi vs
 | .slSl esz lo hi mx=>hD esz lo hi mx vs ids obs
 | .fa off=>Ŀ off vs
 | .fld off n agg=>Gq off n agg vs
 | .ia esz=>MX esz vs
 | .iaa n esz=>Gr n esz vs
 | .ix=>X8 vs
 | .ixa n esz agg=>Kp n esz agg vs
 | .lkp kt z ok=>xD kt z ok vs ids obs
 | .mupd kt=>uw kt vs ids obs
 | .cpy esz=>PH esz vs ids obs
 | .clr esz z=>ľ esz z vs ids obs
 | .slX esz lo=>ŀ esz lo vs ids obs
 | .slck lo hi=>MZ lo hi vs
 | .slW esz lo hi=>PJ esz lo hi vs
 | .appI esz=>TK esz vs ids obs
 | .ext i=>Ko i vs
 | .call f raw=>fO call f (bif raw then vs else vs.map norm) ids obs len
 | .callv=>TR call vs ids obs len
 | .len kd=>PI kd vs ids obs
 | .cap=>TS vs
 | .min2=>Gt vs
 | .max2=>Gs vs
 | .app esz bytes=>m4 esz bytes base kk vs ids obs
 | .appm esz z bytes=>TL esz z bytes base kk vs ids obs
 | .assertT t z ok=>nw t z ok vs
 | .clone=>TT base kk vs ids obs
 | .b2s=>PF vs ids obs
 | .uns=>Ł vs obs
 | .pne=>x_ vs
 | .appB bytes=>xC bytes base kk vs ids obs
 | .sdata=>pZ vs
 | .ustr=>Bd vs ids obs
 | .pan=>none
 | .s2b=>TU vs
def grow (hp:List Ob):List Ob->List Ob
 |[]=>hp
 |o::r=>hp++(o::r)
def Qg:List (Int×Int×Int)->List (Int×Int×Int)->Bool
 |[],[]=>true
 |(a,l,h)::r,(b,m,i)::s=>az a b&&(az l m&&(az h i&&Qg r s))
 |_,_=>false
def Β:Sy->Sy->Bool
 | .lin c ks,.lin d js=>az c d&&Qg ks js
 | .rng a b,.rng c d=>az a c&&az b d
 |_,_=>false
mutual
def C2:Da->Da->Bool
 | .bool a,.bool b=>a==b
 | .int i a,.int j b=>decide (i=j)&&az a b
 | .str a,.str b=>cM a b
 | .agg a,.agg b=>lA a b
 | .slice z a,.slice y b=>Nat.beq z y&&lA a b
 | .nilptr,.nilptr=>true
 | .ptr a,.ptr b=>C2 a b
 | .map a b,.map c d=>lA a c&&lA b d
 | .nilmap,.nilmap=>true
 | .fn f a,.fn g b=>Nat.beq f g&&lA a b
 | .nilfn,.nilfn=>true
 | .sym i a,.sym j b=>decide (i=j)&&Β a b
 |_,_=>false
def lA:LD->LD->Bool
 |[],[]=>true
 |a::r,b::s=>C2 a b&&lA r s
 |_,_=>false
end
mutual
def KM:D->D->Bool
 | .p a,.p b=>C2 a b
 | .agg a,.agg b=>C3 a b
 | .box i o,.box j p=>Nat.beq i j&&Nat.beq o p
 | .arr i a b c,.arr j d e f=>Nat.beq i j&&(Nat.beq a d&&(Nat.beq b e&&Nat.beq c f))
 | .sl .nil z a,.sl .nil y b=>Nat.beq z y&&lA a b
 | .sl .exact z a,.sl .exact y b=>Nat.beq z y&&lA a b
 | .map i,.map j=>Nat.beq i j
 | .fn f a,.fn g b=>Nat.beq f g&&C3 a b
 |_,_=>false
def C3:List D->List D->Bool
 |[],[]=>true
 |a::r,b::s=>KM a b&&C3 r s
 |_,_=>false
end
def tE:Ob->Ob->Bool
 | .box a,.box b=>C3 a b
 | .arr a,.arr b=>lA a b
 | .fz a,.fz b=>lA a b
 | .map a b,.map c d=>lA a c&&lA b d
 | .fzm a b,.fzm c d=>lA a c&&lA b d
 | .mapd a b,.mapd c d=>lA a c&&C3 b d
 | .may a b,.may c d=>(a==c)&&lA b d
 |_,_=>false
def mY (i:Nat):LN->Bool
 |[]=>false
 |j::r=>bif Nat.beq j i then true else mY i r
class Mv where
 mv:Nat->Bool
 ex:Nat->Nat
 sm:Nat->Bool
 eq:Ob->Ob->Bool
 ok:∀a b,eq a b=true->a=b
 rf:∀f,sm f=true->∀a,eq a a=true
def gW [Mv](ids:LN)(hp:List Ob):List (Nat×Ob)->LN
 |[]=>[]
 |(i,o)::r=>bif mY i ids&&Mv.eq (aS hp i) o then gW ids hp r else i::gW ids hp r
structure eE where
 (rs ws:LN)
 grow:Bool
 lim:Nat
def ep:O->Bool
 | .alloc _=>true
 | .box _=>true
 | .mkmap=>true
 | .mksl _ _ _=>true
 | .bslm _ _ _ _=>true
 | .app _ _=>true
 | .appm _ _ _=>true
 | .appB _=>true
 | .clone=>true
 |_=>false
def dw:Ob->Bool
 | .unborn=>true
 |_=>false
def iY:LN->LN->LN
 |[],acc=>acc
 |i::r,acc=>bif acc.contains i then iY r acc else iY r (acc++[i])
def mH [Mv](f:Nat)(ws:LN)(hp:List Ob):LN:=
 bif Mv.mv f then cF hp bf ((iY ws []).flatMap fun i=>hO (aS hp i)) (iY ws [])else cF hp bf ws []
def eH [Mv](f:Nat)(ds:List D)(n:Nat):Nat:=bif Mv.mv f then min ((iY (dids.didsL ds) []).length+Mv.ex f) n else n
def jy (call:aG)(f:Nat)(args:List D)(m:Nat)(ids:LN)(obs:List Ob)(len:Nat):Option fF:=
 match call f (mapD.mapDL (idx ids) args) (obs.map (cm (idx ids)))with
 |none=>none
 |some (r,out)=>
  bif Nat.ble m out.length then
   let σ:=back m len ids out.length
   let out':=out.map (cm σ)
   some (mapD σ r,(ids.take m).zip out'++(ids.drop m).map (fun i=>(i,.dead)),out'.drop m)
  else none
def nB [Mv](call:aG)(f:Nat)(args:List D)(ids:LN)(obs:List Ob)(len:Nat):Option fF:=
 bif Mv.mv f then jy call f args (eH f (mapD.mapDL (idx ids) args) ids.length) ids obs len else fO call f args ids obs len
def xQ [Mv](call:aG)(vs:List D)(ids:LN)(obs:List Ob)(len:Nat):Option fF:=
 match vs with
  | .p (.fn f caps)::args=>nB call (zM f) (gJ f (caps.map .p) (args.map norm)) ids obs len
  | .fn f caps::args=>nB call (zM f) (gJ f caps (args.map norm)) ids obs len
  |_=>none
def pp [Mv](vs:List D)(hp:List Ob):LN:=
 match vs with
 | .fn f caps::args=>bif Mv.mv (zM f)then mH (zM f) (dids.didsL (gJ f caps (args.map norm))) hp else bB .callv vs hp
 | .p (.fn f caps)::args=>bif Mv.mv (zM f)then mH (zM f) (dids.didsL (gJ f (caps.map .p) (args.map norm))) hp else bB .callv vs hp
 |_=>bB .callv vs hp
def dM [Mv](o:O)(vs:List D)(hp:List Ob):LN:=
 match o with
 | .call f _=>mH f (dids.didsL vs) hp
 | .callv=>pp vs hp
 |o=>bB o vs hp
def sZ [Mv](call:aG)(base:Nat)(o:O)(kk:Nat)(vs:List D)(ids:LN)(obs:List Ob)(len:Nat):Option fF:=
 match o with
 | .call f raw=>nB call f (bif raw then vs else vs.map norm) ids obs len
 | .callv=>xQ call vs ids obs len
 |o=>oX call base o kk vs ids obs len
def oZ [Mv](call:aG)(base:Nat)(x:eT)(st:St):Option (St×eE):=
 let vs:=x.as.map (ev st.tm)
 let ids:=dM x.op vs st.hp
 bif !(ep x.op)||dw (aS st.hp (base+x.k))then
  match sZ call base x.op x.k vs ids (ids.map (aS st.hp)) st.hp.length with
  |none=>none
  |some (v,ups,new)=>some (⟨put x.dst v st.tm,grow (aw st.hp ups) new⟩,⟨bif ep x.op then(base+x.k)::ids else ids,gW ids st.hp ups,!new.isEmpty,st.hp.length⟩)
 else none
def dN (x:eT)(tm:Tm):Option Bool:=
 match x.gd with
 |none=>some true
 |some (g,want)=>match get tm g with
  | .p (.bool b)=>some (b==want)
  | .tup []=>some false
  |_=>none
def kO [Mv](call:aG)(base:Nat):List eT->St->Option St
 |[],st=>some st
 |x::r,st=>match dN x st.tm with
  |none=>none
  |some true=>match oZ call base x st with
   |none=>none
   |some (st',_)=>kO call base r st'
  |some false=>kO call base r ⟨put x.dst (.tup []) st.tm,st.hp⟩
def eR [Mv](call:aG)(base:Nat):List eT->St->List eE->Option (St×List eE)
 |[],st,fs=>some (st,fs.reverse)
 |x::r,st,fs=>match dN x st.tm with
  |none=>none
  |some true=>match oZ call base x st with
   |none=>none
   |some (st',f)=>eR call base r st' (f::fs)
  |some false=>eR call base r ⟨put x.dst (.tup []) st.tm,st.hp⟩ (⟨[],[],false,0⟩::fs)
def wr (a:eE)(i:Nat):Bool:=a.ws.contains i||(a.grow&&Nat.ble a.lim i)
def kJ (a b:eE):Bool:=
 b.rs.all (fun i=>!wr a i)&&b.ws.all (fun i=>!wr a i)&&a.rs.all (fun i=>!wr b i)&&a.ws.all (fun i=>!wr b i)&&!(a.grow&&b.grow)
def fA (fs:List eE):List (Nat×Nat)->Bool
 |[]=>true
 |(i,j)::r=>match fs[i]?,fs[j]? with
  |some a,some b=>kJ a b&&fA fs r
  |_,_=>false
def rk [Mv](call:aG)(nal:Nat)(ops:List eT)(prs:Option (List (Nat×Nat)))(st:St):Option St:=
 let st':St:=⟨st.tm,grow st.hp (List.replicate nal .unborn)⟩
 match prs with
 |none=>kO call st.hp.length ops st'
 |some ps=>match eR call st.hp.length ops st' []with
  |some (st'',fs)=>bif fA fs ps then some st'' else none
  |none=>none
def cb (ids:LN)(hp:List Ob):List Ob:=ids.map fun i=>cm (idx ids) (aS hp i)
def QS:D->Bool
 | .sl .nil _ _=>true
 | .sl .exact _ []=>true
 |_=>false
def fD (out:LN)(f:D->D)(tm:Tm):Tm:=
 match out with
 |[]=> .nil
 |s::r=> .cons s (f (get tm s)) (fD r f tm)
def j_ (st:St)(s off:Nat):D:=bif Nat.ble 1000 off then(match get st.tm s with
 | .box id o=>(match aS st.hp id with
  | .box cs=>cs.getD o .junk
  |_=> .junk)
 |_=> .junk)else get st.tm s
def KY (off:Nat):Nat:=bif Nat.ble 1000 off then off - 1000 else off
def mvA (s:Nat)(st:St):Option St:=match get st.tm s with
 | .arr i o n z=>match aS st.hp i with
  | .arr es=>some ⟨.cons s (.arr st.hp.length o n z) st.tm,jm st.hp i .dead++[.arr es]⟩
  |_=>none
 |_=>none
def eF (m:Nat)(g:Gh)(st:St):Option St:=
 match g with
 | .own s z=>bif QS (get st.tm s)then some ⟨.cons s (.arr st.hp.length 0 0 z) st.tm,st.hp++[.arr []]⟩else bif Nat.ble 1000 z then mvA s st else some st
 | .ownc s off z=>match j_ st s off with
  | .box id o=>match aS st.hp id with
   | .box cs=>match cs[o+KY off]? with
    |some d=>bif QS d then some ⟨st.tm,jm st.hp id (.box (cs.set (o+KY off) (.arr st.hp.length 0 0 z)))++[.arr []]⟩else some st
    |none=>none
   |_=>none
  |_=>none
 | .frz s=>
  let d:=get st.tm s
  let os:=(dids d).map fun i=>(i,aS st.hp i)
  match pur os d with
  |some x=>some ⟨.cons s (.p x) st.tm,aw st.hp (dU os)⟩
  |none=>none
 | .frzc s off=>match j_ st s off with
  | .box id o=>match aS st.hp id with
   | .box cs=>match cs[o+KY off]? with
    |some d=>bif(dids d).contains id then none else
     match pur ((dids d).map fun i=>(i,aS st.hp i)) d with
     |some x=>bif b3 (cs.set (o+KY off) (.p x))&&!b3 cs then none else some ⟨st.tm,jm (aw st.hp (dU ((dids d).map fun i=>(i,aS st.hp i)))) id (.box (cs.set (o+KY off) (.p x)))⟩
     |none=>none
    |none=>none
   |_=>none
  |_=>none
 | .tog s off=>match j_ st s off with
  | .box id o=>match aS st.hp id with
   | .box cs=>match cs[o+KY off]? with
    |some (.arr i _ _ _)=>match aS st.hp i with
     | .arr es=>some ⟨st.tm,jm st.hp i (.may false es)⟩
     | .fz es=>some ⟨st.tm,jm st.hp i (.may true es)⟩
     | .may b es=>bif b then none else some ⟨st.tm,jm st.hp i (.arr es)⟩
     |_=>none
    |_=>none
   |_=>none
  |_=>none
 | .pst _ _=>some st
 | .pfz _ _=>some st
 | .pkp _=>some st
 | .keep live=>
  let ids:=cF st.hp bf (dids.didsL (live.map (get st.tm))++(st.hp.take m).flatMap hO) (List.range m)
  some ⟨fD live (mapD (idx ids)) st.tm,cb ids st.hp⟩
inductive Ex where
 |norm
 |exit (id:Nat)
 |ret
def LM:Gh->Option Gh
 | .pst s off=>some (.tog s off)
 | .pfz s off=>some (.frzc s off)
 | .pkp live=>some (.keep live)
 |_=>none
def yR (m:Nat)(g:Gh)(o:Option (Ex×St)):Option (Ex×St):=
 match LM g with
 |some h=>match o with
  |some (ex,st)=>match eF m h st with
   |some st'=>some (ex,st')
   |none=>none
  |none=>none
 |none=>o
def tU (m:Nat)(body:St->Option (Ex×St))(live:LN):Nat->St->Option (Ex×St)
 |0,_=>none
 |n+1,st=>match eF m (.keep live) st with
  |none=>none
  |some st=>match body st with
   |some (.norm,st')=>tU m body live n st'
   |r=>r
def ce [Mv](call:aG)(fuel m:Nat):Co->St->Option (Ex×St)
 | .skip,st=>some (.norm,st)
 | .reg nal ops prs out,st=>match rk call nal ops prs st with
  |some st'=>some (.norm,⟨fD out id st'.tm,st'.hp⟩)
  |none=>none
 | .seq a b,st=>match ce call fuel m a st with
  |some (.norm,st')=>ce call fuel m b st'
  |r=>r
 | .cond c t e,st=>match ev st.tm c with
  | .p (.bool b)=>match b with
   |true=>ce call fuel m t st
   |false=>ce call fuel m e st
  |_=>none
 | .block id b,st=>match ce call fuel m b st with
  |some (.exit i,st')=>bif Nat.beq i id then some (.norm,st')else some (.exit i,st')
  |r=>r
 | .loop live b,st=>tU m (ce call fuel m b) live fuel st
 | .exit id,st=>some (.exit id,st)
 | .ret,st=>some (.ret,st)
 | .gh g c,st=>match eF m g st with
  |some st'=>yR m g (ce call fuel m c st')
  |none=>none
def G4 (st:St):Rv->Option D
 | .t n=>some (get st.tm n)
 | .cell a n agg=>match get st.tm a with
  | .box id off=>match aS st.hp id with
   | .box cs=>match sub cs off n with
    |some ds=>eC agg ds
    |none=>none
   |_=>none
  |_=>none
def j0 (st:St):List Rv->Option (List D)
 |[]=>some []
 |r::rs=>match G4 st r with
  |some d=>match j0 st rs with
   |some ds=>some (d::ds)
   |none=>none
  |none=>none
def ru (hp:List Ob):List D->List D×List Ob
 |[]=>([],hp)
 |d::ds=>
  let os:=(dids d).map fun i=>(i,aS hp i)
  match pur os d with
  |some x=>let (r,hp'):=ru (aw hp (dU os)) ds;(.p x::r,hp')
  |none=>let (r,hp'):=ru hp ds;(norm d::r,hp')
def one:List D->D
 |[d]=>d
 |ds=> .tup ds
def eX:List D->Nat->Tm
 |[],_=> .nil
 |d::r,n=> .cons n d (eX r (n+1))
def gu (m:Nat)(fz:Bool)(ds:List D)(hp:List Ob):D×List Ob:=
 let (ds,hp):=bif fz then ru hp ds else(ds,hp)
 let ids:=cF hp bf (dids.didsL ds++(hp.take m).flatMap hO) (List.range m)
 (mapD (idx ids) (one ds),cb ids hp)
def og [Mv](m:Nat)(call:aG)(fuel:Nat)(x:Fx)(args:List D)(hp:List Ob):Option (D×List Ob):=
 match ce call fuel m x.body ⟨eX args 0,hp⟩with
 |some (.norm,st)=>match j0 st x.res with
  |some ds=>some (gu m x.fz ds st.hp)
  |none=>none
 |some (.ret,st)=>match j0 st x.res with
  |some ds=>some (gu m x.fz ds st.hp)
  |none=>none
 |_=>none
abbrev cU [Mv](call:aG)(fuel:Nat)(x:Fx)(args:List D)(hp:List Ob):Option (D×List Ob):=og hp.length call fuel x args hp
inductive Fn where
 |code (x:Fx)
 |prim (g:LD->Option (D×List Ob))
 |both (g:LD->Option (D×List Ob)) (x:Fx)
 |any (g:List D->List Ob->Option (D×List Ob))
def evFn [Mv](tab:Nat->Option Fn):Nat->aG
 |0,_,_,_=>none
 |n+1,f,args,hp=>match tab f with
  |some (.code x)=>og (eH f args hp.length) (evFn tab n) n x args hp
  |some (.prim g)=>match iV args with
   |some xs=>match hp with
    |[]=>g xs
    |_=>none
   |none=>none
  |some (.both g x)=>match iV args with
   |some xs=>match hp with
    |[]=>g xs
    |_=>og (eH f args hp.length) (evFn tab n) n x args hp
   |none=>og (eH f args hp.length) (evFn tab n) n x args hp
  |some (.any g)=>g args hp
  |none=>none
def dW:Value->Option Da
 | .bool b=>some (.bool b)
 | .int k n=>some (.int k n)
 | .string s=>some (.str (s.data.toList.map UInt8.toNat))
 | .pointer none=>some .nilptr
 | .map none=>some .nilmap
 | .nilFunc=>some .nilfn
 | .nilIface=>some .nilif
 |_=>none
abbrev bP:=Nat->Option Da
def und (P:Program)(t:TypeId):TypeDesc:=(P.underlying t).getD .invalid
def U9 (P:Program)(t:TypeId):Nat:=
 match und P t with
 | .slice e=>P.cellsOf e
 |_=>0
def cA (P:Program)(G:bP)(t:TypeId):Operand->Option A
 | .tmp n=>some (.t n)
 | .const v=>match v with
  | .slice none 0 0=>some (.n (U9 P t))
  |v=>(dW v).map .c
 | .func f=>bif Nat.blt f 1000000 then some (.f f)else none
 | .global g=>(G g).map .g
def nb (P:Program)(G:bP):List TypeId->List Operand->Option (List A)
 |_,[]=>some []
 |ts,x::r=>match cA P G (ts.headD 0) x with
  |some a=>match nb P G ts.tail r with
   |some as=>some (a::as)
   |none=>none
  |none=>none
def Ć (z:Nat):Value->Option D
 | .slice none 0 0=>some (.sl .nil z [])
 |v=>(dW v).map .p
def xR:LN->List Value->Option (List D)
 |_,[]=>some []
 |zs,v::r=>match Ć (zs.headD 0) v with
  |some x=>match xR zs.tail r with
   |some xs=>some (x::xs)
   |none=>none
  |none=>none
def Uz (P:Program):Nat->TypeId->LN
 |0,_=>[]
 |n+1,t=>match und P t with
  | .struct fs=>fs.toList.flatMap fun f=>Uz P n f.type
  | .array k e=>(List.replicate k (Uz P n e)).flatten
  | .slice e=>[P.cellsOf e]
  |_=>[0]
structure Ty where
 size:Nat
 agg:Bool
 desc:TypeDesc
 bytes:Nat
def VG:TypeDesc->Bool
 | .struct _=>true
 | .array _ _=>true
 |_=>false
def ty (P:Program)(t:TypeId):Option Ty:=
 match P.info? t,P.underlying t with
 |some i,some d=>bif Nat.blt 0 i.size then some ⟨i.size,VG d,d,i.bytes⟩else none
 |_,_=>none
def ï (z:Value)(y:Ty):Bool:=
 match z with
 | .agg _=>y.agg
 |_=>!y.agg
def jj (P:Program)(t:TypeId):Option (List D):=
 match P.info? t,ty P t with
 |some i,some y=>match i.zero with
  |some z=>bif Nat.beq z.cells.size y.size&&ï z y then xR (Uz P 12 t) z.cells.toList else none
  |none=>none
 |_,_=>none
def vu (P:Program)(t:TypeId):Option D:=
 match jj P t,ty P t with
 |some ds,some y=>eC y.agg ds
 |_,_=>none
def iC (P:Program)(t:TypeId):Option Da:=
 match vu P t with
 |some d=>pur [] d
 |none=>none
def eD:TypeDesc->Bool
 | .int _=>true
 | .string=>true
 |_=>false
def iw:Operand->Bool
 | .const _=>true
 |_=>false
def aan:BinOp->Bool
 | .eql=>true
 | .neq=>true
 |_=>false
def nC (P:Program)(t:TypeId):Option Nat:=
 match ty P t with
 |some _=>match und P t with
  | .int _=>some 0
  | .string=>some 1
  | .bool=>some 2
  |_=>none
 |none=>none
def qh (P:Program):List Field->Nat->Option (LN)
 |[],_=>some []
 |f::r,n=>match nC P f.type with
  | some k => bif Nat.beq f.offset n && !(f.name == "_") then (match qh P r (n + 1) with
   |some ks=>some (k::ks)
   |none=>none)else none
  |none=>none
def N5 (P:Program)(op:BinOp)(e:TypeId):Bool:=
 match op with
 | .neq=>(P.info? e).isSome
 |_=>false
def Uk (P:Program)(op:BinOp)(t:TypeId)(x y:Operand):Option O:=
 bif aan op then
  match und P t with
  | .int _=>some (.bin op)
  | .string=>some (.bin op)
  | .bool=>some (.binB op)
  | .pointer e=>some (bif N5 P op e then .pne else .binN 0 op)
  | .slice _=>some (.binN 1 op)
  | .map _ _=>some (.binN 2 op)
  | .func _ _ _=>some (.binN 3 op)
  | .interface _=>bif iw x||iw y then some (.binN 4 op)else none
  | .struct fs=>match qh P fs.toList 0 with
   |some ks=>bif !P.stoodInHeld t&&!P.eqGuardType P.depth t then some (.binS ks op)else none
   |none=>none
  |_=>none
 else match und P t with
  | .int _=>some (.bin op)
  | .string=>some (.bin op)
  |_=>none
def qZ (P:Program)(s d:TypeId):Option O:=
 match und P s,und P d with
 | .int _,.int k=>some (.conv k)
 | .string,.string=>some .same
 | .slice e,.string=>match und P e with
  | .int .u8=>some .b2s
  |_=>none
 | .string,.slice e=>match und P e with
  | .int .u8=>some .s2b
  |_=>none
 | .pointer t,.unsafePointer=>match P.info? t with
  |some j=>bif Nat.beq j.size 0 then none else some .uns
  |none=>none
 | .unsafePointer,.pointer u=>match P.info? u with
  |some _=>bif liesAt P P.depth EL (3 / P.cellsOf EL) 0 u 1 then some .uns else none
  |none=>none
 |_,_=>none
def th (P:Program)(t:TypeId):LN->Option (List (Nat×Nat))
 |[]=>some []
 |i::r=>
  match (match und P t with
   | .struct fs=>match fs[i]? with
    |some f=>match ty P f.type with
     |some y=>some (f.offset,y.size)
     |none=>none
    |none=>none
   | .array _ e=>match ty P e with
    |some y=>some (i*y.size,y.size)
    |none=>none
   |_=>none)with
  |some x=>match th P t r with
   |some xs=>some (x::xs)
   |none=>none
  |none=>none
def vD (a b c:Option Operand):List Operand:=a.toList++b.toList++c.toList
def nz (P:Program)(G:bP)(raw:Nat->Bool)(c:Call):Option (O×List A):=
 let as:=nb P G c.argTypes.toList c.args.toList
 match c.callee with
 | .value (.func f)=>match P.funcs[f]?,as with
  |some fn,some as=>
   match fn.body with
   |some _=>some (.call f (raw f),as)
   | none => bif fn.name == "maps.clone" && (Extern.findNext fn).isNone then some (.clone, as) else bif fn.name == "internal/abi.NoEscape" && (Extern.findNext fn).isNone then some (.mv, as) else none
  |_,_=>none
 | .value g=>match cA P G 0 g,as with
  |some g,some as=>some (.callv,g::as)
  |_,_=>none
 | .builtin b=>match as with
  |some as=>match b with
   | .len=>match c.argTypes[0]? with
    |some t=>match und P t with
     | .string=>some (.len 0,as)
     | .slice _=>some (.len 1,as)
     | .map _ _=>some (.len 2,as)
     |_=>none
    |none=>none
   | .cap=>match c.argTypes[0]? with
    |some t=>match und P t with
     | .slice _=>some (.cap,as)
     |_=>none
    |none=>none
   | .append=>match c.argTypes[0]?,c.argTypes[1]? with
    |some t,some u=>match und P t,und P u with
     | .slice e,.slice _=>match ty P e,jj P e with
      |some y,some _=>some (bif raw 6000000&&(Nat.beq e Jp&&Nat.beq y.size 1)then .appB y.bytes else bif raw 3000000 then .appI y.size else .app y.size y.bytes,as)
      |_,_=>none
     | .slice e,.string=>match ty P e,jj P e with
      |some y,some _=>some (bif raw 6000000&&(Nat.beq e Jp&&Nat.beq y.size 1)then .appB y.bytes else .app y.size y.bytes,as)
      |_,_=>none
     | .slice e,.int .i64=>match iC P e,ty P e with
      |some z,some y=>some (.appm y.size z y.bytes,as)
      |_,_=>none
     |_,_=>none
    |_,_=>none
   | .copy=>match c.argTypes[0]? with
    |some t=>match und P t with
     | .slice e=>match ty P e with
      |some y=>some (.cpy y.size,as)
      |none=>none
     |_=>none
    |none=>none
   | .clear=>match c.argTypes[0]? with
    |some t=>match und P t with
     | .slice e=>match iC P e,ty P e with
      |some z,some y=>some (.clr y.size z,as)
      |_,_=>none
     |_=>none
    |none=>none
   | .min=>match as with|[_,_]=>some (.min2,as)|_=>none
   | .unsafeSliceData=>some (.sdata,as)
   | .unsafeString=>match c.argTypes.toList with
    |[pt,_]=>match und P pt with
     | .pointer e=>bif Nat.beq e Jp&&Nat.beq (P.cellsOf Jp) 1 then some (.ustr,as)else none
     |_=>none
    |_=>none
   | .max=>match as with|[_,_]=>some (.max2,as)|_=>none
   |_=>none
  |none=>none
 | .invoke _ _=>none
def two (o:O):Option A->Option A->Option (O×List A)
 |some a,some b=>some (o,[a,b])
 |_,_=>none
def pa (o:O):Option A->Option (O×List A)
 |some a=>some (o,[a])
 |none=>none
def vP (P:Program)(t:TypeId):Bool:=
 match und P t with
 | .struct fs=>fs.toList.all fun f=>(P.info? f.type).isSome
 | .array _ e=>(P.info? e).isSome
 |_=>false
def QT (P:Program)(t:TypeId)(is:LN):List TypeId:=
 is.map fun i=>match und P t with
  | .struct fs=>match fs[i]? with
   |some f=>f.type
   |none=>0
  | .array _ e=>e
  |_=>0
def Um (P:Program)(G:bP)(raw:Nat->Bool)(o:Oper):Option (O×List A):=
 match o.op with
 | .move x=>pa .mv (cA P G o.type x)
 | .assign x=>pa .mv (cA P G o.type x)
 | .pick c a b=>match cA P G 0 c,cA P G o.type a,cA P G o.type b with
  |some c,some a,some b=>some (.pick,[c,a,b])
  |_,_,_=>none
 | .alloc t=>match jj P t with
  |some zs=>bif b3 zs&&!Nat.beq t EL then none else some (.alloc zs,[])
  |none=>none
 | .box t x=>match ty P t with
  |some y=>bif Nat.beq y.size 1000003 then none else pa (.box (bif Nat.beq t EL then 1000003 else y.size)) (cA P G t x)
  |none=>none
 | .build t parts=>match jj P t,th P t (parts.toList.map (·.1)),nb P G (QT P t (parts.toList.map (·.1))) (parts.toList.map (·.2)),ty P t with
  |some zs,some ps,some as,some y=>bif y.agg&&vP P t then some (.build zs ps,as)else none
  |_,_,_,_=>none
 | .buildSlice t n parts=>match und P t with
  | .slice e=>match iC P e,ty P e,nb P G (List.replicate parts.size e) (parts.toList.map (·.2))with
   |some z,some y,some as=>bif Nat.ble (n*y.size) 16777216 then some (bif raw (1000000+t)then .bslm y.size z n (parts.toList.map (·.1))else bif raw (2000000+t)then .bsle y.size z n (parts.toList.map (·.1))else .bsl y.size z n (parts.toList.map (·.1)),as)else none
   |_,_,_=>none
  |_=>none
 | .load t x=>match ty P t with
  |some y=>pa (.load y.size y.agg) (cA P G 0 x)
  |none=>none
 | .store t a x=>match ty P t with
  |some y=>two (.store y.size) (cA P G 0 a) (cA P G t x)
  |none=>none
 | .nilCheck x=>pa .nilck (cA P G 0 x)
 | .binOp op t x y _=>match Uk P op t x y with
  |some o=>two o (cA P G t x) (cA P G t y)
  |none=>none
 | .unOp op _ x=>match op with
  | .neg=>pa (.un .neg) (cA P G 0 x)
  | .not=>pa (.un .not) (cA P G 0 x)
  |_=>none
 | .convert s d x=>match qZ P s d with
  |some o=>pa o (cA P G s x)
  |none=>none
 | .makeInterface t x=>match und P t with
  | .interface _=>none
  | .invalid=>none
  |_=>pa (.mkif t) (cA P G t x)
 | .makeFunc (.func f) first captured=>bif Nat.blt f 1000000 then
   match nb P G [] (first.toList++captured.toList)with
   |some as=>some (.mkfn (f+1000000*first.size),as)
   |none=>none
  else none
 | .makeMap t r=>match r with
  |none=>some (.mkmap,[])
  |some (.const (.int _ _))=>match und P t with
   | .map _ _=>some (.mkmap,[])
   |_=>none
  |_=>none
 | .makeSlice t l c=>match und P t with
  | .slice e=>match iC P e,ty P e with
   |some z,some y=>two (.mksl y.size z y.bytes) (cA P G 0 l) (cA P G 0 c)
   |_,_=>none
  |_=>none
 | .slice t x lo hi mx=>match cA P G t x,nb P G [] (vD lo hi mx)with
  |some x,some as=>match und P t with
   | .string=>bif mx.isSome then none else some (.slStr lo.isSome hi.isSome,x::as)
   | .slice e=>match ty P e with
    |some y=>some (bif raw 5000000&&!mx.isSome then .slW y.size lo.isSome hi.isSome else bif raw 3000000&&(hi.isSome&&!mx.isSome)then .slX y.size lo.isSome else bif raw 3000000&&mx.isSome then .slck lo.isSome hi.isSome else .slSl y.size lo.isSome hi.isSome mx.isSome,x::as)
    |none=>none
   |_=>none
  |_,_=>none
 | .fieldAddr s x i=>match und P s with
  | .struct fs=>match fs[i]? with
   |some f=>match ty P f.type with
    |some _=>pa (.fa f.offset) (cA P G 0 x)
    |none=>none
   |none=>none
  |_=>none
 | .field s x i=>match und P s with
  | .struct fs=>match fs[i]? with
   |some f=>match ty P f.type with
    |some y=>pa (.fld f.offset y.size y.agg) (cA P G 0 x)
    |none=>none
   |none=>none
  |_=>none
 | .indexAddr t x i=>match und P t with
  | .slice e=>match ty P e with
   |some y=>two (.ia y.size) (cA P G t x) (cA P G 0 i)
   |none=>none
  | .array n e=>match ty P e with
   |some y=>two (.iaa n y.size) (cA P G 0 x) (cA P G 0 i)
   |none=>none
  |_=>none
 | .index t x i=>match und P t with
  | .string=>two .ix (cA P G 0 x) (cA P G 0 i)
  | .array n e=>match ty P e with
   |some y=>two (.ixa n y.size y.agg) (cA P G 0 x) (cA P G 0 i)
   |none=>none
  |_=>none
 | .lookup t x i ok=>match und P t with
  | .map k e=>bif eD (und P k)then
    match vu P e with
    |some z=>two (.lkp (und P k) z ok) (cA P G t x) (cA P G k i)
    |none=>none
   else none
  |_=>none
 | .mapUpdate t m k x=>match und P t with
  | .map kt e=>bif eD (und P kt)then
    match cA P G t m,cA P G kt k,cA P G e x with
    |some m,some k,some x=>some (.mupd (und P kt),[m,k,x])
    |_,_,_=>none
   else none
  |_=>none
 | .insert t m k x=>match und P t with
  | .map kt e=>bif eD (und P kt)then
    match cA P G t m,cA P G kt k,cA P G e x with
    |some m,some k,some x=>some (.mupd (und P kt),[m,k,x])
    |_,_,_=>none
   else none
  |_=>none
 | .typeAssert x _ t ok=>match und P t with
  | .interface _=>none
  | .invalid=>none
  |_=>match vu P t with
   |some z=>pa (.assertT t z ok) (cA P G 0 x)
   |none=>none
 | .extract x i=>pa (.ext i) (cA P G 0 x)
 | .panic x=>pa .pan (cA P G 0 x)
 | .call c=>nz P G raw c
 |_=>none
def Ŕ (P:Program)(G:bP)(raw:Nat->Bool)(o:Oper):Option (O×List A):=
 match Um P G raw o with
 |some r=>some r
 |none=>some (.pan,[])
def fj:O->Bool
 | .alloc _=>true
 | .box _=>true
 | .mkmap=>true
 | .mksl _ _ _=>true
 | .app _ _=>true
 | .appm _ _ _=>true
 | .clone=>true
 | .load _ _=>true
 | .store _=>true
 | .bsl _ _ _ _=>true
 | .bslm _ _ _ _=>true
 | .bsle _ _ _ _=>true
 | .lkp _ _ _=>true
 | .mupd _=>true
 | .cpy _=>true
 | .clr _ _=>true
 | .slX _ _=>true
 | .appI _=>true
 | .len _=>true
 | .slSl _ lo hi mx=>mx||(lo&&!hi)
 | .call _ _=>true
 | .callv=>true
 | .b2s=>true
 | .uns=>true
 | .ustr=>true
 | .appB _=>true
 |_=>false
def CQ (ops:List Oper):Option (Nat×Bool)->Option (Option (Nat×Bool))
 |none=>some none
 |some (j,want)=>match ops[j]? with
  |some o=>match o.dst with
   |some d=>some (some (d,want))
   |none=>none
  |none=>none
def PU (P:Program)(G:bP)(raw:Nat->Bool)(N:Nat)(all:List Oper):List Oper->Nat->Option (List eT×Nat)
 |[],k=>some ([],k)
 |o::r,k=>match Ŕ P G raw o,CQ all o.guard with
  |some (x,as),some gd=>
   bif(match o.dst with|some d=>Nat.blt d N|none=>true)then
    match PU P G raw N all r (bif ep x then k+1 else k)with
    |some (xs,n)=>some (⟨o.dst,x,as,k,gd⟩::xs,n)
    |none=>none
   else none
  |_,_=>none
def gS (x:eT):LN:=
 (x.as.filterMap fun| .t n=>some n|_=>none)++(match x.gd with|some (g,_)=>[g]|none=>[])
def sE (x y:eT):Bool:=
 (match x.dst with
  |some d=>!(gS y).contains d&&(match y.dst with|some e=>!Nat.beq d e|none=>true)
  |none=>true)&&
 (match y.dst with
  |some e=>!(gS x).contains e
  |none=>true)
def mC (e:Edge):Bool:=Region.binds .any e
def zH:List Oper->List LN->List LN
 |[],acc=>acc
 |o::r,acc=>
  let ds:=(o.after.toList.filter mC).map (·.on)
  zH r (acc++[(ds++ds.flatMap fun d=>acc.getD d []).eraseDups])
def iq:List Oper->Nat->Bool
 |[],_=>true
 |o::r,n=>o.after.toList.all (fun e=>!mC e||Nat.blt e.on n)&&iq r (n+1)
def ww (xs:List eT)(an:LN)(x:eT)(n:Nat):LN->Option (List (Nat×Nat))
 |[]=>some []
 |i::r=>match ww xs an x n r with
  |none=>none
  |some ps=>
   bif an.contains i then some ps
   else match xs[i]? with
    |none=>none
    |some y=>bif sE y x then
      (bif fj y.op&&fj x.op then some ((i,n)::ps)else some ps)
     else none
def lG (xs:List eT)(an:List LN):LN->Option (List (Nat×Nat))
 |[]=>some []
 |n::r=>match xs[n]?,an[n]? with
  |some x,some a=>match ww xs a x n (List.range n),lG xs an r with
   |some ps,some qs=>some (ps++qs)
   |_,_=>none
  |_,_=>none
def Ky (P:Program)(G:bP)(raw:Nat->Bool)(N:Nat)(ops:List Oper)(draw:Bool):Option Co:=
 match PU P G raw N ops ops 0 with
 |none=>none
 |some (xs,k)=>
  bif draw then
   bif iq ops 0 then
    match lG xs (zH ops []) (List.range xs.length)with
    |some ps=>some (.reg k xs (some ps) [])
    |none=>none
   else none
  else some (.reg k xs none [])
def CP (P:Program)(G:bP)(raw:Nat->Bool)(N:Nat):Code->Option Co
 | .skip=>some .skip
 | .region _ ops draw=>Ky P G raw N ops.toList draw
 | .seq a b=>match CP P G raw N a,CP P G raw N b with
  |some a,some b=>some (.seq a b)
  |_,_=>none
 | .cond c t e=>match cA P G 0 c,CP P G raw N t,CP P G raw N e with
  |some c,some t,some e=>some (.cond c t e)
  |_,_,_=>none
 | .block id b=>match CP P G raw N b with
  |some b=>some (.block id b)
  |none=>none
 | .loop b=>match CP P G raw N b with
  |some b=>some (.loop [] b)
  |none=>none
 | .exit id=>some (.exit id)
 | .ret=>some .ret
 | .refuse _=>some (.reg 0 [⟨none,.pan,[],0,none⟩] none [])
 |_=>none
def er:Co->Co
 | .seq a b=> .seq (er a) (er b)
 | .cond c t e=> .cond c (er t) (er e)
 | .block id b=> .block id (er b)
 | .loop _ b=> .loop [] (er b)
 | .gh _ c=>er c
 | .reg k xs ps _=> .reg k xs ps []
 |c=>c
def cRv (P:Program):ResultVar->Option Rv
 | .tmp t=>some (.t t)
 | .cell a t=>match ty P t with
  |some y=>some (.cell a y.size y.agg)
  |none=>none
def PV (P:Program):List ResultVar->Option (List Rv)
 |[]=>some []
 |r::rs=>match cRv P r,PV P rs with
  |some x,some xs=>some (x::xs)
  |_,_=>none
def yh (P:Program)(G:bP)(raw:Nat->Bool)(f:Func)(x:Fx):Prop:=
 (match f.body with|some c=>CP P G raw f.ntmps c|none=>none)=some (er x.body)/\PV P f.results.toList=some x.res
section
def Pw {α β:Type}(R:α->β->Prop)(xs:List α)(vs:List β):Prop:=
 xs.length=vs.length/\∀(i:Nat) x v,xs[i]?=some x->vs[i]?=some v->R x v
section pw
variable {α β:Type} {R:α->β->Prop}
def Pw.nil:Pw R [] []:=⟨rfl,by simp⟩
variable {xs:List α} {vs:List β}
def Pw.cons {x:α}{v:β}(h:R x v)(r:Pw R xs vs):Pw R (x::xs) (v::vs):=by
 refine⟨by simp[r.1],fun i y u hy hu=>?_⟩
 cases i with
 |zero=>simp_all
 |succ i=>exact r.2 i y u hy hu
def Pw.head {x:α}{v:β}(h:Pw R (x::xs) (v::vs)):R x v:=h.2 0 x v rfl rfl
def Pw.tail {x:α}{v:β}(h:Pw R (x::xs) (v::vs)):Pw R xs vs:=
 ⟨by have:=h.1;simp_all,fun i y u hy hu=>h.2 (i+1) y u (by simp_all) (by simp_all)⟩
def Pw.cons_inv {x:α}(h:Pw R (x::xs) vs):∃u us,vs=u::us/\R x u/\Pw R xs us:=by
 cases vs with
 |nil=>have:=h.1;grind
 |cons u us=>exact⟨u,us,rfl,h.head,h.tail⟩
def Pw.nil_inv (h:Pw R ([]:List α) vs):vs=[]:=
 lθ h.1.symm
def Pw.get (h:Pw R xs vs){i:Nat}{x:α}(hx:xs[i]?=some x):∃v,vs[i]?=some v/\R x v:=by
 have hi:i<xs.length:=by
  grind
 have hj:i<vs.length:=h.1▸hi;exact⟨vs[i],lη hj,h.2 i x _ hx (lη hj)⟩
def Pw.get' (h:Pw R xs vs){i:Nat}{v:β}(hv:vs[i]?=some v):∃x,xs[i]?=some x/\R x v:=by
 have hi:i<vs.length:=by
  grind
 have hj:i<xs.length:=h.1▸hi;exact⟨xs[i],lη hj,h.2 i _ v (lη hj) hv⟩
def Pw.mono {R':α->β->Prop}(h:Pw R xs vs)(hr:∀x v,R x v->R' x v):Pw R' xs vs:=
 ⟨h.1,fun i x v hx hv=>hr _ _ (h.2 i x v hx hv)⟩
def Pw.take {xs:List α}{vs:List β}(h:Pw R xs vs)(n:Nat):Pw R (xs.take n) (vs.take n):=by
 refine⟨by simp[h.1],fun i x v hx hv=>?_⟩
 rw[List.getElem?_take]at hx hv;split at hx
 ·rename_i hi;rw[if_pos hi]at hv;exact h.2 i x v hx hv
 ·grind
def Pw.drop {xs:List α}{vs:List β}(h:Pw R xs vs)(n:Nat):Pw R (xs.drop n) (vs.drop n):=by
 refine⟨by simp[h.1],fun i x v hx hv=>?_⟩
 rw[List.getElem?_drop]at hx hv;exact h.2 _ x v hx hv
def Pw.append {ys:List α}{us:List β}(h:Pw R xs vs)(k:Pw R ys us):Pw R (xs++ys) (vs++us):=by
 refine⟨by simp[h.1,k.1],fun i x v hx hv=>?_⟩
 rcases mδ i xs.length with hi|hi
 ·rw[lι hi]at hx;rw[lι (h.1▸hi)]at hv;exact h.2 i x v hx hv
 ·rw[lπ hi]at hx;rw[lπ (h.1▸hi)]at hv;rw[h.1]at hx;exact k.2 _ x v hx hv
def Pw.set {xs:List α}{vs:List β}(h:Pw R xs vs)(i:Nat){x:α}{v:β}(hr:R x v):Pw R (xs.set i x) (vs.set i v):=by
 refine⟨by simp[h.1],fun j y u hy hu=>?_⟩
 rw[List.getElem?_set]at hy hu;split at hy
 ·simp_all
 ·rename_i hij;rw[if_neg hij]at hu;exact h.2 j y u hy hu
def Pw.replicate {x:α}{v:β}(h:R x v)(n:Nat):Pw R (List.replicate n x) (List.replicate n v):=by
 refine⟨by simp,fun i y u hy hu=>?_⟩
 grind
def Pw.map_left {γ:Type}{f:γ->α}{xs:List γ}(h:Pw (fun c v=>R (f c) v) xs vs):Pw R (xs.map f) vs:=by
 refine⟨by simp[h.1],fun i x v hx hv=>?_⟩
 cases hc:xs[i]? with
 |none=>simp_all
 |some c=>simp[hc]at hx;subst hx;exact h.2 i c v hc hv
def Pw.of_map_left {γ:Type}{f:γ->α}{xs:List γ}(h:Pw R (xs.map f) vs):Pw (fun c v=>R (f c) v) xs vs:=by
 refine⟨by have:=h.1;simp_all,fun i c v hc hv=>?_⟩
 exact h.2 i (f c) v (by simp_all) hv
def Pw.all_right {Q:β->Prop}(h:Pw R xs vs)(hq:∀(i:Nat) x v,xs[i]?=some x->R x v->Q v):∀v∈vs,Q v:=by
 intro v hv;obtain⟨i,hi⟩:=List.getElem?_of_mem hv;obtain⟨x,hx,hr⟩:=h.get' hi;grind
end pw
inductive cQ where
 |none
 |box (b:Nat)
 |arr (b o cap z n:Nat)
 |map (r:Nat)
def bb:Value->Prop
 | .agg _=>False
 | .tuple _=>False
 |_=>True
def uE (w:World)(b o:Nat)(cs:Array Value):Prop:=∀(j:Nat) c,cs[j]?=some c->w.cell? ⟨b,o+j,none⟩=some c
def rowAt (w:World)(b o z:Nat)(us:List Value):Prop:=∀(i:Nat) u,us[i]?=some u->u.cells.size=z/\uE w b (o+i*z) u.cells
def gt:kI->Option Addr->Nat->Nat->Prop
 | .exact,_,len,cap=>cap=len
 | .nil,a,_,cap=>a=none/\cap=0
 | .some,a,_,_=>a≠none
 | .na,a,_,_=>a=none
class Letters where
 ρ:Nat->Int
def gv (ρ:Nat->Int):Nat->List (Int×Int×Int)->Int
 |_,[]=>0
 |i,(a,_,_)::r=>a*ρ i+gv ρ (i+1) r
def NF (ρ:Nat->Int):Nat->List (Int×Int×Int)->Prop
 |_,[]=>True
 |i,(_,l,h)::r=>(l<=ρ i/\ρ i<=h)/\NF ρ (i+1) r
def SyR (ρ:Nat->Int):Sy->Int->Prop
 | .lin c ks,n=>n=c+gv ρ 0 ks/\NF ρ 0 ks
 | .rng l h,n=>l<=n/\n<=h
variable [Letters]
mutual
def PR (w:World)(S:Nat->Prop):Da->Value->Prop
 | .bool b,v=>v= .bool b
 | .int k n,v=>v= .int k n
 | .str s,v=>∃b:ByteArray,v= .string b/\b.data.toList.map UInt8.toNat=s
 | .agg cs,v=>∃vs:Array Value,v= .agg vs/\qH w S cs vs.toList/\∀c∈vs.toList,bb c
 | .slice z es,v=>∃a cap us,v= .slice a us.length cap/\us.length<=cap/\qH w S es us/\(us≠[]->∃b o,a=some ⟨b,o,none⟩/\S b/\rowAt w b o z us)
 | .nilptr,v=>v= .pointer none
 | .ptr x,v=>∃b o u,v= .pointer (some ⟨b,o,none⟩)/\S b/\PR w S x u/\uE w b o u.cells
 | .map ks vs,v=>∃r es clock,v= .map (some r)/\S r/\w.heap[r]?=some (.map es clock)/\qH w S ks (es.toList.map (·.key))/\qH w S vs (es.toList.map (·.val))
 | .nilmap,v=>v= .map none
 | .fn f caps,v=>∃fs cs:Array Value,v= .func (.func (zM f)) fs cs/\fs.size=Đ f/\qH w S caps (fs.toList++cs.toList)
 | .nilfn,v=>v= .nilFunc
 | .iface t x,v=>∃u,v= .iface t u/\PR w S x u
 | .nilif,v=>v= .nilIface
 | .sliceE z es,v=>(∃a cap us,v= .slice a us.length cap/\us.length<=cap/\qH w S es us/\(us≠[]->∃b o,a=some ⟨b,o,none⟩/\S b/\rowAt w b o z us))/\∃a n,v= .slice a n n
 | .sym k s,v=>∃n,v= .int k n/\SyR Letters.ρ s n
def qH (w:World)(S:Nat->Prop):LD->List Value->Prop
 |[],vs=>vs=[]
 |x::r,vs=>∃u us,vs=u::us/\PR w S x u/\qH w S r us
end
def PRs_iff {w:World}{S:Nat->Prop}:∀{xs:LD} {vs:List Value},qH w S xs vs↔Pw (PR w S) xs vs
 |[],vs=>by
  exact⟨fun h=>h▸Pw.nil,fun h=>h.nil_inv⟩
 |x::r,vs=>by
  constructor
  ·rintro⟨u,us,rfl,h,hr⟩
   exact Pw.cons h (PRs_iff.1 hr)
  ·intro h;obtain⟨u,us,rfl,h1,h2⟩:=h.cons_inv;exact⟨u,us,rfl,h1,PRs_iff.2 h2⟩
def eO (S:Nat->Prop)(w w':World):Prop:=∀b,S b->w'.heap[b]?=w.heap[b]?
variable {w w':World}
def KD {b:Nat}(h:w'.heap[b]?=w.heap[b]?)(o:Nat)(s:Option Nat):w'.cell? ⟨b,o,s⟩=w.cell? ⟨b,o,s⟩:=by
 simp only[World.cell?,h]
def kR {b o:Nat}{cs:Array Value}(h:w'.heap[b]?=w.heap[b]?)(k:uE w b o cs):uE w' b o cs:=
 fun j c hc=>by rw[KD h];exact k j c hc
def kU {b o z:Nat}{us:List Value}(h:w'.heap[b]?=w.heap[b]?)(k:rowAt w b o z us):rowAt w' b o z us:=
 fun i u hu=>⟨(k i u hu).1,kR h (k i u hu).2⟩
mutual
def bl {w w':World}{S S':Nat->Prop}(hs:eO S w w')(hS:∀b,S b->S' b):∀(x:Da) {v:Value},PR w S x v->PR w' S' x v
 | .bool b,v,h=>by simpa only[PR]using h
 | .int k n,v,h=>by simpa only[PR]using h
 | .str s,v,h=>by simpa only[PR]using h
 | .agg cs,v,h=>by
  simp only[PR]at h ⊢
  obtain⟨vs,rfl,h1,h2⟩:=h;exact⟨vs,rfl,iO hs hS cs h1,h2⟩
 | .slice z es,v,h=>by
  simp only[PR]at h ⊢
  obtain⟨a,cap,us,rfl,h1,h3,h4⟩:=h;refine⟨a,cap,us,rfl,h1,iO hs hS es h3,fun hne=>?_⟩
  obtain⟨b,o,ha,hb,hr⟩:=h4 hne;exact⟨b,o,ha,hS b hb,kU (hs b hb) hr⟩
 | .nilptr,v,h=>by simpa only[PR]using h
 | .ptr x,v,h=>by
  simp only[PR]at h ⊢
  obtain⟨b,o,u,rfl,hb,hx,hh⟩:=h;exact⟨b,o,u,rfl,hS b hb,bl hs hS x hx,kR (hs b hb) hh⟩
 | .map ks vs,v,h=>by
  simp only[PR]at h ⊢
  obtain⟨r,es,clock,rfl,hr,hh,h1,h2⟩:=h;exact⟨r,es,clock,rfl,hS r hr,by rw[hs r hr];exact hh,iO hs hS ks h1,iO hs hS vs h2⟩
 | .nilmap,v,h=>by simpa only[PR]using h
 | .fn f caps,v,h=>by
  simp only[PR]at h ⊢
  obtain⟨fs,cs,rfl,hk,h1⟩:=h;exact⟨fs,cs,rfl,hk,iO hs hS caps h1⟩
 | .nilfn,v,h=>by simpa only[PR]using h
 | .iface t x,v,h=>by
  simp only[PR]at h ⊢
  obtain⟨u,rfl,h1⟩:=h;exact⟨u,rfl,bl hs hS x h1⟩
 | .nilif,v,h=>by simpa only[PR]using h
 | .sliceE z es,v,h=>by
  simp only[PR]at h ⊢
  obtain⟨⟨a,cap,us,rfl,h1,h3,h4⟩,h5⟩:=h;refine⟨⟨a,cap,us,rfl,h1,iO hs hS es h3,fun hne=>?_⟩,h5⟩
  obtain⟨b,o,ha,hb,hr⟩:=h4 hne;exact⟨b,o,ha,hS b hb,kU (hs b hb) hr⟩
 | .sym k s,v,h=>by simpa only[PR]using h
def iO {w w':World}{S S':Nat->Prop}(hs:eO S w w')(hS:∀b,S b->S' b):∀(xs:LD) {vs:List Value},qH w S xs vs->qH w' S' xs vs
 |[],vs,h=>by simpa only[qH]using h
 |x::r,vs,h=>by
  simp only[qH]at h ⊢
  obtain⟨u,us,rfl,h1,h2⟩:=h;exact⟨u,us,rfl,bl hs hS x h1,iO hs hS r h2⟩
end
mutual
def VR (φ:List cQ)(w:World)(S:Nat->Prop):D->Value->Prop
 | .p x,v=>PR w S x v
 | .agg ds,v=>∃vs:Array Value,v= .agg vs/\zF φ w S ds vs.toList/\∀c∈vs.toList,bb c
 | .tup ds,v=>∃vs:Array Value,v= .tuple vs/\zF φ w S ds vs.toList
 | .box id off,v=>∃b,φ[id]?=some (.box b)/\v= .pointer (some ⟨b,off,none⟩)
 | .el id i off,v=>∃b o cap z n,φ[id]?=some (.arr b o cap z n)/\i<n/\v= .pointer (some ⟨b,o+i*z+off,none⟩)
 | .ip x off,v=>∃b o u,v= .pointer (some ⟨b,o+off,none⟩)/\S b/\PR w S x u/\uE w b o u.cells
 | .arr id lo len z,v=>∃b o cap n a,φ[id]?=some (.arr b o cap z n)/\lo+len<=n/\n<=cap/\v= .slice a len (cap - lo)/\(lo<cap->a=some ⟨b,o+lo*z,none⟩)
 | .sl g z es,v=>∃a cap us,v= .slice a us.length cap/\us.length<=cap/\gt g a us.length cap/\qH w S es us/\(us≠[]->∃b o,a=some ⟨b,o,none⟩/\S b/\rowAt w b o z us)
 | .map id,v=>∃r,φ[id]?=some (.map r)/\v= .map (some r)
 | .fn f caps,v=>∃fs cs:Array Value,v= .func (.func (zM f)) fs cs/\fs.size=Đ f/\zF φ w S caps (fs.toList++cs.toList)
 | .iface t d,v=>∃u,v= .iface t u/\VR φ w S d u
 | .junk,_=>True
def zF (φ:List cQ)(w:World)(S:Nat->Prop):List D->List Value->Prop
 |[],vs=>vs=[]
 |x::r,vs=>∃u us,vs=u::us/\VR φ w S x u/\zF φ w S r us
end
def VRs_iff {φ:List cQ}{w:World}{S:Nat->Prop}:∀{xs:List D} {vs:List Value},zF φ w S xs vs↔Pw (VR φ w S) xs vs
 |[],vs=>by
  exact⟨fun h=>h▸Pw.nil,fun h=>h.nil_inv⟩
 |x::r,vs=>by
  constructor
  ·rintro⟨u,us,rfl,h,hr⟩
   exact Pw.cons h (VRs_iff.1 hr)
  ·intro h;obtain⟨u,us,rfl,h1,h2⟩:=h.cons_inv;exact⟨u,us,rfl,h1,VRs_iff.2 h2⟩
def Ext (φ φ':List cQ):Prop:=∀(id:Nat) l,φ[id]?=some l->l≠ .none->φ'[id]?=some l
def Ext.refl (φ:List cQ):Ext φ φ:=fun _ _ h _=>h
def Ext.trans {a b c:List cQ}(h:Ext a b)(k:Ext b c):Ext a c:=fun id l hl hn=>k id l (h id l hl hn) hn
mutual
def iF {φ φ':List cQ}{w w':World}{S S':Nat->Prop}(he:Ext φ φ')(hs:eO S w w')(hS:∀b,S b->S' b):∀(d:D) {v:Value},VR φ w S d v->VR φ' w' S' d v
 | .p x,v,h=>by simp only[VR]at h ⊢;exact bl hs hS x h
 | .agg ds,v,h=>by
  simp only[VR]at h ⊢
  obtain⟨vs,rfl,h1,h2⟩:=h;exact⟨vs,rfl,qS he hs hS ds h1,h2⟩
 | .tup ds,v,h=>by
  simp only[VR]at h ⊢
  obtain⟨vs,rfl,h1⟩:=h;exact⟨vs,rfl,qS he hs hS ds h1⟩
 | .box id off,v,h=>by
  simp only[VR]at h ⊢
  obtain⟨b,h1,rfl⟩:=h;exact⟨b,he _ _ h1 (by simp),rfl⟩
 | .el id i off,v,h=>by
  simp only[VR]at h ⊢
  obtain⟨b,o,cap,z,n,h1,h2,rfl⟩:=h;exact⟨b,o,cap,z,n,he _ _ h1 (by simp),h2,rfl⟩
 | .ip x off,v,h=>by
  simp only[VR]at h ⊢
  obtain⟨b,o,u,rfl,hb,hx,hh⟩:=h;exact⟨b,o,u,rfl,hS b hb,bl hs hS x hx,kR (hs b hb) hh⟩
 | .arr id lo len z,v,h=>by
  simp only[VR]at h ⊢
  obtain⟨b,o,cap,n,a,h1,h2⟩:=h;exact⟨b,o,cap,n,a,he _ _ h1 (by simp),h2⟩
 | .sl g z es,v,h=>by
  simp only[VR]at h ⊢
  obtain⟨a,cap,us,rfl,h1,h2,h3,h4⟩:=h;refine⟨a,cap,us,rfl,h1,h2,iO hs hS es h3,fun hne=>?_⟩
  obtain⟨b,o,ha,hb,hr⟩:=h4 hne;exact⟨b,o,ha,hS b hb,kU (hs b hb) hr⟩
 | .map id,v,h=>by
  simp only[VR]at h ⊢
  obtain⟨r,h1,rfl⟩:=h;exact⟨r,he _ _ h1 (by simp),rfl⟩
 | .fn f caps,v,h=>by
  simp only[VR]at h ⊢
  obtain⟨fs,cs,rfl,hk,h1⟩:=h;exact⟨fs,cs,rfl,hk,qS he hs hS caps h1⟩
 | .iface t d,v,h=>by
  simp only[VR]at h ⊢
  obtain⟨u,rfl,h1⟩:=h;exact⟨u,rfl,iF he hs hS d h1⟩
 | .junk,v,h=>by simp only[VR]
def qS {φ φ':List cQ}{w w':World}{S S':Nat->Prop}(he:Ext φ φ')(hs:eO S w w')(hS:∀b,S b->S' b):∀(ds:List D) {vs:List Value},zF φ w S ds vs->zF φ' w' S' ds vs
 |[],vs,h=>by simpa only[zF]using h
 |x::r,vs,h=>by
  simp only[zF]at h ⊢
  obtain⟨u,us,rfl,h1,h2⟩:=h;exact⟨u,us,rfl,iF he hs hS x h1,qS he hs hS r h2⟩
end
def je (fz:Nat×Nat)(n:Nat):Prop:=∀o,o<n->¬(fz.1<=o/\o<fz.2)
def OR (φ:List cQ)(w:World)(S:Nat->Prop):cQ->Ob->Prop
 | .box b,.box cs=>∃vs t fz,w.heap[b]?=some (.cells vs t fz)/\je fz vs.size/\Pw (VR φ w S) cs vs.toList/\(∀c∈vs.toList,bb c)/\(b3 cs=true->t=EL)
 | .arr b o cap z n,.arr es=>es.length=n/\n<=cap/\(0<cap->∃vs t fz,w.heap[b]?=some (.cells vs t fz)/\je fz vs.size/\o+cap*z<=vs.size)/\
   ∃us,Pw (PR w S) es us/\rowAt w b o z us
 | .arr b o cap z n,.fz es=>es.length=n/\n<=cap/\(0<cap->S b)/\∃us,Pw (PR w S) es us/\rowAt w b o z us
 | .arr b o cap z n,.byt es=>es.length=n/\n<=cap/\(0<cap->∃vs t fz,w.heap[b]?=some (.cells vs t fz)/\je fz vs.size/\o+cap*z<=vs.size/\t=Jp)/\
   ∃us,Pw (PR w S) es us/\rowAt w b o z us
 | .arr b o cap z n,.may true es=>es.length=n/\n<=cap/\(0<cap->S b)/\∃us,Pw (PR w S) es us/\rowAt w b o z us
 | .arr b o cap z n,.may false es=>es.length=n/\n<=cap/\(0<cap->∃vs t fz,w.heap[b]?=some (.cells vs t fz)/\je fz vs.size/\o+cap*z<=vs.size)/\
   ∃us,Pw (PR w S) es us/\rowAt w b o z us
 | .map r,.map ks vs=>∃es clock,w.heap[r]?=some (.map es clock)/\Pw (PR w S) ks (es.toList.map (·.key))/\Pw (PR w S) vs (es.toList.map (·.val))
 | .map r,.fzm ks vs=>S r/\∃es clock,w.heap[r]?=some (.map es clock)/\Pw (PR w S) ks (es.toList.map (·.key))/\Pw (PR w S) vs (es.toList.map (·.val))
 | .map r,.mapd ks ws=>∃es clock,w.heap[r]?=some (.map es clock)/\Pw (PR w S) ks (es.toList.map (·.key))/\Pw (VR φ w S) ws (es.toList.map (·.val))
 | .none,.unborn=>True
 |_,.dead=>True
 |_,_=>False
def bM:cQ->Ob->Option Nat
 | .box b,.box _=>some b
 | .arr b _ cap _ _,.arr _=>if 0<cap then some b else none
 | .arr b _ cap _ _,.byt _=>if 0<cap then some b else none
 | .arr b _ cap _ _,.may false _=>if 0<cap then some b else none
 | .map r,.map _ _=>some r
 | .map r,.mapd _ _=>some r
 |_,_=>none
def bm (φ:List cQ)(hp:List Ob)(b:Nat):Prop:=∃(id:Nat) (l:cQ) (o:Ob),φ[id]?=some l/\hp[id]?=some o/\bM l o=some b
structure HR (φ:List cQ)(w:World)(S:Nat->Prop)(hp:List Ob):Prop where
 len:φ.length=hp.length
 obj:∀(id:Nat) l o,φ[id]?=some l->hp[id]?=some o->OR φ w S l o
 own:∀b,bm φ hp b->¬S b/\b<w.heap.size
 one:∀(id id':Nat) l l' o o' b,φ[id]?=some l->hp[id]?=some o->φ[id']?=some l'->hp[id']?=some o'->bM l o=some b->bM l' o'=some b->id=id'
 low:∀b,S b->b<w.heap.size
structure Fr (O S:Nat->Prop)(w:World)(O' S':Nat->Prop)(w':World):Prop where
 keep:∀b,b<w.heap.size->¬O b->w'.heap[b]?=w.heap[b]?
 size:w.heap.size<=w'.heap.size
 os:w'.os=w.os
 tape:w'.tape=w.tape
 output:w'.output=w.output
 sub:∀b,S b->S' b
 news:∀b,S' b->S b\/O b\/w.heap.size<=b
 newo:∀b,O' b->O b\/w.heap.size<=b
def Fr.refl (O S:Nat->Prop)(w:World):Fr O S w O S w:=
 ⟨fun _ _ _=>rfl,Nat.le_refl _,rfl,rfl,rfl,fun _ h=>h,fun _ h=> .inl h,fun _ h=> .inl h⟩
def Fr.trans {O S:Nat->Prop}{w:World}{O1 S1:Nat->Prop}{w1:World}{O2 S2:Nat->Prop}{w2:World}(h:Fr O S w O1 S1 w1)(k:Fr O1 S1 w1 O2 S2 w2):Fr O S w O2 S2 w2 where
 keep b hb ho:=by
  rw[k.keep b (mψ hb h.size) fun h1=>(h.newo b h1).elim ho fun h2=>absurd hb (Nat.not_lt.2 h2)];exact h.keep b hb ho
 size:=qδ h.size k.size
 os:=k.os.trans h.os
 tape:=k.tape.trans h.tape
 output:=k.output.trans h.output
 sub b hb:=k.sub b (h.sub b hb)
 news b hb:=by
  rcases k.news b hb with h1|h1|h1
  ·exact h.news b h1
  ·rcases h.newo b h1 with h2|h2;all_goals simp_all
  ·exact .inr (.inr (qδ h.size h1))
 newo b hb:=by
  rcases k.newo b hb with h1|h1
  ·exact h.newo b h1
  ·exact .inr (qδ h.size h1)
variable {O' S':Nat->Prop}
def Fr.less {O S:Nat->Prop}{O2:Nat->Prop}(h:Fr O S w O' S' w')(k:∀b,O2 b->O' b):Fr O S w O2 S' w':=
 {h with newo:=fun b hb=>h.newo b (k b hb)}
def Fr.stable {φ:List cQ}{hp:List Ob}{S:Nat->Prop}(h:Fr (bm φ hp) S w O' S' w')(hr:HR φ w S hp):eO S w w':=
 fun b hb=>h.keep b (hr.low b hb) fun ho=>(hr.own b ho).1 hb
end
section
variable [Letters]
variable {w:World}
def Bl {S:Nat->Prop}:∀{v:Value} {x:Da},dW v=some x->PR w S x v/\bb v
 | .bool b,x,h=>by simp only[dW,lβ]at h;subst h;simp[PR,bb]
 | .int k n,x,h=>by simp only[dW,lβ]at h;subst h;simp[PR,bb]
 | .float ..,x,h=>by simp[dW]at h
 | .complex ..,x,h=>by simp[dW]at h
 | .string s,x,h=>by simp only[dW,lβ]at h;subst h;exact⟨by simp only[PR];exact⟨s,rfl,rfl⟩,trivial⟩
 | .pointer none,x,h=>by simp only[dW,lβ]at h;subst h;simp[PR,bb]
 | .pointer (some a),x,h=>by simp[dW]at h
 | .slice ..,x,h=>by simp[dW]at h
 | .map none,x,h=>by simp only[dW,lβ]at h;subst h;simp[PR,bb]
 | .map (some r),x,h=>by simp[dW]at h
 | .chan ..,x,h=>by simp[dW]at h
 | .func ..,x,h=>by simp[dW]at h
 | .nilFunc,x,h=>by simp only[dW,lβ]at h;subst h;simp[PR,bb]
 | .iface ..,x,h=>by simp[dW]at h
 | .nilIface,x,h=>by simp only[dW,lβ]at h;subst h;simp[PR,bb]
 | .agg ..,x,h=>by simp[dW]at h
 | .tuple ..,x,h=>by simp[dW]at h
def GR (G:bP)(w:World)(S:Nat->Prop):Prop:=∀g x,G g=some x->S g/\∃u,PR w S x u/\uE w g 0 u.cells/\∃t fr,w.heap[g]?=some (.cells u.cells t fr)
variable {S':Nat->Prop}
def vO {G:bP}{w':World}{S:Nat->Prop}(hs:eO S w w')(hS:∀b,S b->S' b)(h:GR G w S):GR G w' S':=by
 intro g x hg;obtain⟨h1,u,h2,h3,t,fr,h4⟩:=h g x hg;exact⟨hS g h1,u,bl hs hS x h2,kR (hs g h1) h3,t,fr,(hs g h1).trans h4⟩
def Rp (φ:List cQ)(w:World)(S:Nat->Prop)(tm:Tm)(a:Act):Prop:=∀t,VR φ w S (get tm t) (a.tmps.getD t undef)
variable {φ:List cQ} {tm:Tm} {a:Act}
def iU {φ':List cQ}{w':World}{S:Nat->Prop}(he:Ext φ φ')(hs:eO S w w')(hS:∀b,S b->S' b)(h:Rp φ w S tm a):Rp φ' w' S' tm a:=
 fun t=>iF he hs hS _ (h t)
variable {d:Option Nat}
def ry {v:D}{t:Nat}:get (put d v tm) t=if d=some t then v else get tm t:=by
 cases d with
 |none=>simp[put]
 |some s=>
  simp only[put,get];by_cases h:s=t
  ·subst h;simp
  ·have:Nat.beq s t=false:=by
    cases hb:Nat.beq s t with
    |false=>rfl
    |true=>exact absurd (lν hb) h
   simp[this,h]
def Bq (d:Option Nat)(a:Act):Prop:=∀t,d=some t->t<a.tmps.size
def MV {S:Nat->Prop}{x:D}{v:Value}(hd:Bq d a)(h:Rp φ w S tm a)(hv:VR φ w S x v):
  Rp φ w S (put d x tm) (a.put d v):=by
 intro t;rw[ry];cases d with
 |none=>simpa[Act.put]using h t
 |some s=>
  by_cases hst:s=t
  ·subst hst;have hs:=hd s rfl;simp[Act.put,hs];exact hv
  ·simp only[lβ,hst,if_false];have:=h t;simp only[Act.put];rw[Array.getD_eq_getD_getElem?]at this ⊢
   rw[Array.getElem?_setIfInBounds_ne hst];exact this
def TI {S:Nat->Prop}{z:Nat}:VR φ w S (.sl .nil z []) (.slice none 0 0):=by
 simp only[VR];exact⟨none,0,[],rfl,by simp,by simp[gt],by simp[qH],by simp⟩
def aZ {P:Program}{G:bP}{S:Nat->Prop}(ht:Rp φ w S tm a)(hg:GR G w S){t:TypeId}{x:Operand}{y:A}(h:cA P G t x=some y):
  VR φ w S (ev tm y) (a.eval x):=by
 cases x with
 |tmp t=>simp only[cA,lβ]at h;subst h;exact ht t
 |const v=>
  simp only[cA]at h;split at h
  ·simp only[lβ]at h;subst h;simp only[ev,Act.eval];exact TI
  ·cases hd:dW v with
   |none=>simp[hd]at h
   |some d=>simp[hd]at h;subst h;simp only[ev,VR,Act.eval];exact(Bl hd).1
 |func f=>
  simp only[cA]at h;cases hb:Nat.blt f 1000000 with
  |false=>simp[hb]at h
  |true=>
   simp[hb]at h;subst h;have hlt:f<1000000:=Nat.le_of_ble_eq_true hb;simp only[ev,VR,Act.eval,PR];exact⟨#[],#[],by rw[show zM f=f from Nat.mod_eq_of_lt hlt],(Nat.div_eq_of_lt hlt).symm,by simp[qH]⟩
 |global g=>
  simp only[cA]at h;cases hd:G g with
  |none=>simp[hd]at h
  |some d=>
   simp[hd]at h;subst h;obtain⟨h1,u,h2,h3,_⟩:=hg g d hd;simp only[ev,VR,Act.eval];exact⟨g,0,u,rfl,h1,h2,h3⟩
def cY {P:Program}{G:bP}{φ:List cQ}{w:World}{S:Nat->Prop}{tm:Tm}{a:Act}(ht:Rp φ w S tm a)(hg:GR G w S):∀{ts:List TypeId} {xs:List Operand} {ys:List A},nb P G ts xs=some ys->
  Pw (VR φ w S) (ys.map (ev tm)) (xs.map a.eval)
 |ts,[],ys,h=>by simp only[nb,lβ]at h;subst h;exact Pw.nil
 |ts,x::r,ys,h=>by
  simp only[nb]at h;split at h
  ·rename_i y hy;split at h
   ·rename_i zs hz;simp only[lβ]at h;subst h;exact Pw.cons (aZ ht hg hy) (cY ht hg hz)
   ·simp at h
  ·simp at h
def OpOk (P:Program)(o:Oper)(a:Act)(w:World)(v:Value)(w':World):Prop:=
 (execOp a.eval o).run P w= .ok (.value v) w'\/((execOp a.eval o).run P w= .ok .skip w'/\v=undef)
def OpOk.wp {P:Program}{o:Oper}{a:Act}{w w':World}{v:Value}(h:OpOk P o a w v w'){K:Act->World->Prop}{Q:Exit->Act->World->Prop}(k:K (a.put o.dst v) w'):
  o.wp P a w K Q:=by
 unfold Oper.wp;rcases h with h|⟨h,rfl⟩
 ·rw[h];exact k
 ·rw[h];exact k
def EffOk (P:Program)(o:Oper)(a:Act)(φ:List cQ)(w:World)(S:Nat->Prop)(hp:List Ob)(base:Nat)(d:D)(hp':List Ob):Prop:=
 ∃v w' φ' S',OpOk P o a w v w'/\VR φ' w' S' d v/\HR φ' w' S' hp'/\Ext φ φ'/\Fr (bm φ hp) S w (bm φ' hp') S' w'/\∀id,id<base->φ'[id]?=φ[id]?
def EffOk.value {P:Program}{o:Oper}{S:Nat->Prop}{hp:List Ob}{base:Nat}{d:D}(hr:HR φ w S hp){v:Value}(h:(execOp a.eval o).run P w= .ok (.value v) w)(hv:VR φ w S d v):EffOk P o a φ w S hp base d hp:=
 ⟨v,w,φ,S,.inl h,hv,hr,Ext.refl φ,Fr.refl _ _ _,fun _ _=>rfl⟩
end
section
variable [Letters]
theorem C7:∀(a b:LN),cM a b=(a==b)
 |[],[]=>rfl
 |[],b::y=>rfl
 |a::x,[]=>rfl
 |a::x,b::y=>by
  simp only[cM,C7 x y,List.cons_beq_cons];by_cases h:a=b
  ·simp_all
  ·have:Nat.beq a b=false:=by
    cases hb:Nat.beq a b with
    |false=>rfl
    |true=>exact absurd (lν hb) h
   simp_all
theorem iu (a b:Int):az a b=(a==b):=by
 cases a with
 |ofNat m=>cases b with
  |ofNat n=>
   simp only[az];by_cases h:m=n
   ·simp_all
   ·have:Nat.beq m n=false:=by
     cases hb:Nat.beq m n with
     |false=>rfl
     |true=>exact absurd (lν hb) h
    grind
  |negSucc n=>rfl
 |negSucc m=>cases b with
  |ofNat n=>rfl
  |negSucc n=>
   simp only[az];by_cases h:m=n
   ·simp_all
   ·have:Nat.beq m n=false:=by
     cases hb:Nat.beq m n with
     |false=>rfl
     |true=>exact absurd (lν hb) h
    simp_all
def blt_eq (a b:Nat):Nat.blt a b=decide (a<b):=by
 by_cases h:a<b
 ·simp_all
 ·have:Nat.blt a b=false:=by
   cases hb:Nat.blt a b with
   |false=>rfl
   |true=>simp_all;omega
  simp_all
def ble_eq (a b:Nat):Nat.ble a b=decide (a<=b):=by
 by_cases h:a<=b
 ·simp_all
 ·have:Nat.ble a b=false:=by
   cases hb:Nat.ble a b with
   |false=>rfl
   |true=>simp_all;omega
  simp_all
def beq_eq (a b:Nat):Nat.beq a b=decide (a=b):=by
 by_cases h:a=b
 ·simp_all
 ·have:Nat.beq a b=false:=by
   cases hb:Nat.beq a b with
   |false=>rfl
   |true=>exact absurd (lν hb) h
  simp_all
def fP (a b:Int):aK a b=decide (a<b):=by
 cases a with
 |ofNat m=>cases b with
  |ofNat n=>simp only[aK,blt_eq];simp
  |negSucc n=>
   rfl
 |negSucc m=>cases b with
  |ofNat n=>
   simp only[aK];grind
  |negSucc n=>
   simp only[aK,blt_eq];grind
def dY (a b:Int):aV a b=decide (a<=b):=by
 simp only[aV,fP];grind
def tf {α:Type}{c:Prop}[Decidable c]{x y r:α}(h1:c->x=r)(h2:y=r):(bif decide c then x else y)=r:=by
 grind
theorem gV (k:IntKind)(n:Int):ab k n=k.wrap n:=by
 cases n with
 |ofNat m=>
  cases k with
  |i64=>simp only[ab,blt_eq];exact tf (fun h=>(IntWalk.i64_in _ (by grind)).symm) (Eq.refl _)
  |u64=>simp only[ab,blt_eq];exact tf (fun h=>(IntWalk.u64_in _ (by grind)).symm) (Eq.refl _)
  |u8=>simp only[ab,blt_eq];exact tf (fun h=>(IntWalk.u8_in _ (by grind)).symm) (Eq.refl _)
  |i32=>simp only[ab,blt_eq];exact tf (fun h=>(IntWalk.i32_in _ (by grind)).symm) (Eq.refl _)
  |u32=>simp only[ab,blt_eq];exact tf (fun h=>(IntWalk.u32_in _ (by grind)).symm) (Eq.refl _)
  |i8=>rfl
  |i16=>rfl
  |u16=>rfl
 |negSucc m=>
  cases k with
  |i64=>simp only[ab,blt_eq];exact tf (fun h=>(IntWalk.i64_in _ (by omega)).symm) (Eq.refl _)
  |_=>rfl
def V2:∀(a b:List UInt8),Ä (a.map UInt8.toNat) (b.map UInt8.toNat)=Op.bytesLess a b
 |[],[]=>rfl
 |_::_,[]=>rfl
 |[],_::_=>rfl
 |a::x,b::y=>by
  simp only[List.map_cons,Ä,Op.bytesLess,V2 x y,blt_eq,beq_eq];by_cases h:a<b
  ·have h':a.toNat<b.toNat:=UInt8.lt_iff_toNat_lt.1 h;grind
  ·have h':¬a.toNat<b.toNat:=fun hh=>h (UInt8.lt_iff_toNat_lt.2 hh)
   by_cases e:a=b
   ·simp_all
   ·have e':¬a.toNat=b.toNat:=fun hh=>e (UInt8.toNat_inj.1 hh)
    grind
def C8 (a b:List UInt8):cM (a.map UInt8.toNat) (b.map UInt8.toNat)=(a==b):=by
 rw[C7];have hinj:∀x y:UInt8,x.toNat=y.toNat->x=y:=fun x y h=>UInt8.toNat_inj.1 h
 by_cases h:a=b
 ·simp_all
 ·have:¬a.map UInt8.toNat=b.map UInt8.toNat:=fun hh=>h ((List.map_inj_right hinj).1 hh)
  grind
section sy
variable {ρ:Nat->Int}
def ă:∀{ks:List (Int×Int×Int)} {i:Nat},NF ρ i ks->Ã ks<=gv ρ i ks/\gv ρ i ks<=é ks
 |[],_,_=>⟨Int.le_refl _,Int.le_refl _⟩
 |(a,l,h)::r,i,hb=>by
  obtain⟨⟨h1,h2⟩,h3⟩:=hb;obtain⟨k1,k2⟩:=ă h3;simp only[Ã,é,gv,fP];by_cases ha:a<0
  ·simp only[ha,decide_true,cond_true];have e1:a*h<=a*ρ i:=Int.mul_le_mul_of_nonpos_left (by omega) h2;have e2:a*ρ i<=a*l:=Int.mul_le_mul_of_nonpos_left (by omega) h1;omega
  ·simp only[ha,decide_false,cond_false];have e1:a*l<=a*ρ i:=Int.mul_le_mul_of_nonneg_left h1 (by omega);have e2:a*ρ i<=a*h:=Int.mul_le_mul_of_nonneg_left h2 (by omega);omega
def SyR.bnd {s:Sy}{n:Int}(h:SyR ρ s n):s.low<=n/\n<=s.top:=by
 cases s with
 |lin c ks=>
  obtain⟨rfl,hb⟩:=h;have:=ă hb;simp only[Sy.low,Sy.top];omega
 |rng l t=>exact h
def vU (f:Int):∀{ks js:List (Int×Int×Int)} {i:Nat},NF ρ i ks->NF ρ i js->gv ρ i (zI f ks js)=gv ρ i ks+f*gv ρ i js/\NF ρ i (zI f ks js)
 |[],[],_,_,_=>by simp[zI,gv,NF]
 |[],(b,l,h)::s,i,h1,h2=>by
  obtain⟨e,k⟩:=vU f (ks:=[]) (js:=s) (i:=i+1) trivial h2.2;refine⟨?_,h2.1,k⟩;simp only[zI,gv,e,Int.mul_add,Int.mul_assoc];omega
 |(a,l,h)::r,[],i,h1,h2=>by
  refine⟨?_,h1⟩;simp[zI,gv]
 |(a,l,h)::r,(b,l',h')::s,i,h1,h2=>by
  obtain⟨e,k⟩:=vU f h1.2 h2.2;refine⟨?_,h1.1,k⟩;simp only[zI,gv,Int.mul_add,Int.add_mul,Int.mul_assoc];omega
variable {a:Sy} {m:Int}
def Ya {b:Sy}{n:Int}(h:SyR ρ a n)(k:SyR ρ b m):SyR ρ (Ń a b) (n+m):=by
 have h1:=h.bnd;have k1:=k.bnd;unfold Ń;split
 ·obtain⟨rfl,hb⟩:=h;obtain⟨rfl,kb⟩:=k;obtain⟨e,q⟩:=vU 1 hb kb;refine⟨?_,q⟩;omega
 ·exact⟨by omega,by omega⟩
def wD {b:Sy}{n:Int}(h:SyR ρ a n)(k:SyR ρ b m):SyR ρ (za a b) (n - m):=by
 have h1:=h.bnd;have k1:=k.bnd;unfold za;split
 ·obtain⟨rfl,hb⟩:=h;obtain⟨rfl,kb⟩:=k;obtain⟨e,q⟩:=vU (-1) hb kb;refine⟨?_,q⟩;omega
 ·exact⟨by omega,by omega⟩
def y4 (f:Int):∀{ks:List (Int×Int×Int)} {i:Nat},NF ρ i ks->gv ρ i (qA f ks)=f*gv ρ i ks/\NF ρ i (qA f ks)
 |[],_,_=>by simp[qA,gv,NF]
 |(a,l,h)::r,i,hb=>by
  obtain⟨e,k⟩:=y4 f hb.2;refine⟨?_,hb.1,k⟩;simp only[qA,gv,e,Int.mul_add,Int.mul_assoc]
def È {b s:Sy}{n:Int}(h:SyR ρ a n)(k:SyR ρ b m)(e:ϛ a b=some s):SyR ρ s (n*m):=by
 unfold ϛ at e;split at e
 ·simp at e;subst e;obtain⟨rfl,_⟩:=h;obtain⟨rfl,kb⟩:=k;obtain⟨e,q⟩:=y4 _ kb;refine⟨?_,q⟩;rw[e];simp only[gv,Int.add_zero,Int.mul_add]
 ·simp at e;subst e;obtain⟨rfl,hb⟩:=h;obtain⟨rfl,_⟩:=k;obtain⟨e,q⟩:=y4 _ hb;refine⟨?_,q⟩;simp only[gv,Int.add_mul];grind
 ·cases e
def Õ {b s:Sy}{n:Int}(h:SyR ρ a n)(k:SyR ρ b m)(e:Ϧ a b=some s):m≠0/\SyR ρ s (n.tdiv m):=by
 have h1:=h.bnd;have k1:=k.bnd;unfold Ϧ at e;cases hc:aV 0 a.low&&aK 0 b.low
 ·simp_all
 ·simp only[hc,cond_true,lβ]at e;subst e;rw[lγ,dY,fP,lδ,lδ]at hc;have hm:0<m:=by omega
  have hn:0<=n:=by omega
  refine⟨by omega,?_,?_⟩
  ·rw[Int.tdiv_eq_ediv_of_nonneg hc.1,Int.tdiv_eq_ediv_of_nonneg hn];refine Int.le_trans (Int.ediv_le_ediv (by omega) h1.1) ?_;exact(Int.le_ediv_iff_mul_le hm).2 (Int.le_trans (Int.mul_le_mul_of_nonneg_left k1.2 (Int.ediv_nonneg hn (by omega))) (Int.ediv_mul_le n (by omega)))
  ·rw[Int.tdiv_eq_ediv_of_nonneg hn,Int.tdiv_eq_ediv_of_nonneg (by omega:0<=a.top)];refine Int.le_trans (Int.ediv_le_ediv hm h1.2) ?_;exact(Int.le_ediv_iff_mul_le (by omega)).2 (Int.le_trans (Int.mul_le_mul_of_nonneg_left k1.1 (Int.ediv_nonneg (by omega) (by omega))) (Int.ediv_mul_le a.top (by omega)))
def ę (m:Int):∀{ks:List (Int×Int×Int)} {i:Nat},NF ρ i ks->(∃q,gv ρ i ks=gv ρ i (vF m ks)+m*q)/\NF ρ i (vF m ks)
 |[],_,_=>⟨⟨0,by simp[vF,gv]⟩,trivial⟩
 |(a,l,h)::r,i,hb=>by
  obtain⟨⟨q,e⟩,k⟩:=ę m hb.2;refine⟨?_,hb.1,k⟩;simp only[gv,vF,e];cases hz:az (a.emod m) 0
  ·grind
  ·have:a.emod m=0:=by rw[iu]at hz;simp_all
   refine⟨q+a / m*ρ i,?_⟩;have e2:a=m*(a / m):=by
    have:=Int.mul_ediv_add_emod a m;have h3:a % m=0:= ‹a.emod m=0›
    omega
   grind
def Ú {b s:Sy}{n:Int}(h:SyR ρ a n)(k:SyR ρ b m)(e:Ϩ a b=some s):m≠0/\SyR ρ s (n.tmod m):=by
 unfold Ϩ at e;split at e
 ·rename_i c ks m';obtain⟨rfl,_⟩:=k;simp only[gv,Int.add_zero];have h1:=h.bnd;obtain⟨hn,hb⟩:=h;obtain⟨⟨q,e1⟩,kb⟩:=ę m' hb;have hr:SyR ρ (.lin (c.emod m') (vF m' ks)) (c.emod m'+gv ρ 0 (vF m' ks)):=⟨rfl,kb⟩;have r1:=hr.bnd;cases hc:aK 0 m'&&(aV 0 (Sy.lin c ks).low&&(aV 0 (Sy.lin (c.emod m') (vF m' ks)).low&&aK (Sy.lin (c.emod m') (vF m' ks)).top m'))
  ·simp_all
  ·simp only[hc,lβ]at e;simp only[lγ,dY,fP,lδ]at hc;refine⟨by omega,?_⟩
   have:n.tmod m'=c.emod m'+gv ρ 0 (vF m' ks):=by
    rw[Int.tmod_eq_emod_of_nonneg (by omega)];have e2:n=(c.emod m'+gv ρ 0 (vF m' ks))+m'*(c / m'+q):=by
     have:=Int.mul_ediv_add_emod c m';have h3:c.emod m'=c % m':=rfl;grind
    rw[e2,Int.add_mul_emod_self_left];exact Int.emod_eq_of_lt (by omega) (by omega)
   simp_all
 ·cases e
def WZ {k:IntKind}{n:Int}(h:kLo k<=n/\n<=kHi k):k.wrap n=n:=by
 cases k<;>simp only[kLo,kHi]at h;case i64=>exact IntWalk.i64_in _ (by omega)
 case u8=>exact IntWalk.u8_in _ (by omega)
 case u16=>exact IntWalk.u16_in _ (by omega)
 case u32=>exact IntWalk.u32_in _ (by omega)
 case u64=>exact IntWalk.u64_in _ (by omega)
 all_goals omega
def GA:∀{ks:List (Int×Int×Int)} {i:Nat},TX ks=true->gv ρ i ks=0
 |[],_,_=>rfl
 |(a,l,h)::r,i,hz=>by
  simp only[TX,lγ,iu,beq_iff_eq]at hz;simp only[gv,hz.1,GA hz.2,Int.zero_mul,Int.add_zero]
end sy
def qt {w:World}{S:Nat->Prop}{k:IntKind}{s:Sy}{n:Int}{r:Da}(h:SyR Letters.ρ s n)(e:Ç k s=some r):k.wrap n=n/\PR w S r (.int k n):=by
 have h1:=h.bnd;unfold Ç at e;cases hc:aV (kLo k) s.low&&aV s.top (kHi k)
 ·simp_all
 ·simp only[hc,cond_true]at e;rw[lγ,dY,dY,lδ,lδ]at hc;refine⟨WZ (by omega),?_⟩;split at e
  ·rename_i c ks;cases hz:TX ks
   ·simp only[hz,cond_false,lβ]at e;subst e;simp only[PR];simp_all
   ·simp only[hz,cond_true,lβ]at e;subst e;simp only[PR];obtain⟨rfl,_⟩:=h;rw[GA hz,Int.add_zero]
  ·simp at e;subst e;simp only[PR];simp_all
variable {ρ:Nat->Int}
def C9 {s:Sy}{n:Int}{b:Bool}(h:SyR ρ s n)(e:Vg s=some b):b=decide (n=0):=by
 have h1:=h.bnd;unfold Vg at e;simp only[iu,fP]at e;grind
def NR {s:Sy}{n:Int}{b:Bool}(h:SyR ρ s n)(e:Å s=some b):b=decide (n<0):=by
 have h1:=h.bnd;unfold Å at e;simp only[dY,fP]at e;grind
def NM {s:Sy}{n:Int}{b:Bool}(h:SyR ρ s n)(e:Z9 s=some b):b=decide (n<=0):=by
 have h1:=h.bnd;unfold Z9 at e;simp only[dY,fP]at e;grind
def se {w:World}{S:Nat->Prop}{x:Da}{k:IntKind}{s:Sy}{v:Value}(e:B5 x=some (k,s))(h:PR w S x v):∃n,v= .int k n/\SyR Letters.ρ s n:=by
 cases x<;>simp only[B5,reduceCtorEq,lτ]at e
 ·obtain⟨rfl,rfl⟩:=e;exact⟨_,h,by simp[SyR,gv,NF]⟩
 ·obtain⟨rfl,rfl⟩:=e;simpa only[PR]using h
end
section
variable [Letters]
section
variable {P:Program} {w:World} {S:Nat->Prop} {φ:List cQ}
variable {op:BinOp}
def cG {t:TypeId}{x y:Operand}{a b:Value}(h:(∀cs ds,a= .agg cs->b= .agg ds->False)/\(a= .nilIface->b= .nilIface->False)):
  (eqGuard op t x y a b).run P w= .ok () w:=by
 unfold eqGuard;simp_all
def dv:Da->Value
 | .bool b=> .bool b
 | .int k n=> .int k n
 |_=>undef
variable {k:IntKind}
def Ku {t:TypeId}{a b:Int}{r:Da}(hs:gL op=false)(h:jX op k a b=some r):
  ∃v,(binOp op t (.int k a) (.int k b)).run P w= .ok v w/\PR w S r v:=by
 cases op with
 |shl=>simp[gL]at hs
 |shr=>simp[gL]at hs
 |quo=>
  simp only[jX,iu,gV]at h;by_cases hb:b=0
  ·simp_all
  ·rw[beq_eq_false_iff_ne.2 hb,cond_false,lβ]at h;subst h;simp[binOp,Op.intDiv,hb,PR]
 |rem=>
  simp only[jX,iu,gV]at h;by_cases hb:b=0
  ·simp_all
  ·rw[beq_eq_false_iff_ne.2 hb,cond_false,lβ]at h;subst h;simp[binOp,Op.intDiv,hb,PR]
 |_=>
  simp only[jX,iu,fP,dY,gV,lβ]at h;subst h;simp[binOp,Op.intArith,Op.intBits,Op.intCmp,bne,PR]
def xN {b:Bool}{o:Option Bool}{r:Da}(h:qY b o=some r):∃c,o=some c/\r= .bool (c==b):=by
 cases o with
 |none=>cases h
 |some c=>simp only[qY,lβ]at h;simp_all
def yF {o:Option Sy}{r:Da}(h:mkO k o=some r):∃s,o=some s/\Ç k s=some r:=by
 cases o with
 |none=>cases h
 |some s=>exact⟨s,rfl,h⟩
def PN {t:TypeId}{a b:Sy}{n m:Int}{r:Da}(ha:SyR Letters.ρ a n)(hb:SyR Letters.ρ b m)(h:Ud op k a b=some r):
  ∃v,(binOp op t (.int k n) (.int k m)).run P w= .ok v w/\PR w S r v:=by
 cases op<;>simp only[Ud,reduceCtorEq]at h;case add=>
  obtain⟨h1,h2⟩:=qt (w:=w) (S:=S) (Ya ha hb) h;exact⟨_,by simp[binOp,Op.intArith,h1],h2⟩
 case sub=>
  obtain⟨h1,h2⟩:=qt (w:=w) (S:=S) (wD ha hb) h;exact⟨_,by simp[binOp,Op.intArith,h1],h2⟩
 case mul=>
  obtain⟨s,hs,h⟩:=yF h;obtain⟨h1,h2⟩:=qt (w:=w) (S:=S) (È ha hb hs) h;exact⟨_,by simp[binOp,Op.intArith,h1],h2⟩
 case quo=>
  obtain⟨s,hs,h⟩:=yF h;obtain⟨hm,hq⟩:=Õ ha hb hs;obtain⟨h1,h2⟩:=qt (w:=w) (S:=S) hq h;exact⟨_,by simp[binOp,Op.intDiv,hm,h1],h2⟩
 case rem=>
  obtain⟨s,hs,h⟩:=yF h;obtain⟨hm,hq⟩:=Ú ha hb hs;obtain⟨h1,h2⟩:=qt (w:=w) (S:=S) hq h;exact⟨_,by simp[binOp,Op.intDiv,hm,h1],h2⟩
 all_goals
  obtain⟨c,hc,rfl⟩:=xN h;have hd:=wD ha hb
 case eql=>
  have:=C9 hd hc;refine⟨.bool (decide (n=m)),by simp[binOp,Op.intCmp];try rfl,?_⟩
  simp only[PR];simp_all;omega
 case neq=>
  have:=C9 hd hc;refine⟨.bool (!decide (n=m)),by simp[binOp,bne];try rfl,?_⟩
  simp only[PR];simp_all;omega
 case lss=>
  have:=NR hd hc;refine⟨.bool (decide (n<m)),by simp[binOp,Op.intCmp];try rfl,?_⟩
  simp only[PR];simp_all;omega
 case leq=>
  have:=NM hd hc;refine⟨.bool (decide (n<=m)),by simp[binOp,Op.intCmp];try rfl,?_⟩
  simp only[PR];simp_all;omega
 case gtr=>
  have:=NM hd hc;refine⟨.bool (decide (n>m)),by simp[binOp,Op.intCmp];try rfl,?_⟩
  congr 1;grind
 case geq=>
  have:=NR hd hc;refine⟨.bool (decide (n≥m)),by simp[binOp,Op.intCmp];try rfl,?_⟩
  congr 1;grind
def EA {t:TypeId}{k':IntKind}{a b:Int}{r:Da}(hs:gL op=true)(h:lK op k a b=some r):
  ∃v,(binOp op t (.int k a) (.int k' b)).run P w= .ok v w/\PR w S r v:=by
 cases op with
 |shl=>
  simp only[lK,fP,gV]at h;by_cases hb:b<0
  ·simp_all
  ·simp[hb]at h;subst h;simp[binOp,Op.shift,hb,PR]
 |shr=>
  simp only[lK,fP,gV]at h;by_cases hb:b<0
  ·simp_all
  ·simp[hb]at h;subst h;simp[binOp,Op.shift,hb,PR]
 |_=>simp[gL]at hs
def Kv {t:TypeId}{a b:ByteArray}{r:Da}(h:p9 op (a.data.toList.map UInt8.toNat) (b.data.toList.map UInt8.toNat)=some r):
  ∃v,(binOp op t (.string a) (.string b)).run P w= .ok v w/\PR w S r v:=by
 have hlen:∀c:ByteArray,c.data.toList.length=c.size:=fun _=>rfl
 cases op with
 |add=>
  simp only[p9,ble_eq,lα,hlen]at h;by_cases hb:a.size+b.size<=oU
  ·simp only[hb,decide_true,cond_true,lβ]at h;subst h;have hb':¬(((a.size+b.size:Nat):Int)>IntKind.i64.max):=by
    have:IntKind.i64.max=9223372036854775807:=by rfl
    unfold oU at hb;omega
   refine⟨.string (a++b),?_,?_⟩
   ·simp only[binOp,Op.stringOp,hb',if_false,Sem.run_pure]
   ·simp only[PR];simp
  ·simp_all
 |eql|neq|lss|leq|gtr|geq=>
  refine⟨dv r,?_⟩;simp only[p9,C8,V2,lβ]at h;subst h;simp only[dv,PR,and_true];simp only[binOp,Op.stringOp,ByteArray.toList_eq,Sem.run_pure]
 |_=>simp[p9]at h
variable {Y:Operand} {y:D}
def Yq {t:TypeId}{X:Operand}{x:D}{v u:Value}{r:Da}(hx:VR φ w S x v)(hy:VR φ w S y u)(h:bin op x y=some r):
  ∃z,(do eqGuard op t X Y v u;binOp op t v u).run P w= .ok z w/\PR w S r z:=by
 unfold bin at h;split at h
 ·rename_i k a k' b;subst hx hy;have hg:(eqGuard op t X Y (.int k a) (.int k' b)).run P w= .ok () w:=cG ⟨by simp,by simp⟩
  cases hs:gL op with
  |true=>
   simp only[hs,cond_true]at h;obtain⟨z,h1,h2⟩:=EA (P:=P) (w:=w) (S:=S) (t:=t) (k':=k') hs h;simp_all
  |false=>
   simp only[hs,cond_false]at h;split at h
   ·rename_i hk;obtain⟨z,h1,h2⟩:=Ku (P:=P) (w:=w) (S:=S) (t:=t) hs h;simp_all
   ·simp at h
 ·obtain⟨a',rfl,rfl⟩:=hx;obtain⟨b',rfl,rfl⟩:=hy;have hg:(eqGuard op t X Y (.string a') (.string b')).run P w= .ok () w:=cG ⟨by simp,by simp⟩
  obtain⟨z,h1,h2⟩:=Kv (P:=P) (w:=w) (S:=S) (t:=t) h;simp_all
 ·unfold CN at h;split at h
  ·rename_i k a k' b hsx hsy;split at h
   ·rename_i hk;obtain⟨n,rfl,hn⟩:=se hsx hx;obtain⟨m,rfl,hm⟩:=se hsy hy;have hg:(eqGuard op t X Y (.int k n) (.int k m)).run P w= .ok () w:=cG ⟨by simp,by simp⟩
    obtain⟨z,h1,h2⟩:=PN (P:=P) (w:=w) (S:=S) (t:=t) hn hm h;simp_all
   ·simp at h
  ·simp at h
 ·simp at h
def T9 {t:TypeId}{X:Operand}{x:D}{v u:Value}{r:Da}(ht:P.underlying t=some .bool)(hx:VR φ w S x v)(hy:VR φ w S y u)(h:binB op x y=some r):
  ∃z,(do eqGuard op t X Y v u;binOp op t v u).run P w= .ok z w/\PR w S r z:=by
 unfold binB at h;split at h
 ·rename_i a b;subst hx hy;have hg:(eqGuard op t X Y (.bool a) (.bool b)).run P w= .ok () w:=cG ⟨by simp,by simp⟩
  have he:(Op.equal t (.bool a) (.bool b)).run P w= .ok (a==b) w:=by
   unfold Op.equal Op.maxDepth Op.equalIn;simp[run_underlying ht]
  split at h
  ·simp at h;subst h;exact⟨.bool (a==b),by simp[hg,binOp,he],by rfl⟩
  ·simp at h;subst h;exact⟨.bool (!(a==b)),by simp[hg,binOp,he],by rfl⟩
  ·simp at h
 ·simp at h
variable {d:D}
def ld {v:Value}{b:Bool}(h:gq 0 d=some b)(hv:VR φ w S d v):∃a:Option Addr,v= .pointer a/\a.isNone=b:=by
 simp only[gq]at h;split at h<;>simp at h<;>subst h
 ·simp only[VR,PR]at hv;simp_all
 ·simp only[VR,PR]at hv;grind
 ·simp only[VR]at hv;grind
 ·simp only[VR]at hv;grind
 ·simp only[VR]at hv;grind
def nR {v:Value}{b:Bool}(h:gq 1 d=some b)(hv:VR φ w S d v):∃(a:Option Addr) (n c:Nat),v= .slice a n c/\a.isNone=b:=by
 simp only[gq]at h;split at h<;>simp at h<;>subst h
 ·obtain⟨a,c,us,rfl,_,ht,_⟩:=hv;exact⟨a,_,_,rfl,by rw[ht.1];rfl⟩
 ·obtain⟨a,c,us,rfl,_,ht,_⟩:=hv;exact⟨a,_,_,rfl,by cases a<;>simp_all [gt]⟩
 ·obtain⟨a,c,us,rfl,_,ht,_⟩:=hv;exact⟨a,_,_,rfl,by cases a<;>simp_all [gt]⟩
 ·obtain⟨a,c,us,rfl,_,ht,hp,hr⟩:=hv;have hne:us≠[]:=by
   simp only[qH]at hp;grind
  grind
 ·obtain⟨a,c,us,rfl,_,hp,hr⟩:=hv;have hne:us≠[]:=by
   simp only[qH]at hp;grind
  grind
 ·simp only[VR]at hv;grind
def tR {v:Value}{b:Bool}(h:gq 2 d=some b)(hv:VR φ w S d v):∃a:Option Nat,v= .map a/\a.isNone=b:=by
 simp only[gq]at h;split at h<;>simp at h<;>subst h
 ·simp only[VR,PR]at hv;simp_all
 ·simp only[VR,PR]at hv;grind
 ·simp only[VR]at hv;grind
def yn {v:Value}{b:Bool}(h:gq 3 d=some b)(hv:VR φ w S d v):(b=true/\v= .nilFunc)\/(b=false/\∃f x y,v= .func f x y):=by
 simp only[gq]at h;split at h<;>simp at h<;>subst h
 ·simp only[VR,PR]at hv;simp_all
 ·simp only[VR,PR]at hv;grind
 ·simp only[VR]at hv;grind
def nQ {v:Value}{b:Bool}(h:gq 4 d=some b)(hv:VR φ w S d v):(b=true/\v= .nilIface)\/(b=false/\∃t x,v= .iface t x):=by
 simp only[gq]at h;split at h<;>simp at h<;>subst h
 ·simp only[VR,PR]at hv;simp_all
 ·simp only[VR,PR]at hv;grind
 ·simp only[VR]at hv;grind
def Z7 (P:Program)(kd:Nat)(t:TypeId)(X Y:Operand):Prop:=
 (kd=0/\∃e,P.underlying t=some (.pointer e))\/(kd=1/\∃e,P.underlying t=some (.slice e))\/(kd=2/\∃k e,P.underlying t=some (.map k e))\/
 (kd=3/\∃a b c,P.underlying t=some (.func a b c))\/(kd=4/\(iw X||iw Y)=true/\∃ms,P.underlying t=some (.interface ms))
def Qh {kd:Nat}{t:TypeId}{X:Operand}(hk:Z7 P kd t X Y){x:D}{v u:Value}{b c:Bool}(hx:VR φ w S x v)(hy:VR φ w S y u)(hb:gq kd x=some b)(hc:gq kd y=some c)(h1:b=true\/c=true):
  (Op.equal t v u).run P w= .ok (b&&c) w/\∀op,(eqGuard op t X Y v u).run P w= .ok () w:=by
 rcases hk with⟨rfl,e,ht⟩|⟨rfl,e,ht⟩|⟨rfl,k,e,ht⟩|⟨rfl,a1,a2,a3,ht⟩|⟨rfl,hX,ms,ht⟩
 ·obtain⟨a,rfl,ha⟩:=ld hb hx;obtain⟨a',rfl,ha'⟩:=ld hc hy;refine⟨?_,fun op=>cG ⟨by simp,by simp⟩⟩
  unfold Op.equal Op.maxDepth Op.equalIn;simp only[Sem.run_bind,run_underlying ht,Result.andThen_ok];subst ha ha';cases a<;>cases a'<;>simp_all
 ·obtain⟨a,n,c1,rfl,ha⟩:=nR hb hx;obtain⟨a',n',c',rfl,ha'⟩:=nR hc hy;refine⟨?_,fun op=>cG ⟨by simp,by simp⟩⟩
  unfold Op.equal Op.maxDepth Op.equalIn;simp only[Sem.run_bind,run_underlying ht,Result.andThen_ok];subst ha ha';cases a<;>cases a'<;>simp_all
 ·obtain⟨a,rfl,ha⟩:=tR hb hx;obtain⟨a',rfl,ha'⟩:=tR hc hy;refine⟨?_,fun op=>cG ⟨by simp,by simp⟩⟩
  unfold Op.equal Op.maxDepth Op.equalIn;simp only[Sem.run_bind,run_underlying ht,Result.andThen_ok];subst ha ha';cases a<;>cases a'<;>simp_all
 ·rcases yn hb hx with⟨rfl,rfl⟩|⟨rfl,f,x1,y1,rfl⟩<;>rcases yn hc hy with⟨rfl,rfl⟩|⟨rfl,f',x2,y2,rfl⟩;all_goals first
   |(simp at h1;done)
   |(
     refine⟨?_,fun op=>cG ⟨by simp,by simp⟩⟩
     unfold Op.equal Op.maxDepth Op.equalIn;simp[run_underlying ht])
 ·have hgn:∀op,(eqGuard op t X Y .nilIface .nilIface).run P w= .ok () w:=by
   intro op;unfold eqGuard;cases X<;>cases Y<;>first
    |(simp[iw]at hX;done)
    |(cases op<;>rfl)
  rcases nQ hb hx with⟨rfl,rfl⟩|⟨rfl,f,x1,rfl⟩<;>rcases nQ hc hy with⟨rfl,rfl⟩|⟨rfl,f',x2,rfl⟩;all_goals first
   |(simp at h1;done)
   |(
     refine⟨?_,hgn⟩;unfold Op.equal Op.maxDepth Op.equalIn;simp[run_underlying ht];done)
   |(
     refine⟨?_,fun op=>cG ⟨by simp,by simp⟩⟩
     unfold Op.equal Op.maxDepth Op.equalIn;simp[run_underlying ht])
end
end
section
variable [Letters]
section
variable {P:Program} {w:World} {S:Nat->Prop} {φ:List cQ}
variable {kd:Nat}
def rP {d:D}(h:lF kd d=true):gq kd d=some true:=by
 unfold lF at h;split at h
 ·rename_i b hb;rw[hb,h]
 ·simp at h
variable {Y:Operand} {y:D}
def xM {op:BinOp}{t:TypeId}{X:Operand}(hk:Z7 P kd t X Y){x:D}{v u:Value}{r:Da}(hx:VR φ w S x v)(hy:VR φ w S y u){b c:Bool}(hb:gq kd x=some b)(hc:gq kd y=some c)(h1:b=true\/c=true)(h:tg op (some (b&&c))=some r):
  ∃z,(do eqGuard op t X Y v u;binOp op t v u).run P w= .ok z w/\PR w S r z:=by
 obtain⟨he,hg⟩:=Qh hk hx hy hb hc h1;have hvu:(∀k a k' a',v= .int k a->u= .int k' a'->False)/\(∀k a k' a',v= .float k a->u= .float k' a'->False)/\(∀k a e k' a' e',v= .complex k a e->u= .complex k' a' e'->False)/\(∀s s',v= .string s->u= .string s'->False):=by
  have hsc:(∃a,v= .pointer a)\/(∃a n c,v= .slice a n c)\/(∃a,v= .map a)\/v= .nilFunc\/(∃f x y,v= .func f x y)\/v= .nilIface\/(∃t x,v= .iface t x):=by
   rcases hk with⟨rfl,_⟩|⟨rfl,_⟩|⟨rfl,_⟩|⟨rfl,_⟩|⟨rfl,_⟩
   ·obtain⟨a,rfl,_⟩:=ld hb hx;exact .inl ⟨a,rfl⟩
   ·obtain⟨a,n,c,rfl,_⟩:=nR hb hx;exact .inr (.inl ⟨a,n,c,rfl⟩)
   ·obtain⟨a,rfl,_⟩:=tR hb hx;exact .inr (.inr (.inl ⟨a,rfl⟩))
   ·rcases yn hb hx with⟨_,rfl⟩|⟨_,f,x,y,rfl⟩
    ·exact .inr (.inr (.inr (.inl rfl)))
    ·exact .inr (.inr (.inr (.inr (.inl ⟨f,x,y,rfl⟩))))
   ·rcases nQ hb hx with⟨_,rfl⟩|⟨_,f,x,rfl⟩
    ·exact .inr (.inr (.inr (.inr (.inr (.inl rfl)))))
    ·exact .inr (.inr (.inr (.inr (.inr (.inr ⟨f,x,rfl⟩)))))
  rcases hsc with⟨a,rfl⟩|⟨a,n,c,rfl⟩|⟨a,rfl⟩|rfl|⟨f,x,y,rfl⟩|rfl|⟨t,x,rfl⟩<;>simp
 have hbin:∀q:BinOp,(q= .eql->(binOp q t v u).run P w= .ok (.bool (b&&c)) w)/\(q= .neq->(binOp q t v u).run P w= .ok (.bool (!(b&&c))) w):=by
  intro q;constructor
  ·rintro rfl
   unfold binOp;split<;>first
    |(exfalso;first|exact hvu.1 _ _ _ _ rfl rfl|exact hvu.2.1 _ _ _ _ rfl rfl|exact hvu.2.2.1 _ _ _ _ _ _ rfl rfl|exact hvu.2.2.2 _ _ rfl rfl)
    |(simp[he];done)
    |simp_all
  ·rintro rfl
   unfold binOp;split<;>first
    |(exfalso;first|exact hvu.1 _ _ _ _ rfl rfl|exact hvu.2.1 _ _ _ _ rfl rfl|exact hvu.2.2.1 _ _ _ _ _ _ rfl rfl|exact hvu.2.2.2 _ _ rfl rfl)
    |(simp[he];done)
    |simp_all
 simp only[tg]at h;split at h
 ·simp only[lβ]at h;subst h;exact⟨.bool (b&&c),by simp only[Sem.run_bind,hg,Result.andThen_ok,(hbin _).1 rfl],by simp[PR]⟩
 ·simp only[lβ]at h;subst h;exact⟨.bool (!(b&&c)),by simp only[Sem.run_bind,hg,Result.andThen_ok,(hbin _).2 rfl],by simp[PR]⟩
 ·simp at h
def GF {op:BinOp}{t:TypeId}{X:Operand}(hk:Z7 P kd t X Y){x:D}{v u:Value}{r:Da}(hx:VR φ w S x v)(hy:VR φ w S y u)(h:binN kd op x y=some r):
  ∃z,(do eqGuard op t X Y v u;binOp op t v u).run P w= .ok z w/\PR w S r z:=by
 unfold binN at h;cases hy1:lF kd y with
 |true=>
  simp only[hy1,cond_true]at h;have hc:=rP hy1;cases hb:gq kd x with
  |none=>simp[hb,tg]at h
  |some b=>rw[hb]at h;exact xM hk hx hy hb hc (.inr rfl) (by simpa using h)
 |false=>
  simp only[hy1,cond_false]at h;cases hx1:lF kd x with
  |true=>
   simp only[hx1,cond_true]at h;have hb:=rP hx1;cases hc:gq kd y with
   |none=>simp[hc,tg]at h
   |some c=>rw[hc]at h;exact xM hk hx hy hb hc (.inl rfl) (by simpa using h)
  |false=>simp[hx1]at h
def LP {t e:TypeId}{j:TypeInfo}{X:Operand}(hu:P.underlying t=some (.pointer e))(hj:P.info? e=some j){x:D}{v u:Value}{r:Da}(hx:VR φ w S x v)(hy:VR φ w S y u)(h:LO x y=some r):
  ∃z,(do eqGuard .neq t X Y v u;binOp .neq t v u).run P w= .ok z w/\PR w S r z:=by
 unfold LO at h;cases hs:Ey x y with
 |false=>
  rw[hs,cond_false]at h;exact GF (.inl ⟨rfl,e,hu⟩) hx hy h
 |true=>
  rw[hs,cond_true]at h;simp only[lβ]at h;subst h;unfold Ey at hs;split at hs
  ·rename_i i o i' o';rw[lγ,beq_eq,beq_eq,lδ,lδ]at hs;obtain⟨rfl,rfl⟩:=hs;simp only[VR]at hx hy;obtain⟨b,h1,rfl⟩:=hx;obtain⟨b',h2,rfl⟩:=hy;rw[h1]at h2;injection h2 with h2;injection h2 with h2;subst h2;have hg:(eqGuard .neq t X Y (.pointer (some ⟨b,o,none⟩)) (.pointer (some ⟨b,o,none⟩))).run P w= .ok () w:=cG ⟨by simp,by simp⟩
   exact⟨.bool false,by simp only[Sem.run_bind,hg,Result.andThen_ok];exact Lib.run_neq_ptr_same w _ hu hj,by simp[PR]⟩
  ·cases hs
def Ϲ {op:UnOp}{x:D}{v:Value}{r:Da}(hx:VR φ w S x v)(h:un op x=some r):
  ∃z,(Op.unary op v).run P w= .ok z w/\PR w S r z:=by
 unfold un at h;split at h
 ·simp only[lβ,gV]at h;subst h;simp only[VR,PR]at hx;subst hx;rename_i k n;exact⟨.int k (k.wrap (0 - n)),by simp[Op.unary,Op.intArith],by simp[PR]⟩
 ·rename_i k s;simp only[VR,PR]at hx;obtain⟨n,rfl,hn⟩:=hx;obtain⟨h1,h2⟩:=qt (w:=w) (S:=S) (wD (a:= .lin 0 []) (n:=0) (by simp[SyR,gv,NF]) hn) h;exact⟨_,by simp only[Op.unary,Op.intArith,h1];rfl,h2⟩
 ·simp only[lβ]at h;subst h;simp only[VR,PR]at hx;subst hx;rename_i b;exact⟨.bool (!b),by simp[Op.unary],by simp[PR]⟩
 ·simp at h
def Ln {d:D}{v:Value}(h:DP d=true)(hv:VR φ w S d v):(∃a,v= .pointer (some a))\/(∃f fs cs,v= .func (.func f) fs cs)\/∃t x,v= .iface t x:=by
 unfold DP at h;split at h<;>(try simp only[VR,PR]at hv)
 ·obtain⟨b,o,u,rfl,_⟩:=hv;exact .inl ⟨_,rfl⟩
 ·obtain⟨fs,cs,rfl,_⟩:=hv;exact .inr (.inl ⟨_,_,_,rfl⟩)
 ·obtain⟨u,rfl,_⟩:=hv;exact .inr (.inr ⟨_,_,rfl⟩)
 ·obtain⟨b,_,rfl⟩:=hv;exact .inl ⟨_,rfl⟩
 ·obtain⟨b,o,c,z,n,_,_,rfl⟩:=hv;exact .inl ⟨_,rfl⟩
 ·obtain⟨b,o,u,rfl,_⟩:=hv;exact .inl ⟨_,rfl⟩
 ·obtain⟨fs,cs,rfl,_⟩:=hv;exact .inr (.inl ⟨_,_,_,rfl⟩)
 ·obtain⟨u,rfl,_⟩:=hv;exact .inr (.inr ⟨_,_,rfl⟩)
 ·simp at h
end
end
section
variable [Letters]
section
variable {P:Program} {w:World} {S:Nat->Prop} {φ:List cQ}
def fx {e:Da}{u:Value}(h:PR w S e u):Pw (PR w S) (cells e) u.cells.toList/\∀c∈u.cells.toList,bb c:=by
 cases e with
 |agg cs=>
  obtain⟨vs,rfl,h1,h2⟩:=h;exact⟨PRs_iff.1 h1,h2⟩
 |bool b=>have h':=h;subst h';exact⟨Pw.cons h Pw.nil,by simp[Value.cells,bb]⟩
 |int k n=>have h':=h;subst h';exact⟨Pw.cons h Pw.nil,by simp[Value.cells,bb]⟩
 |str s=>have h':=h;obtain⟨b,rfl,_⟩:=h';exact⟨Pw.cons h Pw.nil,by simp[Value.cells,bb]⟩
 |slice g es=>have h':=h;obtain⟨a,c,us,rfl,_⟩:=h';exact⟨Pw.cons h Pw.nil,by simp[Value.cells,bb]⟩
 |nilptr=>have h':=h;subst h';exact⟨Pw.cons h Pw.nil,by simp[Value.cells,bb]⟩
 |ptr x=>have h':=h;obtain⟨b,o,u,rfl,_⟩:=h';exact⟨Pw.cons h Pw.nil,by simp[Value.cells,bb]⟩
 |map ks vs=>have h':=h;obtain⟨r,es,c,rfl,_⟩:=h';exact⟨Pw.cons h Pw.nil,by simp[Value.cells,bb]⟩
 |nilmap=>have h':=h;subst h';exact⟨Pw.cons h Pw.nil,by simp[Value.cells,bb]⟩
 |fn f cs=>have h':=h;obtain⟨c0,c,rfl,_⟩:=h';exact⟨Pw.cons h Pw.nil,by simp[Value.cells,bb]⟩
 |nilfn=>have h':=h;subst h';exact⟨Pw.cons h Pw.nil,by simp[Value.cells,bb]⟩
 |iface t x=>have h':=h;obtain⟨u,rfl,_⟩:=h';exact⟨Pw.cons h Pw.nil,by simp[Value.cells,bb]⟩
 |sliceE g es=>have h':=h;obtain⟨⟨a,c,us,rfl,_⟩,_⟩:=h';exact⟨Pw.cons h Pw.nil,by simp[Value.cells,bb]⟩
 |sym k s=>have h':=h;obtain⟨n,rfl,_⟩:=h';exact⟨Pw.cons h Pw.nil,by simp[Value.cells,bb]⟩
 |nilif=>have h':=h;subst h';exact⟨Pw.cons h Pw.nil,by simp[Value.cells,bb]⟩
variable {d:D}
def oE {v:Value}(h:VR φ w S d v)(hc:(bA d).all dZ=true):Pw (VR φ w S) (bA d) v.cells.toList/\∀c∈v.cells.toList,bb c:=by
 cases d with
 |p x=>
  simp only[VR]at h;obtain⟨h1,h2⟩:=fx h;refine⟨?_,h2⟩;cases x<;>simp only[bA,cells]at h1 ⊢ <;>first
   |exact Pw.map_left (h1.mono fun _ _ h=>by simpa only[VR]using h)
   |exact h1.map_left (f:=D.p) |>.mono (fun _ _ h=>h)
   |(obtain⟨u,us,e1,e2,e3⟩:=h1.cons_inv;rw[e1];exact Pw.cons (by simpa only[VR]using e2) (by have:=e3.nil_inv;subst this;exact Pw.nil))
 |agg ds=>
  simp only[VR]at h;obtain⟨vs,rfl,h1,h2⟩:=h;exact⟨VRs_iff.1 h1,h2⟩
 |tup ds=>simp[bA,dZ]at hc
 |junk=>simp[bA,dZ]at hc
 |box id off=>have h':=h;simp only[VR]at h';obtain⟨b,_,rfl⟩:=h';exact⟨Pw.cons h Pw.nil,by simp[Value.cells,bb]⟩
 |el id i off=>have h':=h;simp only[VR]at h';obtain⟨b,o,c,z,n,_,_,rfl⟩:=h';exact⟨Pw.cons h Pw.nil,by simp[Value.cells,bb]⟩
 |ip x off=>have h':=h;simp only[VR]at h';obtain⟨b,o,u,rfl,_⟩:=h';exact⟨Pw.cons h Pw.nil,by simp[Value.cells,bb]⟩
 |sl g z es=>have h':=h;simp only[VR]at h';obtain⟨a,c,us,rfl,_⟩:=h';exact⟨Pw.cons h Pw.nil,by simp[Value.cells,bb]⟩
 |arr id lo len z=>have h':=h;simp only[VR]at h';obtain⟨b,o,c,n,a,_,_,_,rfl,_⟩:=h';exact⟨Pw.cons h Pw.nil,by simp[Value.cells,bb]⟩
 |map id=>have h':=h;simp only[VR]at h';obtain⟨b,_,rfl⟩:=h';exact⟨Pw.cons h Pw.nil,by simp[Value.cells,bb]⟩
 |fn f cs=>have h':=h;simp only[VR]at h';obtain⟨c0,c,rfl,_⟩:=h';exact⟨Pw.cons h Pw.nil,by simp[Value.cells,bb]⟩
 |iface t d=>have h':=h;simp only[VR]at h';obtain⟨u,rfl,_⟩:=h';exact⟨Pw.cons h Pw.nil,by simp[Value.cells,bb]⟩
def qU:∀{ds:List D} {xs:LD} {us:List Value},iV ds=some xs->Pw (VR φ w S) ds us->Pw (PR w S) xs us
 |[],xs,us,h,hp=>by simp only[iV,lβ]at h;subst h;have:=hp.nil_inv;subst this;exact Pw.nil
 | .p x::r,xs,us,h,hp=>by
  simp only[iV]at h;split at h
  ·rename_i ys hy;simp at h;subst h;obtain⟨u,us',rfl,h1,h2⟩:=hp.cons_inv;exact Pw.cons (by simpa only[VR]using h1) (qU hy h2)
  ·simp at h
 | .agg _::_,_,_,h,_=>by simp[iV]at h
 | .tup _::_,_,_,h,_=>by simp[iV]at h
 | .box _ _::_,_,_,h,_=>by simp[iV]at h
 | .el _ _ _::_,_,_,h,_=>by simp[iV]at h
 | .ip _ _::_,_,_,h,_=>by simp[iV]at h
 | .arr _ _ _ _::_,_,_,h,_=>by simp[iV]at h
 | .sl _ _ _::_,_,_,h,_=>by simp[iV]at h
 | .map _::_,_,_,h,_=>by simp[iV]at h
 | .fn _ _::_,_,_,h,_=>by simp[iV]at h
 | .iface _ _::_,_,_,h,_=>by simp[iV]at h
 | .junk::_,_,_,h,_=>by simp[iV]at h
variable {us:List Value}
def nW {ds:List D}(h:Pw (VR φ w S) ds us)(hs:∀c∈us,bb c):VR φ w S (yE ds) (.agg us.toArray):=by
 unfold yE;split
 ·rename_i xs hx;exact⟨us.toArray,rfl,PRs_iff.2 (by simpa using qU hx h),by omega⟩
 ·exact⟨us.toArray,rfl,VRs_iff.2 (by omega),by omega⟩
variable {off:Nat}
def EG {α:Type}{l:List α}{n:Nat}{r:List α}(h:sub l off n=some r):off+n<=l.length/\r=(l.drop off).take n:=by
 unfold sub at h;rw[ble_eq]at h;grind
structure gX (P:Program)(t:TypeId)(y:Ty):Prop where
 info:∃i,P.info? t=some i/\i.size=y.size/\i.bytes=y.bytes
 und:P.underlying t=some y.desc
 agg:y.agg=VG y.desc
 pos:0<y.size
variable {y:Ty}
def ek {t:TypeId}(h:ty P t=some y):gX P t y:=by
 unfold ty at h;split at h
 ·rename_i i d hi hd;rw[blt_eq]at h;by_cases hp:0<i.size
  ·simp[hp]at h;subst h;exact⟨⟨i,hi,rfl,rfl⟩,hd,rfl,hp⟩
  ·simp_all
 ·simp at h
def gX.cellsOf {t:TypeId}{y:Ty}(h:gX P t y):P.cellsOf t=y.size:=by
 obtain⟨i,hi,hs,_⟩:=h.info;simp[Program.cellsOf,hi,hs]
def gX.sizeOf {t:TypeId}{y:Ty}(h:gX P t y)(w:World):(Go.sizeOf t).run P w= .ok y.size w:=by
 obtain⟨i,hi,hs,_⟩:=h.info;simp[Go.sizeOf,typeInfo,hi,hs]
def gX.isAgg {t:TypeId}{y:Ty}(h:gX P t y)(w:World):(Go.isAgg t).run P w= .ok y.agg w:=by
 simp only[Go.isAgg,Sem.run_bind,run_underlying h.und,h.agg];cases y.desc<;>rfl
def dt (b o n:Nat):(⟨b,o,none⟩:Addr).add n=⟨b,o+n,none⟩:=by
 unfold Addr.add;simp
def I8 {t:TypeId}(ht:gX P t y){b o:Nat}{cs:List Value}(hl:cs.length=y.size)(h:∀(j:Nat) c,cs[j]?=some c->w.cell? ⟨b,o+j,none⟩=some c):
  (y.agg=true->(loadVar t ⟨b,o,none⟩).run P w= .ok (.agg cs.toArray) w)/\(y.agg=false->∀c,cs[0]?=some c->(loadVar t ⟨b,o,none⟩).run P w= .ok c w):=by
 constructor
 ·intro ha;have:=run_loadCells_list (P:=P) w ⟨b,o,none⟩ cs (fun j v hj=>by rw[dt];simp_all);simp only[loadVar,Sem.run_bind,ht.isAgg,Result.andThen_ok,ha,if_true,ht.sizeOf,<-hl,this,Sem.run_pure]
 ·intro ha c hc;have:=h 0 c hc;simp at this;simp only[loadVar,Sem.run_bind,ht.isAgg,Result.andThen_ok,ha,Bool.false_eq_true,if_false,run_load,this]
def qq {t:TypeId}(ht:gX P t y){b o:Nat}{ds:List D}(hp:Pw (VR φ w S) ds us)(hs:∀c∈us,bb c)(hl:us.length=y.size)(h:∀(j:Nat) c,us[j]?=some c->w.cell? ⟨b,o+j,none⟩=some c)(hd:eC y.agg ds=some d):
  ∃v,(loadVar t ⟨b,o,none⟩).run P w= .ok v w/\VR φ w S d v:=by
 obtain⟨h1,h2⟩:=I8 ht hl h;cases ha:y.agg with
 |true=>
  rw[ha]at hd;simp only[eC,cond_true,lβ]at hd;subst hd;exact⟨_,h1 ha,nW hp hs⟩
 |false=>
  rw[ha]at hd;simp only[eC,cond_false]at hd;split at hd
  ·rename_i x;simp only[lβ]at hd;subst hd;obtain⟨u,us',rfl,e1,e2⟩:=hp.cons_inv;exact⟨u,h2 ha u rfl,e1⟩
  ·simp at hd
def oR {n j:Nat}{c:Value}(h:((us.drop off).take n)[j]?=some c):us[off+j]?=some c:=by
 grind
def vQ {n:Nat}(h:∀c∈us,bb c):∀c∈(us.drop off).take n,bb c:=
 by grind
def wo {t:TypeId}(ht:gX P t y){b o:Nat}{e:Da}{u:Value}{ds:LD}(hu:PR w S e u)(hh:uE w b o u.cells)(hs:sub (cells e) off y.size=some ds)(hd:eC y.agg (ds.map .p)=some d):∃v,(loadVar t ⟨b,o+off,none⟩).run P w= .ok v w/\VR φ w S d v:=by
 obtain⟨hl,rfl⟩:=EG hs;obtain⟨h1,h2⟩:=fx hu;refine qq ht (us:=(u.cells.toList.drop off).take y.size) (Pw.map_left ?_) (vQ h2) ?_ ?_ hd
 ·exact((h1.drop off).take y.size).mono fun _ _ h=>by simpa only[VR]using h
 ·have:=h1.1;simp only[mε,mχ];omega
 ·intro j c hj;have:=oR hj;rw[Nat.add_assoc];exact hh _ c (by simpa using this)
end
end
section
variable [Letters]
structure Cx (G:bP)(a:Act)(φ:List cQ)(w:World)(S:Nat->Prop)(hp:List Ob)(tm:Tm):Prop where
 tmr:Rp φ w S tm a
 gr:GR G w S
 hr:HR φ w S hp
section
variable {P:Program} {G:bP} {o:Oper} {a:Act} {φ:List cQ} {w:World} {S:Nat->Prop} {hp:List Ob} {tm:Tm} {base:Nat}
def dH {id:Nat}{x:Ob}(h:aS hp id=x)(hx:x≠ .dead):hp[id]?=some x:=by
 unfold aS at h;rw[mξ]at h;cases hc:hp[id]? with
 |none=>rw[hc]at h;simp at h;exact absurd h.symm hx
 |some y=>rw[hc]at h;simp at h;rw[h]
variable {z:O×List A}
def dy {x:O}{r:Option A}(h:pa x r=some z):∃y,r=some y/\z=(x,[y]):=by
 unfold pa at h;split at h
 ·rename_i y;simp only[lβ]at h;exact⟨y,rfl,h.symm⟩
 ·simp at h
def iM {x:O}{r s:Option A}(h:two x r s=some z):∃y u,r=some y/\s=some u/\z=(x,[y,u]):=by
 unfold two at h;split at h
 ·rename_i y u;simp only[lβ]at h;exact⟨y,u,rfl,rfl,h.symm⟩
 ·simp at h
variable {d d':D} {ups:List (Nat×Ob)} {new:List Ob}
def kX (h:val d=some (d',ups,new)):d'=d/\ups=[]/\new=[]:=by
 simp only[val,lβ,lτ]at h;exact⟨h.1.symm,h.2.1.symm,h.2.2.symm⟩
def Ji {r:Option Da}(h:kf r=some (d',ups,new)):∃x,r=some x/\d'= .p x/\ups=[]/\new=[]:=by
 unfold kf at h;split at h
 ·rename_i x;simp only[lβ,lτ]at h;exact⟨x,rfl,h.1.symm,h.2.1.symm,h.2.2.symm⟩
 ·simp at h
def aD (cx:Cx G a φ w S hp tm)(h:val d=some (d',ups,new)){v:Value}(hrun:(execOp a.eval o).run P w= .ok (.value v) w)(hv:VR φ w S d v):
  EffOk P o a φ w S hp base d' (grow (aw hp ups) new):=by
 obtain⟨rfl,rfl,rfl⟩:=kX h;exact EffOk.value cx.hr hrun hv
def ir (cx:Cx G a φ w S hp tm){r:Option Da}(h:kf r=some (d',ups,new))(hrun:∀x,r=some x->∃v,(execOp a.eval o).run P w= .ok (.value v) w/\PR w S x v):
  EffOk P o a φ w S hp base d' (grow (aw hp ups) new):=by
 obtain⟨x,rfl,rfl,rfl,rfl⟩:=Ji h;obtain⟨v,h1,h2⟩:=hrun x rfl;exact EffOk.value cx.hr h1 (by simpa only[VR]using h2)
def UV (cx:Cx G a φ w S hp tm){t:TypeId}{x:Operand}{y:Ty}{ax:A}(ho:o.op= .load t x)(ht:ty P t=some y){tx:TypeId}(hx:cA P G tx x=some ax)(h:gn y.size y.agg [ev tm ax] ((bB (.load y.size y.agg) [ev tm ax] hp).map (aS hp))=some (d,ups,new)):EffOk P o a φ w S hp base d (grow (aw hp ups) new):=by
 have hv:=aZ cx.tmr cx.gr hx;have ht:=ek ht;have hex:∀b off v,a.eval x= .pointer (some ⟨b,off,none⟩)->(loadVar t ⟨b,off,none⟩).run P w= .ok v w->(execOp a.eval o).run P w= .ok (.value v) w:=by
  intro b off v e1 e2;simp[execOp,ho,e1,Instr.loadAt,Instr.sureAddr,e2]
 generalize ev tm ax=dx at*
 unfold gn at h;split at h
 ·rename_i id off heq;simp only[lω,and_true]at heq;subst heq;simp only[bB,dids,List.map_cons,List.map_nil]at h;split at h
  ·rename_i cs hcs;simp only[lω,and_true]at hcs;have hob:=dH hcs (by simp);simp only[VR]at hv;obtain⟨b,hb,hv⟩:=hv;obtain⟨vs,t',fz,h1,h2,h3,h4,_⟩:=cx.hr.obj id _ _ hb hob;split at h
   ·rename_i ds hds;split at h
    ·rename_i d0 hd0;obtain⟨hl,rfl⟩:=EG hds;obtain⟨v,e1,e2⟩:=qq ht (b:=b) (o:=off) ((h3.drop off).take y.size) (vQ h4) (by have:=h3.1;simp only[mε,mχ];omega)
      (fun j c hj=>by
       have:=oR hj;simp only[World.cell?,h1];simpa using this) hd0
     exact aD cx h (hex _ _ _ hv e1) e2
    ·simp at h
   ·simp at h
  ·simp at h
 ·rename_i id i off heq;simp only[lω,and_true]at heq;subst heq;simp only[bB,dids,List.map_cons,List.map_nil]at h;simp only[VR]at hv;obtain⟨b,o',cap,z,n,hb,hi,hv⟩:=hv;split at h
  ·rename_i es hcs;simp only[lω,and_true]at hcs;have hob:=dH hcs (by simp);obtain⟨h1,h2,h3,us,h4,h5⟩:=cx.hr.obj id _ _ hb hob;split at h
   ·rename_i e he;obtain⟨u,hu,hr⟩:=h4.get he;split at h
    ·rename_i ds hds;split at h
     ·rename_i d0 hd0;obtain⟨v,e1,e2⟩:=wo ht hr (h5 i u hu).2 hds hd0;exact aD cx h (hex _ _ _ hv e1) e2
     ·simp at h
    ·simp at h
   ·simp at h
  ·rename_i es hcs;simp only[lω,and_true]at hcs;have hob:=dH hcs (by simp);obtain⟨h1,h2,h3,us,h4,h5⟩:=cx.hr.obj id _ _ hb hob;split at h
   ·rename_i e he;obtain⟨u,hu,hr⟩:=h4.get he;split at h
    ·rename_i ds hds;split at h
     ·rename_i d0 hd0;obtain⟨v,e1,e2⟩:=wo ht hr (h5 i u hu).2 hds hd0;exact aD cx h (hex _ _ _ hv e1) e2
     ·simp at h
    ·simp at h
   ·simp at h
  ·simp at h
 ·rename_i x' off heq;simp only[lω,and_true]at heq;subst heq;simp only[VR]at hv;obtain⟨b,o',u,hv,hb,hr,hh⟩:=hv;split at h
  ·rename_i ds hds;split at h
   ·rename_i d0 hd0;obtain⟨v,e1,e2⟩:=wo ht hr hh hds hd0;exact aD cx h (hex _ _ _ hv e1) e2
   ·simp at h
  ·simp at h
 ·rename_i x' heq;simp only[lω,and_true]at heq;subst heq;simp only[VR,PR]at hv;obtain⟨b,o',u,hv,hb,hr,hh⟩:=hv;split at h
  ·rename_i ds hds;split at h
   ·rename_i d0 hd0;obtain⟨v,e1,e2⟩:=wo ht hr hh hds hd0;exact aD cx h (hex _ _ _ (by simpa using hv) e1) e2
   ·simp at h
  ·simp at h
 ·simp at h
end
end
section
variable [Letters]
section
variable {P:Program} {G:bP} {o:Oper} {a:Act} {φ:List cQ} {w:World} {S:Nat->Prop} {hp:List Ob} {tm:Tm} {base:Nat}
def aI {t:TypeId}{d:TypeDesc}(h:und P t=d)(hd:d≠ .invalid):P.underlying t=some d:=by
 unfold und at h;cases hu:P.underlying t with
 |none=>rw[hu]at h;simp at h;exact absurd h.symm hd
 |some e=>rw[hu]at h;simp at h;rw[h]
variable {tx:TypeId} {ax:A} {d:D} {ups:List (Nat×Ob)} {new:List Ob}
def UZ (cx:Cx G a φ w S hp tm){x:Operand}(ho:o.op= .move x\/o.op= .assign x)(hx:cA P G tx x=some ax)(h:d_ [ev tm ax]=some (d,ups,new)):EffOk P o a φ w S hp base d (grow (aw hp ups) new):=by
 have hv:=aZ cx.tmr cx.gr hx;refine aD cx h (v:=a.eval x) ?_ hv;rcases ho with ho|ho<;>simp[execOp,ho]
def U0 (cx:Cx G a φ w S hp tm){c x y:Operand}{tc tY:TypeId}{ac ay:A}(ho:o.op= .pick c x y)(hc:cA P G tc c=some ac)(hx:cA P G tx x=some ax)(hy:cA P G tY y=some ay)(h:Bb [ev tm ac,ev tm ax,ev tm ay]=some (d,ups,new)):EffOk P o a φ w S hp base d (grow (aw hp ups) new):=by
 have h1:=aZ cx.tmr cx.gr hc;have h2:=aZ cx.tmr cx.gr hx;have h3:=aZ cx.tmr cx.gr hy;generalize ev tm ac=dc at*
 unfold Bb at h;split at h
 ·rename_i b x' y' heq;obtain⟨rfl,rfl,rfl⟩:=heq;simp only[VR,PR]at h1;refine aD cx h (v:=if b then a.eval x else a.eval y) ?_ ?_
  ·simp[execOp,ho,h1,asBool]
  all_goals grind
 ·simp at h
variable {k:Nat}
def KN {d:Nat}{t:TypeId}(hk:nC P t=some k){x y:Da}{v u:Value}(hx:PR w S x v)(hy:PR w S y u){b:Bool}(h:tD k x y=some b):(Op.equalIn (d+1) t v u).run P w= .ok b w:=by
 unfold nC at hk;split at hk
 ·split at hk<;>simp at hk<;>subst hk<;>rename_i hu
  ·simp only[tD]at h;split at h
   ·split at h
    ·rename_i hij;subst hij;subst hx hy;rw[run_equalIn_int w d t _ _ _ _ (aI hu (by simp)),<-Option.some.inj h,iu]
    ·cases h
   ·split at h
    ·rename_i c hb;unfold CN at hb;split at hb
     ·rename_i k a k' b' hsx hsy;split at hb
      ·rename_i hk;subst hk;obtain⟨n,rfl,hn⟩:=se hsx hx;obtain⟨m,rfl,hm⟩:=se hsy hy;obtain⟨e,he,hr⟩:=xN (show qY true (Vg (za a b'))=some (.bool c)from hb);have:=C9 (wD hn hm) he;rw[run_equalIn_int w d t _ _ _ _ (aI hu (by simp)),<-Option.some.inj h];simp at hr;rw[hr,this];grind
      ·cases hb
     ·cases hb
    ·cases h
  ·simp only[tD]at h;split at h
   ·obtain⟨a',rfl,rfl⟩:=hx;obtain⟨b',rfl,rfl⟩:=hy;rw[run_equalIn_string w d t _ _ (aI hu (by simp)),<-Option.some.inj h,C8,ByteArray.toList_eq,ByteArray.toList_eq]
   ·cases h
  ·simp only[tD]at h;split at h
   ·subst hx hy;rw[run_equalIn_bool' w d t _ _ (aI hu (by simp)),<-Option.some.inj h]
   ·cases h
 ·cases hk
def GM {t:TypeId}(hk:nC P t=some k):∃y,gX P t y/\y.agg=false:=by
 unfold nC at hk;split at hk
 ·rename_i y hy;refine⟨y,ek hy,?_⟩;have h:=ek hy;rw[h.agg];have hd:und P t=y.desc:=by unfold und;rw[h.und];rfl
  rw[hd]at hk;split at hk<;>first|(rename_i e;rw[e];rfl)|cases hk
 ·cases hk
def BU {t:TypeId}{y:Ty}(ht:gX P t y)(ha:y.agg=false){vs:Array Value}{off:Nat}{u:Value}(hc:vs[off]?=some u):(part t vs off).run P w= .ok u w:=by
 simp only[part,Sem.run_bind,ht.isAgg,Result.andThen_ok,ha,Bool.false_eq_true,if_false,hc,Sem.run_pure]
def ri {d:Nat}{vs us:Array Value}{xs0 ys0:LD}(hx:Pw (PR w S) xs0 vs.toList)(hy:Pw (PR w S) ys0 us.toList):∀(fs:List Field) (n:Nat) (ks:LN),qh P fs n=some ks->∀{b:Bool},gH ks (xs0.drop n) (ys0.drop n)=some b->(Op.eqFields (d+1) vs us fs).run P w= .ok b w
 |[],n,ks,hk,b,h=>by
  simp only[qh,lβ]at hk;subst hk;simp only[gH,lβ]at h;subst h;rfl
 |f::r,n,ks,hk,b,h=>by
  simp only[qh]at hk;split at hk
  ·rename_i k hck;cases hq : (Nat.beq f.offset n && !(f.name == "_")) with
   |false=>simp_all
   |true=>
    rw[hq,cond_true]at hk;rw[lγ]at hq;have hn : f.name ≠ "_" := by
     simp_all
    split at hk
    ·rename_i ks' hks;simp at hk;subst hk;cases hxn:xs0.drop n with
     |nil=>rw[hxn]at h;simp[gH]at h
     |cons x xs=>
      cases hyn:ys0.drop n with
      |nil=>rw[hxn,hyn]at h;simp[gH]at h
      |cons y ys=>
       have ex:xs0[n]?=some x:=by rw[<-Nat.add_zero n,<-List.getElem?_drop,hxn];rfl
       have ey:ys0[n]?=some y:=by rw[<-Nat.add_zero n,<-List.getElem?_drop,hyn];rfl
       have ex':xs0.drop (n+1)=xs:=by rw[<-mω,hxn];rfl
       have ey':ys0.drop (n+1)=ys:=by rw[<-mω,hyn];rfl
       obtain⟨v,hv,pv⟩:=hx.get ex;obtain⟨u,hu,pu⟩:=hy.get ey;obtain⟨yt,ht,ha⟩:=GM hck;have p1:=BU (w:=w) ht ha (vs:=vs) (off:=f.offset) (u:=v) (by simp_all);have p2:=BU (w:=w) ht ha (vs:=us) (off:=f.offset) (u:=u) (by simp_all);rw[hxn,hyn]at h;simp only[gH]at h;split at h
       ·rename_i c hc;have p3:=KN (d:=d) hck pv pu hc;simp only[Op.eqFields,hn,ne_eq,not_false_eq_true,if_true,Sem.run_bind,p1,p2,p3,Result.andThen_ok];cases c with
        |false=>
         simp_all
        |true=>
         exact ri hx hy r (n+1) ks' hks (by simp_all)
       ·cases h
    ·cases hk
  ·cases hk
def Uc {op:BinOp}{t:TypeId}{X Y:Operand}{fs:Array Field}{ks:LN}(hu:P.underlying t=some (.struct fs))(hk:qh P fs.toList 0=some ks)(hp1:P.stoodInHeld t=false)(hp2:P.eqGuardType P.depth t=false){x y:D}{v u:Value}{r:Da}(hx:VR φ w S x v)(hy:VR φ w S y u)(h:binS ks op x y=some r):
  ∃z,(do eqGuard op t X Y v u;binOp op t v u).run P w= .ok z w/\PR w S r z:=by
 unfold binS at h;split at h
 ·obtain⟨vs,rfl,px,_⟩:=hx;obtain⟨us,rfl,py,_⟩:=hy;have hg:=run_eqGuard_agg w op t X Y vs us hp2;have hf:P.fieldsOf t=fs:=by unfold Program.fieldsOf;rw[hu]
  split at h
  ·rename_i b hb;have he:(Op.equalIn 10000 t (.agg vs) (.agg us)).run P w= .ok b w:=by
    rw[run_equalIn_struct w 9999 t vs us (by simp_all) hp1,hf];exact ri (d:=9998) (PRs_iff.1 px) (PRs_iff.1 py) fs.toList 0 ks hk (by simp_all)
   split at h
   ·simp at h;subst h;exact⟨.bool b,by simp only[Sem.run_bind,hg,Result.andThen_ok,run_eql_struct,he],by rfl⟩
   ·simp at h;subst h;exact⟨.bool (!b),by simp only[Sem.run_bind,hg,Result.andThen_ok,run_neq_struct,he],by rfl⟩
   ·cases h
  ·cases h
 ·cases h
def Y0 (cx:Cx G a φ w S hp tm){op:BinOp}{t yt:TypeId}{x y:Operand}{q:O}{ay:A}(ho:o.op= .binOp op t x y yt)(hq:Uk P op t x y=some q)(hx:cA P G t x=some ax)(hy:cA P G t y=some ay){call:aG}{len:Nat}{ids:LN}{obs:List Ob}(h:oX call base q k [ev tm ax,ev tm ay] ids obs len=some (d,ups,new)):EffOk P o a φ w S hp base d (grow (aw hp ups) new):=by
 have h1:=aZ cx.tmr cx.gr hx;have h2:=aZ cx.tmr cx.gr hy;have hex:∀z,(do eqGuard op t x y (a.eval x) (a.eval y);binOp op t (a.eval x) (a.eval y)).run P w= .ok z w->(execOp a.eval o).run P w= .ok (.value z) w:=by
  intro z hz;simp only[execOp,ho];simp only[Sem.run_bind]at hz ⊢
  rw[hz];rfl
 have kbin:q= .bin op->EffOk P o a φ w S hp base d (grow (aw hp ups) new):=by
  rintro rfl
  exact ir cx h fun r hr=>by
   obtain⟨z,e1,e2⟩:=Yq (P:=P) (t:=t) (X:=x) (Y:=y) h1 h2 hr;simp_all
 have kB:P.underlying t=some .bool->q= .binB op->EffOk P o a φ w S hp base d (grow (aw hp ups) new):=by
  rintro hu rfl
  exact ir cx h fun r hr=>by
   obtain⟨z,e1,e2⟩:=T9 (P:=P) (t:=t) (X:=x) (Y:=y) hu h1 h2 hr;simp_all
 have kN:∀kd,Z7 P kd t x y->q= .binN kd op->EffOk P o a φ w S hp base d (grow (aw hp ups) new):=by
  rintro kd hk rfl
  exact ir cx h fun r hr=>by
   obtain⟨z,e1,e2⟩:=GF (P:=P) (t:=t) (X:=x) (Y:=y) hk h1 h2 hr;simp_all
 have kP:∀e,P.underlying t=some (.pointer e)->N5 P op e=true->q= .pne->EffOk P o a φ w S hp base d (grow (aw hp ups) new):=by
  rintro e hu hn rfl
  unfold N5 at hn;split at hn
  ·obtain⟨j,hj⟩:=Option.isSome_iff_exists.1 hn;exact ir cx h fun r hr=>by
    obtain⟨z,e1,e2⟩:=LP (P:=P) (t:=t) (X:=x) (Y:=y) hu hj h1 h2 hr;simp_all
  ·cases hn
 have kS:∀fs ks,P.underlying t=some (.struct fs)->qh P fs.toList 0=some ks->P.stoodInHeld t=false->P.eqGuardType P.depth t=false->q= .binS ks op->EffOk P o a φ w S hp base d (grow (aw hp ups) new):=by
  rintro fs ks hu hk hp1 hp2 rfl
  exact ir cx h fun r hr=>by
   obtain⟨z,e1,e2⟩:=Uc (P:=P) (t:=t) (X:=x) (Y:=y) hu hk hp1 hp2 h1 h2 hr;simp_all
 unfold Uk at hq;cases he:aan op with
 |true=>
  simp only[he,cond_true]at hq;split at hq
  ·simp_all
  ·simp_all
  ·rename_i hu;simp at hq;exact kB (aI hu (by simp)) hq.symm
  ·rename_i e hu;cases hpn:N5 P op e with
   |true=>simp only[hpn,lβ]at hq;exact kP e (aI hu (by simp)) hpn hq.symm
   |false=>simp only[hpn,lβ]at hq;exact kN 0 (.inl ⟨rfl,e,aI hu (by simp)⟩) hq.symm
  ·rename_i e hu;simp at hq;exact kN 1 (.inr (.inl ⟨rfl,e,aI hu (by simp)⟩)) hq.symm
  ·rename_i k e hu;simp at hq;exact kN 2 (.inr (.inr (.inl ⟨rfl,k,e,aI hu (by simp)⟩))) hq.symm
  ·rename_i x1 x2 x3 hu;simp at hq;exact kN 3 (.inr (.inr (.inr (.inl ⟨rfl,_,_,_,aI hu (by simp)⟩)))) hq.symm
  ·rename_i ms hu;cases hc:(iw x||iw y)with
   |true=>simp only[hc,cond_true,lβ]at hq;exact kN 4 (.inr (.inr (.inr (.inr ⟨rfl,hc,ms,aI hu (by simp)⟩)))) hq.symm
   |false=>simp_all
  ·rename_i fs hu;split at hq
   ·rename_i ks hk;cases h1':P.stoodInHeld t<;>cases h2':P.eqGuardType P.depth t<;>simp only[h1',h2',Bool.not_true,Bool.not_false,Bool.and_true,Bool.and_false,cond_true,cond_false,lβ,reduceCtorEq]at hq;exact kS fs ks (aI hu (by simp)) hk h1' h2' hq.symm
   ·grind
  ·grind
 |false=>
  grind
def U3 (cx:Cx G a φ w S hp tm){op:UnOp}{t:TypeId}{x:Operand}(ho:o.op= .unOp op t x)(hx:cA P G tx x=some ax)(h:aUn op [ev tm ax]=some (d,ups,new)):EffOk P o a φ w S hp base d (grow (aw hp ups) new):=by
 have h1:=aZ cx.tmr cx.gr hx;exact ir cx h fun r hr=>by
  obtain⟨z,e1,e2⟩:=Ϲ (P:=P) h1 hr;exact⟨z,by simp[execOp,ho,e1],e2⟩
def Qa (cx:Cx G a φ w S hp tm){x:Operand}(ho:o.op= .nilCheck x)(hx:cA P G tx x=some ax)(h:pY [ev tm ax]=some (d,ups,new)):EffOk P o a φ w S hp base d (grow (aw hp ups) new):=by
 have h1:=aZ cx.tmr cx.gr hx;simp only[pY]at h;cases hn:DP (ev tm ax)with
 |false=>simp_all
 |true=>
  simp only[hn,cond_true]at h;refine aD cx h (v:=a.eval x) ?_ h1;rcases Ln hn h1 with⟨p,e⟩|⟨f,fs,cs,e⟩|⟨t,v,e⟩<;>simp[execOp,ho,e]
def ŵ (cx:Cx G a φ w S hp tm){s:TypeId}{x:Operand}{i:Nat}{fs:Array Field}{f:Field}{y:Ty}(ho:o.op= .fieldAddr s x i)(hs:und P s= .struct fs)(hf:fs[i]?=some f)(ht:ty P f.type=some y)(hx:cA P G tx x=some ax)(h:Ŀ f.offset [ev tm ax]=some (d,ups,new)):EffOk P o a φ w S hp base d (grow (aw hp ups) new):=by
 have h1:=aZ cx.tmr cx.gr hx;have hu:=aI hs (by simp);have hty:=ek ht;have hex:∀b off,a.eval x= .pointer (some ⟨b,off,none⟩)->(execOp a.eval o).run P w= .ok (.value (.pointer (some ⟨b,off+f.offset,none⟩))) w:=by
  intro b off e;have hne:¬y.size=0:=by have:=hty.pos;omega
  simp[execOp,ho,e,Instr.fieldAt,run_underlying hu,hf,Instr.sureAddr,fieldPlace,hty.sizeOf,hne,dt]
 generalize ev tm ax=dx at*
 unfold Ŀ at h;split at h
 ·rename_i id off heq;simp at heq;subst heq;obtain⟨b,hb,hv⟩:=h1;exact aD cx h (hex _ _ hv) (by simp only[VR];simp_all)
 ·rename_i id i' off heq;simp at heq;subst heq;obtain⟨b,o',cap,z,n,hb,hi,hv⟩:=h1;exact aD cx h (hex _ _ hv) (by simp only[VR];grind)
 ·rename_i x' off heq;simp at heq;subst heq;obtain⟨b,o',u,hv,hb,hr,hh⟩:=h1;exact aD cx h (hex _ _ hv) (by simp only[VR];grind)
 ·rename_i x' heq;simp at heq;subst heq;obtain⟨b,o',u,hv,hb,hr,hh⟩:=h1;exact aD cx h (hex _ _ hv) (by simp only[VR];grind)
 ·simp at h
end
end
section
variable [Letters]
section
variable {P:Program} {G:bP} {o:Oper} {a:Act} {φ:List cQ} {w:World} {S:Nat->Prop} {hp:List Ob} {tm:Tm} {base:Nat} {d:D} {ups:List (Nat×Ob)} {new:List Ob}
variable {tx:TypeId} {ax:A}
def UU (cx:Cx G a φ w S hp tm){s t:TypeId}{x:Operand}{q:O}(ho:o.op= .convert s t x)(hq:qZ P s t=some q)(hx:cA P G tx x=some ax){call:aG}{k len:Nat}{ids:LN}{obs:List Ob}(h:oX call base q k [ev tm ax] ids obs len=some (d,ups,new))(hn:q≠ .b2s/\q≠ .s2b/\q≠ .uns):EffOk P o a φ w S hp base d (grow (aw hp ups) new):=by
 have h1:=aZ cx.tmr cx.gr hx;unfold qZ at hq;split at hq
 ·rename_i k1 k2 hu1 hu2;simp at hq;subst hq;simp only[oX]at h;generalize ev tm ax=dx at*
  unfold MW at h;split at h
  ·rename_i kk n heq;simp at heq;subst heq;simp only[VR,PR]at h1;refine aD cx h (v:= .int k2 (k2.wrap n)) ?_ (by simp[VR,PR,gV]);simp[execOp,ho,convert,run_underlying (aI hu1 (by simp)),run_underlying (aI hu2 (by simp)),h1,Conv.intToInt]
  ·rename_i kk s heq;simp at heq;subst heq;obtain⟨n,h1,hn⟩:=h1;cases hm:Ç k2 s with
   |none=>rw[hm]at h;cases h
   |some r=>
    rw[hm]at h;obtain⟨e1,e2⟩:=qt (w:=w) (S:=S) hn hm;refine aD cx h (v:= .int k2 n) ?_ (by simpa only[VR]using e2);simp[execOp,ho,convert,run_underlying (aI hu1 (by simp)),run_underlying (aI hu2 (by simp)),h1,Conv.intToInt,e1]
  ·simp at h
 ·rename_i hu1 hu2;simp at hq;subst hq;simp only[oX]at h;generalize ev tm ax=dx at*
  unfold MY at h;split at h
  ·rename_i s' heq;simp at heq;subst heq;have h1':=h1;obtain⟨b,hb,rfl⟩:=h1;refine aD cx h (v:= .string b) ?_ (hb▸h1');simp[execOp,ho,convert,run_underlying (aI hu1 (by simp)),run_underlying (aI hu2 (by simp)),hb]
  ·simp at h
 all_goals grind
def UX (cx:Cx G a φ w S hp tm){t:TypeId}{x:Operand}(ho:o.op= .makeInterface t x)(hu:∃e,P.underlying t=some e/\∀ms,e≠ .interface ms)(hx:cA P G tx x=some ax)(h:Gv t [ev tm ax]=some (d,ups,new)):EffOk P o a φ w S hp base d (grow (aw hp ups) new):=by
 have h1:=aZ cx.tmr cx.gr hx;obtain⟨e,hu,hne⟩:=hu;have hex:(execOp a.eval o).run P w= .ok (.value (.iface t (a.eval x))) w:=by
  simp only[execOp,ho,Instr.makeInterface,Sem.run_bind,run_underlying hu,Result.andThen_ok];cases e<;>first
   |rfl
   |(rename_i ms;exact absurd rfl (hne ms))
 generalize ev tm ax=dx at*
 unfold Gv at h;split at h
 ·rename_i x' heq;simp only[lω,and_true]at heq;subst heq;exact aD cx h hex (by simp only[VR,PR]at h1 ⊢;exact⟨_,rfl,h1⟩)
 ·rename_i d' _ heq;simp only[lω,and_true]at heq;subst heq;exact aD cx h hex (by simp only[VR]at h1 ⊢;exact⟨_,rfl,h1⟩)
 ·simp at h
def UW (cx:Cx G a φ w S hp tm){f:FuncId}{first captured:Array Operand}{ts:List TypeId}{as:List A}(ho:o.op= .makeFunc (.func f) first captured)(hf:f<1000000)(hx:nb P G ts (first.toList++captured.toList)=some as)
  (h:Gu (f+1000000*first.size) (as.map (ev tm))=some (d,ups,new)):EffOk P o a φ w S hp base d (grow (aw hp ups) new):=by
 have h1:=cY cx.tmr cx.gr hx;have hF:zM (f+1000000*first.size)=f:=(show ∀f k:Nat,f<1000000->(f+1000000*k) % 1000000=f by simp) f _ hf;have hK:Đ (f+1000000*first.size)=first.size:=(show ∀f k:Nat,f<1000000->(f+1000000*k) / 1000000=k by omega) f _ hf
 have hex:(execOp a.eval o).run P w= .ok (.value (.func (.func f) (first.map a.eval) (captured.map a.eval))) w:=by
  simp[execOp,ho,Instr.makeFunc]
 unfold Gu at h;split at h
 ·rename_i xs hxs;exact aD cx h hex (by exact⟨_,_,by rw[hF],by simp_all,PRs_iff.2 (by simpa using qU hxs h1)⟩)
 ·exact aD cx h hex (by exact⟨_,_,by rw[hF],by simp_all,VRs_iff.2 (by simp_all)⟩)
def DD (vs:Array Value)(off n:Nat):(vs.extract off (off+n)).toList=(vs.toList.drop off).take n:=by
 simp
variable {y:Ty}
def y0 {t:TypeId}(ht:gX P t y){vs:Array Value}{off:Nat}{ds:List D}(hp:Pw (VR φ w S) ds vs.toList)(hs:∀c∈vs.toList,bb c){es:List D}(h1:sub ds off y.size=some es)(h2:eC y.agg es=some d):
  ∃v,(part t vs off).run P w= .ok v w/\VR φ w S d v:=by
 obtain⟨hl,rfl⟩:=EG h1;have hps:=(hp.drop off).take y.size;cases ha:y.agg with
 |true=>
  rw[ha]at h2;simp only[eC,cond_true,lβ]at h2;subst h2;refine⟨.agg (vs.extract off (off+y.size)),?_,?_⟩
  ·simp only[part,Sem.run_bind,ht.isAgg,Result.andThen_ok,ha,if_true,ht.sizeOf,Sem.run_pure]
  ·have:=nW hps (vQ hs);rwa [<-DD,Array.toArray_toList]at this
 |false=>
  rw[ha]at h2;simp only[eC,cond_false]at h2;split at h2
  ·rename_i x heq;simp at h2;subst h2;rw[heq]at hps;obtain⟨u,us',e0,e1,_⟩:=hps.cons_inv;have hc:vs[off]?=some u:=by
    have:((vs.toList.drop off).take y.size)[0]?=some u:=by grind
    grind
   refine⟨u,?_,e1⟩;simp only[part,Sem.run_bind,ht.isAgg,Result.andThen_ok,ha,Bool.false_eq_true,if_false,hc,Sem.run_pure]
  ·grind
def Y6 (cx:Cx G a φ w S hp tm){s:TypeId}{x:Operand}{i:Nat}{fs:Array Field}{f:Field}(ho:o.op= .field s x i)(hs:und P s= .struct fs)(hf:fs[i]?=some f)(ht:ty P f.type=some y)(hx:cA P G tx x=some ax)(h:Gq f.offset y.size y.agg [ev tm ax]=some (d,ups,new)):EffOk P o a φ w S hp base d (grow (aw hp ups) new):=by
 have h1:=aZ cx.tmr cx.gr hx;have hu:=aI hs (by simp);have hty:=ek ht;have hex:∀vs v,a.eval x= .agg vs->(part f.type vs f.offset).run P w= .ok v w->(execOp a.eval o).run P w= .ok (.value v) w:=by
  intro vs v e1 e2;simp[execOp,ho,e1,Instr.field,run_underlying hu,hf,asAgg,e2]
 generalize ev tm ax=dx at*
 unfold Gq at h;split at h
 ·rename_i cs heq;simp at heq;subst heq;obtain⟨vs,hv,hp1,hs1⟩:=h1;split at h
  ·rename_i ds hds;split at h
   ·rename_i d0 hd0;obtain⟨v,e1,e2⟩:=y0 hty (φ:=φ) (S:=S) (Pw.map_left ((PRs_iff.1 hp1).mono fun _ _ h=>by simpa only[VR]using h)) hs1 hds hd0;exact aD cx h (hex _ _ hv e1) e2
   ·simp at h
  ·simp at h
 ·rename_i cs heq;simp at heq;subst heq;obtain⟨vs,hv,hp1,hs1⟩:=h1;split at h
  ·rename_i ds hds;split at h
   ·rename_i d0 hd0;obtain⟨v,e1,e2⟩:=y0 hty (φ:=φ) (S:=S) (VRs_iff.1 hp1) hs1 hds hd0;exact aD cx h (hex _ _ hv e1) e2
   ·simp at h
  ·simp at h
 ·simp at h
def Y5 (cx:Cx G a φ w S hp tm){x:Operand}{i:Nat}(ho:o.op= .extract x i)(hx:cA P G tx x=some ax)(h:Ko i [ev tm ax]=some (d,ups,new)):EffOk P o a φ w S hp base d (grow (aw hp ups) new):=by
 have h1:=aZ cx.tmr cx.gr hx;generalize ev tm ax=dx at*
 unfold Ko at h;split at h
 ·rename_i ds heq;simp at heq;subst heq;obtain⟨vs,hv,hp1⟩:=h1;split at h
  ·rename_i d0 hd0;obtain⟨u,hu,hr⟩:=(VRs_iff.1 hp1).get hd0;refine aD cx h (v:=u) ?_ hr;have:vs[i]?=some u:=by simp_all
   simp[execOp,ho,hv,Instr.extract,this]
  ·simp at h
 ·simp at h
def CM {es:LD}{i:Int}{e:Da}(h:bI es i=some e):0<=i/\es[i.toNat]?=some e:=by
 unfold bI at h;rw[dY]at h;grind
variable {us:List Value}
def Ψ {es:LD}(hp:Pw (PR w S) es us){i:Int}{e:Da}(h:0<=i/\es[i.toNat]?=some e):i<us.length:=by
 obtain⟨u,hu,_⟩:=hp.get h.2;grind
variable {te:TypeId}
def K1 {t:TypeId}(hu:P.underlying t=some (.slice te))(ht:gX P te y){es:LD}{cap:Nat}{a':Option Addr}(hp:Pw (PR w S) es us)(hr:us≠[]->∃b o,a'=some ⟨b,o,none⟩/\S b/\rowAt w b o y.size us){k:IntKind}{i:Int}{e:Da}(h:0<=i/\es[i.toNat]?=some e):∃v,(Instr.indexAt t (.slice a' us.length cap) (.int k i)).run P w= .ok v w/\VR φ w S (.ip e 0) v:=by
 have hlt:=Ψ hp h;obtain⟨u,hu1,hu2⟩:=hp.get h.2;have hne:us≠[]:=by intro hh;simp[hh]at hu1
 obtain⟨b,o,rfl,hb,hrow⟩:=hr hne;refine⟨.pointer (some ⟨b,o+i.toNat*y.size,none⟩),?_,?_⟩
 ·simp only[Instr.indexAt,asIntOf,Sem.run_bind,Sem.run_pure,Result.andThen_ok,run_underlying hu];have h0:0<=i/\i<(us.length:Int):=⟨h.1,hlt⟩;simp[h0,ht.sizeOf,dt]
 ·simp only[VR];exact⟨b,o+i.toNat*y.size,u,by simp,hb,hu2,(hrow _ u hu1).2⟩
variable {ti:TypeId} {ai:A}
def Ŷ (cx:Cx G a φ w S hp tm){t:TypeId}{x i:Operand}(ho:o.op= .indexAddr t x i)(hs:und P t= .slice te)(ht:ty P te=some y)(hx:cA P G tx x=some ax)(hi:cA P G ti i=some ai)(h:MX y.size [ev tm ax,ev tm ai]=some (d,ups,new)):EffOk P o a φ w S hp base d (grow (aw hp ups) new):=by
 have h1:=aZ cx.tmr cx.gr hx;have h2:=aZ cx.tmr cx.gr hi;have hu:=aI hs (by simp);have hty:=ek ht;have hex:∀v,(Instr.indexAt t (a.eval x) (a.eval i)).run P w= .ok v w->(execOp a.eval o).run P w= .ok (.value v) w:=by
  intro v e;simp[execOp,ho,e]
 generalize ev tm ax=dx at*
 generalize ev tm ai=di at*
 unfold MX at h;split at h
 ·rename_i z es k n heq;obtain⟨rfl,rfl⟩:=heq;simp only[VR,PR]at h1 h2;rw[beq_eq]at h;by_cases hz:z=y.size
  ·simp only[hz,cond_true]at h;split at h
   ·rename_i e he;obtain⟨a',cap,us,hv,_,hp1,hr⟩:=h1;subst hz;obtain⟨v,e1,e2⟩:=K1 (φ:=φ) hu hty (k:=k) (PRs_iff.1 hp1) hr (CM he);exact aD cx h (hex v (by simp_all;omega)) e2
   ·simp at h
  ·simp_all
 ·rename_i z es k n heq;obtain⟨rfl,rfl⟩:=heq;simp only[VR,PR]at h1 h2;rw[beq_eq]at h;by_cases hz:z=y.size
  ·simp only[hz,cond_true]at h;split at h
   ·rename_i e he;obtain⟨⟨a',cap,us,hv,_,hp1,hr⟩,_⟩:=h1;subst hz;obtain⟨v,e1,e2⟩:=K1 (φ:=φ) hu hty (k:=k) (PRs_iff.1 hp1) hr (CM he);exact aD cx h (hex v (by simp_all;omega)) e2
   ·simp at h
  ·simp_all
 ·rename_i g z es k n heq;obtain⟨rfl,rfl⟩:=heq;simp only[VR,PR]at h1 h2;rw[beq_eq]at h;by_cases hz:z=y.size
  ·simp only[hz,cond_true]at h;split at h
   ·rename_i e he;obtain⟨a',cap,us,hv,_,_,hp1,hr⟩:=h1;subst hz;obtain⟨v,e1,e2⟩:=K1 (φ:=φ) hu hty (k:=k) (PRs_iff.1 hp1) hr (CM he);exact aD cx h (hex v (by simp_all;omega)) e2
   ·simp at h
  ·simp_all
 ·rename_i id lo len z k n heq;obtain⟨rfl,rfl⟩:=heq;rw[beq_eq,dY,fP]at h;by_cases hz:z=y.size/\0<=n/\n<(len:Int)
  ·obtain⟨hz,hn0,hn1⟩:=hz;simp only[hz,hn0,hn1,cond_true]at h;obtain⟨b,o',cap,nn,a',hb,hl,hc,hv,ha⟩:=h1;have hlt:lo<cap:=by omega
   have:=ha hlt;subst this;refine aD cx h (v:= .pointer (some ⟨b,o'+(lo+n.toNat)*z,none⟩)) (hex _ ?_) ?_
   ·rw[hv,h2];simp only[Instr.indexAt,asIntOf,Sem.run_bind,Result.andThen_ok,run_underlying hu];have h0:0<=n/\n<(len:Int):=⟨hn0,hn1⟩;simp[h0,hty.sizeOf,dt,hz,mκ,Nat.add_assoc]
   ·simp only[VR];grind
  all_goals grind
 ·simp at h
def Y7 (cx:Cx G a φ w S hp tm){t:TypeId}{n:Nat}{x i:Operand}(ho:o.op= .indexAddr t x i)(hs:und P t= .array n te)(ht:ty P te=some y)(hx:cA P G tx x=some ax)(hi:cA P G ti i=some ai)(h:Gr n y.size [ev tm ax,ev tm ai]=some (d,ups,new)):EffOk P o a φ w S hp base d (grow (aw hp ups) new):=by
 have h1:=aZ cx.tmr cx.gr hx;have h2:=aZ cx.tmr cx.gr hi;have hu:=aI hs (by simp);have hty:=ek ht;have hex:∀b off k j,a.eval x= .pointer (some ⟨b,off,none⟩)->a.eval i= .int k j->0<=j/\j<(n:Int)->(execOp a.eval o).run P w= .ok (.value (.pointer (some ⟨b,off+j.toNat*y.size,none⟩))) w:=by
  intro b off k j e1 e2 e3;simp only[execOp,ho,e1,e2,Instr.indexAt,asIntOf,Sem.run_bind,Result.andThen_ok,run_underlying hu,Instr.sureAddr];simp[e3,hty.sizeOf,dt]
 generalize ev tm ax=dx at*
 generalize ev tm ai=di at*
 unfold Gr at h;split at h
 ·rename_i id off k j heq;obtain⟨rfl,rfl⟩:=heq;rw[dY,fP]at h;by_cases hj:0<=j/\j<(n:Int)
  ·simp only[hj.1,hj.2,cond_true]at h;obtain⟨b,hb,hv⟩:=h1;exact aD cx h (hex _ _ _ _ hv h2 hj) (by simp only[VR];simp_all)
  all_goals grind
 ·rename_i x' off k j heq;obtain⟨rfl,rfl⟩:=heq;rw[dY,fP]at h;by_cases hj:0<=j/\j<(n:Int)
  ·simp only[hj.1,hj.2,cond_true]at h;obtain⟨b,o',u,hv,hb,hr,hh⟩:=h1;exact aD cx h (hex _ _ _ _ hv h2 hj) (by simp only[VR];grind)
  all_goals grind
 ·simp at h
def Y8 (cx:Cx G a φ w S hp tm){t:TypeId}{n:Nat}{x i:Operand}(ho:o.op= .index t x i)(hs:und P t= .array n te)(ht:ty P te=some y)(hx:cA P G tx x=some ax)(hi:cA P G ti i=some ai)(h:Kp n y.size y.agg [ev tm ax,ev tm ai]=some (d,ups,new)):EffOk P o a φ w S hp base d (grow (aw hp ups) new):=by
 have h1:=aZ cx.tmr cx.gr hx;have h2:=aZ cx.tmr cx.gr hi;have hu:=aI hs (by simp);have hty:=ek ht;have hex:∀vs v k j,a.eval x= .agg vs->a.eval i= .int k j->0<=j/\j<(n:Int)->(part te vs (j.toNat*y.size)).run P w= .ok v w->(execOp a.eval o).run P w= .ok (.value v) w:=by
  intro vs v k j e1 e2 e3 e4;simp only[execOp,ho,e1,e2,Instr.index,asIntOf,Sem.run_bind,run_underlying hu];simp[e3,hty.sizeOf,e4]
 generalize ev tm ax=dx at*
 generalize ev tm ai=di at*
 unfold Kp at h;split at h
 ·rename_i cs k j heq;obtain⟨rfl,rfl⟩:=heq;obtain⟨vs,hv,hp1,hs1⟩:=h1;rw[dY,fP]at h;by_cases hj:0<=j/\j<(n:Int)
  ·simp only[hj.1,hj.2,cond_true]at h;split at h
   ·rename_i ds hds;split at h
    ·rename_i d0 hd0;obtain⟨v,e1,e2⟩:=y0 hty (φ:=φ) (S:=S) (Pw.map_left ((PRs_iff.1 hp1).mono fun _ _ h=>by simpa only[VR]using h)) hs1 hds hd0;exact aD cx h (hex _ _ _ _ hv h2 hj e1) e2
    ·simp at h
   ·simp at h
  all_goals grind
 ·simp at h
def Ui {b:ByteArray}{i:Nat}{n:Nat}(h:(b.data.toList.map UInt8.toNat)[i]?=some n):∃c:UInt8,b[i]?=some c/\c.toNat=n:=by
 rw[lσ]at h;cases hc:b.data.toList[i]? with
 |none=>simp_all
 |some c=>
  rw[hc]at h;simp at h;refine⟨c,?_,h⟩;have h2:b.data[i]?=some c:=by simp_all
  have hlt:i<b.data.size:=by
   grind
  have hlt':i<b.size:=hlt;rw[getElem?_pos b i hlt'];rw[getElem?_pos b.data i hlt]at h2;exact h2
def ŷ (cx:Cx G a φ w S hp tm){t:TypeId}{x i:Operand}(ho:o.op= .index t x i)(hs:und P t= .string)(hx:cA P G tx x=some ax)(hi:cA P G ti i=some ai)(h:X8 [ev tm ax,ev tm ai]=some (d,ups,new)):EffOk P o a φ w S hp base d (grow (aw hp ups) new):=by
 have h1:=aZ cx.tmr cx.gr hx;have h2:=aZ cx.tmr cx.gr hi;have hu:=aI hs (by simp);generalize ev tm ax=dx at*
 generalize ev tm ai=di at*
 unfold X8 at h;split at h
 ·rename_i s k j heq;obtain⟨rfl,rfl⟩:=heq;simp only[VR,PR]at h1 h2;obtain⟨b,hb,rfl⟩:=h1;split at h
  ·rename_i n hn;rw[dY]at hn;by_cases hj:0<=j
   ·simp only[hj,cond_true]at hn;obtain⟨c,hc,rfl⟩:=Ui hn;refine aD cx h (v:= .int .u8 c.toNat) ?_ (by rfl);simp only[execOp,ho,hb,h2,Instr.index,asIntOf,Sem.run_bind,Sem.run_pure,Result.andThen_ok,run_underlying hu,hj,if_true,hc]
   ·simp_all
  ·simp at h
 ·simp at h
end
end
section
variable [Letters]
section
variable {P:Program} {G:bP} {o:Oper} {a:Act} {φ:List cQ} {w:World} {S:Nat->Prop} {hp:List Ob} {tm:Tm} {base:Nat} {d:D} {ups:List (Nat×Ob)} {new:List Ob}
def fJ {x:D}{v:Value}{y n c:Nat}(hv:VR φ w S x v)(h:lw x y=some n)(hc:y<=c)(code:BoundsCode):(Instr.sliceBound v c code).run P w= .ok n w/\n<=y:=by
 unfold lw at h;split at h
 ·rename_i k i;subst hv;rw[dY,dY]at h;by_cases hi:0<=i/\i<=(y:Int)
  ·simp only[hi.1,hi.2,decide_true,Bool.and_self,cond_true,lβ]at h;subst h;have h2:0<=i/\i<=(c:Int):=⟨hi.1,by omega⟩
   refine⟨?_,by omega⟩
   simp only[Instr.sliceBound,asIntOf,Sem.run_bind,Sem.run_pure,Result.andThen_ok,h2,and_self,if_true]
  all_goals grind
 ·simp at h
variable {lo hi mx:Option Operand} {cap:Nat} {xs:List D} {m:Nat}
def f6 {len:Nat}{l h:Nat}(hv:Pw (VR φ w S) xs ((vD lo hi mx).map a.eval))(hb:cz lo.isSome hi.isSome mx.isSome len xs=some (l,h,m))(hc:len<=cap)(s:Bool):
  (Instr.sliceBounds s len cap (lo.map a.eval) (hi.map a.eval) (mx.map a.eval)).run P w= .ok (l,h,if mx.isSome then m else cap) w/\l<=h/\h<=m/\m<=len:=by
 cases lo with
 |none=>cases hi with
  |none=>cases mx with
   |none=>
    obtain rfl:=lθ hv.1;obtain⟨rfl,rfl,rfl⟩:=hb;exact⟨by rfl,by omega,by omega,by omega⟩
   |some c=>
    simp only[cz,Option.isSome]at hb;simp_all
  |some b=>cases mx with
   |none=>
    cases xs with
    |nil=>simp[cz]at hb
    |cons x r=>
     have hr:=hv.tail;obtain rfl:r=[]:=lθ hr.1;have hx:=hv.head;simp only[cz,Option.isSome]at hb;split at hb
     ·rename_i n hn;obtain⟨rfl,rfl,rfl⟩:=hb;obtain⟨e1,e2⟩:=fJ (P:=P) hx hn hc (if s then .sliceAcap else .sliceAlen);exact⟨by simp[Instr.sliceBounds,e1],by omega,by omega,by omega⟩
     ·grind
   |some c=>
    simp only[vD,List.cons_append]at hv;obtain⟨x,r,e,hx,hr⟩:∃x r,xs=x::r/\VR φ w S x (a.eval b)/\Pw (VR φ w S) r [a.eval c]:=by
     cases xs with
     |nil=>have:=hv.1;grind
     |cons x r=>exact⟨x,r,rfl,hv.head,hv.tail⟩
    subst e;cases r with
    |nil=>have:=hr.1;grind
    |cons y r=>
     have hy:=hr.head;obtain rfl:r=[]:=lθ hr.tail.1;simp only[cz,Option.isSome]at hb;split at hb
     ·rename_i m' hm';split at hb
      ·rename_i n hn;obtain⟨rfl,rfl,rfl⟩:=hb;obtain⟨e1,e2⟩:=fJ (P:=P) hy hm' hc (if s then .slice3Acap else .slice3Alen);obtain⟨e3,e4⟩:=fJ (P:=P) hx hn (Nat.le_refl _) .slice3B;exact⟨by simp[Instr.sliceBounds,e1,e3],by omega,by omega,by omega⟩
      ·grind
     ·grind
 |some a'=>cases hi with
  |none=>cases mx with
   |none=>
    cases xs with
    |nil=>simp[cz]at hb
    |cons x r=>
     have hr:=hv.tail;obtain rfl:r=[]:=lθ hr.1;have hx:=hv.head;simp only[cz,Option.isSome]at hb;split at hb
     ·rename_i n hn;obtain⟨rfl,rfl,rfl⟩:=hb;obtain⟨e1,e2⟩:=fJ (P:=P) hx hn (Nat.le_refl _) .sliceB;exact⟨by simp[Instr.sliceBounds,e1],by omega,by omega,by omega⟩
     ·grind
   |some c=>
    simp only[cz,Option.isSome]at hb;simp_all
  |some b=>cases mx with
   |none=>
    simp only[vD,List.cons_append]at hv;obtain⟨x,r,e,hx,hr⟩:∃x r,xs=x::r/\VR φ w S x (a.eval a')/\Pw (VR φ w S) r [a.eval b]:=by
     cases xs with
     |nil=>have:=hv.1;grind
     |cons x r=>exact⟨x,r,rfl,hv.head,hv.tail⟩
    subst e;cases r with
    |nil=>have:=hr.1;grind
    |cons y r=>
     have hy:=hr.head;obtain rfl:r=[]:=lθ hr.tail.1;simp only[cz,Option.isSome]at hb;split at hb
     ·rename_i h' hh';split at hb
      ·rename_i n hn;obtain⟨rfl,rfl,rfl⟩:=hb;obtain⟨e1,e2⟩:=fJ (P:=P) hy hh' hc (if s then .sliceAcap else .sliceAlen);obtain⟨e3,e4⟩:=fJ (P:=P) hx hn (Nat.le_refl _) .sliceB;exact⟨by simp[Instr.sliceBounds,e1,e3],by omega,by omega,by omega⟩
      ·grind
     ·grind
   |some c=>
    simp only[vD,List.cons_append]at hv;obtain⟨x,r,e,hx,hr⟩:∃x r,xs=x::r/\VR φ w S x (a.eval a')/\Pw (VR φ w S) r [a.eval b,a.eval c]:=by
     cases xs with
     |nil=>have:=hv.1;grind
     |cons x r=>exact⟨x,r,rfl,hv.head,hv.tail⟩
    subst e;obtain⟨y,r',e,hy,hr'⟩:∃y r',r=y::r'/\VR φ w S y (a.eval b)/\Pw (VR φ w S) r' [a.eval c]:=by
     cases r with
     |nil=>have:=hr.1;grind
     |cons x r=>exact⟨x,r,rfl,hr.head,hr.tail⟩
    subst e;cases r' with
    |nil=>have:=hr'.1;grind
    |cons z r=>
     have hz:=hr'.head;obtain rfl:r=[]:=lθ hr'.tail.1;simp only[cz,Option.isSome]at hb;split at hb
     ·rename_i m' hm';split at hb
      ·rename_i h' hh';split at hb
       ·rename_i n hn;obtain⟨rfl,rfl,rfl⟩:=hb;obtain⟨e1,e2⟩:=fJ (P:=P) hz hm' hc (if s then .slice3Acap else .slice3Alen);obtain⟨e3,e4⟩:=fJ (P:=P) hy hh' (Nat.le_refl _) .slice3B;obtain⟨e5,e6⟩:=fJ (P:=P) hx hn (Nat.le_refl _) .slice3C;exact⟨by simp[Instr.sliceBounds,e1,e3,e5],by omega,by omega,by omega⟩
       ·grind
      ·grind
     ·grind
variable {ts:List TypeId}
def Qd (cx:Cx G a φ w S hp tm){t tx:TypeId}{x:Operand}{ax:A}{as:List A}(ho:o.op= .slice t x lo hi none)(hs:und P t= .string)(hx:cA P G tx x=some ax)(ha:nb P G ts (vD lo hi none)=some as)(h:mz lo.isSome hi.isSome (ev tm ax::as.map (ev tm))=some (d,ups,new)):EffOk P o a φ w S hp base d (grow (aw hp ups) new):=by
 have h1:=aZ cx.tmr cx.gr hx;have h2:=cY cx.tmr cx.gr ha;have hu:=aI hs (by simp);generalize ev tm ax=dx at*
 unfold mz at h;split at h
 ·rename_i s xs heq;obtain⟨rfl,rfl⟩:=heq;obtain⟨b,hb,rfl⟩:=h1;split at h
  ·rename_i l h' m hbd;have hlen:(b.data.toList.map UInt8.toNat).length=b.size:=by simp
   rw[hlen]at hbd;obtain⟨e1,e2,e3,e4⟩:=f6 (P:=P) (mx:=none) (cap:=b.size) h2 hbd (Nat.le_refl _) false;refine aD cx h (v:= .string (b.extract l h')) ?_ ?_
   ·simp at e1;simp[execOp,ho,Instr.sliceAt,Instr.slice,run_underlying hu,hb,e1]
   ·simp only[VR,PR];simp
  ·simp at h
 ·simp at h
variable {z:Nat} {us:List Value}
def kV {b o:Nat}(h:rowAt w b o z us)(l n:Nat):rowAt w b (o+l*z) z ((us.drop l).take n):=by
 intro i u hu;have:=oR hu;have h1:=h _ u this;grind
def PP {lo hi:Bool}{len:Nat}{l h:Nat}(hb:cz lo hi false len xs=some (l,h,m)):m=len:=by
 cases lo<;>cases hi<;>rcases xs with _|⟨a,_|⟨b,_|⟨c,r⟩⟩⟩<;>simp only[cz,lτ]at hb;all_goals grind
def oV {esz:Nat}{es:LD}(h:wF z esz es=true)(hne:es≠[]):z=esz:=by
 unfold wF at h;simp_all
variable {te:TypeId} {y:Ty} {b0:Option Addr}
def jH {t:TypeId}(hu:P.underlying t=some (.slice te))(ht:gX P te y){len l h:Nat}{low high max:Option Value}(hb:(Instr.sliceBounds true len cap low high max).run P w= .ok (l,h,m) w):
  (Instr.sliceAt t (.slice b0 len cap) low high max).run P w= .ok (.slice (if m=l then b0 else b0.map (·.add (l*y.size))) (h - l) (m - l)) w:=by
 simp[Instr.sliceAt,Instr.slice,run_underlying hu,hb,ht.sizeOf]
def ϲ {es:LD}(hp:Pw (PR w S) es us){l n:Nat}(h:(us.drop l).take n≠[]):us≠[]/\es≠[]:=by
 have:=hp.1;grind
def y6 {t:TypeId}(hu:P.underlying t=some (.slice te))(ht:gX P te y){es:LD}(hz:wF z y.size es=true)(hl:us.length<=cap)(hp:Pw (PR w S) es us)(hr:us≠[]->∃b o,b0=some ⟨b,o,none⟩/\S b/\rowAt w b o z us){l h:Nat}(hv:Pw (VR φ w S) xs ((vD lo hi mx).map a.eval))(hb:cz lo.isSome hi.isSome mx.isSome es.length xs=some (l,h,m)):
  ∃b1 cap1 us1,(Instr.sliceAt t (.slice b0 us.length cap) (lo.map a.eval) (hi.map a.eval) (mx.map a.eval)).run P w= .ok (.slice b1 us1.length cap1) w/\us1.length<=cap1/\Pw (PR w S) ((es.drop l).take (h - l)) us1/\
   (us1≠[]->∃b o,b1=some ⟨b,o,none⟩/\S b/\rowAt w b o z us1)/\(mx.isSome=true->cap1=m - l)/\(mx.isSome=false->cap1=cap - l)/\us1.length=h - l/\(b0=none->b1=none)/\m<=us.length/\(mx.isSome=false->m=us.length):=by
 rw[hp.1]at hb;obtain⟨e1,e2,e3,e4⟩:=f6 (P:=P) hv hb hl true;have hm:mx.isSome=false->m=us.length:=fun hmx=>PP (hmx▸hb)
 refine⟨(if(if mx.isSome=true then m else cap)=l then b0 else b0.map (·.add (l*y.size))),(if mx.isSome=true then m else cap) - l,(us.drop l).take (h - l),?_,?_,(hp.drop l).take _,?_,?_,?_,?_,?_,e4,hm⟩
 ·rw[jH hu ht e1];have:((us.drop l).take (h - l)).length=h - l:=by simp;omega
  rw[this]
 ·have:((us.drop l).take (h - l)).length=h - l:=by simp;omega
  rw[this];split<;>omega
 ·intro hne;obtain⟨hu1,he1⟩:=ϲ hp hne;obtain⟨b,o',rfl,hb1,hrow⟩:=hr hu1;have hzz:=oV hz he1;have hlen:0<((us.drop l).take (h - l)).length:=List.length_pos_iff.2 hne;have hlh:l<h:=by simp at hlen;omega
  refine⟨b,o'+l*z,?_,hb1,kV hrow _ _⟩;rw[if_neg (by split<;>omega)];simp[dt,hzz]
 ·intro hmx;simp[hmx]
 ·intro hmx;simp[hmx]
 ·simp;omega
 ·intro hn;subst hn;simp
variable {ids:LN}
def bC {id:Nat}{x:Ob}(h:eS (ids.zip (ids.map (aS hp))) id=x)(hx:x≠ .dead):hp[id]?=some x:=by
 induction ids with
 |nil=>simp[eS]at h;simp_all
 |cons i r ih=>
  simp only[List.map_cons,List.zip_cons_cons,eS]at h;rw[beq_eq]at h;by_cases hi:i=id
  ·subst hi;simp at h;exact dH h hx
  all_goals simp_all
def Qo (hr:HR φ w S hp){id b o' n lo:Nat}(hb:φ[id]?=some (.arr b o' cap z n))(h:nO (ids.zip (ids.map (aS hp))) id lo=true):lo<cap:=by
 unfold nO at h;split at h
 ·rename_i es hl;obtain⟨h0,h1,_⟩:=hr.obj id _ _ hb (bC hl (by simp));simp_all;omega
 ·rename_i es hl;obtain⟨h0,h1,_⟩:=hr.obj id _ _ hb (bC hl (by simp));simp_all;omega
 ·cases h
def U1 (cx:Cx G a φ w S hp tm){t tx:TypeId}{x:Operand}{ax:A}{as:List A}(ho:o.op= .slice t x lo hi mx)(hs:und P t= .slice te)(ht:ty P te=some y)(hx:cA P G tx x=some ax)(ha:nb P G ts (vD lo hi mx)=some as)(hm:mx=none\/∀id lo len z,ev tm ax≠ .arr id lo len z)(h:hD y.size lo.isSome hi.isSome mx.isSome (ev tm ax::as.map (ev tm)) ids (ids.map (aS hp))=some (d,ups,new)):EffOk P o a φ w S hp base d (grow (aw hp ups) new):=by
 have h1:=aZ cx.tmr cx.gr hx;have h2:=cY cx.tmr cx.gr ha;have hu:=aI hs (by simp);have hty:=ek ht;have hex:∀v,(Instr.sliceAt t (a.eval x) (lo.map a.eval) (hi.map a.eval) (mx.map a.eval)).run P w= .ok v w->(execOp a.eval o).run P w= .ok (.value v) w:=by
  intro v e;simp[execOp,ho,e]
 generalize ev tm ax=dx at*
 unfold hD at h;split at h
 ·rename_i z es xs heq;obtain⟨rfl,rfl⟩:=heq;obtain⟨b0,cap,us,hv,hl,hp1,hr⟩:=h1;cases hz:wF z y.size es with
  |false=>simp_all
  |true=>
   simp only[hz,cond_true]at h;split at h
   ·rename_i l h' m hbd;obtain⟨b1,cap1,us1,g1,g2,g3,g4,g5,g6,g7,g8,g9,g10⟩:=y6 hu hty hz hl (PRs_iff.1 hp1) hr h2 hbd;rw[<-hv]at g1;cases hc:(mx.isSome&&Nat.beq h' m)with
    |true=>
     simp only[hc,cond_true]at h;refine aD cx h (hex _ g1) ?_;exact⟨b1,cap1,us1,rfl,g2,by simp only[gt];simp_all,PRs_iff.2 g3,g4⟩
    |false=>
     simp only[hc,cond_false]at h;refine aD cx h (hex _ g1) ?_;exact⟨b1,cap1,us1,rfl,g2,PRs_iff.2 g3,g4⟩
   ·simp at h
 ·rename_i g z es xs heq;obtain⟨rfl,rfl⟩:=heq;obtain⟨b0,cap,us,hv,hl,htag,hp1,hr⟩:=h1;cases hz:wF z y.size es with
  |false=>simp_all
  |true=>
   simp only[hz,cond_true]at h;split at h
   ·rename_i l h' m hbd;obtain⟨b1,cap1,us1,g1,g2,g3,g4,g5,g6,g7,g8,g9,g10⟩:=y6 hu hty hz hl (PRs_iff.1 hp1) hr h2 hbd;rw[<-hv]at g1;have kex:∀(hq:cap1=us1.length),VR φ w S (.sl .exact z ((es.drop l).take (h' - l))) (.slice b1 us1.length cap1):=by
     intro hq;exact⟨b1,cap1,us1,rfl,g2,by exact hq,PRs_iff.2 g3,g4⟩
    have kp:VR φ w S (.p (.slice z ((es.drop l).take (h' - l)))) (.slice b1 us1.length cap1):=by
     exact⟨b1,cap1,us1,rfl,g2,PRs_iff.2 g3,g4⟩
    cases g with
    |nil=>
     obtain⟨hb0,hcap⟩:=htag;have hus:us=[]:=lθ (by omega);have he:es=[]:=lθ (by rw[(PRs_iff.1 hp1).1,hus];rfl);have hus1:us1=[]:=lθ (by simp_all);refine aD cx h (hex _ g1) ?_;subst hus1;refine⟨b1,cap1,[],rfl,by simp,?_,by rfl,by simp⟩
     simp only[gt];grind
    |exact=>
     rw[beq_eq]at h;by_cases hq:h'=m
     ·simp only[hq,cond_true]at h;refine aD cx h (hex _ g1) (hq▸kex ?_);simp only[gt]at htag;grind
     ·simp only[hq,cond_false]at h;exact aD cx h (hex _ g1) kp
    |some=>
     cases hc:(mx.isSome&&Nat.beq h' m)with
     |true=>
      simp only[hc,cond_true]at h;exact aD cx h (hex _ g1) (kex (by simp_all))
     |false=>
      simp only[hc,cond_false]at h;exact aD cx h (hex _ g1) kp
    |na=>
     cases hc:(mx.isSome&&Nat.beq h' m)with
     |true=>
      simp only[hc,cond_true]at h;exact aD cx h (hex _ g1) (kex (by simp_all))
     |false=>
      simp only[hc,cond_false]at h;exact aD cx h (hex _ g1) kp
   ·simp at h
 ·rename_i id lo0 len0 z xs heq;obtain⟨rfl,rfl⟩:=heq;rcases hm with rfl|hm
  ·obtain⟨b,o',cap,nn,b0,hb,hl,hcn,hv,hb0⟩:=h1;rw[beq_eq]at h;by_cases hz:z=y.size
   ·simp only[hz,cond_true]at h;split at h
    ·rename_i l h' m hbd;obtain⟨e1,e2,e3,e4⟩:=f6 (P:=P) (cap:=cap - lo0) h2 hbd (by omega) true;have e5:=jH hu hty (b0:=b0) e1;rw[<-hv]at e5;cases hcnd:lo.isSome&&!hi.isSome&&(Nat.beq l h'&&nO (ids.zip (ids.map (aS hp))) id lo0)with
     |true=>
      simp only[hcnd,cond_true]at h;simp at hcnd;have hlt:=Qo cx.hr hb hcnd.2.2;refine aD cx h (hex _ e5) ?_;refine⟨_,_,[],by rw[show h' - l=0 by omega];rfl,by simp,?_,by rfl,by simp⟩
      simp only[gt];grind
     |false=>
     simp only[hcnd,cond_false]at h;refine aD cx h (hex _ e5) ?_;simp;refine⟨b,o',cap,nn,_,hz▸hb,by omega,hcn,by rw[show cap - lo0 - l=cap - (lo0+l) by omega],?_⟩
     intro hlt;rw[if_neg (by omega),hb0 (by omega)];simp[dt,hz,mκ,Nat.add_assoc]
    ·simp at h
   ·simp_all
  all_goals grind
 ·simp at h
end
end
section
variable [Letters]
section
variable {P:Program} {G:bP} {o:Oper} {a:Act} {φ:List cQ} {w:World} {S:Nat->Prop} {hp:List Ob} {tm:Tm} {base:Nat} {d:D} {ups:List (Nat×Ob)} {new:List Ob}
def bJ {c:Call}{b:Builtin}(ho:o.op= .call c)(hc:c.callee= .builtin b):
  (execOp a.eval o).run P w=(builtin b c.argTypes o.type (c.args.map fun| .const _=>true|_=>false) (c.args.map a.eval)).run P w:=by
 simp only[execOp,ho,resolve,hc,Sem.run_bind,Sem.run_pure,Result.andThen_ok,invoke];rfl
variable {as:List A} {ts:List TypeId}
def s0 {c:Call}{x:D}(cx:Cx G a φ w S hp tm)(ha:nb P G ts c.args.toList=some as)(hv:as.map (ev tm)=[x]):∃v,c.args.map a.eval= #[v]/\VR φ w S x v:=by
 have h:=cY cx.tmr cx.gr ha;rw[hv]at h;obtain⟨u,us,e,h1,h2⟩:=h.cons_inv;obtain rfl:=h2.nil_inv;refine⟨u,?_,h1⟩;apply Array.ext';simpa using e
def CL {c:Call}{x y:D}(cx:Cx G a φ w S hp tm)(ha:nb P G ts c.args.toList=some as)(hv:as.map (ev tm)=[x,y]):∃v u,c.args.map a.eval= #[v,u]/\VR φ w S x v/\VR φ w S y u:=by
 have h:=cY cx.tmr cx.gr ha;rw[hv]at h;obtain⟨u,us,e,h1,h2⟩:=h.cons_inv;obtain⟨u',us',e',h3,h4⟩:=h2.cons_inv;obtain rfl:=h4.nil_inv;subst e';refine⟨u,u',?_,h1,h3⟩;apply Array.ext';simpa using e
def Ww {x:D}{v:Value}{n:Nat}(h:sc x=some n)(hv:VR φ w S x v):∃b c,v= .slice b n c:=by
 unfold sc at h;split at h<;>simp only[lβ,reduceCtorEq]at h<;>subst h
 ·simp only[VR,PR]at hv;obtain⟨b,c,us,rfl,_,hp,_⟩:=hv;rw[(PRs_iff.1 hp).1];exact⟨b,c,rfl⟩
 ·simp only[VR,PR]at hv;obtain⟨⟨b,c,us,rfl,_,hp,_⟩,_⟩:=hv;rw[(PRs_iff.1 hp).1];exact⟨b,c,rfl⟩
 ·simp only[VR]at hv;obtain⟨b,c,us,rfl,_,_,hp,_⟩:=hv;rw[(PRs_iff.1 hp).1];exact⟨b,c,rfl⟩
 ·simp only[VR]at hv;obtain⟨b,o',c,n,a',_,_,_,rfl,_⟩:=hv;exact⟨_,_,rfl⟩
def dq {r:Nat}{es:Array MapEntry}{c:Nat}(h:w.heap[r]?=some (.map es c)):(getObj r).run P w= .ok (.map es c) w:=by simp[getObj,Sem.run,h]
def CZ (cx:Cx G a φ w S hp tm){c:Call}{t:TypeId}{kd:Nat}(ho:o.op= .call c)(hc:c.callee= .builtin .len)(h0:c.argTypes[0]?=some t)(hu:(kd=0/\und P t= .string)\/(kd=1/\∃e,und P t= .slice e)\/(kd=2/\∃k e,und P t= .map k e))(ha:nb P G ts c.args.toList=some as)(h:PI kd (as.map (ev tm)) (bB (.len kd) (as.map (ev tm)) hp) ((bB (.len kd) (as.map (ev tm)) hp).map (aS hp))=some (d,ups,new)):EffOk P o a φ w S hp base d (grow (aw hp ups) new):=by
 have hex:∀v (n:Nat),c.args.map a.eval= #[v]->(Builtin.len_ c.argTypes o.type #[v]).run P w= .ok (goInt n) w->(execOp a.eval o).run P w= .ok (.value (goInt n)) w:=by
  intro v n e1 e2;rw[bJ ho hc,e1];simp[builtin,e2]
 have hgo:∀n:Nat,VR φ w S (.p (BB n)) (goInt n):=by intro n;simp[VR,PR,BB,goInt]
 unfold PI at h;split at h
 ·rename_i s heq;obtain⟨v,e1,e2⟩:=s0 cx ha heq;have he:und P t= .string:=by rcases hu with⟨_,h⟩|⟨h,_⟩|⟨h,_⟩<;>first|exact h|simp at h
  simp only[VR,PR]at e2;obtain⟨b,rfl,rfl⟩:=e2;refine aD cx h (hex _ (b.data.toList.map UInt8.toNat).length e1 ?_) (hgo _);simp[Builtin.len_,h0,run_underlying (aI he (by simp))]
 ·rename_i x heq;obtain⟨v,e1,e2⟩:=s0 cx ha heq;obtain⟨e,he⟩:∃e,und P t= .slice e:=by rcases hu with⟨h,_⟩|⟨_,h⟩|⟨h,_⟩<;>first|exact h|simp at h
  split at h
  ·rename_i n hn;obtain⟨b,c',rfl⟩:=Ww hn e2;refine aD cx h (hex _ n e1 ?_) (hgo _);simp[Builtin.len_,h0,run_underlying (aI he (by simp))]
  ·simp at h
 ·rename_i id heq;obtain⟨v,e1,e2⟩:=s0 cx ha heq;obtain⟨k,e,he⟩:∃k e,und P t= .map k e:=by rcases hu with⟨h,_⟩|⟨h,_⟩|⟨_,h⟩<;>first|exact h|simp at h
  simp only[VR]at e2;obtain⟨r,hr,rfl⟩:=e2;have hnd:bB (.len 2) (as.map (ev tm)) hp=[id]:=by rw[heq];rfl
  rw[hnd]at h;split at h
  ·rename_i ks vs hl;obtain⟨es,cl,g1,g2,g3⟩:=cx.hr.obj id _ _ hr (bC hl (by simp));refine aD cx h (hex _ ks.length e1 ?_) (hgo _);have:es.size=ks.length:=by have:=g2.1;simp at this;omega
   simp[Builtin.len_,h0,run_underlying (aI he (by simp)),dq g1,this]
  ·rename_i ks vs hl;obtain⟨g0,es,cl,g1,g2,g3⟩:=cx.hr.obj id _ _ hr (bC hl (by simp));refine aD cx h (hex _ ks.length e1 ?_) (hgo _);have:es.size=ks.length:=by have:=g2.1;simp at this;omega
   simp[Builtin.len_,h0,run_underlying (aI he (by simp)),dq g1,this]
  ·simp at h
 ·rename_i heq;obtain⟨v,e1,e2⟩:=s0 cx ha heq;obtain⟨k,e,he⟩:∃k e,und P t= .map k e:=by rcases hu with⟨h,_⟩|⟨h,_⟩|⟨_,h⟩<;>first|exact h|simp at h
  simp only[VR,PR]at e2;subst e2;refine aD cx h (hex _ 0 e1 ?_) (hgo _);simp[Builtin.len_,h0,run_underlying (aI he (by simp))]
 ·rename_i ks vs heq;obtain⟨v,e1,e2⟩:=s0 cx ha heq;obtain⟨k,e,he⟩:∃k e,und P t= .map k e:=by rcases hu with⟨h,_⟩|⟨h,_⟩|⟨_,h⟩<;>first|exact h|simp at h
  simp only[VR,PR]at e2;obtain⟨r,es,cl,rfl,g0,g1,g2,g3⟩:=e2;refine aD cx h (hex _ ks.length e1 ?_) (hgo _);have:es.size=ks.length:=by have:=(PRs_iff.1 g2).1;simp at this;omega
  simp[Builtin.len_,h0,run_underlying (aI he (by simp)),dq g1,this]
 ·simp at h
def Y2 (cx:Cx G a φ w S hp tm){c:Call}{t e:TypeId}(ho:o.op= .call c)(hc:c.callee= .builtin .cap)(h0:c.argTypes[0]?=some t)(hu:und P t= .slice e)(ha:nb P G ts c.args.toList=some as)(h:TS (as.map (ev tm))=some (d,ups,new)):EffOk P o a φ w S hp base d (grow (aw hp ups) new):=by
 have hex:∀b l (n:Nat),c.args.map a.eval= #[.slice b l n]->(execOp a.eval o).run P w= .ok (.value (goInt n)) w:=by
  intro b l n e1;rw[bJ ho hc,e1];simp[builtin,Builtin.cap_,h0,run_underlying (aI hu (by simp))]
 have hgo:∀n:Nat,VR φ w S (.p (BB n)) (goInt n):=by intro n;simp[VR,PR,BB,goInt]
 unfold TS at h;split at h
 ·rename_i z es heq;obtain⟨v,e1,e2⟩:=s0 cx ha heq;simp only[VR]at e2;obtain⟨b,c',us,rfl,_,ht,hp1,_⟩:=e2;simp only[gt]at ht;subst ht;rw[(PRs_iff.1 hp1).1]at h;exact aD cx h (hex _ _ _ e1) (hgo _)
 ·rename_i z es heq;obtain⟨v,e1,e2⟩:=s0 cx ha heq;simp only[VR]at e2;obtain⟨b,c',us,rfl,_,ht,hp1,_⟩:=e2;obtain⟨_,rfl⟩:=ht;exact aD cx h (hex _ _ _ e1) (hgo _)
 ·simp at h
def Zb (cx:Cx G a φ w S hp tm){c:Call}(ho:o.op= .call c)(hc:c.callee= .builtin .min)(ha:nb P G ts c.args.toList=some as)(h:Gt (as.map (ev tm))=some (d,ups,new)):
  EffOk P o a φ w S hp base d (grow (aw hp ups) new):=by
 unfold Gt at h;split at h
 ·rename_i k x k' y heq;obtain⟨v,u,e1,e2,e3⟩:=CL cx ha heq;simp only[VR,PR]at e2 e3;subst e2 e3;split at h
  ·rename_i hk;subst hk;refine aD cx h (v:= .int k (if y<x then y else x)) ?_ ?_
   ·rw[bJ ho hc,e1];simp[builtin,Builtin.min_,Builtin.min2]
   ·rw[fP];simp only[VR,PR];by_cases hh:y<x<;>simp[hh]
  ·simp at h
 ·simp at h
def Za (cx:Cx G a φ w S hp tm){c:Call}(ho:o.op= .call c)(hc:c.callee= .builtin .max)(ha:nb P G ts c.args.toList=some as)(h:Gs (as.map (ev tm))=some (d,ups,new)):
  EffOk P o a φ w S hp base d (grow (aw hp ups) new):=by
 unfold Gs at h;split at h
 ·rename_i k x k' y heq;obtain⟨v,u,e1,e2,e3⟩:=CL cx ha heq;simp only[VR,PR]at e2 e3;subst e2 e3;split at h
  ·rename_i hk;subst hk;refine aD cx h (v:= .int k (if y>x then y else x)) ?_ ?_
   ·rw[bJ ho hc,e1];simp[builtin,Builtin.max_,Builtin.max2]
   ·rw[fP];simp only[VR,PR];by_cases hh:x<y<;>simp[hh]
  ·simp at h
 ·simp at h
def T7 (a b:ByteArray):(a==b)=(a.data.toList==b.data.toList):=by
 show(a.data==b.data)=_;rw[mι,beq_iff_eq,beq_iff_eq];exact⟨fun h=>by rw[h],fun h=>Array.ext' h⟩
def BH {x y:Da}{v u:Value}{kt:TypeDesc}{b:Bool}(hx:PR w S x v)(hy:PR w S y u)(h:j5 kt x y=some b):Instr.sameNow kt v u=some b:=by
 unfold j5 at h;split at h
 ·rename_i k a k' b';simp only[PR]at hx hy;subst hx hy;split at h
  ·rename_i hkk;subst hkk;simp only[lβ,iu]at h;subst h;simp[Instr.sameNow]
  ·simp at h
 ·rename_i s s';simp only[PR]at hx hy;obtain⟨b1,rfl,rfl⟩:=hx;obtain⟨b2,rfl,rfl⟩:=hy;simp only[lβ,C8]at h;subst h;simp only[Instr.sameNow,T7]
 ·simp at h
end
end
section
variable [Letters]
section
variable {P:Program} {G:bP} {o:Oper} {a:Act} {φ:List cQ} {w:World} {S:Nat->Prop} {hp:List Ob} {tm:Tm} {base:Nat} {d:D} {ups:List (Nat×Ob)} {new:List Ob}
def Rt (es:List MapEntry)(n:Nat):Option Nat->Option (Nat×Value)
 |none=>none
 |some i=>(es[i - n]?).map fun e=>(i,e.val)
def Bs {kt:TypeDesc}{k:Da}{v:Value}(hk:PR w S k v):∀{ks:LD} {es:List MapEntry} {n:Nat} {r:Option Nat},Pw (PR w S) ks (es.map (·.key))->cS kt k ks n=some r->
  Instr.findNow kt v es n=some (Rt es n r)/\(∀i,r=some i->n<=i/\i - n<es.length)
 |[],es,n,r,hp,h=>by
  have:es=[]:=by have:=hp.nil_inv;simpa using this
  subst this;simp only[cS,lβ]at h;subst h;exact⟨rfl,by simp⟩
 |x::ks,[],n,r,hp,h=>by have:=hp.1;simp at this
 |x::ks,e::es,n,r,hp,h=>by
  simp only[cS]at h;have hx:=hp.head;split at h
  ·rename_i he;simp only[lβ]at h;subst h;have:=BH hk hx he;simp only[Instr.findNow,this];exact⟨by simp[Rt],by simp⟩
  ·rename_i he;have h1:=BH hk hx he;obtain⟨g1,g2⟩:=Bs hk hp.tail h;simp only[Instr.findNow,h1,g1];refine⟨?_,?_⟩
   ·congr 1;cases r with
    |none=>rfl
    |some i=>
     obtain⟨q1,q2⟩:=g2 i rfl;simp only[Rt];rw[show i - n=(i - (n+1))+1 by omega,List.getElem?_cons_succ]
   ·intro i hi;obtain⟨q1,q2⟩:=g2 i hi;exact⟨by omega,by simp;omega⟩
  ·simp at h
variable {kt:TypeDesc}
def eJ {kty:TypeId}(hu:P.underlying kty=some kt){k:Da}{v:Value}(hk:PR w S k v){ks:LD}{es:List MapEntry}{r:Option Nat}(hp:Pw (PR w S) ks (es.map (·.key)))(h:cS kt k ks 0=some r):
  (Instr.findKey kty v es).run P w= .ok (Rt es 0 r) w:=by
 obtain⟨g1,g2⟩:=Bs hk hp h;simp only[Instr.findKey,Sem.run_bind,run_underlying hu,Result.andThen_ok,g1,Sem.run_pure]
def jD {kty:TypeId}(hu:P.underlying kty=some kt)(hk:eD kt=true)(e:Bool)(v:Value):(Instr.checkKey e 10000 kty v).run P w= .ok () w:=by
 unfold Instr.checkKey;simp only[Sem.run_bind,run_underlying hu,Result.andThen_ok];cases kt<;>simp[eD]at hk<;>rfl
def Mo {t:TypeId}(h:und P t≠ .invalid):P.underlying t=some (und P t):=by
 unfold und at*
 cases hu:P.underlying t with
 |none=>simp[hu]at h
 |some d=>simp
def yQ (h:eD kt=true):kt≠ .invalid:=by rintro rfl;simp[eD]at h
def tu {φ:List cQ}{w:World}{S:Nat->Prop}:∀{zs:LN} {vs:List Value} {ds:List D},xR zs vs=some ds->Pw (VR φ w S) ds vs/\∀v∈vs,bb v
 |zs,[],ds,h=>by simp only[xR,lβ]at h;subst h;exact⟨Pw.nil,by simp⟩
 |zs,v::r,ds,h=>by
  simp only[xR]at h;split at h
  ·rename_i x hx;split at h
   ·rename_i xs hxs;simp only[lβ]at h;subst h;obtain⟨g1,g2⟩:=tu (φ:=φ) (w:=w) (S:=S) hxs;have:VR φ w S x v/\bb v:=by
     unfold Ć at hx;split at hx
     ·simp only[lβ]at hx;subst hx;exact⟨TI,trivial⟩
     ·cases hd:dW v with
      |none=>simp[hd]at hx
      |some y=>simp[hd]at hx;subst hx;have:=Bl (w:=w) (S:=S) hd;exact⟨by simpa only[VR]using this.1,this.2⟩
    exact⟨Pw.cons this.1 g1,by simpa using⟨this.2,g2⟩⟩
   ·simp at h
  ·simp at h
def lN {t:TypeId}{zs:List D}(h:jj P t=some zs):∃i z y,P.info? t=some i/\i.zero=some z/\gX P t y/\z.cells.size=y.size/\(y.agg=true->z= .agg z.cells)/\(y.agg=false->z.cells= #[z])/\
  (∀φ w S,Pw (VR φ w S) zs z.cells.toList)/\(∀c∈z.cells.toList,bb c):=by
 unfold jj at h;split at h
 ·rename_i i y hi hy;split at h
  ·rename_i z hz;rw[beq_eq]at h;by_cases hs:z.cells.size=y.size
   ·simp only[hs,decide_true,Bool.true_and]at h;cases hm:ï z y with
    |false=>rw[hm]at h;simp at h
    |true=>
     rw[hm]at h;simp only[cond_true]at h;refine⟨i,z,y,hi,hz,ek hy,hs,?_,?_,fun φ w S=>(tu h).1,(tu (φ:=[]) (w:=default) (S:=fun _=>False) h).2⟩
     ·intro ha;cases z<;>simp_all [Value.cells,ï]
     ·intro ha;cases z<;>simp_all [Value.cells,ï]
   ·simp[hs]at h
  ·simp at h
 ·simp at h
variable {z:D}
def zt {t:TypeId}(h:vu P t=some z):∃v y,(zeroValue t).run P w= .ok v w/\gX P t y/\v.cells.size=y.size/\∀φ w S,VR φ w S z v:=by
 unfold vu at h;split at h
 ·rename_i ds y hc hy;obtain⟨i,v,y',hi,hz,hty,hs,g1,g2,g3,g4⟩:=lN hc;have hyy:=ek hy;have hagg:y'.agg=y.agg:=by rw[hty.agg,hyy.agg];have:=hty.und.symm.trans hyy.und;simp at this;rw[this]
  refine⟨v,y',by simp[zeroValue,typeInfo,hi,hz],hty,hs,fun φ w S=>?_⟩
  cases ha:y.agg with
  |true=>
   rw[ha]at h;simp only[eC,cond_true,lβ]at h;subst h;have:=nW (g3 φ w S) g4;rw[Array.toArray_toList]at this;rw[g1 (hagg.trans ha)];exact this
  |false=>
   rw[ha]at h;simp only[eC,cond_false]at h;split at h
   ·rename_i x;simp only[lβ]at h;subst h;have g:=g3 φ w S;rw[g2 (hagg.trans ha)]at g;exact g.head
   ·simp at h
 ·simp at h
def Y9 (cx:Cx G a φ w S hp tm){t k e tx ti:TypeId}{x i:Operand}{ok:Bool}{ax ai:A}(ho:o.op= .lookup t x i ok)(hs:und P t= .map k e)(hk:eD (und P k)=true)(hz:vu P e=some z)(hx:cA P G tx x=some ax)(hi:cA P G ti i=some ai)(h:xD (und P k) z ok [ev tm ax,ev tm ai] (bB (.lkp (und P k) z ok) [ev tm ax,ev tm ai] hp) ((bB (.lkp (und P k) z ok) [ev tm ax,ev tm ai] hp).map (aS hp))=some (d,ups,new)):
  EffOk P o a φ w S hp base d (grow (aw hp ups) new):=by
 have h1:=aZ cx.tmr cx.gr hx;have h2:=aZ cx.tmr cx.gr hi;have hu:=aI hs (by simp);have huk:=Mo (yQ hk);obtain⟨zv,zy,hzv,_,_,hzr⟩:=zt (w:=w) hz
 -- the lookup,once the entries are known
 have key:∀(es:Array MapEntry) (ks ws:LD) (kd:D),Pw (PR w S) ks (es.toList.map (·.key))->Pw (PR w S) ws (es.toList.map (·.val))->
   ((a.eval x= .map none/\es= #[])\/∃r cl,a.eval x= .map (some r)/\w.heap[r]?=some (.map es cl))->
   VR φ w S kd (a.eval i)->
   (match kd with
    | .p k1=>match cS (und P k) k1 ks 0 with
     |some (some i)=>match ws[i]? with
      |some v=>val (bif ok then .tup [.p v,.p (.bool true)]else .p v)
      |none=>none
     |some none=>val (bif ok then .tup [z,.p (.bool false)]else z)
     |none=>none
    |_=>none)=some (d,ups,new)->EffOk P o a φ w S hp base d (grow (aw hp ups) new):=by
  intro es ks ws kd hks hws hes hkd hh;split at hh
  ·rename_i k1;simp only[VR]at hkd;have hck:=jD (w:=w) huk hk es.isEmpty (a.eval i);split at hh
   ·rename_i j hj;have hf:=eJ huk hkd hks hj;split at hh
    ·rename_i v hv;obtain⟨u,hu1,hu2⟩:=hws.get hv;have he:∃en,es.toList[j]?=some en/\en.val=u:=by
      rw[lσ]at hu1;cases hc:es.toList[j]? with
      |none=>simp[hc]at hu1
      |some en=>simp[hc]at hu1;exact⟨en,rfl,hu1⟩
     obtain⟨en,he1,he2⟩:=he;simp only[Rt,Nat.sub_zero,he1,Option.map_some]at hf;refine aD cx hh (v:=if ok then .tuple #[en.val,.bool true]else en.val) ?_ ?_
     ·rcases hes with⟨hx0,rfl⟩|⟨r,cl,hx0,hr0⟩
      ·simp at he1
      ·simp[execOp,ho,Instr.lookup,run_underlying hu,hx0,dq hr0,hck,hf]
     ·cases ok
      ·simp only[cond_false,VR,Bool.false_eq_true,if_false,he2];exact hu2
      ·simp only[cond_true,VR,if_true,he2,zF];exact⟨_,rfl,u,[.bool true],rfl,hu2,.bool true,[],rfl,by simp[PR],rfl⟩
    ·simp at hh
   ·rename_i hj;have hf:=eJ huk hkd hks hj;simp only[Rt]at hf;refine aD cx hh (v:=if ok then .tuple #[zv,.bool false]else zv) ?_ ?_
    ·rcases hes with⟨hx0,rfl⟩|⟨r,cl,hx0,hr0⟩
     ·simp only[Array.isEmpty_empty]at hck;simp[execOp,ho,Instr.lookup,run_underlying hu,hx0,hck,hf,hzv]
     ·simp[execOp,ho,Instr.lookup,run_underlying hu,hx0,dq hr0,hck,hf,hzv]
    ·cases ok
     ·simpa using hzr φ w S
     ·simp only[cond_true,VR,if_true,zF];exact⟨_,rfl,zv,[.bool false],rfl,hzr φ w S,.bool false,[],rfl,by simp[PR],rfl⟩
   ·simp at hh
  ·simp at hh
 have keyD:∀(es:Array MapEntry) (ks:LD) (ws:List D) (kd:D),Pw (PR w S) ks (es.toList.map (·.key))->Pw (VR φ w S) ws (es.toList.map (·.val))->
   (∃r cl,a.eval x= .map (some r)/\w.heap[r]?=some (.map es cl))->
   VR φ w S kd (a.eval i)->QE (und P k) z ok ks ws kd=some (d,ups,new)->EffOk P o a φ w S hp base d (grow (aw hp ups) new):=by
  intro es ks ws kd hks hws hes hkd hh;obtain⟨r,cl,hx0,hr0⟩:=hes;unfold QE at hh;split at hh
  ·rename_i k1;simp only[VR]at hkd;have hck:=jD (w:=w) huk hk es.isEmpty (a.eval i);split at hh
   ·rename_i j hj;have hf:=eJ huk hkd hks hj;split at hh
    ·rename_i v hv;obtain⟨u,hu1,hu2⟩:=hws.get hv;have he:∃en,es.toList[j]?=some en/\en.val=u:=by
      rw[lσ]at hu1;cases hc:es.toList[j]? with
      |none=>simp[hc]at hu1
      |some en=>simp[hc]at hu1;exact⟨en,rfl,hu1⟩
     obtain⟨en,he1,he2⟩:=he;simp only[Rt,Nat.sub_zero,he1,Option.map_some]at hf;refine aD cx hh (v:=if ok then .tuple #[en.val,.bool true]else en.val) ?_ ?_
     ·simp[execOp,ho,Instr.lookup,run_underlying hu,hx0,dq hr0,hck,hf]
     ·cases ok
      ·simp only[cond_false,Bool.false_eq_true,if_false,he2];exact hu2
      ·simp only[cond_true,VR,if_true,he2,zF];exact⟨_,rfl,u,[.bool true],rfl,hu2,.bool true,[],rfl,by simp[PR],rfl⟩
    ·simp at hh
   ·rename_i hj;have hf:=eJ huk hkd hks hj;simp only[Rt]at hf;refine aD cx hh (v:=if ok then .tuple #[zv,.bool false]else zv) ?_ ?_
    ·simp[execOp,ho,Instr.lookup,run_underlying hu,hx0,dq hr0,hck,hf,hzv]
    ·cases ok
     ·simpa using hzr φ w S
     ·simp only[cond_true,VR,if_true,zF];exact⟨_,rfl,zv,[.bool false],rfl,hzr φ w S,.bool false,[],rfl,by simp[PR],rfl⟩
   ·simp at hh
  ·simp at hh
 generalize ev tm ax=dx at*
 generalize ev tm ai=di at*
 unfold xD at h;simp only at h;split at h
 ·rename_i kd heq;simp only[lω,and_true]at heq;obtain⟨rfl,rfl⟩:=heq;simp only[VR,PR]at h1;exact key #[] [] [] _ (by simpa using Pw.nil) (by simpa using Pw.nil) (.inl ⟨h1,rfl⟩) h2 h
 ·rename_i ks ws kd heq;simp only[lω,and_true]at heq;obtain⟨rfl,rfl⟩:=heq;simp only[VR,PR]at h1;obtain⟨r,es,cl,hv,_,hh,g1,g2⟩:=h1;exact key es ks ws _ (PRs_iff.1 g1) (PRs_iff.1 g2) (.inr ⟨r,cl,hv,hh⟩) h2 h
 ·rename_i id kd heq;simp only[lω,and_true]at heq;obtain⟨rfl,rfl⟩:=heq;simp only[VR]at h1;obtain⟨r,hr,hv⟩:=h1;simp only[bB,dids]at h;split at h
  ·rename_i ks ws hl;obtain⟨es,cl,g1,g2,g3⟩:=cx.hr.obj id _ _ hr (bC hl (by simp));exact key es ks ws _ g2 g3 (.inr ⟨r,cl,hv,g1⟩) h2 h
  ·rename_i ks ws hl;obtain⟨_,es,cl,g1,g2,g3⟩:=cx.hr.obj id _ _ hr (bC hl (by simp));exact key es ks ws _ g2 g3 (.inr ⟨r,cl,hv,g1⟩) h2 h
  ·rename_i ks ws hl;obtain⟨es,cl,g1,g2,g3⟩:=cx.hr.obj id _ _ hr (bC hl (by simp));exact keyD es ks ws _ g2 g3 ⟨r,cl,hv,g1⟩ h2 h
  ·simp at h
 ·simp at h
def KJ (cx:Cx G a φ w S hp tm){t xt tx:TypeId}{x:Operand}{ok:Bool}{ax:A}(ho:o.op= .typeAssert x xt t ok)(hu:∃e,P.underlying t=some e/\∀ms,e≠ .interface ms)(hz:vu P t=some z)(hx:cA P G tx x=some ax)(h:nw t z ok [ev tm ax]=some (d,ups,new)):EffOk P o a φ w S hp base d (grow (aw hp ups) new):=by
 have h1:=aZ cx.tmr cx.gr hx;obtain⟨e,hu,hne⟩:=hu;obtain⟨zv,zy,hzv,_,_,hzr⟩:=zt (w:=w) hz;have hyes:∀v,a.eval x= .iface t v->(execOp a.eval o).run P w= .ok (.value (if ok then .tuple #[v,.bool true]else v)) w:=by
  intro v hv;simp only[execOp,ho,Instr.typeAssert,Sem.run_bind,run_underlying hu,Result.andThen_ok,hv];cases e<;>first
   |(rename_i ms;exact absurd rfl (hne ms))
   |simp
 have hno:∀t' v,a.eval x= .iface t' v->t'≠t->ok=true->(execOp a.eval o).run P w= .ok (.value (.tuple #[zv,.bool false])) w:=by
  intro t' v hv hn hok;simp only[execOp,ho,Instr.typeAssert,Sem.run_bind,run_underlying hu,Result.andThen_ok,hv];cases e<;>first
   |(rename_i ms;exact absurd rfl (hne ms))
   |simp[hn,hok,hzv]
 have kyes:∀(v:Value) (d0:D),a.eval x= .iface t v->VR φ w S d0 v->val (bif ok then .tup [d0,.p (.bool true)]else d0)=some (d,ups,new)->EffOk P o a φ w S hp base d (grow (aw hp ups) new):=by
  intro v d0 hv hd hh;refine aD cx hh (hyes v hv) ?_;cases ok
  ·simpa using hd
  ·simp only[cond_true,VR,if_true,zF];exact⟨_,rfl,v,[.bool true],rfl,hd,.bool true,[],rfl,by simp[PR],rfl⟩
 have kno:∀(t':TypeId) (v:Value),a.eval x= .iface t' v->t'≠t->ok=true->val (.tup [z,.p (.bool false)])=some (d,ups,new)->EffOk P o a φ w S hp base d (grow (aw hp ups) new):=by
  intro t' v hv hn hok hh;refine aD cx hh (hno t' v hv hn hok) ?_;simp only[VR,zF];exact⟨_,rfl,zv,[.bool false],rfl,hzr φ w S,.bool false,[],rfl,by simp[PR],rfl⟩
 generalize ev tm ax=dx at*
 unfold nw at h;split at h
 ·rename_i t' x' heq;simp only[lω,and_true]at heq;subst heq;simp only[VR,PR]at h1;obtain⟨u,hv,hr⟩:=h1;rw[beq_eq]at h;by_cases ht:t=t'
  ·subst ht;simp only[decide_true,cond_true]at h;exact kyes u (.p x') hv (by simpa only[VR]using hr) h
  ·simp only[ht,decide_false,cond_false]at h;cases ok with
   |false=>simp at h
   |true=>exact kno t' u hv (fun e=>ht e.symm) rfl h
 ·rename_i t' d0 heq;simp only[lω,and_true]at heq;subst heq;simp only[VR]at h1;obtain⟨u,hv,hr⟩:=h1;rw[beq_eq]at h;by_cases ht:t=t'
  ·subst ht;simp only[decide_true,cond_true]at h;exact kyes u d0 hv hr h
  ·simp only[ht,decide_false,cond_false]at h;cases ok with
   |false=>simp at h
   |true=>exact kno t' u hv (fun e=>ht e.symm) rfl h
 ·simp at h
end
end
end Go.Ab
