import Derived.Calls
import Derived.Orders
import Derived.RowKit3
import Derived.Laws.IdiomCopy
import Derived.Laws.Entries
import Derived.ChangeKeysEq
import Derived.IntWalk
import Derived.Lib.Builder
import Derived.Lib.UnsafeStr
import Derived.Laws.StructEq
set_option linter.all false
namespace Go.Ab
open Go
abbrev LN:=List Nat
abbrev LI:=List Int
def lα:=@Option.some.injEq
def lβ:=@List.length_map
def lγ:=@Bool.and_eq_true
def lδ:=@decide_eq_true_eq
def lε:=@List.getElem?_eq_getElem
def lζ:=@decide_eq_false_iff_not
def lη:=@List.eq_nil_of_length_eq_zero
def lθ:=@Nat.eq_of_beq_eq_true
def lι:=@List.getElem?_append_left
def lκ:=@List.take_of_length_le
def lμ:=@Prod.mk.injEq
def lν:=@decide_eq_true
def lξ:=@List.getElem?_map
def lπ:=@Option.map_eq_some_iff
def lρ:=@List.getElem_mem
def lσ:=@List.getElem?_append_right
def lτ:=@List.getElem?_eq_none
def lυ:=@List.mem_cons_self
def lχ:=@List.cons.injEq
def lψ:=@Nat.mul_le_mul_right
def lω:=@List.mem_cons
def mα:=@List.mem_cons_of_mem
def mβ:=@Nat.lt_or_ge
def mγ:=@List.length_take
def mδ:=@List.mem_of_getElem?
def mε:=@List.all_eq_true
def mζ:=@Bool.eq_iff_iff
def mη:=@List.length_append
def mθ:=@decide_eq_false
def mι:=@Nat.add_mul
def mκ:=@List.append_nil
def mμ:=@List.length_replicate
def mν:=@List.getD_eq_getElem?_getD
def mξ:=@List.append_assoc
def mπ:=@List.drop_eq_getElem_cons
def mρ:=@List.getElem?_set_ne
def mσ:=@Int.toNat_of_nonneg
def mτ:=@List.findIdx?_eq_none_iff
def mυ:=@List.length_drop
def mχ:=@List.drop_drop
def mψ:=@List.getElem?_set_self
def mω:=@Nat.lt_of_lt_of_le
def qα:=@List.length_zip
def qβ:=@Nat.le_trans
def qγ:=@Bool.or_eq_true
def qδ:=@List.mem_append
def qε:=@Bool.or_eq_false_iff
def qζ:=@List.findIdx?_cons
def qη:=@List.findIdx?_eq_some_iff_getElem
def qθ:=@List.mem_of_mem_take
def qι:=@List.getElem_of_mem
def qκ:=@List.any_eq_false
def qμ:=@List.mem_of_mem_drop
def qν:=@List.any_eq_true
inductive lC where
 |exact|nil|some|na
 deriving DecidableEq
inductive Sy where
 |lin (c:Int) (ks:List (Int×Int×Int))
 |rng (lo hi:Int)
inductive Da where
 |bool (b:Bool)
 |int (k:IntKind) (n:Int)
 |str (s:LN)
 |agg (cs:List Da)
 |slice (z:Nat) (es:List Da)
 |nilptr
 |ptr (x:Da)
 |map (ks vs:List Da)
 |nilmap
 |fn (f:Nat) (caps:List Da)
 |nilfn
 |iface (t:Nat) (x:Da)
 |nilif
 |sliceE (z:Nat) (es:List Da)
 |sym (k:IntKind) (s:Sy)
abbrev LD:=List Da
inductive D where
 |p (x:Da)
 |agg (cs:List D)
 |tup (ds:List D)
 |box (id off:Nat)
 |el (id i off:Nat)
 |ip (x:Da) (off:Nat)
 |arr (id lo len z:Nat)
 |sl (g:lC) (z:Nat) (es:LD)
 |map (id:Nat)
 |fn (f:Nat) (caps:List D)
 |iface (t:Nat) (d:D)
 |junk
inductive Ob where
 |box (cs:List D)
 |arr (es:LD)
 |fz (es:LD)
 |map (ks vs:LD)
 |fzm (ks vs:LD)
 |dead
 |unborn
 |mapd (ks:LD) (vs:List D)
 |byt (es:LD)
 |may (b:Bool) (es:LD)
inductive A where
 |t (n:Nat)
 |c (x:Da)
 |n (z:Nat)
 |f (g:Nat)
 |g (x:Da)
inductive O where
 |mv|pick
 |alloc (zs:List D)
 |box (n:Nat)
 |build (zs:List D) (ps:List (Nat×Nat))
 |bsl (esz:Nat) (z:Da) (n:Nat) (ps:LN)
 |bslm (esz:Nat) (z:Da) (n:Nat) (ps:LN)
 |bsle (esz:Nat) (z:Da) (n:Nat) (ps:LN)
 |load (n:Nat) (agg:Bool)
 |store (n:Nat)
 |nilck
 |bin (op:BinOp)
 |binB (op:BinOp)
 |binN (kd:Nat) (op:BinOp)
 |binS (ks:LN) (op:BinOp)
 |un (op:UnOp)
 |conv (k:IntKind)
 |mkif (t:Nat)
 |mkfn (f:Nat)
 |mkmap
 |mksl (esz:Nat) (z:Da) (bytes:Nat)
 |slStr (lo hi:Bool)
 |slSl (esz:Nat) (lo hi mx:Bool)
 |fa (off:Nat)
 |fld (off n:Nat) (agg:Bool)
 |ia (esz:Nat)
 |iaa (n esz:Nat)
 |ix
 |ixa (n esz:Nat) (agg:Bool)
 |lkp (kt:TypeDesc) (z:D) (ok:Bool)
 |mupd (kt:TypeDesc)
 |cpy (esz:Nat)
 |clr (esz:Nat) (z:Da)
 |slX (esz:Nat) (lo:Bool)
 |slck (lo hi:Bool)
 |slW (esz:Nat) (lo hi:Bool)
 |appI (esz:Nat)
 |ext (i:Nat)
 |call (f:Nat) (raw:Bool)
 |callv
 |len (kd:Nat)
 |cap|min2|max2
 |app (esz bytes:Nat)
 |appm (esz:Nat) (z:Da) (bytes:Nat)
 |same
 |assertT (t:Nat) (z:D) (ok:Bool)
 |clone
 |b2s
 |s2b
 |pan
 |appB (bytes:Nat)
 |pne
 |uns
 |sdata
 |ustr
structure ek where
 dst:Option Nat
 op:O
 as:List A
 k:Nat
 gd:Option (Nat×Bool)
inductive Gh where
 |own (slot z:Nat)
 |ownc (slot off z:Nat)
 |frz (slot:Nat)
 |frzc (slot off:Nat)
 |tog (slot off:Nat)
 |pst (slot off:Nat)
 |pfz (slot off:Nat)
 |pkp (live:LN)
 |keep (live:LN)
inductive Co where
 |skip
 |reg (nal:Nat) (ops:List ek) (prs:Option (List (Nat×Nat))) (out:LN)
 |seq (a b:Co)
 |cond (c:A) (t e:Co)
 |block (id:Nat) (b:Co)
 |loop (live:LN) (b:Co)
 |exit (id:Nat)
 |ret
 |gh (g:Gh) (c:Co)
inductive Rv where
 |t (n:Nat)
 |cell (a n:Nat) (agg:Bool)
structure Fx where
 body:Co
 res:List Rv
 fz:Bool
inductive Tm where
 |nil
 |cons (s:Nat) (d:D) (r:Tm)
structure St where
 tm:Tm
 hp:List Ob
def wi (f:Nat):Nat:=f % 1000000
def Vp (f:Nat):Nat:=f / 1000000
def fX {α:Type}(f:Nat)(caps args:List α):List α:=caps.take (Vp f)++(args++caps.drop (Vp f))
def get:Tm->Nat->D
 | .nil,_=> .junk
 | .cons s d r,t=>bif Nat.beq s t then d else get r t
def ev (tm:Tm):A->D
 | .t n=>get tm n
 | .c x=> .p x
 | .n z=> .sl .nil z []
 | .f g=> .p (.fn g [])
 | .g x=> .ip x 0
def put (dst:Option Nat)(v:D)(tm:Tm):Tm:=
 match dst with
 |some d=> .cons d v tm
 |none=>tm
def gT:List D->Option (LD)
 |[]=>some []
 | .p x::r=>match gT r with
  |some xs=>some (x::xs)
  |none=>none
 |_::_=>none
def uU (ds:List D):D:=
 match gT ds with
 |some xs=> .p (.agg xs)
 |none=> .agg ds
def cells:Da->LD
 | .agg cs=>cs
 |x=>[x]
def bl:D->List D
 | .p (.agg cs)=>cs.map .p
 | .agg ds=>ds
 |d=>[d]
def du:D->Bool
 | .junk=>false
 | .tup _=>false
 | .agg _=>false
 |_=>true
def dids:D->LN
 | .agg cs=>didsL cs
 | .tup ds=>didsL ds
 | .box id _=>[id]
 | .el id _ _=>[id]
 | .arr id _ _ _=>[id]
 | .sl _ _ _=>[]
 | .map id=>[id]
 | .fn _ caps=>didsL caps
 | .iface _ d=>dids d
 | .p _=>[]
 | .ip _ _=>[]
 | .junk=>[]
where
 didsL:List D->LN
 |[]=>[]
 |d::r=>dids d++didsL r
def gj:Ob->LN
 | .box cs=>dids.didsL cs
 | .mapd _ vs=>dids.didsL vs
 |_=>[]
def ce (hp:List Ob):Nat->LN->LN->LN
 |0,_,acc=>acc
 |_+1,[],acc=>acc
 |n+1,id::ws,acc=>
  if acc.contains id then ce hp n ws acc
  else ce hp n (gj (hp.getD id .dead)++ws) (acc++[id])
def aZ:Nat:=4000
def mapD (σ:Nat->Option Nat):D->D
 | .agg cs=> .agg (mapDL cs)
 | .tup ds=> .tup (mapDL ds)
 | .box id off=>match σ id with|some j=> .box j off|none=> .junk
 | .el id i off=>match σ id with|some j=> .el j i off|none=> .junk
 | .arr id lo len z=>match σ id with|some j=> .arr j lo len z|none=> .junk
 | .sl g z es=> .sl g z es
 | .map id=>match σ id with|some j=> .map j|none=> .junk
 | .fn f caps=> .fn f (mapDL caps)
 | .iface t d=> .iface t (mapD σ d)
 | .p x=> .p x
 | .ip x off=> .ip x off
 | .junk=> .junk
where
 mapDL:List D->List D
 |[]=>[]
 |d::r=>mapD σ d::mapDL r
def bS (σ:Nat->Option Nat):Ob->Ob
 | .box cs=> .box (mapD.mapDL σ cs)
 | .mapd ks vs=> .mapd ks (mapD.mapDL σ vs)
 |o=>o
def idx (ids:LN)(id:Nat):Option Nat:=
 go ids 0
where
 go:LN->Nat->Option Nat
 |[],_=>none
 |x::r,n=>bif Nat.beq x id then some n else go r (n+1)
def aI (hp:List Ob)(i:Nat):Ob:=hp.getD i .dead
def jd:List Ob->Nat->Ob->List Ob
 |[],_,_=>[]
 |_::r,0,o=>o::r
 |x::r,n+1,o=>x::jd r n o
def au:List Ob->List (Nat×Ob)->List Ob
 |hp,[]=>hp
 |hp,(i,o)::r=>au (jd hp i o) r
def ej:List (Nat×Ob)->Nat->Ob
 |[],_=> .dead
 |(i,o)::r,id=>bif Nat.beq i id then o else ej r id
def YH (os:List (Nat×Ob))(id off:Nat):Option Da:=
 match ej os id with
 | .box cs=>bif Nat.beq off 0 then(match gT cs with
  |some xs=>some (.ptr (.agg xs))
  |none=>none)else none
 |_=>none
def WN (os:List (Nat×Ob))(d:D)(o:Option Da):Option Da:=
 match d with
 | .box id off=>YH os id off
 |_=>o
def pur (os:List (Nat×Ob)):D->Option Da
 | .p x=>some x
 | .agg cs=>(purL cs).map .agg
 | .arr id lo len z=>match ej os id with
  | .arr es=>some (.slice z ((es.drop lo).take len))
  | .fz es=>some (.slice z ((es.drop lo).take len))
  |_=>none
 | .sl _ z es=>some (.slice z es)
 | .map id=>match ej os id with
  | .map ks vs=>some (.map ks vs)
  | .fzm ks vs=>some (.map ks vs)
  |_=>none
 | .fn f caps=>(purC caps).map (.fn f)
 | .iface t d=>(pur os d).map (.iface t)
 | .ip x off=>bif Nat.beq off 0 then some (.ptr x)else none
 | .tup _=>none
 | .box _ _=>none
 | .el _ _ _=>none
 | .junk=>none
where
 purL:List D->Option (LD)
 |[]=>some []
 |d::r=>match pur os d with
  |some x=>match purL r with
   |some xs=>some (x::xs)
   |none=>none
  |none=>none
 purC:List D->Option (LD)
 |[]=>some []
 |d::r=>match WN os d (pur os d)with
  |some x=>match purC r with
   |some xs=>some (x::xs)
   |none=>none
  |none=>none
def k7:Ob->Ob
 | .box _=> .dead
 | .arr es=> .fz es
 | .map ks vs=> .fzm ks vs
 |o=>o
def dh (os:List (Nat×Ob)):List (Nat×Ob):=os.map fun(i,o)=>(i,k7 o)
def cg:LN->LN->Bool
 |[],[]=>true
 |a::x,b::y=>bif Nat.beq a b then cg x y else false
 |_,_=>false
def Ue:LN->LN->Bool
 |_,[]=>false
 |[],_::_=>true
 |a::x,b::y=>bif Nat.blt a b then true else bif Nat.beq a b then Ue x y else false
def az:Int->Int->Bool
 | .ofNat a,.ofNat b=>Nat.beq a b
 | .negSucc a,.negSucc b=>Nat.beq a b
 |_,_=>false
def aG:Int->Int->Bool
 | .ofNat a,.ofNat b=>Nat.blt a b
 | .negSucc a,.negSucc b=>Nat.blt b a
 | .negSucc _,.ofNat _=>true
 | .ofNat _,.negSucc _=>false
def aL (a b:Int):Bool:=!(aG b a)
def ag (k:IntKind)(n:Int):Int:=
 match k,n with
 | .i64,.ofNat m=>bif Nat.blt m 9223372036854775808 then .ofNat m else k.wrap n
 | .i64,.negSucc m=>bif Nat.blt m 9223372036854775808 then .negSucc m else k.wrap n
 | .u64,.ofNat m=>bif Nat.blt m 18446744073709551616 then .ofNat m else k.wrap n
 | .u8,.ofNat m=>bif Nat.blt m 256 then .ofNat m else k.wrap n
 | .i32,.ofNat m=>bif Nat.blt m 2147483648 then .ofNat m else k.wrap n
 | .u32,.ofNat m=>bif Nat.blt m 4294967296 then .ofNat m else k.wrap n
 |_,_=>k.wrap n
def ŭ:Nat:=9223372036854775807
def Ud:List (Int×Int×Int)->Int
 |[]=>0
 |(a,l,h)::r=>(bif aG a 0 then a*h else a*l)+Ud r
def UM:List (Int×Int×Int)->Int
 |[]=>0
 |(a,l,h)::r=>(bif aG a 0 then a*l else a*h)+UM r
def Sy.low:Sy->Int
 | .lin c ks=>c+Ud ks
 | .rng l _=>l
def Sy.top:Sy->Int
 | .lin c ks=>c+UM ks
 | .rng _ h=>h
def wg (f:Int):List (Int×Int×Int)->List (Int×Int×Int)->List (Int×Int×Int)
 |[],[]=>[]
 |[],(b,l,h)::s=>(f*b,l,h)::wg f [] s
 |(a,l,h)::r,[]=>(a,l,h)::r
 |(a,l,h)::r,(b,_,_)::s=>(a+f*b,l,h)::wg f r s
def Wi (a b:Sy):Sy:=
 match a,b with
 | .lin c ks,.lin d js=> .lin (c+d) (wg 1 ks js)
 |a,b=> .rng (a.low+b.low) (a.top+b.top)
def vB (a b:Sy):Sy:=
 match a,b with
 | .lin c ks,.lin d js=> .lin (c - d) (wg (-1) ks js)
 |a,b=> .rng (a.low - b.top) (a.top - b.low)
def om (f:Int):List (Int×Int×Int)->List (Int×Int×Int)
 |[]=>[]
 |(a,l,h)::r=>(f*a,l,h)::om f r
def sr (m:Int):List (Int×Int×Int)->List (Int×Int×Int)
 |[]=>[]
 |(a,l,h)::r=>(bif az (a.emod m) 0 then 0 else a,l,h)::sr m r
def Z7:IntKind->Int
 | .i64=> -9223372036854775808
 | .u8=>0
 | .u16=>0
 | .u32=>0
 | .u64=>0
 |_=>1
def Z6:IntKind->Int
 | .i64=>9223372036854775807
 | .u8=>255
 | .u16=>65535
 | .u32=>4294967295
 | .u64=>18446744073709551615
 |_=>0
def N2:List (Int×Int×Int)->Bool
 |[]=>true
 |(a,_,_)::r=>az a 0&&N2 r
def Uh (k:IntKind)(s:Sy):Option Da:=
 bif aL (Z7 k) s.low&&aL s.top (Z6 k)then
  match s with
  | .lin c ks=>bif N2 ks then some (.int k c)else some (.sym k (.lin c ks))
  |s=>some (.sym k s)
 else none
def XT (a b:Sy):Option Sy:=
 match a,b with
 | .lin c [],.lin d js=>some (.lin (c*d) (om c js))
 | .lin d ks,.lin c []=>some (.lin (c*d) (om c ks))
 |_,_=>none
def X2 (a b:Sy):Option Sy:=
 bif aL 0 a.low&&aG 0 b.low then some (.rng (a.low.tdiv b.top) (a.top.tdiv b.low))else none
def X4 (a b:Sy):Option Sy:=
 match a,b with
 | .lin c ks,.lin m []=>
  let r:Sy:= .lin (c.emod m) (sr m ks)
  bif aG 0 m&&(aL 0 (Sy.lin c ks).low&&(aL 0 r.low&&aG r.top m))then some r else none
 |_,_=>none
def Pp (d:Sy):Option Bool:=
 bif az d.low 0&&az d.top 0 then some true else bif aG 0 d.low||aG d.top 0 then some false else none
def Uf (d:Sy):Option Bool:=
 bif aG d.top 0 then some true else bif aL 0 d.low then some false else none
def T9 (d:Sy):Option Bool:=
 bif aL d.top 0 then some true else bif aG 0 d.low then some false else none
def oN (w:Bool):Option Bool->Option Da
 |some b=>some (.bool (b==w))
 |none=>none
def Z8 (k:IntKind):Option Sy->Option Da
 |some s=>Uh k s
 |none=>none
def Oj (op:BinOp)(k:IntKind)(a b:Sy):Option Da:=
 match op with
 | .add=>Uh k (Wi a b)
 | .sub=>Uh k (vB a b)
 | .mul=>Z8 k (XT a b)
 | .quo=>Z8 k (X2 a b)
 | .rem=>Z8 k (X4 a b)
 | .eql=>oN true (Pp (vB a b))
 | .neq=>oN false (Pp (vB a b))
 | .lss=>oN true (Uf (vB a b))
 | .geq=>oN false (Uf (vB a b))
 | .leq=>oN true (T9 (vB a b))
 | .gtr=>oN false (T9 (vB a b))
 |_=>none
def yq:Da->Option (IntKind×Sy)
 | .int k n=>some (k,.lin n [])
 | .sym k s=>some (k,s)
 |_=>none
def yZ (op:BinOp)(x y:Da):Option Da:=
 match yq x,yq y with
 |some (k,a),some (k',b)=>if k=k' then Oj op k a b else none
 |_,_=>none
def iS (op:BinOp)(k:IntKind)(a b:Int):Option Da:=
 match op with
 | .add=>some (.int k (ag k (a+b)))
 | .sub=>some (.int k (ag k (a - b)))
 | .mul=>some (.int k (ag k (a*b)))
 | .quo=>bif az b 0 then none else some (.int k (ag k (a.tdiv b)))
 | .rem=>bif az b 0 then none else some (.int k (a.tmod b))
 | .and=>some (.int k (ag k (BitVec.ofInt k.bits a &&& BitVec.ofInt k.bits b).toNat))
 | .or=>some (.int k (ag k (BitVec.ofInt k.bits a ||| BitVec.ofInt k.bits b).toNat))
 | .xor=>some (.int k (ag k (BitVec.ofInt k.bits a ^^^ BitVec.ofInt k.bits b).toNat))
 | .andNot=>some (.int k (ag k (BitVec.ofInt k.bits a &&& ~~~(BitVec.ofInt k.bits b)).toNat))
 | .eql=>some (.bool (az a b))
 | .neq=>some (.bool (!(az a b)))
 | .lss=>some (.bool (aG a b))
 | .leq=>some (.bool (aL a b))
 | .gtr=>some (.bool (aG b a))
 | .geq=>some (.bool (aL b a))
 |_=>none
def kg (op:BinOp)(k:IntKind)(a b:Int):Option Da:=
 bif aG b 0 then none else
 match op with
 | .shl=>some (.int k (ag k (a*2 ^ (min b.toNat k.bits))))
 | .shr=>some (.int k (a.fdiv (2 ^ (min b.toNat k.bits))))
 |_=>none
def fZ:BinOp->Bool
 | .shl=>true
 | .shr=>true
 |_=>false
def nL (op:BinOp)(a b:LN):Option Da:=
 match op with
 | .add=>bif Nat.ble (a.length+b.length) ŭ then some (.str (a++b))else none
 | .eql=>some (.bool (cg a b))
 | .neq=>some (.bool (!(cg a b)))
 | .lss=>some (.bool (Ue a b))
 | .leq=>some (.bool (Ue a b||cg a b))
 | .gtr=>some (.bool (!(Ue a b||cg a b)))
 | .geq=>some (.bool (!(Ue a b)))
 |_=>none
def fM (kd:Nat)(d:D):Option Bool:=
 match kd with
 |0=>match d with
  | .p .nilptr=>some true
  | .p (.ptr _)=>some false
  | .box _ _=>some false
  | .el _ _ _=>some false
  | .ip _ _=>some false
  |_=>none
 |1=>match d with
  | .sl .nil _ _=>some true
  | .sl .na _ _=>some true
  | .sl .some _ _=>some false
  | .sl .exact _ (_::_)=>some false
  | .p (.slice _ (_::_))=>some false
  | .arr _ _ (_+1) _=>some false
  |_=>none
 |2=>match d with
  | .p .nilmap=>some true
  | .p (.map _ _)=>some false
  | .map _=>some false
  |_=>none
 |3=>match d with
  | .p .nilfn=>some true
  | .p (.fn _ _)=>some false
  | .fn _ _=>some false
  |_=>none
 |4=>match d with
  | .p .nilif=>some true
  | .p (.iface _ _)=>some false
  | .iface _ _=>some false
  |_=>none
 |_=>none
def j6 (kd:Nat)(d:D):Bool:=
 match fM kd d with
 |some b=>b
 |none=>false
def qz (op:BinOp)(r:Option Bool):Option Da:=
 match r with
 |some b=>match op with
  | .eql=>some (.bool b)
  | .neq=>some (.bool (!b))
  |_=>none
 |none=>none
def zY:D->Bool
 | .p (.ptr _)=>true
 | .p (.fn _ _)=>true
 | .p (.iface _ _)=>true
 | .box _ _=>true
 | .el _ _ _=>true
 | .ip _ _=>true
 | .fn _ _=>true
 | .iface _ _=>true
 |_=>false
def bin (op:BinOp)(x y:D):Option Da:=
 match x,y with
 | .p (.int k a),.p (.int k' b)=>
  bif fZ op then kg op k a b
  else if k=k' then iS op k a b else none
 | .p (.str a),.p (.str b)=>nL op a b
 | .p x,.p y=>yZ op x y
 |_,_=>none
def binB (op:BinOp)(x y:D):Option Da:=
 match x,y with
 | .p (.bool a),.p (.bool b)=>match op with
  | .eql=>some (.bool (a==b))
  | .neq=>some (.bool (!(a==b)))
  |_=>none
 |_,_=>none
def binN (kd:Nat)(op:BinOp)(x y:D):Option Da:=
 bif j6 kd y then qz op (fM kd x)else bif j6 kd x then qz op (fM kd y)else none
def Ax:D->D->Bool
 | .box i o,.box j p=>Nat.beq i j&&Nat.beq o p
 |_,_=>false
def GM (x y:D):Option Da:=bif Ax x y then some (.bool false)else binN 0 .neq x y
def qJ (k:Nat)(x y:Da):Option Bool:=
 match k with
 |0=>match x,y with
  | .int i a,.int j b=>if i=j then some (az a b)else none
  |x,y=>match yZ .eql x y with
   |some (.bool b)=>some b
   |_=>none
 |1=>match x,y with
  | .str a,.str b=>some (cg a b)
  |_,_=>none
 |2=>match x,y with
  | .bool a,.bool b=>some (a==b)
  |_,_=>none
 |_=>none
def fV:LN->LD->LD->Option Bool
 |[],_,_=>some true
 |k::ks,x::xs,y::ys=>match qJ k x y with
  |some b=>bif b then fV ks xs ys else some false
  |none=>none
 |_,_,_=>none
def binS (ks:LN)(op:BinOp)(x y:D):Option Da:=
 match x,y with
 | .p (.agg xs),.p (.agg ys)=>match fV ks xs ys with
  |some b=>match op with
   | .eql=>some (.bool b)
   | .neq=>some (.bool (!b))
   |_=>none
  |none=>none
 |_,_=>none
def un (op:UnOp)(x:D):Option Da:=
 match op,x with
 | .neg,.p (.int k n)=>some (.int k (ag k (0 - n)))
 | .neg,.p (.sym k s)=>Uh k (vB (.lin 0 []) s)
 | .not,.p (.bool b)=>some (.bool (!b))
 |_,_=>none
def splice {α:Type}(l:List α)(off:Nat)(xs:List α):List α:=l.take off++xs++l.drop (off+xs.length)
def nl (cs:List D):List (Nat×Nat)->List D->Option (List D)
 |[],[]=>some cs
 |(off,n)::ps,d::ds=>
  let xs:=bl d
  bif Nat.beq xs.length n&&Nat.ble (off+n) cs.length&&xs.all du then nl (splice cs off xs) ps ds else none
 |_,_=>none
def rB (es:LD):LN->LD->Option (LD)
 |[],[]=>some es
 |i::is,x::xs=>bif Nat.blt i es.length then rB (es.set i x) is xs else none
 |_,_=>none
def eK (old:Da)(cs:LD):Option Da:=
 match old,cs with
 | .agg _,cs=>some (.agg cs)
 |_,[c]=>some c
 |_,_=>none
def dN (agg:Bool)(ds:List D):Option D:=
 bif agg then some (uU ds)else match ds with
  |[d]=>some d
  |_=>none
def sub {α:Type}(l:List α)(off n:Nat):Option (List α):=
 bif Nat.ble (off+n) l.length then some ((l.drop off).take n)else none
def bU (es:LD)(i:Int):Option Da:=bif aL 0 i then es[i.toNat]? else none
def j0 (x:D)(y:Nat):Option Nat:=
 match x with
 | .p (.int _ i)=>bif aL 0 i&&aL i y then some i.toNat else none
 |_=>none
def l0 (lo hi mx:Bool)(len:Nat)(xs:List D):Option (Nat×Nat×Nat):=
 match lo,hi,mx,xs with
 |false,false,false,[]=>some (0,len,len)
 |true,false,false,[a]=>match j0 a len with
  |some l=>some (l,len,len)
  |none=>none
 |false,true,false,[b]=>match j0 b len with
  |some h=>some (0,h,len)
  |none=>none
 |true,true,false,[a,b]=>match j0 b len with
  |some h=>match j0 a h with
   |some l=>some (l,h,len)
   |none=>none
  |none=>none
 |false,true,true,[b,c]=>match j0 c len with
  |some m=>match j0 b m with
   |some h=>some (0,h,m)
   |none=>none
  |none=>none
 |true,true,true,[a,b,c]=>match j0 c len with
  |some m=>match j0 b m with
   |some h=>match j0 a h with
    |some l=>some (l,h,m)
    |none=>none
   |none=>none
  |none=>none
 |_,_,_,_=>none
def ja (kt:TypeDesc)(x y:Da):Option Bool:=
 match kt,x,y with
 | .int _,.int k a,.int k' b=>if k=k' then some (az a b)else none
 | .string,.str a,.str b=>some (cg a b)
 |_,_,_=>none
def cr (kt:TypeDesc)(k:Da):LD->Nat->Option (Option Nat)
 |[],_=>some none
 |x::r,i=>match ja kt k x with
  |some true=>some (some i)
  |some false=>cr kt k r (i+1)
  |none=>none
def xR (n:Nat):Da:= .int .i64 n
def AK:Nat:=67
def EO:Nat:=5
def pH:List D->Bool
 | .p .nilptr::_=>true
 | .box _ _::_=>true
 |_=>false
def b3 (cs:List D):Bool:=Nat.beq cs.length 3&&pH cs
def bm (o:O)(vs:List D)(hp:List Ob):LN:=
 match o with
 | .load _ _=>match vs with|d::_=>dids d|_=>[]
 | .store _=>dids.didsL vs
 | .bsl _ _ _ _=>dids.didsL vs
 | .bslm _ _ _ _=>dids.didsL vs
 | .bsle _ _ _ _=>dids.didsL vs
 | .app _ _=>dids.didsL vs
 | .appm _ _ _=>dids.didsL vs
 | .lkp _ _ _=>match vs with|d::_=>dids d|_=>[]
 | .mupd _=>dids.didsL vs
 | .cpy _=>dids.didsL vs
 | .clr _ _=>dids.didsL vs
 | .slX _ _=>match vs with|d::_=>dids d|_=>[]
 | .appI _=>dids.didsL vs
 | .len _=>match vs with| .map id::_=>[id]|_=>[]
 | .slSl _ lo hi mx=>bif mx||(lo&&!hi)then(match vs with|d::_=>dids d|_=>[])else[]
 | .call _ _=>ce hp aZ (dids.didsL vs) []
 | .callv=>ce hp aZ (dids.didsL vs) []
 | .clone=>dids.didsL vs
 | .b2s=>dids.didsL vs
 | .uns=>dids.didsL vs
 | .appB _=>dids.didsL vs
 | .ustr=>dids.didsL vs
 |_=>[]
def s0 (z esz:Nat)(es:LD):Bool:=Nat.beq z esz||es.isEmpty
def li (z esz:Nat)(es:LD):Option (LD):=bif s0 z esz es then some es else none
def elems (esz:Nat)(os:List (Nat×Ob)):D->Option (LD)
 | .p (.slice z es)=>li z esz es
 | .p (.sliceE z es)=>li z esz es
 | .sl _ z es=>li z esz es
 | .p (.str s)=>bif Nat.beq esz 1 then some (s.map fun b=> .int .u8 (Int.ofNat b))else none
 | .arr id lo len z=>match ej os id with
  | .arr es=>bif Nat.beq z esz then some ((es.drop lo).take len)else none
  | .fz es=>bif Nat.beq z esz then some ((es.drop lo).take len)else none
  |_=>none
 |_=>none
def fU:LD->Option (LN)
 |[]=>some []
 | .int .u8 n::r=>match fU r with
  |some s=>some (n.toNat % 256::s)
  |none=>none
 |_::_=>none
def pW:D->Option Nat
 | .p (.slice _ es)=>some es.length
 | .p (.sliceE _ es)=>some es.length
 | .sl _ _ es=>some es.length
 | .arr _ _ len _=>some len
 |_=>none
def jv (esz:Nat)(os:List (Nat×Ob)):D->Option (LD×List (Nat×Ob))
 | .sl .nil _ _=>some ([],[])
 | .sl .exact z es=>bif s0 z esz es then some (es,[])else none
 | .p (.sliceE z es)=>bif s0 z esz es then some (es,[])else none
 | .arr id lo len z=>match ej os id with
  | .arr es=>bif Nat.beq z esz then some ((es.drop lo).take len,[(id,.dead)])else none
  |_=>none
 |_=>none
def back (m len:Nat)(ids:LN)(total:Nat)(k:Nat):Option Nat:=
 bif Nat.blt k m then ids[k]? else bif Nat.blt k total then some (len+(k - m))else none
def Dv:D->D
 | .sl _ z es=> .p (.slice z es)
 |d=>d
def norm:D->D
 | .sl _ z es=> .p (.slice z es)
 | .agg ds=>uU (ds.map Dv)
 | .tup ds=> .tup (ds.map Dv)
 |d=>d
abbrev aD:=Nat->List D->List Ob->Option (D×List Ob)
abbrev eV:=D×List (Nat×Ob)×List Ob
def fg (call:aD)(f:Nat)(args:List D)(ids:LN)(obs:List Ob)(len:Nat):Option eV:=
 match call f (mapD.mapDL (idx ids) args) (obs.map (bS (idx ids)))with
 |none=>none
 |some (r,out)=>
  bif Nat.ble ids.length out.length then
   let σ:=back ids.length len ids out.length
   let out':=out.map (bS σ)
   some (mapD σ r,ids.zip out',out'.drop ids.length)
  else none
def val (d:D):Option eV:=some (d,[],[])
def jg:Option Da->Option eV
 |some x=>some (.p x,[],[])
 |none=>none
def Yk (vs:List D):Option eV:=
 match vs with|[d]=>val d|_=>none
def xu (vs:List D):Option eV:=
 match vs with|[.p (.bool c),a,b]=>val (bif c then a else b)|_=>none
def NN (zs:List D)(base:Nat)(kk:Nat):Option eV:=
 some (.box (base+kk) 0,[(base+kk,.box zs)],[])
def NS (n:Nat)(base:Nat)(kk:Nat)(vs:List D):Option eV:=
 match vs with
  |[d]=>bif(bif Nat.beq n 1000003 then Nat.beq (bl d).length 3 else Nat.beq (bl d).length n&&!b3 (bl d))&&(bl d).all du then some (.box (base+kk) 0,[(base+kk,.box (bl d))],[])else none
  |_=>none
def nF (zs:List D)(ps:List (Nat×Nat))(vs:List D):Option eV:=
 match nl zs ps vs with
  |some cs=>val (uU cs)
  |none=>none
def J2 (esz:Nat)(z:Da)(n:Nat)(ps:LN)(vs:List D)(ids:LN)(obs:List Ob):Option eV:=
 match pur.purL (ids.zip obs) vs with
  |some xs=>bif xs.all (fun e=>Nat.beq (cells e).length esz)then
   match rB (List.replicate n z) ps xs with
   |some es=>some (.sl .exact esz es,dh (ids.zip obs),[])
   |none=>none
   else none
  |none=>none
def NT (esz:Nat)(z:Da)(n:Nat)(ps:LN)(vs:List D)(ids:LN)(obs:List Ob):Option eV:=
 match J2 esz z n ps vs ids obs with
  |some (.sl .exact z es,ups,new)=>some (.p (.sliceE z es),ups,new)
  |_=>none
def NU (esz:Nat)(z:Da)(n:Nat)(ps:LN)(base kk:Nat)(vs:List D)(ids:LN)(obs:List Ob):Option eV:=
 match pur.purL (ids.zip obs) vs with
  |some xs=>bif xs.all (fun e=>Nat.beq (cells e).length esz)then
   match rB (List.replicate n z) ps xs with
   |some es=>some (.arr (base+kk) 0 n esz,dh (ids.zip obs)++[(base+kk,.arr es)],[])
   |none=>none
   else none
  |none=>none
def fJ (n:Nat)(agg:Bool)(vs:List D)(obs:List Ob):Option eV:=
 match vs with
  |[.box _ off]=>match obs with
   |[.box cs]=>match sub cs off n with
    |some ds=>match dN agg ds with
     |some d=>val d
     |none=>none
    |none=>none
   |_=>none
  |[.el _ i off]=>match obs with
   |[.arr es]=>match es[i]? with
    |some e=>match sub (cells e) off n with
     |some ds=>match dN agg (ds.map .p)with
      |some d=>val d
      |none=>none
     |none=>none
    |none=>none
   |[.fz es]=>match es[i]? with
    |some e=>match sub (cells e) off n with
     |some ds=>match dN agg (ds.map .p)with
      |some d=>val d
      |none=>none
     |none=>none
    |none=>none
   |_=>none
  |[.ip x off]=>match sub (cells x) off n with
   |some ds=>match dN agg (ds.map .p)with
    |some d=>val d
    |none=>none
   |none=>none
  |[.p (.ptr x)]=>match sub (cells x) 0 n with
   |some ds=>match dN agg (ds.map .p)with
    |some d=>val d
    |none=>none
   |none=>none
  |_=>none
def kV (n:Nat)(vs:List D)(ids:LN)(obs:List Ob):Option eV:=
 match vs with
  |[.box id off,d]=>
   let xs:=bl d
   match ej (ids.zip obs) id with
   | .box cs=>bif Nat.beq xs.length n&&Nat.ble (off+n) cs.length&&xs.all du then(bif b3 (splice cs off xs)&&!b3 cs then none else some (.junk,[(id,.box (splice cs off xs))],[]))else none
   |_=>none
  |[.el id i off,d]=>
   let os:=(ids.zip obs).filter fun p=>!Nat.beq p.1 id
   match ej (ids.zip obs) id with
   | .arr es=>match es[i]? with
    |some e=>match pur os d with
     |some x=>
      bif Nat.beq (cells x).length n&&Nat.ble (off+n) (cells e).length then
       match eK e (splice (cells e) off (cells x))with
       |some e'=>some (.junk,dh os++[(id,.arr (es.set i e'))],[])
       |none=>none
      else none
     |none=>none
    |none=>none
   |_=>none
  |_=>none
def nG (vs:List D):Option eV:=
 match vs with
 |[d]=>bif zY d then val d else none
 |_=>none
def yR (op:BinOp)(vs:List D):Option eV:=
 match vs with|[x,y]=>jg (bin op x y)|_=>none
def NQ (op:BinOp)(vs:List D):Option eV:=
 match vs with|[x,y]=>jg (binB op x y)|_=>none
def NR (kd:Nat)(op:BinOp)(vs:List D):Option eV:=
 match vs with|[x,y]=>jg (binN kd op x y)|_=>none
def xq (ks:LN)(op:BinOp)(vs:List D):Option eV:=
 match vs with|[x,y]=>jg (binS ks op x y)|_=>none
def ZT (op:UnOp)(vs:List D):Option eV:=
 match vs with|[x]=>jg (un op x)|_=>none
def HM (k:IntKind)(vs:List D):Option eV:=
 match vs with|[.p (.int _ n)]=>val (.p (.int k (ag k n)))|[.p (.sym _ s)]=>jg (Uh k s)|_=>none
def HO (vs:List D):Option eV:=
 match vs with|[.p (.str s)]=>val (.p (.str s))|_=>none
def B7 (t:Nat)(vs:List D):Option eV:=
 match vs with
  |[.p x]=>val (.p (.iface t x))
  |[d]=>val (.iface t d)
  |_=>none
def B6 (f:Nat)(vs:List D):Option eV:=
 match gT vs with
  |some xs=>val (.p (.fn f xs))
  |none=>val (.fn f vs)
def FA (base:Nat)(kk:Nat):Option eV:=
 some (.map (base+kk),[(base+kk,.map [] [])],[])
def B8 (esz:Nat)(z:Da)(bytes:Nat)(base:Nat)(kk:Nat)(vs:List D):Option eV:=
 match vs with
  |[.p (.int _ l),.p (.int _ c)]=>
   bif aL 0 l&&aL l c&&Nat.ble (c.toNat*bytes) 281474976710656&&aL c 9223372036854775807 then
    some (.arr (base+kk) 0 l.toNat esz,[(base+kk,.arr (List.replicate l.toNat z))],[])else none
  |_=>none
def kU (lo:Bool)(hi:Bool)(vs:List D):Option eV:=
 match vs with
  | .p (.str s)::xs=>match l0 lo hi false s.length xs with
   |some (l,h,_)=>val (.p (.str ((s.drop l).take (h - l))))
   |none=>none
  |_=>none
def mh (os:List (Nat×Ob))(id lo:Nat):Bool:=
 match ej os id with
 | .arr es=>Nat.blt lo es.length
 | .fz es=>Nat.blt lo es.length
 |_=>false
def gc (esz:Nat)(lo:Bool)(hi:Bool)(mx:Bool)(vs:List D)(ids:LN)(obs:List Ob):Option eV:=
 match vs with
  | .p (.slice z es)::xs=>bif s0 z esz es then match l0 lo hi mx es.length xs with
   |some (l,h,m)=>val (bif mx&&Nat.beq h m then .sl .exact z ((es.drop l).take (h - l))else .p (.slice z ((es.drop l).take (h - l))))
   |none=>none
   else none
  | .sl g z es::xs=>bif s0 z esz es then match l0 lo hi mx es.length xs with
   |some (l,h,m)=>val (match g with
    | .nil=> .sl .nil z []
    | .exact=>bif Nat.beq h m then .sl .exact z ((es.drop l).take (h - l))else .p (.slice z ((es.drop l).take (h - l)))
    |_=>bif mx&&Nat.beq h m then .sl .exact z ((es.drop l).take (h - l))else .p (.slice z ((es.drop l).take (h - l))))
   |none=>none
   else none
  | .arr id lo0 len0 z::xs=>bif Nat.beq z esz then match l0 lo hi mx len0 xs with
   |some (l,h,m)=>
    bif mx then bif Nat.beq m l then val (.sl .exact z [])else match ej (ids.zip obs) id with
     | .arr es=>some (bif Nat.beq h m then .sl .exact z ((es.drop (lo0+l)).take (h - l))else .p (.slice z ((es.drop (lo0+l)).take (h - l))),[(id,.fz es)],[])
     | .fz es=>val (bif Nat.beq h m then .sl .exact z ((es.drop (lo0+l)).take (h - l))else .p (.slice z ((es.drop (lo0+l)).take (h - l))))
     |_=>none
    else bif lo&&!hi&&(Nat.beq l h&&mh (ids.zip obs) id lo0)then val (.sl .some z [])else val (.arr id (lo0+l) (h - l) z)
   |none=>none
   else none
  |_=>none
def We (off:Nat)(vs:List D):Option eV:=
 match vs with
  |[.box id o]=>val (.box id (o+off))
  |[.el id i o]=>val (.el id i (o+off))
  |[.ip x o]=>val (.ip x (o+off))
  |[.p (.ptr x)]=>val (.ip x off)
  |_=>none
def B2 (off:Nat)(n:Nat)(agg:Bool)(vs:List D):Option eV:=
 match vs with
  |[.p (.agg cs)]=>match sub (cs.map .p) off n with
   |some ds=>match dN agg ds with
    |some d=>val d
    |none=>none
   |none=>none
  |[.agg ds]=>match sub ds off n with
   |some ds=>match dN agg ds with
    |some d=>val d
    |none=>none
   |none=>none
  |_=>none
def HN (esz:Nat)(vs:List D):Option eV:=
 match vs with
  |[.p (.slice z es),.p (.int _ i)]=>bif Nat.beq z esz then match bU es i with
   |some e=>val (.ip e 0)
   |none=>none
   else none
  |[.p (.sliceE z es),.p (.int _ i)]=>bif Nat.beq z esz then match bU es i with
   |some e=>val (.ip e 0)
   |none=>none
   else none
  |[.sl _ z es,.p (.int _ i)]=>bif Nat.beq z esz then match bU es i with
   |some e=>val (.ip e 0)
   |none=>none
   else none
  |[.arr id lo len z,.p (.int _ i)]=>bif Nat.beq z esz&&aL 0 i&&aG i len then val (.el id (lo+i.toNat) 0)else none
  |_=>none
def B3 (n:Nat)(esz:Nat)(vs:List D):Option eV:=
 match vs with
  |[.box id o,.p (.int _ i)]=>bif aL 0 i&&aG i n then val (.box id (o+i.toNat*esz))else none
  |[.ip x o,.p (.int _ i)]=>bif aL 0 i&&aG i n then val (.ip x (o+i.toNat*esz))else none
  |_=>none
def RZ (vs:List D):Option eV:=
 match vs with
  |[.p (.str s),.p (.int _ i)]=>match (bif aL 0 i then s[i.toNat]? else none)with
   |some b=>val (.p (.int .u8 (Int.ofNat b)))
   |none=>none
  |_=>none
def Fz (n esz:Nat)(agg:Bool)(vs:List D):Option eV:=
 match vs with
  |[.p (.agg cs),.p (.int _ i)]=>bif aL 0 i&&aG i n then(match sub (cs.map .p) (i.toNat*esz) esz with
   |some ds=>match dN agg ds with
    |some d=>val d
    |none=>none
   |none=>none)else none
  |_=>none
def K4 (kt:TypeDesc)(z:D)(ok:Bool)(ks:LD)(ws:List D)(k:D):Option eV:=
 match k with
 | .p k=>match cr kt k ks 0 with
  |some (some i)=>match ws[i]? with
   |some v=>val (bif ok then .tup [v,.p (.bool true)]else v)
   |none=>none
  |some none=>val (bif ok then .tup [z,.p (.bool false)]else z)
  |none=>none
 |_=>none
def II (kt:TypeDesc)(id:Nat)(k:Da)(d:D)(ks:LD)(ws:List D):Option eV:=
 match cr kt k ks 0 with
 |some (some i)=>some (.junk,[(id,.mapd ks (ws.set i d))],[])
 |some none=>some (.junk,[(id,.mapd (ks++[k]) (ws++[d]))],[])
 |none=>none
def tW (kt:TypeDesc)(z:D)(ok:Bool)(vs:List D)(ids:LN)(obs:List Ob):Option eV:=
   let r (ks ws:LD) (k:D):Option eV:=match k with
   | .p k=>match cr kt k ks 0 with
    |some (some i)=>match ws[i]? with
     |some v=>val (bif ok then .tup [.p v,.p (.bool true)]else .p v)
     |none=>none
    |some none=>val (bif ok then .tup [z,.p (.bool false)]else z)
    |none=>none
   |_=>none
  match vs with
  |[.p .nilmap,k]=>r [] [] k
  |[.p (.map ks ws),k]=>r ks ws k
  |[.map id,k]=>match ej (ids.zip obs) id with
   | .map ks ws=>r ks ws k
   | .fzm ks ws=>r ks ws k
   | .mapd ks ws=>K4 kt z ok ks ws k
   |_=>none
  |_=>none
def J3 (esz:Nat)(vs:List D)(ids:LN)(obs:List Ob):Option eV:=
 match vs with
  |[.arr id lo len z,b]=>match ej (ids.zip obs) id with
   | .arr es=>match elems esz (ids.zip obs) b with
    |some ys=>bif(ys.take len).isEmpty then val (.p (xR 0))else
     bif Nat.beq z esz then some (.p (xR (ys.take len).length),[(id,.arr (splice es lo (ys.take len)))],[])else none
    |none=>none
   |_=>none
  |_=>none
def Wd (esz:Nat)(z:Da)(vs:List D)(ids:LN)(obs:List Ob):Option eV:=
 match vs with
  |[.arr id lo len y]=>match ej (ids.zip obs) id with
   | .arr es=>bif Nat.beq len 0 then val (.tup [])else
     bif Nat.beq y esz then some (.tup [],[(id,.arr (splice es lo (List.replicate len z)))],[])else none
   |_=>none
  |_=>none
def rA (os:List (Nat×Ob))(id:Nat):Option Nat:=
 match ej os id with
 | .arr es=>some es.length
 | .fz es=>some es.length
 |_=>none
def Wf (esz:Nat)(lo:Bool)(vs:List D)(ids:LN)(obs:List Ob):Option eV:=
 match vs with
  | .arr id lo0 _ z::xs=>bif Nat.beq z esz then match rA (ids.zip obs) id with
   |some n=>match l0 lo true false (n - lo0) xs with
    |some (l,h,_)=>val (.arr id (lo0+l) (h - l) z)
    |none=>none
   |none=>none
   else none
  |_=>none
def J5 (esz:Nat)(lo hi:Bool)(vs:List D):Option eV:=
 match vs with
  | .arr id lo0 len0 z::xs=>bif Nat.beq z esz then match l0 lo hi false len0 xs with
   |some (l,h,_)=>val (.arr id (lo0+l) (h - l) z)
   |none=>none
   else none
  |_=>none
def HP (lo hi:Bool)(vs:List D):Option eV:=
 match vs with
  | .arr _ _ len0 _::xs=>match l0 lo hi true len0 xs with
   |some _=>val .junk
   |none=>none
  |_=>none
def NO (esz:Nat)(vs:List D)(ids:LN)(obs:List Ob):Option eV:=
 match vs with
  |[.arr id lo len z,b]=>match elems esz (ids.zip obs) b with
   |some ys=>bif ys.isEmpty then val (.arr id lo len z)else none
   |none=>none
  |_=>none
def rx (kt:TypeDesc)(vs:List D)(ids:LN)(obs:List Ob):Option eV:=
 match vs with
  |[.map id,.p k,d]=>
   let os:=(ids.zip obs).filter fun p=>!Nat.beq p.1 id
   match ej (ids.zip obs) id with
   | .map ks ws=>match pur os d with
    |some x=>match cr kt k ks 0 with
     |some (some i)=>some (.junk,dh os++[(id,.map ks (ws.set i x))],[])
     |some none=>some (.junk,dh os++[(id,.map (ks++[k]) (ws++[x]))],[])
     |none=>none
    |none=>II kt id k d ks (ws.map .p)
   | .mapd ks ws=>II kt id k d ks ws
   |_=>none
  |_=>none
def Fy (i:Nat)(vs:List D):Option eV:=
 match vs with
  |[.tup ds]=>match ds[i]? with
   |some d=>val d
   |none=>none
  |_=>none
def NV (call:aD)(vs:List D)(ids:LN)(obs:List Ob)(len:Nat):Option eV:=
 match vs with
  | .p (.fn f caps)::args=>fg call (wi f) (fX f (caps.map .p) (args.map norm)) ids obs len
  | .fn f caps::args=>fg call (wi f) (fX f caps (args.map norm)) ids obs len
  |_=>none
def J4 (kd:Nat)(vs:List D)(ids:LN)(obs:List Ob):Option eV:=
 match kd,vs with
  |0,[.p (.str s)]=>val (.p (xR s.length))
  |1,[d]=>match pW d with
   |some n=>val (.p (xR n))
   |none=>none
  |2,[.map id]=>match ej (ids.zip obs) id with
   | .map ks _=>val (.p (xR ks.length))
   | .fzm ks _=>val (.p (xR ks.length))
   |_=>none
  |2,[.p .nilmap]=>val (.p (xR 0))
  |2,[.p (.map ks _)]=>val (.p (xR ks.length))
  |_,_=>none
def NW (vs:List D):Option eV:=
 match vs with
  |[.sl .exact _ es]=>val (.p (xR es.length))
  |[.sl .nil _ _]=>val (.p (xR 0))
  |_=>none
def B5 (vs:List D):Option eV:=
 match vs with
  |[.p (.int k a),.p (.int k' b)]=>if k=k' then val (.p (.int k (bif aG b a then b else a)))else none
  |_=>none
def B4 (vs:List D):Option eV:=
 match vs with
  |[.p (.int k a),.p (.int k' b)]=>if k=k' then val (.p (.int k (bif aG a b then b else a)))else none
  |_=>none
def lu (esz:Nat)(bytes:Nat)(base:Nat)(kk:Nat)(vs:List D)(ids:LN)(obs:List Ob):Option eV:=
 match vs with
  |[a,b]=>match jv esz (ids.zip obs) a with
   |some (xs,kill)=>match elems esz (ids.zip obs) b with
    |some ys=>
     bif kill.isEmpty&&ys.isEmpty&&!xs.isEmpty then val a else
     bif Nat.ble ((2*(xs.length+ys.length)+192)*bytes) 281474976710656&&Nat.ble (2*(xs.length+ys.length)+192) 9223372036854775807 then
      some (.arr (base+kk) 0 (xs.length+ys.length) esz,kill++[(base+kk,.arr (xs++ys))],[])
     else none
    |none=>none
   |none=>none
  |_=>none
def ua (os:List (Nat×Ob)):D->Option (LD×List (Nat×Ob))
 | .sl .nil _ _=>some ([],[])
 | .arr id lo len z=>match ej os id with
  | .byt es=>bif Nat.beq z 1 then some ((es.drop lo).take len,[(id,.dead)])else none
  |_=>none
 |_=>none
def tV (bytes:Nat)(base:Nat)(kk:Nat)(vs:List D)(ids:LN)(obs:List Ob):Option eV:=
 match vs with
  |[a,b]=>match ua (ids.zip obs) a with
   |some (xs,kill)=>match elems 1 (ids.zip obs) b with
    |some ys=>
     bif kill.isEmpty&&ys.isEmpty&&!xs.isEmpty then none else
     bif Nat.ble ((2*(xs.length+ys.length)+192)*bytes) 281474976710656&&Nat.ble (2*(xs.length+ys.length)+192) 9223372036854775807 then
      some (.arr (base+kk) 0 (xs.length+ys.length) 1,kill++[(base+kk,.byt (xs++ys))],[])
     else none
    |none=>none
   |none=>none
  |_=>none
def NP (esz:Nat)(z:Da)(bytes:Nat)(base:Nat)(kk:Nat)(vs:List D)(ids:LN)(obs:List Ob):Option eV:=
 match vs with
  |[a,.p (.int _ n)]=>match jv esz (ids.zip obs) a with
   |some (xs,kill)=>
    bif aL 0 n&&Nat.ble ((2*(xs.length+n.toNat)+192)*bytes) 281474976710656&&Nat.ble (2*(xs.length+n.toNat)+192) 9223372036854775807 then
     bif kill.isEmpty&&az n 0&&!xs.isEmpty then val a else
     some (.arr (base+kk) 0 (xs.length+n.toNat) esz,kill++[(base+kk,.arr (xs++List.replicate n.toNat z))],[])
    else none
   |none=>none
  |_=>none
def lP (t:Nat)(z:D)(ok:Bool)(vs:List D):Option eV:=
 match vs with
  |[.p (.iface t' x)]=>bif Nat.beq t t' then val (bif ok then .tup [.p x,.p (.bool true)]else .p x)else bif ok then val (.tup [z,.p (.bool false)])else none
  |[.iface t' d]=>bif Nat.beq t t' then val (bif ok then .tup [d,.p (.bool true)]else d)else bif ok then val (.tup [z,.p (.bool false)])else none
  |_=>none
def NX (base:Nat)(kk:Nat)(vs:List D)(ids:LN)(obs:List Ob):Option eV:=
 match vs with
  |[.iface t (.map id)]=>match ej (ids.zip obs) id with
   | .map ks ws=>some (.iface t (.map (base+kk)),[(base+kk,.map ks ws)],[])
   | .fzm ks ws=>some (.iface t (.map (base+kk)),[(base+kk,.map ks ws)],[])
   |_=>none
  |[.p (.iface t (.map ks ws))]=>some (.iface t (.map (base+kk)),[(base+kk,.map ks ws)],[])
  |_=>none
def J1 (vs:List D)(ids:LN)(obs:List Ob):Option eV:=
 match vs with
  |[d]=>match elems 1 (ids.zip obs) d with
   |some es=>match fU es with
    |some s=>val (.p (.str s))
    |none=>none
   |none=>none
  |_=>none
def NY (vs:List D):Option eV:=
 match vs with
  |[.p (.str s)]=>val (.p (.slice 1 (s.map fun b=> .int .u8 (Int.ofNat b))))
  |_=>none
def Yz (vs:List D):Option eV:=
 match vs with|[x,y]=>jg (GM x y)|_=>none
def Wg (vs:List D)(obs:List Ob):Option eV:=
 match vs with
  |[.box id off]=>match obs with
   |[.box cs]=>bif Nat.beq off 0&&b3 cs then val (.box id off)else none
   |_=>none
  |_=>none
def nH (vs:List D):Option eV:=
 match vs with
  |[.arr id lo len _]=>bif Nat.beq len 0 then none else val (.el id lo 0)
  |[.sl .nil _ []]=>val (.p .nilptr)
  |_=>none
def xv (vs:List D)(ids:LN)(obs:List Ob):Option eV:=
 match vs with
  |[.el id i off,.p (.int k n)]=>match ej (ids.zip obs) id with
   | .byt es=>bif Nat.beq off 0&&((aL 1 n&&aL n 9223372036854775807)&&Nat.ble (i+n.toNat) es.length)then
     if k= .i64 then match fU ((es.drop i).take n.toNat)with
      |some s=>some (.p (.str s),[(id,.dead)],[])
      |none=>none
     else none
    else none
   |_=>none
  |[.p .nilptr,.p (.int k n)]=>bif az n 0 then(if k= .i64 then val (.p (.str []))else none)else none
  |_=>none
def nb (call:aD)(base:Nat)(o:O)(kk:Nat)(vs:List D)(ids:LN)(obs:List Ob)(len:Nat):Option eV:=
 match o with
 | .mv=>Yk vs
 | .pick=>xu vs
 | .alloc zs=>NN zs base kk
 | .box n=>NS n base kk vs
 | .build zs ps=>nF zs ps vs
 | .bsl esz z n ps=>J2 esz z n ps vs ids obs
 | .bsle esz z n ps=>NT esz z n ps vs ids obs
 | .bslm esz z n ps=>NU esz z n ps base kk vs ids obs
 | .load n agg=>fJ n agg vs obs
 | .store n=>kV n vs ids obs
 | .nilck=>nG vs
 | .bin op=>yR op vs
 | .binB op=>NQ op vs
 | .binN kd op=>NR kd op vs
 | .binS ks op=>xq ks op vs
 | .un op=>ZT op vs
 | .conv k=>HM k vs
 | .same=>HO vs
 | .mkif t=>B7 t vs
 | .mkfn f=>B6 f vs
 | .mkmap=>FA base kk
 | .mksl esz z bytes=>B8 esz z bytes base kk vs
 | .slStr lo hi=>kU lo hi vs
 | .slSl esz lo hi mx=>gc esz lo hi mx vs ids obs
 | .fa off=>We off vs
 | .fld off n agg=>B2 off n agg vs
 | .ia esz=>HN esz vs
 | .iaa n esz=>B3 n esz vs
 | .ix=>RZ vs
 | .ixa n esz agg=>Fz n esz agg vs
 | .lkp kt z ok=>tW kt z ok vs ids obs
 | .mupd kt=>rx kt vs ids obs
 | .cpy esz=>J3 esz vs ids obs
 | .clr esz z=>Wd esz z vs ids obs
 | .slX esz lo=>Wf esz lo vs ids obs
 | .slck lo hi=>HP lo hi vs
 | .slW esz lo hi=>J5 esz lo hi vs
 | .appI esz=>NO esz vs ids obs
 | .ext i=>Fy i vs
 | .call f raw=>fg call f (bif raw then vs else vs.map norm) ids obs len
 | .callv=>NV call vs ids obs len
 | .len kd=>J4 kd vs ids obs
 | .cap=>NW vs
 | .min2=>B5 vs
 | .max2=>B4 vs
 | .app esz bytes=>lu esz bytes base kk vs ids obs
 | .appm esz z bytes=>NP esz z bytes base kk vs ids obs
 | .assertT t z ok=>lP t z ok vs
 | .clone=>NX base kk vs ids obs
 | .b2s=>J1 vs ids obs
 | .uns=>Wg vs obs
 | .pne=>Yz vs
 | .appB bytes=>tV bytes base kk vs ids obs
 | .sdata=>nH vs
 | .ustr=>xv vs ids obs
 | .pan=>none
 | .s2b=>NY vs
def grow (hp:List Ob):List Ob->List Ob
 |[]=>hp
 |o::r=>hp++(o::r)
def KC:List (Int×Int×Int)->List (Int×Int×Int)->Bool
 |[],[]=>true
 |(a,l,h)::r,(b,m,i)::s=>az a b&&(az l m&&(az h i&&KC r s))
 |_,_=>false
def Xd:Sy->Sy->Bool
 | .lin c ks,.lin d js=>az c d&&KC ks js
 | .rng a b,.rng c d=>az a c&&az b d
 |_,_=>false
mutual
def ze:Da->Da->Bool
 | .bool a,.bool b=>a==b
 | .int i a,.int j b=>decide (i=j)&&az a b
 | .str a,.str b=>cg a b
 | .agg a,.agg b=>j1 a b
 | .slice z a,.slice y b=>Nat.beq z y&&j1 a b
 | .nilptr,.nilptr=>true
 | .ptr a,.ptr b=>ze a b
 | .map a b,.map c d=>j1 a c&&j1 b d
 | .nilmap,.nilmap=>true
 | .fn f a,.fn g b=>Nat.beq f g&&j1 a b
 | .nilfn,.nilfn=>true
 | .sym i a,.sym j b=>decide (i=j)&&Xd a b
 |_,_=>false
def j1:LD->LD->Bool
 |[],[]=>true
 |a::r,b::s=>ze a b&&j1 r s
 |_,_=>false
end
mutual
def FW:D->D->Bool
 | .p a,.p b=>ze a b
 | .agg a,.agg b=>zf a b
 | .box i o,.box j p=>Nat.beq i j&&Nat.beq o p
 | .arr i a b c,.arr j d e f=>Nat.beq i j&&(Nat.beq a d&&(Nat.beq b e&&Nat.beq c f))
 | .sl .nil z a,.sl .nil y b=>Nat.beq z y&&j1 a b
 | .sl .exact z a,.sl .exact y b=>Nat.beq z y&&j1 a b
 | .map i,.map j=>Nat.beq i j
 | .fn f a,.fn g b=>Nat.beq f g&&zf a b
 |_,_=>false
def zf:List D->List D->Bool
 |[],[]=>true
 |a::r,b::s=>FW a b&&zf r s
 |_,_=>false
end
def qK:Ob->Ob->Bool
 | .box a,.box b=>zf a b
 | .arr a,.arr b=>j1 a b
 | .fz a,.fz b=>j1 a b
 | .map a b,.map c d=>j1 a c&&j1 b d
 | .fzm a b,.fzm c d=>j1 a c&&j1 b d
 | .mapd a b,.mapd c d=>j1 a c&&zf b d
 | .may a b,.may c d=>(a==c)&&j1 b d
 |_,_=>false
def lk (i:Nat):LN->Bool
 |[]=>false
 |j::r=>bif Nat.beq j i then true else lk i r
class Mv where
 mv:Nat->Bool
 ex:Nat->Nat
 sm:Nat->Bool
 eq:Ob->Ob->Bool
 ok:∀a b,eq a b=true->a=b
 rf:∀f,sm f=true->∀a,eq a a=true
def f8 [Mv](ids:LN)(hp:List Ob):List (Nat×Ob)->LN
 |[]=>[]
 |(i,o)::r=>bif lk i ids&&Mv.eq (aI hp i) o then f8 ids hp r else i::f8 ids hp r
structure dR where
 (rs ws:LN)
 grow:Bool
 lim:Nat
def dJ:O->Bool
 | .alloc _=>true
 | .box _=>true
 | .mkmap=>true
 | .mksl _ _ _=>true
 | .bslm _ _ _ _=>true
 | .app _ _=>true
 | .appm _ _ _=>true
 | .appB _=>true
 | .clone=>true
 |_=>false
def cT:Ob->Bool
 | .unborn=>true
 |_=>false
def gV:LN->LN->LN
 |[],acc=>acc
 |i::r,acc=>bif acc.contains i then gV r acc else gV r (acc++[i])
def k8 [Mv](f:Nat)(ws:LN)(hp:List Ob):LN:=
 bif Mv.mv f then ce hp aZ ((gV ws []).flatMap fun i=>gj (aI hp i)) (gV ws [])else ce hp aZ ws []
def dW [Mv](f:Nat)(ds:List D)(n:Nat):Nat:=bif Mv.mv f then min ((gV (dids.didsL ds) []).length+Mv.ex f) n else n
def iy (call:aD)(f:Nat)(args:List D)(m:Nat)(ids:LN)(obs:List Ob)(len:Nat):Option eV:=
 match call f (mapD.mapDL (idx ids) args) (obs.map (bS (idx ids)))with
 |none=>none
 |some (r,out)=>
  bif Nat.ble m out.length then
   let σ:=back m len ids out.length
   let out':=out.map (bS σ)
   some (mapD σ r,(ids.take m).zip out'++(ids.drop m).map (fun i=>(i,.dead)),out'.drop m)
  else none
def lS [Mv](call:aD)(f:Nat)(args:List D)(ids:LN)(obs:List Ob)(len:Nat):Option eV:=
 bif Mv.mv f then iy call f args (dW f (mapD.mapDL (idx ids) args) ids.length) ids obs len else fg call f args ids obs len
def uh [Mv](call:aD)(vs:List D)(ids:LN)(obs:List Ob)(len:Nat):Option eV:=
 match vs with
  | .p (.fn f caps)::args=>lS call (wi f) (fX f (caps.map .p) (args.map norm)) ids obs len
  | .fn f caps::args=>lS call (wi f) (fX f caps (args.map norm)) ids obs len
  |_=>none
def nr [Mv](vs:List D)(hp:List Ob):LN:=
 match vs with
 | .fn f caps::args=>bif Mv.mv (wi f)then k8 (wi f) (dids.didsL (fX f caps (args.map norm))) hp else bm .callv vs hp
 | .p (.fn f caps)::args=>bif Mv.mv (wi f)then k8 (wi f) (dids.didsL (fX f (caps.map .p) (args.map norm))) hp else bm .callv vs hp
 |_=>bm .callv vs hp
def c5 [Mv](o:O)(vs:List D)(hp:List Ob):LN:=
 match o with
 | .call f _=>k8 f (dids.didsL vs) hp
 | .callv=>nr vs hp
 |o=>bm o vs hp
def qv [Mv](call:aD)(base:Nat)(o:O)(kk:Nat)(vs:List D)(ids:LN)(obs:List Ob)(len:Nat):Option eV:=
 match o with
 | .call f raw=>lS call f (bif raw then vs else vs.map norm) ids obs len
 | .callv=>uh call vs ids obs len
 |o=>nb call base o kk vs ids obs len
def nf [Mv](call:aD)(base:Nat)(x:ek)(st:St):Option (St×dR):=
 let vs:=x.as.map (ev st.tm)
 let ids:=c5 x.op vs st.hp
 bif !(dJ x.op)||cT (aI st.hp (base+x.k))then
  match qv call base x.op x.k vs ids (ids.map (aI st.hp)) st.hp.length with
  |none=>none
  |some (v,ups,new)=>some (⟨put x.dst v st.tm,grow (au st.hp ups) new⟩,⟨bif dJ x.op then(base+x.k)::ids else ids,f8 ids st.hp ups,!new.isEmpty,st.hp.length⟩)
 else none
def c7 (x:ek)(tm:Tm):Option Bool:=
 match x.gd with
 |none=>some true
 |some (g,want)=>match get tm g with
  | .p (.bool b)=>some (b==want)
  | .tup []=>some false
  |_=>none
def jz [Mv](call:aD)(base:Nat):List ek->St->Option St
 |[],st=>some st
 |x::r,st=>match c7 x st.tm with
  |none=>none
  |some true=>match nf call base x st with
   |none=>none
   |some (st',_)=>jz call base r st'
  |some false=>jz call base r ⟨put x.dst (.tup []) st.tm,st.hp⟩
def eh [Mv](call:aD)(base:Nat):List ek->St->List dR->Option (St×List dR)
 |[],st,fs=>some (st,fs.reverse)
 |x::r,st,fs=>match c7 x st.tm with
  |none=>none
  |some true=>match nf call base x st with
   |none=>none
   |some (st',f)=>eh call base r st' (f::fs)
  |some false=>eh call base r ⟨put x.dst (.tup []) st.tm,st.hp⟩ (⟨[],[],false,0⟩::fs)
def wr (a:dR)(i:Nat):Bool:=a.ws.contains i||(a.grow&&Nat.ble a.lim i)
def ju (a b:dR):Bool:=
 b.rs.all (fun i=>!wr a i)&&b.ws.all (fun i=>!wr a i)&&a.rs.all (fun i=>!wr b i)&&a.ws.all (fun i=>!wr b i)&&!(a.grow&&b.grow)
def eQ (fs:List dR):List (Nat×Nat)->Bool
 |[]=>true
 |(i,j)::r=>match fs[i]?,fs[j]? with
  |some a,some b=>ju a b&&eQ fs r
  |_,_=>false
def pe [Mv](call:aD)(nal:Nat)(ops:List ek)(prs:Option (List (Nat×Nat)))(st:St):Option St:=
 let st':St:=⟨st.tm,grow st.hp (List.replicate nal .unborn)⟩
 match prs with
 |none=>jz call st.hp.length ops st'
 |some ps=>match eh call st.hp.length ops st' []with
  |some (st'',fs)=>bif eQ fs ps then some st'' else none
  |none=>none
def bJ (ids:LN)(hp:List Ob):List Ob:=ids.map fun i=>bS (idx ids) (aI hp i)
def Lj:D->Bool
 | .sl .nil _ _=>true
 | .sl .exact _ []=>true
 |_=>false
def eS (out:LN)(f:D->D)(tm:Tm):Tm:=
 match out with
 |[]=> .nil
 |s::r=> .cons s (f (get tm s)) (eS r f tm)
def Yo (st:St)(s off:Nat):D:=bif Nat.ble 1000 off then(match get st.tm s with
 | .box id o=>(match aI st.hp id with
  | .box cs=>cs.getD o .junk
  |_=> .junk)
 |_=> .junk)else get st.tm s
def F7 (off:Nat):Nat:=bif Nat.ble 1000 off then off - 1000 else off
def dU (m:Nat)(g:Gh)(st:St):Option St:=
 match g with
 | .own s z=>bif Lj (get st.tm s)then some ⟨.cons s (.arr st.hp.length 0 0 z) st.tm,st.hp++[.arr []]⟩else some st
 | .ownc s off z=>match Yo st s off with
  | .box id o=>match aI st.hp id with
   | .box cs=>match cs[o+F7 off]? with
    |some d=>bif Lj d then some ⟨st.tm,jd st.hp id (.box (cs.set (o+F7 off) (.arr st.hp.length 0 0 z)))++[.arr []]⟩else some st
    |none=>none
   |_=>none
  |_=>none
 | .frz s=>
  let d:=get st.tm s
  let os:=(dids d).map fun i=>(i,aI st.hp i)
  match pur os d with
  |some x=>some ⟨.cons s (.p x) st.tm,au st.hp (dh os)⟩
  |none=>none
 | .frzc s off=>match Yo st s off with
  | .box id o=>match aI st.hp id with
   | .box cs=>match cs[o+F7 off]? with
    |some d=>bif(dids d).contains id then none else
     match pur ((dids d).map fun i=>(i,aI st.hp i)) d with
     |some x=>bif b3 (cs.set (o+F7 off) (.p x))&&!b3 cs then none else some ⟨st.tm,jd (au st.hp (dh ((dids d).map fun i=>(i,aI st.hp i)))) id (.box (cs.set (o+F7 off) (.p x)))⟩
     |none=>none
    |none=>none
   |_=>none
  |_=>none
 | .tog s off=>match Yo st s off with
  | .box id o=>match aI st.hp id with
   | .box cs=>match cs[o+F7 off]? with
    |some (.arr i _ _ _)=>match aI st.hp i with
     | .arr es=>some ⟨st.tm,jd st.hp i (.may false es)⟩
     | .fz es=>some ⟨st.tm,jd st.hp i (.may true es)⟩
     | .may b es=>bif b then none else some ⟨st.tm,jd st.hp i (.arr es)⟩
     |_=>none
    |_=>none
   |_=>none
  |_=>none
 | .pst _ _=>some st
 | .pfz _ _=>some st
 | .pkp _=>some st
 | .keep live=>
  let ids:=ce st.hp aZ (dids.didsL (live.map (get st.tm))++(st.hp.take m).flatMap gj) (List.range m)
  some ⟨eS live (mapD (idx ids)) st.tm,bJ ids st.hp⟩
inductive Ex where
 |norm
 |exit (id:Nat)
 |ret
def GL:Gh->Option Gh
 | .pst s off=>some (.tog s off)
 | .pfz s off=>some (.frzc s off)
 | .pkp live=>some (.keep live)
 |_=>none
def vh (m:Nat)(g:Gh)(o:Option (Ex×St)):Option (Ex×St):=
 match GL g with
 |some h=>match o with
  |some (ex,st)=>match dU m h st with
   |some st'=>some (ex,st')
   |none=>none
  |none=>none
 |none=>o
def qU (m:Nat)(body:St->Option (Ex×St))(live:LN):Nat->St->Option (Ex×St)
 |0,_=>none
 |n+1,st=>match dU m (.keep live) st with
  |none=>none
  |some st=>match body st with
   |some (.norm,st')=>qU m body live n st'
   |r=>r
def bN [Mv](call:aD)(ei m:Nat):Co->St->Option (Ex×St)
 | .skip,st=>some (.norm,st)
 | .reg nal ops prs out,st=>match pe call nal ops prs st with
  |some st'=>some (.norm,⟨eS out id st'.tm,st'.hp⟩)
  |none=>none
 | .seq a b,st=>match bN call ei m a st with
  |some (.norm,st')=>bN call ei m b st'
  |r=>r
 | .cond c t e,st=>match ev st.tm c with
  | .p (.bool b)=>match b with
   |true=>bN call ei m t st
   |false=>bN call ei m e st
  |_=>none
 | .block id b,st=>match bN call ei m b st with
  |some (.exit i,st')=>bif Nat.beq i id then some (.norm,st')else some (.exit i,st')
  |r=>r
 | .loop live b,st=>qU m (bN call ei m b) live ei st
 | .exit id,st=>some (.exit id,st)
 | .ret,st=>some (.ret,st)
 | .gh g c,st=>match dU m g st with
  |some st'=>vh m g (bN call ei m c st')
  |none=>none
def CG (st:St):Rv->Option D
 | .t n=>some (get st.tm n)
 | .cell a n agg=>match get st.tm a with
  | .box id off=>match aI st.hp id with
   | .box cs=>match sub cs off n with
    |some ds=>dN agg ds
    |none=>none
   |_=>none
  |_=>none
def iV (st:St):List Rv->Option (List D)
 |[]=>some []
 |r::rs=>match CG st r with
  |some d=>match iV st rs with
   |some ds=>some (d::ds)
   |none=>none
  |none=>none
def aa3 (hp:List Ob):List D->List D×List Ob
 |[]=>([],hp)
 |d::ds=>
  let os:=(dids d).map fun i=>(i,aI hp i)
  match pur os d with
  |some x=>let (r,hp'):=aa3 (au hp (dh os)) ds;(.p x::r,hp')
  |none=>let (r,hp'):=aa3 hp ds;(norm d::r,hp')
def one:List D->D
 |[d]=>d
 |ds=> .tup ds
def ep:List D->Nat->Tm
 |[],_=> .nil
 |d::r,n=> .cons n d (ep r (n+1))
def ji (m:Nat)(fz:Bool)(ds:List D)(hp:List Ob):D×List Ob:=
 let (ds,hp):=bif fz then aa3 hp ds else(ds,hp)
 let ids:=ce hp aZ (dids.didsL ds++(hp.take m).flatMap gj) (List.range m)
 (mapD (idx ids) (one ds),bJ ids hp)
def mC [Mv](m:Nat)(call:aD)(ei:Nat)(x:Fx)(args:List D)(hp:List Ob):Option (D×List Ob):=
 match bN call ei m x.body ⟨ep args 0,hp⟩with
 |some (.norm,st)=>match iV st x.res with
  |some ds=>some (ji m x.fz ds st.hp)
  |none=>none
 |some (.ret,st)=>match iV st x.res with
  |some ds=>some (ji m x.fz ds st.hp)
  |none=>none
 |_=>none
abbrev cw [Mv](call:aD)(ei:Nat)(x:Fx)(args:List D)(hp:List Ob):Option (D×List Ob):=mC hp.length call ei x args hp
inductive Fn where
 |code (x:Fx)
 |prim (g:LD->Option (D×List Ob))
 |both (g:LD->Option (D×List Ob)) (x:Fx)
 |any (g:List D->List Ob->Option (D×List Ob))
def evFn [Mv](tab:Nat->Option Fn):Nat->aD
 |0,_,_,_=>none
 |n+1,f,args,hp=>match tab f with
  |some (.code x)=>mC (dW f args hp.length) (evFn tab n) n x args hp
  |some (.prim g)=>match gT args with
   |some xs=>match hp with
    |[]=>g xs
    |_=>none
   |none=>none
  |some (.both g x)=>match gT args with
   |some xs=>match hp with
    |[]=>g xs
    |_=>mC (dW f args hp.length) (evFn tab n) n x args hp
   |none=>mC (dW f args hp.length) (evFn tab n) n x args hp
  |some (.any g)=>g args hp
  |none=>none
def dq:Value->Option Da
 | .bool b=>some (.bool b)
 | .int k n=>some (.int k n)
 | .string s=>some (.str (s.data.toList.map UInt8.toNat))
 | .pointer none=>some .nilptr
 | .map none=>some .nilmap
 | .nilFunc=>some .nilfn
 | .nilIface=>some .nilif
 |_=>none
abbrev bH:=Nat->Option Da
def und (P:Program)(t:TypeId):TypeDesc:=(P.underlying t).getD .invalid
def Pk (P:Program)(t:TypeId):Nat:=
 match und P t with
 | .slice e=>P.cellsOf e
 |_=>0
def cA (P:Program)(G:bH)(t:TypeId):Operand->Option A
 | .tmp n=>some (.t n)
 | .const v=>match v with
  | .slice none 0 0=>some (.n (Pk P t))
  |v=>(dq v).map .c
 | .func f=>bif Nat.blt f 1000000 then some (.f f)else none
 | .global g=>(G g).map .g
def lD (P:Program)(G:bH):List TypeId->List Operand->Option (List A)
 |_,[]=>some []
 |ts,x::r=>match cA P G (ts.headD 0) x with
  |some a=>match lD P G ts.tail r with
   |some as=>some (a::as)
   |none=>none
  |none=>none
def Vg (z:Nat):Value->Option D
 | .slice none 0 0=>some (.sl .nil z [])
 |v=>(dq v).map .p
def ui:LN->List Value->Option (List D)
 |_,[]=>some []
 |zs,v::r=>match Vg (zs.headD 0) v with
  |some x=>match ui zs.tail r with
   |some xs=>some (x::xs)
   |none=>none
  |none=>none
def OI (P:Program):Nat->TypeId->LN
 |0,_=>[]
 |n+1,t=>match und P t with
  | .struct fs=>fs.toList.flatMap fun f=>OI P n f.type
  | .array k e=>(List.replicate k (OI P n e)).flatten
  | .slice e=>[P.cellsOf e]
  |_=>[0]
structure Ty where
 size:Nat
 agg:Bool
 desc:TypeDesc
 bytes:Nat
def PP:TypeDesc->Bool
 | .struct _=>true
 | .array _ _=>true
 |_=>false
def ty (P:Program)(t:TypeId):Option Ty:=
 match P.info? t,P.underlying t with
 |some i,some d=>bif Nat.blt 0 i.size then some ⟨i.size,PP d,d,i.bytes⟩else none
 |_,_=>none
def US (z:Value)(y:Ty):Bool:=
 match z with
 | .agg _=>y.agg
 |_=>!y.agg
def ij (P:Program)(t:TypeId):Option (List D):=
 match P.info? t,ty P t with
 |some i,some y=>match i.zero with
  |some z=>bif Nat.beq z.cells.size y.size&&US z y then ui (OI P 12 t) z.cells.toList else none
  |none=>none
 |_,_=>none
def si (P:Program)(t:TypeId):Option D:=
 match ij P t,ty P t with
 |some ds,some y=>dN y.agg ds
 |_,_=>none
def gH (P:Program)(t:TypeId):Option Da:=
 match si P t with
 |some d=>pur [] d
 |none=>none
def dO:TypeDesc->Bool
 | .int _=>true
 | .string=>true
 |_=>false
def gB:Operand->Bool
 | .const _=>true
 |_=>false
def Zg:BinOp->Bool
 | .eql=>true
 | .neq=>true
 |_=>false
def lT (P:Program)(t:TypeId):Option Nat:=
 match ty P t with
 |some _=>match und P t with
  | .int _=>some 0
  | .string=>some 1
  | .bool=>some 2
  |_=>none
 |none=>none
def nS (P:Program):List Field->Nat->Option (LN)
 |[],_=>some []
 |f::r,n=>match lT P f.type with
  | some k => bif Nat.beq f.offset n && !(f.name == "_") then (match nS P r (n + 1) with
   |some ks=>some (k::ks)
   |none=>none)else none
  |none=>none
def IT (P:Program)(op:BinOp)(e:TypeId):Bool:=
 match op with
 | .neq=>(P.info? e).isSome
 |_=>false
def Ou (P:Program)(op:BinOp)(t:TypeId)(x y:Operand):Option O:=
 bif Zg op then
  match und P t with
  | .int _=>some (.bin op)
  | .string=>some (.bin op)
  | .bool=>some (.binB op)
  | .pointer e=>some (bif IT P op e then .pne else .binN 0 op)
  | .slice _=>some (.binN 1 op)
  | .map _ _=>some (.binN 2 op)
  | .func _ _ _=>some (.binN 3 op)
  | .interface _=>bif gB x||gB y then some (.binN 4 op)else none
  | .struct fs=>match nS P fs.toList 0 with
   |some ks=>bif !P.stoodInHeld t&&!P.eqGuardType P.depth t then some (.binS ks op)else none
   |none=>none
  |_=>none
 else match und P t with
  | .int _=>some (.bin op)
  | .string=>some (.bin op)
  |_=>none
def oO (P:Program)(s d:TypeId):Option O:=
 match und P s,und P d with
 | .int _,.int k=>some (.conv k)
 | .string,.string=>some .same
 | .slice e,.string=>match und P e with
  | .int .u8=>some .b2s
  |_=>none
 | .string,.slice e=>match und P e with
  | .int .u8=>some .s2b
  |_=>none
 | .pointer t,.unsafePointer=>match P.info? t with
  |some j=>bif Nat.beq j.size 0 then none else some .uns
  |none=>none
 | .unsafePointer,.pointer u=>match P.info? u with
  |some _=>bif liesAt P P.depth AK (3 / P.cellsOf AK) 0 u 1 then some .uns else none
  |none=>none
 |_,_=>none
def qA (P:Program)(t:TypeId):LN->Option (List (Nat×Nat))
 |[]=>some []
 |i::r=>
  match (match und P t with
   | .struct fs=>match fs[i]? with
    |some f=>match ty P f.type with
     |some y=>some (f.offset,y.size)
     |none=>none
    |none=>none
   | .array _ e=>match ty P e with
    |some y=>some (i*y.size,y.size)
    |none=>none
   |_=>none)with
  |some x=>match qA P t r with
   |some xs=>some (x::xs)
   |none=>none
  |none=>none
def so (a b c:Option Operand):List Operand:=a.toList++b.toList++c.toList
def lQ (P:Program)(G:bH)(raw:Nat->Bool)(c:Call):Option (O×List A):=
 let as:=lD P G c.argTypes.toList c.args.toList
 match c.callee with
 | .value (.func f)=>match P.funcs[f]?,as with
  |some fn,some as=>
   match fn.body with
   |some _=>some (.call f (raw f),as)
   | none => bif fn.name == "maps.clone" && (Extern.findNext fn).isNone then some (.clone, as) else bif fn.name == "internal/abi.NoEscape" && (Extern.findNext fn).isNone then some (.mv, as) else none
  |_,_=>none
 | .value g=>match cA P G 0 g,as with
  |some g,some as=>some (.callv,g::as)
  |_,_=>none
 | .builtin b=>match as with
  |some as=>match b with
   | .len=>match c.argTypes[0]? with
    |some t=>match und P t with
     | .string=>some (.len 0,as)
     | .slice _=>some (.len 1,as)
     | .map _ _=>some (.len 2,as)
     |_=>none
    |none=>none
   | .cap=>match c.argTypes[0]? with
    |some t=>match und P t with
     | .slice _=>some (.cap,as)
     |_=>none
    |none=>none
   | .append=>match c.argTypes[0]?,c.argTypes[1]? with
    |some t,some u=>match und P t,und P u with
     | .slice e,.slice _=>match ty P e,ij P e with
      |some y,some _=>some (bif raw 6000000&&(Nat.beq e EO&&Nat.beq y.size 1)then .appB y.bytes else bif raw 3000000 then .appI y.size else .app y.size y.bytes,as)
      |_,_=>none
     | .slice e,.string=>match ty P e,ij P e with
      |some y,some _=>some (bif raw 6000000&&(Nat.beq e EO&&Nat.beq y.size 1)then .appB y.bytes else .app y.size y.bytes,as)
      |_,_=>none
     | .slice e,.int .i64=>match gH P e,ty P e with
      |some z,some y=>some (.appm y.size z y.bytes,as)
      |_,_=>none
     |_,_=>none
    |_,_=>none
   | .copy=>match c.argTypes[0]? with
    |some t=>match und P t with
     | .slice e=>match ty P e with
      |some y=>some (.cpy y.size,as)
      |none=>none
     |_=>none
    |none=>none
   | .clear=>match c.argTypes[0]? with
    |some t=>match und P t with
     | .slice e=>match gH P e,ty P e with
      |some z,some y=>some (.clr y.size z,as)
      |_,_=>none
     |_=>none
    |none=>none
   | .min=>match as with|[_,_]=>some (.min2,as)|_=>none
   | .unsafeSliceData=>some (.sdata,as)
   | .unsafeString=>match c.argTypes.toList with
    |[pt,_]=>match und P pt with
     | .pointer e=>bif Nat.beq e EO&&Nat.beq (P.cellsOf EO) 1 then some (.ustr,as)else none
     |_=>none
    |_=>none
   | .max=>match as with|[_,_]=>some (.max2,as)|_=>none
   |_=>none
  |none=>none
 | .invoke _ _=>none
def two (o:O):Option A->Option A->Option (O×List A)
 |some a,some b=>some (o,[a,b])
 |_,_=>none
def ng (o:O):Option A->Option (O×List A)
 |some a=>some (o,[a])
 |none=>none
def sx (P:Program)(t:TypeId):Bool:=
 match und P t with
 | .struct fs=>fs.toList.all fun f=>(P.info? f.type).isSome
 | .array _ e=>(P.info? e).isSome
 |_=>false
def Lk (P:Program)(t:TypeId)(is:LN):List TypeId:=
 is.map fun i=>match und P t with
  | .struct fs=>match fs[i]? with
   |some f=>f.type
   |none=>0
  | .array _ e=>e
  |_=>0
def Ow (P:Program)(G:bH)(raw:Nat->Bool)(o:Oper):Option (O×List A):=
 match o.op with
 | .move x=>ng .mv (cA P G o.type x)
 | .assign x=>ng .mv (cA P G o.type x)
 | .pick c a b=>match cA P G 0 c,cA P G o.type a,cA P G o.type b with
  |some c,some a,some b=>some (.pick,[c,a,b])
  |_,_,_=>none
 | .alloc t=>match ij P t with
  |some zs=>bif b3 zs&&!Nat.beq t AK then none else some (.alloc zs,[])
  |none=>none
 | .box t x=>match ty P t with
  |some y=>bif Nat.beq y.size 1000003 then none else ng (.box (bif Nat.beq t AK then 1000003 else y.size)) (cA P G t x)
  |none=>none
 | .build t parts=>match ij P t,qA P t (parts.toList.map (·.1)),lD P G (Lk P t (parts.toList.map (·.1))) (parts.toList.map (·.2)),ty P t with
  |some zs,some ps,some as,some y=>bif y.agg&&sx P t then some (.build zs ps,as)else none
  |_,_,_,_=>none
 | .buildSlice t n parts=>match und P t with
  | .slice e=>match gH P e,ty P e,lD P G (List.replicate parts.size e) (parts.toList.map (·.2))with
   |some z,some y,some as=>bif Nat.ble (n*y.size) 16777216 then some (bif raw (1000000+t)then .bslm y.size z n (parts.toList.map (·.1))else bif raw (2000000+t)then .bsle y.size z n (parts.toList.map (·.1))else .bsl y.size z n (parts.toList.map (·.1)),as)else none
   |_,_,_=>none
  |_=>none
 | .load t x=>match ty P t with
  |some y=>ng (.load y.size y.agg) (cA P G 0 x)
  |none=>none
 | .store t a x=>match ty P t with
  |some y=>two (.store y.size) (cA P G 0 a) (cA P G t x)
  |none=>none
 | .nilCheck x=>ng .nilck (cA P G 0 x)
 | .binOp op t x y _=>match Ou P op t x y with
  |some o=>two o (cA P G t x) (cA P G t y)
  |none=>none
 | .unOp op _ x=>match op with
  | .neg=>ng (.un .neg) (cA P G 0 x)
  | .not=>ng (.un .not) (cA P G 0 x)
  |_=>none
 | .convert s d x=>match oO P s d with
  |some o=>ng o (cA P G s x)
  |none=>none
 | .makeInterface t x=>match und P t with
  | .interface _=>none
  | .invalid=>none
  |_=>ng (.mkif t) (cA P G t x)
 | .makeFunc (.func f) first captured=>bif Nat.blt f 1000000 then
   match lD P G [] (first.toList++captured.toList)with
   |some as=>some (.mkfn (f+1000000*first.size),as)
   |none=>none
  else none
 | .makeMap t r=>match r with
  |none=>some (.mkmap,[])
  |some (.const (.int _ _))=>match und P t with
   | .map _ _=>some (.mkmap,[])
   |_=>none
  |_=>none
 | .makeSlice t l c=>match und P t with
  | .slice e=>match gH P e,ty P e with
   |some z,some y=>two (.mksl y.size z y.bytes) (cA P G 0 l) (cA P G 0 c)
   |_,_=>none
  |_=>none
 | .slice t x lo hi mx=>match cA P G t x,lD P G [] (so lo hi mx)with
  |some x,some as=>match und P t with
   | .string=>bif mx.isSome then none else some (.slStr lo.isSome hi.isSome,x::as)
   | .slice e=>match ty P e with
    |some y=>some (bif raw 5000000&&!mx.isSome then .slW y.size lo.isSome hi.isSome else bif raw 3000000&&(hi.isSome&&!mx.isSome)then .slX y.size lo.isSome else bif raw 3000000&&mx.isSome then .slck lo.isSome hi.isSome else .slSl y.size lo.isSome hi.isSome mx.isSome,x::as)
    |none=>none
   |_=>none
  |_,_=>none
 | .fieldAddr s x i=>match und P s with
  | .struct fs=>match fs[i]? with
   |some f=>match ty P f.type with
    |some _=>ng (.fa f.offset) (cA P G 0 x)
    |none=>none
   |none=>none
  |_=>none
 | .field s x i=>match und P s with
  | .struct fs=>match fs[i]? with
   |some f=>match ty P f.type with
    |some y=>ng (.fld f.offset y.size y.agg) (cA P G 0 x)
    |none=>none
   |none=>none
  |_=>none
 | .indexAddr t x i=>match und P t with
  | .slice e=>match ty P e with
   |some y=>two (.ia y.size) (cA P G t x) (cA P G 0 i)
   |none=>none
  | .array n e=>match ty P e with
   |some y=>two (.iaa n y.size) (cA P G 0 x) (cA P G 0 i)
   |none=>none
  |_=>none
 | .index t x i=>match und P t with
  | .string=>two .ix (cA P G 0 x) (cA P G 0 i)
  | .array n e=>match ty P e with
   |some y=>two (.ixa n y.size y.agg) (cA P G 0 x) (cA P G 0 i)
   |none=>none
  |_=>none
 | .lookup t x i ok=>match und P t with
  | .map k e=>bif dO (und P k)then
    match si P e with
    |some z=>two (.lkp (und P k) z ok) (cA P G t x) (cA P G k i)
    |none=>none
   else none
  |_=>none
 | .mapUpdate t m k x=>match und P t with
  | .map kt e=>bif dO (und P kt)then
    match cA P G t m,cA P G kt k,cA P G e x with
    |some m,some k,some x=>some (.mupd (und P kt),[m,k,x])
    |_,_,_=>none
   else none
  |_=>none
 | .insert t m k x=>match und P t with
  | .map kt e=>bif dO (und P kt)then
    match cA P G t m,cA P G kt k,cA P G e x with
    |some m,some k,some x=>some (.mupd (und P kt),[m,k,x])
    |_,_,_=>none
   else none
  |_=>none
 | .typeAssert x _ t ok=>match und P t with
  | .interface _=>none
  | .invalid=>none
  |_=>match si P t with
   |some z=>ng (.assertT t z ok) (cA P G 0 x)
   |none=>none
 | .extract x i=>ng (.ext i) (cA P G 0 x)
 | .panic x=>ng .pan (cA P G 0 x)
 | .call c=>lQ P G raw c
 |_=>none
def WA (P:Program)(G:bH)(raw:Nat->Bool)(o:Oper):Option (O×List A):=
 match Ow P G raw o with
 |some r=>some r
 |none=>some (.pan,[])
def eJ:O->Bool
 | .alloc _=>true
 | .box _=>true
 | .mkmap=>true
 | .mksl _ _ _=>true
 | .app _ _=>true
 | .appm _ _ _=>true
 | .clone=>true
 | .load _ _=>true
 | .store _=>true
 | .bsl _ _ _ _=>true
 | .bslm _ _ _ _=>true
 | .bsle _ _ _ _=>true
 | .lkp _ _ _=>true
 | .mupd _=>true
 | .cpy _=>true
 | .clr _ _=>true
 | .slX _ _=>true
 | .appI _=>true
 | .len _=>true
 | .slSl _ lo hi mx=>mx||(lo&&!hi)
 | .call _ _=>true
 | .callv=>true
 | .b2s=>true
 | .uns=>true
 | .ustr=>true
 | .appB _=>true
 |_=>false
def y4 (ops:List Oper):Option (Nat×Bool)->Option (Option (Nat×Bool))
 |none=>some none
 |some (j,want)=>match ops[j]? with
  |some o=>match o.dst with
   |some d=>some (some (d,want))
   |none=>none
  |none=>none
def Kf (P:Program)(G:bH)(raw:Nat->Bool)(N:Nat)(all:List Oper):List Oper->Nat->Option (List ek×Nat)
 |[],k=>some ([],k)
 |o::r,k=>match WA P G raw o,y4 all o.guard with
  |some (x,as),some gd=>
   bif(match o.dst with|some d=>Nat.blt d N|none=>true)then
    match Kf P G raw N all r (bif dJ x then k+1 else k)with
    |some (xs,n)=>some (⟨o.dst,x,as,k,gd⟩::xs,n)
    |none=>none
   else none
  |_,_=>none
def ŕ (x:ek):LN:=
 (x.as.filterMap fun| .t n=>some n|_=>none)++(match x.gd with|some (g,_)=>[g]|none=>[])
def qi (x y:ek):Bool:=
 (match x.dst with
  |some d=>!(ŕ y).contains d&&(match y.dst with|some e=>!Nat.beq d e|none=>true)
  |none=>true)&&
 (match y.dst with
  |some e=>!(ŕ x).contains e
  |none=>true)
def kY (e:Edge):Bool:=Region.binds .any e
def we:List Oper->List LN->List LN
 |[],acc=>acc
 |o::r,acc=>
  let ds:=(o.after.toList.filter kY).map (·.on)
  we r (acc++[(ds++ds.flatMap fun d=>acc.getD d []).eraseDups])
def gw:List Oper->Nat->Bool
 |[],_=>true
 |o::r,n=>o.after.toList.all (fun e=>!kY e||Nat.blt e.on n)&&gw r (n+1)
def sT (xs:List ek)(an:LN)(x:ek)(n:Nat):LN->Option (List (Nat×Nat))
 |[]=>some []
 |i::r=>match sT xs an x n r with
  |none=>none
  |some ps=>
   bif an.contains i then some ps
   else match xs[i]? with
    |none=>none
    |some y=>bif qi y x then
      (bif eJ y.op&&eJ x.op then some ((i,n)::ps)else some ps)
     else none
def j7 (xs:List ek)(an:List LN):LN->Option (List (Nat×Nat))
 |[]=>some []
 |n::r=>match xs[n]?,an[n]? with
  |some x,some a=>match sT xs a x n (List.range n),j7 xs an r with
   |some ps,some qs=>some (ps++qs)
   |_,_=>none
  |_,_=>none
def FJ (P:Program)(G:bH)(raw:Nat->Bool)(N:Nat)(ops:List Oper)(draw:Bool):Option Co:=
 match Kf P G raw N ops ops 0 with
 |none=>none
 |some (xs,k)=>
  bif draw then
   bif gw ops 0 then
    match j7 xs (we ops []) (List.range xs.length)with
    |some ps=>some (.reg k xs (some ps) [])
    |none=>none
   else none
  else some (.reg k xs none [])
def y3 (P:Program)(G:bH)(raw:Nat->Bool)(N:Nat):Code->Option Co
 | .skip=>some .skip
 | .region _ ops draw=>FJ P G raw N ops.toList draw
 | .seq a b=>match y3 P G raw N a,y3 P G raw N b with
  |some a,some b=>some (.seq a b)
  |_,_=>none
 | .cond c t e=>match cA P G 0 c,y3 P G raw N t,y3 P G raw N e with
  |some c,some t,some e=>some (.cond c t e)
  |_,_,_=>none
 | .block id b=>match y3 P G raw N b with
  |some b=>some (.block id b)
  |none=>none
 | .loop b=>match y3 P G raw N b with
  |some b=>some (.loop [] b)
  |none=>none
 | .exit id=>some (.exit id)
 | .ret=>some .ret
 | .refuse _=>some (.reg 0 [⟨none,.pan,[],0,none⟩] none [])
 |_=>none
def er:Co->Co
 | .seq a b=> .seq (er a) (er b)
 | .cond c t e=> .cond c (er t) (er e)
 | .block id b=> .block id (er b)
 | .loop _ b=> .loop [] (er b)
 | .gh _ c=>er c
 | .reg k xs ps _=> .reg k xs ps []
 |c=>c
def ZU (P:Program):ResultVar->Option Rv
 | .tmp t=>some (.t t)
 | .cell a t=>match ty P t with
  |some y=>some (.cell a y.size y.agg)
  |none=>none
def Kg (P:Program):List ResultVar->Option (List Rv)
 |[]=>some []
 |r::rs=>match ZU P r,Kg P rs with
  |some x,some xs=>some (x::xs)
  |_,_=>none
def ux (P:Program)(G:bH)(raw:Nat->Bool)(f:Func)(x:Fx):Prop:=
 (match f.body with|some c=>y3 P G raw f.ntmps c|none=>none)=some (er x.body)/\Kg P f.results.toList=some x.res
section
def Pw {α β:Type}(R:α->β->Prop)(xs:List α)(vs:List β):Prop:=
 xs.length=vs.length/\∀(i:Nat) x v,xs[i]?=some x->vs[i]?=some v->R x v
section pw
variable {α β:Type} {R:α->β->Prop}
def Pw.nil:Pw R [] []:=⟨rfl,by simp⟩
variable {xs:List α} {vs:List β}
def Pw.cons {x:α}{v:β}(h:R x v)(r:Pw R xs vs):Pw R (x::xs) (v::vs):=by
 refine⟨by simp[r.1],fun i y u hy hu=>?_⟩
 cases i with
 |zero=>simp_all
 |succ i=>exact r.2 i y u hy hu
def Pw.head {x:α}{v:β}(h:Pw R (x::xs) (v::vs)):R x v:=h.2 0 x v rfl rfl
def Pw.tail {x:α}{v:β}(h:Pw R (x::xs) (v::vs)):Pw R xs vs:=
 ⟨by have:=h.1;simp_all,fun i y u hy hu=>h.2 (i+1) y u (by simp_all) (by simp_all)⟩
def Pw.cons_inv {x:α}(h:Pw R (x::xs) vs):∃u us,vs=u::us/\R x u/\Pw R xs us:=by
 cases vs with
 |nil=>have:=h.1;grind
 |cons u us=>exact⟨u,us,rfl,h.head,h.tail⟩
def Pw.nil_inv (h:Pw R ([]:List α) vs):vs=[]:=
 lη h.1.symm
def Pw.get (h:Pw R xs vs){i:Nat}{x:α}(hx:xs[i]?=some x):∃v,vs[i]?=some v/\R x v:=by
 have hi:i<xs.length:=by
  grind
 have hj:i<vs.length:=h.1▸hi;exact⟨vs[i],lε hj,h.2 i x _ hx (lε hj)⟩
def Pw.get' (h:Pw R xs vs){i:Nat}{v:β}(hv:vs[i]?=some v):∃x,xs[i]?=some x/\R x v:=by
 have hi:i<vs.length:=by
  grind
 have hj:i<xs.length:=h.1▸hi;exact⟨xs[i],lε hj,h.2 i _ v (lε hj) hv⟩
def Pw.mono {R':α->β->Prop}(h:Pw R xs vs)(hr:∀x v,R x v->R' x v):Pw R' xs vs:=
 ⟨h.1,fun i x v hx hv=>hr _ _ (h.2 i x v hx hv)⟩
def Pw.take {xs:List α}{vs:List β}(h:Pw R xs vs)(n:Nat):Pw R (xs.take n) (vs.take n):=by
 refine⟨by simp[h.1],fun i x v hx hv=>?_⟩
 rw[List.getElem?_take]at hx hv;split at hx
 ·rename_i hi;rw[if_pos hi]at hv;exact h.2 i x v hx hv
 ·grind
def Pw.drop {xs:List α}{vs:List β}(h:Pw R xs vs)(n:Nat):Pw R (xs.drop n) (vs.drop n):=by
 refine⟨by simp[h.1],fun i x v hx hv=>?_⟩
 rw[List.getElem?_drop]at hx hv;exact h.2 _ x v hx hv
def Pw.append {ys:List α}{us:List β}(h:Pw R xs vs)(k:Pw R ys us):Pw R (xs++ys) (vs++us):=by
 refine⟨by simp[h.1,k.1],fun i x v hx hv=>?_⟩
 rcases mβ i xs.length with hi|hi
 ·rw[lι hi]at hx;rw[lι (h.1▸hi)]at hv;exact h.2 i x v hx hv
 ·rw[lσ hi]at hx;rw[lσ (h.1▸hi)]at hv;rw[h.1]at hx;exact k.2 _ x v hx hv
def Pw.set {xs:List α}{vs:List β}(h:Pw R xs vs)(i:Nat){x:α}{v:β}(hr:R x v):Pw R (xs.set i x) (vs.set i v):=by
 refine⟨by simp[h.1],fun j y u hy hu=>?_⟩
 rw[List.getElem?_set]at hy hu;split at hy
 ·simp_all
 ·rename_i hij;rw[if_neg hij]at hu;exact h.2 j y u hy hu
def Pw.replicate {x:α}{v:β}(h:R x v)(n:Nat):Pw R (List.replicate n x) (List.replicate n v):=by
 refine⟨by simp,fun i y u hy hu=>?_⟩
 grind
def Pw.map_left {γ:Type}{f:γ->α}{xs:List γ}(h:Pw (fun c v=>R (f c) v) xs vs):Pw R (xs.map f) vs:=by
 refine⟨by simp[h.1],fun i x v hx hv=>?_⟩
 cases hc:xs[i]? with
 |none=>simp_all
 |some c=>simp[hc]at hx;subst hx;exact h.2 i c v hc hv
def Pw.of_map_left {γ:Type}{f:γ->α}{xs:List γ}(h:Pw R (xs.map f) vs):Pw (fun c v=>R (f c) v) xs vs:=by
 refine⟨by have:=h.1;simp_all,fun i c v hc hv=>?_⟩
 exact h.2 i (f c) v (by simp_all) hv
def Pw.all_right {Q:β->Prop}(h:Pw R xs vs)(hq:∀(i:Nat) x v,xs[i]?=some x->R x v->Q v):∀v∈vs,Q v:=by
 intro v hv;obtain⟨i,hi⟩:=List.getElem?_of_mem hv;obtain⟨x,hx,hr⟩:=h.get' hi;grind
end pw
inductive cu where
 |none
 |box (b:Nat)
 |arr (b o cap z n:Nat)
 |map (r:Nat)
def aQ:Value->Prop
 | .agg _=>False
 | .tuple _=>False
 |_=>True
def rD (w:World)(b o:Nat)(cs:Array Value):Prop:=∀(j:Nat) c,cs[j]?=some c->w.cell? ⟨b,o+j,none⟩=some c
def rowAt (w:World)(b o z:Nat)(us:List Value):Prop:=∀(i:Nat) u,us[i]?=some u->u.cells.size=z/\rD w b (o+i*z) u.cells
def fN:lC->Option Addr->Nat->Nat->Prop
 | .exact,_,len,cap=>cap=len
 | .nil,a,_,cap=>a=none/\cap=0
 | .some,a,_,_=>a≠none
 | .na,a,_,_=>a=none
class Letters where
 ρ:Nat->Int
def fP (ρ:Nat->Int):Nat->List (Int×Int×Int)->Int
 |_,[]=>0
 |i,(a,_,_)::r=>a*ρ i+fP ρ (i+1) r
def Iu (ρ:Nat->Int):Nat->List (Int×Int×Int)->Prop
 |_,[]=>True
 |i,(_,l,h)::r=>(l<=ρ i/\ρ i<=h)/\Iu ρ (i+1) r
def SyR (ρ:Nat->Int):Sy->Int->Prop
 | .lin c ks,n=>n=c+fP ρ 0 ks/\Iu ρ 0 ks
 | .rng l h,n=>l<=n/\n<=h
variable [Letters]
mutual
def PR (w:World)(S:Nat->Prop):Da->Value->Prop
 | .bool b,v=>v= .bool b
 | .int k n,v=>v= .int k n
 | .str s,v=>∃b:ByteArray,v= .string b/\b.data.toList.map UInt8.toNat=s
 | .agg cs,v=>∃vs:Array Value,v= .agg vs/\oy w S cs vs.toList/\∀c∈vs.toList,aQ c
 | .slice z es,v=>∃a cap us,v= .slice a us.length cap/\us.length<=cap/\oy w S es us/\(us≠[]->∃b o,a=some ⟨b,o,none⟩/\S b/\rowAt w b o z us)
 | .nilptr,v=>v= .pointer none
 | .ptr x,v=>∃b o u,v= .pointer (some ⟨b,o,none⟩)/\S b/\PR w S x u/\rD w b o u.cells
 | .map ks vs,v=>∃r es clock,v= .map (some r)/\S r/\w.heap[r]?=some (.map es clock)/\oy w S ks (es.toList.map (·.key))/\oy w S vs (es.toList.map (·.val))
 | .nilmap,v=>v= .map none
 | .fn f caps,v=>∃fs cs:Array Value,v= .func (.func (wi f)) fs cs/\fs.size=Vp f/\oy w S caps (fs.toList++cs.toList)
 | .nilfn,v=>v= .nilFunc
 | .iface t x,v=>∃u,v= .iface t u/\PR w S x u
 | .nilif,v=>v= .nilIface
 | .sliceE z es,v=>(∃a cap us,v= .slice a us.length cap/\us.length<=cap/\oy w S es us/\(us≠[]->∃b o,a=some ⟨b,o,none⟩/\S b/\rowAt w b o z us))/\∃a n,v= .slice a n n
 | .sym k s,v=>∃n,v= .int k n/\SyR Letters.ρ s n
def oy (w:World)(S:Nat->Prop):LD->List Value->Prop
 |[],vs=>vs=[]
 |x::r,vs=>∃u us,vs=u::us/\PR w S x u/\oy w S r us
end
def PRs_iff {w:World}{S:Nat->Prop}:∀{xs:LD} {vs:List Value},oy w S xs vs↔Pw (PR w S) xs vs
 |[],vs=>by
  exact⟨fun h=>h▸Pw.nil,fun h=>h.nil_inv⟩
 |x::r,vs=>by
  constructor
  ·rintro⟨u,us,rfl,h,hr⟩
   exact Pw.cons h (PRs_iff.1 hr)
  ·intro h;obtain⟨u,us,rfl,h1,h2⟩:=h.cons_inv;exact⟨u,us,rfl,h1,PRs_iff.2 h2⟩
def ed (S:Nat->Prop)(w w':World):Prop:=∀b,S b->w'.heap[b]?=w.heap[b]?
variable {w w':World}
def FN {b:Nat}(h:w'.heap[b]?=w.heap[b]?)(o:Nat)(s:Option Nat):w'.cell? ⟨b,o,s⟩=w.cell? ⟨b,o,s⟩:=by
 simp only[World.cell?,h]
def jA {b o:Nat}{cs:Array Value}(h:w'.heap[b]?=w.heap[b]?)(k:rD w b o cs):rD w' b o cs:=
 fun j c hc=>by rw[FN h];exact k j c hc
def jC {b o z:Nat}{us:List Value}(h:w'.heap[b]?=w.heap[b]?)(k:rowAt w b o z us):rowAt w' b o z us:=
 fun i u hu=>⟨(k i u hu).1,jA h (k i u hu).2⟩
mutual
def bc {w w':World}{S S':Nat->Prop}(hs:ed S w w')(hS:∀b,S b->S' b):∀(x:Da) {v:Value},PR w S x v->PR w' S' x v
 | .bool b,v,h=>by simpa only[PR]using h
 | .int k n,v,h=>by simpa only[PR]using h
 | .str s,v,h=>by simpa only[PR]using h
 | .agg cs,v,h=>by
  simp only[PR]at h ⊢
  obtain⟨vs,rfl,h1,h2⟩:=h;exact⟨vs,rfl,gR hs hS cs h1,h2⟩
 | .slice z es,v,h=>by
  simp only[PR]at h ⊢
  obtain⟨a,cap,us,rfl,h1,h3,h4⟩:=h;refine⟨a,cap,us,rfl,h1,gR hs hS es h3,fun hne=>?_⟩
  obtain⟨b,o,ha,hb,hr⟩:=h4 hne;exact⟨b,o,ha,hS b hb,jC (hs b hb) hr⟩
 | .nilptr,v,h=>by simpa only[PR]using h
 | .ptr x,v,h=>by
  simp only[PR]at h ⊢
  obtain⟨b,o,u,rfl,hb,hx,hh⟩:=h;exact⟨b,o,u,rfl,hS b hb,bc hs hS x hx,jA (hs b hb) hh⟩
 | .map ks vs,v,h=>by
  simp only[PR]at h ⊢
  obtain⟨r,es,clock,rfl,hr,hh,h1,h2⟩:=h;exact⟨r,es,clock,rfl,hS r hr,by rw[hs r hr];exact hh,gR hs hS ks h1,gR hs hS vs h2⟩
 | .nilmap,v,h=>by simpa only[PR]using h
 | .fn f caps,v,h=>by
  simp only[PR]at h ⊢
  obtain⟨fs,cs,rfl,hk,h1⟩:=h;exact⟨fs,cs,rfl,hk,gR hs hS caps h1⟩
 | .nilfn,v,h=>by simpa only[PR]using h
 | .iface t x,v,h=>by
  simp only[PR]at h ⊢
  obtain⟨u,rfl,h1⟩:=h;exact⟨u,rfl,bc hs hS x h1⟩
 | .nilif,v,h=>by simpa only[PR]using h
 | .sliceE z es,v,h=>by
  simp only[PR]at h ⊢
  obtain⟨⟨a,cap,us,rfl,h1,h3,h4⟩,h5⟩:=h;refine⟨⟨a,cap,us,rfl,h1,gR hs hS es h3,fun hne=>?_⟩,h5⟩
  obtain⟨b,o,ha,hb,hr⟩:=h4 hne;exact⟨b,o,ha,hS b hb,jC (hs b hb) hr⟩
 | .sym k s,v,h=>by simpa only[PR]using h
def gR {w w':World}{S S':Nat->Prop}(hs:ed S w w')(hS:∀b,S b->S' b):∀(xs:LD) {vs:List Value},oy w S xs vs->oy w' S' xs vs
 |[],vs,h=>by simpa only[oy]using h
 |x::r,vs,h=>by
  simp only[oy]at h ⊢
  obtain⟨u,us,rfl,h1,h2⟩:=h;exact⟨u,us,rfl,bc hs hS x h1,gR hs hS r h2⟩
end
mutual
def VR (φ:List cu)(w:World)(S:Nat->Prop):D->Value->Prop
 | .p x,v=>PR w S x v
 | .agg ds,v=>∃vs:Array Value,v= .agg vs/\wc φ w S ds vs.toList/\∀c∈vs.toList,aQ c
 | .tup ds,v=>∃vs:Array Value,v= .tuple vs/\wc φ w S ds vs.toList
 | .box id off,v=>∃b,φ[id]?=some (.box b)/\v= .pointer (some ⟨b,off,none⟩)
 | .el id i off,v=>∃b o cap z n,φ[id]?=some (.arr b o cap z n)/\i<n/\v= .pointer (some ⟨b,o+i*z+off,none⟩)
 | .ip x off,v=>∃b o u,v= .pointer (some ⟨b,o+off,none⟩)/\S b/\PR w S x u/\rD w b o u.cells
 | .arr id lo len z,v=>∃b o cap n a,φ[id]?=some (.arr b o cap z n)/\lo+len<=n/\n<=cap/\v= .slice a len (cap - lo)/\(lo<cap->a=some ⟨b,o+lo*z,none⟩)
 | .sl g z es,v=>∃a cap us,v= .slice a us.length cap/\us.length<=cap/\fN g a us.length cap/\oy w S es us/\(us≠[]->∃b o,a=some ⟨b,o,none⟩/\S b/\rowAt w b o z us)
 | .map id,v=>∃r,φ[id]?=some (.map r)/\v= .map (some r)
 | .fn f caps,v=>∃fs cs:Array Value,v= .func (.func (wi f)) fs cs/\fs.size=Vp f/\wc φ w S caps (fs.toList++cs.toList)
 | .iface t d,v=>∃u,v= .iface t u/\VR φ w S d u
 | .junk,_=>True
def wc (φ:List cu)(w:World)(S:Nat->Prop):List D->List Value->Prop
 |[],vs=>vs=[]
 |x::r,vs=>∃u us,vs=u::us/\VR φ w S x u/\wc φ w S r us
end
def VRs_iff {φ:List cu}{w:World}{S:Nat->Prop}:∀{xs:List D} {vs:List Value},wc φ w S xs vs↔Pw (VR φ w S) xs vs
 |[],vs=>by
  exact⟨fun h=>h▸Pw.nil,fun h=>h.nil_inv⟩
 |x::r,vs=>by
  constructor
  ·rintro⟨u,us,rfl,h,hr⟩
   exact Pw.cons h (VRs_iff.1 hr)
  ·intro h;obtain⟨u,us,rfl,h1,h2⟩:=h.cons_inv;exact⟨u,us,rfl,h1,VRs_iff.2 h2⟩
def Ext (φ φ':List cu):Prop:=∀(id:Nat) l,φ[id]?=some l->l≠ .none->φ'[id]?=some l
def Ext.refl (φ:List cu):Ext φ φ:=fun _ _ h _=>h
def Ext.trans {a b c:List cu}(h:Ext a b)(k:Ext b c):Ext a c:=fun id l hl hn=>k id l (h id l hl hn) hn
mutual
def gK {φ φ':List cu}{w w':World}{S S':Nat->Prop}(he:Ext φ φ')(hs:ed S w w')(hS:∀b,S b->S' b):∀(d:D) {v:Value},VR φ w S d v->VR φ' w' S' d v
 | .p x,v,h=>by simp only[VR]at h ⊢;exact bc hs hS x h
 | .agg ds,v,h=>by
  simp only[VR]at h ⊢
  obtain⟨vs,rfl,h1,h2⟩:=h;exact⟨vs,rfl,oE he hs hS ds h1,h2⟩
 | .tup ds,v,h=>by
  simp only[VR]at h ⊢
  obtain⟨vs,rfl,h1⟩:=h;exact⟨vs,rfl,oE he hs hS ds h1⟩
 | .box id off,v,h=>by
  simp only[VR]at h ⊢
  obtain⟨b,h1,rfl⟩:=h;exact⟨b,he _ _ h1 (by simp),rfl⟩
 | .el id i off,v,h=>by
  simp only[VR]at h ⊢
  obtain⟨b,o,cap,z,n,h1,h2,rfl⟩:=h;exact⟨b,o,cap,z,n,he _ _ h1 (by simp),h2,rfl⟩
 | .ip x off,v,h=>by
  simp only[VR]at h ⊢
  obtain⟨b,o,u,rfl,hb,hx,hh⟩:=h;exact⟨b,o,u,rfl,hS b hb,bc hs hS x hx,jA (hs b hb) hh⟩
 | .arr id lo len z,v,h=>by
  simp only[VR]at h ⊢
  obtain⟨b,o,cap,n,a,h1,h2⟩:=h;exact⟨b,o,cap,n,a,he _ _ h1 (by simp),h2⟩
 | .sl g z es,v,h=>by
  simp only[VR]at h ⊢
  obtain⟨a,cap,us,rfl,h1,h2,h3,h4⟩:=h;refine⟨a,cap,us,rfl,h1,h2,gR hs hS es h3,fun hne=>?_⟩
  obtain⟨b,o,ha,hb,hr⟩:=h4 hne;exact⟨b,o,ha,hS b hb,jC (hs b hb) hr⟩
 | .map id,v,h=>by
  simp only[VR]at h ⊢
  obtain⟨r,h1,rfl⟩:=h;exact⟨r,he _ _ h1 (by simp),rfl⟩
 | .fn f caps,v,h=>by
  simp only[VR]at h ⊢
  obtain⟨fs,cs,rfl,hk,h1⟩:=h;exact⟨fs,cs,rfl,hk,oE he hs hS caps h1⟩
 | .iface t d,v,h=>by
  simp only[VR]at h ⊢
  obtain⟨u,rfl,h1⟩:=h;exact⟨u,rfl,gK he hs hS d h1⟩
 | .junk,v,h=>by simp only[VR]
def oE {φ φ':List cu}{w w':World}{S S':Nat->Prop}(he:Ext φ φ')(hs:ed S w w')(hS:∀b,S b->S' b):∀(ds:List D) {vs:List Value},wc φ w S ds vs->wc φ' w' S' ds vs
 |[],vs,h=>by simpa only[wc]using h
 |x::r,vs,h=>by
  simp only[wc]at h ⊢
  obtain⟨u,us,rfl,h1,h2⟩:=h;exact⟨u,us,rfl,gK he hs hS x h1,oE he hs hS r h2⟩
end
def hD (fz:Nat×Nat)(n:Nat):Prop:=∀o,o<n->¬(fz.1<=o/\o<fz.2)
def OR (φ:List cu)(w:World)(S:Nat->Prop):cu->Ob->Prop
 | .box b,.box cs=>∃vs t fz,w.heap[b]?=some (.cells vs t fz)/\hD fz vs.size/\Pw (VR φ w S) cs vs.toList/\(∀c∈vs.toList,aQ c)/\(b3 cs=true->t=AK)
 | .arr b o cap z n,.arr es=>es.length=n/\n<=cap/\(0<cap->∃vs t fz,w.heap[b]?=some (.cells vs t fz)/\hD fz vs.size/\o+cap*z<=vs.size)/\
   ∃us,Pw (PR w S) es us/\rowAt w b o z us
 | .arr b o cap z n,.fz es=>es.length=n/\n<=cap/\(0<cap->S b)/\∃us,Pw (PR w S) es us/\rowAt w b o z us
 | .arr b o cap z n,.byt es=>es.length=n/\n<=cap/\(0<cap->∃vs t fz,w.heap[b]?=some (.cells vs t fz)/\hD fz vs.size/\o+cap*z<=vs.size/\t=EO)/\
   ∃us,Pw (PR w S) es us/\rowAt w b o z us
 | .arr b o cap z n,.may true es=>es.length=n/\n<=cap/\(0<cap->S b)/\∃us,Pw (PR w S) es us/\rowAt w b o z us
 | .arr b o cap z n,.may false es=>es.length=n/\n<=cap/\(0<cap->∃vs t fz,w.heap[b]?=some (.cells vs t fz)/\hD fz vs.size/\o+cap*z<=vs.size)/\
   ∃us,Pw (PR w S) es us/\rowAt w b o z us
 | .map r,.map ks vs=>∃es clock,w.heap[r]?=some (.map es clock)/\Pw (PR w S) ks (es.toList.map (·.key))/\Pw (PR w S) vs (es.toList.map (·.val))
 | .map r,.fzm ks vs=>S r/\∃es clock,w.heap[r]?=some (.map es clock)/\Pw (PR w S) ks (es.toList.map (·.key))/\Pw (PR w S) vs (es.toList.map (·.val))
 | .map r,.mapd ks ws=>∃es clock,w.heap[r]?=some (.map es clock)/\Pw (PR w S) ks (es.toList.map (·.key))/\Pw (VR φ w S) ws (es.toList.map (·.val))
 | .none,.unborn=>True
 |_,.dead=>True
 |_,_=>False
def bB:cu->Ob->Option Nat
 | .box b,.box _=>some b
 | .arr b _ cap _ _,.arr _=>if 0<cap then some b else none
 | .arr b _ cap _ _,.byt _=>if 0<cap then some b else none
 | .arr b _ cap _ _,.may false _=>if 0<cap then some b else none
 | .map r,.map _ _=>some r
 | .map r,.mapd _ _=>some r
 |_,_=>none
def bg (φ:List cu)(hp:List Ob)(b:Nat):Prop:=∃(id:Nat) (l:cu) (o:Ob),φ[id]?=some l/\hp[id]?=some o/\bB l o=some b
structure HR (φ:List cu)(w:World)(S:Nat->Prop)(hp:List Ob):Prop where
 len:φ.length=hp.length
 obj:∀(id:Nat) l o,φ[id]?=some l->hp[id]?=some o->OR φ w S l o
 own:∀b,bg φ hp b->¬S b/\b<w.heap.size
 one:∀(id id':Nat) l l' o o' b,φ[id]?=some l->hp[id]?=some o->φ[id']?=some l'->hp[id']?=some o'->bB l o=some b->bB l' o'=some b->id=id'
 low:∀b,S b->b<w.heap.size
structure Fr (O S:Nat->Prop)(w:World)(O' S':Nat->Prop)(w':World):Prop where
 keep:∀b,b<w.heap.size->¬O b->w'.heap[b]?=w.heap[b]?
 size:w.heap.size<=w'.heap.size
 os:w'.os=w.os
 tape:w'.tape=w.tape
 output:w'.output=w.output
 sub:∀b,S b->S' b
 news:∀b,S' b->S b\/O b\/w.heap.size<=b
 newo:∀b,O' b->O b\/w.heap.size<=b
def Fr.refl (O S:Nat->Prop)(w:World):Fr O S w O S w:=
 ⟨fun _ _ _=>rfl,Nat.le_refl _,rfl,rfl,rfl,fun _ h=>h,fun _ h=> .inl h,fun _ h=> .inl h⟩
def Fr.trans {O S:Nat->Prop}{w:World}{O1 S1:Nat->Prop}{w1:World}{O2 S2:Nat->Prop}{w2:World}(h:Fr O S w O1 S1 w1)(k:Fr O1 S1 w1 O2 S2 w2):Fr O S w O2 S2 w2 where
 keep b hb ho:=by
  rw[k.keep b (mω hb h.size) fun h1=>(h.newo b h1).elim ho fun h2=>absurd hb (Nat.not_lt.2 h2)];exact h.keep b hb ho
 size:=qβ h.size k.size
 os:=k.os.trans h.os
 tape:=k.tape.trans h.tape
 output:=k.output.trans h.output
 sub b hb:=k.sub b (h.sub b hb)
 news b hb:=by
  rcases k.news b hb with h1|h1|h1
  ·exact h.news b h1
  ·rcases h.newo b h1 with h2|h2;all_goals simp_all
  ·exact .inr (.inr (qβ h.size h1))
 newo b hb:=by
  rcases k.newo b hb with h1|h1
  ·exact h.newo b h1
  ·exact .inr (qβ h.size h1)
variable {O' S':Nat->Prop}
def Fr.less {O S:Nat->Prop}{O2:Nat->Prop}(h:Fr O S w O' S' w')(k:∀b,O2 b->O' b):Fr O S w O2 S' w':=
 {h with newo:=fun b hb=>h.newo b (k b hb)}
def Fr.stable {φ:List cu}{hp:List Ob}{S:Nat->Prop}(h:Fr (bg φ hp) S w O' S' w')(hr:HR φ w S hp):ed S w w':=
 fun b hb=>h.keep b (hr.low b hb) fun ho=>(hr.own b ho).1 hb
end
section
variable [Letters]
variable {w:World}
def xG {S:Nat->Prop}:∀{v:Value} {x:Da},dq v=some x->PR w S x v/\aQ v
 | .bool b,x,h=>by simp only[dq,lα]at h;subst h;simp[PR,aQ]
 | .int k n,x,h=>by simp only[dq,lα]at h;subst h;simp[PR,aQ]
 | .float ..,x,h=>by simp[dq]at h
 | .complex ..,x,h=>by simp[dq]at h
 | .string s,x,h=>by simp only[dq,lα]at h;subst h;exact⟨by simp only[PR];exact⟨s,rfl,rfl⟩,trivial⟩
 | .pointer none,x,h=>by simp only[dq,lα]at h;subst h;simp[PR,aQ]
 | .pointer (some a),x,h=>by simp[dq]at h
 | .slice ..,x,h=>by simp[dq]at h
 | .map none,x,h=>by simp only[dq,lα]at h;subst h;simp[PR,aQ]
 | .map (some r),x,h=>by simp[dq]at h
 | .chan ..,x,h=>by simp[dq]at h
 | .func ..,x,h=>by simp[dq]at h
 | .nilFunc,x,h=>by simp only[dq,lα]at h;subst h;simp[PR,aQ]
 | .iface ..,x,h=>by simp[dq]at h
 | .nilIface,x,h=>by simp only[dq,lα]at h;subst h;simp[PR,aQ]
 | .agg ..,x,h=>by simp[dq]at h
 | .tuple ..,x,h=>by simp[dq]at h
def GR (G:bH)(w:World)(S:Nat->Prop):Prop:=∀g x,G g=some x->S g/\∃u,PR w S x u/\rD w g 0 u.cells/\∃t fr,w.heap[g]?=some (.cells u.cells t fr)
variable {S':Nat->Prop}
def sw {G:bH}{w':World}{S:Nat->Prop}(hs:ed S w w')(hS:∀b,S b->S' b)(h:GR G w S):GR G w' S':=by
 intro g x hg;obtain⟨h1,u,h2,h3,t,fr,h4⟩:=h g x hg;exact⟨hS g h1,u,bc hs hS x h2,jA (hs g h1) h3,t,fr,(hs g h1).trans h4⟩
def LT (φ:List cu)(w:World)(S:Nat->Prop)(tm:Tm)(a:Act):Prop:=∀t,VR φ w S (get tm t) (a.tmps.getD t undef)
variable {φ:List cu} {tm:Tm} {a:Act}
def iQ {φ':List cu}{w':World}{S:Nat->Prop}(he:Ext φ φ')(hs:ed S w w')(hS:∀b,S b->S' b)(h:LT φ w S tm a):LT φ' w' S' tm a:=
 fun t=>gK he hs hS _ (h t)
variable {d:Option Nat}
def pj {v:D}{t:Nat}:get (put d v tm) t=if d=some t then v else get tm t:=by
 cases d with
 |none=>simp[put]
 |some s=>
  simp only[put,get];by_cases h:s=t
  ·subst h;simp
  ·have:Nat.beq s t=false:=by
    cases hb:Nat.beq s t with
    |false=>rfl
    |true=>exact absurd (lθ hb) h
   simp[this,h]
def xJ (d:Option Nat)(a:Act):Prop:=∀t,d=some t->t<a.tmps.size
def HL {S:Nat->Prop}{x:D}{v:Value}(hd:xJ d a)(h:LT φ w S tm a)(hv:VR φ w S x v):
  LT φ w S (put d x tm) (a.put d v):=by
 intro t;rw[pj];cases d with
 |none=>simpa[Act.put]using h t
 |some s=>
  by_cases hst:s=t
  ·subst hst;have hs:=hd s rfl;simp[Act.put,hs];exact hv
  ·simp only[lα,hst,if_false];have:=h t;simp only[Act.put];rw[Array.getD_eq_getD_getElem?]at this ⊢
   rw[Array.getElem?_setIfInBounds_ne hst];exact this
def NM {S:Nat->Prop}{z:Nat}:VR φ w S (.sl .nil z []) (.slice none 0 0):=by
 simp only[VR];exact⟨none,0,[],rfl,by simp,by simp[fN],by simp[oy],by simp⟩
def aO {P:Program}{G:bH}{S:Nat->Prop}(ht:LT φ w S tm a)(hg:GR G w S){t:TypeId}{x:Operand}{y:A}(h:cA P G t x=some y):
  VR φ w S (ev tm y) (a.eval x):=by
 cases x with
 |tmp t=>simp only[cA,lα]at h;subst h;exact ht t
 |const v=>
  simp only[cA]at h;split at h
  ·simp only[lα]at h;subst h;simp only[ev,Act.eval];exact NM
  ·cases hd:dq v with
   |none=>simp[hd]at h
   |some d=>simp[hd]at h;subst h;simp only[ev,VR,Act.eval];exact(xG hd).1
 |func f=>
  simp only[cA]at h;cases hb:Nat.blt f 1000000 with
  |false=>simp[hb]at h
  |true=>
   simp[hb]at h;subst h;have hlt:f<1000000:=Nat.le_of_ble_eq_true hb;simp only[ev,VR,Act.eval,PR];exact⟨#[],#[],by rw[show wi f=f from Nat.mod_eq_of_lt hlt],(Nat.div_eq_of_lt hlt).symm,by simp[oy]⟩
 |global g=>
  simp only[cA]at h;cases hd:G g with
  |none=>simp[hd]at h
  |some d=>
   simp[hd]at h;subst h;obtain⟨h1,u,h2,h3,_⟩:=hg g d hd;simp only[ev,VR,Act.eval];exact⟨g,0,u,rfl,h1,h2,h3⟩
def cB {P:Program}{G:bH}{φ:List cu}{w:World}{S:Nat->Prop}{tm:Tm}{a:Act}(ht:LT φ w S tm a)(hg:GR G w S):∀{ts:List TypeId} {xs:List Operand} {ys:List A},lD P G ts xs=some ys->
  Pw (VR φ w S) (ys.map (ev tm)) (xs.map a.eval)
 |ts,[],ys,h=>by simp only[lD,lα]at h;subst h;exact Pw.nil
 |ts,x::r,ys,h=>by
  simp only[lD]at h;split at h
  ·rename_i y hy;split at h
   ·rename_i zs hz;simp only[lα]at h;subst h;exact Pw.cons (aO ht hg hy) (cB ht hg hz)
   ·simp at h
  ·simp at h
def OpOk (P:Program)(o:Oper)(a:Act)(w:World)(v:Value)(w':World):Prop:=
 (execOp a.eval o).run P w= .ok (.value v) w'\/((execOp a.eval o).run P w= .ok .skip w'/\v=undef)
def OpOk.wp {P:Program}{o:Oper}{a:Act}{w w':World}{v:Value}(h:OpOk P o a w v w'){K:Act->World->Prop}{Q:Exit->Act->World->Prop}(k:K (a.put o.dst v) w'):
  o.wp P a w K Q:=by
 unfold Oper.wp;rcases h with h|⟨h,rfl⟩
 ·rw[h];exact k
 ·rw[h];exact k
def EffOk (P:Program)(o:Oper)(a:Act)(φ:List cu)(w:World)(S:Nat->Prop)(hp:List Ob)(base:Nat)(d:D)(hp':List Ob):Prop:=
 ∃v w' φ' S',OpOk P o a w v w'/\VR φ' w' S' d v/\HR φ' w' S' hp'/\Ext φ φ'/\Fr (bg φ hp) S w (bg φ' hp') S' w'/\∀id,id<base->φ'[id]?=φ[id]?
def EffOk.value {P:Program}{o:Oper}{S:Nat->Prop}{hp:List Ob}{base:Nat}{d:D}(hr:HR φ w S hp){v:Value}(h:(execOp a.eval o).run P w= .ok (.value v) w)(hv:VR φ w S d v):EffOk P o a φ w S hp base d hp:=
 ⟨v,w,φ,S,.inl h,hv,hr,Ext.refl φ,Fr.refl _ _ _,fun _ _=>rfl⟩
end
section
variable [Letters]
theorem zj:∀(a b:LN),cg a b=(a==b)
 |[],[]=>rfl
 |[],b::y=>rfl
 |a::x,[]=>rfl
 |a::x,b::y=>by
  simp only[cg,zj x y,List.cons_beq_cons];by_cases h:a=b
  ·simp_all
  ·have:Nat.beq a b=false:=by
    cases hb:Nat.beq a b with
    |false=>rfl
    |true=>exact absurd (lθ hb) h
   simp_all
theorem gy (a b:Int):az a b=(a==b):=by
 cases a with
 |ofNat m=>cases b with
  |ofNat n=>
   simp only[az];by_cases h:m=n
   ·simp_all
   ·have:Nat.beq m n=false:=by
     cases hb:Nat.beq m n with
     |false=>rfl
     |true=>exact absurd (lθ hb) h
    grind
  |negSucc n=>rfl
 |negSucc m=>cases b with
  |ofNat n=>rfl
  |negSucc n=>
   simp only[az];by_cases h:m=n
   ·simp_all
   ·have:Nat.beq m n=false:=by
     cases hb:Nat.beq m n with
     |false=>rfl
     |true=>exact absurd (lθ hb) h
    simp_all
def blt_eq (a b:Nat):Nat.blt a b=decide (a<b):=by
 by_cases h:a<b
 ·simp_all
 ·have:Nat.blt a b=false:=by
   cases hb:Nat.blt a b with
   |false=>rfl
   |true=>simp_all;omega
  simp_all
def ble_eq (a b:Nat):Nat.ble a b=decide (a<=b):=by
 by_cases h:a<=b
 ·simp_all
 ·have:Nat.ble a b=false:=by
   cases hb:Nat.ble a b with
   |false=>rfl
   |true=>simp_all;omega
  simp_all
def beq_eq (a b:Nat):Nat.beq a b=decide (a=b):=by
 by_cases h:a=b
 ·simp_all
 ·have:Nat.beq a b=false:=by
   cases hb:Nat.beq a b with
   |false=>rfl
   |true=>exact absurd (lθ hb) h
  simp_all
def fh (a b:Int):aG a b=decide (a<b):=by
 cases a with
 |ofNat m=>cases b with
  |ofNat n=>simp only[aG,blt_eq];simp
  |negSucc n=>
   rfl
 |negSucc m=>cases b with
  |ofNat n=>
   simp only[aG];grind
  |negSucc n=>
   simp only[aG,blt_eq];grind
def dt (a b:Int):aL a b=decide (a<=b):=by
 simp only[aL,fh];grind
def qy {α:Type}{c:Prop}[Decidable c]{x y r:α}(h1:c->x=r)(h2:y=r):(bif decide c then x else y)=r:=by
 grind
def hE (k:IntKind)(n:Int):ag k n=k.wrap n:=by
 cases n with
 |ofNat m=>
  cases k with
  |i64=>simp only[ag,blt_eq];exact qy (fun h=>(IntWalk.i64_in _ (by grind)).symm) (Eq.refl _)
  |u64=>simp only[ag,blt_eq];exact qy (fun h=>(IntWalk.u64_in _ (by grind)).symm) (Eq.refl _)
  |u8=>simp only[ag,blt_eq];exact qy (fun h=>(IntWalk.u8_in _ (by grind)).symm) (Eq.refl _)
  |i32=>simp only[ag,blt_eq];exact qy (fun h=>(IntWalk.i32_in _ (by grind)).symm) (Eq.refl _)
  |u32=>simp only[ag,blt_eq];exact qy (fun h=>(IntWalk.u32_in _ (by grind)).symm) (Eq.refl _)
  |i8=>rfl
  |i16=>rfl
  |u16=>rfl
 |negSucc m=>
  cases k with
  |i64=>simp only[ag,blt_eq];exact qy (fun h=>(IntWalk.i64_in _ (by omega)).symm) (Eq.refl _)
  |_=>rfl
def P8:∀(a b:List UInt8),Ue (a.map UInt8.toNat) (b.map UInt8.toNat)=Op.bytesLess a b
 |[],[]=>rfl
 |_::_,[]=>rfl
 |[],_::_=>rfl
 |a::x,b::y=>by
  simp only[List.map_cons,Ue,Op.bytesLess,P8 x y,blt_eq,beq_eq];by_cases h:a<b
  ·have h':a.toNat<b.toNat:=UInt8.lt_iff_toNat_lt.1 h;grind
  ·have h':¬a.toNat<b.toNat:=fun hh=>h (UInt8.lt_iff_toNat_lt.2 hh)
   by_cases e:a=b
   ·simp_all
   ·have e':¬a.toNat=b.toNat:=fun hh=>e (UInt8.toNat_inj.1 hh)
    grind
def zk (a b:List UInt8):cg (a.map UInt8.toNat) (b.map UInt8.toNat)=(a==b):=by
 rw[zj];have hinj:∀x y:UInt8,x.toNat=y.toNat->x=y:=fun x y h=>UInt8.toNat_inj.1 h
 by_cases h:a=b
 ·simp_all
 ·have:¬a.map UInt8.toNat=b.map UInt8.toNat:=fun hh=>h ((List.map_inj_right hinj).1 hh)
  grind
section sy
variable {ρ:Nat->Int}
def Vc:∀{ks:List (Int×Int×Int)} {i:Nat},Iu ρ i ks->Ud ks<=fP ρ i ks/\fP ρ i ks<=UM ks
 |[],_,_=>⟨Int.le_refl _,Int.le_refl _⟩
 |(a,l,h)::r,i,hb=>by
  obtain⟨⟨h1,h2⟩,h3⟩:=hb;obtain⟨k1,k2⟩:=Vc h3;simp only[Ud,UM,fP,fh];by_cases ha:a<0
  ·simp only[ha,decide_true,cond_true];have e1:a*h<=a*ρ i:=Int.mul_le_mul_of_nonpos_left (by omega) h2;have e2:a*ρ i<=a*l:=Int.mul_le_mul_of_nonpos_left (by omega) h1;omega
  ·simp only[ha,decide_false,cond_false];have e1:a*l<=a*ρ i:=Int.mul_le_mul_of_nonneg_left h1 (by omega);have e2:a*ρ i<=a*h:=Int.mul_le_mul_of_nonneg_left h2 (by omega);omega
def SyR.bnd {s:Sy}{n:Int}(h:SyR ρ s n):s.low<=n/\n<=s.top:=by
 cases s with
 |lin c ks=>
  obtain⟨rfl,hb⟩:=h;have:=Vc hb;simp only[Sy.low,Sy.top];omega
 |rng l t=>exact h
def sB (f:Int):∀{ks js:List (Int×Int×Int)} {i:Nat},Iu ρ i ks->Iu ρ i js->fP ρ i (wg f ks js)=fP ρ i ks+f*fP ρ i js/\Iu ρ i (wg f ks js)
 |[],[],_,_,_=>by simp[wg,fP,Iu]
 |[],(b,l,h)::s,i,h1,h2=>by
  obtain⟨e,k⟩:=sB f (ks:=[]) (js:=s) (i:=i+1) trivial h2.2;refine⟨?_,h2.1,k⟩;simp only[wg,fP,e,Int.mul_add,Int.mul_assoc];omega
 |(a,l,h)::r,[],i,h1,h2=>by
  refine⟨?_,h1⟩;simp[wg,fP]
 |(a,l,h)::r,(b,l',h')::s,i,h1,h2=>by
  obtain⟨e,k⟩:=sB f h1.2 h2.2;refine⟨?_,h1.1,k⟩;simp only[wg,fP,Int.mul_add,Int.add_mul,Int.mul_assoc];omega
variable {a:Sy} {m:Int}
def R1 {b:Sy}{n:Int}(h:SyR ρ a n)(k:SyR ρ b m):SyR ρ (Wi a b) (n+m):=by
 have h1:=h.bnd;have k1:=k.bnd;unfold Wi;split
 ·obtain⟨rfl,hb⟩:=h;obtain⟨rfl,kb⟩:=k;obtain⟨e,q⟩:=sB 1 hb kb;refine⟨?_,q⟩;omega
 ·exact⟨by omega,by omega⟩
def sZ {b:Sy}{n:Int}(h:SyR ρ a n)(k:SyR ρ b m):SyR ρ (vB a b) (n - m):=by
 have h1:=h.bnd;have k1:=k.bnd;unfold vB;split
 ·obtain⟨rfl,hb⟩:=h;obtain⟨rfl,kb⟩:=k;obtain⟨e,q⟩:=sB (-1) hb kb;refine⟨?_,q⟩;omega
 ·exact⟨by omega,by omega⟩
def vu (f:Int):∀{ks:List (Int×Int×Int)} {i:Nat},Iu ρ i ks->fP ρ i (om f ks)=f*fP ρ i ks/\Iu ρ i (om f ks)
 |[],_,_=>by simp[om,fP,Iu]
 |(a,l,h)::r,i,hb=>by
  obtain⟨e,k⟩:=vu f hb.2;refine⟨?_,hb.1,k⟩;simp only[om,fP,e,Int.mul_add,Int.mul_assoc]
def Ui {b s:Sy}{n:Int}(h:SyR ρ a n)(k:SyR ρ b m)(e:XT a b=some s):SyR ρ s (n*m):=by
 unfold XT at e;split at e
 ·simp at e;subst e;obtain⟨rfl,_⟩:=h;obtain⟨rfl,kb⟩:=k;obtain⟨e,q⟩:=vu _ kb;refine⟨?_,q⟩;rw[e];simp only[fP,Int.add_zero,Int.mul_add]
 ·simp at e;subst e;obtain⟨rfl,hb⟩:=h;obtain⟨rfl,_⟩:=k;obtain⟨e,q⟩:=vu _ hb;refine⟨?_,q⟩;simp only[fP,Int.add_mul];grind
 ·cases e
def Ut {b s:Sy}{n:Int}(h:SyR ρ a n)(k:SyR ρ b m)(e:X2 a b=some s):m≠0/\SyR ρ s (n.tdiv m):=by
 have h1:=h.bnd;have k1:=k.bnd;unfold X2 at e;cases hc:aL 0 a.low&&aG 0 b.low
 ·simp_all
 ·simp only[hc,cond_true,lα]at e;subst e;rw[lγ,dt,fh,lδ,lδ]at hc;have hm:0<m:=by omega
  have hn:0<=n:=by omega
  refine⟨by omega,?_,?_⟩
  ·rw[Int.tdiv_eq_ediv_of_nonneg hc.1,Int.tdiv_eq_ediv_of_nonneg hn];refine Int.le_trans (Int.ediv_le_ediv (by omega) h1.1) ?_;exact(Int.le_ediv_iff_mul_le hm).2 (Int.le_trans (Int.mul_le_mul_of_nonneg_left k1.2 (Int.ediv_nonneg hn (by omega))) (Int.ediv_mul_le n (by omega)))
  ·rw[Int.tdiv_eq_ediv_of_nonneg hn,Int.tdiv_eq_ediv_of_nonneg (by omega:0<=a.top)];refine Int.le_trans (Int.ediv_le_ediv hm h1.2) ?_;exact(Int.le_ediv_iff_mul_le (by omega)).2 (Int.le_trans (Int.mul_le_mul_of_nonneg_left k1.1 (Int.ediv_nonneg (by omega) (by omega))) (Int.ediv_mul_le a.top (by omega)))
def VC (m:Int):∀{ks:List (Int×Int×Int)} {i:Nat},Iu ρ i ks->(∃q,fP ρ i ks=fP ρ i (sr m ks)+m*q)/\Iu ρ i (sr m ks)
 |[],_,_=>⟨⟨0,by simp[sr,fP]⟩,trivial⟩
 |(a,l,h)::r,i,hb=>by
  obtain⟨⟨q,e⟩,k⟩:=VC m hb.2;refine⟨?_,hb.1,k⟩;simp only[fP,sr,e];cases hz:az (a.emod m) 0
  ·grind
  ·have:a.emod m=0:=by rw[gy]at hz;simp_all
   refine⟨q+a / m*ρ i,?_⟩;have e2:a=m*(a / m):=by
    have:=Int.mul_ediv_add_emod a m;have h3:a % m=0:= ‹a.emod m=0›
    omega
   grind
def Uy {b s:Sy}{n:Int}(h:SyR ρ a n)(k:SyR ρ b m)(e:X4 a b=some s):m≠0/\SyR ρ s (n.tmod m):=by
 unfold X4 at e;split at e
 ·rename_i c ks m';obtain⟨rfl,_⟩:=k;simp only[fP,Int.add_zero];have h1:=h.bnd;obtain⟨hn,hb⟩:=h;obtain⟨⟨q,e1⟩,kb⟩:=VC m' hb;have hr:SyR ρ (.lin (c.emod m') (sr m' ks)) (c.emod m'+fP ρ 0 (sr m' ks)):=⟨rfl,kb⟩;have r1:=hr.bnd;cases hc:aG 0 m'&&(aL 0 (Sy.lin c ks).low&&(aL 0 (Sy.lin (c.emod m') (sr m' ks)).low&&aG (Sy.lin (c.emod m') (sr m' ks)).top m'))
  ·simp_all
  ·simp only[hc,lα]at e;simp only[lγ,dt,fh,lδ]at hc;refine⟨by omega,?_⟩
   have:n.tmod m'=c.emod m'+fP ρ 0 (sr m' ks):=by
    rw[Int.tmod_eq_emod_of_nonneg (by omega)];have e2:n=(c.emod m'+fP ρ 0 (sr m' ks))+m'*(c / m'+q):=by
     have:=Int.mul_ediv_add_emod c m';have h3:c.emod m'=c % m':=rfl;grind
    rw[e2,Int.add_mul_emod_self_left];exact Int.emod_eq_of_lt (by omega) (by omega)
   simp_all
 ·cases e
def QY {k:IntKind}{n:Int}(h:Z7 k<=n/\n<=Z6 k):k.wrap n=n:=by
 cases k<;>simp only[Z7,Z6]at h;case i64=>exact IntWalk.i64_in _ (by omega)
 case u8=>exact IntWalk.u8_in _ (by omega)
 case u16=>exact IntWalk.u16_in _ (by omega)
 case u32=>exact IntWalk.u32_in _ (by omega)
 case u64=>exact IntWalk.u64_in _ (by omega)
 all_goals omega
def Cc:∀{ks:List (Int×Int×Int)} {i:Nat},N2 ks=true->fP ρ i ks=0
 |[],_,_=>rfl
 |(a,l,h)::r,i,hz=>by
  simp only[N2,lγ,gy,beq_iff_eq]at hz;simp only[fP,hz.1,Cc hz.2,Int.zero_mul,Int.add_zero]
end sy
def aaZ {w:World}{S:Nat->Prop}{k:IntKind}{s:Sy}{n:Int}{r:Da}(h:SyR Letters.ρ s n)(e:Uh k s=some r):k.wrap n=n/\PR w S r (.int k n):=by
 have h1:=h.bnd;unfold Uh at e;cases hc:aL (Z7 k) s.low&&aL s.top (Z6 k)
 ·simp_all
 ·simp only[hc,cond_true]at e;rw[lγ,dt,dt,lδ,lδ]at hc;refine⟨QY (by omega),?_⟩;split at e
  ·rename_i c ks;cases hz:N2 ks
   ·simp only[hz,cond_false,lα]at e;subst e;simp only[PR];simp_all
   ·simp only[hz,cond_true,lα]at e;subst e;simp only[PR];obtain⟨rfl,_⟩:=h;rw[Cc hz,Int.add_zero]
  ·simp at e;subst e;simp only[PR];simp_all
variable {ρ:Nat->Int}
def zl {s:Sy}{n:Int}{b:Bool}(h:SyR ρ s n)(e:Pp s=some b):b=decide (n=0):=by
 have h1:=h.bnd;unfold Pp at e;simp only[gy,fh]at e;grind
def IE {s:Sy}{n:Int}{b:Bool}(h:SyR ρ s n)(e:Uf s=some b):b=decide (n<0):=by
 have h1:=h.bnd;unfold Uf at e;simp only[dt,fh]at e;grind
def Iz {s:Sy}{n:Int}{b:Bool}(h:SyR ρ s n)(e:T9 s=some b):b=decide (n<=0):=by
 have h1:=h.bnd;unfold T9 at e;simp only[dt,fh]at e;grind
def pZ {w:World}{S:Nat->Prop}{x:Da}{k:IntKind}{s:Sy}{v:Value}(e:yq x=some (k,s))(h:PR w S x v):∃n,v= .int k n/\SyR Letters.ρ s n:=by
 cases x<;>simp only[yq,reduceCtorEq,lμ]at e
 ·obtain⟨rfl,rfl⟩:=e;exact⟨_,h,by simp[SyR,fP,Iu]⟩
 ·obtain⟨rfl,rfl⟩:=e;simpa only[PR]using h
end
section
variable [Letters]
section
variable {P:Program} {w:World} {S:Nat->Prop} {φ:List cu}
variable {op:BinOp}
def cj {t:TypeId}{x y:Operand}{a b:Value}(h:(∀cs ds,a= .agg cs->b= .agg ds->False)/\(a= .nilIface->b= .nilIface->False)):
  (eqGuard op t x y a b).run P w= .ok () w:=by
 unfold eqGuard;simp_all
def dv:Da->Value
 | .bool b=> .bool b
 | .int k n=> .int k n
 |_=>undef
variable {k:IntKind}
def FF {t:TypeId}{a b:Int}{r:Da}(hs:fZ op=false)(h:iS op k a b=some r):
  ∃v,(binOp op t (.int k a) (.int k b)).run P w= .ok v w/\PR w S r v:=by
 cases op with
 |shl=>simp[fZ]at hs
 |shr=>simp[fZ]at hs
 |quo=>
  simp only[iS,gy,hE]at h;by_cases hb:b=0
  ·simp_all
  ·rw[beq_eq_false_iff_ne.2 hb,cond_false,lα]at h;subst h;simp[binOp,Op.intDiv,hb,PR]
 |rem=>
  simp only[iS,gy,hE]at h;by_cases hb:b=0
  ·simp_all
  ·rw[beq_eq_false_iff_ne.2 hb,cond_false,lα]at h;subst h;simp[binOp,Op.intDiv,hb,PR]
 |_=>
  simp only[iS,gy,fh,dt,hE,lα]at h;subst h;simp[binOp,Op.intArith,Op.intBits,Op.intCmp,bne,PR]
def uc {b:Bool}{o:Option Bool}{r:Da}(h:oN b o=some r):∃c,o=some c/\r= .bool (c==b):=by
 cases o with
 |none=>cases h
 |some c=>simp only[oN,lα]at h;simp_all
def uV {o:Option Sy}{r:Da}(h:Z8 k o=some r):∃s,o=some s/\Uh k s=some r:=by
 cases o with
 |none=>cases h
 |some s=>exact⟨s,rfl,h⟩
def J9 {t:TypeId}{a b:Sy}{n m:Int}{r:Da}(ha:SyR Letters.ρ a n)(hb:SyR Letters.ρ b m)(h:Oj op k a b=some r):
  ∃v,(binOp op t (.int k n) (.int k m)).run P w= .ok v w/\PR w S r v:=by
 cases op<;>simp only[Oj,reduceCtorEq]at h;case add=>
  obtain⟨h1,h2⟩:=aaZ (w:=w) (S:=S) (R1 ha hb) h;exact⟨_,by simp[binOp,Op.intArith,h1],h2⟩
 case sub=>
  obtain⟨h1,h2⟩:=aaZ (w:=w) (S:=S) (sZ ha hb) h;exact⟨_,by simp[binOp,Op.intArith,h1],h2⟩
 case mul=>
  obtain⟨s,hs,h⟩:=uV h;obtain⟨h1,h2⟩:=aaZ (w:=w) (S:=S) (Ui ha hb hs) h;exact⟨_,by simp[binOp,Op.intArith,h1],h2⟩
 case quo=>
  obtain⟨s,hs,h⟩:=uV h;obtain⟨hm,hq⟩:=Ut ha hb hs;obtain⟨h1,h2⟩:=aaZ (w:=w) (S:=S) hq h;exact⟨_,by simp[binOp,Op.intDiv,hm,h1],h2⟩
 case rem=>
  obtain⟨s,hs,h⟩:=uV h;obtain⟨hm,hq⟩:=Uy ha hb hs;obtain⟨h1,h2⟩:=aaZ (w:=w) (S:=S) hq h;exact⟨_,by simp[binOp,Op.intDiv,hm,h1],h2⟩
 all_goals
  obtain⟨c,hc,rfl⟩:=uc h;have hd:=sZ ha hb
 case eql=>
  have:=zl hd hc;refine⟨.bool (decide (n=m)),by simp[binOp,Op.intCmp];try rfl,?_⟩
  simp only[PR];simp_all;omega
 case neq=>
  have:=zl hd hc;refine⟨.bool (!decide (n=m)),by simp[binOp,bne];try rfl,?_⟩
  simp only[PR];simp_all;omega
 case lss=>
  have:=IE hd hc;refine⟨.bool (decide (n<m)),by simp[binOp,Op.intCmp];try rfl,?_⟩
  simp only[PR];simp_all;omega
 case leq=>
  have:=Iz hd hc;refine⟨.bool (decide (n<=m)),by simp[binOp,Op.intCmp];try rfl,?_⟩
  simp only[PR];simp_all;omega
 case gtr=>
  have:=Iz hd hc;refine⟨.bool (decide (n>m)),by simp[binOp,Op.intCmp];try rfl,?_⟩
  congr 1;grind
 case geq=>
  have:=IE hd hc;refine⟨.bool (decide (n≥m)),by simp[binOp,Op.intCmp];try rfl,?_⟩
  congr 1;grind
def Az {t:TypeId}{k':IntKind}{a b:Int}{r:Da}(hs:fZ op=true)(h:kg op k a b=some r):
  ∃v,(binOp op t (.int k a) (.int k' b)).run P w= .ok v w/\PR w S r v:=by
 cases op with
 |shl=>
  simp only[kg,fh,hE]at h;by_cases hb:b<0
  ·simp_all
  ·simp[hb]at h;subst h;simp[binOp,Op.shift,hb,PR]
 |shr=>
  simp only[kg,fh,hE]at h;by_cases hb:b<0
  ·simp_all
  ·simp[hb]at h;subst h;simp[binOp,Op.shift,hb,PR]
 |_=>simp[fZ]at hs
def FG {t:TypeId}{a b:ByteArray}{r:Da}(h:nL op (a.data.toList.map UInt8.toNat) (b.data.toList.map UInt8.toNat)=some r):
  ∃v,(binOp op t (.string a) (.string b)).run P w= .ok v w/\PR w S r v:=by
 have hlen:∀c:ByteArray,c.data.toList.length=c.size:=fun _=>rfl
 cases op with
 |add=>
  simp only[nL,ble_eq,lβ,hlen]at h;by_cases hb:a.size+b.size<=ŭ
  ·simp only[hb,decide_true,cond_true,lα]at h;subst h;have hb':¬(((a.size+b.size:Nat):Int)>IntKind.i64.max):=by
    have:IntKind.i64.max=9223372036854775807:=by rfl
    unfold ŭ at hb;omega
   refine⟨.string (a++b),?_,?_⟩
   ·simp only[binOp,Op.stringOp,hb',if_false,Sem.run_pure]
   ·simp only[PR];simp
  ·simp_all
 |eql|neq|lss|leq|gtr|geq=>
  refine⟨dv r,?_⟩;simp only[nL,zk,P8,lα]at h;subst h;simp only[dv,PR,and_true];simp only[binOp,Op.stringOp,ByteArray.toList_eq,Sem.run_pure]
 |_=>simp[nL]at h
variable {Y:Operand} {y:D}
def Sg {t:TypeId}{X:Operand}{x:D}{v u:Value}{r:Da}(hx:VR φ w S x v)(hy:VR φ w S y u)(h:bin op x y=some r):
  ∃z,(do eqGuard op t X Y v u;binOp op t v u).run P w= .ok z w/\PR w S r z:=by
 unfold bin at h;split at h
 ·rename_i k a k' b;subst hx hy;have hg:(eqGuard op t X Y (.int k a) (.int k' b)).run P w= .ok () w:=cj ⟨by simp,by simp⟩
  cases hs:fZ op with
  |true=>
   simp only[hs,cond_true]at h;obtain⟨z,h1,h2⟩:=Az (P:=P) (w:=w) (S:=S) (t:=t) (k':=k') hs h;simp_all
  |false=>
   simp only[hs,cond_false]at h;split at h
   ·rename_i hk;obtain⟨z,h1,h2⟩:=FF (P:=P) (w:=w) (S:=S) (t:=t) hs h;simp_all
   ·simp at h
 ·obtain⟨a',rfl,rfl⟩:=hx;obtain⟨b',rfl,rfl⟩:=hy;have hg:(eqGuard op t X Y (.string a') (.string b')).run P w= .ok () w:=cj ⟨by simp,by simp⟩
  obtain⟨z,h1,h2⟩:=FG (P:=P) (w:=w) (S:=S) (t:=t) h;simp_all
 ·unfold yZ at h;split at h
  ·rename_i k a k' b hsx hsy;split at h
   ·rename_i hk;obtain⟨n,rfl,hn⟩:=pZ hsx hx;obtain⟨m,rfl,hm⟩:=pZ hsy hy;have hg:(eqGuard op t X Y (.int k n) (.int k m)).run P w= .ok () w:=cj ⟨by simp,by simp⟩
    obtain⟨z,h1,h2⟩:=J9 (P:=P) (w:=w) (S:=S) (t:=t) hn hm h;simp_all
   ·simp at h
  ·simp at h
 ·simp at h
def Oe {t:TypeId}{X:Operand}{x:D}{v u:Value}{r:Da}(ht:P.underlying t=some .bool)(hx:VR φ w S x v)(hy:VR φ w S y u)(h:binB op x y=some r):
  ∃z,(do eqGuard op t X Y v u;binOp op t v u).run P w= .ok z w/\PR w S r z:=by
 unfold binB at h;split at h
 ·rename_i a b;subst hx hy;have hg:(eqGuard op t X Y (.bool a) (.bool b)).run P w= .ok () w:=cj ⟨by simp,by simp⟩
  have he:(Op.equal t (.bool a) (.bool b)).run P w= .ok (a==b) w:=by
   unfold Op.equal Op.maxDepth Op.equalIn;simp[run_underlying ht]
  split at h
  ·simp at h;subst h;exact⟨.bool (a==b),by simp[hg,binOp,he],by rfl⟩
  ·simp at h;subst h;exact⟨.bool (!(a==b)),by simp[hg,binOp,he],by rfl⟩
  ·simp at h
 ·simp at h
variable {d:D}
def jP {v:Value}{b:Bool}(h:fM 0 d=some b)(hv:VR φ w S d v):∃a:Option Addr,v= .pointer a/\a.isNone=b:=by
 simp only[fM]at h;split at h<;>simp at h<;>subst h
 ·simp only[VR,PR]at hv;simp_all
 ·simp only[VR,PR]at hv;grind
 ·simp only[VR]at hv;grind
 ·simp only[VR]at hv;grind
 ·simp only[VR]at hv;grind
def aaH {v:Value}{b:Bool}(h:fM 1 d=some b)(hv:VR φ w S d v):∃(a:Option Addr) (n c:Nat),v= .slice a n c/\a.isNone=b:=by
 simp only[fM]at h;split at h<;>simp at h<;>subst h
 ·obtain⟨a,c,us,rfl,_,ht,_⟩:=hv;exact⟨a,_,_,rfl,by rw[ht.1];rfl⟩
 ·obtain⟨a,c,us,rfl,_,ht,_⟩:=hv;exact⟨a,_,_,rfl,by cases a<;>simp_all [fN]⟩
 ·obtain⟨a,c,us,rfl,_,ht,_⟩:=hv;exact⟨a,_,_,rfl,by cases a<;>simp_all [fN]⟩
 ·obtain⟨a,c,us,rfl,_,ht,hp,hr⟩:=hv;have hne:us≠[]:=by
   simp only[oy]at hp;grind
  grind
 ·obtain⟨a,c,us,rfl,_,hp,hr⟩:=hv;have hne:us≠[]:=by
   simp only[oy]at hp;grind
  grind
 ·simp only[VR]at hv;grind
def qT {v:Value}{b:Bool}(h:fM 2 d=some b)(hv:VR φ w S d v):∃a:Option Nat,v= .map a/\a.isNone=b:=by
 simp only[fM]at h;split at h<;>simp at h<;>subst h
 ·simp only[VR,PR]at hv;simp_all
 ·simp only[VR,PR]at hv;grind
 ·simp only[VR]at hv;grind
def uE {v:Value}{b:Bool}(h:fM 3 d=some b)(hv:VR φ w S d v):(b=true/\v= .nilFunc)\/(b=false/\∃f x y,v= .func f x y):=by
 simp only[fM]at h;split at h<;>simp at h<;>subst h
 ·simp only[VR,PR]at hv;simp_all
 ·simp only[VR,PR]at hv;grind
 ·simp only[VR]at hv;grind
def mm {v:Value}{b:Bool}(h:fM 4 d=some b)(hv:VR φ w S d v):(b=true/\v= .nilIface)\/(b=false/\∃t x,v= .iface t x):=by
 simp only[fM]at h;split at h<;>simp at h<;>subst h
 ·simp only[VR,PR]at hv;simp_all
 ·simp only[VR,PR]at hv;grind
 ·simp only[VR]at hv;grind
def T7 (P:Program)(kd:Nat)(t:TypeId)(X Y:Operand):Prop:=
 (kd=0/\∃e,P.underlying t=some (.pointer e))\/(kd=1/\∃e,P.underlying t=some (.slice e))\/(kd=2/\∃k e,P.underlying t=some (.map k e))\/
 (kd=3/\∃a b c,P.underlying t=some (.func a b c))\/(kd=4/\(gB X||gB Y)=true/\∃ms,P.underlying t=some (.interface ms))
def KD {kd:Nat}{t:TypeId}{X:Operand}(hk:T7 P kd t X Y){x:D}{v u:Value}{b c:Bool}(hx:VR φ w S x v)(hy:VR φ w S y u)(hb:fM kd x=some b)(hc:fM kd y=some c)(h1:b=true\/c=true):
  (Op.equal t v u).run P w= .ok (b&&c) w/\∀op,(eqGuard op t X Y v u).run P w= .ok () w:=by
 rcases hk with⟨rfl,e,ht⟩|⟨rfl,e,ht⟩|⟨rfl,k,e,ht⟩|⟨rfl,a1,a2,a3,ht⟩|⟨rfl,hX,ms,ht⟩
 ·obtain⟨a,rfl,ha⟩:=jP hb hx;obtain⟨a',rfl,ha'⟩:=jP hc hy;refine⟨?_,fun op=>cj ⟨by simp,by simp⟩⟩
  unfold Op.equal Op.maxDepth Op.equalIn;simp only[Sem.run_bind,run_underlying ht,Result.andThen_ok];subst ha ha';cases a<;>cases a'<;>simp_all
 ·obtain⟨a,n,c1,rfl,ha⟩:=aaH hb hx;obtain⟨a',n',c',rfl,ha'⟩:=aaH hc hy;refine⟨?_,fun op=>cj ⟨by simp,by simp⟩⟩
  unfold Op.equal Op.maxDepth Op.equalIn;simp only[Sem.run_bind,run_underlying ht,Result.andThen_ok];subst ha ha';cases a<;>cases a'<;>simp_all
 ·obtain⟨a,rfl,ha⟩:=qT hb hx;obtain⟨a',rfl,ha'⟩:=qT hc hy;refine⟨?_,fun op=>cj ⟨by simp,by simp⟩⟩
  unfold Op.equal Op.maxDepth Op.equalIn;simp only[Sem.run_bind,run_underlying ht,Result.andThen_ok];subst ha ha';cases a<;>cases a'<;>simp_all
 ·rcases uE hb hx with⟨rfl,rfl⟩|⟨rfl,f,x1,y1,rfl⟩<;>rcases uE hc hy with⟨rfl,rfl⟩|⟨rfl,f',x2,y2,rfl⟩;all_goals first
   |(simp at h1;done)
   |(
     refine⟨?_,fun op=>cj ⟨by simp,by simp⟩⟩
     unfold Op.equal Op.maxDepth Op.equalIn;simp[run_underlying ht])
 ·have hgn:∀op,(eqGuard op t X Y .nilIface .nilIface).run P w= .ok () w:=by
   intro op;unfold eqGuard;cases X<;>cases Y<;>first
    |(simp[gB]at hX;done)
    |(cases op<;>rfl)
  rcases mm hb hx with⟨rfl,rfl⟩|⟨rfl,f,x1,rfl⟩<;>rcases mm hc hy with⟨rfl,rfl⟩|⟨rfl,f',x2,rfl⟩;all_goals first
   |(simp at h1;done)
   |(
     refine⟨?_,hgn⟩;unfold Op.equal Op.maxDepth Op.equalIn;simp[run_underlying ht];done)
   |(
     refine⟨?_,fun op=>cj ⟨by simp,by simp⟩⟩
     unfold Op.equal Op.maxDepth Op.equalIn;simp[run_underlying ht])
end
end
section
variable [Letters]
section
variable {P:Program} {w:World} {S:Nat->Prop} {φ:List cu}
variable {kd:Nat}
def pJ {d:D}(h:j6 kd d=true):fM kd d=some true:=by
 unfold j6 at h;split at h
 ·rename_i b hb;rw[hb,h]
 ·simp at h
variable {Y:Operand} {y:D}
def ub {op:BinOp}{t:TypeId}{X:Operand}(hk:T7 P kd t X Y){x:D}{v u:Value}{r:Da}(hx:VR φ w S x v)(hy:VR φ w S y u){b c:Bool}(hb:fM kd x=some b)(hc:fM kd y=some c)(h1:b=true\/c=true)(h:qz op (some (b&&c))=some r):
  ∃z,(do eqGuard op t X Y v u;binOp op t v u).run P w= .ok z w/\PR w S r z:=by
 obtain⟨he,hg⟩:=KD hk hx hy hb hc h1;have hvu:(∀k a k' a',v= .int k a->u= .int k' a'->False)/\(∀k a k' a',v= .float k a->u= .float k' a'->False)/\(∀k a e k' a' e',v= .complex k a e->u= .complex k' a' e'->False)/\(∀s s',v= .string s->u= .string s'->False):=by
  have hsc:(∃a,v= .pointer a)\/(∃a n c,v= .slice a n c)\/(∃a,v= .map a)\/v= .nilFunc\/(∃f x y,v= .func f x y)\/v= .nilIface\/(∃t x,v= .iface t x):=by
   rcases hk with⟨rfl,_⟩|⟨rfl,_⟩|⟨rfl,_⟩|⟨rfl,_⟩|⟨rfl,_⟩
   ·obtain⟨a,rfl,_⟩:=jP hb hx;exact .inl ⟨a,rfl⟩
   ·obtain⟨a,n,c,rfl,_⟩:=aaH hb hx;exact .inr (.inl ⟨a,n,c,rfl⟩)
   ·obtain⟨a,rfl,_⟩:=qT hb hx;exact .inr (.inr (.inl ⟨a,rfl⟩))
   ·rcases uE hb hx with⟨_,rfl⟩|⟨_,f,x,y,rfl⟩
    ·exact .inr (.inr (.inr (.inl rfl)))
    ·exact .inr (.inr (.inr (.inr (.inl ⟨f,x,y,rfl⟩))))
   ·rcases mm hb hx with⟨_,rfl⟩|⟨_,f,x,rfl⟩
    ·exact .inr (.inr (.inr (.inr (.inr (.inl rfl)))))
    ·exact .inr (.inr (.inr (.inr (.inr (.inr ⟨f,x,rfl⟩)))))
  rcases hsc with⟨a,rfl⟩|⟨a,n,c,rfl⟩|⟨a,rfl⟩|rfl|⟨f,x,y,rfl⟩|rfl|⟨t,x,rfl⟩<;>simp
 have hbin:∀q:BinOp,(q= .eql->(binOp q t v u).run P w= .ok (.bool (b&&c)) w)/\(q= .neq->(binOp q t v u).run P w= .ok (.bool (!(b&&c))) w):=by
  intro q;constructor
  ·rintro rfl
   unfold binOp;split<;>first
    |(exfalso;first|exact hvu.1 _ _ _ _ rfl rfl|exact hvu.2.1 _ _ _ _ rfl rfl|exact hvu.2.2.1 _ _ _ _ _ _ rfl rfl|exact hvu.2.2.2 _ _ rfl rfl)
    |(simp[he];done)
    |simp_all
  ·rintro rfl
   unfold binOp;split<;>first
    |(exfalso;first|exact hvu.1 _ _ _ _ rfl rfl|exact hvu.2.1 _ _ _ _ rfl rfl|exact hvu.2.2.1 _ _ _ _ _ _ rfl rfl|exact hvu.2.2.2 _ _ rfl rfl)
    |(simp[he];done)
    |simp_all
 simp only[qz]at h;split at h
 ·simp only[lα]at h;subst h;exact⟨.bool (b&&c),by simp only[Sem.run_bind,hg,Result.andThen_ok,(hbin _).1 rfl],by simp[PR]⟩
 ·simp only[lα]at h;subst h;exact⟨.bool (!(b&&c)),by simp only[Sem.run_bind,hg,Result.andThen_ok,(hbin _).2 rfl],by simp[PR]⟩
 ·simp at h
def Ch {op:BinOp}{t:TypeId}{X:Operand}(hk:T7 P kd t X Y){x:D}{v u:Value}{r:Da}(hx:VR φ w S x v)(hy:VR φ w S y u)(h:binN kd op x y=some r):
  ∃z,(do eqGuard op t X Y v u;binOp op t v u).run P w= .ok z w/\PR w S r z:=by
 unfold binN at h;cases hy1:j6 kd y with
 |true=>
  simp only[hy1,cond_true]at h;have hc:=pJ hy1;cases hb:fM kd x with
  |none=>simp[hb,qz]at h
  |some b=>rw[hb]at h;exact ub hk hx hy hb hc (.inr rfl) (by simpa using h)
 |false=>
  simp only[hy1,cond_false]at h;cases hx1:j6 kd x with
  |true=>
   simp only[hx1,cond_true]at h;have hb:=pJ hx1;cases hc:fM kd y with
   |none=>simp[hc,qz]at h
   |some c=>rw[hc]at h;exact ub hk hx hy hb hc (.inl rfl) (by simpa using h)
  |false=>simp[hx1]at h
def GN {t e:TypeId}{j:TypeInfo}{X:Operand}(hu:P.underlying t=some (.pointer e))(hj:P.info? e=some j){x:D}{v u:Value}{r:Da}(hx:VR φ w S x v)(hy:VR φ w S y u)(h:GM x y=some r):
  ∃z,(do eqGuard .neq t X Y v u;binOp .neq t v u).run P w= .ok z w/\PR w S r z:=by
 unfold GM at h;cases hs:Ax x y with
 |false=>
  rw[hs,cond_false]at h;exact Ch (.inl ⟨rfl,e,hu⟩) hx hy h
 |true=>
  rw[hs,cond_true]at h;simp only[lα]at h;subst h;unfold Ax at hs;split at hs
  ·rename_i i o i' o';rw[lγ,beq_eq,beq_eq,lδ,lδ]at hs;obtain⟨rfl,rfl⟩:=hs;simp only[VR]at hx hy;obtain⟨b,h1,rfl⟩:=hx;obtain⟨b',h2,rfl⟩:=hy;rw[h1]at h2;injection h2 with h2;injection h2 with h2;subst h2;have hg:(eqGuard .neq t X Y (.pointer (some ⟨b,o,none⟩)) (.pointer (some ⟨b,o,none⟩))).run P w= .ok () w:=cj ⟨by simp,by simp⟩
   exact⟨.bool false,by simp only[Sem.run_bind,hg,Result.andThen_ok];exact Lib.run_neq_ptr_same w _ hu hj,by simp[PR]⟩
  ·cases hs
def Yj {op:UnOp}{x:D}{v:Value}{r:Da}(hx:VR φ w S x v)(h:un op x=some r):
  ∃z,(Op.unary op v).run P w= .ok z w/\PR w S r z:=by
 unfold un at h;split at h
 ·simp only[lα,hE]at h;subst h;simp only[VR,PR]at hx;subst hx;rename_i k n;exact⟨.int k (k.wrap (0 - n)),by simp[Op.unary,Op.intArith],by simp[PR]⟩
 ·rename_i k s;simp only[VR,PR]at hx;obtain⟨n,rfl,hn⟩:=hx;obtain⟨h1,h2⟩:=aaZ (w:=w) (S:=S) (sZ (a:= .lin 0 []) (n:=0) (by simp[SyR,fP,Iu]) hn) h;exact⟨_,by simp only[Op.unary,Op.intArith,h1];rfl,h2⟩
 ·simp only[lα]at h;subst h;simp only[VR,PR]at hx;subst hx;rename_i b;exact⟨.bool (!b),by simp[Op.unary],by simp[PR]⟩
 ·simp at h
def Gt {d:D}{v:Value}(h:zY d=true)(hv:VR φ w S d v):(∃a,v= .pointer (some a))\/(∃f fs cs,v= .func (.func f) fs cs)\/∃t x,v= .iface t x:=by
 unfold zY at h;split at h<;>(try simp only[VR,PR]at hv)
 ·obtain⟨b,o,u,rfl,_⟩:=hv;exact .inl ⟨_,rfl⟩
 ·obtain⟨fs,cs,rfl,_⟩:=hv;exact .inr (.inl ⟨_,_,_,rfl⟩)
 ·obtain⟨u,rfl,_⟩:=hv;exact .inr (.inr ⟨_,_,rfl⟩)
 ·obtain⟨b,_,rfl⟩:=hv;exact .inl ⟨_,rfl⟩
 ·obtain⟨b,o,c,z,n,_,_,rfl⟩:=hv;exact .inl ⟨_,rfl⟩
 ·obtain⟨b,o,u,rfl,_⟩:=hv;exact .inl ⟨_,rfl⟩
 ·obtain⟨fs,cs,rfl,_⟩:=hv;exact .inr (.inl ⟨_,_,_,rfl⟩)
 ·obtain⟨u,rfl,_⟩:=hv;exact .inr (.inr ⟨_,_,rfl⟩)
 ·simp at h
end
end
section
variable [Letters]
section
variable {P:Program} {w:World} {S:Nat->Prop} {φ:List cu}
def eP {e:Da}{u:Value}(h:PR w S e u):Pw (PR w S) (cells e) u.cells.toList/\∀c∈u.cells.toList,aQ c:=by
 cases e with
 |agg cs=>
  obtain⟨vs,rfl,h1,h2⟩:=h;exact⟨PRs_iff.1 h1,h2⟩
 |bool b=>have h':=h;subst h';exact⟨Pw.cons h Pw.nil,by simp[Value.cells,aQ]⟩
 |int k n=>have h':=h;subst h';exact⟨Pw.cons h Pw.nil,by simp[Value.cells,aQ]⟩
 |str s=>have h':=h;obtain⟨b,rfl,_⟩:=h';exact⟨Pw.cons h Pw.nil,by simp[Value.cells,aQ]⟩
 |slice g es=>have h':=h;obtain⟨a,c,us,rfl,_⟩:=h';exact⟨Pw.cons h Pw.nil,by simp[Value.cells,aQ]⟩
 |nilptr=>have h':=h;subst h';exact⟨Pw.cons h Pw.nil,by simp[Value.cells,aQ]⟩
 |ptr x=>have h':=h;obtain⟨b,o,u,rfl,_⟩:=h';exact⟨Pw.cons h Pw.nil,by simp[Value.cells,aQ]⟩
 |map ks vs=>have h':=h;obtain⟨r,es,c,rfl,_⟩:=h';exact⟨Pw.cons h Pw.nil,by simp[Value.cells,aQ]⟩
 |nilmap=>have h':=h;subst h';exact⟨Pw.cons h Pw.nil,by simp[Value.cells,aQ]⟩
 |fn f cs=>have h':=h;obtain⟨c0,c,rfl,_⟩:=h';exact⟨Pw.cons h Pw.nil,by simp[Value.cells,aQ]⟩
 |nilfn=>have h':=h;subst h';exact⟨Pw.cons h Pw.nil,by simp[Value.cells,aQ]⟩
 |iface t x=>have h':=h;obtain⟨u,rfl,_⟩:=h';exact⟨Pw.cons h Pw.nil,by simp[Value.cells,aQ]⟩
 |sliceE g es=>have h':=h;obtain⟨⟨a,c,us,rfl,_⟩,_⟩:=h';exact⟨Pw.cons h Pw.nil,by simp[Value.cells,aQ]⟩
 |sym k s=>have h':=h;obtain⟨n,rfl,_⟩:=h';exact⟨Pw.cons h Pw.nil,by simp[Value.cells,aQ]⟩
 |nilif=>have h':=h;subst h';exact⟨Pw.cons h Pw.nil,by simp[Value.cells,aQ]⟩
variable {d:D}
def mU {v:Value}(h:VR φ w S d v)(hc:(bl d).all du=true):Pw (VR φ w S) (bl d) v.cells.toList/\∀c∈v.cells.toList,aQ c:=by
 cases d with
 |p x=>
  simp only[VR]at h;obtain⟨h1,h2⟩:=eP h;refine⟨?_,h2⟩;cases x<;>simp only[bl,cells]at h1 ⊢ <;>first
   |exact Pw.map_left (h1.mono fun _ _ h=>by simpa only[VR]using h)
   |exact h1.map_left (f:=D.p) |>.mono (fun _ _ h=>h)
   |(obtain⟨u,us,e1,e2,e3⟩:=h1.cons_inv;rw[e1];exact Pw.cons (by simpa only[VR]using e2) (by have:=e3.nil_inv;subst this;exact Pw.nil))
 |agg ds=>
  simp only[VR]at h;obtain⟨vs,rfl,h1,h2⟩:=h;exact⟨VRs_iff.1 h1,h2⟩
 |tup ds=>simp[bl,du]at hc
 |junk=>simp[bl,du]at hc
 |box id off=>have h':=h;simp only[VR]at h';obtain⟨b,_,rfl⟩:=h';exact⟨Pw.cons h Pw.nil,by simp[Value.cells,aQ]⟩
 |el id i off=>have h':=h;simp only[VR]at h';obtain⟨b,o,c,z,n,_,_,rfl⟩:=h';exact⟨Pw.cons h Pw.nil,by simp[Value.cells,aQ]⟩
 |ip x off=>have h':=h;simp only[VR]at h';obtain⟨b,o,u,rfl,_⟩:=h';exact⟨Pw.cons h Pw.nil,by simp[Value.cells,aQ]⟩
 |sl g z es=>have h':=h;simp only[VR]at h';obtain⟨a,c,us,rfl,_⟩:=h';exact⟨Pw.cons h Pw.nil,by simp[Value.cells,aQ]⟩
 |arr id lo len z=>have h':=h;simp only[VR]at h';obtain⟨b,o,c,n,a,_,_,_,rfl,_⟩:=h';exact⟨Pw.cons h Pw.nil,by simp[Value.cells,aQ]⟩
 |map id=>have h':=h;simp only[VR]at h';obtain⟨b,_,rfl⟩:=h';exact⟨Pw.cons h Pw.nil,by simp[Value.cells,aQ]⟩
 |fn f cs=>have h':=h;simp only[VR]at h';obtain⟨c0,c,rfl,_⟩:=h';exact⟨Pw.cons h Pw.nil,by simp[Value.cells,aQ]⟩
 |iface t d=>have h':=h;simp only[VR]at h';obtain⟨u,rfl,_⟩:=h';exact⟨Pw.cons h Pw.nil,by simp[Value.cells,aQ]⟩
def oG:∀{ds:List D} {xs:LD} {us:List Value},gT ds=some xs->Pw (VR φ w S) ds us->Pw (PR w S) xs us
 |[],xs,us,h,hp=>by simp only[gT,lα]at h;subst h;have:=hp.nil_inv;subst this;exact Pw.nil
 | .p x::r,xs,us,h,hp=>by
  simp only[gT]at h;split at h
  ·rename_i ys hy;simp at h;subst h;obtain⟨u,us',rfl,h1,h2⟩:=hp.cons_inv;exact Pw.cons (by simpa only[VR]using h1) (oG hy h2)
  ·simp at h
 | .agg _::_,_,_,h,_=>by simp[gT]at h
 | .tup _::_,_,_,h,_=>by simp[gT]at h
 | .box _ _::_,_,_,h,_=>by simp[gT]at h
 | .el _ _ _::_,_,_,h,_=>by simp[gT]at h
 | .ip _ _::_,_,_,h,_=>by simp[gT]at h
 | .arr _ _ _ _::_,_,_,h,_=>by simp[gT]at h
 | .sl _ _ _::_,_,_,h,_=>by simp[gT]at h
 | .map _::_,_,_,h,_=>by simp[gT]at h
 | .fn _ _::_,_,_,h,_=>by simp[gT]at h
 | .iface _ _::_,_,_,h,_=>by simp[gT]at h
 | .junk::_,_,_,h,_=>by simp[gT]at h
variable {us:List Value}
def mw {ds:List D}(h:Pw (VR φ w S) ds us)(hs:∀c∈us,aQ c):VR φ w S (uU ds) (.agg us.toArray):=by
 unfold uU;split
 ·rename_i xs hx;exact⟨us.toArray,rfl,PRs_iff.2 (by simpa using oG hx h),by omega⟩
 ·exact⟨us.toArray,rfl,VRs_iff.2 (by omega),by omega⟩
variable {off:Nat}
def AF {α:Type}{l:List α}{n:Nat}{r:List α}(h:sub l off n=some r):off+n<=l.length/\r=(l.drop off).take n:=by
 unfold sub at h;rw[ble_eq]at h;grind
structure ga (P:Program)(t:TypeId)(y:Ty):Prop where
 info:∃i,P.info? t=some i/\i.size=y.size/\i.bytes=y.bytes
 und:P.underlying t=some y.desc
 agg:y.agg=PP y.desc
 pos:0<y.size
variable {y:Ty}
def dE {t:TypeId}(h:ty P t=some y):ga P t y:=by
 unfold ty at h;split at h
 ·rename_i i d hi hd;rw[blt_eq]at h;by_cases hp:0<i.size
  ·simp[hp]at h;subst h;exact⟨⟨i,hi,rfl,rfl⟩,hd,rfl,hp⟩
  ·simp_all
 ·simp at h
def ga.cellsOf {t:TypeId}{y:Ty}(h:ga P t y):P.cellsOf t=y.size:=by
 obtain⟨i,hi,hs,_⟩:=h.info;simp[Program.cellsOf,hi,hs]
def ga.sizeOf {t:TypeId}{y:Ty}(h:ga P t y)(w:World):(Go.sizeOf t).run P w= .ok y.size w:=by
 obtain⟨i,hi,hs,_⟩:=h.info;simp[Go.sizeOf,typeInfo,hi,hs]
def ga.isAgg {t:TypeId}{y:Ty}(h:ga P t y)(w:World):(Go.isAgg t).run P w= .ok y.agg w:=by
 simp only[Go.isAgg,Sem.run_bind,run_underlying h.und,h.agg];cases y.desc<;>rfl
def cR (b o n:Nat):(⟨b,o,none⟩:Addr).add n=⟨b,o+n,none⟩:=by
 unfold Addr.add;simp
def Ew {t:TypeId}(ht:ga P t y){b o:Nat}{cs:List Value}(hl:cs.length=y.size)(h:∀(j:Nat) c,cs[j]?=some c->w.cell? ⟨b,o+j,none⟩=some c):
  (y.agg=true->(loadVar t ⟨b,o,none⟩).run P w= .ok (.agg cs.toArray) w)/\(y.agg=false->∀c,cs[0]?=some c->(loadVar t ⟨b,o,none⟩).run P w= .ok c w):=by
 constructor
 ·intro ha;have:=run_loadCells_list (P:=P) w ⟨b,o,none⟩ cs (fun j v hj=>by rw[cR];simp_all);simp only[loadVar,Sem.run_bind,ht.isAgg,Result.andThen_ok,ha,if_true,ht.sizeOf,<-hl,this,Sem.run_pure]
 ·intro ha c hc;have:=h 0 c hc;simp at this;simp only[loadVar,Sem.run_bind,ht.isAgg,Result.andThen_ok,ha,Bool.false_eq_true,if_false,run_load,this]
def nZ {t:TypeId}(ht:ga P t y){b o:Nat}{ds:List D}(hp:Pw (VR φ w S) ds us)(hs:∀c∈us,aQ c)(hl:us.length=y.size)(h:∀(j:Nat) c,us[j]?=some c->w.cell? ⟨b,o+j,none⟩=some c)(hd:dN y.agg ds=some d):
  ∃v,(loadVar t ⟨b,o,none⟩).run P w= .ok v w/\VR φ w S d v:=by
 obtain⟨h1,h2⟩:=Ew ht hl h;cases ha:y.agg with
 |true=>
  rw[ha]at hd;simp only[dN,cond_true,lα]at hd;subst hd;exact⟨_,h1 ha,mw hp hs⟩
 |false=>
  rw[ha]at hd;simp only[dN,cond_false]at hd;split at hd
  ·rename_i x;simp only[lα]at hd;subst hd;obtain⟨u,us',rfl,e1,e2⟩:=hp.cons_inv;exact⟨u,h2 ha u rfl,e1⟩
  ·simp at hd
def ū {n j:Nat}{c:Value}(h:((us.drop off).take n)[j]?=some c):us[off+j]?=some c:=by
 grind
def sz {n:Nat}(h:∀c∈us,aQ c):∀c∈(us.drop off).take n,aQ c:=
 by grind
def sO {t:TypeId}(ht:ga P t y){b o:Nat}{e:Da}{u:Value}{ds:LD}(hu:PR w S e u)(hh:rD w b o u.cells)(hs:sub (cells e) off y.size=some ds)(hd:dN y.agg (ds.map .p)=some d):∃v,(loadVar t ⟨b,o+off,none⟩).run P w= .ok v w/\VR φ w S d v:=by
 obtain⟨hl,rfl⟩:=AF hs;obtain⟨h1,h2⟩:=eP hu;refine nZ ht (us:=(u.cells.toList.drop off).take y.size) (Pw.map_left ?_) (sz h2) ?_ ?_ hd
 ·exact((h1.drop off).take y.size).mono fun _ _ h=>by simpa only[VR]using h
 ·have:=h1.1;simp only[mγ,mυ];omega
 ·intro j c hj;have:=ū hj;rw[Nat.add_assoc];exact hh _ c (by simpa using this)
end
end
section
variable [Letters]
structure Cx (G:bH)(a:Act)(φ:List cu)(w:World)(S:Nat->Prop)(hp:List Ob)(tm:Tm):Prop where
 tmr:LT φ w S tm a
 gr:GR G w S
 hr:HR φ w S hp
section
variable {P:Program} {G:bH} {o:Oper} {a:Act} {φ:List cu} {w:World} {S:Nat->Prop} {hp:List Ob} {tm:Tm} {base:Nat}
def dy {id:Nat}{x:Ob}(h:aI hp id=x)(hx:x≠ .dead):hp[id]?=some x:=by
 unfold aI at h;rw[mν]at h;cases hc:hp[id]? with
 |none=>rw[hc]at h;simp at h;exact absurd h.symm hx
 |some y=>rw[hc]at h;simp at h;rw[h]
variable {z:O×List A}
def cU {x:O}{r:Option A}(h:ng x r=some z):∃y,r=some y/\z=(x,[y]):=by
 unfold ng at h;split at h
 ·rename_i y;simp only[lα]at h;exact⟨y,rfl,h.symm⟩
 ·simp at h
def gP {x:O}{r s:Option A}(h:two x r s=some z):∃y u,r=some y/\s=some u/\z=(x,[y,u]):=by
 unfold two at h;split at h
 ·rename_i y u;simp only[lα]at h;exact⟨y,u,rfl,rfl,h.symm⟩
 ·simp at h
variable {d d':D} {ups:List (Nat×Ob)} {new:List Ob}
def jE (h:val d=some (d',ups,new)):d'=d/\ups=[]/\new=[]:=by
 simp only[val,lα,lμ]at h;exact⟨h.1.symm,h.2.1.symm,h.2.2.symm⟩
def EH {r:Option Da}(h:jg r=some (d',ups,new)):∃x,r=some x/\d'= .p x/\ups=[]/\new=[]:=by
 unfold jg at h;split at h
 ·rename_i x;simp only[lα,lμ]at h;exact⟨x,rfl,h.1.symm,h.2.1.symm,h.2.2.symm⟩
 ·simp at h
def aA (cx:Cx G a φ w S hp tm)(h:val d=some (d',ups,new)){v:Value}(hrun:(execOp a.eval o).run P w= .ok (.value v) w)(hv:VR φ w S d v):
  EffOk P o a φ w S hp base d' (grow (au hp ups) new):=by
 obtain⟨rfl,rfl,rfl⟩:=jE h;exact EffOk.value cx.hr hrun hv
def gx (cx:Cx G a φ w S hp tm){r:Option Da}(h:jg r=some (d',ups,new))(hrun:∀x,r=some x->∃v,(execOp a.eval o).run P w= .ok (.value v) w/\PR w S x v):
  EffOk P o a φ w S hp base d' (grow (au hp ups) new):=by
 obtain⟨x,rfl,rfl,rfl,rfl⟩:=EH h;obtain⟨v,h1,h2⟩:=hrun x rfl;exact EffOk.value cx.hr h1 (by simpa only[VR]using h2)
def O6 (cx:Cx G a φ w S hp tm){t:TypeId}{x:Operand}{y:Ty}{ax:A}(ho:o.op= .load t x)(ht:ty P t=some y){tx:TypeId}(hx:cA P G tx x=some ax)(h:fJ y.size y.agg [ev tm ax] ((bm (.load y.size y.agg) [ev tm ax] hp).map (aI hp))=some (d,ups,new)):EffOk P o a φ w S hp base d (grow (au hp ups) new):=by
 have hv:=aO cx.tmr cx.gr hx;have ht:=dE ht;have hex:∀b off v,a.eval x= .pointer (some ⟨b,off,none⟩)->(loadVar t ⟨b,off,none⟩).run P w= .ok v w->(execOp a.eval o).run P w= .ok (.value v) w:=by
  intro b off v e1 e2;simp[execOp,ho,e1,Instr.loadAt,Instr.sureAddr,e2]
 generalize ev tm ax=dx at*
 unfold fJ at h;split at h
 ·rename_i id off heq;simp only[lχ,and_true]at heq;subst heq;simp only[bm,dids,List.map_cons,List.map_nil]at h;split at h
  ·rename_i cs hcs;simp only[lχ,and_true]at hcs;have hob:=dy hcs (by simp);simp only[VR]at hv;obtain⟨b,hb,hv⟩:=hv;obtain⟨vs,t',fz,h1,h2,h3,h4,_⟩:=cx.hr.obj id _ _ hb hob;split at h
   ·rename_i ds hds;split at h
    ·rename_i d0 hd0;obtain⟨hl,rfl⟩:=AF hds;obtain⟨v,e1,e2⟩:=nZ ht (b:=b) (o:=off) ((h3.drop off).take y.size) (sz h4) (by have:=h3.1;simp only[mγ,mυ];omega)
      (fun j c hj=>by
       have:=ū hj;simp only[World.cell?,h1];simpa using this) hd0
     exact aA cx h (hex _ _ _ hv e1) e2
    ·simp at h
   ·simp at h
  ·simp at h
 ·rename_i id i off heq;simp only[lχ,and_true]at heq;subst heq;simp only[bm,dids,List.map_cons,List.map_nil]at h;simp only[VR]at hv;obtain⟨b,o',cap,z,n,hb,hi,hv⟩:=hv;split at h
  ·rename_i es hcs;simp only[lχ,and_true]at hcs;have hob:=dy hcs (by simp);obtain⟨h1,h2,h3,us,h4,h5⟩:=cx.hr.obj id _ _ hb hob;split at h
   ·rename_i e he;obtain⟨u,hu,hr⟩:=h4.get he;split at h
    ·rename_i ds hds;split at h
     ·rename_i d0 hd0;obtain⟨v,e1,e2⟩:=sO ht hr (h5 i u hu).2 hds hd0;exact aA cx h (hex _ _ _ hv e1) e2
     ·simp at h
    ·simp at h
   ·simp at h
  ·rename_i es hcs;simp only[lχ,and_true]at hcs;have hob:=dy hcs (by simp);obtain⟨h1,h2,h3,us,h4,h5⟩:=cx.hr.obj id _ _ hb hob;split at h
   ·rename_i e he;obtain⟨u,hu,hr⟩:=h4.get he;split at h
    ·rename_i ds hds;split at h
     ·rename_i d0 hd0;obtain⟨v,e1,e2⟩:=sO ht hr (h5 i u hu).2 hds hd0;exact aA cx h (hex _ _ _ hv e1) e2
     ·simp at h
    ·simp at h
   ·simp at h
  ·simp at h
 ·rename_i x' off heq;simp only[lχ,and_true]at heq;subst heq;simp only[VR]at hv;obtain⟨b,o',u,hv,hb,hr,hh⟩:=hv;split at h
  ·rename_i ds hds;split at h
   ·rename_i d0 hd0;obtain⟨v,e1,e2⟩:=sO ht hr hh hds hd0;exact aA cx h (hex _ _ _ hv e1) e2
   ·simp at h
  ·simp at h
 ·rename_i x' heq;simp only[lχ,and_true]at heq;subst heq;simp only[VR,PR]at hv;obtain⟨b,o',u,hv,hb,hr,hh⟩:=hv;split at h
  ·rename_i ds hds;split at h
   ·rename_i d0 hd0;obtain⟨v,e1,e2⟩:=sO ht hr hh hds hd0;exact aA cx h (hex _ _ _ (by simpa using hv) e1) e2
   ·simp at h
  ·simp at h
 ·simp at h
end
end
section
variable [Letters]
section
variable {P:Program} {G:bH} {o:Oper} {a:Act} {φ:List cu} {w:World} {S:Nat->Prop} {hp:List Ob} {tm:Tm} {base:Nat}
def aE {t:TypeId}{d:TypeDesc}(h:und P t=d)(hd:d≠ .invalid):P.underlying t=some d:=by
 unfold und at h;cases hu:P.underlying t with
 |none=>rw[hu]at h;simp at h;exact absurd h.symm hd
 |some e=>rw[hu]at h;simp at h;rw[h]
variable {tx:TypeId} {ax:A} {d:D} {ups:List (Nat×Ob)} {new:List Ob}
def Pa (cx:Cx G a φ w S hp tm){x:Operand}(ho:o.op= .move x\/o.op= .assign x)(hx:cA P G tx x=some ax)(h:Yk [ev tm ax]=some (d,ups,new)):EffOk P o a φ w S hp base d (grow (au hp ups) new):=by
 have hv:=aO cx.tmr cx.gr hx;refine aA cx h (v:=a.eval x) ?_ hv;rcases ho with ho|ho<;>simp[execOp,ho]
def Pb (cx:Cx G a φ w S hp tm){c x y:Operand}{tc tY:TypeId}{ac ay:A}(ho:o.op= .pick c x y)(hc:cA P G tc c=some ac)(hx:cA P G tx x=some ax)(hy:cA P G tY y=some ay)(h:xu [ev tm ac,ev tm ax,ev tm ay]=some (d,ups,new)):EffOk P o a φ w S hp base d (grow (au hp ups) new):=by
 have h1:=aO cx.tmr cx.gr hc;have h2:=aO cx.tmr cx.gr hx;have h3:=aO cx.tmr cx.gr hy;generalize ev tm ac=dc at*
 unfold xu at h;split at h
 ·rename_i b x' y' heq;obtain⟨rfl,rfl,rfl⟩:=heq;simp only[VR,PR]at h1;refine aA cx h (v:=if b then a.eval x else a.eval y) ?_ ?_
  ·simp[execOp,ho,h1,asBool]
  all_goals grind
 ·simp at h
variable {k:Nat}
def FX {d:Nat}{t:TypeId}(hk:lT P t=some k){x y:Da}{v u:Value}(hx:PR w S x v)(hy:PR w S y u){b:Bool}(h:qJ k x y=some b):(Op.equalIn (d+1) t v u).run P w= .ok b w:=by
 unfold lT at hk;split at hk
 ·split at hk<;>simp at hk<;>subst hk<;>rename_i hu
  ·simp only[qJ]at h;split at h
   ·split at h
    ·rename_i hij;subst hij;subst hx hy;rw[run_equalIn_int w d t _ _ _ _ (aE hu (by simp)),<-Option.some.inj h,gy]
    ·cases h
   ·split at h
    ·rename_i c hb;unfold yZ at hb;split at hb
     ·rename_i k a k' b' hsx hsy;split at hb
      ·rename_i hk;subst hk;obtain⟨n,rfl,hn⟩:=pZ hsx hx;obtain⟨m,rfl,hm⟩:=pZ hsy hy;obtain⟨e,he,hr⟩:=uc (show oN true (Pp (vB a b'))=some (.bool c)from hb);have:=zl (sZ hn hm) he;rw[run_equalIn_int w d t _ _ _ _ (aE hu (by simp)),<-Option.some.inj h];simp at hr;rw[hr,this];grind
      ·cases hb
     ·cases hb
    ·cases h
  ·simp only[qJ]at h;split at h
   ·obtain⟨a',rfl,rfl⟩:=hx;obtain⟨b',rfl,rfl⟩:=hy;rw[run_equalIn_string w d t _ _ (aE hu (by simp)),<-Option.some.inj h,zk,ByteArray.toList_eq,ByteArray.toList_eq]
   ·cases h
  ·simp only[qJ]at h;split at h
   ·subst hx hy;rw[run_equalIn_bool' w d t _ _ (aE hu (by simp)),<-Option.some.inj h]
   ·cases h
 ·cases hk
def Cp {t:TypeId}(hk:lT P t=some k):∃y,ga P t y/\y.agg=false:=by
 unfold lT at hk;split at hk
 ·rename_i y hy;refine⟨y,dE hy,?_⟩;have h:=dE hy;rw[h.agg];have hd:und P t=y.desc:=by unfold und;rw[h.und];rfl
  rw[hd]at hk;split at hk<;>first|(rename_i e;rw[e];rfl)|cases hk
 ·cases hk
def yh {t:TypeId}{y:Ty}(ht:ga P t y)(ha:y.agg=false){vs:Array Value}{off:Nat}{u:Value}(hc:vs[off]?=some u):(part t vs off).run P w= .ok u w:=by
 simp only[part,Sem.run_bind,ht.isAgg,Result.andThen_ok,ha,Bool.false_eq_true,if_false,hc,Sem.run_pure]
def pb {d:Nat}{vs us:Array Value}{xs0 ys0:LD}(hx:Pw (PR w S) xs0 vs.toList)(hy:Pw (PR w S) ys0 us.toList):∀(fs:List Field) (n:Nat) (ks:LN),nS P fs n=some ks->∀{b:Bool},fV ks (xs0.drop n) (ys0.drop n)=some b->(Op.eqFields (d+1) vs us fs).run P w= .ok b w
 |[],n,ks,hk,b,h=>by
  simp only[nS,lα]at hk;subst hk;simp only[fV,lα]at h;subst h;rfl
 |f::r,n,ks,hk,b,h=>by
  simp only[nS]at hk;split at hk
  ·rename_i k hck;cases hq : (Nat.beq f.offset n && !(f.name == "_")) with
   |false=>simp_all
   |true=>
    rw[hq,cond_true]at hk;rw[lγ]at hq;have hn : f.name ≠ "_" := by
     simp_all
    split at hk
    ·rename_i ks' hks;simp at hk;subst hk;cases hxn:xs0.drop n with
     |nil=>rw[hxn]at h;simp[fV]at h
     |cons x xs=>
      cases hyn:ys0.drop n with
      |nil=>rw[hxn,hyn]at h;simp[fV]at h
      |cons y ys=>
       have ex:xs0[n]?=some x:=by rw[<-Nat.add_zero n,<-List.getElem?_drop,hxn];rfl
       have ey:ys0[n]?=some y:=by rw[<-Nat.add_zero n,<-List.getElem?_drop,hyn];rfl
       have ex':xs0.drop (n+1)=xs:=by rw[<-mχ,hxn];rfl
       have ey':ys0.drop (n+1)=ys:=by rw[<-mχ,hyn];rfl
       obtain⟨v,hv,pv⟩:=hx.get ex;obtain⟨u,hu,pu⟩:=hy.get ey;obtain⟨yt,ht,ha⟩:=Cp hck;have p1:=yh (w:=w) ht ha (vs:=vs) (off:=f.offset) (u:=v) (by simp_all);have p2:=yh (w:=w) ht ha (vs:=us) (off:=f.offset) (u:=u) (by simp_all);rw[hxn,hyn]at h;simp only[fV]at h;split at h
       ·rename_i c hc;have p3:=FX (d:=d) hck pv pu hc;simp only[Op.eqFields,hn,ne_eq,not_false_eq_true,if_true,Sem.run_bind,p1,p2,p3,Result.andThen_ok];cases c with
        |false=>
         simp_all
        |true=>
         exact pb hx hy r (n+1) ks' hks (by simp_all)
       ·cases h
    ·cases hk
  ·cases hk
def Oi {op:BinOp}{t:TypeId}{X Y:Operand}{fs:Array Field}{ks:LN}(hu:P.underlying t=some (.struct fs))(hk:nS P fs.toList 0=some ks)(hp1:P.stoodInHeld t=false)(hp2:P.eqGuardType P.depth t=false){x y:D}{v u:Value}{r:Da}(hx:VR φ w S x v)(hy:VR φ w S y u)(h:binS ks op x y=some r):
  ∃z,(do eqGuard op t X Y v u;binOp op t v u).run P w= .ok z w/\PR w S r z:=by
 unfold binS at h;split at h
 ·obtain⟨vs,rfl,px,_⟩:=hx;obtain⟨us,rfl,py,_⟩:=hy;have hg:=run_eqGuard_agg w op t X Y vs us hp2;have hf:P.fieldsOf t=fs:=by unfold Program.fieldsOf;rw[hu]
  split at h
  ·rename_i b hb;have he:(Op.equalIn 10000 t (.agg vs) (.agg us)).run P w= .ok b w:=by
    rw[run_equalIn_struct w 9999 t vs us (by simp_all) hp1,hf];exact pb (d:=9998) (PRs_iff.1 px) (PRs_iff.1 py) fs.toList 0 ks hk (by simp_all)
   split at h
   ·simp at h;subst h;exact⟨.bool b,by simp only[Sem.run_bind,hg,Result.andThen_ok,run_eql_struct,he],by rfl⟩
   ·simp at h;subst h;exact⟨.bool (!b),by simp only[Sem.run_bind,hg,Result.andThen_ok,run_neq_struct,he],by rfl⟩
   ·cases h
  ·cases h
 ·cases h
def SS (cx:Cx G a φ w S hp tm){op:BinOp}{t yt:TypeId}{x y:Operand}{q:O}{ay:A}(ho:o.op= .binOp op t x y yt)(hq:Ou P op t x y=some q)(hx:cA P G t x=some ax)(hy:cA P G t y=some ay){call:aD}{len:Nat}{ids:LN}{obs:List Ob}(h:nb call base q k [ev tm ax,ev tm ay] ids obs len=some (d,ups,new)):EffOk P o a φ w S hp base d (grow (au hp ups) new):=by
 have h1:=aO cx.tmr cx.gr hx;have h2:=aO cx.tmr cx.gr hy;have hex:∀z,(do eqGuard op t x y (a.eval x) (a.eval y);binOp op t (a.eval x) (a.eval y)).run P w= .ok z w->(execOp a.eval o).run P w= .ok (.value z) w:=by
  intro z hz;simp only[execOp,ho];simp only[Sem.run_bind]at hz ⊢
  rw[hz];rfl
 have kbin:q= .bin op->EffOk P o a φ w S hp base d (grow (au hp ups) new):=by
  rintro rfl
  exact gx cx h fun r hr=>by
   obtain⟨z,e1,e2⟩:=Sg (P:=P) (t:=t) (X:=x) (Y:=y) h1 h2 hr;simp_all
 have kB:P.underlying t=some .bool->q= .binB op->EffOk P o a φ w S hp base d (grow (au hp ups) new):=by
  rintro hu rfl
  exact gx cx h fun r hr=>by
   obtain⟨z,e1,e2⟩:=Oe (P:=P) (t:=t) (X:=x) (Y:=y) hu h1 h2 hr;simp_all
 have kN:∀kd,T7 P kd t x y->q= .binN kd op->EffOk P o a φ w S hp base d (grow (au hp ups) new):=by
  rintro kd hk rfl
  exact gx cx h fun r hr=>by
   obtain⟨z,e1,e2⟩:=Ch (P:=P) (t:=t) (X:=x) (Y:=y) hk h1 h2 hr;simp_all
 have kP:∀e,P.underlying t=some (.pointer e)->IT P op e=true->q= .pne->EffOk P o a φ w S hp base d (grow (au hp ups) new):=by
  rintro e hu hn rfl
  unfold IT at hn;split at hn
  ·obtain⟨j,hj⟩:=Option.isSome_iff_exists.1 hn;exact gx cx h fun r hr=>by
    obtain⟨z,e1,e2⟩:=GN (P:=P) (t:=t) (X:=x) (Y:=y) hu hj h1 h2 hr;simp_all
  ·cases hn
 have kS:∀fs ks,P.underlying t=some (.struct fs)->nS P fs.toList 0=some ks->P.stoodInHeld t=false->P.eqGuardType P.depth t=false->q= .binS ks op->EffOk P o a φ w S hp base d (grow (au hp ups) new):=by
  rintro fs ks hu hk hp1 hp2 rfl
  exact gx cx h fun r hr=>by
   obtain⟨z,e1,e2⟩:=Oi (P:=P) (t:=t) (X:=x) (Y:=y) hu hk hp1 hp2 h1 h2 hr;simp_all
 unfold Ou at hq;cases he:Zg op with
 |true=>
  simp only[he,cond_true]at hq;split at hq
  ·simp_all
  ·simp_all
  ·rename_i hu;simp at hq;exact kB (aE hu (by simp)) hq.symm
  ·rename_i e hu;cases hpn:IT P op e with
   |true=>simp only[hpn,lα]at hq;exact kP e (aE hu (by simp)) hpn hq.symm
   |false=>simp only[hpn,lα]at hq;exact kN 0 (.inl ⟨rfl,e,aE hu (by simp)⟩) hq.symm
  ·rename_i e hu;simp at hq;exact kN 1 (.inr (.inl ⟨rfl,e,aE hu (by simp)⟩)) hq.symm
  ·rename_i k e hu;simp at hq;exact kN 2 (.inr (.inr (.inl ⟨rfl,k,e,aE hu (by simp)⟩))) hq.symm
  ·rename_i x1 x2 x3 hu;simp at hq;exact kN 3 (.inr (.inr (.inr (.inl ⟨rfl,_,_,_,aE hu (by simp)⟩)))) hq.symm
  ·rename_i ms hu;cases hc:(gB x||gB y)with
   |true=>simp only[hc,cond_true,lα]at hq;exact kN 4 (.inr (.inr (.inr (.inr ⟨rfl,hc,ms,aE hu (by simp)⟩)))) hq.symm
   |false=>simp_all
  ·rename_i fs hu;split at hq
   ·rename_i ks hk;cases h1':P.stoodInHeld t<;>cases h2':P.eqGuardType P.depth t<;>simp only[h1',h2',Bool.not_true,Bool.not_false,Bool.and_true,Bool.and_false,cond_true,cond_false,lα,reduceCtorEq]at hq;exact kS fs ks (aE hu (by simp)) hk h1' h2' hq.symm
   ·grind
  ·grind
 |false=>
  grind
def Pe (cx:Cx G a φ w S hp tm){op:UnOp}{t:TypeId}{x:Operand}(ho:o.op= .unOp op t x)(hx:cA P G tx x=some ax)(h:ZT op [ev tm ax]=some (d,ups,new)):EffOk P o a φ w S hp base d (grow (au hp ups) new):=by
 have h1:=aO cx.tmr cx.gr hx;exact gx cx h fun r hr=>by
  obtain⟨z,e1,e2⟩:=Yj (P:=P) h1 hr;exact⟨z,by simp[execOp,ho,e1],e2⟩
def Kw (cx:Cx G a φ w S hp tm){x:Operand}(ho:o.op= .nilCheck x)(hx:cA P G tx x=some ax)(h:nG [ev tm ax]=some (d,ups,new)):EffOk P o a φ w S hp base d (grow (au hp ups) new):=by
 have h1:=aO cx.tmr cx.gr hx;simp only[nG]at h;cases hn:zY (ev tm ax)with
 |false=>simp_all
 |true=>
  simp only[hn,cond_true]at h;refine aA cx h (v:=a.eval x) ?_ h1;rcases Gt hn h1 with⟨p,e⟩|⟨f,fs,cs,e⟩|⟨t,v,e⟩<;>simp[execOp,ho,e]
def W2 (cx:Cx G a φ w S hp tm){s:TypeId}{x:Operand}{i:Nat}{fs:Array Field}{f:Field}{y:Ty}(ho:o.op= .fieldAddr s x i)(hs:und P s= .struct fs)(hf:fs[i]?=some f)(ht:ty P f.type=some y)(hx:cA P G tx x=some ax)(h:We f.offset [ev tm ax]=some (d,ups,new)):EffOk P o a φ w S hp base d (grow (au hp ups) new):=by
 have h1:=aO cx.tmr cx.gr hx;have hu:=aE hs (by simp);have hty:=dE ht;have hex:∀b off,a.eval x= .pointer (some ⟨b,off,none⟩)->(execOp a.eval o).run P w= .ok (.value (.pointer (some ⟨b,off+f.offset,none⟩))) w:=by
  intro b off e;have hne:¬y.size=0:=by have:=hty.pos;omega
  simp[execOp,ho,e,Instr.fieldAt,run_underlying hu,hf,Instr.sureAddr,fieldPlace,hty.sizeOf,hne,cR]
 generalize ev tm ax=dx at*
 unfold We at h;split at h
 ·rename_i id off heq;simp at heq;subst heq;obtain⟨b,hb,hv⟩:=h1;exact aA cx h (hex _ _ hv) (by simp only[VR];simp_all)
 ·rename_i id i' off heq;simp at heq;subst heq;obtain⟨b,o',cap,z,n,hb,hi,hv⟩:=h1;exact aA cx h (hex _ _ hv) (by simp only[VR];grind)
 ·rename_i x' off heq;simp at heq;subst heq;obtain⟨b,o',u,hv,hb,hr,hh⟩:=h1;exact aA cx h (hex _ _ hv) (by simp only[VR];grind)
 ·rename_i x' heq;simp at heq;subst heq;obtain⟨b,o',u,hv,hb,hr,hh⟩:=h1;exact aA cx h (hex _ _ hv) (by simp only[VR];grind)
 ·simp at h
end
end
section
variable [Letters]
section
variable {P:Program} {G:bH} {o:Oper} {a:Act} {φ:List cu} {w:World} {S:Nat->Prop} {hp:List Ob} {tm:Tm} {base:Nat} {d:D} {ups:List (Nat×Ob)} {new:List Ob}
variable {tx:TypeId} {ax:A}
def O5 (cx:Cx G a φ w S hp tm){s t:TypeId}{x:Operand}{q:O}(ho:o.op= .convert s t x)(hq:oO P s t=some q)(hx:cA P G tx x=some ax){call:aD}{k len:Nat}{ids:LN}{obs:List Ob}(h:nb call base q k [ev tm ax] ids obs len=some (d,ups,new))(hn:q≠ .b2s/\q≠ .s2b/\q≠ .uns):EffOk P o a φ w S hp base d (grow (au hp ups) new):=by
 have h1:=aO cx.tmr cx.gr hx;unfold oO at hq;split at hq
 ·rename_i k1 k2 hu1 hu2;simp at hq;subst hq;simp only[nb]at h;generalize ev tm ax=dx at*
  unfold HM at h;split at h
  ·rename_i kk n heq;simp at heq;subst heq;simp only[VR,PR]at h1;refine aA cx h (v:= .int k2 (k2.wrap n)) ?_ (by simp[VR,PR,hE]);simp[execOp,ho,convert,run_underlying (aE hu1 (by simp)),run_underlying (aE hu2 (by simp)),h1,Conv.intToInt]
  ·rename_i kk s heq;simp at heq;subst heq;obtain⟨n,h1,hn⟩:=h1;cases hm:Uh k2 s with
   |none=>rw[hm]at h;cases h
   |some r=>
    rw[hm]at h;obtain⟨e1,e2⟩:=aaZ (w:=w) (S:=S) hn hm;refine aA cx h (v:= .int k2 n) ?_ (by simpa only[VR]using e2);simp[execOp,ho,convert,run_underlying (aE hu1 (by simp)),run_underlying (aE hu2 (by simp)),h1,Conv.intToInt,e1]
  ·simp at h
 ·rename_i hu1 hu2;simp at hq;subst hq;simp only[nb]at h;generalize ev tm ax=dx at*
  unfold HO at h;split at h
  ·rename_i s' heq;simp at heq;subst heq;have h1':=h1;obtain⟨b,hb,rfl⟩:=h1;refine aA cx h (v:= .string b) ?_ (hb▸h1');simp[execOp,ho,convert,run_underlying (aE hu1 (by simp)),run_underlying (aE hu2 (by simp)),hb]
  ·simp at h
 all_goals grind
def O8 (cx:Cx G a φ w S hp tm){t:TypeId}{x:Operand}(ho:o.op= .makeInterface t x)(hu:∃e,P.underlying t=some e/\∀ms,e≠ .interface ms)(hx:cA P G tx x=some ax)(h:B7 t [ev tm ax]=some (d,ups,new)):EffOk P o a φ w S hp base d (grow (au hp ups) new):=by
 have h1:=aO cx.tmr cx.gr hx;obtain⟨e,hu,hne⟩:=hu;have hex:(execOp a.eval o).run P w= .ok (.value (.iface t (a.eval x))) w:=by
  simp only[execOp,ho,Instr.makeInterface,Sem.run_bind,run_underlying hu,Result.andThen_ok];cases e<;>first
   |rfl
   |(rename_i ms;exact absurd rfl (hne ms))
 generalize ev tm ax=dx at*
 unfold B7 at h;split at h
 ·rename_i x' heq;simp only[lχ,and_true]at heq;subst heq;exact aA cx h hex (by simp only[VR,PR]at h1 ⊢;exact⟨_,rfl,h1⟩)
 ·rename_i d' _ heq;simp only[lχ,and_true]at heq;subst heq;exact aA cx h hex (by simp only[VR]at h1 ⊢;exact⟨_,rfl,h1⟩)
 ·simp at h
def O7 (cx:Cx G a φ w S hp tm){f:FuncId}{first captured:Array Operand}{ts:List TypeId}{as:List A}(ho:o.op= .makeFunc (.func f) first captured)(hf:f<1000000)(hx:lD P G ts (first.toList++captured.toList)=some as)
  (h:B6 (f+1000000*first.size) (as.map (ev tm))=some (d,ups,new)):EffOk P o a φ w S hp base d (grow (au hp ups) new):=by
 have h1:=cB cx.tmr cx.gr hx;have hF:wi (f+1000000*first.size)=f:=(show ∀f k:Nat,f<1000000->(f+1000000*k) % 1000000=f by simp) f _ hf;have hK:Vp (f+1000000*first.size)=first.size:=(show ∀f k:Nat,f<1000000->(f+1000000*k) / 1000000=k by omega) f _ hf
 have hex:(execOp a.eval o).run P w= .ok (.value (.func (.func f) (first.map a.eval) (captured.map a.eval))) w:=by
  simp[execOp,ho,Instr.makeFunc]
 unfold B6 at h;split at h
 ·rename_i xs hxs;exact aA cx h hex (by exact⟨_,_,by rw[hF],by simp_all,PRs_iff.2 (by simpa using oG hxs h1)⟩)
 ·exact aA cx h hex (by exact⟨_,_,by rw[hF],by simp_all,VRs_iff.2 (by simp_all)⟩)
def zO (vs:Array Value)(off n:Nat):(vs.extract off (off+n)).toList=(vs.toList.drop off).take n:=by
 simp
variable {y:Ty}
def vr {t:TypeId}(ht:ga P t y){vs:Array Value}{off:Nat}{ds:List D}(hp:Pw (VR φ w S) ds vs.toList)(hs:∀c∈vs.toList,aQ c){es:List D}(h1:sub ds off y.size=some es)(h2:dN y.agg es=some d):
  ∃v,(part t vs off).run P w= .ok v w/\VR φ w S d v:=by
 obtain⟨hl,rfl⟩:=AF h1;have hps:=(hp.drop off).take y.size;cases ha:y.agg with
 |true=>
  rw[ha]at h2;simp only[dN,cond_true,lα]at h2;subst h2;refine⟨.agg (vs.extract off (off+y.size)),?_,?_⟩
  ·simp only[part,Sem.run_bind,ht.isAgg,Result.andThen_ok,ha,if_true,ht.sizeOf,Sem.run_pure]
  ·have:=mw hps (sz hs);rwa [<-zO,Array.toArray_toList]at this
 |false=>
  rw[ha]at h2;simp only[dN,cond_false]at h2;split at h2
  ·rename_i x heq;simp at h2;subst h2;rw[heq]at hps;obtain⟨u,us',e0,e1,_⟩:=hps.cons_inv;have hc:vs[off]?=some u:=by
    have:((vs.toList.drop off).take y.size)[0]?=some u:=by grind
    grind
   refine⟨u,?_,e1⟩;simp only[part,Sem.run_bind,ht.isAgg,Result.andThen_ok,ha,Bool.false_eq_true,if_false,hc,Sem.run_pure]
  ·grind
def S4 (cx:Cx G a φ w S hp tm){s:TypeId}{x:Operand}{i:Nat}{fs:Array Field}{f:Field}(ho:o.op= .field s x i)(hs:und P s= .struct fs)(hf:fs[i]?=some f)(ht:ty P f.type=some y)(hx:cA P G tx x=some ax)(h:B2 f.offset y.size y.agg [ev tm ax]=some (d,ups,new)):EffOk P o a φ w S hp base d (grow (au hp ups) new):=by
 have h1:=aO cx.tmr cx.gr hx;have hu:=aE hs (by simp);have hty:=dE ht;have hex:∀vs v,a.eval x= .agg vs->(part f.type vs f.offset).run P w= .ok v w->(execOp a.eval o).run P w= .ok (.value v) w:=by
  intro vs v e1 e2;simp[execOp,ho,e1,Instr.field,run_underlying hu,hf,asAgg,e2]
 generalize ev tm ax=dx at*
 unfold B2 at h;split at h
 ·rename_i cs heq;simp at heq;subst heq;obtain⟨vs,hv,hp1,hs1⟩:=h1;split at h
  ·rename_i ds hds;split at h
   ·rename_i d0 hd0;obtain⟨v,e1,e2⟩:=vr hty (φ:=φ) (S:=S) (Pw.map_left ((PRs_iff.1 hp1).mono fun _ _ h=>by simpa only[VR]using h)) hs1 hds hd0;exact aA cx h (hex _ _ hv e1) e2
   ·simp at h
  ·simp at h
 ·rename_i cs heq;simp at heq;subst heq;obtain⟨vs,hv,hp1,hs1⟩:=h1;split at h
  ·rename_i ds hds;split at h
   ·rename_i d0 hd0;obtain⟨v,e1,e2⟩:=vr hty (φ:=φ) (S:=S) (VRs_iff.1 hp1) hs1 hds hd0;exact aA cx h (hex _ _ hv e1) e2
   ·simp at h
  ·simp at h
 ·simp at h
def SZ (cx:Cx G a φ w S hp tm){x:Operand}{i:Nat}(ho:o.op= .extract x i)(hx:cA P G tx x=some ax)(h:Fy i [ev tm ax]=some (d,ups,new)):EffOk P o a φ w S hp base d (grow (au hp ups) new):=by
 have h1:=aO cx.tmr cx.gr hx;generalize ev tm ax=dx at*
 unfold Fy at h;split at h
 ·rename_i ds heq;simp at heq;subst heq;obtain⟨vs,hv,hp1⟩:=h1;split at h
  ·rename_i d0 hd0;obtain⟨u,hu,hr⟩:=(VRs_iff.1 hp1).get hd0;refine aA cx h (v:=u) ?_ hr;have:vs[i]?=some u:=by simp_all
   simp[execOp,ho,hv,Instr.extract,this]
  ·simp at h
 ·simp at h
def yX {es:LD}{i:Int}{e:Da}(h:bU es i=some e):0<=i/\es[i.toNat]?=some e:=by
 unfold bU at h;rw[dt]at h;grind
variable {us:List Value}
def Xz {es:LD}(hp:Pw (PR w S) es us){i:Int}{e:Da}(h:0<=i/\es[i.toNat]?=some e):i<us.length:=by
 obtain⟨u,hu,_⟩:=hp.get h.2;grind
variable {te:TypeId}
def F9 {t:TypeId}(hu:P.underlying t=some (.slice te))(ht:ga P te y){es:LD}{cap:Nat}{a':Option Addr}(hp:Pw (PR w S) es us)(hr:us≠[]->∃b o,a'=some ⟨b,o,none⟩/\S b/\rowAt w b o y.size us){k:IntKind}{i:Int}{e:Da}(h:0<=i/\es[i.toNat]?=some e):∃v,(Instr.indexAt t (.slice a' us.length cap) (.int k i)).run P w= .ok v w/\VR φ w S (.ip e 0) v:=by
 have hlt:=Xz hp h;obtain⟨u,hu1,hu2⟩:=hp.get h.2;have hne:us≠[]:=by intro hh;simp[hh]at hu1
 obtain⟨b,o,rfl,hb,hrow⟩:=hr hne;refine⟨.pointer (some ⟨b,o+i.toNat*y.size,none⟩),?_,?_⟩
 ·simp only[Instr.indexAt,asIntOf,Sem.run_bind,Sem.run_pure,Result.andThen_ok,run_underlying hu];have h0:0<=i/\i<(us.length:Int):=⟨h.1,hlt⟩;simp[h0,ht.sizeOf,cR]
 ·simp only[VR];exact⟨b,o+i.toNat*y.size,u,by simp,hb,hu2,(hrow _ u hu1).2⟩
variable {ti:TypeId} {ai:A}
def W3 (cx:Cx G a φ w S hp tm){t:TypeId}{x i:Operand}(ho:o.op= .indexAddr t x i)(hs:und P t= .slice te)(ht:ty P te=some y)(hx:cA P G tx x=some ax)(hi:cA P G ti i=some ai)(h:HN y.size [ev tm ax,ev tm ai]=some (d,ups,new)):EffOk P o a φ w S hp base d (grow (au hp ups) new):=by
 have h1:=aO cx.tmr cx.gr hx;have h2:=aO cx.tmr cx.gr hi;have hu:=aE hs (by simp);have hty:=dE ht;have hex:∀v,(Instr.indexAt t (a.eval x) (a.eval i)).run P w= .ok v w->(execOp a.eval o).run P w= .ok (.value v) w:=by
  intro v e;simp[execOp,ho,e]
 generalize ev tm ax=dx at*
 generalize ev tm ai=di at*
 unfold HN at h;split at h
 ·rename_i z es k n heq;obtain⟨rfl,rfl⟩:=heq;simp only[VR,PR]at h1 h2;rw[beq_eq]at h;by_cases hz:z=y.size
  ·simp only[hz,cond_true]at h;split at h
   ·rename_i e he;obtain⟨a',cap,us,hv,_,hp1,hr⟩:=h1;subst hz;obtain⟨v,e1,e2⟩:=F9 (φ:=φ) hu hty (k:=k) (PRs_iff.1 hp1) hr (yX he);exact aA cx h (hex v (by simp_all;omega)) e2
   ·simp at h
  ·simp_all
 ·rename_i z es k n heq;obtain⟨rfl,rfl⟩:=heq;simp only[VR,PR]at h1 h2;rw[beq_eq]at h;by_cases hz:z=y.size
  ·simp only[hz,cond_true]at h;split at h
   ·rename_i e he;obtain⟨⟨a',cap,us,hv,_,hp1,hr⟩,_⟩:=h1;subst hz;obtain⟨v,e1,e2⟩:=F9 (φ:=φ) hu hty (k:=k) (PRs_iff.1 hp1) hr (yX he);exact aA cx h (hex v (by simp_all;omega)) e2
   ·simp at h
  ·simp_all
 ·rename_i g z es k n heq;obtain⟨rfl,rfl⟩:=heq;simp only[VR,PR]at h1 h2;rw[beq_eq]at h;by_cases hz:z=y.size
  ·simp only[hz,cond_true]at h;split at h
   ·rename_i e he;obtain⟨a',cap,us,hv,_,_,hp1,hr⟩:=h1;subst hz;obtain⟨v,e1,e2⟩:=F9 (φ:=φ) hu hty (k:=k) (PRs_iff.1 hp1) hr (yX he);exact aA cx h (hex v (by simp_all;omega)) e2
   ·simp at h
  ·simp_all
 ·rename_i id lo len z k n heq;obtain⟨rfl,rfl⟩:=heq;rw[beq_eq,dt,fh]at h;by_cases hz:z=y.size/\0<=n/\n<(len:Int)
  ·obtain⟨hz,hn0,hn1⟩:=hz;simp only[hz,hn0,hn1,cond_true]at h;obtain⟨b,o',cap,nn,a',hb,hl,hc,hv,ha⟩:=h1;have hlt:lo<cap:=by omega
   have:=ha hlt;subst this;refine aA cx h (v:= .pointer (some ⟨b,o'+(lo+n.toNat)*z,none⟩)) (hex _ ?_) ?_
   ·rw[hv,h2];simp only[Instr.indexAt,asIntOf,Sem.run_bind,Result.andThen_ok,run_underlying hu];have h0:0<=n/\n<(len:Int):=⟨hn0,hn1⟩;simp[h0,hty.sizeOf,cR,hz,mι,Nat.add_assoc]
   ·simp only[VR];grind
  all_goals grind
 ·simp at h
def S5 (cx:Cx G a φ w S hp tm){t:TypeId}{n:Nat}{x i:Operand}(ho:o.op= .indexAddr t x i)(hs:und P t= .array n te)(ht:ty P te=some y)(hx:cA P G tx x=some ax)(hi:cA P G ti i=some ai)(h:B3 n y.size [ev tm ax,ev tm ai]=some (d,ups,new)):EffOk P o a φ w S hp base d (grow (au hp ups) new):=by
 have h1:=aO cx.tmr cx.gr hx;have h2:=aO cx.tmr cx.gr hi;have hu:=aE hs (by simp);have hty:=dE ht;have hex:∀b off k j,a.eval x= .pointer (some ⟨b,off,none⟩)->a.eval i= .int k j->0<=j/\j<(n:Int)->(execOp a.eval o).run P w= .ok (.value (.pointer (some ⟨b,off+j.toNat*y.size,none⟩))) w:=by
  intro b off k j e1 e2 e3;simp only[execOp,ho,e1,e2,Instr.indexAt,asIntOf,Sem.run_bind,Result.andThen_ok,run_underlying hu,Instr.sureAddr];simp[e3,hty.sizeOf,cR]
 generalize ev tm ax=dx at*
 generalize ev tm ai=di at*
 unfold B3 at h;split at h
 ·rename_i id off k j heq;obtain⟨rfl,rfl⟩:=heq;rw[dt,fh]at h;by_cases hj:0<=j/\j<(n:Int)
  ·simp only[hj.1,hj.2,cond_true]at h;obtain⟨b,hb,hv⟩:=h1;exact aA cx h (hex _ _ _ _ hv h2 hj) (by simp only[VR];simp_all)
  all_goals grind
 ·rename_i x' off k j heq;obtain⟨rfl,rfl⟩:=heq;rw[dt,fh]at h;by_cases hj:0<=j/\j<(n:Int)
  ·simp only[hj.1,hj.2,cond_true]at h;obtain⟨b,o',u,hv,hb,hr,hh⟩:=h1;exact aA cx h (hex _ _ _ _ hv h2 hj) (by simp only[VR];grind)
  all_goals grind
 ·simp at h
def S6 (cx:Cx G a φ w S hp tm){t:TypeId}{n:Nat}{x i:Operand}(ho:o.op= .index t x i)(hs:und P t= .array n te)(ht:ty P te=some y)(hx:cA P G tx x=some ax)(hi:cA P G ti i=some ai)(h:Fz n y.size y.agg [ev tm ax,ev tm ai]=some (d,ups,new)):EffOk P o a φ w S hp base d (grow (au hp ups) new):=by
 have h1:=aO cx.tmr cx.gr hx;have h2:=aO cx.tmr cx.gr hi;have hu:=aE hs (by simp);have hty:=dE ht;have hex:∀vs v k j,a.eval x= .agg vs->a.eval i= .int k j->0<=j/\j<(n:Int)->(part te vs (j.toNat*y.size)).run P w= .ok v w->(execOp a.eval o).run P w= .ok (.value v) w:=by
  intro vs v k j e1 e2 e3 e4;simp only[execOp,ho,e1,e2,Instr.index,asIntOf,Sem.run_bind,run_underlying hu];simp[e3,hty.sizeOf,e4]
 generalize ev tm ax=dx at*
 generalize ev tm ai=di at*
 unfold Fz at h;split at h
 ·rename_i cs k j heq;obtain⟨rfl,rfl⟩:=heq;obtain⟨vs,hv,hp1,hs1⟩:=h1;rw[dt,fh]at h;by_cases hj:0<=j/\j<(n:Int)
  ·simp only[hj.1,hj.2,cond_true]at h;split at h
   ·rename_i ds hds;split at h
    ·rename_i d0 hd0;obtain⟨v,e1,e2⟩:=vr hty (φ:=φ) (S:=S) (Pw.map_left ((PRs_iff.1 hp1).mono fun _ _ h=>by simpa only[VR]using h)) hs1 hds hd0;exact aA cx h (hex _ _ _ _ hv h2 hj e1) e2
    ·simp at h
   ·simp at h
  all_goals grind
 ·simp at h
def Ot {b:ByteArray}{i:Nat}{n:Nat}(h:(b.data.toList.map UInt8.toNat)[i]?=some n):∃c:UInt8,b[i]?=some c/\c.toNat=n:=by
 rw[lξ]at h;cases hc:b.data.toList[i]? with
 |none=>simp_all
 |some c=>
  rw[hc]at h;simp at h;refine⟨c,?_,h⟩;have h2:b.data[i]?=some c:=by simp_all
  have hlt:i<b.data.size:=by
   grind
  have hlt':i<b.size:=hlt;rw[getElem?_pos b i hlt'];rw[getElem?_pos b.data i hlt]at h2;exact h2
def W4 (cx:Cx G a φ w S hp tm){t:TypeId}{x i:Operand}(ho:o.op= .index t x i)(hs:und P t= .string)(hx:cA P G tx x=some ax)(hi:cA P G ti i=some ai)(h:RZ [ev tm ax,ev tm ai]=some (d,ups,new)):EffOk P o a φ w S hp base d (grow (au hp ups) new):=by
 have h1:=aO cx.tmr cx.gr hx;have h2:=aO cx.tmr cx.gr hi;have hu:=aE hs (by simp);generalize ev tm ax=dx at*
 generalize ev tm ai=di at*
 unfold RZ at h;split at h
 ·rename_i s k j heq;obtain⟨rfl,rfl⟩:=heq;simp only[VR,PR]at h1 h2;obtain⟨b,hb,rfl⟩:=h1;split at h
  ·rename_i n hn;rw[dt]at hn;by_cases hj:0<=j
   ·simp only[hj,cond_true]at hn;obtain⟨c,hc,rfl⟩:=Ot hn;refine aA cx h (v:= .int .u8 c.toNat) ?_ (by rfl);simp only[execOp,ho,hb,h2,Instr.index,asIntOf,Sem.run_bind,Sem.run_pure,Result.andThen_ok,run_underlying hu,hj,if_true,hc]
   ·simp_all
  ·simp at h
 ·simp at h
end
end
section
variable [Letters]
section
variable {P:Program} {G:bH} {o:Oper} {a:Act} {φ:List cu} {w:World} {S:Nat->Prop} {hp:List Ob} {tm:Tm} {base:Nat} {d:D} {ups:List (Nat×Ob)} {new:List Ob}
def eY {x:D}{v:Value}{y n c:Nat}(hv:VR φ w S x v)(h:j0 x y=some n)(hc:y<=c)(code:BoundsCode):(Instr.sliceBound v c code).run P w= .ok n w/\n<=y:=by
 unfold j0 at h;split at h
 ·rename_i k i;subst hv;rw[dt,dt]at h;by_cases hi:0<=i/\i<=(y:Int)
  ·simp only[hi.1,hi.2,decide_true,Bool.and_self,cond_true,lα]at h;subst h;have h2:0<=i/\i<=(c:Int):=⟨hi.1,by omega⟩
   refine⟨?_,by omega⟩
   simp only[Instr.sliceBound,asIntOf,Sem.run_bind,Sem.run_pure,Result.andThen_ok,h2,and_self,if_true]
  all_goals grind
 ·simp at h
variable {lo hi mx:Option Operand} {cap:Nat} {xs:List D} {m:Nat}
def fy {len:Nat}{l h:Nat}(hv:Pw (VR φ w S) xs ((so lo hi mx).map a.eval))(hb:l0 lo.isSome hi.isSome mx.isSome len xs=some (l,h,m))(hc:len<=cap)(s:Bool):
  (Instr.sliceBounds s len cap (lo.map a.eval) (hi.map a.eval) (mx.map a.eval)).run P w= .ok (l,h,if mx.isSome then m else cap) w/\l<=h/\h<=m/\m<=len:=by
 cases lo with
 |none=>cases hi with
  |none=>cases mx with
   |none=>
    obtain rfl:=lη hv.1;obtain⟨rfl,rfl,rfl⟩:=hb;exact⟨by rfl,by omega,by omega,by omega⟩
   |some c=>
    simp only[l0,Option.isSome]at hb;simp_all
  |some b=>cases mx with
   |none=>
    cases xs with
    |nil=>simp[l0]at hb
    |cons x r=>
     have hr:=hv.tail;obtain rfl:r=[]:=lη hr.1;have hx:=hv.head;simp only[l0,Option.isSome]at hb;split at hb
     ·rename_i n hn;obtain⟨rfl,rfl,rfl⟩:=hb;obtain⟨e1,e2⟩:=eY (P:=P) hx hn hc (if s then .sliceAcap else .sliceAlen);exact⟨by simp[Instr.sliceBounds,e1],by omega,by omega,by omega⟩
     ·grind
   |some c=>
    simp only[so,List.cons_append]at hv;obtain⟨x,r,e,hx,hr⟩:∃x r,xs=x::r/\VR φ w S x (a.eval b)/\Pw (VR φ w S) r [a.eval c]:=by
     cases xs with
     |nil=>have:=hv.1;grind
     |cons x r=>exact⟨x,r,rfl,hv.head,hv.tail⟩
    subst e;cases r with
    |nil=>have:=hr.1;grind
    |cons y r=>
     have hy:=hr.head;obtain rfl:r=[]:=lη hr.tail.1;simp only[l0,Option.isSome]at hb;split at hb
     ·rename_i m' hm';split at hb
      ·rename_i n hn;obtain⟨rfl,rfl,rfl⟩:=hb;obtain⟨e1,e2⟩:=eY (P:=P) hy hm' hc (if s then .slice3Acap else .slice3Alen);obtain⟨e3,e4⟩:=eY (P:=P) hx hn (Nat.le_refl _) .slice3B;exact⟨by simp[Instr.sliceBounds,e1,e3],by omega,by omega,by omega⟩
      ·grind
     ·grind
 |some a'=>cases hi with
  |none=>cases mx with
   |none=>
    cases xs with
    |nil=>simp[l0]at hb
    |cons x r=>
     have hr:=hv.tail;obtain rfl:r=[]:=lη hr.1;have hx:=hv.head;simp only[l0,Option.isSome]at hb;split at hb
     ·rename_i n hn;obtain⟨rfl,rfl,rfl⟩:=hb;obtain⟨e1,e2⟩:=eY (P:=P) hx hn (Nat.le_refl _) .sliceB;exact⟨by simp[Instr.sliceBounds,e1],by omega,by omega,by omega⟩
     ·grind
   |some c=>
    simp only[l0,Option.isSome]at hb;simp_all
  |some b=>cases mx with
   |none=>
    simp only[so,List.cons_append]at hv;obtain⟨x,r,e,hx,hr⟩:∃x r,xs=x::r/\VR φ w S x (a.eval a')/\Pw (VR φ w S) r [a.eval b]:=by
     cases xs with
     |nil=>have:=hv.1;grind
     |cons x r=>exact⟨x,r,rfl,hv.head,hv.tail⟩
    subst e;cases r with
    |nil=>have:=hr.1;grind
    |cons y r=>
     have hy:=hr.head;obtain rfl:r=[]:=lη hr.tail.1;simp only[l0,Option.isSome]at hb;split at hb
     ·rename_i h' hh';split at hb
      ·rename_i n hn;obtain⟨rfl,rfl,rfl⟩:=hb;obtain⟨e1,e2⟩:=eY (P:=P) hy hh' hc (if s then .sliceAcap else .sliceAlen);obtain⟨e3,e4⟩:=eY (P:=P) hx hn (Nat.le_refl _) .sliceB;exact⟨by simp[Instr.sliceBounds,e1,e3],by omega,by omega,by omega⟩
      ·grind
     ·grind
   |some c=>
    simp only[so,List.cons_append]at hv;obtain⟨x,r,e,hx,hr⟩:∃x r,xs=x::r/\VR φ w S x (a.eval a')/\Pw (VR φ w S) r [a.eval b,a.eval c]:=by
     cases xs with
     |nil=>have:=hv.1;grind
     |cons x r=>exact⟨x,r,rfl,hv.head,hv.tail⟩
    subst e;obtain⟨y,r',e,hy,hr'⟩:∃y r',r=y::r'/\VR φ w S y (a.eval b)/\Pw (VR φ w S) r' [a.eval c]:=by
     cases r with
     |nil=>have:=hr.1;grind
     |cons x r=>exact⟨x,r,rfl,hr.head,hr.tail⟩
    subst e;cases r' with
    |nil=>have:=hr'.1;grind
    |cons z r=>
     have hz:=hr'.head;obtain rfl:r=[]:=lη hr'.tail.1;simp only[l0,Option.isSome]at hb;split at hb
     ·rename_i m' hm';split at hb
      ·rename_i h' hh';split at hb
       ·rename_i n hn;obtain⟨rfl,rfl,rfl⟩:=hb;obtain⟨e1,e2⟩:=eY (P:=P) hz hm' hc (if s then .slice3Acap else .slice3Alen);obtain⟨e3,e4⟩:=eY (P:=P) hy hh' (Nat.le_refl _) .slice3B;obtain⟨e5,e6⟩:=eY (P:=P) hx hn (Nat.le_refl _) .slice3C;exact⟨by simp[Instr.sliceBounds,e1,e3,e5],by omega,by omega,by omega⟩
       ·grind
      ·grind
     ·grind
variable {ts:List TypeId}
def Kz (cx:Cx G a φ w S hp tm){t tx:TypeId}{x:Operand}{ax:A}{as:List A}(ho:o.op= .slice t x lo hi none)(hs:und P t= .string)(hx:cA P G tx x=some ax)(ha:lD P G ts (so lo hi none)=some as)(h:kU lo.isSome hi.isSome (ev tm ax::as.map (ev tm))=some (d,ups,new)):EffOk P o a φ w S hp base d (grow (au hp ups) new):=by
 have h1:=aO cx.tmr cx.gr hx;have h2:=cB cx.tmr cx.gr ha;have hu:=aE hs (by simp);generalize ev tm ax=dx at*
 unfold kU at h;split at h
 ·rename_i s xs heq;obtain⟨rfl,rfl⟩:=heq;obtain⟨b,hb,rfl⟩:=h1;split at h
  ·rename_i l h' m hbd;have hlen:(b.data.toList.map UInt8.toNat).length=b.size:=by simp
   rw[hlen]at hbd;obtain⟨e1,e2,e3,e4⟩:=fy (P:=P) (mx:=none) (cap:=b.size) h2 hbd (Nat.le_refl _) false;refine aA cx h (v:= .string (b.extract l h')) ?_ ?_
   ·simp at e1;simp[execOp,ho,Instr.sliceAt,Instr.slice,run_underlying hu,hb,e1]
   ·simp only[VR,PR];simp
  ·simp at h
 ·simp at h
variable {z:Nat} {us:List Value}
def jD {b o:Nat}(h:rowAt w b o z us)(l n:Nat):rowAt w b (o+l*z) z ((us.drop l).take n):=by
 intro i u hu;have:=ū hu;have h1:=h _ u this;grind
def Kb {lo hi:Bool}{len:Nat}{l h:Nat}(hb:l0 lo hi false len xs=some (l,h,m)):m=len:=by
 cases lo<;>cases hi<;>rcases xs with _|⟨a,_|⟨b,_|⟨c,r⟩⟩⟩<;>simp only[l0,lμ]at hb;all_goals grind
def Ů {esz:Nat}{es:LD}(h:s0 z esz es=true)(hne:es≠[]):z=esz:=by
 unfold s0 at h;simp_all
variable {te:TypeId} {y:Ty} {b0:Option Addr}
def iG {t:TypeId}(hu:P.underlying t=some (.slice te))(ht:ga P te y){len l h:Nat}{low high max:Option Value}(hb:(Instr.sliceBounds true len cap low high max).run P w= .ok (l,h,m) w):
  (Instr.sliceAt t (.slice b0 len cap) low high max).run P w= .ok (.slice (if m=l then b0 else b0.map (·.add (l*y.size))) (h - l) (m - l)) w:=by
 simp[Instr.sliceAt,Instr.slice,run_underlying hu,hb,ht.sizeOf]
def Ye {es:LD}(hp:Pw (PR w S) es us){l n:Nat}(h:(us.drop l).take n≠[]):us≠[]/\es≠[]:=by
 have:=hp.1;grind
def vx {t:TypeId}(hu:P.underlying t=some (.slice te))(ht:ga P te y){es:LD}(hz:s0 z y.size es=true)(hl:us.length<=cap)(hp:Pw (PR w S) es us)(hr:us≠[]->∃b o,b0=some ⟨b,o,none⟩/\S b/\rowAt w b o z us){l h:Nat}(hv:Pw (VR φ w S) xs ((so lo hi mx).map a.eval))(hb:l0 lo.isSome hi.isSome mx.isSome es.length xs=some (l,h,m)):
  ∃b1 cap1 us1,(Instr.sliceAt t (.slice b0 us.length cap) (lo.map a.eval) (hi.map a.eval) (mx.map a.eval)).run P w= .ok (.slice b1 us1.length cap1) w/\us1.length<=cap1/\Pw (PR w S) ((es.drop l).take (h - l)) us1/\
   (us1≠[]->∃b o,b1=some ⟨b,o,none⟩/\S b/\rowAt w b o z us1)/\(mx.isSome=true->cap1=m - l)/\(mx.isSome=false->cap1=cap - l)/\us1.length=h - l/\(b0=none->b1=none)/\m<=us.length/\(mx.isSome=false->m=us.length):=by
 rw[hp.1]at hb;obtain⟨e1,e2,e3,e4⟩:=fy (P:=P) hv hb hl true;have hm:mx.isSome=false->m=us.length:=fun hmx=>Kb (hmx▸hb)
 refine⟨(if(if mx.isSome=true then m else cap)=l then b0 else b0.map (·.add (l*y.size))),(if mx.isSome=true then m else cap) - l,(us.drop l).take (h - l),?_,?_,(hp.drop l).take _,?_,?_,?_,?_,?_,e4,hm⟩
 ·rw[iG hu ht e1];have:((us.drop l).take (h - l)).length=h - l:=by simp;omega
  rw[this]
 ·have:((us.drop l).take (h - l)).length=h - l:=by simp;omega
  rw[this];split<;>omega
 ·intro hne;obtain⟨hu1,he1⟩:=Ye hp hne;obtain⟨b,o',rfl,hb1,hrow⟩:=hr hu1;have hzz:=Ů hz he1;have hlen:0<((us.drop l).take (h - l)).length:=List.length_pos_iff.2 hne;have hlh:l<h:=by simp at hlen;omega
  refine⟨b,o'+l*z,?_,hb1,jD hrow _ _⟩;rw[if_neg (by split<;>omega)];simp[cR,hzz]
 ·intro hmx;simp[hmx]
 ·intro hmx;simp[hmx]
 ·simp;omega
 ·intro hn;subst hn;simp
variable {ids:LN}
def bn {id:Nat}{x:Ob}(h:ej (ids.zip (ids.map (aI hp))) id=x)(hx:x≠ .dead):hp[id]?=some x:=by
 induction ids with
 |nil=>simp[ej]at h;simp_all
 |cons i r ih=>
  simp only[List.map_cons,List.zip_cons_cons,ej]at h;rw[beq_eq]at h;by_cases hi:i=id
  ·subst hi;simp at h;exact dy h hx
  all_goals simp_all
def KN (hr:HR φ w S hp){id b o' n lo:Nat}(hb:φ[id]?=some (.arr b o' cap z n))(h:mh (ids.zip (ids.map (aI hp))) id lo=true):lo<cap:=by
 unfold mh at h;split at h
 ·rename_i es hl;obtain⟨h0,h1,_⟩:=hr.obj id _ _ hb (bn hl (by simp));simp_all;omega
 ·rename_i es hl;obtain⟨h0,h1,_⟩:=hr.obj id _ _ hb (bn hl (by simp));simp_all;omega
 ·cases h
def Pc (cx:Cx G a φ w S hp tm){t tx:TypeId}{x:Operand}{ax:A}{as:List A}(ho:o.op= .slice t x lo hi mx)(hs:und P t= .slice te)(ht:ty P te=some y)(hx:cA P G tx x=some ax)(ha:lD P G ts (so lo hi mx)=some as)(hm:mx=none\/∀id lo len z,ev tm ax≠ .arr id lo len z)(h:gc y.size lo.isSome hi.isSome mx.isSome (ev tm ax::as.map (ev tm)) ids (ids.map (aI hp))=some (d,ups,new)):EffOk P o a φ w S hp base d (grow (au hp ups) new):=by
 have h1:=aO cx.tmr cx.gr hx;have h2:=cB cx.tmr cx.gr ha;have hu:=aE hs (by simp);have hty:=dE ht;have hex:∀v,(Instr.sliceAt t (a.eval x) (lo.map a.eval) (hi.map a.eval) (mx.map a.eval)).run P w= .ok v w->(execOp a.eval o).run P w= .ok (.value v) w:=by
  intro v e;simp[execOp,ho,e]
 generalize ev tm ax=dx at*
 unfold gc at h;split at h
 ·rename_i z es xs heq;obtain⟨rfl,rfl⟩:=heq;obtain⟨b0,cap,us,hv,hl,hp1,hr⟩:=h1;cases hz:s0 z y.size es with
  |false=>simp_all
  |true=>
   simp only[hz,cond_true]at h;split at h
   ·rename_i l h' m hbd;obtain⟨b1,cap1,us1,g1,g2,g3,g4,g5,g6,g7,g8,g9,g10⟩:=vx hu hty hz hl (PRs_iff.1 hp1) hr h2 hbd;rw[<-hv]at g1;cases hc:(mx.isSome&&Nat.beq h' m)with
    |true=>
     simp only[hc,cond_true]at h;refine aA cx h (hex _ g1) ?_;exact⟨b1,cap1,us1,rfl,g2,by simp only[fN];simp_all,PRs_iff.2 g3,g4⟩
    |false=>
     simp only[hc,cond_false]at h;refine aA cx h (hex _ g1) ?_;exact⟨b1,cap1,us1,rfl,g2,PRs_iff.2 g3,g4⟩
   ·simp at h
 ·rename_i g z es xs heq;obtain⟨rfl,rfl⟩:=heq;obtain⟨b0,cap,us,hv,hl,htag,hp1,hr⟩:=h1;cases hz:s0 z y.size es with
  |false=>simp_all
  |true=>
   simp only[hz,cond_true]at h;split at h
   ·rename_i l h' m hbd;obtain⟨b1,cap1,us1,g1,g2,g3,g4,g5,g6,g7,g8,g9,g10⟩:=vx hu hty hz hl (PRs_iff.1 hp1) hr h2 hbd;rw[<-hv]at g1;have kex:∀(hq:cap1=us1.length),VR φ w S (.sl .exact z ((es.drop l).take (h' - l))) (.slice b1 us1.length cap1):=by
     intro hq;exact⟨b1,cap1,us1,rfl,g2,by exact hq,PRs_iff.2 g3,g4⟩
    have kp:VR φ w S (.p (.slice z ((es.drop l).take (h' - l)))) (.slice b1 us1.length cap1):=by
     exact⟨b1,cap1,us1,rfl,g2,PRs_iff.2 g3,g4⟩
    cases g with
    |nil=>
     obtain⟨hb0,hcap⟩:=htag;have hus:us=[]:=lη (by omega);have he:es=[]:=lη (by rw[(PRs_iff.1 hp1).1,hus];rfl);have hus1:us1=[]:=lη (by simp_all);refine aA cx h (hex _ g1) ?_;subst hus1;refine⟨b1,cap1,[],rfl,by simp,?_,by rfl,by simp⟩
     simp only[fN];grind
    |exact=>
     rw[beq_eq]at h;by_cases hq:h'=m
     ·simp only[hq,cond_true]at h;refine aA cx h (hex _ g1) (hq▸kex ?_);simp only[fN]at htag;grind
     ·simp only[hq,cond_false]at h;exact aA cx h (hex _ g1) kp
    |some=>
     cases hc:(mx.isSome&&Nat.beq h' m)with
     |true=>
      simp only[hc,cond_true]at h;exact aA cx h (hex _ g1) (kex (by simp_all))
     |false=>
      simp only[hc,cond_false]at h;exact aA cx h (hex _ g1) kp
    |na=>
     cases hc:(mx.isSome&&Nat.beq h' m)with
     |true=>
      simp only[hc,cond_true]at h;exact aA cx h (hex _ g1) (kex (by simp_all))
     |false=>
      simp only[hc,cond_false]at h;exact aA cx h (hex _ g1) kp
   ·simp at h
 ·rename_i id lo0 len0 z xs heq;obtain⟨rfl,rfl⟩:=heq;rcases hm with rfl|hm
  ·obtain⟨b,o',cap,nn,b0,hb,hl,hcn,hv,hb0⟩:=h1;rw[beq_eq]at h;by_cases hz:z=y.size
   ·simp only[hz,cond_true]at h;split at h
    ·rename_i l h' m hbd;obtain⟨e1,e2,e3,e4⟩:=fy (P:=P) (cap:=cap - lo0) h2 hbd (by omega) true;have e5:=iG hu hty (b0:=b0) e1;rw[<-hv]at e5;cases hcnd:lo.isSome&&!hi.isSome&&(Nat.beq l h'&&mh (ids.zip (ids.map (aI hp))) id lo0)with
     |true=>
      simp only[hcnd,cond_true]at h;simp at hcnd;have hlt:=KN cx.hr hb hcnd.2.2;refine aA cx h (hex _ e5) ?_;refine⟨_,_,[],by rw[show h' - l=0 by omega];rfl,by simp,?_,by rfl,by simp⟩
      simp only[fN];grind
     |false=>
     simp only[hcnd,cond_false]at h;refine aA cx h (hex _ e5) ?_;simp;refine⟨b,o',cap,nn,_,hz▸hb,by omega,hcn,by rw[show cap - lo0 - l=cap - (lo0+l) by omega],?_⟩
     intro hlt;rw[if_neg (by omega),hb0 (by omega)];simp[cR,hz,mι,Nat.add_assoc]
    ·simp at h
   ·simp_all
  all_goals grind
 ·simp at h
end
end
section
variable [Letters]
section
variable {P:Program} {G:bH} {o:Oper} {a:Act} {φ:List cu} {w:World} {S:Nat->Prop} {hp:List Ob} {tm:Tm} {base:Nat} {d:D} {ups:List (Nat×Ob)} {new:List Ob}
def bv {c:Call}{b:Builtin}(ho:o.op= .call c)(hc:c.callee= .builtin b):
  (execOp a.eval o).run P w=(builtin b c.argTypes o.type (c.args.map fun| .const _=>true|_=>false) (c.args.map a.eval)).run P w:=by
 simp only[execOp,ho,resolve,hc,Sem.run_bind,Sem.run_pure,Result.andThen_ok,invoke];rfl
variable {as:List A} {ts:List TypeId}
def qw {c:Call}{x:D}(cx:Cx G a φ w S hp tm)(ha:lD P G ts c.args.toList=some as)(hv:as.map (ev tm)=[x]):∃v,c.args.map a.eval= #[v]/\VR φ w S x v:=by
 have h:=cB cx.tmr cx.gr ha;rw[hv]at h;obtain⟨u,us,e,h1,h2⟩:=h.cons_inv;obtain rfl:=h2.nil_inv;refine⟨u,?_,h1⟩;apply Array.ext';simpa using e
def yW {c:Call}{x y:D}(cx:Cx G a φ w S hp tm)(ha:lD P G ts c.args.toList=some as)(hv:as.map (ev tm)=[x,y]):∃v u,c.args.map a.eval= #[v,u]/\VR φ w S x v/\VR φ w S y u:=by
 have h:=cB cx.tmr cx.gr ha;rw[hv]at h;obtain⟨u,us,e,h1,h2⟩:=h.cons_inv;obtain⟨u',us',e',h3,h4⟩:=h2.cons_inv;obtain rfl:=h4.nil_inv;subst e';refine⟨u,u',?_,h1,h3⟩;apply Array.ext';simpa using e
def Qz {x:D}{v:Value}{n:Nat}(h:pW x=some n)(hv:VR φ w S x v):∃b c,v= .slice b n c:=by
 unfold pW at h;split at h<;>simp only[lα,reduceCtorEq]at h<;>subst h
 ·simp only[VR,PR]at hv;obtain⟨b,c,us,rfl,_,hp,_⟩:=hv;rw[(PRs_iff.1 hp).1];exact⟨b,c,rfl⟩
 ·simp only[VR,PR]at hv;obtain⟨⟨b,c,us,rfl,_,hp,_⟩,_⟩:=hv;rw[(PRs_iff.1 hp).1];exact⟨b,c,rfl⟩
 ·simp only[VR]at hv;obtain⟨b,c,us,rfl,_,_,hp,_⟩:=hv;rw[(PRs_iff.1 hp).1];exact⟨b,c,rfl⟩
 ·simp only[VR]at hv;obtain⟨b,o',c,n,a',_,_,_,rfl,_⟩:=hv;exact⟨_,_,rfl⟩
def cQ {r:Nat}{es:Array MapEntry}{c:Nat}(h:w.heap[r]?=some (.map es c)):(getObj r).run P w= .ok (.map es c) w:=by simp[getObj,Sem.run,h]
def zb (cx:Cx G a φ w S hp tm){c:Call}{t:TypeId}{kd:Nat}(ho:o.op= .call c)(hc:c.callee= .builtin .len)(h0:c.argTypes[0]?=some t)(hu:(kd=0/\und P t= .string)\/(kd=1/\∃e,und P t= .slice e)\/(kd=2/\∃k e,und P t= .map k e))(ha:lD P G ts c.args.toList=some as)(h:J4 kd (as.map (ev tm)) (bm (.len kd) (as.map (ev tm)) hp) ((bm (.len kd) (as.map (ev tm)) hp).map (aI hp))=some (d,ups,new)):EffOk P o a φ w S hp base d (grow (au hp ups) new):=by
 have hex:∀v (n:Nat),c.args.map a.eval= #[v]->(Builtin.len_ c.argTypes o.type #[v]).run P w= .ok (goInt n) w->(execOp a.eval o).run P w= .ok (.value (goInt n)) w:=by
  intro v n e1 e2;rw[bv ho hc,e1];simp[builtin,e2]
 have hgo:∀n:Nat,VR φ w S (.p (xR n)) (goInt n):=by intro n;simp[VR,PR,xR,goInt]
 unfold J4 at h;split at h
 ·rename_i s heq;obtain⟨v,e1,e2⟩:=qw cx ha heq;have he:und P t= .string:=by rcases hu with⟨_,h⟩|⟨h,_⟩|⟨h,_⟩<;>first|exact h|simp at h
  simp only[VR,PR]at e2;obtain⟨b,rfl,rfl⟩:=e2;refine aA cx h (hex _ (b.data.toList.map UInt8.toNat).length e1 ?_) (hgo _);simp[Builtin.len_,h0,run_underlying (aE he (by simp))]
 ·rename_i x heq;obtain⟨v,e1,e2⟩:=qw cx ha heq;obtain⟨e,he⟩:∃e,und P t= .slice e:=by rcases hu with⟨h,_⟩|⟨_,h⟩|⟨h,_⟩<;>first|exact h|simp at h
  split at h
  ·rename_i n hn;obtain⟨b,c',rfl⟩:=Qz hn e2;refine aA cx h (hex _ n e1 ?_) (hgo _);simp[Builtin.len_,h0,run_underlying (aE he (by simp))]
  ·simp at h
 ·rename_i id heq;obtain⟨v,e1,e2⟩:=qw cx ha heq;obtain⟨k,e,he⟩:∃k e,und P t= .map k e:=by rcases hu with⟨h,_⟩|⟨h,_⟩|⟨_,h⟩<;>first|exact h|simp at h
  simp only[VR]at e2;obtain⟨r,hr,rfl⟩:=e2;have hnd:bm (.len 2) (as.map (ev tm)) hp=[id]:=by rw[heq];rfl
  rw[hnd]at h;split at h
  ·rename_i ks vs hl;obtain⟨es,cl,g1,g2,g3⟩:=cx.hr.obj id _ _ hr (bn hl (by simp));refine aA cx h (hex _ ks.length e1 ?_) (hgo _);have:es.size=ks.length:=by have:=g2.1;simp at this;omega
   simp[Builtin.len_,h0,run_underlying (aE he (by simp)),cQ g1,this]
  ·rename_i ks vs hl;obtain⟨g0,es,cl,g1,g2,g3⟩:=cx.hr.obj id _ _ hr (bn hl (by simp));refine aA cx h (hex _ ks.length e1 ?_) (hgo _);have:es.size=ks.length:=by have:=g2.1;simp at this;omega
   simp[Builtin.len_,h0,run_underlying (aE he (by simp)),cQ g1,this]
  ·simp at h
 ·rename_i heq;obtain⟨v,e1,e2⟩:=qw cx ha heq;obtain⟨k,e,he⟩:∃k e,und P t= .map k e:=by rcases hu with⟨h,_⟩|⟨h,_⟩|⟨_,h⟩<;>first|exact h|simp at h
  simp only[VR,PR]at e2;subst e2;refine aA cx h (hex _ 0 e1 ?_) (hgo _);simp[Builtin.len_,h0,run_underlying (aE he (by simp))]
 ·rename_i ks vs heq;obtain⟨v,e1,e2⟩:=qw cx ha heq;obtain⟨k,e,he⟩:∃k e,und P t= .map k e:=by rcases hu with⟨h,_⟩|⟨h,_⟩|⟨_,h⟩<;>first|exact h|simp at h
  simp only[VR,PR]at e2;obtain⟨r,es,cl,rfl,g0,g1,g2,g3⟩:=e2;refine aA cx h (hex _ ks.length e1 ?_) (hgo _);have:es.size=ks.length:=by have:=(PRs_iff.1 g2).1;simp at this;omega
  simp[Builtin.len_,h0,run_underlying (aE he (by simp)),cQ g1,this]
 ·simp at h
def SW (cx:Cx G a φ w S hp tm){c:Call}{t e:TypeId}(ho:o.op= .call c)(hc:c.callee= .builtin .cap)(h0:c.argTypes[0]?=some t)(hu:und P t= .slice e)(ha:lD P G ts c.args.toList=some as)(h:NW (as.map (ev tm))=some (d,ups,new)):EffOk P o a φ w S hp base d (grow (au hp ups) new):=by
 have hex:∀b l (n:Nat),c.args.map a.eval= #[.slice b l n]->(execOp a.eval o).run P w= .ok (.value (goInt n)) w:=by
  intro b l n e1;rw[bv ho hc,e1];simp[builtin,Builtin.cap_,h0,run_underlying (aE hu (by simp))]
 have hgo:∀n:Nat,VR φ w S (.p (xR n)) (goInt n):=by intro n;simp[VR,PR,xR,goInt]
 unfold NW at h;split at h
 ·rename_i z es heq;obtain⟨v,e1,e2⟩:=qw cx ha heq;simp only[VR]at e2;obtain⟨b,c',us,rfl,_,ht,hp1,_⟩:=e2;simp only[fN]at ht;subst ht;rw[(PRs_iff.1 hp1).1]at h;exact aA cx h (hex _ _ _ e1) (hgo _)
 ·rename_i z es heq;obtain⟨v,e1,e2⟩:=qw cx ha heq;simp only[VR]at e2;obtain⟨b,c',us,rfl,_,ht,hp1,_⟩:=e2;obtain⟨_,rfl⟩:=ht;exact aA cx h (hex _ _ _ e1) (hgo _)
 ·simp at h
def S9 (cx:Cx G a φ w S hp tm){c:Call}(ho:o.op= .call c)(hc:c.callee= .builtin .min)(ha:lD P G ts c.args.toList=some as)(h:B5 (as.map (ev tm))=some (d,ups,new)):
  EffOk P o a φ w S hp base d (grow (au hp ups) new):=by
 unfold B5 at h;split at h
 ·rename_i k x k' y heq;obtain⟨v,u,e1,e2,e3⟩:=yW cx ha heq;simp only[VR,PR]at e2 e3;subst e2 e3;split at h
  ·rename_i hk;subst hk;refine aA cx h (v:= .int k (if y<x then y else x)) ?_ ?_
   ·rw[bv ho hc,e1];simp[builtin,Builtin.min_,Builtin.min2]
   ·rw[fh];simp only[VR,PR];by_cases hh:y<x<;>simp[hh]
  ·simp at h
 ·simp at h
def S8 (cx:Cx G a φ w S hp tm){c:Call}(ho:o.op= .call c)(hc:c.callee= .builtin .max)(ha:lD P G ts c.args.toList=some as)(h:B4 (as.map (ev tm))=some (d,ups,new)):
  EffOk P o a φ w S hp base d (grow (au hp ups) new):=by
 unfold B4 at h;split at h
 ·rename_i k x k' y heq;obtain⟨v,u,e1,e2,e3⟩:=yW cx ha heq;simp only[VR,PR]at e2 e3;subst e2 e3;split at h
  ·rename_i hk;subst hk;refine aA cx h (v:= .int k (if y>x then y else x)) ?_ ?_
   ·rw[bv ho hc,e1];simp[builtin,Builtin.max_,Builtin.max2]
   ·rw[fh];simp only[VR,PR];by_cases hh:x<y<;>simp[hh]
  ·simp at h
 ·simp at h
def Oc (a b:ByteArray):(a==b)=(a.data.toList==b.data.toList):=by
 show(a.data==b.data)=_;rw[mζ,beq_iff_eq,beq_iff_eq];exact⟨fun h=>by rw[h],fun h=>Array.ext' h⟩
def xX {x y:Da}{v u:Value}{kt:TypeDesc}{b:Bool}(hx:PR w S x v)(hy:PR w S y u)(h:ja kt x y=some b):Instr.sameNow kt v u=some b:=by
 unfold ja at h;split at h
 ·rename_i k a k' b';simp only[PR]at hx hy;subst hx hy;split at h
  ·rename_i hkk;subst hkk;simp only[lα,gy]at h;subst h;simp[Instr.sameNow]
  ·simp at h
 ·rename_i s s';simp only[PR]at hx hy;obtain⟨b1,rfl,rfl⟩:=hx;obtain⟨b2,rfl,rfl⟩:=hy;simp only[lα,zk]at h;subst h;simp only[Instr.sameNow,Oc]
 ·simp at h
end
end
section
variable [Letters]
section
variable {P:Program} {G:bH} {o:Oper} {a:Act} {φ:List cu} {w:World} {S:Nat->Prop} {hp:List Ob} {tm:Tm} {base:Nat} {d:D} {ups:List (Nat×Ob)} {new:List Ob}
def LX (es:List MapEntry)(n:Nat):Option Nat->Option (Nat×Value)
 |none=>none
 |some i=>(es[i - n]?).map fun e=>(i,e.val)
def xL {kt:TypeDesc}{k:Da}{v:Value}(hk:PR w S k v):∀{ks:LD} {es:List MapEntry} {n:Nat} {r:Option Nat},Pw (PR w S) ks (es.map (·.key))->cr kt k ks n=some r->
  Instr.findNow kt v es n=some (LX es n r)/\(∀i,r=some i->n<=i/\i - n<es.length)
 |[],es,n,r,hp,h=>by
  have:es=[]:=by have:=hp.nil_inv;simpa using this
  subst this;simp only[cr,lα]at h;subst h;exact⟨rfl,by simp⟩
 |x::ks,[],n,r,hp,h=>by have:=hp.1;simp at this
 |x::ks,e::es,n,r,hp,h=>by
  simp only[cr]at h;have hx:=hp.head;split at h
  ·rename_i he;simp only[lα]at h;subst h;have:=xX hk hx he;simp only[Instr.findNow,this];exact⟨by simp[LX],by simp⟩
  ·rename_i he;have h1:=xX hk hx he;obtain⟨g1,g2⟩:=xL hk hp.tail h;simp only[Instr.findNow,h1,g1];refine⟨?_,?_⟩
   ·congr 1;cases r with
    |none=>rfl
    |some i=>
     obtain⟨q1,q2⟩:=g2 i rfl;simp only[LX];rw[show i - n=(i - (n+1))+1 by omega,List.getElem?_cons_succ]
   ·intro i hi;obtain⟨q1,q2⟩:=g2 i hi;exact⟨by omega,by simp;omega⟩
  ·simp at h
variable {kt:TypeDesc}
def dY {kty:TypeId}(hu:P.underlying kty=some kt){k:Da}{v:Value}(hk:PR w S k v){ks:LD}{es:List MapEntry}{r:Option Nat}(hp:Pw (PR w S) ks (es.map (·.key)))(h:cr kt k ks 0=some r):
  (Instr.findKey kty v es).run P w= .ok (LX es 0 r) w:=by
 obtain⟨g1,g2⟩:=xL hk hp h;simp only[Instr.findKey,Sem.run_bind,run_underlying hu,Result.andThen_ok,g1,Sem.run_pure]
def iC {kty:TypeId}(hu:P.underlying kty=some kt)(hk:dO kt=true)(e:Bool)(v:Value):(Instr.checkKey e 10000 kty v).run P w= .ok () w:=by
 unfold Instr.checkKey;simp only[Sem.run_bind,run_underlying hu,Result.andThen_ok];cases kt<;>simp[dO]at hk<;>rfl
def Hh {t:TypeId}(h:und P t≠ .invalid):P.underlying t=some (und P t):=by
 unfold und at*
 cases hu:P.underlying t with
 |none=>simp[hu]at h
 |some d=>simp
def vg (h:dO kt=true):kt≠ .invalid:=by rintro rfl;simp[dO]at h
def qD {φ:List cu}{w:World}{S:Nat->Prop}:∀{zs:LN} {vs:List Value} {ds:List D},ui zs vs=some ds->Pw (VR φ w S) ds vs/\∀v∈vs,aQ v
 |zs,[],ds,h=>by simp only[ui,lα]at h;subst h;exact⟨Pw.nil,by simp⟩
 |zs,v::r,ds,h=>by
  simp only[ui]at h;split at h
  ·rename_i x hx;split at h
   ·rename_i xs hxs;simp only[lα]at h;subst h;obtain⟨g1,g2⟩:=qD (φ:=φ) (w:=w) (S:=S) hxs;have:VR φ w S x v/\aQ v:=by
     unfold Vg at hx;split at hx
     ·simp only[lα]at hx;subst hx;exact⟨NM,trivial⟩
     ·cases hd:dq v with
      |none=>simp[hd]at hx
      |some y=>simp[hd]at hx;subst hx;have:=xG (w:=w) (S:=S) hd;exact⟨by simpa only[VR]using this.1,this.2⟩
    exact⟨Pw.cons this.1 g1,by simpa using⟨this.2,g2⟩⟩
   ·simp at h
  ·simp at h
def kj {t:TypeId}{zs:List D}(h:ij P t=some zs):∃i z y,P.info? t=some i/\i.zero=some z/\ga P t y/\z.cells.size=y.size/\(y.agg=true->z= .agg z.cells)/\(y.agg=false->z.cells= #[z])/\
  (∀φ w S,Pw (VR φ w S) zs z.cells.toList)/\(∀c∈z.cells.toList,aQ c):=by
 unfold ij at h;split at h
 ·rename_i i y hi hy;split at h
  ·rename_i z hz;rw[beq_eq]at h;by_cases hs:z.cells.size=y.size
   ·simp only[hs,decide_true,Bool.true_and]at h;cases hm:US z y with
    |false=>rw[hm]at h;simp at h
    |true=>
     rw[hm]at h;simp only[cond_true]at h;refine⟨i,z,y,hi,hz,dE hy,hs,?_,?_,fun φ w S=>(qD h).1,(qD (φ:=[]) (w:=default) (S:=fun _=>False) h).2⟩
     ·intro ha;cases z<;>simp_all [Value.cells,US]
     ·intro ha;cases z<;>simp_all [Value.cells,US]
   ·simp[hs]at h
  ·simp at h
 ·simp at h
variable {z:D}
def vX {t:TypeId}(h:si P t=some z):∃v y,(zeroValue t).run P w= .ok v w/\ga P t y/\v.cells.size=y.size/\∀φ w S,VR φ w S z v:=by
 unfold si at h;split at h
 ·rename_i ds y hc hy;obtain⟨i,v,y',hi,hz,hty,hs,g1,g2,g3,g4⟩:=kj hc;have hyy:=dE hy;have hagg:y'.agg=y.agg:=by rw[hty.agg,hyy.agg];have:=hty.und.symm.trans hyy.und;simp at this;rw[this]
  refine⟨v,y',by simp[zeroValue,typeInfo,hi,hz],hty,hs,fun φ w S=>?_⟩
  cases ha:y.agg with
  |true=>
   rw[ha]at h;simp only[dN,cond_true,lα]at h;subst h;have:=mw (g3 φ w S) g4;rw[Array.toArray_toList]at this;rw[g1 (hagg.trans ha)];exact this
  |false=>
   rw[ha]at h;simp only[dN,cond_false]at h;split at h
   ·rename_i x;simp only[lα]at h;subst h;have g:=g3 φ w S;rw[g2 (hagg.trans ha)]at g;exact g.head
   ·simp at h
 ·simp at h
def S7 (cx:Cx G a φ w S hp tm){t k e tx ti:TypeId}{x i:Operand}{ok:Bool}{ax ai:A}(ho:o.op= .lookup t x i ok)(hs:und P t= .map k e)(hk:dO (und P k)=true)(hz:si P e=some z)(hx:cA P G tx x=some ax)(hi:cA P G ti i=some ai)(h:tW (und P k) z ok [ev tm ax,ev tm ai] (bm (.lkp (und P k) z ok) [ev tm ax,ev tm ai] hp) ((bm (.lkp (und P k) z ok) [ev tm ax,ev tm ai] hp).map (aI hp))=some (d,ups,new)):
  EffOk P o a φ w S hp base d (grow (au hp ups) new):=by
 have h1:=aO cx.tmr cx.gr hx;have h2:=aO cx.tmr cx.gr hi;have hu:=aE hs (by simp);have huk:=Hh (vg hk);obtain⟨zv,zy,hzv,_,_,hzr⟩:=vX (w:=w) hz
 -- the lookup,once the entries are known
 have key:∀(es:Array MapEntry) (ks ws:LD) (kd:D),Pw (PR w S) ks (es.toList.map (·.key))->Pw (PR w S) ws (es.toList.map (·.val))->
   ((a.eval x= .map none/\es= #[])\/∃r cl,a.eval x= .map (some r)/\w.heap[r]?=some (.map es cl))->
   VR φ w S kd (a.eval i)->
   (match kd with
    | .p k1=>match cr (und P k) k1 ks 0 with
     |some (some i)=>match ws[i]? with
      |some v=>val (bif ok then .tup [.p v,.p (.bool true)]else .p v)
      |none=>none
     |some none=>val (bif ok then .tup [z,.p (.bool false)]else z)
     |none=>none
    |_=>none)=some (d,ups,new)->EffOk P o a φ w S hp base d (grow (au hp ups) new):=by
  intro es ks ws kd hks hws hes hkd hh;split at hh
  ·rename_i k1;simp only[VR]at hkd;have hck:=iC (w:=w) huk hk es.isEmpty (a.eval i);split at hh
   ·rename_i j hj;have hf:=dY huk hkd hks hj;split at hh
    ·rename_i v hv;obtain⟨u,hu1,hu2⟩:=hws.get hv;have he:∃en,es.toList[j]?=some en/\en.val=u:=by
      rw[lξ]at hu1;cases hc:es.toList[j]? with
      |none=>simp[hc]at hu1
      |some en=>simp[hc]at hu1;exact⟨en,rfl,hu1⟩
     obtain⟨en,he1,he2⟩:=he;simp only[LX,Nat.sub_zero,he1,Option.map_some]at hf;refine aA cx hh (v:=if ok then .tuple #[en.val,.bool true]else en.val) ?_ ?_
     ·rcases hes with⟨hx0,rfl⟩|⟨r,cl,hx0,hr0⟩
      ·simp at he1
      ·simp[execOp,ho,Instr.lookup,run_underlying hu,hx0,cQ hr0,hck,hf]
     ·cases ok
      ·simp only[cond_false,VR,Bool.false_eq_true,if_false,he2];exact hu2
      ·simp only[cond_true,VR,if_true,he2,wc];exact⟨_,rfl,u,[.bool true],rfl,hu2,.bool true,[],rfl,by simp[PR],rfl⟩
    ·simp at hh
   ·rename_i hj;have hf:=dY huk hkd hks hj;simp only[LX]at hf;refine aA cx hh (v:=if ok then .tuple #[zv,.bool false]else zv) ?_ ?_
    ·rcases hes with⟨hx0,rfl⟩|⟨r,cl,hx0,hr0⟩
     ·simp only[Array.isEmpty_empty]at hck;simp[execOp,ho,Instr.lookup,run_underlying hu,hx0,hck,hf,hzv]
     ·simp[execOp,ho,Instr.lookup,run_underlying hu,hx0,cQ hr0,hck,hf,hzv]
    ·cases ok
     ·simpa using hzr φ w S
     ·simp only[cond_true,VR,if_true,wc];exact⟨_,rfl,zv,[.bool false],rfl,hzr φ w S,.bool false,[],rfl,by simp[PR],rfl⟩
   ·simp at hh
  ·simp at hh
 have keyD:∀(es:Array MapEntry) (ks:LD) (ws:List D) (kd:D),Pw (PR w S) ks (es.toList.map (·.key))->Pw (VR φ w S) ws (es.toList.map (·.val))->
   (∃r cl,a.eval x= .map (some r)/\w.heap[r]?=some (.map es cl))->
   VR φ w S kd (a.eval i)->K4 (und P k) z ok ks ws kd=some (d,ups,new)->EffOk P o a φ w S hp base d (grow (au hp ups) new):=by
  intro es ks ws kd hks hws hes hkd hh;obtain⟨r,cl,hx0,hr0⟩:=hes;unfold K4 at hh;split at hh
  ·rename_i k1;simp only[VR]at hkd;have hck:=iC (w:=w) huk hk es.isEmpty (a.eval i);split at hh
   ·rename_i j hj;have hf:=dY huk hkd hks hj;split at hh
    ·rename_i v hv;obtain⟨u,hu1,hu2⟩:=hws.get hv;have he:∃en,es.toList[j]?=some en/\en.val=u:=by
      rw[lξ]at hu1;cases hc:es.toList[j]? with
      |none=>simp[hc]at hu1
      |some en=>simp[hc]at hu1;exact⟨en,rfl,hu1⟩
     obtain⟨en,he1,he2⟩:=he;simp only[LX,Nat.sub_zero,he1,Option.map_some]at hf;refine aA cx hh (v:=if ok then .tuple #[en.val,.bool true]else en.val) ?_ ?_
     ·simp[execOp,ho,Instr.lookup,run_underlying hu,hx0,cQ hr0,hck,hf]
     ·cases ok
      ·simp only[cond_false,Bool.false_eq_true,if_false,he2];exact hu2
      ·simp only[cond_true,VR,if_true,he2,wc];exact⟨_,rfl,u,[.bool true],rfl,hu2,.bool true,[],rfl,by simp[PR],rfl⟩
    ·simp at hh
   ·rename_i hj;have hf:=dY huk hkd hks hj;simp only[LX]at hf;refine aA cx hh (v:=if ok then .tuple #[zv,.bool false]else zv) ?_ ?_
    ·simp[execOp,ho,Instr.lookup,run_underlying hu,hx0,cQ hr0,hck,hf,hzv]
    ·cases ok
     ·simpa using hzr φ w S
     ·simp only[cond_true,VR,if_true,wc];exact⟨_,rfl,zv,[.bool false],rfl,hzr φ w S,.bool false,[],rfl,by simp[PR],rfl⟩
   ·simp at hh
  ·simp at hh
 generalize ev tm ax=dx at*
 generalize ev tm ai=di at*
 unfold tW at h;simp only at h;split at h
 ·rename_i kd heq;simp only[lχ,and_true]at heq;obtain⟨rfl,rfl⟩:=heq;simp only[VR,PR]at h1;exact key #[] [] [] _ (by simpa using Pw.nil) (by simpa using Pw.nil) (.inl ⟨h1,rfl⟩) h2 h
 ·rename_i ks ws kd heq;simp only[lχ,and_true]at heq;obtain⟨rfl,rfl⟩:=heq;simp only[VR,PR]at h1;obtain⟨r,es,cl,hv,_,hh,g1,g2⟩:=h1;exact key es ks ws _ (PRs_iff.1 g1) (PRs_iff.1 g2) (.inr ⟨r,cl,hv,hh⟩) h2 h
 ·rename_i id kd heq;simp only[lχ,and_true]at heq;obtain⟨rfl,rfl⟩:=heq;simp only[VR]at h1;obtain⟨r,hr,hv⟩:=h1;simp only[bm,dids]at h;split at h
  ·rename_i ks ws hl;obtain⟨es,cl,g1,g2,g3⟩:=cx.hr.obj id _ _ hr (bn hl (by simp));exact key es ks ws _ g2 g3 (.inr ⟨r,cl,hv,g1⟩) h2 h
  ·rename_i ks ws hl;obtain⟨_,es,cl,g1,g2,g3⟩:=cx.hr.obj id _ _ hr (bn hl (by simp));exact key es ks ws _ g2 g3 (.inr ⟨r,cl,hv,g1⟩) h2 h
  ·rename_i ks ws hl;obtain⟨es,cl,g1,g2,g3⟩:=cx.hr.obj id _ _ hr (bn hl (by simp));exact keyD es ks ws _ g2 g3 ⟨r,cl,hv,g1⟩ h2 h
  ·simp at h
 ·simp at h
def FU (cx:Cx G a φ w S hp tm){t xt tx:TypeId}{x:Operand}{ok:Bool}{ax:A}(ho:o.op= .typeAssert x xt t ok)(hu:∃e,P.underlying t=some e/\∀ms,e≠ .interface ms)(hz:si P t=some z)(hx:cA P G tx x=some ax)(h:lP t z ok [ev tm ax]=some (d,ups,new)):EffOk P o a φ w S hp base d (grow (au hp ups) new):=by
 have h1:=aO cx.tmr cx.gr hx;obtain⟨e,hu,hne⟩:=hu;obtain⟨zv,zy,hzv,_,_,hzr⟩:=vX (w:=w) hz;have hyes:∀v,a.eval x= .iface t v->(execOp a.eval o).run P w= .ok (.value (if ok then .tuple #[v,.bool true]else v)) w:=by
  intro v hv;simp only[execOp,ho,Instr.typeAssert,Sem.run_bind,run_underlying hu,Result.andThen_ok,hv];cases e<;>first
   |(rename_i ms;exact absurd rfl (hne ms))
   |simp
 have hno:∀t' v,a.eval x= .iface t' v->t'≠t->ok=true->(execOp a.eval o).run P w= .ok (.value (.tuple #[zv,.bool false])) w:=by
  intro t' v hv hn hok;simp only[execOp,ho,Instr.typeAssert,Sem.run_bind,run_underlying hu,Result.andThen_ok,hv];cases e<;>first
   |(rename_i ms;exact absurd rfl (hne ms))
   |simp[hn,hok,hzv]
 have kyes:∀(v:Value) (d0:D),a.eval x= .iface t v->VR φ w S d0 v->val (bif ok then .tup [d0,.p (.bool true)]else d0)=some (d,ups,new)->EffOk P o a φ w S hp base d (grow (au hp ups) new):=by
  intro v d0 hv hd hh;refine aA cx hh (hyes v hv) ?_;cases ok
  ·simpa using hd
  ·simp only[cond_true,VR,if_true,wc];exact⟨_,rfl,v,[.bool true],rfl,hd,.bool true,[],rfl,by simp[PR],rfl⟩
 have kno:∀(t':TypeId) (v:Value),a.eval x= .iface t' v->t'≠t->ok=true->val (.tup [z,.p (.bool false)])=some (d,ups,new)->EffOk P o a φ w S hp base d (grow (au hp ups) new):=by
  intro t' v hv hn hok hh;refine aA cx hh (hno t' v hv hn hok) ?_;simp only[VR,wc];exact⟨_,rfl,zv,[.bool false],rfl,hzr φ w S,.bool false,[],rfl,by simp[PR],rfl⟩
 generalize ev tm ax=dx at*
 unfold lP at h;split at h
 ·rename_i t' x' heq;simp only[lχ,and_true]at heq;subst heq;simp only[VR,PR]at h1;obtain⟨u,hv,hr⟩:=h1;rw[beq_eq]at h;by_cases ht:t=t'
  ·subst ht;simp only[decide_true,cond_true]at h;exact kyes u (.p x') hv (by simpa only[VR]using hr) h
  ·simp only[ht,decide_false,cond_false]at h;cases ok with
   |false=>simp at h
   |true=>exact kno t' u hv (fun e=>ht e.symm) rfl h
 ·rename_i t' d0 heq;simp only[lχ,and_true]at heq;subst heq;simp only[VR]at h1;obtain⟨u,hv,hr⟩:=h1;rw[beq_eq]at h;by_cases ht:t=t'
  ·subst ht;simp only[decide_true,cond_true]at h;exact kyes u d0 hv hr h
  ·simp only[ht,decide_false,cond_false]at h;cases ok with
   |false=>simp at h
   |true=>exact kno t' u hv (fun e=>ht e.symm) rfl h
 ·simp at h
end
end
end Go.Ab
