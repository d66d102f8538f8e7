import Derived.Calls
import Derived.Orders
import Derived.RowKit3
import Derived.Laws.IdiomCopy
import Derived.Laws.Entries
import Derived.ChangeKeysEq
import Derived.IntWalk
import Derived.Lib.Builder
import Derived.Lib.UnsafeStr
import Derived.Laws.StructEq
set_option linter.all false
section
namespace Go.Ab
open Go
def lα:=@Option.some.injEq
def lβ:=@decide_eq_true_eq
def lγ:=@Bool.and_eq_true
def lδ:=@List.getElem?_eq_getElem
def lε:=@List.getElem?_eq_none
def lζ:=@Nat.eq_of_beq_eq_true
def lη:=@List.getElem?_append_left
def lθ:=@List.length_map
def lι:=@List.eq_nil_of_length_eq_zero
def lκ:=@Prod.mk.injEq
def lμ:=@List.cons.injEq
def lν:=@Nat.lt_or_ge
def lξ:=@List.getElem?_append_right
def lπ:=@List.length_append
def lρ:=@List.getD_eq_getElem?_getD
def lσ:=@List.getElem?_map
def lτ:=@List.length_drop
def lυ:=@Nat.mul_le_mul_right
def lχ:=@decide_eq_false_iff_not
def lψ:=@List.mem_cons
def lω:=@List.append_assoc
def mα:=@List.append_nil
def mβ:=@Nat.add_mul
def mγ:=@List.length_take
def mδ:=@List.mem_append
def mε:=@List.drop_eq_getElem_cons
def mζ:=@List.all_eq_true
def mη:=@Bool.eq_iff_iff
def mθ:=@List.mem_cons_of_mem
def mι:=@List.mem_of_mem_drop
def mκ:=@List.drop_drop
def mμ:=@Bool.or_eq_true
def mν:=@List.mem_cons_self
def mξ:=@List.mem_of_getElem?
def mπ:=@List.getElem_mem
def mρ:=@Nat.le_trans
def mσ:=@List.take_of_length_le
def mτ:=@Nat.lt_of_lt_of_le
def mυ:=@List.getElem?_set_ne
def mχ:=@decide_eq_true
def mψ:=@decide_eq_false
def mω:=@List.findIdx?_eq_some_iff_getElem
def qα:=@Int.toNat_of_nonneg
def qβ:=@Option.map_eq_some_iff
def qγ:=@List.findIdx?_cons
def qδ:=@List.mem_of_mem_take
def qε:=@List.findIdx?_eq_none_iff
def qζ:=@List.getElem?_set_self
inductive BK where
 |exact|nil|some|na
 deriving DecidableEq
inductive Sy where
 |lin (c:Int) (ks:List (Int×Int×Int))
 |rng (lo hi:Int)
inductive Da where
 |bool (b:Bool)
 |int (k:IntKind) (n:Int)
 |str (s:List Nat)
 |agg (cs:List Da)
 |slice (z:Nat) (es:List Da)
 |nilptr
 |ptr (x:Da)
 |map (ks vs:List Da)
 |nilmap
 |fn (f:Nat) (caps:List Da)
 |nilfn
 |iface (t:Nat) (x:Da)
 |nilif
 |sliceE (z:Nat) (es:List Da)
 |sym (k:IntKind) (s:Sy)
inductive D where
 |p (x:Da)
 |agg (cs:List D)
 |tup (ds:List D)
 |box (id off:Nat)
 |el (id i off:Nat)
 |ip (x:Da) (off:Nat)
 |arr (id lo len z:Nat)
 |sl (g:BK) (z:Nat) (es:List Da)
 |map (id:Nat)
 |fn (f:Nat) (caps:List D)
 |iface (t:Nat) (d:D)
 |junk
inductive Ob where
 |box (cs:List D)
 |arr (es:List Da)
 |fz (es:List Da)
 |map (ks vs:List Da)
 |fzm (ks vs:List Da)
 |dead
 |unborn
 |mapd (ks:List Da) (vs:List D)
 |byt (es:List Da)
inductive A where
 |t (n:Nat)
 |c (x:Da)
 |n (z:Nat)
 |f (g:Nat)
 |g (x:Da)
inductive O where
 |mv|pick
 |alloc (zs:List D)
 |box (n:Nat)
 |build (zs:List D) (ps:List (Nat×Nat))
 |bsl (esz:Nat) (z:Da) (n:Nat) (ps:List Nat)
 |bslm (esz:Nat) (z:Da) (n:Nat) (ps:List Nat)
 |bsle (esz:Nat) (z:Da) (n:Nat) (ps:List Nat)
 |load (n:Nat) (agg:Bool)
 |store (n:Nat)
 |nilck
 |bin (op:BinOp)
 |binB (op:BinOp)
 |binN (kd:Nat) (op:BinOp)
 |binS (ks:List Nat) (op:BinOp)
 |un (op:UnOp)
 |conv (k:IntKind)
 |mkif (t:Nat)
 |mkfn (f:Nat)
 |mkmap
 |mksl (esz:Nat) (z:Da) (bytes:Nat)
 |slStr (lo hi:Bool)
 |slSl (esz:Nat) (lo hi mx:Bool)
 |fa (off:Nat)
 |fld (off n:Nat) (agg:Bool)
 |ia (esz:Nat)
 |iaa (n esz:Nat)
 |ix
 |ixa (n esz:Nat) (agg:Bool)
 |lkp (kt:TypeDesc) (z:D) (ok:Bool)
 |mupd (kt:TypeDesc)
 |cpy (esz:Nat)
 |clr (esz:Nat) (z:Da)
 |slX (esz:Nat) (lo:Bool)
 |slck (lo hi:Bool)
 |slW (esz:Nat) (lo hi:Bool)
 |appI (esz:Nat)
 |ext (i:Nat)
 |call (f:Nat) (raw:Bool)
 |callv
 |len (kd:Nat)
 |cap|min2|max2
 |app (esz bytes:Nat)
 |appm (esz:Nat) (z:Da) (bytes:Nat)
 |same
 |assertT (t:Nat) (z:D) (ok:Bool)
 |clone
 |b2s
 |s2b
 |pan
 |appB (bytes:Nat)
 |pne
 |uns
 |sdata
 |ustr
structure dU where
 dst:Option Nat
 op:O
 as:List A
 k:Nat
 gd:Option (Nat×Bool)
inductive Gh where
 |own (slot z:Nat)
 |ownc (slot off z:Nat)
 |frz (slot:Nat)
 |frzc (slot off:Nat)
 |keep (live:List Nat)
inductive Co where
 |skip
 |reg (nal:Nat) (ops:List dU) (prs:Option (List (Nat×Nat))) (out:List Nat)
 |seq (a b:Co)
 |cond (c:A) (t e:Co)
 |block (id:Nat) (b:Co)
 |loop (live:List Nat) (b:Co)
 |exit (id:Nat)
 |ret
 |gh (g:Gh) (c:Co)
inductive Rv where
 |t (n:Nat)
 |cell (a n:Nat) (agg:Bool)
structure Fx where
 body:Co
 res:List Rv
 fz:Bool
inductive Tm where
 |nil
 |cons (s:Nat) (d:D) (r:Tm)
structure St where
 tm:Tm
 hp:List Ob
def Dd (f:Nat):Nat:=f % 1000000
def Uw (f:Nat):Nat:=f / 1000000
def jm {α:Type}(f:Nat)(caps args:List α):List α:=caps.take (Uw f)++(args++caps.drop (Uw f))
def get:Tm→Nat→D
 | .nil,_=> .junk
 | .cons s d r,t=>bif Nat.beq s t then d else get r t
def ev (tm:Tm):A→D
 | .t n=>get tm n
 | .c x=> .p x
 | .n z=> .sl .nil z []
 | .f g=> .p (.fn g [])
 | .g x=> .ip x 0
def put (dst:Option Nat)(v:D)(tm:Tm):Tm:=
 match dst with
 |some d=> .cons d v tm
 |none=>tm
def gp:List D→Option (List Da)
 |[]=>some []
 | .p x::r=>match gp r with
  |some xs=>some (x::xs)
  |none=>none
 |_::_=>none
def xR (ds:List D):D:=
 match gp ds with
 |some xs=> .p (.agg xs)
 |none=> .agg ds
def cells:Da→List Da
 | .agg cs=>cs
 |x=>[x]
def bk:D→List D
 | .p (.agg cs)=>cs.map .p
 | .agg ds=>ds
 |d=>[d]
def cO:D→Bool
 | .junk=>false
 | .tup _=>false
 | .agg _=>false
 |_=>true
def dids:D→List Nat
 | .agg cs=>didsL cs
 | .tup ds=>didsL ds
 | .box id _=>[id]
 | .el id _ _=>[id]
 | .arr id _ _ _=>[id]
 | .sl _ _ _=>[]
 | .map id=>[id]
 | .fn _ caps=>didsL caps
 | .iface _ d=>dids d
 | .p _=>[]
 | .ip _ _=>[]
 | .junk=>[]
where
 didsL:List D→List Nat
 |[]=>[]
 |d::r=>dids d++didsL r
def hO:Ob→List Nat
 | .box cs=>dids.didsL cs
 | .mapd _ vs=>dids.didsL vs
 |_=>[]
def close (hp:List Ob):Nat→List Nat→List Nat→List Nat
 |0,_,acc=>acc
 |_+1,[],acc=>acc
 |n+1,id::ws,acc=>
  if acc.contains id then close hp n ws acc
  else close hp n (hO (hp.getD id .dead)++ws) (acc++[id])
def aX:Nat:=4000
def mapD (σ:Nat→Option Nat):D→D
 | .agg cs=> .agg (mapDL cs)
 | .tup ds=> .tup (mapDL ds)
 | .box id off=>match σ id with|some j=> .box j off|none=> .junk
 | .el id i off=>match σ id with|some j=> .el j i off|none=> .junk
 | .arr id lo len z=>match σ id with|some j=> .arr j lo len z|none=> .junk
 | .sl g z es=> .sl g z es
 | .map id=>match σ id with|some j=> .map j|none=> .junk
 | .fn f caps=> .fn f (mapDL caps)
 | .iface t d=> .iface t (mapD σ d)
 | .p x=> .p x
 | .ip x off=> .ip x off
 | .junk=> .junk
where
 mapDL:List D→List D
 |[]=>[]
 |d::r=>mapD σ d::mapDL r
def bL (σ:Nat→Option Nat):Ob→Ob
 | .box cs=> .box (mapD.mapDL σ cs)
 | .mapd ks vs=> .mapd ks (mapD.mapDL σ vs)
 |o=>o
def idx (ids:List Nat)(id:Nat):Option Nat:=
 go ids 0
where
 go:List Nat→Nat→Option Nat
 |[],_=>none
 |x::r,n=>bif Nat.beq x id then some n else go r (n+1)
def aP (hp:List Ob)(i:Nat):Ob:=hp.getD i .dead
def rG:List Ob→Nat→Ob→List Ob
 |[],_,_=>[]
 |_::r,0,o=>o::r
 |x::r,n+1,o=>x::rG r n o
def ao:List Ob→List (Nat×Ob)→List Ob
 |hp,[]=>hp
 |hp,(i,o)::r=>ao (rG hp i o) r
def ep:List (Nat×Ob)→Nat→Ob
 |[],_=> .dead
 |(i,o)::r,id=>bif Nat.beq i id then o else ep r id
def Xh (os:List (Nat×Ob))(id off:Nat):Option Da:=
 match ep os id with
 | .box cs=>bif Nat.beq off 0 then(match gp cs with
  |some xs=>some (.ptr (.agg xs))
  |none=>none)else none
 |_=>none
def VO (os:List (Nat×Ob))(d:D)(o:Option Da):Option Da:=
 match d with
 | .box id off=>Xh os id off
 |_=>o
def pur (os:List (Nat×Ob)):D→Option Da
 | .p x=>some x
 | .agg cs=>(purL cs).map .agg
 | .arr id lo len z=>match ep os id with
  | .arr es=>some (.slice z ((es.drop lo).take len))
  | .fz es=>some (.slice z ((es.drop lo).take len))
  |_=>none
 | .sl _ z es=>some (.slice z es)
 | .map id=>match ep os id with
  | .map ks vs=>some (.map ks vs)
  | .fzm ks vs=>some (.map ks vs)
  |_=>none
 | .fn f caps=>(purC caps).map (.fn f)
 | .iface t d=>(pur os d).map (.iface t)
 | .ip x off=>bif Nat.beq off 0 then some (.ptr x)else none
 | .tup _=>none
 | .box _ _=>none
 | .el _ _ _=>none
 | .junk=>none
where
 purL:List D→Option (List Da)
 |[]=>some []
 |d::r=>match pur os d with
  |some x=>match purL r with
   |some xs=>some (x::xs)
   |none=>none
  |none=>none
 purC:List D→Option (List Da)
 |[]=>some []
 |d::r=>match VO os d (pur os d)with
  |some x=>match purC r with
   |some xs=>some (x::xs)
   |none=>none
  |none=>none
def ka:Ob→Ob
 | .box _=> .dead
 | .arr es=> .fz es
 | .map ks vs=> .fzm ks vs
 |o=>o
def cG (os:List (Nat×Ob)):List (Nat×Ob):=os.map fun(i,o)=>(i,ka o)
def cp:List Nat→List Nat→Bool
 |[],[]=>true
 |a::x,b::y=>bif Nat.beq a b then cp x y else false
 |_,_=>false
def Ws:List Nat→List Nat→Bool
 |_,[]=>false
 |[],_::_=>true
 |a::x,b::y=>bif Nat.blt a b then true else bif Nat.beq a b then Ws x y else false
def eqI:Int→Int→Bool
 | .ofNat a,.ofNat b=>Nat.beq a b
 | .negSucc a,.negSucc b=>Nat.beq a b
 |_,_=>false
def bo:Int→Int→Bool
 | .ofNat a,.ofNat b=>Nat.blt a b
 | .negSucc a,.negSucc b=>Nat.blt b a
 | .negSucc _,.ofNat _=>true
 | .ofNat _,.negSucc _=>false
def bh (a b:Int):Bool:=!(bo b a)
def aj (k:IntKind)(n:Int):Int:=
 match k,n with
 | .i64,.ofNat m=>bif Nat.blt m 9223372036854775808 then .ofNat m else k.wrap n
 | .i64,.negSucc m=>bif Nat.blt m 9223372036854775808 then .negSucc m else k.wrap n
 | .u64,.ofNat m=>bif Nat.blt m 18446744073709551616 then .ofNat m else k.wrap n
 | .u8,.ofNat m=>bif Nat.blt m 256 then .ofNat m else k.wrap n
 | .i32,.ofNat m=>bif Nat.blt m 2147483648 then .ofNat m else k.wrap n
 | .u32,.ofNat m=>bif Nat.blt m 4294967296 then .ofNat m else k.wrap n
 |_,_=>k.wrap n
def fx:Nat:=9223372036854775807
def Tz:List (Int×Int×Int)→Int
 |[]=>0
 |(a,l,h)::r=>(bif bo a 0 then a*h else a*l)+Tz r
def T6:List (Int×Int×Int)→Int
 |[]=>0
 |(a,l,h)::r=>(bif bo a 0 then a*l else a*h)+T6 r
def Sy.low:Sy→Int
 | .lin c ks=>c+Tz ks
 | .rng l _=>l
def Sy.top:Sy→Int
 | .lin c ks=>c+T6 ks
 | .rng _ h=>h
def zj (f:Int):List (Int×Int×Int)→List (Int×Int×Int)→List (Int×Int×Int)
 |[],[]=>[]
 |[],(b,l,h)::s=>(f*b,l,h)::zj f [] s
 |(a,l,h)::r,[]=>(a,l,h)::r
 |(a,l,h)::r,(b,_,_)::s=>(a+f*b,l,h)::zj f r s
def Vl (a b:Sy):Sy:=
 match a,b with
 | .lin c ks,.lin d js=> .lin (c+d) (zj 1 ks js)
 |a,b=> .rng (a.low+b.low) (a.top+b.top)
def yI (a b:Sy):Sy:=
 match a,b with
 | .lin c ks,.lin d js=> .lin (c - d) (zj (-1) ks js)
 |a,b=> .rng (a.low - b.top) (a.top - b.low)
def qg (f:Int):List (Int×Int×Int)→List (Int×Int×Int)
 |[]=>[]
 |(a,l,h)::r=>(f*a,l,h)::qg f r
def uV (m:Int):List (Int×Int×Int)→List (Int×Int×Int)
 |[]=>[]
 |(a,l,h)::r=>(bif eqI (a.emod m) 0 then 0 else a,l,h)::uV m r
def Yr:IntKind→Int
 | .i64=> -9223372036854775808
 | .u8=>0
 | .u16=>0
 | .u32=>0
 | .u64=>0
 |_=>1
def Yq:IntKind→Int
 | .i64=>9223372036854775807
 | .u8=>255
 | .u16=>65535
 | .u32=>4294967295
 | .u64=>18446744073709551615
 |_=>0
def NH:List (Int×Int×Int)→Bool
 |[]=>true
 |(a,_,_)::r=>eqI a 0&&NH r
def TC (k:IntKind)(s:Sy):Option Da:=
 bif bh (Yr k) s.low&&bh s.top (Yq k)then
  match s with
  | .lin c ks=>bif NH ks then some (.int k c)else some (.sym k (.lin c ks))
  |s=>some (.sym k s)
 else none
def Wt (a b:Sy):Option Sy:=
 match a,b with
 | .lin c [],.lin d js=>some (.lin (c*d) (qg c js))
 | .lin d ks,.lin c []=>some (.lin (c*d) (qg c ks))
 |_,_=>none
def WG (a b:Sy):Option Sy:=
 bif bh 0 a.low&&bo 0 b.low then some (.rng (a.low.tdiv b.top) (a.top.tdiv b.low))else none
def WK (a b:Sy):Option Sy:=
 match a,b with
 | .lin c ks,.lin m []=>
  let r:Sy:= .lin (c.emod m) (uV m ks)
  bif bo 0 m&&(bh 0 (Sy.lin c ks).low&&(bh 0 r.low&&bo r.top m))then some r else none
 |_,_=>none
def Ps (d:Sy):Option Bool:=
 bif eqI d.low 0&&eqI d.top 0 then some true else bif bo 0 d.low||bo d.top 0 then some false else none
def TA (d:Sy):Option Bool:=
 bif bo d.top 0 then some true else bif bh 0 d.low then some false else none
def Ts (d:Sy):Option Bool:=
 bif bh d.top 0 then some true else bif bo 0 d.low then some false else none
def qI (w:Bool):Option Bool→Option Da
 |some b=>some (.bool (b==w))
 |none=>none
def Yt (k:IntKind):Option Sy→Option Da
 |some s=>TC k s
 |none=>none
def NQ (op:BinOp)(k:IntKind)(a b:Sy):Option Da:=
 match op with
 | .add=>TC k (Vl a b)
 | .sub=>TC k (yI a b)
 | .mul=>Yt k (Wt a b)
 | .quo=>Yt k (WG a b)
 | .rem=>Yt k (WK a b)
 | .eql=>qI true (Ps (yI a b))
 | .neq=>qI false (Ps (yI a b))
 | .lss=>qI true (TA (yI a b))
 | .geq=>qI false (TA (yI a b))
 | .leq=>qI true (Ts (yI a b))
 | .gtr=>qI false (Ts (yI a b))
 |_=>none
def AR:Da→Option (IntKind×Sy)
 | .int k n=>some (k,.lin n [])
 | .sym k s=>some (k,s)
 |_=>none
def BQ (op:BinOp)(x y:Da):Option Da:=
 match AR x,AR y with
 |some (k,a),some (k',b)=>if k=k' then NQ op k a b else none
 |_,_=>none
def jg (op:BinOp)(k:IntKind)(a b:Int):Option Da:=
 match op with
 | .add=>some (.int k (aj k (a+b)))
 | .sub=>some (.int k (aj k (a - b)))
 | .mul=>some (.int k (aj k (a*b)))
 | .quo=>bif eqI b 0 then none else some (.int k (aj k (a.tdiv b)))
 | .rem=>bif eqI b 0 then none else some (.int k (a.tmod b))
 | .and=>some (.int k (aj k (BitVec.ofInt k.bits a &&& BitVec.ofInt k.bits b).toNat))
 | .or=>some (.int k (aj k (BitVec.ofInt k.bits a ||| BitVec.ofInt k.bits b).toNat))
 | .xor=>some (.int k (aj k (BitVec.ofInt k.bits a ^^^ BitVec.ofInt k.bits b).toNat))
 | .andNot=>some (.int k (aj k (BitVec.ofInt k.bits a &&& ~~~(BitVec.ofInt k.bits b)).toNat))
 | .eql=>some (.bool (eqI a b))
 | .neq=>some (.bool (!(eqI a b)))
 | .lss=>some (.bool (bo a b))
 | .leq=>some (.bool (bh a b))
 | .gtr=>some (.bool (bo b a))
 | .geq=>some (.bool (bh b a))
 |_=>none
def kR (op:BinOp)(k:IntKind)(a b:Int):Option Da:=
 bif bo b 0 then none else
 match op with
 | .shl=>some (.int k (aj k (a*2 ^ (min b.toNat k.bits))))
 | .shr=>some (.int k (a.fdiv (2 ^ (min b.toNat k.bits))))
 |_=>none
def dS:BinOp→Bool
 | .shl=>true
 | .shr=>true
 |_=>false
def pI (op:BinOp)(a b:List Nat):Option Da:=
 match op with
 | .add=>bif Nat.ble (a.length+b.length) fx then some (.str (a++b))else none
 | .eql=>some (.bool (cp a b))
 | .neq=>some (.bool (!(cp a b)))
 | .lss=>some (.bool (Ws a b))
 | .leq=>some (.bool (Ws a b||cp a b))
 | .gtr=>some (.bool (!(Ws a b||cp a b)))
 | .geq=>some (.bool (!(Ws a b)))
 |_=>none
def fN (kd:Nat)(d:D):Option Bool:=
 match kd with
 |0=>match d with
  | .p .nilptr=>some true
  | .p (.ptr _)=>some false
  | .box _ _=>some false
  | .el _ _ _=>some false
  | .ip _ _=>some false
  |_=>none
 |1=>match d with
  | .sl .nil _ _=>some true
  | .sl .na _ _=>some true
  | .sl .some _ _=>some false
  | .sl .exact _ (_::_)=>some false
  | .p (.slice _ (_::_))=>some false
  | .arr _ _ (_+1) _=>some false
  |_=>none
 |2=>match d with
  | .p .nilmap=>some true
  | .p (.map _ _)=>some false
  | .map _=>some false
  |_=>none
 |3=>match d with
  | .p .nilfn=>some true
  | .p (.fn _ _)=>some false
  | .fn _ _=>some false
  |_=>none
 |4=>match d with
  | .p .nilif=>some true
  | .p (.iface _ _)=>some false
  | .iface _ _=>some false
  |_=>none
 |_=>none
def kK (kd:Nat)(d:D):Bool:=
 match fN kd d with
 |some b=>b
 |none=>false
def sG (op:BinOp)(r:Option Bool):Option Da:=
 match r with
 |some b=>match op with
  | .eql=>some (.bool b)
  | .neq=>some (.bool (!b))
  |_=>none
 |none=>none
def CC:D→Bool
 | .p (.ptr _)=>true
 | .p (.fn _ _)=>true
 | .p (.iface _ _)=>true
 | .box _ _=>true
 | .el _ _ _=>true
 | .ip _ _=>true
 | .fn _ _=>true
 | .iface _ _=>true
 |_=>false
def bin (op:BinOp)(x y:D):Option Da:=
 match x,y with
 | .p (.int k a),.p (.int k' b)=>
  bif dS op then kR op k a b
  else if k=k' then jg op k a b else none
 | .p (.str a),.p (.str b)=>pI op a b
 | .p x,.p y=>BQ op x y
 |_,_=>none
def binB (op:BinOp)(x y:D):Option Da:=
 match x,y with
 | .p (.bool a),.p (.bool b)=>match op with
  | .eql=>some (.bool (a==b))
  | .neq=>some (.bool (!(a==b)))
  |_=>none
 |_,_=>none
def binN (kd:Nat)(op:BinOp)(x y:D):Option Da:=
 bif kK kd y then sG op (fN kd x)else bif kK kd x then sG op (fN kd y)else none
def CU:D→D→Bool
 | .box i o,.box j p=>Nat.beq i j&&Nat.beq o p
 |_,_=>false
def HP (x y:D):Option Da:=bif CU x y then some (.bool false)else binN 0 .neq x y
def sP (k:Nat)(x y:Da):Option Bool:=
 match k with
 |0=>match x,y with
  | .int i a,.int j b=>if i=j then some (eqI a b)else none
  |x,y=>match BQ .eql x y with
   |some (.bool b)=>some b
   |_=>none
 |1=>match x,y with
  | .str a,.str b=>some (cp a b)
  |_,_=>none
 |2=>match x,y with
  | .bool a,.bool b=>some (a==b)
  |_,_=>none
 |_=>none
def f8:List Nat→List Da→List Da→Option Bool
 |[],_,_=>some true
 |k::ks,x::xs,y::ys=>match sP k x y with
  |some b=>bif b then f8 ks xs ys else some false
  |none=>none
 |_,_,_=>none
def binS (ks:List Nat)(op:BinOp)(x y:D):Option Da:=
 match x,y with
 | .p (.agg xs),.p (.agg ys)=>match f8 ks xs ys with
  |some b=>match op with
   | .eql=>some (.bool b)
   | .neq=>some (.bool (!b))
   |_=>none
  |none=>none
 |_,_=>none
def un (op:UnOp)(x:D):Option Da:=
 match op,x with
 | .neg,.p (.int k n)=>some (.int k (aj k (0 - n)))
 | .neg,.p (.sym k s)=>TC k (yI (.lin 0 []) s)
 | .not,.p (.bool b)=>some (.bool (!b))
 |_,_=>none
def splice {α:Type}(l:List α)(off:Nat)(xs:List α):List α:=l.take off++xs++l.drop (off+xs.length)
def oF (cs:List D):List (Nat×Nat)→List D→Option (List D)
 |[],[]=>some cs
 |(off,n)::ps,d::ds=>
  let xs:=bk d
  bif Nat.beq xs.length n&&Nat.ble (off+n) cs.length&&xs.all cO then oF (splice cs off xs) ps ds else none
 |_,_=>none
def t7 (es:List Da):List Nat→List Da→Option (List Da)
 |[],[]=>some es
 |i::is,x::xs=>bif Nat.blt i es.length then t7 (es.set i x) is xs else none
 |_,_=>none
def lX (old:Da)(cs:List Da):Option Da:=
 match old,cs with
 | .agg _,cs=>some (.agg cs)
 |_,[c]=>some c
 |_,_=>none
def dz (agg:Bool)(ds:List D):Option D:=
 bif agg then some (xR ds)else match ds with
  |[d]=>some d
  |_=>none
def sub {α:Type}(l:List α)(off n:Nat):Option (List α):=
 bif Nat.ble (off+n) l.length then some ((l.drop off).take n)else none
def fq (es:List Da)(i:Int):Option Da:=bif bh 0 i then es[i.toNat]? else none
def hH (x:D)(y:Nat):Option Nat:=
 match x with
 | .p (.int _ i)=>bif bh 0 i&&bh i y then some i.toNat else none
 |_=>none
def bN (lo hi mx:Bool)(len:Nat)(xs:List D):Option (Nat×Nat×Nat):=
 match lo,hi,mx,xs with
 |false,false,false,[]=>some (0,len,len)
 |true,false,false,[a]=>match hH a len with
  |some l=>some (l,len,len)
  |none=>none
 |false,true,false,[b]=>match hH b len with
  |some h=>some (0,h,len)
  |none=>none
 |true,true,false,[a,b]=>match hH b len with
  |some h=>match hH a h with
   |some l=>some (l,h,len)
   |none=>none
  |none=>none
 |false,true,true,[b,c]=>match hH c len with
  |some m=>match hH b m with
   |some h=>some (0,h,m)
   |none=>none
  |none=>none
 |true,true,true,[a,b,c]=>match hH c len with
  |some m=>match hH b m with
   |some h=>match hH a h with
    |some l=>some (l,h,m)
    |none=>none
   |none=>none
  |none=>none
 |_,_,_,_=>none
def mg (kt:TypeDesc)(x y:Da):Option Bool:=
 match kt,x,y with
 | .int _,.int k a,.int k' b=>if k=k' then some (eqI a b)else none
 | .string,.str a,.str b=>some (cp a b)
 |_,_,_=>none
def dY (kt:TypeDesc)(k:Da):List Da→Nat→Option (Option Nat)
 |[],_=>some none
 |x::r,i=>match mg kt k x with
  |some true=>some (some i)
  |some false=>dY kt k r (i+1)
  |none=>none
def De (n:Nat):Da:= .int .i64 n
def zW:Nat:=67
def FZ:Nat:=5
def pH:List D→Bool
 | .p .nilptr::_=>true
 | .box _ _::_=>true
 |_=>false
def b3 (cs:List D):Bool:=Nat.beq cs.length 3&&pH cs
def bj (o:O)(vs:List D)(hp:List Ob):List Nat:=
 match o with
 | .load _ _=>match vs with|d::_=>dids d|_=>[]
 | .store _=>dids.didsL vs
 | .bsl _ _ _ _=>dids.didsL vs
 | .bslm _ _ _ _=>dids.didsL vs
 | .bsle _ _ _ _=>dids.didsL vs
 | .app _ _=>dids.didsL vs
 | .appm _ _ _=>dids.didsL vs
 | .lkp _ _ _=>match vs with|d::_=>dids d|_=>[]
 | .mupd _=>dids.didsL vs
 | .cpy _=>dids.didsL vs
 | .clr _ _=>dids.didsL vs
 | .slX _ _=>match vs with|d::_=>dids d|_=>[]
 | .appI _=>dids.didsL vs
 | .len _=>match vs with| .map id::_=>[id]|_=>[]
 | .slSl _ lo hi mx=>bif mx||(lo&&!hi)then(match vs with|d::_=>dids d|_=>[])else[]
 | .call _ _=>close hp aX (dids.didsL vs) []
 | .callv=>close hp aX (dids.didsL vs) []
 | .clone=>dids.didsL vs
 | .b2s=>dids.didsL vs
 | .uns=>dids.didsL vs
 | .appB _=>dids.didsL vs
 | .ustr=>dids.didsL vs
 |_=>[]
def yU (z esz:Nat)(es:List Da):Bool:=Nat.beq z esz||es.isEmpty
def nU (z esz:Nat)(es:List Da):Option (List Da):=bif yU z esz es then some es else none
def elems (esz:Nat)(os:List (Nat×Ob)):D→Option (List Da)
 | .p (.slice z es)=>nU z esz es
 | .p (.sliceE z es)=>nU z esz es
 | .sl _ z es=>nU z esz es
 | .p (.str s)=>bif Nat.beq esz 1 then some (s.map fun b=> .int .u8 (Int.ofNat b))else none
 | .arr id lo len z=>match ep os id with
  | .arr es=>bif Nat.beq z esz then some ((es.drop lo).take len)else none
  | .fz es=>bif Nat.beq z esz then some ((es.drop lo).take len)else none
  |_=>none
 |_=>none
def eS:List Da→Option (List Nat)
 |[]=>some []
 | .int .u8 n::r=>match eS r with
  |some s=>some (n.toNat % 256::s)
  |none=>none
 |_::_=>none
def rH:D→Option Nat
 | .p (.slice _ es)=>some es.length
 | .p (.sliceE _ es)=>some es.length
 | .sl _ _ es=>some es.length
 | .arr _ _ len _=>some len
 |_=>none
def kD (esz:Nat)(os:List (Nat×Ob)):D→Option (List Da×List (Nat×Ob))
 | .sl .nil _ _=>some ([],[])
 | .sl .exact z es=>bif yU z esz es then some (es,[])else none
 | .p (.sliceE z es)=>bif yU z esz es then some (es,[])else none
 | .arr id lo len z=>match ep os id with
  | .arr es=>bif Nat.beq z esz then some ((es.drop lo).take len,[(id,.dead)])else none
  |_=>none
 |_=>none
def back (m len:Nat)(ids:List Nat)(total:Nat)(k:Nat):Option Nat:=
 bif Nat.blt k m then ids[k]? else bif Nat.blt k total then some (len+(k - m))else none
def E0:D→D
 | .sl _ z es=> .p (.slice z es)
 |d=>d
def norm:D→D
 | .sl _ z es=> .p (.slice z es)
 | .agg ds=>xR (ds.map E0)
 | .tup ds=> .tup (ds.map E0)
 |d=>d
abbrev aG:=Nat→List D→List Ob→Option (D×List Ob)
abbrev et:=D×List (Nat×Ob)×List Ob
def eg (call:aG)(f:Nat)(args:List D)(ids:List Nat)(obs:List Ob)(len:Nat):Option et:=
 match call f (mapD.mapDL (idx ids) args) (obs.map (bL (idx ids)))with
 |none=>none
 |some (r,out)=>
  bif Nat.ble ids.length out.length then
   let σ:=back ids.length len ids out.length
   let out':=out.map (bL σ)
   some (mapD σ r,ids.zip out',out'.drop ids.length)
  else none
def val (d:D):Option et:=some (d,[],[])
def jB:Option Da→Option et
 |some x=>some (.p x,[],[])
 |none=>none
def WZ (vs:List D):Option et:=
 match vs with|[d]=>val d|_=>none
def zR (vs:List D):Option et:=
 match vs with|[.p (.bool c),a,b]=>val (bif c then a else b)|_=>none
def GJ (zs:List D)(base:Nat)(kk:Nat):Option et:=
 some (.box (base+kk) 0,[(base+kk,.box zs)],[])
def Nu (n:Nat)(base:Nat)(kk:Nat)(vs:List D):Option et:=
 match vs with
  |[d]=>bif(bif Nat.beq n 1000003 then Nat.beq (bk d).length 3 else Nat.beq (bk d).length n&&!b3 (bk d))&&(bk d).all cO then some (.box (base+kk) 0,[(base+kk,.box (bk d))],[])else none
  |_=>none
def pD (zs:List D)(ps:List (Nat×Nat))(vs:List D):Option et:=
 match oF zs ps vs with
  |some cs=>val (xR cs)
  |none=>none
def Km (esz:Nat)(z:Da)(n:Nat)(ps:List Nat)(vs:List D)(ids:List Nat)(obs:List Ob):Option et:=
 match pur.purL (ids.zip obs) vs with
  |some xs=>bif xs.all (fun e=>Nat.beq (cells e).length esz)then
   match t7 (List.replicate n z) ps xs with
   |some es=>some (.sl .exact esz es,cG (ids.zip obs),[])
   |none=>none
   else none
  |none=>none
def Nw (esz:Nat)(z:Da)(n:Nat)(ps:List Nat)(vs:List D)(ids:List Nat)(obs:List Ob):Option et:=
 match Km esz z n ps vs ids obs with
  |some (.sl .exact z es,ups,new)=>some (.p (.sliceE z es),ups,new)
  |_=>none
def Ny (esz:Nat)(z:Da)(n:Nat)(ps:List Nat)(base kk:Nat)(vs:List D)(ids:List Nat)(obs:List Ob):Option et:=
 match pur.purL (ids.zip obs) vs with
  |some xs=>bif xs.all (fun e=>Nat.beq (cells e).length esz)then
   match t7 (List.replicate n z) ps xs with
   |some es=>some (.arr (base+kk) 0 n esz,cG (ids.zip obs)++[(base+kk,.arr es)],[])
   |none=>none
   else none
  |none=>none
def fK (n:Nat)(agg:Bool)(vs:List D)(obs:List Ob):Option et:=
 match vs with
  |[.box _ off]=>match obs with
   |[.box cs]=>match sub cs off n with
    |some ds=>match dz agg ds with
     |some d=>val d
     |none=>none
    |none=>none
   |_=>none
  |[.el _ i off]=>match obs with
   |[.arr es]=>match es[i]? with
    |some e=>match sub (cells e) off n with
     |some ds=>match dz agg (ds.map .p)with
      |some d=>val d
      |none=>none
     |none=>none
    |none=>none
   |[.fz es]=>match es[i]? with
    |some e=>match sub (cells e) off n with
     |some ds=>match dz agg (ds.map .p)with
      |some d=>val d
      |none=>none
     |none=>none
    |none=>none
   |_=>none
  |[.ip x off]=>match sub (cells x) off n with
   |some ds=>match dz agg (ds.map .p)with
    |some d=>val d
    |none=>none
   |none=>none
  |[.p (.ptr x)]=>match sub (cells x) 0 n with
   |some ds=>match dz agg (ds.map .p)with
    |some d=>val d
    |none=>none
   |none=>none
  |_=>none
def lM (n:Nat)(vs:List D)(ids:List Nat)(obs:List Ob):Option et:=
 match vs with
  |[.box id off,d]=>
   let xs:=bk d
   match ep (ids.zip obs) id with
   | .box cs=>bif Nat.beq xs.length n&&Nat.ble (off+n) cs.length&&xs.all cO then(bif b3 (splice cs off xs)&&!b3 cs then none else some (.junk,[(id,.box (splice cs off xs))],[]))else none
   |_=>none
  |[.el id i off,d]=>
   let os:=(ids.zip obs).filter fun p=>!Nat.beq p.1 id
   match ep (ids.zip obs) id with
   | .arr es=>match es[i]? with
    |some e=>match pur os d with
     |some x=>
      bif Nat.beq (cells x).length n&&Nat.ble (off+n) (cells e).length then
       match lX e (splice (cells e) off (cells x))with
       |some e'=>some (.junk,cG os++[(id,.arr (es.set i e'))],[])
       |none=>none
      else none
     |none=>none
    |none=>none
   |_=>none
  |_=>none
def pE (vs:List D):Option et:=
 match vs with
 |[d]=>bif CC d then val d else none
 |_=>none
def zh (op:BinOp)(vs:List D):Option et:=
 match vs with|[x,y]=>jB (bin op x y)|_=>none
def Iw (op:BinOp)(vs:List D):Option et:=
 match vs with|[x,y]=>jB (binB op x y)|_=>none
def Iy (kd:Nat)(op:BinOp)(vs:List D):Option et:=
 match vs with|[x,y]=>jB (binN kd op x y)|_=>none
def wP (ks:List Nat)(op:BinOp)(vs:List D):Option et:=
 match vs with|[x,y]=>jB (binS ks op x y)|_=>none
def Xf (op:UnOp)(vs:List D):Option et:=
 match vs with|[x]=>jB (un op x)|_=>none
def Iz (k:IntKind)(vs:List D):Option et:=
 match vs with|[.p (.int _ n)]=>val (.p (.int k (aj k n)))|[.p (.sym _ s)]=>jB (TC k s)|_=>none
def IB (vs:List D):Option et:=
 match vs with|[.p (.str s)]=>val (.p (.str s))|_=>none
def DP (t:Nat)(vs:List D):Option et:=
 match vs with
  |[.p x]=>val (.p (.iface t x))
  |[d]=>val (.iface t d)
  |_=>none
def DO (f:Nat)(vs:List D):Option et:=
 match gp vs with
  |some xs=>val (.p (.fn f xs))
  |none=>val (.fn f vs)
def GM (base:Nat)(kk:Nat):Option et:=
 some (.map (base+kk),[(base+kk,.map [] [])],[])
def DQ (esz:Nat)(z:Da)(bytes:Nat)(base:Nat)(kk:Nat)(vs:List D):Option et:=
 match vs with
  |[.p (.int _ l),.p (.int _ c)]=>
   bif bh 0 l&&bh l c&&Nat.ble (c.toNat*bytes) 281474976710656&&bh c 9223372036854775807 then
    some (.arr (base+kk) 0 l.toNat esz,[(base+kk,.arr (List.replicate l.toNat z))],[])else none
  |_=>none
def lL (lo:Bool)(hi:Bool)(vs:List D):Option et:=
 match vs with
  | .p (.str s)::xs=>match bN lo hi false s.length xs with
   |some (l,h,_)=>val (.p (.str ((s.drop l).take (h - l))))
   |none=>none
  |_=>none
def nB (os:List (Nat×Ob))(id lo:Nat):Bool:=
 match ep os id with
 | .arr es=>Nat.blt lo es.length
 | .fz es=>Nat.blt lo es.length
 |_=>false
def hE (esz:Nat)(lo:Bool)(hi:Bool)(mx:Bool)(vs:List D)(ids:List Nat)(obs:List Ob):Option et:=
 match vs with
  | .p (.slice z es)::xs=>bif yU z esz es then match bN lo hi mx es.length xs with
   |some (l,h,m)=>val (bif mx&&Nat.beq h m then .sl .exact z ((es.drop l).take (h - l))else .p (.slice z ((es.drop l).take (h - l))))
   |none=>none
   else none
  | .sl g z es::xs=>bif yU z esz es then match bN lo hi mx es.length xs with
   |some (l,h,m)=>val (match g with
    | .nil=> .sl .nil z []
    | .exact=>bif Nat.beq h m then .sl .exact z ((es.drop l).take (h - l))else .p (.slice z ((es.drop l).take (h - l)))
    |_=>bif mx&&Nat.beq h m then .sl .exact z ((es.drop l).take (h - l))else .p (.slice z ((es.drop l).take (h - l))))
   |none=>none
   else none
  | .arr id lo0 len0 z::xs=>bif Nat.beq z esz then match bN lo hi mx len0 xs with
   |some (l,h,m)=>
    bif mx then match ep (ids.zip obs) id with
     | .arr es=>some (bif Nat.beq h m then .sl .exact z ((es.drop (lo0+l)).take (h - l))else .p (.slice z ((es.drop (lo0+l)).take (h - l))),[(id,.fz es)],[])
     | .fz es=>val (bif Nat.beq h m then .sl .exact z ((es.drop (lo0+l)).take (h - l))else .p (.slice z ((es.drop (lo0+l)).take (h - l))))
     |_=>none
    else bif lo&&!hi&&(Nat.beq l h&&nB (ids.zip obs) id lo0)then val (.sl .some z [])else val (.arr id (lo0+l) (h - l) z)
   |none=>none
   else none
  |_=>none
def Vg (off:Nat)(vs:List D):Option et:=
 match vs with
  |[.box id o]=>val (.box id (o+off))
  |[.el id i o]=>val (.el id i (o+off))
  |[.ip x o]=>val (.ip x (o+off))
  |[.p (.ptr x)]=>val (.ip x off)
  |_=>none
def DK (off:Nat)(n:Nat)(agg:Bool)(vs:List D):Option et:=
 match vs with
  |[.p (.agg cs)]=>match sub (cs.map .p) off n with
   |some ds=>match dz agg ds with
    |some d=>val d
    |none=>none
   |none=>none
  |[.agg ds]=>match sub ds off n with
   |some ds=>match dz agg ds with
    |some d=>val d
    |none=>none
   |none=>none
  |_=>none
def IA (esz:Nat)(vs:List D):Option et:=
 match vs with
  |[.p (.slice z es),.p (.int _ i)]=>bif Nat.beq z esz then match fq es i with
   |some e=>val (.ip e 0)
   |none=>none
   else none
  |[.p (.sliceE z es),.p (.int _ i)]=>bif Nat.beq z esz then match fq es i with
   |some e=>val (.ip e 0)
   |none=>none
   else none
  |[.sl _ z es,.p (.int _ i)]=>bif Nat.beq z esz then match fq es i with
   |some e=>val (.ip e 0)
   |none=>none
   else none
  |[.arr id lo len z,.p (.int _ i)]=>bif Nat.beq z esz&&bh 0 i&&bo i len then val (.el id (lo+i.toNat) 0)else none
  |_=>none
def DL (n:Nat)(esz:Nat)(vs:List D):Option et:=
 match vs with
  |[.box id o,.p (.int _ i)]=>bif bh 0 i&&bo i n then val (.box id (o+i.toNat*esz))else none
  |[.ip x o,.p (.int _ i)]=>bif bh 0 i&&bo i n then val (.ip x (o+i.toNat*esz))else none
  |_=>none
def RQ (vs:List D):Option et:=
 match vs with
  |[.p (.str s),.p (.int _ i)]=>match (bif bh 0 i then s[i.toNat]? else none)with
   |some b=>val (.p (.int .u8 (Int.ofNat b)))
   |none=>none
  |_=>none
def GL (n esz:Nat)(agg:Bool)(vs:List D):Option et:=
 match vs with
  |[.p (.agg cs),.p (.int _ i)]=>bif bh 0 i&&bo i n then(match sub (cs.map .p) (i.toNat*esz) esz with
   |some ds=>match dz agg ds with
    |some d=>val d
    |none=>none
   |none=>none)else none
  |_=>none
def P6 (kt:TypeDesc)(z:D)(ok:Bool)(ks:List Da)(ws:List D)(k:D):Option et:=
 match k with
 | .p k=>match dY kt k ks 0 with
  |some (some i)=>match ws[i]? with
   |some v=>val (bif ok then .tup [v,.p (.bool true)]else v)
   |none=>none
  |some none=>val (bif ok then .tup [z,.p (.bool false)]else z)
  |none=>none
 |_=>none
def Ji (kt:TypeDesc)(id:Nat)(k:Da)(d:D)(ks:List Da)(ws:List D):Option et:=
 match dY kt k ks 0 with
 |some (some i)=>some (.junk,[(id,.mapd ks (ws.set i d))],[])
 |some none=>some (.junk,[(id,.mapd (ks++[k]) (ws++[d]))],[])
 |none=>none
def BM (kt:TypeDesc)(z:D)(ok:Bool)(vs:List D)(ids:List Nat)(obs:List Ob):Option et:=
   let r (ks ws:List Da) (k:D):Option et:=match k with
   | .p k=>match dY kt k ks 0 with
    |some (some i)=>match ws[i]? with
     |some v=>val (bif ok then .tup [.p v,.p (.bool true)]else .p v)
     |none=>none
    |some none=>val (bif ok then .tup [z,.p (.bool false)]else z)
    |none=>none
   |_=>none
  match vs with
  |[.p .nilmap,k]=>r [] [] k
  |[.p (.map ks ws),k]=>r ks ws k
  |[.map id,k]=>match ep (ids.zip obs) id with
   | .map ks ws=>r ks ws k
   | .fzm ks ws=>r ks ws k
   | .mapd ks ws=>P6 kt z ok ks ws k
   |_=>none
  |_=>none
def Vf (esz:Nat)(vs:List D)(ids:List Nat)(obs:List Ob):Option et:=
 match vs with
  |[.arr id lo len z,b]=>match ep (ids.zip obs) id with
   | .arr es=>match elems esz (ids.zip obs) b with
    |some ys=>bif ys.isEmpty then val (.p (De 0))else
     bif Nat.beq z esz&&Nat.ble ys.length len then some (.p (De ys.length),[(id,.arr (splice es lo ys))],[])else none
    |none=>none
   |_=>none
  |_=>none
def Ve (esz:Nat)(z:Da)(vs:List D)(ids:List Nat)(obs:List Ob):Option et:=
 match vs with
  |[.arr id lo len y]=>match ep (ids.zip obs) id with
   | .arr es=>bif Nat.beq len 0 then val (.tup [])else
     bif Nat.beq y esz then some (.tup [],[(id,.arr (splice es lo (List.replicate len z)))],[])else none
   |_=>none
  |_=>none
def tX (os:List (Nat×Ob))(id:Nat):Option Nat:=
 match ep os id with
 | .arr es=>some es.length
 | .fz es=>some es.length
 |_=>none
def Vi (esz:Nat)(lo:Bool)(vs:List D)(ids:List Nat)(obs:List Ob):Option et:=
 match vs with
  | .arr id lo0 _ z::xs=>bif Nat.beq z esz then match tX (ids.zip obs) id with
   |some n=>match bN lo true false (n - lo0) xs with
    |some (l,h,_)=>val (.arr id (lo0+l) (h - l) z)
    |none=>none
   |none=>none
   else none
  |_=>none
def Ko (esz:Nat)(lo hi:Bool)(vs:List D):Option et:=
 match vs with
  | .arr id lo0 len0 z::xs=>bif Nat.beq z esz then match bN lo hi false len0 xs with
   |some (l,h,_)=>val (.arr id (lo0+l) (h - l) z)
   |none=>none
   else none
  |_=>none
def IC (lo hi:Bool)(vs:List D):Option et:=
 match vs with
  | .arr _ _ len0 _::xs=>match bN lo hi true len0 xs with
   |some _=>val .junk
   |none=>none
  |_=>none
def Ns (esz:Nat)(vs:List D)(ids:List Nat)(obs:List Ob):Option et:=
 match vs with
  |[.arr id lo len z,b]=>match elems esz (ids.zip obs) b with
   |some ys=>bif ys.isEmpty then val (.arr id lo len z)else none
   |none=>none
  |_=>none
def tO (kt:TypeDesc)(vs:List D)(ids:List Nat)(obs:List Ob):Option et:=
 match vs with
  |[.map id,.p k,d]=>
   let os:=(ids.zip obs).filter fun p=>!Nat.beq p.1 id
   match ep (ids.zip obs) id with
   | .map ks ws=>match pur os d with
    |some x=>match dY kt k ks 0 with
     |some (some i)=>some (.junk,cG os++[(id,.map ks (ws.set i x))],[])
     |some none=>some (.junk,cG os++[(id,.map (ks++[k]) (ws++[x]))],[])
     |none=>none
    |none=>Ji kt id k d ks (ws.map .p)
   | .mapd ks ws=>Ji kt id k d ks ws
   |_=>none
  |_=>none
def GK (i:Nat)(vs:List D):Option et:=
 match vs with
  |[.tup ds]=>match ds[i]? with
   |some d=>val d
   |none=>none
  |_=>none
def Nz (call:aG)(vs:List D)(ids:List Nat)(obs:List Ob)(len:Nat):Option et:=
 match vs with
  | .p (.fn f caps)::args=>eg call (Dd f) (jm f (caps.map .p) (args.map norm)) ids obs len
  | .fn f caps::args=>eg call (Dd f) (jm f caps (args.map norm)) ids obs len
  |_=>none
def Kn (kd:Nat)(vs:List D)(ids:List Nat)(obs:List Ob):Option et:=
 match kd,vs with
  |0,[.p (.str s)]=>val (.p (De s.length))
  |1,[d]=>match rH d with
   |some n=>val (.p (De n))
   |none=>none
  |2,[.map id]=>match ep (ids.zip obs) id with
   | .map ks _=>val (.p (De ks.length))
   | .fzm ks _=>val (.p (De ks.length))
   |_=>none
  |2,[.p .nilmap]=>val (.p (De 0))
  |2,[.p (.map ks _)]=>val (.p (De ks.length))
  |_,_=>none
def NA (vs:List D):Option et:=
 match vs with
  |[.sl .exact _ es]=>val (.p (De es.length))
  |[.sl .nil _ _]=>val (.p (De 0))
  |_=>none
def DN (vs:List D):Option et:=
 match vs with
  |[.p (.int k a),.p (.int k' b)]=>if k=k' then val (.p (.int k (bif bo b a then b else a)))else none
  |_=>none
def DM (vs:List D):Option et:=
 match vs with
  |[.p (.int k a),.p (.int k' b)]=>if k=k' then val (.p (.int k (bif bo a b then b else a)))else none
  |_=>none
def pC (esz:Nat)(bytes:Nat)(base:Nat)(kk:Nat)(vs:List D)(ids:List Nat)(obs:List Ob):Option et:=
 match vs with
  |[a,b]=>match kD esz (ids.zip obs) a with
   |some (xs,kill)=>match elems esz (ids.zip obs) b with
    |some ys=>
     bif kill.isEmpty&&ys.isEmpty&&!xs.isEmpty then val a else
     bif Nat.ble ((2*(xs.length+ys.length)+192)*bytes) 281474976710656&&Nat.ble (2*(xs.length+ys.length)+192) 9223372036854775807 then
      some (.arr (base+kk) 0 (xs.length+ys.length) esz,kill++[(base+kk,.arr (xs++ys))],[])
     else none
    |none=>none
   |none=>none
  |_=>none
def GP (os:List (Nat×Ob)):D→Option (List Da×List (Nat×Ob))
 | .sl .nil _ _=>some ([],[])
 | .arr id lo len z=>match ep os id with
  | .byt es=>bif Nat.beq z 1 then some ((es.drop lo).take len,[(id,.dead)])else none
  |_=>none
 |_=>none
def Nr (bytes:Nat)(base:Nat)(kk:Nat)(vs:List D)(ids:List Nat)(obs:List Ob):Option et:=
 match vs with
  |[a,b]=>match GP (ids.zip obs) a with
   |some (xs,kill)=>match elems 1 (ids.zip obs) b with
    |some ys=>
     bif kill.isEmpty&&ys.isEmpty&&!xs.isEmpty then none else
     bif Nat.ble ((2*(xs.length+ys.length)+192)*bytes) 281474976710656&&Nat.ble (2*(xs.length+ys.length)+192) 9223372036854775807 then
      some (.arr (base+kk) 0 (xs.length+ys.length) 1,kill++[(base+kk,.byt (xs++ys))],[])
     else none
    |none=>none
   |none=>none
  |_=>none
def Nt (esz:Nat)(z:Da)(bytes:Nat)(base:Nat)(kk:Nat)(vs:List D)(ids:List Nat)(obs:List Ob):Option et:=
 match vs with
  |[a,.p (.int _ n)]=>match kD esz (ids.zip obs) a with
   |some (xs,kill)=>
    bif bh 0 n&&Nat.ble ((2*(xs.length+n.toNat)+192)*bytes) 281474976710656&&Nat.ble (2*(xs.length+n.toNat)+192) 9223372036854775807 then
     bif kill.isEmpty&&eqI n 0&&!xs.isEmpty then val a else
     some (.arr (base+kk) 0 (xs.length+n.toNat) esz,kill++[(base+kk,.arr (xs++List.replicate n.toNat z))],[])
    else none
   |none=>none
  |_=>none
def ng (t:Nat)(z:D)(ok:Bool)(vs:List D):Option et:=
 match vs with
  |[.p (.iface t' x)]=>bif Nat.beq t t' then val (bif ok then .tup [.p x,.p (.bool true)]else .p x)else bif ok then val (.tup [z,.p (.bool false)])else none
  |[.iface t' d]=>bif Nat.beq t t' then val (bif ok then .tup [d,.p (.bool true)]else d)else bif ok then val (.tup [z,.p (.bool false)])else none
  |_=>none
def NB (base:Nat)(kk:Nat)(vs:List D)(ids:List Nat)(obs:List Ob):Option et:=
 match vs with
  |[.iface t (.map id)]=>match ep (ids.zip obs) id with
   | .map ks ws=>some (.iface t (.map (base+kk)),[(base+kk,.map ks ws)],[])
   | .fzm ks ws=>some (.iface t (.map (base+kk)),[(base+kk,.map ks ws)],[])
   |_=>none
  |[.p (.iface t (.map ks ws))]=>some (.iface t (.map (base+kk)),[(base+kk,.map ks ws)],[])
  |_=>none
def Kl (vs:List D)(ids:List Nat)(obs:List Ob):Option et:=
 match vs with
  |[d]=>match elems 1 (ids.zip obs) d with
   |some es=>match eS es with
    |some s=>val (.p (.str s))
    |none=>none
   |none=>none
  |_=>none
def NC (vs:List D):Option et:=
 match vs with
  |[.p (.str s)]=>val (.p (.slice 1 (s.map fun b=> .int .u8 (Int.ofNat b))))
  |_=>none
def Vh (vs:List D):Option et:=
 match vs with|[x,y]=>jB (HP x y)|_=>none
def Vj (vs:List D)(obs:List Ob):Option et:=
 match vs with
  |[.box id off]=>match obs with
   |[.box cs]=>bif Nat.beq off 0&&b3 cs then val (.box id off)else none
   |_=>none
  |_=>none
def BN (vs:List D):Option et:=
 match vs with
  |[.arr id lo len _]=>bif Nat.beq len 0 then none else val (.el id lo 0)
  |_=>none
def ND (vs:List D)(ids:List Nat)(obs:List Ob):Option et:=
 match vs with
  |[.el id i off,.p (.int k n)]=>match ep (ids.zip obs) id with
   | .byt es=>bif Nat.beq off 0&&((bh 1 n&&bh n 9223372036854775807)&&Nat.ble (i+n.toNat) es.length)then
     if k= .i64 then match eS ((es.drop i).take n.toNat)with
      |some s=>some (.p (.str s),[(id,.dead)],[])
      |none=>none
     else none
    else none
   |_=>none
  |_=>none
def k8 (call:aG)(base:Nat)(o:O)(kk:Nat)(vs:List D)(ids:List Nat)(obs:List Ob)(len:Nat):Option et:=
 match o with
 | .mv=>WZ vs
 | .pick=>zR vs
 | .alloc zs=>GJ zs base kk
 | .box n=>Nu n base kk vs
 | .build zs ps=>pD zs ps vs
 | .bsl esz z n ps=>Km esz z n ps vs ids obs
 | .bsle esz z n ps=>Nw esz z n ps vs ids obs
 | .bslm esz z n ps=>Ny esz z n ps base kk vs ids obs
 | .load n agg=>fK n agg vs obs
 | .store n=>lM n vs ids obs
 | .nilck=>pE vs
 | .bin op=>zh op vs
 | .binB op=>Iw op vs
 | .binN kd op=>Iy kd op vs
 | .binS ks op=>wP ks op vs
 | .un op=>Xf op vs
 | .conv k=>Iz k vs
 | .same=>IB vs
 | .mkif t=>DP t vs
 | .mkfn f=>DO f vs
 | .mkmap=>GM base kk
 | .mksl esz z bytes=>DQ esz z bytes base kk vs
 | .slStr lo hi=>lL lo hi vs
 | .slSl esz lo hi mx=>hE esz lo hi mx vs ids obs
 | .fa off=>Vg off vs
 | .fld off n agg=>DK off n agg vs
 | .ia esz=>IA esz vs
 | .iaa n esz=>DL n esz vs
 | .ix=>RQ vs
 | .ixa n esz agg=>GL n esz agg vs
 | .lkp kt z ok=>BM kt z ok vs ids obs
 | .mupd kt=>tO kt vs ids obs
 | .cpy esz=>Vf esz vs ids obs
 | .clr esz z=>Ve esz z vs ids obs
 | .slX esz lo=>Vi esz lo vs ids obs
 | .slck lo hi=>IC lo hi vs
 | .slW esz lo hi=>Ko esz lo hi vs
 | .appI esz=>Ns esz vs ids obs
 | .ext i=>GK i vs
 | .call f raw=>eg call f (bif raw then vs else vs.map norm) ids obs len
 | .callv=>Nz call vs ids obs len
 | .len kd=>Kn kd vs ids obs
 | .cap=>NA vs
 | .min2=>DN vs
 | .max2=>DM vs
 | .app esz bytes=>pC esz bytes base kk vs ids obs
 | .appm esz z bytes=>Nt esz z bytes base kk vs ids obs
 | .assertT t z ok=>ng t z ok vs
 | .clone=>NB base kk vs ids obs
 | .b2s=>Kl vs ids obs
 | .uns=>Vj vs obs
 | .pne=>Vh vs
 | .appB bytes=>Nr bytes base kk vs ids obs
 | .sdata=>BN vs
 | .ustr=>ND vs ids obs
 | .pan=>none
 | .s2b=>NC vs
def grow (hp:List Ob):List Ob→List Ob
 |[]=>hp
 |o::r=>hp++(o::r)
def K0:List (Int×Int×Int)→List (Int×Int×Int)→Bool
 |[],[]=>true
 |(a,l,h)::r,(b,m,i)::s=>eqI a b&&(eqI l m&&(eqI h i&&K0 r s))
 |_,_=>false
def V6:Sy→Sy→Bool
 | .lin c ks,.lin d js=>eqI c d&&K0 ks js
 | .rng a b,.rng c d=>eqI a c&&eqI b d
 |_,_=>false
mutual
def B3:Da→Da→Bool
 | .bool a,.bool b=>a==b
 | .int i a,.int j b=>decide (i=j)&&eqI a b
 | .str a,.str b=>cp a b
 | .agg a,.agg b=>lR a b
 | .slice z a,.slice y b=>Nat.beq z y&&lR a b
 | .nilptr,.nilptr=>true
 | .ptr a,.ptr b=>B3 a b
 | .map a b,.map c d=>lR a c&&lR b d
 | .nilmap,.nilmap=>true
 | .fn f a,.fn g b=>Nat.beq f g&&lR a b
 | .nilfn,.nilfn=>true
 | .sym i a,.sym j b=>decide (i=j)&&V6 a b
 |_,_=>false
def lR:List Da→List Da→Bool
 |[],[]=>true
 |a::r,b::s=>B3 a b&&lR r s
 |_,_=>false
end
mutual
def G7:D→D→Bool
 | .p a,.p b=>B3 a b
 | .agg a,.agg b=>B4 a b
 | .box i o,.box j p=>Nat.beq i j&&Nat.beq o p
 | .arr i a b c,.arr j d e f=>Nat.beq i j&&(Nat.beq a d&&(Nat.beq b e&&Nat.beq c f))
 | .sl .nil z a,.sl .nil y b=>Nat.beq z y&&lR a b
 | .sl .exact z a,.sl .exact y b=>Nat.beq z y&&lR a b
 | .map i,.map j=>Nat.beq i j
 | .fn f a,.fn g b=>Nat.beq f g&&B4 a b
 |_,_=>false
def B4:List D→List D→Bool
 |[],[]=>true
 |a::r,b::s=>G7 a b&&B4 r s
 |_,_=>false
end
def Ha:Ob→Ob→Bool
 | .box a,.box b=>B4 a b
 | .arr a,.arr b=>lR a b
 | .fz a,.fz b=>lR a b
 | .map a b,.map c d=>lR a c&&lR b d
 | .fzm a b,.fzm c d=>lR a c&&lR b d
 | .mapd a b,.mapd c d=>lR a c&&B4 b d
 |_,_=>false
def ub (i:Nat):List Nat→Bool
 |[]=>false
 |j::r=>bif Nat.beq j i then true else ub i r
def jW (ids:List Nat)(hp:List Ob):List (Nat×Ob)→List Nat
 |[]=>[]
 |(i,o)::r=>bif ub i ids&&Ha (aP hp i) o then jW ids hp r else i::jW ids hp r
structure dC where
 rs:List Nat
 ws:List Nat
 grow:Bool
 lim:Nat
def cr:O→Bool
 | .alloc _=>true
 | .box _=>true
 | .mkmap=>true
 | .mksl _ _ _=>true
 | .bslm _ _ _ _=>true
 | .app _ _=>true
 | .appm _ _ _=>true
 | .appB _=>true
 | .clone=>true
 |_=>false
def cf:Ob→Bool
 | .unborn=>true
 |_=>false
class Mv where
 mv:Nat→Bool
instance mvNone:Mv:=⟨fun _=>false⟩
def jk:List Nat→List Nat→List Nat
 |[],acc=>acc
 |i::r,acc=>bif acc.contains i then jk r acc else jk r (acc++[i])
def pR [Mv](f:Nat)(ws:List Nat)(hp:List Ob):List Nat:=
 bif Mv.mv f then close hp aX ((jk ws []).flatMap fun i=>hO (aP hp i)) (jk ws [])else close hp aX ws []
def em [Mv](f:Nat)(ds:List D)(n:Nat):Nat:=bif Mv.mv f then min (jk (dids.didsL ds) []).length n else n
def iF (call:aG)(f:Nat)(args:List D)(m:Nat)(ids:List Nat)(obs:List Ob)(len:Nat):Option et:=
 match call f (mapD.mapDL (idx ids) args) (obs.map (bL (idx ids)))with
 |none=>none
 |some (r,out)=>
  bif Nat.ble m out.length then
   let σ:=back m len ids out.length
   let out':=out.map (bL σ)
   some (mapD σ r,(ids.take m).zip out'++(ids.drop m).map (fun i=>(i,.dead)),out'.drop m)
  else none
def nk [Mv](call:aG)(f:Nat)(args:List D)(ids:List Nat)(obs:List Ob)(len:Nat):Option et:=
 bif Mv.mv f then iF call f args (em f (mapD.mapDL (idx ids) args) ids.length) ids obs len else eg call f args ids obs len
def wY [Mv](call:aG)(vs:List D)(ids:List Nat)(obs:List Ob)(len:Nat):Option et:=
 match vs with
  | .p (.fn f caps)::args=>bif Mv.mv (Dd f)then none else eg call (Dd f) (jm f (caps.map .p) (args.map norm)) ids obs len
  | .fn f caps::args=>nk call (Dd f) (jm f caps (args.map norm)) ids obs len
  |_=>none
def oK [Mv](vs:List D)(hp:List Ob):List Nat:=
 match vs with
 | .fn f caps::args=>bif Mv.mv (Dd f)then pR (Dd f) (dids.didsL (jm f caps (args.map norm))) hp else bj .callv vs hp
 |_=>bj .callv vs hp
def cH [Mv](o:O)(vs:List D)(hp:List Ob):List Nat:=
 match o with
 | .call f _=>pR f (dids.didsL vs) hp
 | .callv=>oK vs hp
 |o=>bj o vs hp
def sD [Mv](call:aG)(base:Nat)(o:O)(kk:Nat)(vs:List D)(ids:List Nat)(obs:List Ob)(len:Nat):Option et:=
 match o with
 | .call f raw=>nk call f (bif raw then vs else vs.map norm) ids obs len
 | .callv=>wY call vs ids obs len
 |o=>k8 call base o kk vs ids obs len
theorem Wm (f:Nat)(ds:List D)(n:Nat):em f ds n=n:=rfl
theorem Wv (vs:List D)(hp:List Ob):oK vs hp=bj .callv vs hp:=by
 unfold oK;split<;>rfl
theorem Ql (o:O)(vs:List D)(hp:List Ob):cH o vs hp=bj o vs hp:=by
 cases o<;>first|rfl|exact Wv vs hp
theorem Uc (call:aG)(base:Nat)(o:O)(kk:Nat)(vs:List D)(ids:List Nat)(obs:List Ob)(len:Nat):sD call base o kk vs ids obs len=k8 call base o kk vs ids obs len:=by
 cases o<;>rfl
def ox [Mv](call:aG)(base:Nat)(x:dU)(st:St):Option (St×dC):=
 let vs:=x.as.map (ev st.tm)
 let ids:=cH x.op vs st.hp
 bif !(cr x.op)||cf (aP st.hp (base+x.k))then
  match sD call base x.op x.k vs ids (ids.map (aP st.hp)) st.hp.length with
  |none=>none
  |some (v,ups,new)=>some (⟨put x.dst v st.tm,grow (ao st.hp ups) new⟩,⟨bif cr x.op then(base+x.k)::ids else ids,jW ids st.hp ups,!new.isEmpty,st.hp.length⟩)
 else none
def cK (x:dU)(tm:Tm):Option Bool:=
 match x.gd with
 |none=>some true
 |some (g,want)=>match get tm g with
  | .p (.bool b)=>some (b==want)
  | .tup []=>some false
  |_=>none
def jN [Mv](call:aG)(base:Nat):List dU→St→Option St
 |[],st=>some st
 |x::r,st=>match cK x st.tm with
  |none=>none
  |some true=>match ox call base x st with
   |none=>none
   |some (st',_)=>jN call base r st'
  |some false=>jN call base r ⟨put x.dst (.tup []) st.tm,st.hp⟩
def dw [Mv](call:aG)(base:Nat):List dU→St→List dC→Option (St×List dC)
 |[],st,fs=>some (st,fs.reverse)
 |x::r,st,fs=>match cK x st.tm with
  |none=>none
  |some true=>match ox call base x st with
   |none=>none
   |some (st',f)=>dw call base r st' (f::fs)
  |some false=>dw call base r ⟨put x.dst (.tup []) st.tm,st.hp⟩ (⟨[],[],false,0⟩::fs)
def wr (a:dC)(i:Nat):Bool:=a.ws.contains i||(a.grow&&Nat.ble a.lim i)
def jK (a b:dC):Bool:=
 b.rs.all (fun i=>!wr a i)&&b.ws.all (fun i=>!wr a i)&&a.rs.all (fun i=>!wr b i)&&a.ws.all (fun i=>!wr b i)&&!(a.grow&&b.grow)
def eB (fs:List dC):List (Nat×Nat)→Bool
 |[]=>true
 |(i,j)::r=>match fs[i]?,fs[j]? with
  |some a,some b=>jK a b&&eB fs r
  |_,_=>false
def qW [Mv](call:aG)(nal:Nat)(ops:List dU)(prs:Option (List (Nat×Nat)))(st:St):Option St:=
 let st':St:=⟨st.tm,grow st.hp (List.replicate nal .unborn)⟩
 match prs with
 |none=>jN call st.hp.length ops st'
 |some ps=>match dw call st.hp.length ops st' []with
  |some (st'',fs)=>bif eB fs ps then some st'' else none
  |none=>none
def bB (ids:List Nat)(hp:List Ob):List Ob:=ids.map fun i=>bL (idx ids) (aP hp i)
def LE:D→Bool
 | .sl .nil _ _=>true
 | .sl .exact _ []=>true
 |_=>false
def eh (out:List Nat)(f:D→D)(tm:Tm):Tm:=
 match out with
 |[]=> .nil
 |s::r=> .cons s (f (get tm s)) (eh r f tm)
def Yl (st:St)(s off:Nat):D:=bif Nat.ble 1000 off then(match get st.tm s with
 | .box id o=>(match aP st.hp id with
  | .box cs=>cs.getD o .junk
  |_=> .junk)
 |_=> .junk)else get st.tm s
def La (off:Nat):Nat:=bif Nat.ble 1000 off then off - 1000 else off
def jD (m:Nat)(g:Gh)(st:St):Option St:=
 match g with
 | .own s z=>bif LE (get st.tm s)then some ⟨.cons s (.arr st.hp.length 0 0 z) st.tm,st.hp++[.arr []]⟩else some st
 | .ownc s off z=>match Yl st s off with
  | .box id o=>match aP st.hp id with
   | .box cs=>match cs[o+La off]? with
    |some d=>bif LE d then some ⟨st.tm,rG st.hp id (.box (cs.set (o+La off) (.arr st.hp.length 0 0 z)))++[.arr []]⟩else some st
    |none=>none
   |_=>none
  |_=>none
 | .frz s=>
  let d:=get st.tm s
  let os:=(dids d).map fun i=>(i,aP st.hp i)
  match pur os d with
  |some x=>some ⟨.cons s (.p x) st.tm,ao st.hp (cG os)⟩
  |none=>none
 | .frzc s off=>match Yl st s off with
  | .box id o=>match aP st.hp id with
   | .box cs=>match cs[o+La off]? with
    |some d=>bif(dids d).contains id then none else
     match pur ((dids d).map fun i=>(i,aP st.hp i)) d with
     |some x=>bif b3 (cs.set (o+La off) (.p x))&&!b3 cs then none else some ⟨st.tm,rG (ao st.hp (cG ((dids d).map fun i=>(i,aP st.hp i)))) id (.box (cs.set (o+La off) (.p x)))⟩
     |none=>none
    |none=>none
   |_=>none
  |_=>none
 | .keep live=>
  let ids:=close st.hp aX (dids.didsL (live.map (get st.tm))++(st.hp.take m).flatMap hO) (List.range m)
  some ⟨eh live (mapD (idx ids)) st.tm,bB ids st.hp⟩
inductive Ex where
 |norm
 |exit (id:Nat)
 |ret
def sX (m:Nat)(body:St→Option (Ex×St))(live:List Nat):Nat→St→Option (Ex×St)
 |0,_=>none
 |n+1,st=>match jD m (.keep live) st with
  |none=>none
  |some st=>match body st with
   |some (.norm,st')=>sX m body live n st'
   |r=>r
def ce [Mv](call:aG)(aO m:Nat):Co→St→Option (Ex×St)
 | .skip,st=>some (.norm,st)
 | .reg nal ops prs out,st=>match qW call nal ops prs st with
  |some st'=>some (.norm,⟨eh out id st'.tm,st'.hp⟩)
  |none=>none
 | .seq a b,st=>match ce call aO m a st with
  |some (.norm,st')=>ce call aO m b st'
  |r=>r
 | .cond c t e,st=>match ev st.tm c with
  | .p (.bool b)=>match b with
   |true=>ce call aO m t st
   |false=>ce call aO m e st
  |_=>none
 | .block id b,st=>match ce call aO m b st with
  |some (.exit i,st')=>bif Nat.beq i id then some (.norm,st')else some (.exit i,st')
  |r=>r
 | .loop live b,st=>sX m (ce call aO m b) live aO st
 | .exit id,st=>some (.exit id,st)
 | .ret,st=>some (.ret,st)
 | .gh g c,st=>match jD m g st with
  |some st'=>ce call aO m c st'
  |none=>none
def Eo (st:St):Rv→Option D
 | .t n=>some (get st.tm n)
 | .cell a n agg=>match get st.tm a with
  | .box id off=>match aP st.hp id with
   | .box cs=>match sub cs off n with
    |some ds=>dz agg ds
    |none=>none
   |_=>none
  |_=>none
def jl (st:St):List Rv→Option (List D)
 |[]=>some []
 |r::rs=>match Eo st r with
  |some d=>match jl st rs with
   |some ds=>some (d::ds)
   |none=>none
  |none=>none
def oy (hp:List Ob):List D→List D×List Ob
 |[]=>([],hp)
 |d::ds=>
  let os:=(dids d).map fun i=>(i,aP hp i)
  match pur os d with
  |some x=>let (r,hp'):=oy (ao hp (cG os)) ds;(.p x::r,hp')
  |none=>let (r,hp'):=oy hp ds;(norm d::r,hp')
def one:List D→D
 |[d]=>d
 |ds=> .tup ds
def dZ:List D→Nat→Tm
 |[],_=> .nil
 |d::r,n=> .cons n d (dZ r (n+1))
def ij (m:Nat)(fz:Bool)(ds:List D)(hp:List Ob):D×List Ob:=
 let (ds,hp):=bif fz then oy hp ds else(ds,hp)
 let ids:=close hp aX (dids.didsL ds++(hp.take m).flatMap hO) (List.range m)
 (mapD (idx ids) (one ds),bB ids hp)
def nN [Mv](m:Nat)(call:aG)(aO:Nat)(x:Fx)(args:List D)(hp:List Ob):Option (D×List Ob):=
 match ce call aO m x.body ⟨dZ args 0,hp⟩with
 |some (.norm,st)=>match jl st x.res with
  |some ds=>some (ij m x.fz ds st.hp)
  |none=>none
 |some (.ret,st)=>match jl st x.res with
  |some ds=>some (ij m x.fz ds st.hp)
  |none=>none
 |_=>none
abbrev UI [Mv](call:aG)(aO:Nat)(x:Fx)(args:List D)(hp:List Ob):Option (D×List Ob):=nN hp.length call aO x args hp
inductive Fn where
 |code (x:Fx)
 |prim (g:List Da→Option (D×List Ob))
 |both (g:List Da→Option (D×List Ob)) (x:Fx)
 |any (g:List D→List Ob→Option (D×List Ob))
def evFn [Mv](tab:Nat→Option Fn):Nat→aG
 |0,_,_,_=>none
 |n+1,f,args,hp=>match tab f with
  |some (.code x)=>nN (em f args hp.length) (evFn tab n) n x args hp
  |some (.prim g)=>match gp args with
   |some xs=>match hp with
    |[]=>g xs
    |_=>none
   |none=>none
  |some (.both g x)=>match gp args with
   |some xs=>match hp with
    |[]=>g xs
    |_=>nN (em f args hp.length) (evFn tab n) n x args hp
   |none=>nN (em f args hp.length) (evFn tab n) n x args hp
  |some (.any g)=>g args hp
  |none=>none
end Go.Ab
end
section
namespace Go.Ab
open Go
def cM:Value→Option Da
 | .bool b=>some (.bool b)
 | .int k n=>some (.int k n)
 | .string s=>some (.str (s.data.toList.map UInt8.toNat))
 | .pointer none=>some .nilptr
 | .map none=>some .nilmap
 | .nilFunc=>some .nilfn
 | .nilIface=>some .nilif
 |_=>none
abbrev bF:=Nat→Option Da
def und (P:Program)(t:TypeId):TypeDesc:=(P.underlying t).getD .invalid
def Po (P:Program)(t:TypeId):Nat:=
 match und P t with
 | .slice e=>P.cellsOf e
 |_=>0
def cA (P:Program)(G:bF)(t:TypeId):Operand→Option A
 | .tmp n=>some (.t n)
 | .const v=>match v with
  | .slice none 0 0=>some (.n (Po P t))
  |v=>(cM v).map .c
 | .func f=>bif Nat.blt f 1000000 then some (.f f)else none
 | .global g=>(G g).map .g
def mz (P:Program)(G:bF):List TypeId→List Operand→Option (List A)
 |_,[]=>some []
 |ts,x::r=>match cA P G (ts.headD 0) x with
  |some a=>match mz P G ts.tail r with
   |some as=>some (a::as)
   |none=>none
  |none=>none
def Ur (z:Nat):Value→Option D
 | .slice none 0 0=>some (.sl .nil z [])
 |v=>(cM v).map .p
def w9:List Nat→List Value→Option (List D)
 |_,[]=>some []
 |zs,v::r=>match Ur (zs.headD 0) v with
  |some x=>match w9 zs.tail r with
   |some xs=>some (x::xs)
   |none=>none
  |none=>none
def OD (P:Program):Nat→TypeId→List Nat
 |0,_=>[]
 |n+1,t=>match und P t with
  | .struct fs=>fs.toList.flatMap fun f=>OD P n f.type
  | .array k e=>(List.replicate k (OD P n e)).flatten
  | .slice e=>[P.cellsOf e]
  |_=>[0]
structure Ty where
 size:Nat
 agg:Bool
 desc:TypeDesc
 bytes:Nat
def Hl:TypeDesc→Bool
 | .struct _=>true
 | .array _ _=>true
 |_=>false
def ty (P:Program)(t:TypeId):Option Ty:=
 match P.info? t,P.underlying t with
 |some i,some d=>bif Nat.blt 0 i.size then some ⟨i.size,Hl d,d,i.bytes⟩else none
 |_,_=>none
def T7 (z:Value)(y:Ty):Bool:=
 match z with
 | .agg _=>y.agg
 |_=>!y.agg
def im (P:Program)(t:TypeId):Option (List D):=
 match P.info? t,ty P t with
 |some i,some y=>match i.zero with
  |some z=>bif Nat.beq z.cells.size y.size&&T7 z y then w9 (OD P 12 t) z.cells.toList else none
  |none=>none
 |_,_=>none
def uC (P:Program)(t:TypeId):Option D:=
 match im P t,ty P t with
 |some ds,some y=>dz y.agg ds
 |_,_=>none
def gP (P:Program)(t:TypeId):Option Da:=
 match uC P t with
 |some d=>pur [] d
 |none=>none
def dA:TypeDesc→Bool
 | .int _=>true
 | .string=>true
 |_=>false
def gI:Operand→Bool
 | .const _=>true
 |_=>false
def XC:BinOp→Bool
 | .eql=>true
 | .neq=>true
 |_=>false
def nl (P:Program)(t:TypeId):Option Nat:=
 match ty P t with
 |some _=>match und P t with
  | .int _=>some 0
  | .string=>some 1
  | .bool=>some 2
  |_=>none
 |none=>none
def pN (P:Program):List Field→Nat→Option (List Nat)
 |[],_=>some []
 |f::r,n=>match nl P f.type with
  | some k => bif Nat.beq f.offset n && !(f.name == "_") then (match pN P r (n + 1) with
   |some ks=>some (k::ks)
   |none=>none)else none
  |none=>none
def Js (P:Program)(op:BinOp)(e:TypeId):Bool:=
 match op with
 | .neq=>(P.info? e).isSome
 |_=>false
def NW (P:Program)(op:BinOp)(t:TypeId)(x y:Operand):Option O:=
 bif XC op then
  match und P t with
  | .int _=>some (.bin op)
  | .string=>some (.bin op)
  | .bool=>some (.binB op)
  | .pointer e=>some (bif Js P op e then .pne else .binN 0 op)
  | .slice _=>some (.binN 1 op)
  | .map _ _=>some (.binN 2 op)
  | .func _ _ _=>some (.binN 3 op)
  | .interface _=>bif gI x||gI y then some (.binN 4 op)else none
  | .struct fs=>match pN P fs.toList 0 with
   |some ks=>bif !P.stoodInHeld t&&!P.eqGuardType P.depth t then some (.binS ks op)else none
   |none=>none
  |_=>none
 else match und P t with
  | .int _=>some (.bin op)
  | .string=>some (.bin op)
  |_=>none
def qJ (P:Program)(s d:TypeId):Option O:=
 match und P s,und P d with
 | .int _,.int k=>some (.conv k)
 | .string,.string=>some .same
 | .slice e,.string=>match und P e with
  | .int .u8=>some .b2s
  |_=>none
 | .string,.slice e=>match und P e with
  | .int .u8=>some .s2b
  |_=>none
 | .pointer t,.unsafePointer=>match P.info? t with
  |some j=>bif Nat.beq j.size 0 then none else some .uns
  |none=>none
 | .unsafePointer,.pointer u=>match P.info? u with
  |some _=>bif liesAt P P.depth zW (3 / P.cellsOf zW) 0 u 1 then some .uns else none
  |none=>none
 |_,_=>none
def sH (P:Program)(t:TypeId):List Nat→Option (List (Nat×Nat))
 |[]=>some []
 |i::r=>
  match (match und P t with
   | .struct fs=>match fs[i]? with
    |some f=>match ty P f.type with
     |some y=>some (f.offset,y.size)
     |none=>none
    |none=>none
   | .array _ e=>match ty P e with
    |some y=>some (i*y.size,y.size)
    |none=>none
   |_=>none)with
  |some x=>match sH P t r with
   |some xs=>some (x::xs)
   |none=>none
  |none=>none
def pZ (a b c:Option Operand):List Operand:=a.toList++b.toList++c.toList
def ni (P:Program)(G:bF)(raw:Nat→Bool)(c:Call):Option (O×List A):=
 let as:=mz P G c.argTypes.toList c.args.toList
 match c.callee with
 | .value (.func f)=>match P.funcs[f]?,as with
  |some fn,some as=>
   match fn.body with
   |some _=>some (.call f (raw f),as)
   | none => bif fn.name == "maps.clone" && (Extern.findNext fn).isNone then some (.clone, as) else bif fn.name == "internal/abi.NoEscape" && (Extern.findNext fn).isNone then some (.mv, as) else none
  |_,_=>none
 | .value g=>match cA P G 0 g,as with
  |some g,some as=>some (.callv,g::as)
  |_,_=>none
 | .builtin b=>match as with
  |some as=>match b with
   | .len=>match c.argTypes[0]? with
    |some t=>match und P t with
     | .string=>some (.len 0,as)
     | .slice _=>some (.len 1,as)
     | .map _ _=>some (.len 2,as)
     |_=>none
    |none=>none
   | .cap=>match c.argTypes[0]? with
    |some t=>match und P t with
     | .slice _=>some (.cap,as)
     |_=>none
    |none=>none
   | .append=>match c.argTypes[0]?,c.argTypes[1]? with
    |some t,some u=>match und P t,und P u with
     | .slice e,.slice _=>match ty P e,im P e with
      |some y,some _=>some (bif raw 6000000&&(Nat.beq e FZ&&Nat.beq y.size 1)then .appB y.bytes else bif raw 3000000 then .appI y.size else .app y.size y.bytes,as)
      |_,_=>none
     | .slice e,.string=>match ty P e,im P e with
      |some y,some _=>some (bif raw 6000000&&(Nat.beq e FZ&&Nat.beq y.size 1)then .appB y.bytes else .app y.size y.bytes,as)
      |_,_=>none
     | .slice e,.int .i64=>match gP P e,ty P e with
      |some z,some y=>some (.appm y.size z y.bytes,as)
      |_,_=>none
     |_,_=>none
    |_,_=>none
   | .copy=>match c.argTypes[0]? with
    |some t=>match und P t with
     | .slice e=>match ty P e with
      |some y=>some (.cpy y.size,as)
      |none=>none
     |_=>none
    |none=>none
   | .clear=>match c.argTypes[0]? with
    |some t=>match und P t with
     | .slice e=>match gP P e,ty P e with
      |some z,some y=>some (.clr y.size z,as)
      |_,_=>none
     |_=>none
    |none=>none
   | .min=>match as with|[_,_]=>some (.min2,as)|_=>none
   | .unsafeSliceData=>some (.sdata,as)
   | .unsafeString=>match c.argTypes.toList with
    |[pt,_]=>match und P pt with
     | .pointer e=>bif Nat.beq e FZ&&Nat.beq (P.cellsOf FZ) 1 then some (.ustr,as)else none
     |_=>none
    |_=>none
   | .max=>match as with|[_,_]=>some (.max2,as)|_=>none
   |_=>none
  |none=>none
 | .invoke _ _=>none
def two (o:O):Option A→Option A→Option (O×List A)
 |some a,some b=>some (o,[a,b])
 |_,_=>none
def oB (o:O):Option A→Option (O×List A)
 |some a=>some (o,[a])
 |none=>none
def vf (P:Program)(t:TypeId):Bool:=
 match und P t with
 | .struct fs=>fs.toList.all fun f=>(P.info? f.type).isSome
 | .array _ e=>(P.info? e).isSome
 |_=>false
def LP (P:Program)(t:TypeId)(is:List Nat):List TypeId:=
 is.map fun i=>match und P t with
  | .struct fs=>match fs[i]? with
   |some f=>f.type
   |none=>0
  | .array _ e=>e
  |_=>0
def NY (P:Program)(G:bF)(raw:Nat→Bool)(o:Oper):Option (O×List A):=
 match o.op with
 | .move x=>oB .mv (cA P G o.type x)
 | .assign x=>oB .mv (cA P G o.type x)
 | .pick c a b=>match cA P G 0 c,cA P G o.type a,cA P G o.type b with
  |some c,some a,some b=>some (.pick,[c,a,b])
  |_,_,_=>none
 | .alloc t=>match im P t with
  |some zs=>bif b3 zs&&!Nat.beq t zW then none else some (.alloc zs,[])
  |none=>none
 | .box t x=>match ty P t with
  |some y=>bif Nat.beq y.size 1000003 then none else oB (.box (bif Nat.beq t zW then 1000003 else y.size)) (cA P G t x)
  |none=>none
 | .build t parts=>match im P t,sH P t (parts.toList.map (·.1)),mz P G (LP P t (parts.toList.map (·.1))) (parts.toList.map (·.2)),ty P t with
  |some zs,some ps,some as,some y=>bif y.agg&&vf P t then some (.build zs ps,as)else none
  |_,_,_,_=>none
 | .buildSlice t n parts=>match und P t with
  | .slice e=>match gP P e,ty P e,mz P G (List.replicate parts.size e) (parts.toList.map (·.2))with
   |some z,some y,some as=>bif Nat.ble (n*y.size) 16777216 then some (bif raw (1000000+t)then .bslm y.size z n (parts.toList.map (·.1))else bif raw (2000000+t)then .bsle y.size z n (parts.toList.map (·.1))else .bsl y.size z n (parts.toList.map (·.1)),as)else none
   |_,_,_=>none
  |_=>none
 | .load t x=>match ty P t with
  |some y=>oB (.load y.size y.agg) (cA P G 0 x)
  |none=>none
 | .store t a x=>match ty P t with
  |some y=>two (.store y.size) (cA P G 0 a) (cA P G t x)
  |none=>none
 | .nilCheck x=>oB .nilck (cA P G 0 x)
 | .binOp op t x y _=>match NW P op t x y with
  |some o=>two o (cA P G t x) (cA P G t y)
  |none=>none
 | .unOp op _ x=>match op with
  | .neg=>oB (.un .neg) (cA P G 0 x)
  | .not=>oB (.un .not) (cA P G 0 x)
  |_=>none
 | .convert s d x=>match qJ P s d with
  |some o=>oB o (cA P G s x)
  |none=>none
 | .makeInterface t x=>match und P t with
  | .interface _=>none
  | .invalid=>none
  |_=>oB (.mkif t) (cA P G t x)
 | .makeFunc (.func f) first captured=>bif Nat.blt f 1000000 then
   match mz P G [] (first.toList++captured.toList)with
   |some as=>some (.mkfn (f+1000000*first.size),as)
   |none=>none
  else none
 | .makeMap t r=>match r with
  |none=>some (.mkmap,[])
  |some (.const (.int _ _))=>match und P t with
   | .map _ _=>some (.mkmap,[])
   |_=>none
  |_=>none
 | .makeSlice t l c=>match und P t with
  | .slice e=>match gP P e,ty P e with
   |some z,some y=>two (.mksl y.size z y.bytes) (cA P G 0 l) (cA P G 0 c)
   |_,_=>none
  |_=>none
 | .slice t x lo hi mx=>match cA P G t x,mz P G [] (pZ lo hi mx)with
  |some x,some as=>match und P t with
   | .string=>bif mx.isSome then none else some (.slStr lo.isSome hi.isSome,x::as)
   | .slice e=>match ty P e with
    |some y=>some (bif raw 5000000&&!mx.isSome then .slW y.size lo.isSome hi.isSome else bif raw 3000000&&(hi.isSome&&!mx.isSome)then .slX y.size lo.isSome else bif raw 3000000&&mx.isSome then .slck lo.isSome hi.isSome else .slSl y.size lo.isSome hi.isSome mx.isSome,x::as)
    |none=>none
   |_=>none
  |_,_=>none
 | .fieldAddr s x i=>match und P s with
  | .struct fs=>match fs[i]? with
   |some f=>match ty P f.type with
    |some _=>oB (.fa f.offset) (cA P G 0 x)
    |none=>none
   |none=>none
  |_=>none
 | .field s x i=>match und P s with
  | .struct fs=>match fs[i]? with
   |some f=>match ty P f.type with
    |some y=>oB (.fld f.offset y.size y.agg) (cA P G 0 x)
    |none=>none
   |none=>none
  |_=>none
 | .indexAddr t x i=>match und P t with
  | .slice e=>match ty P e with
   |some y=>two (.ia y.size) (cA P G t x) (cA P G 0 i)
   |none=>none
  | .array n e=>match ty P e with
   |some y=>two (.iaa n y.size) (cA P G 0 x) (cA P G 0 i)
   |none=>none
  |_=>none
 | .index t x i=>match und P t with
  | .string=>two .ix (cA P G 0 x) (cA P G 0 i)
  | .array n e=>match ty P e with
   |some y=>two (.ixa n y.size y.agg) (cA P G 0 x) (cA P G 0 i)
   |none=>none
  |_=>none
 | .lookup t x i ok=>match und P t with
  | .map k e=>bif dA (und P k)then
    match uC P e with
    |some z=>two (.lkp (und P k) z ok) (cA P G t x) (cA P G k i)
    |none=>none
   else none
  |_=>none
 | .mapUpdate t m k x=>match und P t with
  | .map kt e=>bif dA (und P kt)then
    match cA P G t m,cA P G kt k,cA P G e x with
    |some m,some k,some x=>some (.mupd (und P kt),[m,k,x])
    |_,_,_=>none
   else none
  |_=>none
 | .insert t m k x=>match und P t with
  | .map kt e=>bif dA (und P kt)then
    match cA P G t m,cA P G kt k,cA P G e x with
    |some m,some k,some x=>some (.mupd (und P kt),[m,k,x])
    |_,_,_=>none
   else none
  |_=>none
 | .typeAssert x _ t ok=>match und P t with
  | .interface _=>none
  | .invalid=>none
  |_=>match uC P t with
   |some z=>oB (.assertT t z ok) (cA P G 0 x)
   |none=>none
 | .extract x i=>oB (.ext i) (cA P G 0 x)
 | .panic x=>oB .pan (cA P G 0 x)
 | .call c=>ni P G raw c
 |_=>none
def Vx (P:Program)(G:bF)(raw:Nat→Bool)(o:Oper):Option (O×List A):=
 match NY P G raw o with
 |some r=>some r
 |none=>some (.pan,[])
def dn:O→Bool
 | .alloc _=>true
 | .box _=>true
 | .mkmap=>true
 | .mksl _ _ _=>true
 | .app _ _=>true
 | .appm _ _ _=>true
 | .clone=>true
 | .load _ _=>true
 | .store _=>true
 | .bsl _ _ _ _=>true
 | .bslm _ _ _ _=>true
 | .bsle _ _ _ _=>true
 | .lkp _ _ _=>true
 | .mupd _=>true
 | .cpy _=>true
 | .clr _ _=>true
 | .slX _ _=>true
 | .appI _=>true
 | .len _=>true
 | .slSl _ lo hi mx=>mx||(lo&&!hi)
 | .call _ _=>true
 | .callv=>true
 | .b2s=>true
 | .uns=>true
 | .ustr=>true
 | .appB _=>true
 |_=>false
def BT (ops:List Oper):Option (Nat×Bool)→Option (Option (Nat×Bool))
 |none=>some none
 |some (j,want)=>match ops[j]? with
  |some o=>match o.dst with
   |some d=>some (some (d,want))
   |none=>none
  |none=>none
def GY (P:Program)(G:bF)(raw:Nat→Bool)(N:Nat)(all:List Oper):List Oper→Nat→Option (List dU×Nat)
 |[],k=>some ([],k)
 |o::r,k=>match Vx P G raw o,BT all o.guard with
  |some (x,as),some gd=>
   bif(match o.dst with|some d=>Nat.blt d N|none=>true)then
    match GY P G raw N all r (bif cr x then k+1 else k)with
    |some (xs,n)=>some (⟨o.dst,x,as,k,gd⟩::xs,n)
    |none=>none
   else none
  |_,_=>none
def gj (x:dU):List Nat:=
 (x.as.filterMap fun| .t n=>some n|_=>none)++(match x.gd with|some (g,_)=>[g]|none=>[])
def rQ (x y:dU):Bool:=
 (match x.dst with
  |some d=>!(gj y).contains d&&(match y.dst with|some e=>!Nat.beq d e|none=>true)
  |none=>true)&&
 (match y.dst with
  |some e=>!(gj x).contains e
  |none=>true)
def iz (e:Edge):Bool:=Region.binds .any e
def zi:List Oper→List (List Nat)→List (List Nat)
 |[],acc=>acc
 |o::r,acc=>
  let ds:=(o.after.toList.filter iz).map (·.on)
  zi r (acc++[(ds++ds.flatMap fun d=>acc.getD d []).eraseDups])
def gD:List Oper→Nat→Bool
 |[],_=>true
 |o::r,n=>o.after.toList.all (fun e=>!iz e||Nat.blt e.on n)&&gD r (n+1)
def vE (xs:List dU)(an:List Nat)(x:dU)(n:Nat):List Nat→Option (List (Nat×Nat))
 |[]=>some []
 |i::r=>match vE xs an x n r with
  |none=>none
  |some ps=>
   bif an.contains i then some ps
   else match xs[i]? with
    |none=>none
    |some y=>bif rQ y x then
      (bif dn y.op&&dn x.op then some ((i,n)::ps)else some ps)
     else none
def kM (xs:List dU)(an:List (List Nat)):List Nat→Option (List (Nat×Nat))
 |[]=>some []
 |n::r=>match xs[n]?,an[n]? with
  |some x,some a=>match vE xs a x n (List.range n),kM xs an r with
   |some ps,some qs=>some (ps++qs)
   |_,_=>none
  |_,_=>none
def GZ (P:Program)(G:bF)(raw:Nat→Bool)(N:Nat)(ops:List Oper)(draw:Bool):Option Co:=
 match GY P G raw N ops ops 0 with
 |none=>none
 |some (xs,k)=>
  bif draw then
   bif gD ops 0 then
    match kM xs (zi ops []) (List.range xs.length)with
    |some ps=>some (.reg k xs (some ps) [])
    |none=>none
   else none
  else some (.reg k xs none [])
def BS (P:Program)(G:bF)(raw:Nat→Bool)(N:Nat):Code→Option Co
 | .skip=>some .skip
 | .region _ ops draw=>GZ P G raw N ops.toList draw
 | .seq a b=>match BS P G raw N a,BS P G raw N b with
  |some a,some b=>some (.seq a b)
  |_,_=>none
 | .cond c t e=>match cA P G 0 c,BS P G raw N t,BS P G raw N e with
  |some c,some t,some e=>some (.cond c t e)
  |_,_,_=>none
 | .block id b=>match BS P G raw N b with
  |some b=>some (.block id b)
  |none=>none
 | .loop b=>match BS P G raw N b with
  |some b=>some (.loop [] b)
  |none=>none
 | .exit id=>some (.exit id)
 | .ret=>some .ret
 | .refuse _=>some (.reg 0 [⟨none,.pan,[],0,none⟩] none [])
 |_=>none
def er:Co→Co
 | .seq a b=> .seq (er a) (er b)
 | .cond c t e=> .cond c (er t) (er e)
 | .block id b=> .block id (er b)
 | .loop _ b=> .loop [] (er b)
 | .gh _ c=>er c
 | .reg k xs ps _=> .reg k xs ps []
 |c=>c
def Yh (P:Program):ResultVar→Option Rv
 | .tmp t=>some (.t t)
 | .cell a t=>match ty P t with
  |some y=>some (.cell a y.size y.agg)
  |none=>none
def Kz (P:Program):List ResultVar→Option (List Rv)
 |[]=>some []
 |r::rs=>match Yh P r,Kz P rs with
  |some x,some xs=>some (x::xs)
  |_,_=>none
def K4 (P:Program)(G:bF)(raw:Nat→Bool)(f:Func)(x:Fx):Prop:=
 (match f.body with|some c=>BS P G raw f.ntmps c|none=>none)=some (er x.body)∧Kz P f.results.toList=some x.res
end Go.Ab
end
section
namespace Go.Ab
open Go
def Pw {α β:Type}(R:α→β→Prop)(xs:List α)(vs:List β):Prop:=
 xs.length=vs.length∧∀(i:Nat) x v,xs[i]?=some x→vs[i]?=some v→R x v
section pw
variable {α β:Type} {R:α→β→Prop}
theorem Pw.nil:Pw R [] []:=⟨rfl,by intro i x v h;simp at h⟩
theorem Pw.cons {x:α}{v:β}{xs:List α}{vs:List β}(h:R x v)(r:Pw R xs vs):Pw R (x::xs) (v::vs):=by
 refine⟨by simp[r.1],fun i y u hy hu=>?_⟩
 cases i with
 |zero=>simp at hy hu;subst hy hu;exact h
 |succ i=>simp at hy hu;exact r.2 i y u hy hu
theorem Pw.head {x:α}{v:β}{xs:List α}{vs:List β}(h:Pw R (x::xs) (v::vs)):R x v:=h.2 0 x v rfl rfl
theorem Pw.tail {x:α}{v:β}{xs:List α}{vs:List β}(h:Pw R (x::xs) (v::vs)):Pw R xs vs:=
 ⟨by have:=h.1;simpa using this,fun i y u hy hu=>h.2 (i+1) y u (by simpa using hy) (by simpa using hu)⟩
theorem Pw.cons_inv {x:α}{xs:List α}{vs:List β}(h:Pw R (x::xs) vs):∃u us,vs=u::us∧R x u∧Pw R xs us:=by
 cases vs with
 |nil=>have:=h.1;simp at this
 |cons u us=>exact⟨u,us,rfl,h.head,h.tail⟩
theorem Pw.nil_inv {vs:List β}(h:Pw R ([]:List α) vs):vs=[]:=
 lι h.1.symm
theorem Pw.get {xs:List α}{vs:List β}(h:Pw R xs vs){i:Nat}{x:α}(hx:xs[i]?=some x):∃v,vs[i]?=some v∧R x v:=by
 have hi:i<xs.length:=by
  rcases lν i xs.length with h1|h1
  ·exact h1
  ·simp[lε h1]at hx
 have hj:i<vs.length:=h.1▸hi;exact⟨vs[i],lδ hj,h.2 i x _ hx (lδ hj)⟩
theorem Pw.get' {xs:List α}{vs:List β}(h:Pw R xs vs){i:Nat}{v:β}(hv:vs[i]?=some v):∃x,xs[i]?=some x∧R x v:=by
 have hi:i<vs.length:=by
  rcases lν i vs.length with h1|h1
  ·exact h1
  ·simp[lε h1]at hv
 have hj:i<xs.length:=h.1▸hi;exact⟨xs[i],lδ hj,h.2 i _ v (lδ hj) hv⟩
theorem Pw.mono {R':α→β→Prop}{xs:List α}{vs:List β}(h:Pw R xs vs)(hr:∀x v,R x v→R' x v):Pw R' xs vs:=
 ⟨h.1,fun i x v hx hv=>hr _ _ (h.2 i x v hx hv)⟩
theorem Pw.take {xs:List α}{vs:List β}(h:Pw R xs vs)(n:Nat):Pw R (xs.take n) (vs.take n):=by
 refine⟨by simp[h.1],fun i x v hx hv=>?_⟩
 rw[List.getElem?_take]at hx hv;split at hx
 ·rename_i hi;rw[if_pos hi]at hv;exact h.2 i x v hx hv
 ·simp at hx
theorem Pw.drop {xs:List α}{vs:List β}(h:Pw R xs vs)(n:Nat):Pw R (xs.drop n) (vs.drop n):=by
 refine⟨by simp[h.1],fun i x v hx hv=>?_⟩
 rw[List.getElem?_drop]at hx hv;exact h.2 _ x v hx hv
theorem Pw.append {xs ys:List α}{vs us:List β}(h:Pw R xs vs)(k:Pw R ys us):Pw R (xs++ys) (vs++us):=by
 refine⟨by simp[h.1,k.1],fun i x v hx hv=>?_⟩
 rcases lν i xs.length with hi|hi
 ·rw[lη hi]at hx;rw[lη (h.1▸hi)]at hv;exact h.2 i x v hx hv
 ·rw[lξ hi]at hx;rw[lξ (h.1▸hi)]at hv;rw[h.1]at hx;exact k.2 _ x v hx hv
theorem Pw.set {xs:List α}{vs:List β}(h:Pw R xs vs)(i:Nat){x:α}{v:β}(hr:R x v):Pw R (xs.set i x) (vs.set i v):=by
 refine⟨by simp[h.1],fun j y u hy hu=>?_⟩
 rw[List.getElem?_set]at hy hu;split at hy
 ·rename_i hij;rw[if_pos hij]at hu;split at hy
  ·split at hu
   ·cases hy;cases hu;exact hr
   ·simp at hu
  ·simp at hy
 ·rename_i hij;rw[if_neg hij]at hu;exact h.2 j y u hy hu
theorem Pw.replicate {x:α}{v:β}(h:R x v)(n:Nat):Pw R (List.replicate n x) (List.replicate n v):=by
 refine⟨by simp,fun i y u hy hu=>?_⟩
 rw[List.getElem?_replicate]at hy hu;split at hy
 ·rename_i hi;rw[if_pos hi]at hu;cases hy;cases hu;exact h
 ·simp at hy
theorem Pw.map_left {γ:Type}{f:γ→α}{xs:List γ}{vs:List β}(h:Pw (fun c v=>R (f c) v) xs vs):Pw R (xs.map f) vs:=by
 refine⟨by simp[h.1],fun i x v hx hv=>?_⟩
 rw[lσ]at hx;cases hc:xs[i]? with
 |none=>simp[hc]at hx
 |some c=>simp[hc]at hx;subst hx;exact h.2 i c v hc hv
theorem Pw.all_right {Q:β→Prop}{xs:List α}{vs:List β}(h:Pw R xs vs)(hq:∀(i:Nat) x v,xs[i]?=some x→R x v→Q v):∀v∈vs,Q v:=by
 intro v hv;obtain⟨i,hi⟩:=List.getElem?_of_mem hv;obtain⟨x,hx,hr⟩:=h.get' hi;exact hq i x v hx hr
end pw
inductive cb where
 |none
 |box (b:Nat)
 |arr (b o cap z n:Nat)
 |map (r:Nat)
def aW:Value→Prop
 | .agg _=>False
 | .tuple _=>False
 |_=>True
def uc (w:World)(b o:Nat)(cs:Array Value):Prop:=∀(j:Nat) c,cs[j]?=some c→w.cell? ⟨b,o+j,none⟩=some c
def rowAt (w:World)(b o z:Nat)(us:List Value):Prop:=∀(i:Nat) u,us[i]?=some u→u.cells.size=z∧uc w b (o+i*z) u.cells
def gv:BK→Option Addr→Nat→Nat→Prop
 | .exact,_,len,cap=>cap=len
 | .nil,a,_,cap=>a=none∧cap=0
 | .some,a,_,_=>a≠none
 | .na,a,_,_=>a=none
class Letters where
 ρ:Nat→Int
def fG (ρ:Nat→Int):Nat→List (Int×Int×Int)→Int
 |_,[]=>0
 |i,(a,_,_)::r=>a*ρ i+fG ρ (i+1) r
def I8 (ρ:Nat→Int):Nat→List (Int×Int×Int)→Prop
 |_,[]=>True
 |i,(_,l,h)::r=>(l≤ρ i∧ρ i≤h)∧I8 ρ (i+1) r
def SyR (ρ:Nat→Int):Sy→Int→Prop
 | .lin c ks,n=>n=c+fG ρ 0 ks∧I8 ρ 0 ks
 | .rng l h,n=>l≤n∧n≤h
variable [Letters]
mutual
def PR (w:World)(S:Nat→Prop):Da→Value→Prop
 | .bool b,v=>v= .bool b
 | .int k n,v=>v= .int k n
 | .str s,v=>∃b:ByteArray,v= .string b∧b.data.toList.map UInt8.toNat=s
 | .agg cs,v=>∃vs:Array Value,v= .agg vs∧oD w S cs vs.toList∧∀c∈vs.toList,aW c
 | .slice z es,v=>∃a cap us,v= .slice a us.length cap∧us.length≤cap∧oD w S es us∧(us≠[]→∃b o,a=some ⟨b,o,none⟩∧S b∧rowAt w b o z us)
 | .nilptr,v=>v= .pointer none
 | .ptr x,v=>∃b o u,v= .pointer (some ⟨b,o,none⟩)∧S b∧PR w S x u∧uc w b o u.cells
 | .map ks vs,v=>∃r es clock,v= .map (some r)∧S r∧w.heap[r]?=some (.map es clock)∧oD w S ks (es.toList.map (·.key))∧oD w S vs (es.toList.map (·.val))
 | .nilmap,v=>v= .map none
 | .fn f caps,v=>∃fs cs:Array Value,v= .func (.func (Dd f)) fs cs∧fs.size=Uw f∧oD w S caps (fs.toList++cs.toList)
 | .nilfn,v=>v= .nilFunc
 | .iface t x,v=>∃u,v= .iface t u∧PR w S x u
 | .nilif,v=>v= .nilIface
 | .sliceE z es,v=>(∃a cap us,v= .slice a us.length cap∧us.length≤cap∧oD w S es us∧(us≠[]→∃b o,a=some ⟨b,o,none⟩∧S b∧rowAt w b o z us))∧∃a n,v= .slice a n n
 | .sym k s,v=>∃n,v= .int k n∧SyR Letters.ρ s n
def oD (w:World)(S:Nat→Prop):List Da→List Value→Prop
 |[],vs=>vs=[]
 |x::r,vs=>∃u us,vs=u::us∧PR w S x u∧oD w S r us
end
theorem PRs_iff {w:World}{S:Nat→Prop}:∀{xs:List Da} {vs:List Value},oD w S xs vs↔Pw (PR w S) xs vs
 |[],vs=>by
  simp only[oD];exact⟨fun h=>h▸Pw.nil,fun h=>h.nil_inv⟩
 |x::r,vs=>by
  simp only[oD];constructor
  ·rintro⟨u,us,rfl,h,hr⟩
   exact Pw.cons h (PRs_iff.1 hr)
  ·intro h;obtain⟨u,us,rfl,h1,h2⟩:=h.cons_inv;exact⟨u,us,rfl,h1,PRs_iff.2 h2⟩
def dJ (S:Nat→Prop)(w w':World):Prop:=∀b,S b→w'.heap[b]?=w.heap[b]?
theorem G3 {w w':World}{b:Nat}(h:w'.heap[b]?=w.heap[b]?)(o:Nat)(s:Option Nat):w'.cell? ⟨b,o,s⟩=w.cell? ⟨b,o,s⟩:=by
 simp only[World.cell?,h]
theorem jP {w w':World}{b o:Nat}{cs:Array Value}(h:w'.heap[b]?=w.heap[b]?)(k:uc w b o cs):uc w' b o cs:=
 fun j c hc=>by rw[G3 h];exact k j c hc
theorem jT {w w':World}{b o z:Nat}{us:List Value}(h:w'.heap[b]?=w.heap[b]?)(k:rowAt w b o z us):rowAt w' b o z us:=
 fun i u hu=>⟨(k i u hu).1,jP h (k i u hu).2⟩
mutual
theorem bd {w w':World}{S S':Nat→Prop}(hs:dJ S w w')(hS:∀b,S b→S' b):∀(x:Da) {v:Value},PR w S x v→PR w' S' x v
 | .bool b,v,h=>by simpa only[PR]using h
 | .int k n,v,h=>by simpa only[PR]using h
 | .str s,v,h=>by simpa only[PR]using h
 | .agg cs,v,h=>by
  simp only[PR]at h ⊢
  obtain⟨vs,rfl,h1,h2⟩:=h;exact⟨vs,rfl,gY hs hS cs h1,h2⟩
 | .slice z es,v,h=>by
  simp only[PR]at h ⊢
  obtain⟨a,cap,us,rfl,h1,h3,h4⟩:=h;refine⟨a,cap,us,rfl,h1,gY hs hS es h3,fun hne=>?_⟩
  obtain⟨b,o,ha,hb,hr⟩:=h4 hne;exact⟨b,o,ha,hS b hb,jT (hs b hb) hr⟩
 | .nilptr,v,h=>by simpa only[PR]using h
 | .ptr x,v,h=>by
  simp only[PR]at h ⊢
  obtain⟨b,o,u,rfl,hb,hx,hh⟩:=h;exact⟨b,o,u,rfl,hS b hb,bd hs hS x hx,jP (hs b hb) hh⟩
 | .map ks vs,v,h=>by
  simp only[PR]at h ⊢
  obtain⟨r,es,clock,rfl,hr,hh,h1,h2⟩:=h;exact⟨r,es,clock,rfl,hS r hr,by rw[hs r hr];exact hh,gY hs hS ks h1,gY hs hS vs h2⟩
 | .nilmap,v,h=>by simpa only[PR]using h
 | .fn f caps,v,h=>by
  simp only[PR]at h ⊢
  obtain⟨fs,cs,rfl,hk,h1⟩:=h;exact⟨fs,cs,rfl,hk,gY hs hS caps h1⟩
 | .nilfn,v,h=>by simpa only[PR]using h
 | .iface t x,v,h=>by
  simp only[PR]at h ⊢
  obtain⟨u,rfl,h1⟩:=h;exact⟨u,rfl,bd hs hS x h1⟩
 | .nilif,v,h=>by simpa only[PR]using h
 | .sliceE z es,v,h=>by
  simp only[PR]at h ⊢
  obtain⟨⟨a,cap,us,rfl,h1,h3,h4⟩,h5⟩:=h;refine⟨⟨a,cap,us,rfl,h1,gY hs hS es h3,fun hne=>?_⟩,h5⟩
  obtain⟨b,o,ha,hb,hr⟩:=h4 hne;exact⟨b,o,ha,hS b hb,jT (hs b hb) hr⟩
 | .sym k s,v,h=>by simpa only[PR]using h
theorem gY {w w':World}{S S':Nat→Prop}(hs:dJ S w w')(hS:∀b,S b→S' b):∀(xs:List Da) {vs:List Value},oD w S xs vs→oD w' S' xs vs
 |[],vs,h=>by simpa only[oD]using h
 |x::r,vs,h=>by
  simp only[oD]at h ⊢
  obtain⟨u,us,rfl,h1,h2⟩:=h;exact⟨u,us,rfl,bd hs hS x h1,gY hs hS r h2⟩
end
mutual
def VR (φ:List cb)(w:World)(S:Nat→Prop):D→Value→Prop
 | .p x,v=>PR w S x v
 | .agg ds,v=>∃vs:Array Value,v= .agg vs∧ve φ w S ds vs.toList∧∀c∈vs.toList,aW c
 | .tup ds,v=>∃vs:Array Value,v= .tuple vs∧ve φ w S ds vs.toList
 | .box id off,v=>∃b,φ[id]?=some (.box b)∧v= .pointer (some ⟨b,off,none⟩)
 | .el id i off,v=>∃b o cap z n,φ[id]?=some (.arr b o cap z n)∧i<n∧v= .pointer (some ⟨b,o+i*z+off,none⟩)
 | .ip x off,v=>∃b o u,v= .pointer (some ⟨b,o+off,none⟩)∧S b∧PR w S x u∧uc w b o u.cells
 | .arr id lo len z,v=>∃b o cap n a,φ[id]?=some (.arr b o cap z n)∧lo+len≤n∧n≤cap∧v= .slice a len (cap - lo)∧(lo<cap→a=some ⟨b,o+lo*z,none⟩)
 | .sl g z es,v=>∃a cap us,v= .slice a us.length cap∧us.length≤cap∧gv g a us.length cap∧oD w S es us∧(us≠[]→∃b o,a=some ⟨b,o,none⟩∧S b∧rowAt w b o z us)
 | .map id,v=>∃r,φ[id]?=some (.map r)∧v= .map (some r)
 | .fn f caps,v=>∃fs cs:Array Value,v= .func (.func (Dd f)) fs cs∧fs.size=Uw f∧ve φ w S caps (fs.toList++cs.toList)
 | .iface t d,v=>∃u,v= .iface t u∧VR φ w S d u
 | .junk,_=>True
def ve (φ:List cb)(w:World)(S:Nat→Prop):List D→List Value→Prop
 |[],vs=>vs=[]
 |x::r,vs=>∃u us,vs=u::us∧VR φ w S x u∧ve φ w S r us
end
theorem VRs_iff {φ:List cb}{w:World}{S:Nat→Prop}:∀{xs:List D} {vs:List Value},ve φ w S xs vs↔Pw (VR φ w S) xs vs
 |[],vs=>by
  simp only[ve];exact⟨fun h=>h▸Pw.nil,fun h=>h.nil_inv⟩
 |x::r,vs=>by
  simp only[ve];constructor
  ·rintro⟨u,us,rfl,h,hr⟩
   exact Pw.cons h (VRs_iff.1 hr)
  ·intro h;obtain⟨u,us,rfl,h1,h2⟩:=h.cons_inv;exact⟨u,us,rfl,h1,VRs_iff.2 h2⟩
def Ext (φ φ':List cb):Prop:=∀(id:Nat) l,φ[id]?=some l→l≠ .none→φ'[id]?=some l
theorem Ext.refl (φ:List cb):Ext φ φ:=fun _ _ h _=>h
theorem Ext.trans {a b c:List cb}(h:Ext a b)(k:Ext b c):Ext a c:=fun id l hl hn=>k id l (h id l hl hn) hn
mutual
theorem gS {φ φ':List cb}{w w':World}{S S':Nat→Prop}(he:Ext φ φ')(hs:dJ S w w')(hS:∀b,S b→S' b):∀(d:D) {v:Value},VR φ w S d v→VR φ' w' S' d v
 | .p x,v,h=>by simp only[VR]at h ⊢;exact bd hs hS x h
 | .agg ds,v,h=>by
  simp only[VR]at h ⊢
  obtain⟨vs,rfl,h1,h2⟩:=h;exact⟨vs,rfl,qC he hs hS ds h1,h2⟩
 | .tup ds,v,h=>by
  simp only[VR]at h ⊢
  obtain⟨vs,rfl,h1⟩:=h;exact⟨vs,rfl,qC he hs hS ds h1⟩
 | .box id off,v,h=>by
  simp only[VR]at h ⊢
  obtain⟨b,h1,rfl⟩:=h;exact⟨b,he _ _ h1 (by simp),rfl⟩
 | .el id i off,v,h=>by
  simp only[VR]at h ⊢
  obtain⟨b,o,cap,z,n,h1,h2,rfl⟩:=h;exact⟨b,o,cap,z,n,he _ _ h1 (by simp),h2,rfl⟩
 | .ip x off,v,h=>by
  simp only[VR]at h ⊢
  obtain⟨b,o,u,rfl,hb,hx,hh⟩:=h;exact⟨b,o,u,rfl,hS b hb,bd hs hS x hx,jP (hs b hb) hh⟩
 | .arr id lo len z,v,h=>by
  simp only[VR]at h ⊢
  obtain⟨b,o,cap,n,a,h1,h2⟩:=h;exact⟨b,o,cap,n,a,he _ _ h1 (by simp),h2⟩
 | .sl g z es,v,h=>by
  simp only[VR]at h ⊢
  obtain⟨a,cap,us,rfl,h1,h2,h3,h4⟩:=h;refine⟨a,cap,us,rfl,h1,h2,gY hs hS es h3,fun hne=>?_⟩
  obtain⟨b,o,ha,hb,hr⟩:=h4 hne;exact⟨b,o,ha,hS b hb,jT (hs b hb) hr⟩
 | .map id,v,h=>by
  simp only[VR]at h ⊢
  obtain⟨r,h1,rfl⟩:=h;exact⟨r,he _ _ h1 (by simp),rfl⟩
 | .fn f caps,v,h=>by
  simp only[VR]at h ⊢
  obtain⟨fs,cs,rfl,hk,h1⟩:=h;exact⟨fs,cs,rfl,hk,qC he hs hS caps h1⟩
 | .iface t d,v,h=>by
  simp only[VR]at h ⊢
  obtain⟨u,rfl,h1⟩:=h;exact⟨u,rfl,gS he hs hS d h1⟩
 | .junk,v,h=>by simp only[VR]
theorem qC {φ φ':List cb}{w w':World}{S S':Nat→Prop}(he:Ext φ φ')(hs:dJ S w w')(hS:∀b,S b→S' b):∀(ds:List D) {vs:List Value},ve φ w S ds vs→ve φ' w' S' ds vs
 |[],vs,h=>by simpa only[ve]using h
 |x::r,vs,h=>by
  simp only[ve]at h ⊢
  obtain⟨u,us,rfl,h1,h2⟩:=h;exact⟨u,us,rfl,gS he hs hS x h1,qC he hs hS r h2⟩
end
def jA (fz:Nat×Nat)(n:Nat):Prop:=∀o,o<n→¬(fz.1≤o∧o<fz.2)
def OR (φ:List cb)(w:World)(S:Nat→Prop):cb→Ob→Prop
 | .box b,.box cs=>∃vs t fz,w.heap[b]?=some (.cells vs t fz)∧jA fz vs.size∧Pw (VR φ w S) cs vs.toList∧(∀c∈vs.toList,aW c)∧(b3 cs=true→t=zW)
 | .arr b o cap z n,.arr es=>es.length=n∧n≤cap∧(0<cap→∃vs t fz,w.heap[b]?=some (.cells vs t fz)∧jA fz vs.size∧o+cap*z≤vs.size)∧
   ∃us,Pw (PR w S) es us∧rowAt w b o z us
 | .arr b o cap z n,.fz es=>es.length=n∧n≤cap∧(0<cap→S b)∧∃us,Pw (PR w S) es us∧rowAt w b o z us
 | .arr b o cap z n,.byt es=>es.length=n∧n≤cap∧(0<cap→∃vs t fz,w.heap[b]?=some (.cells vs t fz)∧jA fz vs.size∧o+cap*z≤vs.size∧t=FZ)∧
   ∃us,Pw (PR w S) es us∧rowAt w b o z us
 | .map r,.map ks vs=>∃es clock,w.heap[r]?=some (.map es clock)∧Pw (PR w S) ks (es.toList.map (·.key))∧Pw (PR w S) vs (es.toList.map (·.val))
 | .map r,.fzm ks vs=>S r∧∃es clock,w.heap[r]?=some (.map es clock)∧Pw (PR w S) ks (es.toList.map (·.key))∧Pw (PR w S) vs (es.toList.map (·.val))
 | .map r,.mapd ks ws=>∃es clock,w.heap[r]?=some (.map es clock)∧Pw (PR w S) ks (es.toList.map (·.key))∧Pw (VR φ w S) ws (es.toList.map (·.val))
 | .none,.unborn=>True
 |_,.dead=>True
 |_,_=>False
def bz:cb→Ob→Option Nat
 | .box b,.box _=>some b
 | .arr b _ cap _ _,.arr _=>if 0<cap then some b else none
 | .arr b _ cap _ _,.byt _=>if 0<cap then some b else none
 | .map r,.map _ _=>some r
 | .map r,.mapd _ _=>some r
 |_,_=>none
def bf (φ:List cb)(hp:List Ob)(b:Nat):Prop:=∃(id:Nat) (l:cb) (o:Ob),φ[id]?=some l∧hp[id]?=some o∧bz l o=some b
structure HR (φ:List cb)(w:World)(S:Nat→Prop)(hp:List Ob):Prop where
 len:φ.length=hp.length
 obj:∀(id:Nat) l o,φ[id]?=some l→hp[id]?=some o→OR φ w S l o
 own:∀b,bf φ hp b→¬S b∧b<w.heap.size
 one:∀(id id':Nat) l l' o o' b,φ[id]?=some l→hp[id]?=some o→φ[id']?=some l'→hp[id']?=some o'→bz l o=some b→bz l' o'=some b→id=id'
 low:∀b,S b→b<w.heap.size
structure Fr (O S:Nat→Prop)(w:World)(O' S':Nat→Prop)(w':World):Prop where
 keep:∀b,b<w.heap.size→¬O b→w'.heap[b]?=w.heap[b]?
 size:w.heap.size≤w'.heap.size
 os:w'.os=w.os
 tape:w'.tape=w.tape
 output:w'.output=w.output
 sub:∀b,S b→S' b
 news:∀b,S' b→S b∨O b∨w.heap.size≤b
 newo:∀b,O' b→O b∨w.heap.size≤b
theorem Fr.refl (O S:Nat→Prop)(w:World):Fr O S w O S w:=
 ⟨fun _ _ _=>rfl,Nat.le_refl _,rfl,rfl,rfl,fun _ h=>h,fun _ h=> .inl h,fun _ h=> .inl h⟩
theorem Fr.trans {O S:Nat→Prop}{w:World}{O1 S1:Nat→Prop}{w1:World}{O2 S2:Nat→Prop}{w2:World}(h:Fr O S w O1 S1 w1)(k:Fr O1 S1 w1 O2 S2 w2):Fr O S w O2 S2 w2 where
 keep b hb ho:=by
  rw[k.keep b (mτ hb h.size) fun h1=>(h.newo b h1).elim ho fun h2=>absurd hb (Nat.not_lt.2 h2)];exact h.keep b hb ho
 size:=mρ h.size k.size
 os:=k.os.trans h.os
 tape:=k.tape.trans h.tape
 output:=k.output.trans h.output
 sub b hb:=k.sub b (h.sub b hb)
 news b hb:=by
  rcases k.news b hb with h1|h1|h1
  ·exact h.news b h1
  ·rcases h.newo b h1 with h2|h2
   ·exact .inr (.inl h2)
   ·exact .inr (.inr h2)
  ·exact .inr (.inr (mρ h.size h1))
 newo b hb:=by
  rcases k.newo b hb with h1|h1
  ·exact h.newo b h1
  ·exact .inr (mρ h.size h1)
theorem Fr.less {O S:Nat→Prop}{w:World}{O' S' O2:Nat→Prop}{w':World}(h:Fr O S w O' S' w')(k:∀b,O2 b→O' b):Fr O S w O2 S' w':=
 {h with newo:=fun b hb=>h.newo b (k b hb)}
theorem Fr.stable {φ:List cb}{hp:List Ob}{S O' S':Nat→Prop}{w w':World}(h:Fr (bf φ hp) S w O' S' w')(hr:HR φ w S hp):dJ S w w':=
 fun b hb=>h.keep b (hr.low b hb) fun ho=>(hr.own b ho).1 hb
end Go.Ab
end
section
namespace Go.Ab
open Go
variable [Letters]
theorem z7 {w:World}{S:Nat→Prop}:∀{v:Value} {x:Da},cM v=some x→PR w S x v∧aW v
 | .bool b,x,h=>by simp only[cM,lα]at h;subst h;simp[PR,aW]
 | .int k n,x,h=>by simp only[cM,lα]at h;subst h;simp[PR,aW]
 | .float ..,x,h=>by simp[cM]at h
 | .complex ..,x,h=>by simp[cM]at h
 | .string s,x,h=>by simp only[cM,lα]at h;subst h;exact⟨by simp only[PR];exact⟨s,rfl,rfl⟩,trivial⟩
 | .pointer none,x,h=>by simp only[cM,lα]at h;subst h;simp[PR,aW]
 | .pointer (some a),x,h=>by simp[cM]at h
 | .slice ..,x,h=>by simp[cM]at h
 | .map none,x,h=>by simp only[cM,lα]at h;subst h;simp[PR,aW]
 | .map (some r),x,h=>by simp[cM]at h
 | .chan ..,x,h=>by simp[cM]at h
 | .func ..,x,h=>by simp[cM]at h
 | .nilFunc,x,h=>by simp only[cM,lα]at h;subst h;simp[PR,aW]
 | .iface ..,x,h=>by simp[cM]at h
 | .nilIface,x,h=>by simp only[cM,lα]at h;subst h;simp[PR,aW]
 | .agg ..,x,h=>by simp[cM]at h
 | .tuple ..,x,h=>by simp[cM]at h
def GR (G:bF)(w:World)(S:Nat→Prop):Prop:=∀g x,G g=some x→S g∧∃u,PR w S x u∧uc w g 0 u.cells∧∃t fr,w.heap[g]?=some (.cells u.cells t fr)
theorem uZ {G:bF}{w w':World}{S S':Nat→Prop}(hs:dJ S w w')(hS:∀b,S b→S' b)(h:GR G w S):GR G w' S':=by
 intro g x hg;obtain⟨h1,u,h2,h3,t,fr,h4⟩:=h g x hg;exact⟨hS g h1,u,bd hs hS x h2,jP (hs g h1) h3,t,fr,(hs g h1).trans h4⟩
def Ml (φ:List cb)(w:World)(S:Nat→Prop)(tm:Tm)(a:Act):Prop:=∀t,VR φ w S (get tm t) (a.tmps.getD t undef)
theorem je {φ φ':List cb}{w w':World}{S S':Nat→Prop}{tm:Tm}{a:Act}(he:Ext φ φ')(hs:dJ S w w')(hS:∀b,S b→S' b)(h:Ml φ w S tm a):Ml φ' w' S' tm a:=
 fun t=>gS he hs hS _ (h t)
theorem q0 {d:Option Nat}{v:D}{tm:Tm}{t:Nat}:get (put d v tm) t=if d=some t then v else get tm t:=by
 cases d with
 |none=>simp[put]
 |some s=>
  simp only[put,get];by_cases h:s=t
  ·subst h;simp
  ·have:Nat.beq s t=false:=by
    cases hb:Nat.beq s t with
    |false=>rfl
    |true=>exact absurd (lζ hb) h
   simp[this,h]
def Ae (d:Option Nat)(a:Act):Prop:=∀t,d=some t→t<a.tmps.size
theorem Iu {φ:List cb}{w:World}{S:Nat→Prop}{tm:Tm}{a:Act}{d:Option Nat}{x:D}{v:Value}(hd:Ae d a)(h:Ml φ w S tm a)(hv:VR φ w S x v):
  Ml φ w S (put d x tm) (a.put d v):=by
 intro t;rw[q0];cases d with
 |none=>simpa[Act.put]using h t
 |some s=>
  by_cases hst:s=t
  ·subst hst;have hs:=hd s rfl;simp[Act.put,hs];exact hv
  ·simp only[lα,hst,if_false];have:=h t;simp only[Act.put];rw[Array.getD_eq_getD_getElem?]at this ⊢
   rw[Array.getElem?_setIfInBounds_ne hst];exact this
theorem Nq {φ:List cb}{w:World}{S:Nat→Prop}{z:Nat}:VR φ w S (.sl .nil z []) (.slice none 0 0):=by
 simp only[VR];exact⟨none,0,[],rfl,by simp,by simp[gv],by simp[oD],by simp⟩
theorem aU {P:Program}{G:bF}{φ:List cb}{w:World}{S:Nat→Prop}{tm:Tm}{a:Act}(ht:Ml φ w S tm a)(hg:GR G w S){t:TypeId}{x:Operand}{y:A}(h:cA P G t x=some y):
  VR φ w S (ev tm y) (a.eval x):=by
 cases x with
 |tmp t=>simp only[cA,lα]at h;subst h;exact ht t
 |const v=>
  simp only[cA]at h;split at h
  ·simp only[lα]at h;subst h;simp only[ev,Act.eval];exact Nq
  ·cases hd:cM v with
   |none=>simp[hd]at h
   |some d=>simp[hd]at h;subst h;simp only[ev,VR,Act.eval];exact(z7 hd).1
 |func f=>
  simp only[cA]at h;cases hb:Nat.blt f 1000000 with
  |false=>simp[hb]at h
  |true=>
   simp[hb]at h;subst h;have hlt:f<1000000:=Nat.le_of_ble_eq_true hb;simp only[ev,VR,Act.eval,PR];exact⟨#[],#[],by rw[show Dd f=f from Nat.mod_eq_of_lt hlt],(Nat.div_eq_of_lt hlt).symm,by simp[oD]⟩
 |global g=>
  simp only[cA]at h;cases hd:G g with
  |none=>simp[hd]at h
  |some d=>
   simp[hd]at h;subst h;obtain⟨h1,u,h2,h3,_⟩:=hg g d hd;simp only[ev,VR,Act.eval];exact⟨g,0,u,rfl,h1,h2,h3⟩
theorem cj {P:Program}{G:bF}{φ:List cb}{w:World}{S:Nat→Prop}{tm:Tm}{a:Act}(ht:Ml φ w S tm a)(hg:GR G w S):∀{ts:List TypeId} {xs:List Operand} {ys:List A},mz P G ts xs=some ys→
  Pw (VR φ w S) (ys.map (ev tm)) (xs.map a.eval)
 |ts,[],ys,h=>by simp only[mz,lα]at h;subst h;exact Pw.nil
 |ts,x::r,ys,h=>by
  simp only[mz]at h;split at h
  ·rename_i y hy;split at h
   ·rename_i zs hz;simp only[lα]at h;subst h;exact Pw.cons (aU ht hg hy) (cj ht hg hz)
   ·simp at h
  ·simp at h
def OpOk (P:Program)(o:Oper)(a:Act)(w:World)(v:Value)(w':World):Prop:=
 (execOp a.eval o).run P w= .ok (.value v) w'∨((execOp a.eval o).run P w= .ok .skip w'∧v=undef)
theorem OpOk.wp {P:Program}{o:Oper}{a:Act}{w w':World}{v:Value}(h:OpOk P o a w v w'){K:Act→World→Prop}{Q:Exit→Act→World→Prop}(k:K (a.put o.dst v) w'):
  o.wp P a w K Q:=by
 unfold Oper.wp;rcases h with h|⟨h,rfl⟩
 ·rw[h];exact k
 ·rw[h];exact k
def EffOk (P:Program)(o:Oper)(a:Act)(φ:List cb)(w:World)(S:Nat→Prop)(hp:List Ob)(base:Nat)(d:D)(hp':List Ob):Prop:=
 ∃v w' φ' S',OpOk P o a w v w'∧VR φ' w' S' d v∧HR φ' w' S' hp'∧Ext φ φ'∧Fr (bf φ hp) S w (bf φ' hp') S' w'∧∀id,id<base→φ'[id]?=φ[id]?
theorem EffOk.value {P:Program}{o:Oper}{a:Act}{φ:List cb}{w:World}{S:Nat→Prop}{hp:List Ob}{base:Nat}{d:D}(hr:HR φ w S hp){v:Value}
  (h:(execOp a.eval o).run P w= .ok (.value v) w) (hv:VR φ w S d v):EffOk P o a φ w S hp base d hp:=
 ⟨v,w,φ,S,.inl h,hv,hr,Ext.refl φ,Fr.refl _ _ _,fun _ _=>rfl⟩
end Go.Ab
end
section
namespace Go.Ab
open Go
variable [Letters]
theorem B6:∀(a b:List Nat),cp a b=(a==b)
 |[],[]=>rfl
 |[],b::y=>rfl
 |a::x,[]=>rfl
 |a::x,b::y=>by
  simp only[cp,B6 x y,List.cons_beq_cons];by_cases h:a=b
  ·subst h;simp
  ·have:Nat.beq a b=false:=by
    cases hb:Nat.beq a b with
    |false=>rfl
    |true=>exact absurd (lζ hb) h
   simp[this,h]
theorem f9 (a b:Int):eqI a b=(a==b):=by
 cases a with
 |ofNat m=>cases b with
  |ofNat n=>
   simp only[eqI];by_cases h:m=n
   ·subst h;simp
   ·have:Nat.beq m n=false:=by
     cases hb:Nat.beq m n with
     |false=>rfl
     |true=>exact absurd (lζ hb) h
    rw[this];symm;exact beq_eq_false_iff_ne.2 fun hh=>h (by cases hh;rfl)
  |negSucc n=>simp[eqI]
 |negSucc m=>cases b with
  |ofNat n=>simp[eqI]
  |negSucc n=>
   simp only[eqI];by_cases h:m=n
   ·subst h;simp
   ·have:Nat.beq m n=false:=by
     cases hb:Nat.beq m n with
     |false=>rfl
     |true=>exact absurd (lζ hb) h
    rw[this];symm;simpa using h
theorem blt_eq (a b:Nat):Nat.blt a b=decide (a<b):=by
 by_cases h:a<b
 ·have:Nat.blt a b=true:=by rw[Nat.blt_eq];exact h
  simp[this,h]
 ·have:Nat.blt a b=false:=by
   cases hb:Nat.blt a b with
   |false=>rfl
   |true=>rw[Nat.blt_eq]at hb;exact absurd hb h
  simp[this,h]
theorem ble_eq (a b:Nat):Nat.ble a b=decide (a≤b):=by
 by_cases h:a≤b
 ·have:Nat.ble a b=true:=by rw[Nat.ble_eq];exact h
  simp[this,h]
 ·have:Nat.ble a b=false:=by
   cases hb:Nat.ble a b with
   |false=>rfl
   |true=>rw[Nat.ble_eq]at hb;exact absurd hb h
  simp[this,h]
theorem beq_eq (a b:Nat):Nat.beq a b=decide (a=b):=by
 by_cases h:a=b
 ·subst h;simp
 ·have:Nat.beq a b=false:=by
   cases hb:Nat.beq a b with
   |false=>rfl
   |true=>exact absurd (lζ hb) h
  simp[this,h]
theorem eY (a b:Int):bo a b=decide (a<b):=by
 cases a with
 |ofNat m=>cases b with
  |ofNat n=>simp only[bo,blt_eq];congr 1;exact propext (by simp)
  |negSucc n=>
   simp only[bo];symm;simp;have:=Int.negSucc_lt_zero n;omega
 |negSucc m=>cases b with
  |ofNat n=>
   simp only[bo];symm;simp;have:=Int.negSucc_lt_zero m;omega
  |negSucc n=>
   simp only[bo,blt_eq];congr 1;simp only[Int.negSucc_eq,eq_iff_iff];omega
theorem dh (a b:Int):bh a b=decide (a≤b):=by
 simp only[bh,eY];by_cases h:b<a
 ·have:¬a≤b:=by omega
  simp[h,this]
 ·have:a≤b:=by omega
  simp[h,this]
theorem sF {α:Type}{c:Prop}[Decidable c]{x y r:α}(h1:c→x=r)(h2:y=r):(bif decide c then x else y)=r:=by
 by_cases h:c
 ·simp only[h,decide_true,cond_true];exact h1 h
 ·simp only[h,decide_false,cond_false];exact h2
theorem hU (k:IntKind)(n:Int):aj k n=k.wrap n:=by
 cases n with
 |ofNat m=>
  cases k with
  |i64=>simp only[aj,blt_eq];exact sF (fun h=>(IntWalk.i64_in _ (by simp only[Int.ofNat_eq_natCast];omega)).symm) (Eq.refl _)
  |u64=>simp only[aj,blt_eq];exact sF (fun h=>(IntWalk.u64_in _ (by simp only[Int.ofNat_eq_natCast];omega)).symm) (Eq.refl _)
  |u8=>simp only[aj,blt_eq];exact sF (fun h=>(IntWalk.u8_in _ (by simp only[Int.ofNat_eq_natCast];omega)).symm) (Eq.refl _)
  |i32=>simp only[aj,blt_eq];exact sF (fun h=>(IntWalk.i32_in _ (by simp only[Int.ofNat_eq_natCast];omega)).symm) (Eq.refl _)
  |u32=>simp only[aj,blt_eq];exact sF (fun h=>(IntWalk.u32_in _ (by simp only[Int.ofNat_eq_natCast];omega)).symm) (Eq.refl _)
  |i8=>simp only[aj]
  |i16=>simp only[aj]
  |u16=>simp only[aj]
 |negSucc m=>
  cases k with
  |i64=>simp only[aj,blt_eq];exact sF (fun h=>(IntWalk.i64_in _ (by rw[Int.negSucc_eq];omega)).symm) (Eq.refl _)
  |_=>simp only[aj]
theorem Qb:∀(a b:List UInt8),Ws (a.map UInt8.toNat) (b.map UInt8.toNat)=Op.bytesLess a b
 |[],[]=>rfl
 |_::_,[]=>rfl
 |[],_::_=>rfl
 |a::x,b::y=>by
  simp only[List.map_cons,Ws,Op.bytesLess,Qb x y,blt_eq,beq_eq];by_cases h:a<b
  ·have h':a.toNat<b.toNat:=UInt8.lt_iff_toNat_lt.1 h;simp[h,h']
  ·have h':¬a.toNat<b.toNat:=fun hh=>h (UInt8.lt_iff_toNat_lt.2 hh)
   by_cases e:a=b
   ·subst e;simp
   ·have e':¬a.toNat=b.toNat:=fun hh=>e (UInt8.toNat_inj.1 hh)
    simp[h,h',e,e']
theorem B7 (a b:List UInt8):cp (a.map UInt8.toNat) (b.map UInt8.toNat)=(a==b):=by
 rw[B6];have hinj:∀x y:UInt8,x.toNat=y.toNat→x=y:=fun x y h=>UInt8.toNat_inj.1 h
 by_cases h:a=b
 ·subst h;simp
 ·have:¬a.map UInt8.toNat=b.map UInt8.toNat:=fun hh=>h ((List.map_inj_right hinj).1 hh)
  rw[beq_eq_false_iff_ne.2 this,beq_eq_false_iff_ne.2 h]
section sy
variable {ρ:Nat→Int}
theorem Uo:∀{ks:List (Int×Int×Int)} {i:Nat},I8 ρ i ks→Tz ks≤fG ρ i ks∧fG ρ i ks≤T6 ks
 |[],_,_=>⟨Int.le_refl _,Int.le_refl _⟩
 |(a,l,h)::r,i,hb=>by
  obtain⟨⟨h1,h2⟩,h3⟩:=hb;obtain⟨k1,k2⟩:=Uo h3;simp only[Tz,T6,fG,eY];by_cases ha:a<0
  ·simp only[ha,decide_true,cond_true];have e1:a*h≤a*ρ i:=Int.mul_le_mul_of_nonpos_left (by omega) h2;have e2:a*ρ i≤a*l:=Int.mul_le_mul_of_nonpos_left (by omega) h1;omega
  ·simp only[ha,decide_false,cond_false];have e1:a*l≤a*ρ i:=Int.mul_le_mul_of_nonneg_left h1 (by omega);have e2:a*ρ i≤a*h:=Int.mul_le_mul_of_nonneg_left h2 (by omega);omega
theorem SyR.bnd {s:Sy}{n:Int}(h:SyR ρ s n):s.low≤n∧n≤s.top:=by
 cases s with
 |lin c ks=>
  obtain⟨rfl,hb⟩:=h;have:=Uo hb;simp only[Sy.low,Sy.top];omega
 |rng l t=>exact h
theorem vj (f:Int):∀{ks js:List (Int×Int×Int)} {i:Nat},I8 ρ i ks→I8 ρ i js→fG ρ i (zj f ks js)=fG ρ i ks+f*fG ρ i js∧I8 ρ i (zj f ks js)
 |[],[],_,_,_=>by simp[zj,fG,I8]
 |[],(b,l,h)::s,i,h1,h2=>by
  obtain⟨e,k⟩:=vj f (ks:=[]) (js:=s) (i:=i+1) trivial h2.2;refine⟨?_,h2.1,k⟩;simp only[zj,fG,e,Int.mul_add,Int.mul_assoc];omega
 |(a,l,h)::r,[],i,h1,h2=>by
  refine⟨?_,h1⟩;simp[zj,fG]
 |(a,l,h)::r,(b,l',h')::s,i,h1,h2=>by
  obtain⟨e,k⟩:=vj f h1.2 h2.2;refine⟨?_,h1.1,k⟩;simp only[zj,fG,e,Int.mul_add,Int.add_mul,Int.mul_assoc];omega
theorem RS {a b:Sy}{n m:Int}(h:SyR ρ a n)(k:SyR ρ b m):SyR ρ (Vl a b) (n+m):=by
 have h1:=h.bnd;have k1:=k.bnd;unfold Vl;split
 ·obtain⟨rfl,hb⟩:=h;obtain⟨rfl,kb⟩:=k;obtain⟨e,q⟩:=vj 1 hb kb;refine⟨?_,q⟩;rw[e];omega
 ·exact⟨by omega,by omega⟩
theorem vH {a b:Sy}{n m:Int}(h:SyR ρ a n)(k:SyR ρ b m):SyR ρ (yI a b) (n - m):=by
 have h1:=h.bnd;have k1:=k.bnd;unfold yI;split
 ·obtain⟨rfl,hb⟩:=h;obtain⟨rfl,kb⟩:=k;obtain⟨e,q⟩:=vj (-1) hb kb;refine⟨?_,q⟩;rw[e];omega
 ·exact⟨by omega,by omega⟩
theorem yE (f:Int):∀{ks:List (Int×Int×Int)} {i:Nat},I8 ρ i ks→fG ρ i (qg f ks)=f*fG ρ i ks∧I8 ρ i (qg f ks)
 |[],_,_=>by simp[qg,fG,I8]
 |(a,l,h)::r,i,hb=>by
  obtain⟨e,k⟩:=yE f hb.2;refine⟨?_,hb.1,k⟩;simp only[qg,fG,e,Int.mul_add,Int.mul_assoc]
theorem TD {a b s:Sy}{n m:Int}(h:SyR ρ a n)(k:SyR ρ b m)(e:Wt a b=some s):SyR ρ s (n*m):=by
 unfold Wt at e;split at e
 ·simp only[lα]at e;subst e;obtain⟨rfl,_⟩:=h;obtain⟨rfl,kb⟩:=k;obtain⟨e,q⟩:=yE _ kb;refine⟨?_,q⟩;rw[e];simp only[fG,Int.add_zero,Int.mul_add]
 ·simp only[lα]at e;subst e;obtain⟨rfl,hb⟩:=h;obtain⟨rfl,_⟩:=k;obtain⟨e,q⟩:=yE _ hb;refine⟨?_,q⟩;rw[e];simp only[fG,Int.add_zero,Int.add_mul];rw[Int.mul_comm,Int.mul_comm (fG _ _ _)]
 ·cases e
theorem TN {a b s:Sy}{n m:Int}(h:SyR ρ a n)(k:SyR ρ b m)(e:WG a b=some s):m≠0∧SyR ρ s (n.tdiv m):=by
 have h1:=h.bnd;have k1:=k.bnd;unfold WG at e;cases hc:bh 0 a.low&&bo 0 b.low
 ·simp[hc]at e
 ·simp only[hc,cond_true,lα]at e;subst e;rw[lγ,dh,eY,lβ,lβ]at hc;have hm:0<m:=by omega
  have hn:0≤n:=by omega
  refine⟨by omega,?_,?_⟩
  ·rw[Int.tdiv_eq_ediv_of_nonneg hc.1,Int.tdiv_eq_ediv_of_nonneg hn];refine Int.le_trans (Int.ediv_le_ediv (by omega) h1.1) ?_;exact(Int.le_ediv_iff_mul_le hm).2 (Int.le_trans (Int.mul_le_mul_of_nonneg_left k1.2 (Int.ediv_nonneg hn (by omega))) (Int.ediv_mul_le n (by omega)))
  ·rw[Int.tdiv_eq_ediv_of_nonneg hn,Int.tdiv_eq_ediv_of_nonneg (by omega:0≤a.top)];refine Int.le_trans (Int.ediv_le_ediv hm h1.2) ?_;exact(Int.le_ediv_iff_mul_le (by omega)).2 (Int.le_trans (Int.mul_le_mul_of_nonneg_left k1.1 (Int.ediv_nonneg (by omega) (by omega))) (Int.ediv_mul_le a.top (by omega)))
theorem UH (m:Int):∀{ks:List (Int×Int×Int)} {i:Nat},I8 ρ i ks→(∃q,fG ρ i ks=fG ρ i (uV m ks)+m*q)∧I8 ρ i (uV m ks)
 |[],_,_=>⟨⟨0,by simp[uV,fG]⟩,trivial⟩
 |(a,l,h)::r,i,hb=>by
  obtain⟨⟨q,e⟩,k⟩:=UH m hb.2;refine⟨?_,hb.1,k⟩;simp only[fG,uV,e];cases hz:eqI (a.emod m) 0
  ·exact⟨q,by simp only[cond_false];omega⟩
  ·have:a.emod m=0:=by rw[f9]at hz;simpa using hz
   refine⟨q+a / m*ρ i,?_⟩;simp only[cond_true];have e2:a=m*(a / m):=by
    have:=Int.mul_ediv_add_emod a m;have h3:a % m=0:= ‹a.emod m=0›
    omega
   have e3:a*ρ i=m*(a / m*ρ i):=by
    conv=>lhs;rw[e2]
    rw[Int.mul_assoc]
   rw[e3,Int.mul_add];omega
theorem TQ {a b s:Sy}{n m:Int}(h:SyR ρ a n)(k:SyR ρ b m)(e:WK a b=some s):m≠0∧SyR ρ s (n.tmod m):=by
 unfold WK at e;split at e
 ·rename_i c ks m';obtain⟨rfl,_⟩:=k;simp only[fG,Int.add_zero];have h1:=h.bnd;obtain⟨hn,hb⟩:=h;obtain⟨⟨q,e1⟩,kb⟩:=UH m' hb;have hr:SyR ρ (.lin (c.emod m') (uV m' ks)) (c.emod m'+fG ρ 0 (uV m' ks)):=⟨rfl,kb⟩;have r1:=hr.bnd;cases hc:bo 0 m'&&(bh 0 (Sy.lin c ks).low&&(bh 0 (Sy.lin (c.emod m') (uV m' ks)).low&&bo (Sy.lin (c.emod m') (uV m' ks)).top m'))
  ·simp[hc]at e
  ·simp only[hc,cond_true,lα]at e;subst e;simp only[lγ,dh,eY,lβ]at hc;obtain⟨c1,c2,c3,c4⟩:=hc;refine⟨by omega,?_⟩
   have:n.tmod m'=c.emod m'+fG ρ 0 (uV m' ks):=by
    rw[Int.tmod_eq_emod_of_nonneg (by omega)];have e2:n=(c.emod m'+fG ρ 0 (uV m' ks))+m'*(c / m'+q):=by
     have:=Int.mul_ediv_add_emod c m';have h3:c.emod m'=c % m':=rfl;rw[hn,e1,Int.mul_add];omega
    rw[e2,Int.add_mul_emod_self_left];exact Int.emod_eq_of_lt (by omega) (by omega)
   rw[this];exact hr
 ·cases e
theorem Rc {k:IntKind}{n:Int}(h:Yr k≤n∧n≤Yq k):k.wrap n=n:=by
 cases k<;>simp only[Yr,Yq]at h;case i64=>exact IntWalk.i64_in _ (by omega)
 case u8=>exact IntWalk.u8_in _ (by omega)
 case u16=>exact IntWalk.u16_in _ (by omega)
 case u32=>exact IntWalk.u32_in _ (by omega)
 case u64=>exact IntWalk.u64_in _ (by omega)
 all_goals omega
theorem DS:∀{ks:List (Int×Int×Int)} {i:Nat},NH ks=true→fG ρ i ks=0
 |[],_,_=>rfl
 |(a,l,h)::r,i,hz=>by
  simp only[NH,lγ,f9,beq_iff_eq]at hz;simp only[fG,hz.1,DS hz.2,Int.zero_mul,Int.add_zero]
end sy
theorem pX {w:World}{S:Nat→Prop}{k:IntKind}{s:Sy}{n:Int}{r:Da}(h:SyR Letters.ρ s n)(e:TC k s=some r):k.wrap n=n∧PR w S r (.int k n):=by
 have h1:=h.bnd;unfold TC at e;cases hc:bh (Yr k) s.low&&bh s.top (Yq k)
 ·simp[hc]at e
 ·simp only[hc,cond_true]at e;rw[lγ,dh,dh,lβ,lβ]at hc;refine⟨Rc (by omega),?_⟩;split at e
  ·rename_i c ks;cases hz:NH ks
   ·simp only[hz,cond_false,lα]at e;subst e;simp only[PR];exact⟨n,rfl,h⟩
   ·simp only[hz,cond_true,lα]at e;subst e;simp only[PR];obtain⟨rfl,_⟩:=h;rw[DS hz,Int.add_zero]
  ·simp only[lα]at e;subst e;simp only[PR];exact⟨n,rfl,h⟩
theorem B8 {ρ:Nat→Int}{s:Sy}{n:Int}{b:Bool}(h:SyR ρ s n)(e:Ps s=some b):b=decide (n=0):=by
 have h1:=h.bnd;unfold Ps at e;simp only[f9,eY]at e;cases hc:s.low==0&&s.top==0
 ·simp only[hc,cond_false]at e;cases hd:decide (0<s.low)||decide (s.top<0)
  ·simp[hd]at e
  ·simp only[hd,cond_true,lα]at e;subst e;simp only[mμ,lβ]at hd;symm;simp;omega
 ·simp only[hc,cond_true,lα]at e;subst e;simp only[lγ,beq_iff_eq]at hc;symm;simp;omega
theorem Jg {ρ:Nat→Int}{s:Sy}{n:Int}{b:Bool}(h:SyR ρ s n)(e:TA s=some b):b=decide (n<0):=by
 have h1:=h.bnd;unfold TA at e;simp only[dh,eY]at e;by_cases hc:s.top<0
 ·simp only[hc,decide_true,cond_true,lα]at e;subst e;symm;simp;omega
 ·simp only[hc,decide_false,cond_false]at e;by_cases hd:0≤s.low
  ·simp only[hd,decide_true,cond_true,lα]at e;subst e;symm;simp;omega
  ·simp[hd]at e
theorem Jb {ρ:Nat→Int}{s:Sy}{n:Int}{b:Bool}(h:SyR ρ s n)(e:Ts s=some b):b=decide (n≤0):=by
 have h1:=h.bnd;unfold Ts at e;simp only[dh,eY]at e;by_cases hc:s.top≤0
 ·simp only[hc,decide_true,cond_true,lα]at e;subst e;symm;simp;omega
 ·simp only[hc,decide_false,cond_false]at e;by_cases hd:0<s.low
  ·simp only[hd,decide_true,cond_true,lα]at e;subst e;symm;simp;omega
  ·simp[hd]at e
theorem rJ {w:World}{S:Nat→Prop}{x:Da}{k:IntKind}{s:Sy}{v:Value}(e:AR x=some (k,s))(h:PR w S x v):∃n,v= .int k n∧SyR Letters.ρ s n:=by
 cases x<;>simp only[AR,lα,reduceCtorEq,lκ]at e
 ·obtain⟨rfl,rfl⟩:=e;simp only[PR]at h;exact⟨_,h,by simp[SyR,fG,I8]⟩
 ·obtain⟨rfl,rfl⟩:=e;simpa only[PR]using h
end Go.Ab
end
section
namespace Go.Ab
open Go
variable [Letters]
section
variable {P:Program} {w:World} {S:Nat→Prop} {φ:List cb}
theorem bS {op:BinOp}{t:TypeId}{x y:Operand}{a b:Value}(h:(∀cs ds,a= .agg cs→b= .agg ds→False)∧(a= .nilIface→b= .nilIface→False)):
  (eqGuard op t x y a b).run P w= .ok () w:=by
 unfold eqGuard;cases op<;>first
  |rfl
  |(
    simp only[Bool.not_true,Bool.false_eq_true,if_false];split
    ·exact(h.2 rfl rfl).elim
    ·rename_i cs ds;exact(h.1 cs ds rfl rfl).elim
    ·rfl)
def dv:Da→Value
 | .bool b=> .bool b
 | .int k n=> .int k n
 |_=>undef
theorem GV {op:BinOp}{t:TypeId}{k:IntKind}{a b:Int}{r:Da}(hs:dS op=false)(h:jg op k a b=some r):
  ∃v,(binOp op t (.int k a) (.int k b)).run P w= .ok v w∧PR w S r v:=by
 refine⟨dv r,?_⟩;cases op with
 |shl=>simp[dS]at hs
 |shr=>simp[dS]at hs
 |quo=>
  simp only[jg,f9,hU]at h;by_cases hb:b=0
  ·simp[hb]at h
  ·rw[beq_eq_false_iff_ne.2 hb,cond_false,lα]at h;subst h;simp[binOp,Op.intDiv,hb,dv,PR]
 |rem=>
  simp only[jg,f9,hU]at h;by_cases hb:b=0
  ·simp[hb]at h
  ·rw[beq_eq_false_iff_ne.2 hb,cond_false,lα]at h;subst h;simp[binOp,Op.intDiv,hb,dv,PR]
 |_=>
  simp only[jg,f9,eY,dh,hU,lα]at h;subst h;simp[binOp,Op.intArith,Op.intBits,Op.intCmp,bne,dv,PR]
theorem wW {b:Bool}{o:Option Bool}{r:Da}(h:qI b o=some r):∃c,o=some c∧r= .bool (c==b):=by
 cases o with
 |none=>cases h
 |some c=>simp only[qI,lα]at h;exact⟨c,rfl,h.symm⟩
theorem xS {k:IntKind}{o:Option Sy}{r:Da}(h:Yt k o=some r):∃s,o=some s∧TC k s=some r:=by
 cases o with
 |none=>cases h
 |some s=>exact⟨s,rfl,h⟩
theorem Ks {op:BinOp}{t:TypeId}{k:IntKind}{a b:Sy}{n m:Int}{r:Da}(ha:SyR Letters.ρ a n)(hb:SyR Letters.ρ b m)(h:NQ op k a b=some r):
  ∃v,(binOp op t (.int k n) (.int k m)).run P w= .ok v w∧PR w S r v:=by
 cases op<;>simp only[NQ,reduceCtorEq]at h;case add=>
  obtain⟨h1,h2⟩:=pX (w:=w) (S:=S) (RS ha hb) h;exact⟨_,by simp[binOp,Op.intArith,h1],h2⟩
 case sub=>
  obtain⟨h1,h2⟩:=pX (w:=w) (S:=S) (vH ha hb) h;exact⟨_,by simp[binOp,Op.intArith,h1],h2⟩
 case mul=>
  obtain⟨s,hs,h⟩:=xS h;obtain⟨h1,h2⟩:=pX (w:=w) (S:=S) (TD ha hb hs) h;exact⟨_,by simp[binOp,Op.intArith,h1],h2⟩
 case quo=>
  obtain⟨s,hs,h⟩:=xS h;obtain⟨hm,hq⟩:=TN ha hb hs;obtain⟨h1,h2⟩:=pX (w:=w) (S:=S) hq h;exact⟨_,by simp[binOp,Op.intDiv,hm,h1],h2⟩
 case rem=>
  obtain⟨s,hs,h⟩:=xS h;obtain⟨hm,hq⟩:=TQ ha hb hs;obtain⟨h1,h2⟩:=pX (w:=w) (S:=S) hq h;exact⟨_,by simp[binOp,Op.intDiv,hm,h1],h2⟩
 all_goals
  obtain⟨c,hc,rfl⟩:=wW h;have hd:=vH ha hb
 case eql=>
  have:=B8 hd hc;refine⟨.bool (decide (n=m)),by simp[binOp,Op.intCmp];try rfl,?_⟩
  simp only[PR];subst this;congr 1;by_cases hnm:n=m
  ·subst hnm;simp
  ·have:¬n - m=0:=by omega
   simp[hnm,this]
 case neq=>
  have:=B8 hd hc;refine⟨.bool (!decide (n=m)),by simp[binOp,Op.intCmp,bne];try rfl,?_⟩
  simp only[PR];subst this;congr 1;by_cases hnm:n=m
  ·subst hnm;simp
  ·have:¬n - m=0:=by omega
   simp[hnm,this]
 case lss=>
  have:=Jg hd hc;refine⟨.bool (decide (n<m)),by simp[binOp,Op.intCmp];try rfl,?_⟩
  simp only[PR];subst this;congr 1;by_cases hnm:n<m
  ·have:n - m<0:=by omega
   simp[hnm,this]
  ·have:¬n - m<0:=by omega
   simp[hnm,this]
 case leq=>
  have:=Jb hd hc;refine⟨.bool (decide (n≤m)),by simp[binOp,Op.intCmp];try rfl,?_⟩
  simp only[PR];subst this;congr 1;by_cases hnm:n≤m
  ·have:n - m≤0:=by omega
   simp[hnm,this]
  ·have:¬n - m≤0:=by omega
   simp[hnm,this]
 case gtr=>
  have:=Jb hd hc;refine⟨.bool (decide (n>m)),by simp[binOp,Op.intCmp];try rfl,?_⟩
  simp only[PR];subst this;congr 1;by_cases hnm:n>m
  ·have h2:¬n - m≤0:=by omega
   rw[mχ hnm,mψ h2];rfl
  ·have h2:n - m≤0:=by omega
   rw[mψ hnm,mχ h2];rfl
 case geq=>
  have:=Jg hd hc;refine⟨.bool (decide (n≥m)),by simp[binOp,Op.intCmp];try rfl,?_⟩
  simp only[PR];subst this;congr 1;by_cases hnm:n≥m
  ·have h2:¬n - m<0:=by omega
   rw[mχ hnm,mψ h2];rfl
  ·have h2:n - m<0:=by omega
   rw[mψ hnm,mχ h2];rfl
theorem CV {op:BinOp}{t:TypeId}{k k':IntKind}{a b:Int}{r:Da}(hs:dS op=true)(h:kR op k a b=some r):
  ∃v,(binOp op t (.int k a) (.int k' b)).run P w= .ok v w∧PR w S r v:=by
 refine⟨dv r,?_⟩;cases op with
 |shl=>
  simp only[kR,eY,hU]at h;by_cases hb:b<0
  ·simp[hb]at h
  ·simp[hb]at h;subst h;simp[binOp,Op.shift,hb,dv,PR]
 |shr=>
  simp only[kR,eY,hU]at h;by_cases hb:b<0
  ·simp[hb]at h
  ·simp[hb]at h;subst h;simp[binOp,Op.shift,hb,dv,PR]
 |_=>simp[dS]at hs
theorem GW {op:BinOp}{t:TypeId}{a b:ByteArray}{r:Da}(h:pI op (a.data.toList.map UInt8.toNat) (b.data.toList.map UInt8.toNat)=some r):
  ∃v,(binOp op t (.string a) (.string b)).run P w= .ok v w∧PR w S r v:=by
 have hlen:∀c:ByteArray,c.data.toList.length=c.size:=fun _=>rfl
 cases op with
 |add=>
  simp only[pI,ble_eq,lθ,hlen]at h;by_cases hb:a.size+b.size≤fx
  ·simp only[hb,decide_true,cond_true,lα]at h;subst h;have hb':¬(((a.size+b.size:Nat):Int)>IntKind.i64.max):=by
    have:IntKind.i64.max=9223372036854775807:=by decide+kernel
    rw[this];unfold fx at hb;omega
   refine⟨.string (a++b),?_,?_⟩
   ·simp only[binOp,Op.stringOp,hb',if_false,Sem.run_pure]
   ·simp only[PR];exact⟨a++b,rfl,by simp⟩
  ·simp[hb]at h
 |eql|neq|lss|leq|gtr|geq=>
  refine⟨dv r,?_⟩;simp only[pI,B7,Qb,lα]at h;subst h;simp only[dv,PR,and_true];simp only[binOp,Op.stringOp,ByteArray.toList_eq,Sem.run_pure]
 |_=>simp[pI]at h
theorem R4 {op:BinOp}{t:TypeId}{X Y:Operand}{x y:D}{v u:Value}{r:Da}(hx:VR φ w S x v)(hy:VR φ w S y u)(h:bin op x y=some r):
  ∃z,(do eqGuard op t X Y v u;binOp op t v u).run P w= .ok z w∧PR w S r z:=by
 unfold bin at h;split at h
 ·rename_i k a k' b;simp only[VR,PR]at hx hy;subst hx hy;have hg:(eqGuard op t X Y (.int k a) (.int k' b)).run P w= .ok () w:=bS ⟨by simp,by simp⟩
  cases hs:dS op with
  |true=>
   simp only[hs,cond_true]at h;obtain⟨z,h1,h2⟩:=CV (P:=P) (w:=w) (S:=S) (t:=t) (k':=k') hs h;exact⟨z,by simp only[Sem.run_bind,hg,Result.andThen_ok,h1],h2⟩
  |false=>
   simp only[hs,cond_false]at h;split at h
   ·rename_i hk;subst hk;obtain⟨z,h1,h2⟩:=GV (P:=P) (w:=w) (S:=S) (t:=t) hs h;exact⟨z,by simp only[Sem.run_bind,hg,Result.andThen_ok,h1],h2⟩
   ·simp at h
 ·rename_i a b;simp only[VR,PR]at hx hy;obtain⟨a',rfl,rfl⟩:=hx;obtain⟨b',rfl,rfl⟩:=hy;have hg:(eqGuard op t X Y (.string a') (.string b')).run P w= .ok () w:=bS ⟨by simp,by simp⟩
  obtain⟨z,h1,h2⟩:=GW (P:=P) (w:=w) (S:=S) (t:=t) h;exact⟨z,by simp only[Sem.run_bind,hg,Result.andThen_ok,h1],h2⟩
 ·rename_i x y _ _;unfold BQ at h;split at h
  ·rename_i k a k' b hsx hsy;split at h
   ·rename_i hk;subst hk;simp only[VR]at hx hy;obtain⟨n,rfl,hn⟩:=rJ hsx hx;obtain⟨m,rfl,hm⟩:=rJ hsy hy;have hg:(eqGuard op t X Y (.int k n) (.int k m)).run P w= .ok () w:=bS ⟨by simp,by simp⟩
    obtain⟨z,h1,h2⟩:=Ks (P:=P) (w:=w) (S:=S) (t:=t) hn hm h;exact⟨z,by simp only[Sem.run_bind,hg,Result.andThen_ok,h1],h2⟩
   ·simp at h
  ·simp at h
 ·simp at h
theorem NM {op:BinOp}{t:TypeId}{X Y:Operand}{x y:D}{v u:Value}{r:Da}(ht:P.underlying t=some .bool)(hx:VR φ w S x v)(hy:VR φ w S y u)(h:binB op x y=some r):
  ∃z,(do eqGuard op t X Y v u;binOp op t v u).run P w= .ok z w∧PR w S r z:=by
 unfold binB at h;split at h
 ·rename_i a b;simp only[VR,PR]at hx hy;subst hx hy;have hg:(eqGuard op t X Y (.bool a) (.bool b)).run P w= .ok () w:=bS ⟨by simp,by simp⟩
  have he:(Op.equal t (.bool a) (.bool b)).run P w= .ok (a==b) w:=by
   unfold Op.equal Op.maxDepth Op.equalIn;simp[run_underlying ht]
  split at h
  ·simp only[lα]at h;subst h;exact⟨.bool (a==b),by simp[hg,binOp,he],by simp[PR]⟩
  ·simp only[lα]at h;subst h;exact⟨.bool (!(a==b)),by simp[hg,binOp,he],by simp[PR]⟩
  ·simp at h
 ·simp at h
theorem kg {d:D}{v:Value}{b:Bool}(h:fN 0 d=some b)(hv:VR φ w S d v):∃a:Option Addr,v= .pointer a∧a.isNone=b:=by
 simp only[fN]at h;split at h<;>simp only[lα,reduceCtorEq]at h<;>subst h
 ·simp only[VR,PR]at hv;exact⟨none,hv,rfl⟩
 ·simp only[VR,PR]at hv;obtain⟨b,o,u,rfl,_⟩:=hv;exact⟨_,rfl,rfl⟩
 ·simp only[VR]at hv;obtain⟨b,_,rfl⟩:=hv;exact⟨_,rfl,rfl⟩
 ·simp only[VR]at hv;obtain⟨b,o,c,z,n,_,_,rfl⟩:=hv;exact⟨_,rfl,rfl⟩
 ·simp only[VR]at hv;obtain⟨b,o,u,rfl,_⟩:=hv;exact⟨_,rfl,rfl⟩
theorem nE {d:D}{v:Value}{b:Bool}(h:fN 1 d=some b)(hv:VR φ w S d v):∃(a:Option Addr) (n c:Nat),v= .slice a n c∧a.isNone=b:=by
 simp only[fN]at h;split at h<;>simp only[lα,reduceCtorEq]at h<;>subst h
 ·simp only[VR]at hv;obtain⟨a,c,us,rfl,_,ht,_⟩:=hv;exact⟨a,_,_,rfl,by rw[ht.1];rfl⟩
 ·simp only[VR]at hv;obtain⟨a,c,us,rfl,_,ht,_⟩:=hv;exact⟨a,_,_,rfl,by cases a<;>simp_all [gv]⟩
 ·simp only[VR]at hv;obtain⟨a,c,us,rfl,_,ht,_⟩:=hv;exact⟨a,_,_,rfl,by cases a<;>simp_all [gv]⟩
 ·simp only[VR]at hv;obtain⟨a,c,us,rfl,_,ht,hp,hr⟩:=hv;have hne:us≠[]:=by
   simp only[oD]at hp;obtain⟨u,us',rfl,_⟩:=hp;simp
  obtain⟨b,o,rfl,_⟩:=hr hne;exact⟨_,_,_,rfl,rfl⟩
 ·simp only[VR,PR]at hv;obtain⟨a,c,us,rfl,_,hp,hr⟩:=hv;have hne:us≠[]:=by
   simp only[oD]at hp;obtain⟨u,us',rfl,_⟩:=hp;simp
  obtain⟨b,o,rfl,_⟩:=hr hne;exact⟨_,_,_,rfl,rfl⟩
 ·simp only[VR]at hv;obtain⟨b,o,c,n,a,_,hl,hn,rfl,ha⟩:=hv;exact⟨_,_,_,rfl,by rw[ha (by omega)];rfl⟩
theorem sW {d:D}{v:Value}{b:Bool}(h:fN 2 d=some b)(hv:VR φ w S d v):∃a:Option Nat,v= .map a∧a.isNone=b:=by
 simp only[fN]at h;split at h<;>simp only[lα,reduceCtorEq]at h<;>subst h
 ·simp only[VR,PR]at hv;exact⟨none,hv,rfl⟩
 ·simp only[VR,PR]at hv;obtain⟨r,es,c,rfl,_⟩:=hv;exact⟨_,rfl,rfl⟩
 ·simp only[VR]at hv;obtain⟨r,_,rfl⟩:=hv;exact⟨_,rfl,rfl⟩
theorem xz {d:D}{v:Value}{b:Bool}(h:fN 3 d=some b)(hv:VR φ w S d v):(b=true∧v= .nilFunc)∨(b=false∧∃f x y,v= .func f x y):=by
 simp only[fN]at h;split at h<;>simp only[lα,reduceCtorEq]at h<;>subst h
 ·simp only[VR,PR]at hv;exact .inl ⟨rfl,hv⟩
 ·simp only[VR,PR]at hv;obtain⟨fs,cs,rfl,_⟩:=hv;exact .inr ⟨rfl,_,_,_,rfl⟩
 ·simp only[VR]at hv;obtain⟨fs,cs,rfl,_⟩:=hv;exact .inr ⟨rfl,_,_,_,rfl⟩
theorem nD {d:D}{v:Value}{b:Bool}(h:fN 4 d=some b)(hv:VR φ w S d v):(b=true∧v= .nilIface)∨(b=false∧∃t x,v= .iface t x):=by
 simp only[fN]at h;split at h<;>simp only[lα,reduceCtorEq]at h<;>subst h
 ·simp only[VR,PR]at hv;exact .inl ⟨rfl,hv⟩
 ·simp only[VR,PR]at hv;obtain⟨u,rfl,_⟩:=hv;exact .inr ⟨rfl,_,_,rfl⟩
 ·simp only[VR]at hv;obtain⟨u,rfl,_⟩:=hv;exact .inr ⟨rfl,_,_,rfl⟩
def Tp (P:Program)(kd:Nat)(t:TypeId)(X Y:Operand):Prop:=
 (kd=0∧∃e,P.underlying t=some (.pointer e))∨(kd=1∧∃e,P.underlying t=some (.slice e))∨(kd=2∧∃k e,P.underlying t=some (.map k e))∨
 (kd=3∧∃a b c,P.underlying t=some (.func a b c))∨(kd=4∧(gI X||gI Y)=true∧∃ms,P.underlying t=some (.interface ms))
theorem K1 {kd:Nat}{t:TypeId}{X Y:Operand}(hk:Tp P kd t X Y){x y:D}{v u:Value}{b c:Bool}(hx:VR φ w S x v)(hy:VR φ w S y u)(hb:fN kd x=some b)(hc:fN kd y=some c)(h1:b=true∨c=true):
  (Op.equal t v u).run P w= .ok (b&&c) w∧∀op,(eqGuard op t X Y v u).run P w= .ok () w:=by
 rcases hk with⟨rfl,e,ht⟩|⟨rfl,e,ht⟩|⟨rfl,k,e,ht⟩|⟨rfl,a1,a2,a3,ht⟩|⟨rfl,hX,ms,ht⟩
 ·obtain⟨a,rfl,ha⟩:=kg hb hx;obtain⟨a',rfl,ha'⟩:=kg hc hy;refine⟨?_,fun op=>bS ⟨by simp,by simp⟩⟩
  unfold Op.equal Op.maxDepth Op.equalIn;simp only[Sem.run_bind,run_underlying ht,Result.andThen_ok];subst ha ha';cases a<;>cases a'<;>simp_all
 ·obtain⟨a,n,c1,rfl,ha⟩:=nE hb hx;obtain⟨a',n',c',rfl,ha'⟩:=nE hc hy;refine⟨?_,fun op=>bS ⟨by simp,by simp⟩⟩
  unfold Op.equal Op.maxDepth Op.equalIn;simp only[Sem.run_bind,run_underlying ht,Result.andThen_ok];subst ha ha';cases a<;>cases a'<;>simp_all
 ·obtain⟨a,rfl,ha⟩:=sW hb hx;obtain⟨a',rfl,ha'⟩:=sW hc hy;refine⟨?_,fun op=>bS ⟨by simp,by simp⟩⟩
  unfold Op.equal Op.maxDepth Op.equalIn;simp only[Sem.run_bind,run_underlying ht,Result.andThen_ok];subst ha ha';cases a<;>cases a'<;>simp_all
 ·rcases xz hb hx with⟨rfl,rfl⟩|⟨rfl,f,x1,y1,rfl⟩<;>rcases xz hc hy with⟨rfl,rfl⟩|⟨rfl,f',x2,y2,rfl⟩;all_goals first
   |(simp at h1;done)
   |(
     refine⟨?_,fun op=>bS ⟨by simp,by simp⟩⟩
     unfold Op.equal Op.maxDepth Op.equalIn;simp[run_underlying ht])
 ·have hgn:∀op,(eqGuard op t X Y .nilIface .nilIface).run P w= .ok () w:=by
   intro op;unfold eqGuard;cases X<;>cases Y<;>first
    |(simp[gI]at hX;done)
    |(cases op<;>rfl)
  rcases nD hb hx with⟨rfl,rfl⟩|⟨rfl,f,x1,rfl⟩<;>rcases nD hc hy with⟨rfl,rfl⟩|⟨rfl,f',x2,rfl⟩;all_goals first
   |(simp at h1;done)
   |(
     refine⟨?_,hgn⟩;unfold Op.equal Op.maxDepth Op.equalIn;simp[run_underlying ht];done)
   |(
     refine⟨?_,fun op=>bS ⟨by simp,by simp⟩⟩
     unfold Op.equal Op.maxDepth Op.equalIn;simp[run_underlying ht])
end
end Go.Ab
end
section
namespace Go.Ab
open Go
variable [Letters]
section
variable {P:Program} {w:World} {S:Nat→Prop} {φ:List cb}
theorem rp {kd:Nat}{d:D}(h:kK kd d=true):fN kd d=some true:=by
 unfold kK at h;split at h
 ·rename_i b hb;rw[hb,h]
 ·simp at h
theorem wU {kd:Nat}{op:BinOp}{t:TypeId}{X Y:Operand}(hk:Tp P kd t X Y){x y:D}{v u:Value}{r:Da}(hx:VR φ w S x v)(hy:VR φ w S y u){b c:Bool}
  (hb:fN kd x=some b) (hc:fN kd y=some c) (h1:b=true∨c=true) (h:sG op (some (b&&c))=some r):
  ∃z,(do eqGuard op t X Y v u;binOp op t v u).run P w= .ok z w∧PR w S r z:=by
 obtain⟨he,hg⟩:=K1 hk hx hy hb hc h1;have hvu:(∀k a k' a',v= .int k a→u= .int k' a'→False)∧(∀k a k' a',v= .float k a→u= .float k' a'→False)∧(∀k a e k' a' e',v= .complex k a e→u= .complex k' a' e'→False)∧(∀s s',v= .string s→u= .string s'→False):=by
  have hsc:(∃a,v= .pointer a)∨(∃a n c,v= .slice a n c)∨(∃a,v= .map a)∨v= .nilFunc∨(∃f x y,v= .func f x y)∨v= .nilIface∨(∃t x,v= .iface t x):=by
   rcases hk with⟨rfl,_⟩|⟨rfl,_⟩|⟨rfl,_⟩|⟨rfl,_⟩|⟨rfl,_⟩
   ·obtain⟨a,rfl,_⟩:=kg hb hx;exact .inl ⟨a,rfl⟩
   ·obtain⟨a,n,c,rfl,_⟩:=nE hb hx;exact .inr (.inl ⟨a,n,c,rfl⟩)
   ·obtain⟨a,rfl,_⟩:=sW hb hx;exact .inr (.inr (.inl ⟨a,rfl⟩))
   ·rcases xz hb hx with⟨_,rfl⟩|⟨_,f,x,y,rfl⟩
    ·exact .inr (.inr (.inr (.inl rfl)))
    ·exact .inr (.inr (.inr (.inr (.inl ⟨f,x,y,rfl⟩))))
   ·rcases nD hb hx with⟨_,rfl⟩|⟨_,f,x,rfl⟩
    ·exact .inr (.inr (.inr (.inr (.inr (.inl rfl)))))
    ·exact .inr (.inr (.inr (.inr (.inr (.inr ⟨f,x,rfl⟩)))))
  rcases hsc with⟨a,rfl⟩|⟨a,n,c,rfl⟩|⟨a,rfl⟩|rfl|⟨f,x,y,rfl⟩|rfl|⟨t,x,rfl⟩<;>simp
 have hbin:∀q:BinOp,(q= .eql→(binOp q t v u).run P w= .ok (.bool (b&&c)) w)∧(q= .neq→(binOp q t v u).run P w= .ok (.bool (!(b&&c))) w):=by
  intro q;constructor
  ·rintro rfl
   unfold binOp;split<;>first
    |(exfalso;first|exact hvu.1 _ _ _ _ rfl rfl|exact hvu.2.1 _ _ _ _ rfl rfl|exact hvu.2.2.1 _ _ _ _ _ _ rfl rfl|exact hvu.2.2.2 _ _ rfl rfl)
    |(simp[he];done)
    |simp_all
  ·rintro rfl
   unfold binOp;split<;>first
    |(exfalso;first|exact hvu.1 _ _ _ _ rfl rfl|exact hvu.2.1 _ _ _ _ rfl rfl|exact hvu.2.2.1 _ _ _ _ _ _ rfl rfl|exact hvu.2.2.2 _ _ rfl rfl)
    |(simp[he];done)
    |simp_all
 simp only[sG]at h;split at h
 ·simp only[lα]at h;subst h;exact⟨.bool (b&&c),by simp only[Sem.run_bind,hg,Result.andThen_ok,(hbin _).1 rfl],by simp[PR]⟩
 ·simp only[lα]at h;subst h;exact⟨.bool (!(b&&c)),by simp only[Sem.run_bind,hg,Result.andThen_ok,(hbin _).2 rfl],by simp[PR]⟩
 ·simp at h
theorem DV {kd:Nat}{op:BinOp}{t:TypeId}{X Y:Operand}(hk:Tp P kd t X Y){x y:D}{v u:Value}{r:Da}(hx:VR φ w S x v)(hy:VR φ w S y u)(h:binN kd op x y=some r):
  ∃z,(do eqGuard op t X Y v u;binOp op t v u).run P w= .ok z w∧PR w S r z:=by
 unfold binN at h;cases hy1:kK kd y with
 |true=>
  simp only[hy1,cond_true]at h;have hc:=rp hy1;cases hb:fN kd x with
  |none=>simp[hb,sG]at h
  |some b=>rw[hb]at h;exact wU hk hx hy hb hc (.inr rfl) (by simpa using h)
 |false=>
  simp only[hy1,cond_false]at h;cases hx1:kK kd x with
  |true=>
   simp only[hx1,cond_true]at h;have hb:=rp hx1;cases hc:fN kd y with
   |none=>simp[hc,sG]at h
   |some c=>rw[hc]at h;exact wU hk hx hy hb hc (.inl rfl) (by simpa using h)
  |false=>simp[hx1]at h
theorem HQ {t e:TypeId}{j:TypeInfo}{X Y:Operand}(hu:P.underlying t=some (.pointer e))(hj:P.info? e=some j){x y:D}{v u:Value}{r:Da}(hx:VR φ w S x v)(hy:VR φ w S y u)(h:HP x y=some r):
  ∃z,(do eqGuard .neq t X Y v u;binOp .neq t v u).run P w= .ok z w∧PR w S r z:=by
 unfold HP at h;cases hs:CU x y with
 |false=>
  rw[hs,cond_false]at h;exact DV (.inl ⟨rfl,e,hu⟩) hx hy h
 |true=>
  rw[hs,cond_true]at h;simp only[lα]at h;subst h;unfold CU at hs;split at hs
  ·rename_i i o i' o';rw[lγ,beq_eq,beq_eq,lβ,lβ]at hs;obtain⟨rfl,rfl⟩:=hs;simp only[VR]at hx hy;obtain⟨b,h1,rfl⟩:=hx;obtain⟨b',h2,rfl⟩:=hy;rw[h1]at h2;injection h2 with h2;injection h2 with h2;subst h2;have hg:(eqGuard .neq t X Y (.pointer (some ⟨b,o,none⟩)) (.pointer (some ⟨b,o,none⟩))).run P w= .ok () w:=bS ⟨by simp,by simp⟩
   exact⟨.bool false,by simp only[Sem.run_bind,hg,Result.andThen_ok];exact Lib.run_neq_ptr_same w _ hu hj,by simp[PR]⟩
  ·cases hs
theorem WT {op:UnOp}{x:D}{v:Value}{r:Da}(hx:VR φ w S x v)(h:un op x=some r):
  ∃z,(Op.unary op v).run P w= .ok z w∧PR w S r z:=by
 unfold un at h;split at h
 ·simp only[lα,hU]at h;subst h;simp only[VR,PR]at hx;subst hx;rename_i k n;exact⟨.int k (k.wrap (0 - n)),by simp[Op.unary,Op.intArith],by simp[PR]⟩
 ·rename_i k s;simp only[VR,PR]at hx;obtain⟨n,rfl,hn⟩:=hx;obtain⟨h1,h2⟩:=pX (w:=w) (S:=S) (vH (a:= .lin 0 []) (n:=0) (by simp[SyR,fG,I8]) hn) h;exact⟨_,by simp only[Op.unary,Op.intArith,h1];rfl,h2⟩
 ·simp only[lα]at h;subst h;simp only[VR,PR]at hx;subst hx;rename_i b;exact⟨.bool (!b),by simp[Op.unary],by simp[PR]⟩
 ·simp at h
theorem Hy {d:D}{v:Value}(h:CC d=true)(hv:VR φ w S d v):(∃a,v= .pointer (some a))∨(∃f fs cs,v= .func (.func f) fs cs)∨∃t x,v= .iface t x:=by
 unfold CC at h;split at h<;>(try simp only[VR,PR]at hv)
 ·obtain⟨b,o,u,rfl,_⟩:=hv;exact .inl ⟨_,rfl⟩
 ·obtain⟨fs,cs,rfl,_⟩:=hv;exact .inr (.inl ⟨_,_,_,rfl⟩)
 ·obtain⟨u,rfl,_⟩:=hv;exact .inr (.inr ⟨_,_,rfl⟩)
 ·obtain⟨b,_,rfl⟩:=hv;exact .inl ⟨_,rfl⟩
 ·obtain⟨b,o,c,z,n,_,_,rfl⟩:=hv;exact .inl ⟨_,rfl⟩
 ·obtain⟨b,o,u,rfl,_⟩:=hv;exact .inl ⟨_,rfl⟩
 ·obtain⟨fs,cs,rfl,_⟩:=hv;exact .inr (.inl ⟨_,_,_,rfl⟩)
 ·obtain⟨u,rfl,_⟩:=hv;exact .inr (.inr ⟨_,_,rfl⟩)
 ·simp at h
end
end Go.Ab
end
section
namespace Go.Ab
open Go
variable [Letters]
section
variable {P:Program} {w:World} {S:Nat→Prop} {φ:List cb}
theorem ez {e:Da}{u:Value}(h:PR w S e u):Pw (PR w S) (cells e) u.cells.toList∧∀c∈u.cells.toList,aW c:=by
 cases e with
 |agg cs=>
  simp only[PR]at h;obtain⟨vs,rfl,h1,h2⟩:=h;exact⟨PRs_iff.1 h1,h2⟩
 |bool b=>have h':=h;simp only[PR]at h';subst h';exact⟨Pw.cons h Pw.nil,by simp[Value.cells,aW]⟩
 |int k n=>have h':=h;simp only[PR]at h';subst h';exact⟨Pw.cons h Pw.nil,by simp[Value.cells,aW]⟩
 |str s=>have h':=h;simp only[PR]at h';obtain⟨b,rfl,_⟩:=h';exact⟨Pw.cons h Pw.nil,by simp[Value.cells,aW]⟩
 |slice g es=>have h':=h;simp only[PR]at h';obtain⟨a,c,us,rfl,_⟩:=h';exact⟨Pw.cons h Pw.nil,by simp[Value.cells,aW]⟩
 |nilptr=>have h':=h;simp only[PR]at h';subst h';exact⟨Pw.cons h Pw.nil,by simp[Value.cells,aW]⟩
 |ptr x=>have h':=h;simp only[PR]at h';obtain⟨b,o,u,rfl,_⟩:=h';exact⟨Pw.cons h Pw.nil,by simp[Value.cells,aW]⟩
 |map ks vs=>have h':=h;simp only[PR]at h';obtain⟨r,es,c,rfl,_⟩:=h';exact⟨Pw.cons h Pw.nil,by simp[Value.cells,aW]⟩
 |nilmap=>have h':=h;simp only[PR]at h';subst h';exact⟨Pw.cons h Pw.nil,by simp[Value.cells,aW]⟩
 |fn f cs=>have h':=h;simp only[PR]at h';obtain⟨c0,c,rfl,_⟩:=h';exact⟨Pw.cons h Pw.nil,by simp[Value.cells,aW]⟩
 |nilfn=>have h':=h;simp only[PR]at h';subst h';exact⟨Pw.cons h Pw.nil,by simp[Value.cells,aW]⟩
 |iface t x=>have h':=h;simp only[PR]at h';obtain⟨u,rfl,_⟩:=h';exact⟨Pw.cons h Pw.nil,by simp[Value.cells,aW]⟩
 |sliceE g es=>have h':=h;simp only[PR]at h';obtain⟨⟨a,c,us,rfl,_⟩,_⟩:=h';exact⟨Pw.cons h Pw.nil,by simp[Value.cells,aW]⟩
 |sym k s=>have h':=h;simp only[PR]at h';obtain⟨n,rfl,_⟩:=h';exact⟨Pw.cons h Pw.nil,by simp[Value.cells,aW]⟩
 |nilif=>have h':=h;simp only[PR]at h';subst h';exact⟨Pw.cons h Pw.nil,by simp[Value.cells,aW]⟩
theorem n7 {d:D}{v:Value}(h:VR φ w S d v)(hc:(bk d).all cO=true):Pw (VR φ w S) (bk d) v.cells.toList∧∀c∈v.cells.toList,aW c:=by
 cases d with
 |p x=>
  simp only[VR]at h;obtain⟨h1,h2⟩:=ez h;refine⟨?_,h2⟩;cases x<;>simp only[bk,cells]at h1 ⊢ <;>first
   |exact Pw.map_left (h1.mono fun _ _ h=>by simpa only[VR]using h)
   |exact h1.map_left (f:=D.p) |>.mono (fun _ _ h=>h)
   |(obtain⟨u,us,e1,e2,e3⟩:=h1.cons_inv;rw[e1];exact Pw.cons (by simpa only[VR]using e2) (by have:=e3.nil_inv;subst this;exact Pw.nil))
 |agg ds=>
  simp only[VR]at h;obtain⟨vs,rfl,h1,h2⟩:=h;exact⟨VRs_iff.1 h1,h2⟩
 |tup ds=>simp[bk,cO]at hc
 |junk=>simp[bk,cO]at hc
 |box id off=>have h':=h;simp only[VR]at h';obtain⟨b,_,rfl⟩:=h';exact⟨Pw.cons h Pw.nil,by simp[Value.cells,aW]⟩
 |el id i off=>have h':=h;simp only[VR]at h';obtain⟨b,o,c,z,n,_,_,rfl⟩:=h';exact⟨Pw.cons h Pw.nil,by simp[Value.cells,aW]⟩
 |ip x off=>have h':=h;simp only[VR]at h';obtain⟨b,o,u,rfl,_⟩:=h';exact⟨Pw.cons h Pw.nil,by simp[Value.cells,aW]⟩
 |sl g z es=>have h':=h;simp only[VR]at h';obtain⟨a,c,us,rfl,_⟩:=h';exact⟨Pw.cons h Pw.nil,by simp[Value.cells,aW]⟩
 |arr id lo len z=>have h':=h;simp only[VR]at h';obtain⟨b,o,c,n,a,_,_,_,rfl,_⟩:=h';exact⟨Pw.cons h Pw.nil,by simp[Value.cells,aW]⟩
 |map id=>have h':=h;simp only[VR]at h';obtain⟨b,_,rfl⟩:=h';exact⟨Pw.cons h Pw.nil,by simp[Value.cells,aW]⟩
 |fn f cs=>have h':=h;simp only[VR]at h';obtain⟨c0,c,rfl,_⟩:=h';exact⟨Pw.cons h Pw.nil,by simp[Value.cells,aW]⟩
 |iface t d=>have h':=h;simp only[VR]at h';obtain⟨u,rfl,_⟩:=h';exact⟨Pw.cons h Pw.nil,by simp[Value.cells,aW]⟩
theorem qG:∀{ds:List D} {xs:List Da} {us:List Value},gp ds=some xs→Pw (VR φ w S) ds us→Pw (PR w S) xs us
 |[],xs,us,h,hp=>by simp only[gp,lα]at h;subst h;have:=hp.nil_inv;subst this;exact Pw.nil
 | .p x::r,xs,us,h,hp=>by
  simp only[gp]at h;split at h
  ·rename_i ys hy;simp only[lα]at h;subst h;obtain⟨u,us',rfl,h1,h2⟩:=hp.cons_inv;exact Pw.cons (by simpa only[VR]using h1) (qG hy h2)
  ·simp at h
 | .agg _::_,_,_,h,_=>by simp[gp]at h
 | .tup _::_,_,_,h,_=>by simp[gp]at h
 | .box _ _::_,_,_,h,_=>by simp[gp]at h
 | .el _ _ _::_,_,_,h,_=>by simp[gp]at h
 | .ip _ _::_,_,_,h,_=>by simp[gp]at h
 | .arr _ _ _ _::_,_,_,h,_=>by simp[gp]at h
 | .sl _ _ _::_,_,_,h,_=>by simp[gp]at h
 | .map _::_,_,_,h,_=>by simp[gp]at h
 | .fn _ _::_,_,_,h,_=>by simp[gp]at h
 | .iface _ _::_,_,_,h,_=>by simp[gp]at h
 | .junk::_,_,_,h,_=>by simp[gp]at h
theorem nG {ds:List D}{us:List Value}(h:Pw (VR φ w S) ds us)(hs:∀c∈us,aW c):VR φ w S (xR ds) (.agg us.toArray):=by
 unfold xR;split
 ·rename_i xs hx;simp only[VR,PR];exact⟨us.toArray,rfl,PRs_iff.2 (by simpa using qG hx h),by simpa using hs⟩
 ·simp only[VR];exact⟨us.toArray,rfl,VRs_iff.2 (by simpa using h),by simpa using hs⟩
theorem C1 {α:Type}{l:List α}{off n:Nat}{r:List α}(h:sub l off n=some r):off+n≤l.length∧r=(l.drop off).take n:=by
 unfold sub at h;rw[ble_eq]at h;by_cases hl:off+n≤l.length
 ·simp[hl]at h;exact⟨hl,h.symm⟩
 ·simp[hl]at h
structure gn (P:Program)(t:TypeId)(y:Ty):Prop where
 info:∃i,P.info? t=some i∧i.size=y.size∧i.bytes=y.bytes
 und:P.underlying t=some y.desc
 agg:y.agg=Hl y.desc
 pos:0<y.size
theorem cW {t:TypeId}{y:Ty}(h:ty P t=some y):gn P t y:=by
 unfold ty at h;split at h
 ·rename_i i d hi hd;rw[blt_eq]at h;by_cases hp:0<i.size
  ·simp[hp]at h;subst h;exact⟨⟨i,hi,rfl,rfl⟩,hd,rfl,hp⟩
  ·simp[hp]at h
 ·simp at h
theorem gn.cellsOf {t:TypeId}{y:Ty}(h:gn P t y):P.cellsOf t=y.size:=by
 obtain⟨i,hi,hs,_⟩:=h.info;simp[Program.cellsOf,hi,hs]
theorem gn.sizeOf {t:TypeId}{y:Ty}(h:gn P t y)(w:World):(Go.sizeOf t).run P w= .ok y.size w:=by
 obtain⟨i,hi,hs,_⟩:=h.info;simp[Go.sizeOf,typeInfo,hi,hs]
theorem gn.isAgg {t:TypeId}{y:Ty}(h:gn P t y)(w:World):(Go.isAgg t).run P w= .ok y.agg w:=by
 simp only[Go.isAgg,Sem.run_bind,run_underlying h.und,Result.andThen_ok,h.agg];cases y.desc<;>rfl
theorem cz (b o n:Nat):(⟨b,o,none⟩:Addr).add n=⟨b,o+n,none⟩:=by
 unfold Addr.add;split
 ·rename_i h;subst h;simp
 ·rfl
theorem FI {t:TypeId}{y:Ty}(ht:gn P t y){b o:Nat}{cs:List Value}(hl:cs.length=y.size)(h:∀(j:Nat) c,cs[j]?=some c→w.cell? ⟨b,o+j,none⟩=some c):
  (y.agg=true→(loadVar t ⟨b,o,none⟩).run P w= .ok (.agg cs.toArray) w)∧(y.agg=false→∀c,cs[0]?=some c→(loadVar t ⟨b,o,none⟩).run P w= .ok c w):=by
 constructor
 ·intro ha;have:=run_loadCells_list (P:=P) w ⟨b,o,none⟩ cs (fun j v hj=>by rw[cz];exact h j v hj);simp only[loadVar,Sem.run_bind,ht.isAgg,Result.andThen_ok,ha,if_true,ht.sizeOf,←hl,this,Sem.run_pure]
 ·intro ha c hc;have:=h 0 c hc;simp only[Nat.add_zero]at this;simp only[loadVar,Sem.run_bind,ht.isAgg,Result.andThen_ok,ha,Bool.false_eq_true,if_false,run_load,this]
theorem pW {t:TypeId}{y:Ty}(ht:gn P t y){b o:Nat}{ds:List D}{us:List Value}{d:D}(hp:Pw (VR φ w S) ds us)(hs:∀c∈us,aW c)(hl:us.length=y.size)
  (h:∀(j:Nat) c,us[j]?=some c→w.cell? ⟨b,o+j,none⟩=some c) (hd:dz y.agg ds=some d):
  ∃v,(loadVar t ⟨b,o,none⟩).run P w= .ok v w∧VR φ w S d v:=by
 obtain⟨h1,h2⟩:=FI ht hl h;cases ha:y.agg with
 |true=>
  rw[ha]at hd;simp only[dz,cond_true,lα]at hd;subst hd;exact⟨_,h1 ha,nG hp hs⟩
 |false=>
  rw[ha]at hd;simp only[dz,cond_false]at hd;split at hd
  ·rename_i x;simp only[lα]at hd;subst hd;obtain⟨u,us',rfl,e1,e2⟩:=hp.cons_inv;exact⟨u,h2 ha u rfl,e1⟩
  ·simp at hd
theorem kH {us:List Value}{off n j:Nat}{c:Value}(h:((us.drop off).take n)[j]?=some c):us[off+j]?=some c:=by
 rw[List.getElem?_take]at h;split at h
 ·rwa [List.getElem?_drop]at h
 ·simp at h
theorem vg {us:List Value}{off n:Nat}(h:∀c∈us,aW c):∀c∈(us.drop off).take n,aW c:=
 fun c hc=>h c (mι (qδ hc))
theorem vx {t:TypeId}{y:Ty}(ht:gn P t y){b o off:Nat}{e:Da}{u:Value}{ds:List Da}{d:D}(hu:PR w S e u)(hh:uc w b o u.cells)(hs:sub (cells e) off y.size=some ds)
  (hd:dz y.agg (ds.map .p)=some d):∃v,(loadVar t ⟨b,o+off,none⟩).run P w= .ok v w∧VR φ w S d v:=by
 obtain⟨hl,rfl⟩:=C1 hs;obtain⟨h1,h2⟩:=ez hu;refine pW ht (us:=(u.cells.toList.drop off).take y.size) (Pw.map_left ?_) (vg h2) ?_ ?_ hd
 ·exact((h1.drop off).take y.size).mono fun _ _ h=>by simpa only[VR]using h
 ·have:=h1.1;simp only[mγ,lτ];omega
 ·intro j c hj;have:=kH hj;rw[Nat.add_assoc];exact hh _ c (by simpa using this)
end
end Go.Ab
end
section
namespace Go.Ab
open Go
variable [Letters]
structure Cx (G:bF)(a:Act)(φ:List cb)(w:World)(S:Nat→Prop)(hp:List Ob)(tm:Tm):Prop where
 tmr:Ml φ w S tm a
 gr:GR G w S
 hr:HR φ w S hp
section
variable {P:Program} {G:bF} {o:Oper} {a:Act} {φ:List cb} {w:World} {S:Nat→Prop} {hp:List Ob} {tm:Tm} {base:Nat}
theorem ef {id:Nat}{x:Ob}(h:aP hp id=x)(hx:x≠ .dead):hp[id]?=some x:=by
 unfold aP at h;rw[lρ]at h;cases hc:hp[id]? with
 |none=>rw[hc]at h;simp at h;exact absurd h.symm hx
 |some y=>rw[hc]at h;simp at h;rw[h]
theorem cB {x:O}{r:Option A}{z:O×List A}(h:oB x r=some z):∃y,r=some y∧z=(x,[y]):=by
 unfold oB at h;split at h
 ·rename_i y;simp only[lα]at h;exact⟨y,rfl,h.symm⟩
 ·simp at h
theorem gW {x:O}{r s:Option A}{z:O×List A}(h:two x r s=some z):∃y u,r=some y∧s=some u∧z=(x,[y,u]):=by
 unfold two at h;split at h
 ·rename_i y u;simp only[lα]at h;exact⟨y,u,rfl,rfl,h.symm⟩
 ·simp at h
theorem jV {d d':D}{ups:List (Nat×Ob)}{new:List Ob}(h:val d=some (d',ups,new)):d'=d∧ups=[]∧new=[]:=by
 simp only[val,lα,lκ]at h;exact⟨h.1.symm,h.2.1.symm,h.2.2.symm⟩
theorem FS {r:Option Da}{d':D}{ups:List (Nat×Ob)}{new:List Ob}(h:jB r=some (d',ups,new)):∃x,r=some x∧d'= .p x∧ups=[]∧new=[]:=by
 unfold jB at h;split at h
 ·rename_i x;simp only[lα,lκ]at h;exact⟨x,rfl,h.1.symm,h.2.1.symm,h.2.2.symm⟩
 ·simp at h
theorem aA (cx:Cx G a φ w S hp tm){d d':D}{ups:List (Nat×Ob)}{new:List Ob}(h:val d=some (d',ups,new)){v:Value}(hrun:(execOp a.eval o).run P w= .ok (.value v) w)(hv:VR φ w S d v):
  EffOk P o a φ w S hp base d' (grow (ao hp ups) new):=by
 obtain⟨rfl,rfl,rfl⟩:=jV h;exact EffOk.value cx.hr hrun hv
theorem gE (cx:Cx G a φ w S hp tm){r:Option Da}{d':D}{ups:List (Nat×Ob)}{new:List Ob}(h:jB r=some (d',ups,new))
  (hrun:∀x,r=some x→∃v,(execOp a.eval o).run P w= .ok (.value v) w∧PR w S x v):
  EffOk P o a φ w S hp base d' (grow (ao hp ups) new):=by
 obtain⟨x,rfl,rfl,rfl,rfl⟩:=FS h;obtain⟨v,h1,h2⟩:=hrun x rfl;exact EffOk.value cx.hr h1 (by simpa only[VR]using h2)
theorem O7 (cx:Cx G a φ w S hp tm){t:TypeId}{x:Operand}{y:Ty}{ax:A}(ho:o.op= .load t x)(ht:ty P t=some y){tx:TypeId}(hx:cA P G tx x=some ax){d:D}{ups:List (Nat×Ob)}{new:List Ob}
  (h:fK y.size y.agg [ev tm ax] ((bj (.load y.size y.agg) [ev tm ax] hp).map (aP hp))=some (d,ups,new)):EffOk P o a φ w S hp base d (grow (ao hp ups) new):=by
 have hv:=aU cx.tmr cx.gr hx;have ht:=cW ht;have hex:∀b off v,a.eval x= .pointer (some ⟨b,off,none⟩)→(loadVar t ⟨b,off,none⟩).run P w= .ok v w→(execOp a.eval o).run P w= .ok (.value v) w:=by
  intro b off v e1 e2;simp[execOp,ho,e1,Instr.loadAt,Instr.sureAddr,e2]
 generalize ev tm ax=dx at*
 unfold fK at h;split at h
 ·rename_i id off heq;simp only[lμ,and_true]at heq;subst heq;simp only[bj,dids,List.map_cons,List.map_nil]at h;split at h
  ·rename_i cs hcs;simp only[lμ,and_true]at hcs;have hob:=ef hcs (by simp);simp only[VR]at hv;obtain⟨b,hb,hv⟩:=hv;obtain⟨vs,t',fz,h1,h2,h3,h4,_⟩:=cx.hr.obj id _ _ hb hob;split at h
   ·rename_i ds hds;split at h
    ·rename_i d0 hd0;obtain⟨hl,rfl⟩:=C1 hds;obtain⟨v,e1,e2⟩:=pW ht (b:=b) (o:=off) ((h3.drop off).take y.size) (vg h4) (by have:=h3.1;simp only[mγ,lτ];omega)
      (fun j c hj=>by
       have:=kH hj;simp only[World.cell?,h1];simpa using this) hd0
     exact aA cx h (hex _ _ _ hv e1) e2
    ·simp at h
   ·simp at h
  ·simp at h
 ·rename_i id i off heq;simp only[lμ,and_true]at heq;subst heq;simp only[bj,dids,List.map_cons,List.map_nil]at h;simp only[VR]at hv;obtain⟨b,o',cap,z,n,hb,hi,hv⟩:=hv;split at h
  ·rename_i es hcs;simp only[lμ,and_true]at hcs;have hob:=ef hcs (by simp);obtain⟨h1,h2,h3,us,h4,h5⟩:=cx.hr.obj id _ _ hb hob;split at h
   ·rename_i e he;obtain⟨u,hu,hr⟩:=h4.get he;split at h
    ·rename_i ds hds;split at h
     ·rename_i d0 hd0;obtain⟨v,e1,e2⟩:=vx ht hr (h5 i u hu).2 hds hd0;exact aA cx h (hex _ _ _ hv e1) e2
     ·simp at h
    ·simp at h
   ·simp at h
  ·rename_i es hcs;simp only[lμ,and_true]at hcs;have hob:=ef hcs (by simp);obtain⟨h1,h2,h3,us,h4,h5⟩:=cx.hr.obj id _ _ hb hob;split at h
   ·rename_i e he;obtain⟨u,hu,hr⟩:=h4.get he;split at h
    ·rename_i ds hds;split at h
     ·rename_i d0 hd0;obtain⟨v,e1,e2⟩:=vx ht hr (h5 i u hu).2 hds hd0;exact aA cx h (hex _ _ _ hv e1) e2
     ·simp at h
    ·simp at h
   ·simp at h
  ·simp at h
 ·rename_i x' off heq;simp only[lμ,and_true]at heq;subst heq;simp only[VR]at hv;obtain⟨b,o',u,hv,hb,hr,hh⟩:=hv;split at h
  ·rename_i ds hds;split at h
   ·rename_i d0 hd0;obtain⟨v,e1,e2⟩:=vx ht hr hh hds hd0;exact aA cx h (hex _ _ _ hv e1) e2
   ·simp at h
  ·simp at h
 ·rename_i x' heq;simp only[lμ,and_true]at heq;subst heq;simp only[VR,PR]at hv;obtain⟨b,o',u,hv,hb,hr,hh⟩:=hv;split at h
  ·rename_i ds hds;split at h
   ·rename_i d0 hd0;obtain⟨v,e1,e2⟩:=vx ht hr hh hds hd0;exact aA cx h (hex _ _ _ (by simpa using hv) e1) e2
   ·simp at h
  ·simp at h
 ·simp at h
end
end Go.Ab
end
section
namespace Go.Ab
open Go
variable [Letters]
section
variable {P:Program} {G:bF} {o:Oper} {a:Act} {φ:List cb} {w:World} {S:Nat→Prop} {hp:List Ob} {tm:Tm} {base:Nat}
theorem aK {t:TypeId}{d:TypeDesc}(h:und P t=d)(hd:d≠ .invalid):P.underlying t=some d:=by
 unfold und at h;cases hu:P.underlying t with
 |none=>rw[hu]at h;simp at h;exact absurd h.symm hd
 |some e=>rw[hu]at h;simp at h;rw[h]
theorem Pc (cx:Cx G a φ w S hp tm){x:Operand}{tx:TypeId}{ax:A}(ho:o.op= .move x∨o.op= .assign x)(hx:cA P G tx x=some ax){d:D}{ups:List (Nat×Ob)}{new:List Ob}
  (h:WZ [ev tm ax]=some (d,ups,new)):EffOk P o a φ w S hp base d (grow (ao hp ups) new):=by
 have hv:=aU cx.tmr cx.gr hx;refine aA cx h (v:=a.eval x) ?_ hv;rcases ho with ho|ho<;>simp[execOp,ho]
theorem Pd (cx:Cx G a φ w S hp tm){c x y:Operand}{tc tx tY:TypeId}{ac ax ay:A}(ho:o.op= .pick c x y)(hc:cA P G tc c=some ac)(hx:cA P G tx x=some ax)(hy:cA P G tY y=some ay){d:D}{ups:List (Nat×Ob)}{new:List Ob}
  (h:zR [ev tm ac,ev tm ax,ev tm ay]=some (d,ups,new)):EffOk P o a φ w S hp base d (grow (ao hp ups) new):=by
 have h1:=aU cx.tmr cx.gr hc;have h2:=aU cx.tmr cx.gr hx;have h3:=aU cx.tmr cx.gr hy;generalize ev tm ac=dc at*
 unfold zR at h;split at h
 ·rename_i b x' y' heq;simp only[lμ,and_true]at heq;obtain⟨rfl,rfl,rfl⟩:=heq;simp only[VR,PR]at h1;refine aA cx h (v:=if b then a.eval x else a.eval y) ?_ ?_
  ·simp[execOp,ho,h1,asBool]
  ·cases b<;>simpa
 ·simp at h
theorem G8 {d:Nat}{t:TypeId}{k:Nat}(hk:nl P t=some k){x y:Da}{v u:Value}(hx:PR w S x v)(hy:PR w S y u){b:Bool}(h:sP k x y=some b):(Op.equalIn (d+1) t v u).run P w= .ok b w:=by
 unfold nl at hk;split at hk
 ·split at hk<;>simp only[lα,reduceCtorEq]at hk<;>subst hk<;>rename_i hu
  ·simp only[sP]at h;split at h
   ·split at h
    ·rename_i hij;subst hij;simp only[PR]at hx hy;subst hx hy;rw[run_equalIn_int w d t _ _ _ _ (aK hu (by simp)),←Option.some.inj h,f9]
    ·cases h
   ·split at h
    ·rename_i c hb;unfold BQ at hb;split at hb
     ·rename_i k a k' b' hsx hsy;split at hb
      ·rename_i hk;subst hk;obtain⟨n,rfl,hn⟩:=rJ hsx hx;obtain⟨m,rfl,hm⟩:=rJ hsy hy;obtain⟨e,he,hr⟩:=wW (show qI true (Ps (yI a b'))=some (.bool c)from hb);have:=B8 (vH hn hm) he;rw[run_equalIn_int w d t _ _ _ _ (aK hu (by simp)),←Option.some.inj h];simp only[Da.bool.injEq]at hr;rw[hr,this];congr 1;by_cases hnm:n=m
       ·subst hnm;simp
       ·have:¬n - m=0:=by omega
        simp[hnm,this]
      ·cases hb
     ·cases hb
    ·cases h
  ·simp only[sP]at h;split at h
   ·simp only[PR]at hx hy;obtain⟨a',rfl,rfl⟩:=hx;obtain⟨b',rfl,rfl⟩:=hy;rw[run_equalIn_string w d t _ _ (aK hu (by simp)),←Option.some.inj h,B7,ByteArray.toList_eq,ByteArray.toList_eq]
   ·cases h
  ·simp only[sP]at h;split at h
   ·simp only[PR]at hx hy;subst hx hy;rw[run_equalIn_bool' w d t _ _ (aK hu (by simp)),←Option.some.inj h]
   ·cases h
 ·cases hk
theorem D2 {t:TypeId}{k:Nat}(hk:nl P t=some k):∃y,gn P t y∧y.agg=false:=by
 unfold nl at hk;split at hk
 ·rename_i y hy;refine⟨y,cW hy,?_⟩;have h:=cW hy;rw[h.agg];have hd:und P t=y.desc:=by unfold und;rw[h.und];rfl
  rw[hd]at hk;split at hk<;>first|(rename_i e;rw[e];rfl)|cases hk
 ·cases hk
theorem AI {t:TypeId}{y:Ty}(ht:gn P t y)(ha:y.agg=false){vs:Array Value}{off:Nat}{u:Value}(hc:vs[off]?=some u):(part t vs off).run P w= .ok u w:=by
 simp only[part,Sem.run_bind,ht.isAgg,Result.andThen_ok,ha,Bool.false_eq_true,if_false,hc,Sem.run_pure]
theorem qU {d:Nat}{vs us:Array Value}{xs0 ys0:List Da}(hx:Pw (PR w S) xs0 vs.toList)(hy:Pw (PR w S) ys0 us.toList):∀(fs:List Field) (n:Nat) (ks:List Nat),pN P fs n=some ks→∀{b:Bool},f8 ks (xs0.drop n) (ys0.drop n)=some b→(Op.eqFields (d+1) vs us fs).run P w= .ok b w
 |[],n,ks,hk,b,h=>by
  simp only[pN,lα]at hk;subst hk;simp only[f8,lα]at h;subst h;simp[Op.eqFields]
 |f::r,n,ks,hk,b,h=>by
  simp only[pN]at hk;split at hk
  ·rename_i k hck;cases hq : (Nat.beq f.offset n && !(f.name == "_")) with
   |false=>rw[hq]at hk;cases hk
   |true=>
    rw[hq,cond_true]at hk;rw[lγ]at hq;have ho:=lζ hq.1;have hn : f.name ≠ "_" := by
     intro e;rw[e]at hq;simp at hq
    split at hk
    ·rename_i ks' hks;simp only[lα]at hk;subst hk;cases hxn:xs0.drop n with
     |nil=>rw[hxn]at h;simp[f8]at h
     |cons x xs=>
      cases hyn:ys0.drop n with
      |nil=>rw[hxn,hyn]at h;simp[f8]at h
      |cons y ys=>
       have ex:xs0[n]?=some x:=by rw[←Nat.add_zero n,←List.getElem?_drop,hxn];rfl
       have ey:ys0[n]?=some y:=by rw[←Nat.add_zero n,←List.getElem?_drop,hyn];rfl
       have ex':xs0.drop (n+1)=xs:=by rw[←mκ,hxn];rfl
       have ey':ys0.drop (n+1)=ys:=by rw[←mκ,hyn];rfl
       obtain⟨v,hv,pv⟩:=hx.get ex;obtain⟨u,hu,pu⟩:=hy.get ey;obtain⟨yt,ht,ha⟩:=D2 hck;have p1:=AI (w:=w) ht ha (vs:=vs) (off:=f.offset) (u:=v) (by rw[ho];simpa using hv);have p2:=AI (w:=w) ht ha (vs:=us) (off:=f.offset) (u:=u) (by rw[ho];simpa using hu);rw[hxn,hyn]at h;simp only[f8]at h;split at h
       ·rename_i c hc;have p3:=G8 (d:=d) hck pv pu hc;simp only[Op.eqFields,hn,ne_eq,not_false_eq_true,if_true,Sem.run_bind,p1,p2,p3,Result.andThen_ok];cases c with
        |false=>
         simp only[cond_false,lα]at h;subst h;simp
        |true=>
         rw[cond_true]at h;simp only[Bool.not_true,Bool.false_eq_true,if_false];exact qU hx hy r (n+1) ks' hks (by rw[ex',ey'];exact h)
       ·cases h
    ·cases hk
  ·cases hk
theorem NP {op:BinOp}{t:TypeId}{X Y:Operand}{fs:Array Field}{ks:List Nat}(hu:P.underlying t=some (.struct fs))(hk:pN P fs.toList 0=some ks)(hp1:P.stoodInHeld t=false)(hp2:P.eqGuardType P.depth t=false){x y:D}{v u:Value}{r:Da}(hx:VR φ w S x v)(hy:VR φ w S y u)(h:binS ks op x y=some r):
  ∃z,(do eqGuard op t X Y v u;binOp op t v u).run P w= .ok z w∧PR w S r z:=by
 unfold binS at h;split at h
 ·rename_i xs ys;simp only[VR,PR]at hx hy;obtain⟨vs,rfl,px,_⟩:=hx;obtain⟨us,rfl,py,_⟩:=hy;have hg:=run_eqGuard_agg w op t X Y vs us hp2;have hf:P.fieldsOf t=fs:=by unfold Program.fieldsOf;rw[hu]
  split at h
  ·rename_i b hb;have he:(Op.equalIn 10000 t (.agg vs) (.agg us)).run P w= .ok b w:=by
    rw[run_equalIn_struct w 9999 t vs us (by rw[hf];exact hu) hp1,hf];exact qU (d:=9998) (PRs_iff.1 px) (PRs_iff.1 py) fs.toList 0 ks hk (by simpa using hb)
   split at h
   ·simp only[lα]at h;subst h;exact⟨.bool b,by simp only[Sem.run_bind,hg,Result.andThen_ok,run_eql_struct,he],by simp[PR]⟩
   ·simp only[lα]at h;subst h;exact⟨.bool (!b),by simp only[Sem.run_bind,hg,Result.andThen_ok,run_neq_struct,he],by simp[PR]⟩
   ·cases h
  ·cases h
 ·cases h
theorem Sx (cx:Cx G a φ w S hp tm){op:BinOp}{t yt:TypeId}{x y:Operand}{q:O}{ax ay:A}(ho:o.op= .binOp op t x y yt)(hq:NW P op t x y=some q)(hx:cA P G t x=some ax)(hy:cA P G t y=some ay)
  {call:aG} {k len:Nat} {ids:List Nat} {obs:List Ob} {d:D} {ups:List (Nat×Ob)} {new:List Ob}
  (h:k8 call base q k [ev tm ax,ev tm ay] ids obs len=some (d,ups,new)):EffOk P o a φ w S hp base d (grow (ao hp ups) new):=by
 have h1:=aU cx.tmr cx.gr hx;have h2:=aU cx.tmr cx.gr hy;have hex:∀z,(do eqGuard op t x y (a.eval x) (a.eval y);binOp op t (a.eval x) (a.eval y)).run P w= .ok z w→(execOp a.eval o).run P w= .ok (.value z) w:=by
  intro z hz;simp only[execOp,ho];simp only[Sem.run_bind]at hz ⊢
  rw[hz];rfl
 have kbin:q= .bin op→EffOk P o a φ w S hp base d (grow (ao hp ups) new):=by
  rintro rfl
  simp only[k8,zh]at h;exact gE cx h fun r hr=>by
   obtain⟨z,e1,e2⟩:=R4 (P:=P) (t:=t) (X:=x) (Y:=y) h1 h2 hr;exact⟨z,hex z e1,e2⟩
 have kB:P.underlying t=some .bool→q= .binB op→EffOk P o a φ w S hp base d (grow (ao hp ups) new):=by
  rintro hu rfl
  simp only[k8,Iw]at h;exact gE cx h fun r hr=>by
   obtain⟨z,e1,e2⟩:=NM (P:=P) (t:=t) (X:=x) (Y:=y) hu h1 h2 hr;exact⟨z,hex z e1,e2⟩
 have kN:∀kd,Tp P kd t x y→q= .binN kd op→EffOk P o a φ w S hp base d (grow (ao hp ups) new):=by
  rintro kd hk rfl
  simp only[k8,Iy]at h;exact gE cx h fun r hr=>by
   obtain⟨z,e1,e2⟩:=DV (P:=P) (t:=t) (X:=x) (Y:=y) hk h1 h2 hr;exact⟨z,hex z e1,e2⟩
 have kP:∀e,P.underlying t=some (.pointer e)→Js P op e=true→q= .pne→EffOk P o a φ w S hp base d (grow (ao hp ups) new):=by
  rintro e hu hn rfl
  simp only[k8,Vh]at h;unfold Js at hn;split at hn
  ·obtain⟨j,hj⟩:=Option.isSome_iff_exists.1 hn;exact gE cx h fun r hr=>by
    obtain⟨z,e1,e2⟩:=HQ (P:=P) (t:=t) (X:=x) (Y:=y) hu hj h1 h2 hr;exact⟨z,hex z e1,e2⟩
  ·cases hn
 have kS:∀fs ks,P.underlying t=some (.struct fs)→pN P fs.toList 0=some ks→P.stoodInHeld t=false→P.eqGuardType P.depth t=false→q= .binS ks op→EffOk P o a φ w S hp base d (grow (ao hp ups) new):=by
  rintro fs ks hu hk hp1 hp2 rfl
  simp only[k8,wP]at h;exact gE cx h fun r hr=>by
   obtain⟨z,e1,e2⟩:=NP (P:=P) (t:=t) (X:=x) (Y:=y) hu hk hp1 hp2 h1 h2 hr;exact⟨z,hex z e1,e2⟩
 unfold NW at hq;cases he:XC op with
 |true=>
  simp only[he,cond_true]at hq;split at hq
  ·simp only[lα]at hq;exact kbin hq.symm
  ·simp only[lα]at hq;exact kbin hq.symm
  ·rename_i hu;simp only[lα]at hq;exact kB (aK hu (by simp)) hq.symm
  ·rename_i e hu;cases hpn:Js P op e with
   |true=>simp only[hpn,cond_true,lα]at hq;exact kP e (aK hu (by simp)) hpn hq.symm
   |false=>simp only[hpn,cond_false,lα]at hq;exact kN 0 (.inl ⟨rfl,e,aK hu (by simp)⟩) hq.symm
  ·rename_i e hu;simp only[lα]at hq;exact kN 1 (.inr (.inl ⟨rfl,e,aK hu (by simp)⟩)) hq.symm
  ·rename_i k e hu;simp only[lα]at hq;exact kN 2 (.inr (.inr (.inl ⟨rfl,k,e,aK hu (by simp)⟩))) hq.symm
  ·rename_i x1 x2 x3 hu;simp only[lα]at hq;exact kN 3 (.inr (.inr (.inr (.inl ⟨rfl,_,_,_,aK hu (by simp)⟩)))) hq.symm
  ·rename_i ms hu;cases hc:(gI x||gI y)with
   |true=>simp only[hc,cond_true,lα]at hq;exact kN 4 (.inr (.inr (.inr (.inr ⟨rfl,hc,ms,aK hu (by simp)⟩)))) hq.symm
   |false=>simp[hc]at hq
  ·rename_i fs hu;split at hq
   ·rename_i ks hk;cases h1':P.stoodInHeld t<;>cases h2':P.eqGuardType P.depth t<;>simp only[h1',h2',Bool.not_true,Bool.not_false,Bool.and_true,Bool.and_false,cond_true,cond_false,lα,reduceCtorEq]at hq;exact kS fs ks (aK hu (by simp)) hk h1' h2' hq.symm
   ·simp at hq
  ·simp at hq
 |false=>
  simp only[he,cond_false]at hq;split at hq
  ·simp only[lα]at hq;exact kbin hq.symm
  ·simp only[lα]at hq;exact kbin hq.symm
  ·simp at hq
theorem Pg (cx:Cx G a φ w S hp tm){op:UnOp}{t tx:TypeId}{x:Operand}{ax:A}(ho:o.op= .unOp op t x)(hx:cA P G tx x=some ax){d:D}{ups:List (Nat×Ob)}{new:List Ob}
  (h:Xf op [ev tm ax]=some (d,ups,new)):EffOk P o a φ w S hp base d (grow (ao hp ups) new):=by
 have h1:=aU cx.tmr cx.gr hx;simp only[Xf]at h;exact gE cx h fun r hr=>by
  obtain⟨z,e1,e2⟩:=WT (P:=P) h1 hr;exact⟨z,by simp[execOp,ho,e1],e2⟩
theorem KT (cx:Cx G a φ w S hp tm){tx:TypeId}{x:Operand}{ax:A}(ho:o.op= .nilCheck x)(hx:cA P G tx x=some ax){d:D}{ups:List (Nat×Ob)}{new:List Ob}
  (h:pE [ev tm ax]=some (d,ups,new)):EffOk P o a φ w S hp base d (grow (ao hp ups) new):=by
 have h1:=aU cx.tmr cx.gr hx;simp only[pE]at h;cases hn:CC (ev tm ax)with
 |false=>simp[hn]at h
 |true=>
  simp only[hn,cond_true]at h;refine aA cx h (v:=a.eval x) ?_ h1;rcases Hy hn h1 with⟨p,e⟩|⟨f,fs,cs,e⟩|⟨t,v,e⟩<;>simp[execOp,ho,e]
theorem VW (cx:Cx G a φ w S hp tm){s:TypeId}{x:Operand}{i:Nat}{tx:TypeId}{ax:A}{fs:Array Field}{f:Field}{y:Ty}(ho:o.op= .fieldAddr s x i)(hs:und P s= .struct fs)(hf:fs[i]?=some f)(ht:ty P f.type=some y)
  (hx:cA P G tx x=some ax) {d:D} {ups:List (Nat×Ob)} {new:List Ob} (h:Vg f.offset [ev tm ax]=some (d,ups,new)):EffOk P o a φ w S hp base d (grow (ao hp ups) new):=by
 have h1:=aU cx.tmr cx.gr hx;have hu:=aK hs (by simp);have hty:=cW ht;have hex:∀b off,a.eval x= .pointer (some ⟨b,off,none⟩)→(execOp a.eval o).run P w= .ok (.value (.pointer (some ⟨b,off+f.offset,none⟩))) w:=by
  intro b off e;have hne:¬y.size=0:=by have:=hty.pos;omega
  simp[execOp,ho,e,Instr.fieldAt,run_underlying hu,hf,Instr.sureAddr,fieldPlace,hty.sizeOf,hne,cz]
 generalize ev tm ax=dx at*
 unfold Vg at h;split at h
 ·rename_i id off heq;simp only[lμ,and_true]at heq;subst heq;simp only[VR]at h1;obtain⟨b,hb,hv⟩:=h1;exact aA cx h (hex _ _ hv) (by simp only[VR];exact⟨b,hb,rfl⟩)
 ·rename_i id i' off heq;simp only[lμ,and_true]at heq;subst heq;simp only[VR]at h1;obtain⟨b,o',cap,z,n,hb,hi,hv⟩:=h1;exact aA cx h (hex _ _ hv) (by simp only[VR];exact⟨b,o',cap,z,n,hb,hi,by rw[Nat.add_assoc]⟩)
 ·rename_i x' off heq;simp only[lμ,and_true]at heq;subst heq;simp only[VR]at h1;obtain⟨b,o',u,hv,hb,hr,hh⟩:=h1;exact aA cx h (hex _ _ hv) (by simp only[VR];exact⟨b,o',u,by rw[Nat.add_assoc],hb,hr,hh⟩)
 ·rename_i x' heq;simp only[lμ,and_true]at heq;subst heq;simp only[VR,PR]at h1;obtain⟨b,o',u,hv,hb,hr,hh⟩:=h1;exact aA cx h (hex _ _ hv) (by simp only[VR];exact⟨b,o',u,rfl,hb,hr,hh⟩)
 ·simp at h
end
end Go.Ab
end
section
namespace Go.Ab
open Go
variable [Letters]
section
variable {P:Program} {G:bF} {o:Oper} {a:Act} {φ:List cb} {w:World} {S:Nat→Prop} {hp:List Ob} {tm:Tm} {base:Nat} {d:D} {ups:List (Nat×Ob)} {new:List Ob}
theorem O6 (cx:Cx G a φ w S hp tm){s t tx:TypeId}{x:Operand}{ax:A}{q:O}(ho:o.op= .convert s t x)(hq:qJ P s t=some q)(hx:cA P G tx x=some ax){call:aG}{k len:Nat}{ids:List Nat}{obs:List Ob}
  (h:k8 call base q k [ev tm ax] ids obs len=some (d,ups,new)) (hn:q≠ .b2s∧q≠ .s2b∧q≠ .uns):EffOk P o a φ w S hp base d (grow (ao hp ups) new):=by
 have h1:=aU cx.tmr cx.gr hx;unfold qJ at hq;split at hq
 ·rename_i k1 k2 hu1 hu2;simp only[lα]at hq;subst hq;simp only[k8]at h;generalize ev tm ax=dx at*
  unfold Iz at h;split at h
  ·rename_i kk n heq;simp only[lμ,and_true]at heq;subst heq;simp only[VR,PR]at h1;refine aA cx h (v:= .int k2 (k2.wrap n)) ?_ (by simp[VR,PR,hU]);simp[execOp,ho,convert,run_underlying (aK hu1 (by simp)),run_underlying (aK hu2 (by simp)),h1,Conv.intToInt]
  ·rename_i kk s heq;simp only[lμ,and_true]at heq;subst heq;simp only[VR,PR]at h1;obtain⟨n,h1,hn⟩:=h1;cases hm:TC k2 s with
   |none=>rw[hm]at h;cases h
   |some r=>
    rw[hm]at h;obtain⟨e1,e2⟩:=pX (w:=w) (S:=S) hn hm;refine aA cx h (v:= .int k2 n) ?_ (by simpa only[VR]using e2);simp[execOp,ho,convert,run_underlying (aK hu1 (by simp)),run_underlying (aK hu2 (by simp)),h1,Conv.intToInt,e1]
  ·simp at h
 ·rename_i hu1 hu2;simp only[lα]at hq;subst hq;simp only[k8]at h;generalize ev tm ax=dx at*
  unfold IB at h;split at h
  ·rename_i s' heq;simp only[lμ,and_true]at heq;subst heq;have h1':=h1;simp only[VR,PR]at h1;obtain⟨b,hb,rfl⟩:=h1;refine aA cx h (v:= .string b) ?_ (hb▸h1');simp[execOp,ho,convert,run_underlying (aK hu1 (by simp)),run_underlying (aK hu2 (by simp)),hb]
  ·simp at h
 ·split at hq
  ·simp only[lα]at hq;exact absurd hq.symm hn.1
  ·simp at hq
 ·split at hq
  ·simp only[lα]at hq;exact absurd hq.symm hn.2.1
  ·simp at hq
 ·split at hq
  ·rename_i j hj;cases hz:Nat.beq j.size 0 with
   |true=>simp[hz]at hq
   |false=>simp only[hz,cond_false,lα]at hq;exact absurd hq.symm hn.2.2
  ·simp at hq
 ·split at hq
  ·rename_i j hj;cases hz:liesAt P P.depth zW (3 / P.cellsOf zW) 0 _ 1 with
   |false=>rw[hz]at hq;simp at hq
   |true=>simp only[hz,cond_true,lα]at hq;exact absurd hq.symm hn.2.2
  ·simp at hq
 ·simp at hq
theorem O9 (cx:Cx G a φ w S hp tm){t tx:TypeId}{x:Operand}{ax:A}(ho:o.op= .makeInterface t x)(hu:∃e,P.underlying t=some e∧∀ms,e≠ .interface ms)(hx:cA P G tx x=some ax)
  (h:DP t [ev tm ax]=some (d,ups,new)):EffOk P o a φ w S hp base d (grow (ao hp ups) new):=by
 have h1:=aU cx.tmr cx.gr hx;obtain⟨e,hu,hne⟩:=hu;have hex:(execOp a.eval o).run P w= .ok (.value (.iface t (a.eval x))) w:=by
  simp only[execOp,ho,Instr.makeInterface,Sem.run_bind,run_underlying hu,Result.andThen_ok];cases e<;>first
   |rfl
   |(rename_i ms;exact absurd rfl (hne ms))
 generalize ev tm ax=dx at*
 unfold DP at h;split at h
 ·rename_i x' heq;simp only[lμ,and_true]at heq;subst heq;exact aA cx h hex (by simp only[VR,PR]at h1 ⊢;exact⟨_,rfl,h1⟩)
 ·rename_i d' _ heq;simp only[lμ,and_true]at heq;subst heq;exact aA cx h hex (by simp only[VR]at h1 ⊢;exact⟨_,rfl,h1⟩)
 ·simp at h
theorem O8 (cx:Cx G a φ w S hp tm){f:FuncId}{first captured:Array Operand}{ts:List TypeId}{as:List A}(ho:o.op= .makeFunc (.func f) first captured)(hf:f<1000000)(hx:mz P G ts (first.toList++captured.toList)=some as)
  (h:DO (f+1000000*first.size) (as.map (ev tm))=some (d,ups,new)):EffOk P o a φ w S hp base d (grow (ao hp ups) new):=by
 have h1:=cj cx.tmr cx.gr hx;have hF:Dd (f+1000000*first.size)=f:=(show ∀f k:Nat,f<1000000→(f+1000000*k) % 1000000=f by intros;omega) f _ hf;have hK:Uw (f+1000000*first.size)=first.size:=(show ∀f k:Nat,f<1000000→(f+1000000*k) / 1000000=k by intros;omega) f _ hf
 have hex:(execOp a.eval o).run P w= .ok (.value (.func (.func f) (first.map a.eval) (captured.map a.eval))) w:=by
  simp[execOp,ho,Instr.makeFunc]
 unfold DO at h;split at h
 ·rename_i xs hxs;exact aA cx h hex (by simp only[VR,PR];exact⟨_,_,by rw[hF],by rw[hK];simp,PRs_iff.2 (by simpa using qG hxs h1)⟩)
 ·exact aA cx h hex (by simp only[VR];exact⟨_,_,by rw[hF],by rw[hK];simp,VRs_iff.2 (by simpa using h1)⟩)
theorem Cv (vs:Array Value)(off n:Nat):(vs.extract off (off+n)).toList=(vs.toList.drop off).take n:=by
 simp[Array.toList_extract,List.extract_eq_take_drop]
theorem yC {t:TypeId}{y:Ty}(ht:gn P t y){vs:Array Value}{off:Nat}{ds:List D}(hp:Pw (VR φ w S) ds vs.toList)(hs:∀c∈vs.toList,aW c){es:List D}{d:D}(h1:sub ds off y.size=some es)(h2:dz y.agg es=some d):
  ∃v,(part t vs off).run P w= .ok v w∧VR φ w S d v:=by
 obtain⟨hl,rfl⟩:=C1 h1;have hps:=(hp.drop off).take y.size;cases ha:y.agg with
 |true=>
  rw[ha]at h2;simp only[dz,cond_true,lα]at h2;subst h2;refine⟨.agg (vs.extract off (off+y.size)),?_,?_⟩
  ·simp only[part,Sem.run_bind,ht.isAgg,Result.andThen_ok,ha,if_true,ht.sizeOf,Sem.run_pure]
  ·have:=nG hps (vg hs);rwa [←Cv,Array.toArray_toList]at this
 |false=>
  rw[ha]at h2;simp only[dz,cond_false]at h2;split at h2
  ·rename_i x heq;simp only[lα]at h2;subst h2;rw[heq]at hps;obtain⟨u,us',e0,e1,_⟩:=hps.cons_inv;have hc:vs[off]?=some u:=by
    have:((vs.toList.drop off).take y.size)[0]?=some u:=by rw[e0];rfl
    have:=kH this;simpa using this
   refine⟨u,?_,e1⟩;simp only[part,Sem.run_bind,ht.isAgg,Result.andThen_ok,ha,Bool.false_eq_true,if_false,hc,Sem.run_pure]
  ·simp at h2
theorem SE (cx:Cx G a φ w S hp tm){s tx:TypeId}{x:Operand}{i:Nat}{ax:A}{fs:Array Field}{f:Field}{y:Ty}(ho:o.op= .field s x i)(hs:und P s= .struct fs)(hf:fs[i]?=some f)(ht:ty P f.type=some y)
  (hx:cA P G tx x=some ax) (h:DK f.offset y.size y.agg [ev tm ax]=some (d,ups,new)):EffOk P o a φ w S hp base d (grow (ao hp ups) new):=by
 have h1:=aU cx.tmr cx.gr hx;have hu:=aK hs (by simp);have hty:=cW ht;have hex:∀vs v,a.eval x= .agg vs→(part f.type vs f.offset).run P w= .ok v w→(execOp a.eval o).run P w= .ok (.value v) w:=by
  intro vs v e1 e2;simp[execOp,ho,e1,Instr.field,run_underlying hu,hf,asAgg,e2]
 generalize ev tm ax=dx at*
 unfold DK at h;split at h
 ·rename_i cs heq;simp only[lμ,and_true]at heq;subst heq;simp only[VR,PR]at h1;obtain⟨vs,hv,hp1,hs1⟩:=h1;split at h
  ·rename_i ds hds;split at h
   ·rename_i d0 hd0;obtain⟨v,e1,e2⟩:=yC hty (φ:=φ) (S:=S) (Pw.map_left ((PRs_iff.1 hp1).mono fun _ _ h=>by simpa only[VR]using h)) hs1 hds hd0;exact aA cx h (hex _ _ hv e1) e2
   ·simp at h
  ·simp at h
 ·rename_i cs heq;simp only[lμ,and_true]at heq;subst heq;simp only[VR]at h1;obtain⟨vs,hv,hp1,hs1⟩:=h1;split at h
  ·rename_i ds hds;split at h
   ·rename_i d0 hd0;obtain⟨v,e1,e2⟩:=yC hty (φ:=φ) (S:=S) (VRs_iff.1 hp1) hs1 hds hd0;exact aA cx h (hex _ _ hv e1) e2
   ·simp at h
  ·simp at h
 ·simp at h
theorem SD (cx:Cx G a φ w S hp tm){tx:TypeId}{x:Operand}{i:Nat}{ax:A}(ho:o.op= .extract x i)(hx:cA P G tx x=some ax)(h:GK i [ev tm ax]=some (d,ups,new)):EffOk P o a φ w S hp base d (grow (ao hp ups) new):=by
 have h1:=aU cx.tmr cx.gr hx;generalize ev tm ax=dx at*
 unfold GK at h;split at h
 ·rename_i ds heq;simp only[lμ,and_true]at heq;subst heq;simp only[VR]at h1;obtain⟨vs,hv,hp1⟩:=h1;split at h
  ·rename_i d0 hd0;obtain⟨u,hu,hr⟩:=(VRs_iff.1 hp1).get hd0;refine aA cx h (v:=u) ?_ hr;have:vs[i]?=some u:=by simpa using hu
   simp[execOp,ho,hv,Instr.extract,this]
  ·simp at h
 ·simp at h
theorem BP {es:List Da}{i:Int}{e:Da}(h:fq es i=some e):0≤i∧es[i.toNat]?=some e:=by
 unfold fq at h;rw[dh]at h;by_cases hi:0≤i
 ·simp[hi]at h;exact⟨hi,h⟩
 ·simp[hi]at h
theorem Wh {es:List Da}{us:List Value}(hp:Pw (PR w S) es us){i:Int}{e:Da}(h:0≤i∧es[i.toNat]?=some e):i<us.length:=by
 obtain⟨u,hu,_⟩:=hp.get h.2;have:i.toNat<us.length:=by
  rcases lν i.toNat us.length with h1|h1
  ·exact h1
  ·simp[lε h1]at hu
 omega
theorem Hj {t te:TypeId}{y:Ty}(hu:P.underlying t=some (.slice te))(ht:gn P te y){es:List Da}{us:List Value}{cap:Nat}{a':Option Addr}(hp:Pw (PR w S) es us)(hr:us≠[]→∃b o,a'=some ⟨b,o,none⟩∧S b∧rowAt w b o y.size us)
  {k:IntKind} {i:Int} {e:Da} (h:0≤i∧es[i.toNat]?=some e):∃v,(Instr.indexAt t (.slice a' us.length cap) (.int k i)).run P w= .ok v w∧VR φ w S (.ip e 0) v:=by
 have hlt:=Wh hp h;obtain⟨u,hu1,hu2⟩:=hp.get h.2;have hne:us≠[]:=by intro hh;simp[hh]at hu1
 obtain⟨b,o,rfl,hb,hrow⟩:=hr hne;refine⟨.pointer (some ⟨b,o+i.toNat*y.size,none⟩),?_,?_⟩
 ·simp only[Instr.indexAt,asIntOf,Sem.run_bind,Sem.run_pure,Result.andThen_ok,run_underlying hu];have h0:0≤i∧i<(us.length:Int):=⟨h.1,hlt⟩;simp[h0,ht.sizeOf,cz]
 ·simp only[VR];exact⟨b,o+i.toNat*y.size,u,by simp,hb,hu2,(hrow _ u hu1).2⟩
theorem VX (cx:Cx G a φ w S hp tm){t te tx ti:TypeId}{x i:Operand}{ax ai:A}{y:Ty}(ho:o.op= .indexAddr t x i)(hs:und P t= .slice te)(ht:ty P te=some y)(hx:cA P G tx x=some ax)(hi:cA P G ti i=some ai)
  (h:IA y.size [ev tm ax,ev tm ai]=some (d,ups,new)):EffOk P o a φ w S hp base d (grow (ao hp ups) new):=by
 have h1:=aU cx.tmr cx.gr hx;have h2:=aU cx.tmr cx.gr hi;have hu:=aK hs (by simp);have hty:=cW ht;have hex:∀v,(Instr.indexAt t (a.eval x) (a.eval i)).run P w= .ok v w→(execOp a.eval o).run P w= .ok (.value v) w:=by
  intro v e;simp[execOp,ho,e]
 generalize ev tm ax=dx at*
 generalize ev tm ai=di at*
 unfold IA at h;split at h
 ·rename_i z es k n heq;simp only[lμ,and_true]at heq;obtain⟨rfl,rfl⟩:=heq;simp only[VR,PR]at h1 h2;rw[beq_eq]at h;by_cases hz:z=y.size
  ·simp only[hz,decide_true,cond_true]at h;split at h
   ·rename_i e he;obtain⟨a',cap,us,hv,_,hp1,hr⟩:=h1;subst hz;obtain⟨v,e1,e2⟩:=Hj (φ:=φ) hu hty (k:=k) (PRs_iff.1 hp1) hr (BP he);exact aA cx h (hex v (by rw[hv,h2];exact e1)) e2
   ·simp at h
  ·simp[hz]at h
 ·rename_i z es k n heq;simp only[lμ,and_true]at heq;obtain⟨rfl,rfl⟩:=heq;simp only[VR,PR]at h1 h2;rw[beq_eq]at h;by_cases hz:z=y.size
  ·simp only[hz,decide_true,cond_true]at h;split at h
   ·rename_i e he;obtain⟨⟨a',cap,us,hv,_,hp1,hr⟩,_⟩:=h1;subst hz;obtain⟨v,e1,e2⟩:=Hj (φ:=φ) hu hty (k:=k) (PRs_iff.1 hp1) hr (BP he);exact aA cx h (hex v (by rw[hv,h2];exact e1)) e2
   ·simp at h
  ·simp[hz]at h
 ·rename_i g z es k n heq;simp only[lμ,and_true]at heq;obtain⟨rfl,rfl⟩:=heq;simp only[VR,PR]at h1 h2;rw[beq_eq]at h;by_cases hz:z=y.size
  ·simp only[hz,decide_true,cond_true]at h;split at h
   ·rename_i e he;obtain⟨a',cap,us,hv,_,_,hp1,hr⟩:=h1;subst hz;obtain⟨v,e1,e2⟩:=Hj (φ:=φ) hu hty (k:=k) (PRs_iff.1 hp1) hr (BP he);exact aA cx h (hex v (by rw[hv,h2];exact e1)) e2
   ·simp at h
  ·simp[hz]at h
 ·rename_i id lo len z k n heq;simp only[lμ,and_true]at heq;obtain⟨rfl,rfl⟩:=heq;simp only[VR,PR]at h1 h2;rw[beq_eq,dh,eY]at h;by_cases hz:z=y.size∧0≤n∧n<(len:Int)
  ·obtain⟨hz,hn0,hn1⟩:=hz;simp only[hz,hn0,hn1,decide_true,Bool.and_self,cond_true]at h;obtain⟨b,o',cap,nn,a',hb,hl,hc,hv,ha⟩:=h1;have hlt:lo<cap:=by omega
   have:=ha hlt;subst this;refine aA cx h (v:= .pointer (some ⟨b,o'+(lo+n.toNat)*z,none⟩)) (hex _ ?_) ?_
   ·rw[hv,h2];simp only[Instr.indexAt,asIntOf,Sem.run_bind,Sem.run_pure,Result.andThen_ok,run_underlying hu];have h0:0≤n∧n<(len:Int):=⟨hn0,hn1⟩;simp[h0,hty.sizeOf,cz,hz,mβ,Nat.add_assoc]
   ·simp only[VR];exact⟨b,o',cap,z,nn,hb,by omega,by simp⟩
  ·have:(decide (z=y.size)&&decide (0≤n)&&decide (n<(len:Int)))=false:=by
    simp only[Bool.and_eq_false_iff,lχ];by_cases h1:z=y.size<;>by_cases h2:0≤n<;>by_cases h3:n<(len:Int)<;>simp_all
   simp[this]at h
 ·simp at h
theorem SF (cx:Cx G a φ w S hp tm){t te tx ti:TypeId}{n:Nat}{x i:Operand}{ax ai:A}{y:Ty}(ho:o.op= .indexAddr t x i)(hs:und P t= .array n te)(ht:ty P te=some y)(hx:cA P G tx x=some ax)(hi:cA P G ti i=some ai)
  (h:DL n y.size [ev tm ax,ev tm ai]=some (d,ups,new)):EffOk P o a φ w S hp base d (grow (ao hp ups) new):=by
 have h1:=aU cx.tmr cx.gr hx;have h2:=aU cx.tmr cx.gr hi;have hu:=aK hs (by simp);have hty:=cW ht;have hex:∀b off k j,a.eval x= .pointer (some ⟨b,off,none⟩)→a.eval i= .int k j→0≤j∧j<(n:Int)→(execOp a.eval o).run P w= .ok (.value (.pointer (some ⟨b,off+j.toNat*y.size,none⟩))) w:=by
  intro b off k j e1 e2 e3;simp only[execOp,ho,e1,e2,Instr.indexAt,asIntOf,Sem.run_bind,Sem.run_pure,Result.andThen_ok,run_underlying hu,Instr.sureAddr];simp[e3,hty.sizeOf,cz]
 generalize ev tm ax=dx at*
 generalize ev tm ai=di at*
 unfold DL at h;split at h
 ·rename_i id off k j heq;simp only[lμ,and_true]at heq;obtain⟨rfl,rfl⟩:=heq;simp only[VR,PR]at h1 h2;rw[dh,eY]at h;by_cases hj:0≤j∧j<(n:Int)
  ·simp only[hj.1,hj.2,decide_true,Bool.and_self,cond_true]at h;obtain⟨b,hb,hv⟩:=h1;exact aA cx h (hex _ _ _ _ hv h2 hj) (by simp only[VR];exact⟨b,hb,rfl⟩)
  ·have:(decide (0≤j)&&decide (j<(n:Int)))=false:=by
    by_cases h2:0≤j<;>by_cases h3:j<(n:Int)<;>simp_all
   simp[this]at h
 ·rename_i x' off k j heq;simp only[lμ,and_true]at heq;obtain⟨rfl,rfl⟩:=heq;simp only[VR,PR]at h1 h2;rw[dh,eY]at h;by_cases hj:0≤j∧j<(n:Int)
  ·simp only[hj.1,hj.2,decide_true,Bool.and_self,cond_true]at h;obtain⟨b,o',u,hv,hb,hr,hh⟩:=h1;exact aA cx h (hex _ _ _ _ hv h2 hj) (by simp only[VR];exact⟨b,o',u,by rw[Nat.add_assoc],hb,hr,hh⟩)
  ·have:(decide (0≤j)&&decide (j<(n:Int)))=false:=by
    by_cases h2:0≤j<;>by_cases h3:j<(n:Int)<;>simp_all
   simp[this]at h
 ·simp at h
theorem SG (cx:Cx G a φ w S hp tm){t te tx ti:TypeId}{n:Nat}{x i:Operand}{ax ai:A}{y:Ty}(ho:o.op= .index t x i)(hs:und P t= .array n te)(ht:ty P te=some y)(hx:cA P G tx x=some ax)(hi:cA P G ti i=some ai)
  (h:GL n y.size y.agg [ev tm ax,ev tm ai]=some (d,ups,new)):EffOk P o a φ w S hp base d (grow (ao hp ups) new):=by
 have h1:=aU cx.tmr cx.gr hx;have h2:=aU cx.tmr cx.gr hi;have hu:=aK hs (by simp);have hty:=cW ht;have hex:∀vs v k j,a.eval x= .agg vs→a.eval i= .int k j→0≤j∧j<(n:Int)→(part te vs (j.toNat*y.size)).run P w= .ok v w→(execOp a.eval o).run P w= .ok (.value v) w:=by
  intro vs v k j e1 e2 e3 e4;simp only[execOp,ho,e1,e2,Instr.index,asIntOf,Sem.run_bind,Sem.run_pure,Result.andThen_ok,run_underlying hu];simp[e3,hty.sizeOf,e4]
 generalize ev tm ax=dx at*
 generalize ev tm ai=di at*
 unfold GL at h;split at h
 ·rename_i cs k j heq;simp only[lμ,and_true]at heq;obtain⟨rfl,rfl⟩:=heq;simp only[VR,PR]at h1 h2;obtain⟨vs,hv,hp1,hs1⟩:=h1;rw[dh,eY]at h;by_cases hj:0≤j∧j<(n:Int)
  ·simp only[hj.1,hj.2,decide_true,Bool.and_self,cond_true]at h;split at h
   ·rename_i ds hds;split at h
    ·rename_i d0 hd0;obtain⟨v,e1,e2⟩:=yC hty (φ:=φ) (S:=S) (Pw.map_left ((PRs_iff.1 hp1).mono fun _ _ h=>by simpa only[VR]using h)) hs1 hds hd0;exact aA cx h (hex _ _ _ _ hv h2 hj e1) e2
    ·simp at h
   ·simp at h
  ·have:(decide (0≤j)&&decide (j<(n:Int)))=false:=by
    by_cases h2:0≤j<;>by_cases h3:j<(n:Int)<;>simp_all
   simp[this]at h
 ·simp at h
theorem NV {b:ByteArray}{i:Nat}{n:Nat}(h:(b.data.toList.map UInt8.toNat)[i]?=some n):∃c:UInt8,b[i]?=some c∧c.toNat=n:=by
 rw[lσ]at h;cases hc:b.data.toList[i]? with
 |none=>rw[hc]at h;simp at h
 |some c=>
  rw[hc]at h;simp at h;refine⟨c,?_,h⟩;have h2:b.data[i]?=some c:=by simpa using hc
  have hlt:i<b.data.size:=by
   rcases lν i b.data.size with h1|h1
   ·exact h1
   ·simp[Array.getElem?_eq_none h1]at h2
  have hlt':i<b.size:=hlt;rw[getElem?_pos b i hlt'];rw[getElem?_pos b.data i hlt]at h2;exact h2
theorem VY (cx:Cx G a φ w S hp tm){t tx ti:TypeId}{x i:Operand}{ax ai:A}(ho:o.op= .index t x i)(hs:und P t= .string)(hx:cA P G tx x=some ax)(hi:cA P G ti i=some ai)
  (h:RQ [ev tm ax,ev tm ai]=some (d,ups,new)):EffOk P o a φ w S hp base d (grow (ao hp ups) new):=by
 have h1:=aU cx.tmr cx.gr hx;have h2:=aU cx.tmr cx.gr hi;have hu:=aK hs (by simp);generalize ev tm ax=dx at*
 generalize ev tm ai=di at*
 unfold RQ at h;split at h
 ·rename_i s k j heq;simp only[lμ,and_true]at heq;obtain⟨rfl,rfl⟩:=heq;simp only[VR,PR]at h1 h2;obtain⟨b,hb,rfl⟩:=h1;split at h
  ·rename_i n hn;rw[dh]at hn;by_cases hj:0≤j
   ·simp only[hj,decide_true,cond_true]at hn;obtain⟨c,hc,rfl⟩:=NV hn;refine aA cx h (v:= .int .u8 c.toNat) ?_ (by simp[VR,PR]);simp only[execOp,ho,hb,h2,Instr.index,asIntOf,Sem.run_bind,Sem.run_pure,Result.andThen_ok,run_underlying hu,hj,if_true,hc]
   ·simp[hj]at hn
  ·simp at h
 ·simp at h
end
end Go.Ab
end
section
namespace Go.Ab
open Go
variable [Letters]
section
variable {P:Program} {G:bF} {o:Oper} {a:Act} {φ:List cb} {w:World} {S:Nat→Prop} {hp:List Ob} {tm:Tm} {base:Nat} {d:D} {ups:List (Nat×Ob)} {new:List Ob}
theorem eR {x:D}{v:Value}{y n c:Nat}(hv:VR φ w S x v)(h:hH x y=some n)(hc:y≤c)(code:BoundsCode):(Instr.sliceBound v c code).run P w= .ok n w∧n≤y:=by
 unfold hH at h;split at h
 ·rename_i k i;simp only[VR,PR]at hv;subst hv;rw[dh,dh]at h;by_cases hi:0≤i∧i≤(y:Int)
  ·simp only[hi.1,hi.2,decide_true,Bool.and_self,cond_true,lα]at h;subst h;have h2:0≤i∧i≤(c:Int):=⟨hi.1,by omega⟩
   refine⟨?_,by omega⟩
   simp only[Instr.sliceBound,asIntOf,Sem.run_bind,Sem.run_pure,Result.andThen_ok,Sem.run_ite,h2,and_self,if_true]
  ·have:(decide (0≤i)&&decide (i≤(y:Int)))=false:=by
    by_cases h2:0≤i<;>by_cases h3:i≤(y:Int)<;>simp_all
   simp[this]at h
 ·simp at h
theorem fC {lo hi mx:Option Operand}{len cap:Nat}{xs:List D}{l h m:Nat}(hv:Pw (VR φ w S) xs ((pZ lo hi mx).map a.eval))(hb:bN lo.isSome hi.isSome mx.isSome len xs=some (l,h,m))(hc:len≤cap)(s:Bool):
  (Instr.sliceBounds s len cap (lo.map a.eval) (hi.map a.eval) (mx.map a.eval)).run P w= .ok (l,h,if mx.isSome then m else cap) w∧l≤h∧h≤m∧m≤len:=by
 cases lo with
 |none=>cases hi with
  |none=>cases mx with
   |none=>
    simp only[pZ,Option.toList,mα,List.map_nil]at hv;obtain rfl:=lι hv.1;simp only[bN,Option.isSome,lα,lκ]at hb;obtain⟨rfl,rfl,rfl⟩:=hb;exact⟨by simp[Instr.sliceBounds],by omega,by omega,by omega⟩
   |some c=>
    simp only[bN,Option.isSome]at hb;cases xs<;>simp at hb
  |some b=>cases mx with
   |none=>
    simp only[pZ,Option.toList,mα,List.nil_append,List.map_cons,List.map_nil]at hv;cases xs with
    |nil=>simp[bN]at hb
    |cons x r=>
     have hr:=hv.tail;obtain rfl:r=[]:=lι hr.1;have hx:=hv.head;simp only[bN,Option.isSome]at hb;split at hb
     ·rename_i n hn;simp only[lα,lκ]at hb;obtain⟨rfl,rfl,rfl⟩:=hb;obtain⟨e1,e2⟩:=eR (P:=P) hx hn hc (if s then .sliceAcap else .sliceAlen);exact⟨by simp[Instr.sliceBounds,e1],by omega,by omega,by omega⟩
     ·simp at hb
   |some c=>
    simp only[pZ,Option.toList,mα,List.nil_append,List.map_cons,List.map_nil,List.cons_append]at hv;obtain⟨x,r,e,hx,hr⟩:∃x r,xs=x::r∧VR φ w S x (a.eval b)∧Pw (VR φ w S) r [a.eval c]:=by
     cases xs with
     |nil=>have:=hv.1;simp at this
     |cons x r=>exact⟨x,r,rfl,hv.head,hv.tail⟩
    subst e;cases r with
    |nil=>have:=hr.1;simp at this
    |cons y r=>
     have hy:=hr.head;obtain rfl:r=[]:=lι hr.tail.1;simp only[bN,Option.isSome]at hb;split at hb
     ·rename_i m' hm';split at hb
      ·rename_i n hn;simp only[lα,lκ]at hb;obtain⟨rfl,rfl,rfl⟩:=hb;obtain⟨e1,e2⟩:=eR (P:=P) hy hm' hc (if s then .slice3Acap else .slice3Alen);obtain⟨e3,e4⟩:=eR (P:=P) hx hn (Nat.le_refl _) .slice3B;exact⟨by simp[Instr.sliceBounds,e1,e3],by omega,by omega,by omega⟩
      ·simp at hb
     ·simp at hb
 |some a'=>cases hi with
  |none=>cases mx with
   |none=>
    simp only[pZ,Option.toList,mα,List.map_cons,List.map_nil]at hv;cases xs with
    |nil=>simp[bN]at hb
    |cons x r=>
     have hr:=hv.tail;obtain rfl:r=[]:=lι hr.1;have hx:=hv.head;simp only[bN,Option.isSome]at hb;split at hb
     ·rename_i n hn;simp only[lα,lκ]at hb;obtain⟨rfl,rfl,rfl⟩:=hb;obtain⟨e1,e2⟩:=eR (P:=P) hx hn (Nat.le_refl _) .sliceB;exact⟨by simp[Instr.sliceBounds,e1],by omega,by omega,by omega⟩
     ·simp at hb
   |some c=>
    simp only[bN,Option.isSome]at hb;cases xs<;>simp at hb
  |some b=>cases mx with
   |none=>
    simp only[pZ,Option.toList,mα,List.nil_append,List.map_cons,List.map_nil,List.cons_append]at hv;obtain⟨x,r,e,hx,hr⟩:∃x r,xs=x::r∧VR φ w S x (a.eval a')∧Pw (VR φ w S) r [a.eval b]:=by
     cases xs with
     |nil=>have:=hv.1;simp at this
     |cons x r=>exact⟨x,r,rfl,hv.head,hv.tail⟩
    subst e;cases r with
    |nil=>have:=hr.1;simp at this
    |cons y r=>
     have hy:=hr.head;obtain rfl:r=[]:=lι hr.tail.1;simp only[bN,Option.isSome]at hb;split at hb
     ·rename_i h' hh';split at hb
      ·rename_i n hn;simp only[lα,lκ]at hb;obtain⟨rfl,rfl,rfl⟩:=hb;obtain⟨e1,e2⟩:=eR (P:=P) hy hh' hc (if s then .sliceAcap else .sliceAlen);obtain⟨e3,e4⟩:=eR (P:=P) hx hn (Nat.le_refl _) .sliceB;exact⟨by simp[Instr.sliceBounds,e1,e3],by omega,by omega,by omega⟩
      ·simp at hb
     ·simp at hb
   |some c=>
    simp only[pZ,Option.toList,mα,List.nil_append,List.map_cons,List.map_nil,List.cons_append]at hv;obtain⟨x,r,e,hx,hr⟩:∃x r,xs=x::r∧VR φ w S x (a.eval a')∧Pw (VR φ w S) r [a.eval b,a.eval c]:=by
     cases xs with
     |nil=>have:=hv.1;simp at this
     |cons x r=>exact⟨x,r,rfl,hv.head,hv.tail⟩
    subst e;obtain⟨y,r',e,hy,hr'⟩:∃y r',r=y::r'∧VR φ w S y (a.eval b)∧Pw (VR φ w S) r' [a.eval c]:=by
     cases r with
     |nil=>have:=hr.1;simp at this
     |cons x r=>exact⟨x,r,rfl,hr.head,hr.tail⟩
    subst e;cases r' with
    |nil=>have:=hr'.1;simp at this
    |cons z r=>
     have hz:=hr'.head;obtain rfl:r=[]:=lι hr'.tail.1;simp only[bN,Option.isSome]at hb;split at hb
     ·rename_i m' hm';split at hb
      ·rename_i h' hh';split at hb
       ·rename_i n hn;simp only[lα,lκ]at hb;obtain⟨rfl,rfl,rfl⟩:=hb;obtain⟨e1,e2⟩:=eR (P:=P) hz hm' hc (if s then .slice3Acap else .slice3Alen);obtain⟨e3,e4⟩:=eR (P:=P) hy hh' (Nat.le_refl _) .slice3B;obtain⟨e5,e6⟩:=eR (P:=P) hx hn (Nat.le_refl _) .slice3C;exact⟨by simp[Instr.sliceBounds,e1,e3,e5],by omega,by omega,by omega⟩
       ·simp at hb
      ·simp at hb
     ·simp at hb
theorem KX (cx:Cx G a φ w S hp tm){t tx:TypeId}{ts:List TypeId}{x:Operand}{lo hi:Option Operand}{ax:A}{as:List A}(ho:o.op= .slice t x lo hi none)(hs:und P t= .string)(hx:cA P G tx x=some ax)
  (ha:mz P G ts (pZ lo hi none)=some as) (h:lL lo.isSome hi.isSome (ev tm ax::as.map (ev tm))=some (d,ups,new)):EffOk P o a φ w S hp base d (grow (ao hp ups) new):=by
 have h1:=aU cx.tmr cx.gr hx;have h2:=cj cx.tmr cx.gr ha;have hu:=aK hs (by simp);generalize ev tm ax=dx at*
 unfold lL at h;split at h
 ·rename_i s xs heq;simp only[lμ]at heq;obtain⟨rfl,rfl⟩:=heq;simp only[VR,PR]at h1;obtain⟨b,hb,rfl⟩:=h1;split at h
  ·rename_i l h' m hbd;have hlen:(b.data.toList.map UInt8.toNat).length=b.size:=by simp
   rw[hlen]at hbd;obtain⟨e1,e2,e3,e4⟩:=fC (P:=P) (mx:=none) (cap:=b.size) h2 hbd (Nat.le_refl _) false;refine aA cx h (v:= .string (b.extract l h')) ?_ ?_
   ·simp only[Option.map_none,Option.isSome_none,Bool.false_eq_true,if_false]at e1;simp[execOp,ho,Instr.sliceAt,Instr.slice,run_underlying hu,hb,e1]
   ·simp only[VR,PR];refine⟨_,rfl,?_⟩;rw[←List.map_drop,←List.map_take];congr 1;rw[ByteArray.data_extract,Array.toList_extract,List.extract_eq_take_drop]
  ·simp at h
 ·simp at h
theorem jU {b o z:Nat}{us:List Value}(h:rowAt w b o z us)(l n:Nat):rowAt w b (o+l*z) z ((us.drop l).take n):=by
 intro i u hu;have:=kH hu;have h1:=h _ u this;refine⟨h1.1,?_⟩;rw[show o+l*z+i*z=o+(l+i)*z by rw[mβ];omega];exact h1.2
theorem Kv {lo hi:Bool}{len:Nat}{xs:List D}{l h m:Nat}(hb:bN lo hi false len xs=some (l,h,m)):m=len:=by
 cases lo<;>cases hi<;>rcases xs with _|⟨a,_|⟨b,_|⟨c,r⟩⟩⟩<;>simp only[bN,reduceCtorEq,lα,lκ]at hb
 ·exact hb.2.2.symm
 ·cases h1:hH a len<;>simp only[h1,reduceCtorEq,lα,lκ]at hb;exact hb.2.2.symm
 ·cases h1:hH a len<;>simp only[h1,reduceCtorEq,lα,lκ]at hb;exact hb.2.2.symm
 ·cases h1:hH b len<;>simp only[h1,reduceCtorEq]at hb;rename_i h';cases h2:hH a h'<;>simp only[h2,reduceCtorEq,lα,lκ]at hb;exact hb.2.2.symm
theorem ov {z esz:Nat}{es:List Da}(h:yU z esz es=true)(hne:es≠[]):z=esz:=by
 unfold yU at h;rw[beq_eq]at h;cases es with
 |nil=>exact absurd rfl hne
 |cons e r=>simpa using h
theorem iT {t te:TypeId}{y:Ty}(hu:P.underlying t=some (.slice te))(ht:gn P te y){b0:Option Addr}{len cap l h m:Nat}{low high max:Option Value}
  (hb:(Instr.sliceBounds true len cap low high max).run P w= .ok (l,h,m) w):
  (Instr.sliceAt t (.slice b0 len cap) low high max).run P w= .ok (.slice (if m=l then b0 else b0.map (·.add (l*y.size))) (h - l) (m - l)) w:=by
 simp[Instr.sliceAt,Instr.slice,run_underlying hu,hb,ht.sizeOf]
theorem WQ {es:List Da}{us:List Value}(hp:Pw (PR w S) es us){l n:Nat}(h:(us.drop l).take n≠[]):us≠[]∧es≠[]:=by
 refine⟨fun e=>h (by simp[e]),fun e=>h ?_⟩
 have:=hp.1;rw[e]at this;have:us=[]:=lι this.symm;simp[this]
theorem yF {t te:TypeId}{y:Ty}(hu:P.underlying t=some (.slice te))(ht:gn P te y){z:Nat}{es:List Da}(hz:yU z y.size es=true){b0:Option Addr}{cap:Nat}{us:List Value}(hl:us.length≤cap)(hp:Pw (PR w S) es us)
  (hr:us≠[]→∃b o,b0=some ⟨b,o,none⟩∧S b∧rowAt w b o z us) {lo hi mx:Option Operand} {xs:List D} {l h m:Nat} (hv:Pw (VR φ w S) xs ((pZ lo hi mx).map a.eval)) (hb:bN lo.isSome hi.isSome mx.isSome es.length xs=some (l,h,m)):
  ∃b1 cap1 us1,(Instr.sliceAt t (.slice b0 us.length cap) (lo.map a.eval) (hi.map a.eval) (mx.map a.eval)).run P w= .ok (.slice b1 us1.length cap1) w∧us1.length≤cap1∧Pw (PR w S) ((es.drop l).take (h - l)) us1∧
   (us1≠[]→∃b o,b1=some ⟨b,o,none⟩∧S b∧rowAt w b o z us1)∧(mx.isSome=true→cap1=m - l)∧(mx.isSome=false→cap1=cap - l)∧us1.length=h - l∧(b0=none→b1=none)∧m≤us.length∧(mx.isSome=false→m=us.length):=by
 rw[hp.1]at hb;obtain⟨e1,e2,e3,e4⟩:=fC (P:=P) hv hb hl true;have hm:mx.isSome=false→m=us.length:=fun hmx=>Kv (hmx▸hb)
 refine⟨(if(if mx.isSome=true then m else cap)=l then b0 else b0.map (·.add (l*y.size))),(if mx.isSome=true then m else cap) - l,(us.drop l).take (h - l),?_,?_,(hp.drop l).take _,?_,?_,?_,?_,?_,e4,hm⟩
 ·rw[iT hu ht e1];have:((us.drop l).take (h - l)).length=h - l:=by simp;omega
  rw[this]
 ·have:((us.drop l).take (h - l)).length=h - l:=by simp;omega
  rw[this];split<;>omega
 ·intro hne;obtain⟨hu1,he1⟩:=WQ hp hne;obtain⟨b,o',rfl,hb1,hrow⟩:=hr hu1;have hzz:=ov hz he1;have hlen:0<((us.drop l).take (h - l)).length:=List.length_pos_iff.2 hne;have hlh:l<h:=by simp at hlen;omega
  refine⟨b,o'+l*z,?_,hb1,jU hrow _ _⟩;rw[if_neg (by split<;>omega)];simp[cz,hzz]
 ·intro hmx;simp[hmx]
 ·intro hmx;simp[hmx]
 ·simp;omega
 ·intro hn;subst hn;simp
theorem bn {ids:List Nat}{id:Nat}{x:Ob}(h:ep (ids.zip (ids.map (aP hp))) id=x)(hx:x≠ .dead):hp[id]?=some x:=by
 induction ids with
 |nil=>simp[ep]at h;exact absurd h.symm hx
 |cons i r ih=>
  simp only[List.map_cons,List.zip_cons_cons,ep]at h;rw[beq_eq]at h;by_cases hi:i=id
  ·subst hi;simp at h;exact ef h hx
  ·simp only[hi,decide_false,cond_false]at h;exact ih h
theorem K7 (hr:HR φ w S hp){id b o' cap z n lo:Nat}{ids:List Nat}(hb:φ[id]?=some (.arr b o' cap z n))(h:nB (ids.zip (ids.map (aP hp))) id lo=true):lo<cap:=by
 unfold nB at h;split at h
 ·rename_i es hl;obtain⟨h0,h1,_⟩:=hr.obj id _ _ hb (bn hl (by simp));rw[Nat.blt_eq]at h;omega
 ·rename_i es hl;obtain⟨h0,h1,_⟩:=hr.obj id _ _ hb (bn hl (by simp));rw[Nat.blt_eq]at h;omega
 ·cases h
theorem Pe (cx:Cx G a φ w S hp tm){t te tx:TypeId}{ts:List TypeId}{x:Operand}{lo hi mx:Option Operand}{ax:A}{as:List A}{y:Ty}(ho:o.op= .slice t x lo hi mx)(hs:und P t= .slice te)(ht:ty P te=some y)(hx:cA P G tx x=some ax)
  (ha:mz P G ts (pZ lo hi mx)=some as) {ids:List Nat} (hm:mx=none∨∀id lo len z,ev tm ax≠ .arr id lo len z)
  (h:hE y.size lo.isSome hi.isSome mx.isSome (ev tm ax::as.map (ev tm)) ids (ids.map (aP hp))=some (d,ups,new)):EffOk P o a φ w S hp base d (grow (ao hp ups) new):=by
 have h1:=aU cx.tmr cx.gr hx;have h2:=cj cx.tmr cx.gr ha;have hu:=aK hs (by simp);have hty:=cW ht;have hex:∀v,(Instr.sliceAt t (a.eval x) (lo.map a.eval) (hi.map a.eval) (mx.map a.eval)).run P w= .ok v w→(execOp a.eval o).run P w= .ok (.value v) w:=by
  intro v e;simp[execOp,ho,e]
 generalize ev tm ax=dx at*
 unfold hE at h;split at h
 ·rename_i z es xs heq;simp only[lμ]at heq;obtain⟨rfl,rfl⟩:=heq;simp only[VR,PR]at h1;obtain⟨b0,cap,us,hv,hl,hp1,hr⟩:=h1;cases hz:yU z y.size es with
  |false=>simp[hz]at h
  |true=>
   simp only[hz,cond_true]at h;split at h
   ·rename_i l h' m hbd;obtain⟨b1,cap1,us1,g1,g2,g3,g4,g5,g6,g7,g8,g9,g10⟩:=yF hu hty hz hl (PRs_iff.1 hp1) hr h2 hbd;rw[←hv]at g1;cases hc:(mx.isSome&&Nat.beq h' m)with
    |true=>
     simp only[hc,cond_true]at h;rw[lγ,beq_eq,lβ]at hc;refine aA cx h (hex _ g1) ?_;simp only[VR];exact⟨b1,cap1,us1,rfl,g2,by simp only[gv];rw[g5 hc.1,g7,hc.2],PRs_iff.2 g3,g4⟩
    |false=>
     simp only[hc,cond_false]at h;refine aA cx h (hex _ g1) ?_;simp only[VR,PR];exact⟨b1,cap1,us1,rfl,g2,PRs_iff.2 g3,g4⟩
   ·simp at h
 ·rename_i g z es xs heq;simp only[lμ]at heq;obtain⟨rfl,rfl⟩:=heq;simp only[VR]at h1;obtain⟨b0,cap,us,hv,hl,htag,hp1,hr⟩:=h1;cases hz:yU z y.size es with
  |false=>simp[hz]at h
  |true=>
   simp only[hz,cond_true]at h;split at h
   ·rename_i l h' m hbd;obtain⟨b1,cap1,us1,g1,g2,g3,g4,g5,g6,g7,g8,g9,g10⟩:=yF hu hty hz hl (PRs_iff.1 hp1) hr h2 hbd;rw[←hv]at g1;have kex:∀(hq:cap1=us1.length),VR φ w S (.sl .exact z ((es.drop l).take (h' - l))) (.slice b1 us1.length cap1):=by
     intro hq;simp only[VR];exact⟨b1,cap1,us1,rfl,g2,by simp only[gv];exact hq,PRs_iff.2 g3,g4⟩
    have kp:VR φ w S (.p (.slice z ((es.drop l).take (h' - l)))) (.slice b1 us1.length cap1):=by
     simp only[VR,PR];exact⟨b1,cap1,us1,rfl,g2,PRs_iff.2 g3,g4⟩
    cases g with
    |nil=>
     obtain⟨hb0,hcap⟩:=htag;have hus:us=[]:=lι (by omega);have he:es=[]:=lι (by rw[(PRs_iff.1 hp1).1,hus];rfl);have hus1:us1=[]:=lι (by rw[←g3.1,he];simp);refine aA cx h (hex _ g1) ?_;subst hus1;simp only[VR];refine⟨b1,cap1,[],rfl,by simp,?_,by simp[oD],by simp⟩
     simp only[gv];refine⟨g8 hb0,?_⟩;cases hmx:mx.isSome with
     |true=>rw[g5 hmx];rw[hus]at g9;simp at g9;omega
     |false=>rw[g6 hmx];omega
    |exact=>
     simp only at h;rw[beq_eq]at h;by_cases hq:h'=m
     ·simp only[hq,decide_true,cond_true]at h;refine aA cx h (hex _ g1) (hq▸kex ?_);simp only[gv]at htag;cases hmx:mx.isSome with
      |true=>rw[g5 hmx,g7,hq]
      |false=>rw[g6 hmx,g7,hq,g10 hmx,htag]
     ·simp only[hq,decide_false,cond_false]at h;exact aA cx h (hex _ g1) kp
    |some=>
     simp only at h;cases hc:(mx.isSome&&Nat.beq h' m)with
     |true=>
      simp only[hc,cond_true]at h;rw[lγ,beq_eq,lβ]at hc;exact aA cx h (hex _ g1) (kex (by rw[g5 hc.1,g7,hc.2]))
     |false=>
      simp only[hc,cond_false]at h;exact aA cx h (hex _ g1) kp
    |na=>
     simp only at h;cases hc:(mx.isSome&&Nat.beq h' m)with
     |true=>
      simp only[hc,cond_true]at h;rw[lγ,beq_eq,lβ]at hc;exact aA cx h (hex _ g1) (kex (by rw[g5 hc.1,g7,hc.2]))
     |false=>
      simp only[hc,cond_false]at h;exact aA cx h (hex _ g1) kp
   ·simp at h
 ·rename_i id lo0 len0 z xs heq;simp only[lμ]at heq;obtain⟨rfl,rfl⟩:=heq;rcases hm with rfl|hm
  ·simp only[VR]at h1;obtain⟨b,o',cap,nn,b0,hb,hl,hcn,hv,hb0⟩:=h1;rw[beq_eq]at h;by_cases hz:z=y.size
   ·simp only[hz,decide_true,cond_true]at h;split at h
    ·rename_i l h' m hbd;simp only[Option.isSome_none,cond_false]at h;obtain⟨e1,e2,e3,e4⟩:=fC (P:=P) (cap:=cap - lo0) h2 hbd (by omega) true;have e5:=iT hu hty (b0:=b0) e1;rw[←hv]at e5;cases hcnd:lo.isSome&&!hi.isSome&&(Nat.beq l h'&&nB (ids.zip (ids.map (aP hp))) id lo0)with
     |true=>
      simp only[hcnd,cond_true]at h;simp only[lγ,beq_eq,lβ]at hcnd;have hlt:=K7 cx.hr hb hcnd.2.2;have hlh:=hcnd.2.1;refine aA cx h (hex _ e5) ?_;simp only[Option.isSome_none,Bool.false_eq_true,if_false,VR];refine⟨_,_,[],by rw[show h' - l=0 by omega];rfl,by simp,?_,by simp[oD],by simp⟩
      simp only[gv];rw[hb0 hlt];split<;>simp
     |false=>
     simp only[hcnd,cond_false]at h;refine aA cx h (hex _ e5) ?_;simp only[Option.isSome_none,Bool.false_eq_true,if_false,VR];refine⟨b,o',cap,nn,_,hz▸hb,by omega,hcn,by rw[show cap - lo0 - l=cap - (lo0+l) by omega],?_⟩
     intro hlt;rw[if_neg (by omega),hb0 (by omega)];simp[cz,hz,mβ,Nat.add_assoc]
    ·simp at h
   ·simp[hz]at h
  ·exact absurd rfl (hm id lo0 len0 z)
 ·simp at h
end
end Go.Ab
end
section
namespace Go.Ab
open Go
variable [Letters]
section
variable {P:Program} {G:bF} {o:Oper} {a:Act} {φ:List cb} {w:World} {S:Nat→Prop} {hp:List Ob} {tm:Tm} {base:Nat} {d:D} {ups:List (Nat×Ob)} {new:List Ob}
theorem bC {c:Call}{b:Builtin}(ho:o.op= .call c)(hc:c.callee= .builtin b):
  (execOp a.eval o).run P w=(builtin b c.argTypes o.type (c.args.map fun| .const _=>true|_=>false) (c.args.map a.eval)).run P w:=by
 simp only[execOp,ho,resolve,hc,Sem.run_bind,Sem.run_pure,Result.andThen_ok,invoke];rfl
theorem uJ {c:Call}{as:List A}{x:D}{ts:List TypeId}(cx:Cx G a φ w S hp tm)(ha:mz P G ts c.args.toList=some as)(hv:as.map (ev tm)=[x]):∃v,c.args.map a.eval= #[v]∧VR φ w S x v:=by
 have h:=cj cx.tmr cx.gr ha;rw[hv]at h;obtain⟨u,us,e,h1,h2⟩:=h.cons_inv;obtain rfl:=h2.nil_inv;refine⟨u,?_,h1⟩;apply Array.ext';simpa using e
theorem DT {c:Call}{as:List A}{x y:D}{ts:List TypeId}(cx:Cx G a φ w S hp tm)(ha:mz P G ts c.args.toList=some as)(hv:as.map (ev tm)=[x,y]):∃v u,c.args.map a.eval= #[v,u]∧VR φ w S x v∧VR φ w S y u:=by
 have h:=cj cx.tmr cx.gr ha;rw[hv]at h;obtain⟨u,us,e,h1,h2⟩:=h.cons_inv;obtain⟨u',us',e',h3,h4⟩:=h2.cons_inv;obtain rfl:=h4.nil_inv;subst e';refine⟨u,u',?_,h1,h3⟩;apply Array.ext';simpa using e
theorem QN {x:D}{v:Value}{n:Nat}(h:rH x=some n)(hv:VR φ w S x v):∃b c,v= .slice b n c:=by
 unfold rH at h;split at h<;>simp only[lα,reduceCtorEq]at h<;>subst h
 ·simp only[VR,PR]at hv;obtain⟨b,c,us,rfl,_,hp,_⟩:=hv;rw[(PRs_iff.1 hp).1];exact⟨b,c,rfl⟩
 ·simp only[VR,PR]at hv;obtain⟨⟨b,c,us,rfl,_,hp,_⟩,_⟩:=hv;rw[(PRs_iff.1 hp).1];exact⟨b,c,rfl⟩
 ·simp only[VR]at hv;obtain⟨b,c,us,rfl,_,_,hp,_⟩:=hv;rw[(PRs_iff.1 hp).1];exact⟨b,c,rfl⟩
 ·simp only[VR]at hv;obtain⟨b,o',c,n,a',_,_,_,rfl,_⟩:=hv;exact⟨_,_,rfl⟩
theorem cw {r:Nat}{es:Array MapEntry}{c:Nat}(h:w.heap[r]?=some (.map es c)):(getObj r).run P w= .ok (.map es c) w:=by simp[getObj,Sem.run,h]
theorem B0 (cx:Cx G a φ w S hp tm){c:Call}{t:TypeId}{ts:List TypeId}{as:List A}{kd:Nat}(ho:o.op= .call c)(hc:c.callee= .builtin .len)(h0:c.argTypes[0]?=some t)
  (hu:(kd=0∧und P t= .string)∨(kd=1∧∃e,und P t= .slice e)∨(kd=2∧∃k e,und P t= .map k e)) (ha:mz P G ts c.args.toList=some as)
  (h:Kn kd (as.map (ev tm)) (bj (.len kd) (as.map (ev tm)) hp) ((bj (.len kd) (as.map (ev tm)) hp).map (aP hp))=some (d,ups,new)):EffOk P o a φ w S hp base d (grow (ao hp ups) new):=by
 have hex:∀v (n:Nat),c.args.map a.eval= #[v]→(Builtin.len_ c.argTypes o.type #[v]).run P w= .ok (goInt n) w→(execOp a.eval o).run P w= .ok (.value (goInt n)) w:=by
  intro v n e1 e2;rw[bC ho hc,e1];simp[builtin,e2]
 have hgo:∀n:Nat,VR φ w S (.p (De n)) (goInt n):=by intro n;simp[VR,PR,De,goInt]
 unfold Kn at h;split at h
 ·rename_i s heq;obtain⟨v,e1,e2⟩:=uJ cx ha heq;have he:und P t= .string:=by rcases hu with⟨_,h⟩|⟨h,_⟩|⟨h,_⟩<;>first|exact h|simp at h
  simp only[VR,PR]at e2;obtain⟨b,rfl,rfl⟩:=e2;refine aA cx h (hex _ (b.data.toList.map UInt8.toNat).length e1 ?_) (hgo _);simp[Builtin.len_,h0,run_underlying (aK he (by simp))]
 ·rename_i x heq;obtain⟨v,e1,e2⟩:=uJ cx ha heq;obtain⟨e,he⟩:∃e,und P t= .slice e:=by rcases hu with⟨h,_⟩|⟨_,h⟩|⟨h,_⟩<;>first|exact h|simp at h
  split at h
  ·rename_i n hn;obtain⟨b,c',rfl⟩:=QN hn e2;refine aA cx h (hex _ n e1 ?_) (hgo _);simp[Builtin.len_,h0,run_underlying (aK he (by simp))]
  ·simp at h
 ·rename_i id heq;obtain⟨v,e1,e2⟩:=uJ cx ha heq;obtain⟨k,e,he⟩:∃k e,und P t= .map k e:=by rcases hu with⟨h,_⟩|⟨h,_⟩|⟨_,h⟩<;>first|exact h|simp at h
  simp only[VR]at e2;obtain⟨r,hr,rfl⟩:=e2;have hnd:bj (.len 2) (as.map (ev tm)) hp=[id]:=by rw[heq];rfl
  rw[hnd]at h;split at h
  ·rename_i ks vs hl;obtain⟨es,cl,g1,g2,g3⟩:=cx.hr.obj id _ _ hr (bn hl (by simp));refine aA cx h (hex _ ks.length e1 ?_) (hgo _);have:es.size=ks.length:=by have:=g2.1;simp at this;omega
   simp[Builtin.len_,h0,run_underlying (aK he (by simp)),cw g1,this]
  ·rename_i ks vs hl;obtain⟨g0,es,cl,g1,g2,g3⟩:=cx.hr.obj id _ _ hr (bn hl (by simp));refine aA cx h (hex _ ks.length e1 ?_) (hgo _);have:es.size=ks.length:=by have:=g2.1;simp at this;omega
   simp[Builtin.len_,h0,run_underlying (aK he (by simp)),cw g1,this]
  ·simp at h
 ·rename_i heq;obtain⟨v,e1,e2⟩:=uJ cx ha heq;obtain⟨k,e,he⟩:∃k e,und P t= .map k e:=by rcases hu with⟨h,_⟩|⟨h,_⟩|⟨_,h⟩<;>first|exact h|simp at h
  simp only[VR,PR]at e2;subst e2;refine aA cx h (hex _ 0 e1 ?_) (hgo _);simp[Builtin.len_,h0,run_underlying (aK he (by simp))]
 ·rename_i ks vs heq;obtain⟨v,e1,e2⟩:=uJ cx ha heq;obtain⟨k,e,he⟩:∃k e,und P t= .map k e:=by rcases hu with⟨h,_⟩|⟨h,_⟩|⟨_,h⟩<;>first|exact h|simp at h
  simp only[VR,PR]at e2;obtain⟨r,es,cl,rfl,g0,g1,g2,g3⟩:=e2;refine aA cx h (hex _ ks.length e1 ?_) (hgo _);have:es.size=ks.length:=by have:=(PRs_iff.1 g2).1;simp at this;omega
  simp[Builtin.len_,h0,run_underlying (aK he (by simp)),cw g1,this]
 ·simp at h
theorem SA (cx:Cx G a φ w S hp tm){c:Call}{t e:TypeId}{ts:List TypeId}{as:List A}(ho:o.op= .call c)(hc:c.callee= .builtin .cap)(h0:c.argTypes[0]?=some t)
  (hu:und P t= .slice e) (ha:mz P G ts c.args.toList=some as) (h:NA (as.map (ev tm))=some (d,ups,new)):EffOk P o a φ w S hp base d (grow (ao hp ups) new):=by
 have hex:∀b l (n:Nat),c.args.map a.eval= #[.slice b l n]→(execOp a.eval o).run P w= .ok (.value (goInt n)) w:=by
  intro b l n e1;rw[bC ho hc,e1];simp[builtin,Builtin.cap_,h0,run_underlying (aK hu (by simp))]
 have hgo:∀n:Nat,VR φ w S (.p (De n)) (goInt n):=by intro n;simp[VR,PR,De,goInt]
 unfold NA at h;split at h
 ·rename_i z es heq;obtain⟨v,e1,e2⟩:=uJ cx ha heq;simp only[VR]at e2;obtain⟨b,c',us,rfl,_,ht,hp1,_⟩:=e2;simp only[gv]at ht;subst ht;rw[(PRs_iff.1 hp1).1]at h;exact aA cx h (hex _ _ _ e1) (hgo _)
 ·rename_i z es heq;obtain⟨v,e1,e2⟩:=uJ cx ha heq;simp only[VR]at e2;obtain⟨b,c',us,rfl,_,ht,hp1,_⟩:=e2;obtain⟨_,rfl⟩:=ht;exact aA cx h (hex _ _ _ e1) (hgo _)
 ·simp at h
theorem SJ (cx:Cx G a φ w S hp tm){c:Call}{ts:List TypeId}{as:List A}(ho:o.op= .call c)(hc:c.callee= .builtin .min)(ha:mz P G ts c.args.toList=some as)(h:DN (as.map (ev tm))=some (d,ups,new)):
  EffOk P o a φ w S hp base d (grow (ao hp ups) new):=by
 unfold DN at h;split at h
 ·rename_i k x k' y heq;obtain⟨v,u,e1,e2,e3⟩:=DT cx ha heq;simp only[VR,PR]at e2 e3;subst e2 e3;split at h
  ·rename_i hk;subst hk;refine aA cx h (v:= .int k (if y<x then y else x)) ?_ ?_
   ·rw[bC ho hc,e1];simp[builtin,Builtin.min_,Builtin.min2]
   ·rw[eY];simp only[VR,PR];by_cases hh:y<x<;>simp[hh]
  ·simp at h
 ·simp at h
theorem SI (cx:Cx G a φ w S hp tm){c:Call}{ts:List TypeId}{as:List A}(ho:o.op= .call c)(hc:c.callee= .builtin .max)(ha:mz P G ts c.args.toList=some as)(h:DM (as.map (ev tm))=some (d,ups,new)):
  EffOk P o a φ w S hp base d (grow (ao hp ups) new):=by
 unfold DM at h;split at h
 ·rename_i k x k' y heq;obtain⟨v,u,e1,e2,e3⟩:=DT cx ha heq;simp only[VR,PR]at e2 e3;subst e2 e3;split at h
  ·rename_i hk;subst hk;refine aA cx h (v:= .int k (if y>x then y else x)) ?_ ?_
   ·rw[bC ho hc,e1];simp[builtin,Builtin.max_,Builtin.max2]
   ·rw[eY];simp only[VR,PR];by_cases hh:x<y<;>simp[hh]
  ·simp at h
 ·simp at h
theorem NL (a b:ByteArray):(a==b)=(a.data.toList==b.data.toList):=by
 show(a.data==b.data)=_;rw[mη,beq_iff_eq,beq_iff_eq];exact⟨fun h=>by rw[h],fun h=>Array.ext' h⟩
theorem Aq {x y:Da}{v u:Value}{kt:TypeDesc}{b:Bool}(hx:PR w S x v)(hy:PR w S y u)(h:mg kt x y=some b):Instr.sameNow kt v u=some b:=by
 unfold mg at h;split at h
 ·rename_i k a k' b';simp only[PR]at hx hy;subst hx hy;split at h
  ·rename_i hkk;subst hkk;simp only[lα,f9]at h;subst h;simp[Instr.sameNow]
  ·simp at h
 ·rename_i s s';simp only[PR]at hx hy;obtain⟨b1,rfl,rfl⟩:=hx;obtain⟨b2,rfl,rfl⟩:=hy;simp only[lα,B7]at h;subst h;simp only[Instr.sameNow,NL]
 ·simp at h
end
end Go.Ab
end
section
namespace Go.Ab
open Go
variable [Letters]
section
variable {P:Program} {G:bF} {o:Oper} {a:Act} {φ:List cb} {w:World} {S:Nat→Prop} {hp:List Ob} {tm:Tm} {base:Nat} {d:D} {ups:List (Nat×Ob)} {new:List Ob}
def Mm (es:List MapEntry)(n:Nat):Option Nat→Option (Nat×Value)
 |none=>none
 |some i=>(es[i - n]?).map fun e=>(i,e.val)
theorem Ah {kt:TypeDesc}{k:Da}{v:Value}(hk:PR w S k v):∀{ks:List Da} {es:List MapEntry} {n:Nat} {r:Option Nat},Pw (PR w S) ks (es.map (·.key))→dY kt k ks n=some r→
  Instr.findNow kt v es n=some (Mm es n r)∧(∀i,r=some i→n≤i∧i - n<es.length)
 |[],es,n,r,hp,h=>by
  have:es=[]:=by have:=hp.nil_inv;simpa using this
  subst this;simp only[dY,lα]at h;subst h;exact⟨rfl,by simp⟩
 |x::ks,[],n,r,hp,h=>by have:=hp.1;simp at this
 |x::ks,e::es,n,r,hp,h=>by
  simp only[dY]at h;have hx:=hp.head;split at h
  ·rename_i he;simp only[lα]at h;subst h;have:=Aq hk hx he;simp only[Instr.findNow,this];exact⟨by simp[Mm],by simp⟩
  ·rename_i he;have h1:=Aq hk hx he;obtain⟨g1,g2⟩:=Ah hk hp.tail h;simp only[Instr.findNow,h1,g1];refine⟨?_,?_⟩
   ·congr 1;cases r with
    |none=>rfl
    |some i=>
     obtain⟨q1,q2⟩:=g2 i rfl;simp only[Mm];rw[show i - n=(i - (n+1))+1 by omega,List.getElem?_cons_succ]
   ·intro i hi;obtain⟨q1,q2⟩:=g2 i hi;exact⟨by omega,by simp;omega⟩
  ·simp at h
theorem dH {kt:TypeDesc}{kty:TypeId}(hu:P.underlying kty=some kt){k:Da}{v:Value}(hk:PR w S k v){ks:List Da}{es:List MapEntry}{r:Option Nat}(hp:Pw (PR w S) ks (es.map (·.key)))(h:dY kt k ks 0=some r):
  (Instr.findKey kty v es).run P w= .ok (Mm es 0 r) w:=by
 obtain⟨g1,g2⟩:=Ah hk hp h;simp only[Instr.findKey,Sem.run_bind,run_underlying hu,Result.andThen_ok,g1,Sem.run_pure]
theorem iN {kt:TypeDesc}{kty:TypeId}(hu:P.underlying kty=some kt)(hk:dA kt=true)(e:Bool)(v:Value):(Instr.checkKey e 10000 kty v).run P w= .ok () w:=by
 unfold Instr.checkKey;simp only[Sem.run_bind,run_underlying hu,Result.andThen_ok];cases kt<;>simp[dA]at hk<;>rfl
theorem Ik {t:TypeId}(h:und P t≠ .invalid):P.underlying t=some (und P t):=by
 unfold und at*
 cases hu:P.underlying t with
 |none=>simp[hu]at h
 |some d=>simp
theorem yj {kt:TypeDesc}(h:dA kt=true):kt≠ .invalid:=by rintro rfl;simp[dA]at h
theorem sL {φ:List cb}{w:World}{S:Nat→Prop}:∀{zs:List Nat} {vs:List Value} {ds:List D},w9 zs vs=some ds→Pw (VR φ w S) ds vs∧∀v∈vs,aW v
 |zs,[],ds,h=>by simp only[w9,lα]at h;subst h;exact⟨Pw.nil,by simp⟩
 |zs,v::r,ds,h=>by
  simp only[w9]at h;split at h
  ·rename_i x hx;split at h
   ·rename_i xs hxs;simp only[lα]at h;subst h;obtain⟨g1,g2⟩:=sL (φ:=φ) (w:=w) (S:=S) hxs;have:VR φ w S x v∧aW v:=by
     unfold Ur at hx;split at hx
     ·simp only[lα]at hx;subst hx;exact⟨Nq,trivial⟩
     ·cases hd:cM v with
      |none=>simp[hd]at hx
      |some y=>simp[hd]at hx;subst hx;have:=z7 (w:=w) (S:=S) hd;exact⟨by simpa only[VR]using this.1,this.2⟩
    exact⟨Pw.cons this.1 g1,by simpa using⟨this.2,g2⟩⟩
   ·simp at h
  ·simp at h
theorem kY {t:TypeId}{zs:List D}(h:im P t=some zs):∃i z y,P.info? t=some i∧i.zero=some z∧gn P t y∧z.cells.size=y.size∧(y.agg=true→z= .agg z.cells)∧(y.agg=false→z.cells= #[z])∧
  (∀φ w S,Pw (VR φ w S) zs z.cells.toList)∧(∀c∈z.cells.toList,aW c):=by
 unfold im at h;split at h
 ·rename_i i y hi hy;split at h
  ·rename_i z hz;rw[beq_eq]at h;by_cases hs:z.cells.size=y.size
   ·simp only[hs,decide_true,Bool.true_and]at h;cases hm:T7 z y with
    |false=>rw[hm]at h;simp at h
    |true=>
     rw[hm]at h;simp only[cond_true]at h;refine⟨i,z,y,hi,hz,cW hy,hs,?_,?_,fun φ w S=>(sL h).1,(sL (φ:=[]) (w:=default) (S:=fun _=>False) h).2⟩
     ·intro ha;cases z<;>simp_all [Value.cells,T7]
     ·intro ha;cases z<;>simp_all [Value.cells,T7]
   ·simp[hs]at h
  ·simp at h
 ·simp at h
theorem rV {t:TypeId}{z:D}(h:uC P t=some z):∃v y,(zeroValue t).run P w= .ok v w∧gn P t y∧v.cells.size=y.size∧∀φ w S,VR φ w S z v:=by
 unfold uC at h;split at h
 ·rename_i ds y hc hy;obtain⟨i,v,y',hi,hz,hty,hs,g1,g2,g3,g4⟩:=kY hc;have hyy:=cW hy;have hagg:y'.agg=y.agg:=by rw[hty.agg,hyy.agg];have:=hty.und.symm.trans hyy.und;simp at this;rw[this]
  refine⟨v,y',by simp[zeroValue,typeInfo,hi,hz],hty,hs,fun φ w S=>?_⟩
  cases ha:y.agg with
  |true=>
   rw[ha]at h;simp only[dz,cond_true,lα]at h;subst h;have:=nG (g3 φ w S) g4;rw[Array.toArray_toList]at this;rw[g1 (hagg.trans ha)];exact this
  |false=>
   rw[ha]at h;simp only[dz,cond_false]at h;split at h
   ·rename_i x;simp only[lα]at h;subst h;have g:=g3 φ w S;rw[g2 (hagg.trans ha)]at g;exact g.head
   ·simp at h
 ·simp at h
theorem SH (cx:Cx G a φ w S hp tm){t k e tx ti:TypeId}{x i:Operand}{ok:Bool}{ax ai:A}{z:D}(ho:o.op= .lookup t x i ok)(hs:und P t= .map k e)(hk:dA (und P k)=true)(hz:uC P e=some z)
  (hx:cA P G tx x=some ax) (hi:cA P G ti i=some ai) (h:BM (und P k) z ok [ev tm ax,ev tm ai] (bj (.lkp (und P k) z ok) [ev tm ax,ev tm ai] hp) ((bj (.lkp (und P k) z ok) [ev tm ax,ev tm ai] hp).map (aP hp))=some (d,ups,new)):
  EffOk P o a φ w S hp base d (grow (ao hp ups) new):=by
 have h1:=aU cx.tmr cx.gr hx;have h2:=aU cx.tmr cx.gr hi;have hu:=aK hs (by simp);have huk:=Ik (yj hk);obtain⟨zv,zy,hzv,_,_,hzr⟩:=rV (w:=w) hz
 -- the lookup,once the entries are known
 have key:∀(es:Array MapEntry) (ks ws:List Da) (kd:D),Pw (PR w S) ks (es.toList.map (·.key))→Pw (PR w S) ws (es.toList.map (·.val))→
   ((a.eval x= .map none∧es= #[])∨∃r cl,a.eval x= .map (some r)∧w.heap[r]?=some (.map es cl))→
   VR φ w S kd (a.eval i)→
   (match kd with
    | .p k1=>match dY (und P k) k1 ks 0 with
     |some (some i)=>match ws[i]? with
      |some v=>val (bif ok then .tup [.p v,.p (.bool true)]else .p v)
      |none=>none
     |some none=>val (bif ok then .tup [z,.p (.bool false)]else z)
     |none=>none
    |_=>none)=some (d,ups,new)→EffOk P o a φ w S hp base d (grow (ao hp ups) new):=by
  intro es ks ws kd hks hws hes hkd hh;split at hh
  ·rename_i k1;simp only[VR]at hkd;have hck:=iN (w:=w) huk hk es.isEmpty (a.eval i);split at hh
   ·rename_i j hj;have hf:=dH huk hkd hks hj;split at hh
    ·rename_i v hv;obtain⟨u,hu1,hu2⟩:=hws.get hv;have he:∃en,es.toList[j]?=some en∧en.val=u:=by
      rw[lσ]at hu1;cases hc:es.toList[j]? with
      |none=>simp[hc]at hu1
      |some en=>simp[hc]at hu1;exact⟨en,rfl,hu1⟩
     obtain⟨en,he1,he2⟩:=he;simp only[Mm,Nat.sub_zero,he1,Option.map_some]at hf;refine aA cx hh (v:=if ok then .tuple #[en.val,.bool true]else en.val) ?_ ?_
     ·rcases hes with⟨hx0,rfl⟩|⟨r,cl,hx0,hr0⟩
      ·simp at he1
      ·simp[execOp,ho,Instr.lookup,run_underlying hu,hx0,cw hr0,hck,hf]
     ·cases ok
      ·simp only[cond_false,VR,Bool.false_eq_true,if_false,he2];exact hu2
      ·simp only[cond_true,VR,if_true,he2,ve];exact⟨_,rfl,u,[.bool true],rfl,hu2,.bool true,[],rfl,by simp[PR],rfl⟩
    ·simp at hh
   ·rename_i hj;have hf:=dH huk hkd hks hj;simp only[Mm]at hf;refine aA cx hh (v:=if ok then .tuple #[zv,.bool false]else zv) ?_ ?_
    ·rcases hes with⟨hx0,rfl⟩|⟨r,cl,hx0,hr0⟩
     ·simp only[Array.isEmpty_empty]at hck;simp[execOp,ho,Instr.lookup,run_underlying hu,hx0,hck,hf,hzv]
     ·simp[execOp,ho,Instr.lookup,run_underlying hu,hx0,cw hr0,hck,hf,hzv]
    ·cases ok
     ·simpa using hzr φ w S
     ·simp only[cond_true,VR,if_true,ve];exact⟨_,rfl,zv,[.bool false],rfl,hzr φ w S,.bool false,[],rfl,by simp[PR],rfl⟩
   ·simp at hh
  ·simp at hh
 have keyD:∀(es:Array MapEntry) (ks:List Da) (ws:List D) (kd:D),Pw (PR w S) ks (es.toList.map (·.key))→Pw (VR φ w S) ws (es.toList.map (·.val))→
   (∃r cl,a.eval x= .map (some r)∧w.heap[r]?=some (.map es cl))→
   VR φ w S kd (a.eval i)→P6 (und P k) z ok ks ws kd=some (d,ups,new)→EffOk P o a φ w S hp base d (grow (ao hp ups) new):=by
  intro es ks ws kd hks hws hes hkd hh;obtain⟨r,cl,hx0,hr0⟩:=hes;unfold P6 at hh;split at hh
  ·rename_i k1;simp only[VR]at hkd;have hck:=iN (w:=w) huk hk es.isEmpty (a.eval i);split at hh
   ·rename_i j hj;have hf:=dH huk hkd hks hj;split at hh
    ·rename_i v hv;obtain⟨u,hu1,hu2⟩:=hws.get hv;have he:∃en,es.toList[j]?=some en∧en.val=u:=by
      rw[lσ]at hu1;cases hc:es.toList[j]? with
      |none=>simp[hc]at hu1
      |some en=>simp[hc]at hu1;exact⟨en,rfl,hu1⟩
     obtain⟨en,he1,he2⟩:=he;simp only[Mm,Nat.sub_zero,he1,Option.map_some]at hf;refine aA cx hh (v:=if ok then .tuple #[en.val,.bool true]else en.val) ?_ ?_
     ·simp[execOp,ho,Instr.lookup,run_underlying hu,hx0,cw hr0,hck,hf]
     ·cases ok
      ·simp only[cond_false,Bool.false_eq_true,if_false,he2];exact hu2
      ·simp only[cond_true,VR,if_true,he2,ve];exact⟨_,rfl,u,[.bool true],rfl,hu2,.bool true,[],rfl,by simp[PR],rfl⟩
    ·simp at hh
   ·rename_i hj;have hf:=dH huk hkd hks hj;simp only[Mm]at hf;refine aA cx hh (v:=if ok then .tuple #[zv,.bool false]else zv) ?_ ?_
    ·simp[execOp,ho,Instr.lookup,run_underlying hu,hx0,cw hr0,hck,hf,hzv]
    ·cases ok
     ·simpa using hzr φ w S
     ·simp only[cond_true,VR,if_true,ve];exact⟨_,rfl,zv,[.bool false],rfl,hzr φ w S,.bool false,[],rfl,by simp[PR],rfl⟩
   ·simp at hh
  ·simp at hh
 generalize ev tm ax=dx at*
 generalize ev tm ai=di at*
 unfold BM at h;simp only at h;split at h
 ·rename_i kd heq;simp only[lμ,and_true]at heq;obtain⟨rfl,rfl⟩:=heq;simp only[VR,PR]at h1;exact key #[] [] [] _ (by simpa using Pw.nil) (by simpa using Pw.nil) (.inl ⟨h1,rfl⟩) h2 h
 ·rename_i ks ws kd heq;simp only[lμ,and_true]at heq;obtain⟨rfl,rfl⟩:=heq;simp only[VR,PR]at h1;obtain⟨r,es,cl,hv,_,hh,g1,g2⟩:=h1;exact key es ks ws _ (PRs_iff.1 g1) (PRs_iff.1 g2) (.inr ⟨r,cl,hv,hh⟩) h2 h
 ·rename_i id kd heq;simp only[lμ,and_true]at heq;obtain⟨rfl,rfl⟩:=heq;simp only[VR]at h1;obtain⟨r,hr,hv⟩:=h1;simp only[bj,dids]at h;split at h
  ·rename_i ks ws hl;obtain⟨es,cl,g1,g2,g3⟩:=cx.hr.obj id _ _ hr (bn hl (by simp));exact key es ks ws _ g2 g3 (.inr ⟨r,cl,hv,g1⟩) h2 h
  ·rename_i ks ws hl;obtain⟨_,es,cl,g1,g2,g3⟩:=cx.hr.obj id _ _ hr (bn hl (by simp));exact key es ks ws _ g2 g3 (.inr ⟨r,cl,hv,g1⟩) h2 h
  ·rename_i ks ws hl;obtain⟨es,cl,g1,g2,g3⟩:=cx.hr.obj id _ _ hr (bn hl (by simp));exact keyD es ks ws _ g2 g3 ⟨r,cl,hv,g1⟩ h2 h
  ·simp at h
 ·simp at h
theorem G5 (cx:Cx G a φ w S hp tm){t xt tx:TypeId}{x:Operand}{ok:Bool}{ax:A}{z:D}(ho:o.op= .typeAssert x xt t ok)(hu:∃e,P.underlying t=some e∧∀ms,e≠ .interface ms)(hz:uC P t=some z)
  (hx:cA P G tx x=some ax) (h:ng t z ok [ev tm ax]=some (d,ups,new)):EffOk P o a φ w S hp base d (grow (ao hp ups) new):=by
 have h1:=aU cx.tmr cx.gr hx;obtain⟨e,hu,hne⟩:=hu;obtain⟨zv,zy,hzv,_,_,hzr⟩:=rV (w:=w) hz;have hyes:∀v,a.eval x= .iface t v→(execOp a.eval o).run P w= .ok (.value (if ok then .tuple #[v,.bool true]else v)) w:=by
  intro v hv;simp only[execOp,ho,Instr.typeAssert,Sem.run_bind,run_underlying hu,Result.andThen_ok,hv];cases e<;>first
   |(rename_i ms;exact absurd rfl (hne ms))
   |simp
 have hno:∀t' v,a.eval x= .iface t' v→t'≠t→ok=true→(execOp a.eval o).run P w= .ok (.value (.tuple #[zv,.bool false])) w:=by
  intro t' v hv hn hok;simp only[execOp,ho,Instr.typeAssert,Sem.run_bind,run_underlying hu,Result.andThen_ok,hv];cases e<;>first
   |(rename_i ms;exact absurd rfl (hne ms))
   |simp[hn,hok,hzv]
 have kyes:∀(v:Value) (d0:D),a.eval x= .iface t v→VR φ w S d0 v→val (bif ok then .tup [d0,.p (.bool true)]else d0)=some (d,ups,new)→EffOk P o a φ w S hp base d (grow (ao hp ups) new):=by
  intro v d0 hv hd hh;refine aA cx hh (hyes v hv) ?_;cases ok
  ·simpa using hd
  ·simp only[cond_true,VR,if_true,ve];exact⟨_,rfl,v,[.bool true],rfl,hd,.bool true,[],rfl,by simp[PR],rfl⟩
 have kno:∀(t':TypeId) (v:Value),a.eval x= .iface t' v→t'≠t→ok=true→val (.tup [z,.p (.bool false)])=some (d,ups,new)→EffOk P o a φ w S hp base d (grow (ao hp ups) new):=by
  intro t' v hv hn hok hh;refine aA cx hh (hno t' v hv hn hok) ?_;simp only[VR,ve];exact⟨_,rfl,zv,[.bool false],rfl,hzr φ w S,.bool false,[],rfl,by simp[PR],rfl⟩
 generalize ev tm ax=dx at*
 unfold ng at h;split at h
 ·rename_i t' x' heq;simp only[lμ,and_true]at heq;subst heq;simp only[VR,PR]at h1;obtain⟨u,hv,hr⟩:=h1;rw[beq_eq]at h;by_cases ht:t=t'
  ·subst ht;simp only[decide_true,cond_true]at h;exact kyes u (.p x') hv (by simpa only[VR]using hr) h
  ·simp only[ht,decide_false,cond_false]at h;cases ok with
   |false=>simp at h
   |true=>exact kno t' u hv (fun e=>ht e.symm) rfl h
 ·rename_i t' d0 heq;simp only[lμ,and_true]at heq;subst heq;simp only[VR]at h1;obtain⟨u,hv,hr⟩:=h1;rw[beq_eq]at h;by_cases ht:t=t'
  ·subst ht;simp only[decide_true,cond_true]at h;exact kyes u d0 hv hr h
  ·simp only[ht,decide_false,cond_false]at h;cases ok with
   |false=>simp at h
   |true=>exact kno t' u hv (fun e=>ht e.symm) rfl h
 ·simp at h
end
end Go.Ab
end
