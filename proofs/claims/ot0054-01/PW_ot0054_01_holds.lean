import PyProof.Rows.All
import Wide.All
import OpenK.AllK
import Wide.FinOn
import KE.KDictSum
import KE.KDictOf
import PyProof.AttrMissHeap
import Lean
import PySem.Challenge.RW_ot0054_01
set_option Elab.async false
set_option linter.all false
set_option bootstrap.genMatcherCode false
set_option compiler.extract_closed false
set_option genSizeOf false
set_option genSizeOfSpec false
set_option genInjectivity false
set_option tactic.hygienic false
set_option maxRecDepth 100000
set_option maxHeartbeats 4000000
namespace Mine.Internal
open PySem PySem.W PySem.Calls PyProof.Rows
inductive V where
 |none
 |bool(b:Bool)
 |int(i:Int)
 |str(s:Str)
 |tup(l:List V)
 |ref(n:Nat)
 |fn(s:Str)
 |cls(s:Str)
 |typ(s:String)
 |bi(s:String)
 |bits
 |eF(lo hi st:Int)
 |qG(l:List V)
 deriving Inhabited
inductive VO where
 |list(l:List V)
 |dict(l:List (V×V))
 |inst(c:Str)(a:List (Str×V))
 deriving Inhabited
noncomputable abbrev VH:=List VO
noncomputable abbrev Loc:=List (Str×V)
noncomputable abbrev Sc:=List (Str×NameKind)
set_option genCtorIdx false in
inductive Fl where
 |next|brk|cont
 |ret(v:V)
 deriving Inhabited
inductive Res where
 |done(f:Fl)(loc:Loc)(H:VH)
 |exc(c kind:Str)(H:VH)
 |stuck
 deriving Inhabited
inductive Fk where
 |top(f:Str)
 |aL(c m:Str)
 deriving DecidableEq
noncomputable abbrev CF:=Fk->List V->VH->(V->VH->Res)->Res
noncomputable abbrev Kv:=V->VH->Res
noncomputable abbrev Kf:=Fl->Loc->VH->Res
noncomputable def aU(x:Str):List (Str×V)->Option V
 |[]=>none
 |(y,v)::r=>if y=x then some v else aU x r
noncomputable def aB(x:Str)(v:V):List (Str×V)->List (Str×V)
 |[]=>[(x,v)]
 |(y,w)::r=>if y=x then(y,v)::r else(y,w)::aB x v r
noncomputable abbrev oR{X:Type}(o:Option X)(f:X->Res):Res:=match o with
 |some v=>f v
 |none=>.stuck
noncomputable def iD{S:Type}(d:S)(v:V)(f:Int->S):S:=by
 induction v using V.casesOn with
 |int i=>exact f i
 |_=>exact d
noncomputable def sD{S:Type}(d:S)(v:V)(f:Str->S):S:=by
 induction v using V.casesOn with
 |str s=>exact f s
 |_=>exact d
noncomputable def bD{S:Type}(d:S)(v:V)(f:Bool->S):S:=by
 induction v using V.casesOn with
 |bool s=>exact f s
 |_=>exact d
noncomputable def nD{S:Type}(d:S)(v:V)(f:Nat->S):S:=by
 induction v using V.casesOn with
 |ref n=>exact f n
 |_=>exact d
noncomputable def tD{S:Type}(d:S)(v:V)(f:List V->S):S:=by
 induction v using V.casesOn with
 |tup l=>exact f l
 |_=>exact d
noncomputable def fD{S:Type}(d:S)(v:V)(f:List V->S):S:=by
 induction v using V.casesOn with
 |qG l=>exact f l
 |_=>exact d
noncomputable def lD{S:Type}(d:S)(o:Option VO)(f:List V->S):S:=match o with
 |some (.list l)=>f l
 |_=>d
noncomputable def dD{S:Type}(d:S)(o:Option VO)(f:List (V×V)->S):S:=match o with
 |some (.dict l)=>f l
 |_=>d
noncomputable def aD{S:Type}(d:S)(o:Option VO)(f:Str->List (Str×V)->S):S:=match o with
 |some (.inst c as)=>f c as
 |_=>d
noncomputable def Mv{S:Type}(d:S)(l:List V)(f:V->S):S:=match l with
 |[v]=>f v
 |_=>d
noncomputable def Nk{S:Type}(d:S)(l:List V)(f:V->V->S):S:=match l with
 |[v,w]=>f v w
 |_=>d
noncomputable def Nf{S:Type}(d:S)(l:List V)(f:V->V->V->S):S:=match l with
 |[v,w,u]=>f v w u
 |_=>d
noncomputable def lR(v:V)(H:VH)(f:Nat->List V->Res):Res:=nD .stuck v λn=>lD .stuck H[n]? (f n)
noncomputable def qI(v:V):Bool:=by
 induction v using V.casesOn with
 |int _=>exact true
 |_=>exact false
noncomputable def qS(v:V):Bool:=by
 induction v using V.casesOn with
 |str _=>exact true
 |_=>exact false
noncomputable def qO(v:V):Bool:=by
 induction v using V.casesOn with
 |bool _=>exact true
 |_=>exact false
noncomputable def qU(v:V):Bool:=by
 induction v using V.casesOn with
 |tup _=>exact true
 |_=>exact false
noncomputable def qN(v:V):Bool:=by
 induction v using V.casesOn with
 |none=>exact true
 |_=>exact false
noncomputable def qF(v:V):Bool:=by
 induction v using V.casesOn with
 |qG _=>exact true
 |_=>exact false
noncomputable def qB(v:V):Bool:=by
 induction v using V.casesOn with
 |bits=>exact true
 |_=>exact false
noncomputable def qL:Option VO->Bool
 |some (.list _)=>true
 |_=>false
noncomputable def qD:Option VO->Bool
 |some (.dict _)=>true
 |_=>false
noncomputable def hZ:V->V->Bool
 |.int a,.int b=>decide (a=b)
 |.str a,.str b=>decide (a=b)
 |_,_=>false
noncomputable def Ot(v:V):Bool:=by
 induction v using V.casesOn with
 |int _=>exact true
 |str _=>exact true
 |_=>exact false
noncomputable def dR(x:V)(l:List (V×V)):Bool:=match x with
 |.int _=>l.all λp=>match p.1 with|.int _=>true|_=>false
 |.str _=>l.all λp=>match p.1 with|.str _=>true|_=>false
 |_=>false
noncomputable def d8(x:V):List (V×V)->Option V
 |[]=>none
 |(y,v)::r=>if hZ y x then some v else d8 x r
noncomputable def iQ(x v:V):List (V×V)->List (V×V)
 |[]=>[(x,v)]
 |(y,w)::r=>if hZ y x then(y,v)::r else(y,w)::iQ x v r
noncomputable def j5(x:V):List (V×V)->List (V×V)
 |[]=>[]
 |(y,w)::r=>if hZ y x then r else(y,w)::j5 x r
noncomputable def jA{X S:Type}(f:X->Option S):List X->Option (List S)
 |[]=>some []
 |a::r=>(f a).bind λb=>(jA f r).map (b::·)
noncomputable def Mb(H:VH):Nat->V->Option PyData
 |0,_=>none
 |n+1,v=>match v with
  |.none=>some .none
  |.bool b=>some (.bool b)
  |.int i=>some (.int i)
  |.str s=>some (.str s)
  |.tup l=>(jA (Mb H n) l).map .tuple
  |.ref r=>lD none H[r]? λl=>(jA (Mb H n) l).map .list
  |_=>none
noncomputable def SP(H:VH)(a b:V):Option Bool:=if qI a&&qI b then iD none a λx=>iD none b λy=>some (decide (x=y))else if qS a&&qS b then sD none a λx=>sD none b λy=>some (decide (x=y))else if qO a&&qO b then bD none a λx=>bD none b λy=>some (x==y)else(Mb H 8 a).bind λd=>(Mb H 8 b).bind λe=>if PySem.SeqAt.shaped d&&PySem.SeqAt.shaped e then some (PyData.eqv d e)else none
noncomputable def uQ(x:Str):List V->Option Bool
 |[]=>some false
 |.str y::r=>match uQ x r with
  |some b=>some (decide (y=x)||b)
  |none=>none
 |_::_=>none
noncomputable def jW(H:VH)(x:V)(l:List V):Option Bool:=if qS x then sD none x λs=>uQ s l else(Mb H 8 x).bind λd=>(jA (Mb H 8) l).bind λq=>if PySem.SeqAt.shaped d&&PyData.canLayAll0 q then some (q.any λy=>PyData.eqv y d)else none
noncomputable def lV(lo hi st:Int):Option (List V):=if st=1 then some ((List.range (hi-lo).toNat).map λi:Nat=>.int (lo+(i:Int)))else if st=-1 then some ((List.range (lo-hi).toNat).map λi:Nat=>.int (lo-(i:Int)))else none
noncomputable def Mq(v:V):Option Bool:=by
 induction v using V.casesOn with
 |bool b=>exact some b
 |none=>exact some false
 |int i=>exact some (decide (i≠0))
 |_=>exact none
noncomputable def Mf(i:Int):Bool:=decide (-(2^61)<=i)&&decide (i<=2^61)
noncomputable def Lv(op:Operator)(a b:V)(H:VH)(k:Kv):Res:=match op with
 |.Add=>if qI a then iD .stuck a λx=>iD .stuck b λy=>k (.int (x+y)) H else if qS a then sD .stuck a λx=>sD .stuck b λy=>if x.length+y.length<=1000 then k (.str (x++y)) H else .stuck else lR a H λz9 l=>lR b H λz9 m=>if l.length+m.length<=1000 then k (.ref H.length) (H++[.list (l++m)])else .stuck
 |.Sub=>iD .stuck a λx=>iD .stuck b λy=>k (.int (x-y)) H
 |.Mult=>if qI a then iD .stuck a λx=>iD .stuck b λy=>if Mf x&&Mf y then k (.int (x*y)) H else .stuck else lR a H λz9 l=>Mv .stuck l λv=>iD .stuck b λy=>if 0<=y/\y<=1000 then k (.ref H.length) (H++[.list (List.replicate y.toNat v)])else .stuck
 |.FloorDiv=>iD .stuck a λx=>iD .stuck b λy=>if 0<y/\y<1073741824 then k (.int (x/y)) H else .stuck
 |.Mod=>iD .stuck a λx=>iD .stuck b λy=>if 0<y then k (.int (x%y)) H else .stuck
 |.Pow=>iD .stuck a λx=>iD .stuck b λy=>if 0<=x/\x<=10/\0<=y/\y<=64 then k (.int (x^y.toNat)) H else .stuck
 |_=>.stuck
noncomputable def JP(a:V):Option Bool:=by
 induction a using V.casesOn with
 |none=>exact some true
 |ref _=>exact some false
 |int _=>exact some false
 |bool _=>exact some false
 |str _=>exact some false
 |tup _=>exact some false
 |_=>exact none
noncomputable def ZP(H:VH)(a b:V):Option Bool:=if qU b then tD none b λl=>jW H a l else nD none b λn=>if qL H[n]? then lD none H[n]? λl=>jW H a l else dD none H[n]? λl=>if dR a l then some (d8 a l).isSome else none
noncomputable def yS(a b:V)(f:Int->Int->Bool):Option Bool:=iD none a λx=>iD none b λy=>some (f x y)
noncomputable def i5(op:CmpOp)(a b:V)(H:VH):Option Bool:=match op with
 |.Eq=>SP H a b
 |.NotEq=>(SP H a b).map (!·)
 |.Lt=>yS a b λx y=>decide (x<y)
 |.LtE=>yS a b λx y=>decide (x<=y)
 |.Gt=>yS a b λx y=>decide (x>y)
 |.GtE=>yS a b λx y=>decide (x>=y)
 |.Is=>if qN b then JP a else none
 |.IsNot=>if qN b then(JP a).map (!·)else none
 |.In=>ZP H a b
 |.NotIn=>(ZP H a b).map (!·)
noncomputable def nS:List (Str×Int):=[("i8",8),("i16",16),("i32",32),("i64",64),("u8",8),("u16",16),("u32",32),("u64",64),("usize",64)]
noncomputable def eT(l:List V)(i:Int):Option V:=if 0<=i then(if i<2^62 then l[i.toNat]? else none)else if-(l.length:Int)<=i/\-(2^62)<=i then l[(i+(l.length:Int)).toNat]? else none
noncomputable def Mz(o i:V)(H:VH):Option V:=if qU o then tD none o λl=>iD none i λi=>eT l i else if qS o then sD none o λs=>iD none i λi=>if 0<=i/\i<2^62 then(s.cps[i.toNat]?).map λc=>.str ⟨#[c]⟩else none else if qB o then sD none i λs=>(nS.lookup s).map .int else if qF o then fD none o λl=>iD none i λi=>eT l i else nD none o λn=>if qL H[n]? then lD none H[n]? λl=>iD none i λi=>eT l i else dD none H[n]? λl=>if dR i l then d8 i l else none
noncomputable def cut(l:List V)(a b:V):Option (Nat×Nat):=if qN b then iD none a λa=>if 0<=a/\a<=l.length then some (a.toNat,l.length)else none else if qN a then iD none b λb=>if 0<=b/\b<=l.length then some (0,b.toNat)else none else iD none a λa=>iD none b λb=>if 0<=a/\a<=b/\b<=l.length then some (a.toNat,b.toNat)else none
noncomputable def Mt(l:List V)(p:Nat×Nat):List V:=(l.drop p.1).take (p.2-p.1)
noncomputable def dU(o a b:V)(H:VH)(k:Kv):Res:=if qU o then tD .stuck o λl=>iD .stuck a λa=>if qN b/\1<=a/\a<=l.length/\l.length<=1000 then k (.tup (l.drop a.toNat)) H else .stuck else lR o H λz9 l=>oR (cut l a b) λp=>if l.length<=1000 then k (.ref H.length) (H++[.list (Mt l p)])else .stuck
noncomputable def Mc(o i v:V)(H:VH)(k:VH->Res):Res:=nD .stuck o λn=>if qL H[n]? then lD .stuck H[n]? λl=>iD .stuck i λi=>if 0<=i/\i<l.length/\l.length<=1000 then k (H.set n (.list (l.set i.toNat v)))else .stuck else dD .stuck H[n]? λl=>if dR i l&&decide (l.length<=100)then k (H.set n (.dict (iQ i v l)))else .stuck
noncomputable def gF(o a b v:V)(H:VH)(k:VH->Res):Res:=lR o H λn l=>lR v H λm w=>oR (cut l a b) λp=>if n≠m/\w.length<=1000/\l.length<=1000 then k (H.set n (.list (l.take p.1++w++l.drop p.2)))else .stuck
noncomputable def BN:List String:=["items","cells","stacks","is_live","allocations","tags","places","world","memory","body","target","after","homes","block","index","jobs","program","inputs","fuel","rvalues","glue","late","frames","prints","outcome","name","arg_count","locals","blocks","spots","modules","adts","variants","sigs","traits","impls","consts","bodies"]
noncomputable def X1(c x:Str):Bool:=(c=="Memory"&&x=="is_live")||(c=="Rvalues"&&x=="cells")
noncomputable def mX(c x:Str):Bool:=BN.any (λs=>decide (Str.ofString s=x))&&!X1 c x
noncomputable def EB(v:V):Bool:=by
 induction v using V.casesOn with
 |bi _=>exact false
 |fn _=>exact false
 |bits=>exact false
 |_=>exact true
noncomputable def Ml(o:V)(x:Str)(H:VH):Option V:=nD none o λn=>aD none H[n]? λc as=>if mX c x then(match aU x as with
 |some v=>if EB v then some v else none
 |none=>none)else none
noncomputable def Ls(o:V)(x:Str)(v:V)(H:VH)(k:VH->Res):Res:=nD .stuck o λn=>aD .stuck H[n]? λc as=>if mX c x&&decide (as.length<=100)then k (H.set n (.inst c (aB x v as)))else .stuck
noncomputable def IM:List String:=["size_of","size_within","sum_of","part_types","first_place","offset_of_field","offset_of_item","pointer","moved","is_enum","parts_told","is_of_parts","parts_of_cells","want_whole","cells_of","rows_of","joined","filled","told_value","is_signed","least","greatest","fits","wrapped","exact","checked","compared","reckoned","told_live","_law_pool","_law_take","_law_one","_law_wrapped","_law_kinds","_law_number","_law_truth","_law_statement","_law_end","_law_body","_law_spot","_law_read","_law_worked","_law_done","_law_goal","_law_run","_law_told","_law_fixed_right","law"]
noncomputable def p_(c:Str):Bool:=IM.any (λs=>decide (Str.ofString s=c))
noncomputable def DH:List String:=["Stack","Allocation","Memory","DropGlue","Places","Rvalues","Frame","Machine","Body","World"]
noncomputable def oU(c:Str):Bool:=DH.any (λs=>decide (Str.ofString s=c))
noncomputable def Ly.m4(l m:List V):Bool:=@decide (l=m) (Classical.propDecidable _)
noncomputable def Ly(v:V)(H:VH):Option (List V×(VH->Bool)):=by
 induction v using V.casesOn with
 |tup l=>exact some (l,λz9=>true)
 |eF a b c=>exact if Mf a&&Mf b then(lV a b c).map λl=>(l,λz9=>true)else none
 |ref n=>exact lD none H[n]? λl=>some (l,λd=>lD false d[n]? λl'=>Ly.m4 l l')
 |_=>exact none
noncomputable def JN(H:VH)(v:V):Option Str:=if qU v then(Mb H 8 v).bind λd=>if PyData.showable d&&!d.hasDict&&decide (d.depth<=64)&&decide (d.shown.length<=1000000)then some d.shown else none else none
noncomputable def Mw(x:Int):List Int->List Int
 |[]=>[x]
 |y::r=>if x<=y then x::y::r else y::Mw x r
noncomputable def My:List V->Option (List Int)
 |[]=>some []
 |v::r=>iD none v λi=>(My r).map (i::·)
noncomputable def Mx:List V->Option (List (Int×V))
 |[]=>some []
 |v::r=>tD none v λl=>Nk none l λa b=>iD none a λa=>(Mx r).map ((a,b)::·)
noncomputable def L5(vs:List V)(H:VH)(k:Kv):Res:=if vs.length=1 then Mv .stuck vs λb=>iD .stuck b λb=>k (.eF 0 b 1) H else if vs.length=2 then Nk .stuck vs λa b=>iD .stuck a λa=>iD .stuck b λb=>k (.eF a b 1) H else Nf .stuck vs λa b c=>iD .stuck a λa=>iD .stuck b λb=>iD .stuck c λc=>if c=-1 then k (.eF a b c) H else .stuck
noncomputable def MT(v:V)(H:VH)(k:Kv):Res:=lR v H λz9 l=>if l.length<=1000 then k (.tup l) H else .stuck
noncomputable def TG(v:V)(H:VH)(k:Kv):Res:=if qU v then tD .stuck v λl=>if l.length<=1000 then k (.ref H.length) (H++[.list l])else .stuck else lR v H λz9 l=>if l.length<=1000 then k (.ref H.length) (H++[.list l])else .stuck
noncomputable def Hq(v:V)(H:VH)(k:Kv):Res:=iD .stuck v λi=>if 0<=i/\i<1000000 then k (.str (Str.ofString (toString i))) H else .stuck
noncomputable def Co(v:V)(H:VH)(k:Kv):Res:=lR v H λz9 l=>oR (Mx l) λY=>if Y.length<=100 then k (.ref H.length) (H++[.dict (Y.foldl (λd p=>iQ (.int p.1) p.2 d) [])])else .stuck
noncomputable def X7(v:V)(H:VH)(k:Kv):Res:=if qU v then tD .stuck v λl=>if l.length<=1000 then k (.int l.length) H else .stuck else if qF v then fD .stuck v λl=>if l.length<=1000 then k (.int l.length) H else .stuck else lR v H λz9 l=>if l.length<=1000 then k (.int l.length) H else .stuck
noncomputable def Jj(v w:V)(H:VH)(k:Kv):Res:=iD .stuck v λa=>iD .stuck w λb=>k (.int (if b<a then b else a)) H
noncomputable def UV(v:V)(H:VH)(k:Kv):Res:=nD .stuck v λn=>dD .stuck H[n]? λl=>oR (My (l.map (·.1))) λa=>if a.length<64 then k (.ref H.length) (H++[.list ((a.foldr Mw []).map .int)])else .stuck
noncomputable def FZ(s:String)(v:V):Bool:=by
 induction v using V.casesOn with
 |typ t=>exact t==s
 |_=>exact false
noncomputable def YA(v:V)(H:VH)(k:Kv):Res:=if qS v then k (.bool true) H else if qU v then k (.bool false) H else lR v H λz9 z9=>k (.bool false) H
noncomputable def XY(v:V)(H:VH)(k:Kv):Res:=if qI v then k (.bool true) H else if qS v||qU v then k (.bool false) H else .stuck
noncomputable def Y6(v w:V)(H:VH)(k:Kv):Res:=if FZ "str" w then YA v H k else if FZ "int" w then XY v H k else .stuck
noncomputable def TH(v:V)(H:VH)(k:Kv):Res:=oR (JN H v) λs=>k (.str s) H
noncomputable def Bv(s:String)(vs:List V)(H:VH)(k:Kv):Res:=if s="range"then L5 vs H k else if s="tuple"then Mv .stuck vs λv=>MT v H k else if s="list"then Mv .stuck vs λv=>TG v H k else if s="str"then Mv .stuck vs λv=>Hq v H k else if s="dict"then Mv .stuck vs λv=>Co v H k else .stuck
noncomputable def By(s:String)(vs:List V)(H:VH)(k:Kv):Res:=if s="len"then Mv .stuck vs λv=>X7 v H k else if s="min"then Nk .stuck vs λv w=>Jj v w H k else if s="sorted"then Mv .stuck vs λv=>UV v H k else if s="isinstance"then Nk .stuck vs λv w=>Y6 v w H k else if s="repr"then Mv .stuck vs λv=>TH v H k else .stuck
noncomputable def aT(f:V)(vs:List V)(H:VH)(k:Kv):Res:=by
 induction f using V.casesOn with
 |typ s=>exact Bv s vs H k
 |bi s=>exact By s vs H k
 |_=>exact .stuck
noncomputable abbrev TF(v:V)(x:Res):Res:=by
 induction v using V.casesOn with
 |none=>exact x
 |_=>exact .stuck
noncomputable abbrev Jq{S:Type}(f:V)(d:S)(a b:Str->S):S:=by
 induction f using V.casesOn with
 |fn s=>exact a s
 |cls s=>exact b s
 |_=>exact d
noncomputable def JR(cf:CF)(f:V)(vs:List V)(H:VH)(k:Kv):Res:=Jq f (aT f vs H k) (λs=>cf (.top s) vs H k) λc=>cf (.aL c "__init__") (.ref H.length::vs) (H++[.inst c []]) λv a=>TF v (k (.ref H.length) a)
inductive Kd where
 |list|dict
 |inst(c:Str)
 deriving DecidableEq,Inhabited
noncomputable def HO(n:Nat)(l vs:List V)(H:VH)(k:Kv):Res:=Mv .stuck vs λv=>if l.length<=1000 then k .none (H.set n (.list (l++[v])))else .stuck
noncomputable def IY(n:Nat)(l vs:List V)(H:VH)(k:Kv):Res:=Mv .stuck vs λv=>lR v H λr w=>if n≠r/\l.length<=1000/\w.length<=1000 then k .none (H.set n (.list (l++w)))else .stuck
noncomputable def Z9(n:Nat)(l vs:List V)(H:VH)(k:Kv):Res:=if vs.isEmpty then oR l.getLast? λv=>if l.length<=1000 then k v (H.set n (.list l.dropLast))else .stuck else .stuck
noncomputable def YZ(n:Nat)(l:List (V×V))(vs:List V)(H:VH)(k:Kv):Res:=if vs.length=1 then Mv .stuck vs λx=>if dR x l&&decide (l.length<=100)then oR (d8 x l) λv=>k v (H.set n (.dict (j5 x l)))else .stuck else Nk .stuck vs λx y=>if dR x l&&decide (l.length<=100)then(match d8 x l with
 |some v=>k v (H.set n (.dict (j5 x l)))
 |none=>k y H)else .stuck
noncomputable def aJ(cf:CF)(a:Kd)(o:V)(m:Str)(vs:List V)(H:VH)(k:Kv):Res:=match a with
 |.inst c=>cf (.aL c m) (o::vs) H k
 |.list=>lR o H λn l=>if m="append"then HO n l vs H k else if m="extend"then IY n l vs H k else if m="pop"then Z9 n l vs H k else .stuck
 |.dict=>nD .stuck o λn=>dD .stuck H[n]? λl=>if m="pop"then YZ n l vs H k else .stuck
noncomputable def tH:List (Str×String):=[("range","range"),("tuple","tuple"),("list","list"),("str","str"),("dict","dict"),("int","int")]
noncomputable def vV:List (Str×String):=[("len","len"),("min","min"),("sorted","sorted"),("isinstance","isinstance"),("repr","repr")]
noncomputable def Me:List (Str×V):=[("UNINIT",.tup [.str "uninit"]),("OWNER",.int 0),("MOST_DEEP_layout",.int 40),("COMPARISONS",.tup [.str "==",.str "!=",.str "<",.str "<=",.str ">",.str ">="]),("_law_BYTE",.tup [.str "int",.str "i8"]),("_law_BIT",.tup [.str "bool"]),("BITS",.bits)]
noncomputable def DP(x:Str):Option V:=match Me.lookup x with
 |some v=>some v
 |none=>if p_ x then some (.fn x)else if oU x then some (.cls x)else match tH.lookup x with
  |some t=>some (.typ t)
  |none=>match vV.lookup x with
   |some t=>some (.bi t)
   |none=>none
structure Def where
 params:List Str
 qZ:List V
 sc:Sc
 body:List Stmt
section
variable{S:Type}
noncomputable abbrev LD(e:Expr)(d:S)(f:Const->S):S:=by
 induction e using Expr.casesOn with
 |Constant c _ _=>exact f c
 |_=>exact d
noncomputable abbrev rJ(e:Expr)(d:S)(f:Str->S):S:=by
 induction e using Expr.casesOn with
 |Name x _=>exact f x
 |_=>exact d
noncomputable abbrev D1(e:Expr)(d:S)(f:Expr->Str->Pos->S):S:=by
 induction e using Expr.casesOn with
 |Attribute o a p=>exact f o a p
 |_=>exact d
noncomputable abbrev FE(e:Expr)(d:S)(f:List Expr->S):S:=by
 induction e using Expr.casesOn with
 |Tuple es _ _=>exact f es
 |_=>exact d
noncomputable abbrev J3(e:Expr)(d:S)(f:Expr->List Expr->List Keyword->S):S:=by
 induction e using Expr.casesOn with
 |Call g as ks _=>exact f g as ks
 |_=>exact d
noncomputable abbrev Ey(e:Expr)(d:S)(f:Option Expr->Option Expr->S):S:=by
 induction e using Expr.casesOn with
 |Slice a b s _=>exact Option.casesOn (motive:=λz9=>S) s (f a b) λz9=>d
 |_=>exact d
noncomputable abbrev Lh(e:Expr)(d x:S):S:=by
 induction e using Expr.casesOn with
 |ListComp _ _ _ _=>exact x
 |_=>exact d
noncomputable abbrev uY{X:Type}(l:List X)(d x:S):S:=List.casesOn (motive:=λz9=>S) l x λz9 z9=>d
noncomputable abbrev EP{X:Type}(l:List X)(d:S)(f:X->S):S:=List.casesOn (motive:=λz9=>S) l d λa r=>uY r d (f a)
noncomputable abbrev QO{X:Type}(l:List X)(d:S)(f:X->X->S):S:=List.casesOn (motive:=λz9=>S) l d λa r=>EP r d (f a)
noncomputable def Ab(s:Stmt)(d:S)(f:Str->Arguments->List Stmt->Scope->S):S:=by
 induction s using Stmt.casesOn with
 |FunctionDef n a b _ _ _ sc _ _ _=>exact f n a b sc
 |_=>exact d
noncomputable def Jz(s:Stmt)(d:S)(f:Str->List Stmt->S):S:=by
 induction s using Stmt.casesOn with
 |ClassDef n _ _ b=>exact f n b
 |_=>exact d
noncomputable abbrev JO(s:Stmt)(d:S)(f:Expr->S):S:=by
 induction s using Stmt.casesOn with
 |Return e _=>exact Option.casesOn (motive:=λz9=>S) e d f
 |_=>exact d
end
noncomputable def YS(e:Expr):Option V:=LD e none λc=>by
 induction c using Const.casesOn with
 |none=>exact some .none
 |int i=>exact some (.int i)
 |bool b=>exact some (.bool b)
 |_=>exact none
noncomputable def Np(s:Stmt):Option Def:=Ab s none λz9 a b sc=>(a.defaults.mapM YS).map λds=>⟨a.args.map (·.arg),ds,sc.names,b⟩
noncomputable def lB(x:Str):List Stmt->Option Stmt
 |[]=>none
 |st::r=>Ab st (lB x r) λn z9 z9 z9=>if n=x then some st else lB x r
noncomputable def Na(x:Str):List Stmt->Option (List Stmt)
 |[]=>none
 |st::r=>Jz st (Na x r) λn b=>if n=x then some b else Na x r
noncomputable def Lx:Fk->Option Def
 |.top f=>(lB f PySem.Challenge.pw_ot0054_01.main.body).bind Np
 |.aL c m=>((Na c PySem.Challenge.pw_ot0054_01.main.body).bind (lB m)).bind Np
noncomputable def gO{X:Type}:Option X->Bool
 |none=>true
 |some _=>false
noncomputable def vI(o:V)(m:Str)(H:VH):Option Kd:=nD none o λn=>if qL H[n]? then(if m="append"\/m="extend"\/m="pop"then some .list else none)else if qD H[n]? then(if m="pop"then some .dict else none)else aD none H[n]? λc as=>if gO (aU m as)&&!gO (Lx (.aL c m))then some (.inst c)else none
noncomputable def nU(f:Expr->VH->Kv->Res):List Expr->VH->(List V->VH->Res)->Res
 |[],H,k=>k [] H
 |e::r,H,k=>f e H λv H=>nU f r H λvs H=>k (v::vs) H
noncomputable def Mj(f:Expr->V->Loc->VH->(Loc->VH->Res)->Res):List Expr->List V->Loc->VH->(Loc->VH->Res)->Res
 |[],[],loc,H,k=>k loc H
 |t::ts,v::vs,loc,H,k=>f t v loc H λloc H=>Mj f ts vs loc H k
 |_,_,_,_,_=>.stuck
noncomputable def nY(f:Expr->V->Loc->VH->(Loc->VH->Res)->Res):List Expr->Nat->List V->Loc->VH->(Loc->VH->Res)->Res
 |[],_,_,loc,H,k=>k loc H
 |t::ts,i,l,loc,H,k=>match l[i]? with
  |some v=>f t v loc H λloc H=>nY f ts (i+1) l loc H k
  |none=>.stuck
theorem jN{x y:Str}{v:V}{r:List (Str×V)}:aU x ((y,v)::r)=if y=x then some v else aU x r:=rfl
theorem A1{x y:Str}{v w:V}{r:List (Str×V)}:aB x v ((y,w)::r)=if y=x then(y,v)::r else(y,w)::aB x v r:=rfl
theorem vH{x y:Int}{r:List Int}:Mw x (y::r)=if x<=y then x::y::r else y::Mw x r:=rfl
theorem FV{f:Expr->V->Loc->VH->(Loc->VH->Res)->Res}{l:List V}{k:Loc->VH->Res}:∀{ts:List Expr}{i:Nat}{loc:Loc}{H:VH},l.length=i+ts.length->nY f ts i l loc H k=Mj f ts (l.drop i) loc H k:=by
 intro ts
 induction ts with
 |nil=>intro i loc H h;rw[show l.drop i=[]from List.drop_eq_nil_of_le (Nat.le_of_eq h)];rfl
 |cons t ts a=>
  intro i loc H h;have hi:i<l.length:=by rw[h,List.length_cons];lia
  rw[List.drop_eq_getElem_cons hi];show(match l[i]? with|some v=>f t v loc H λloc H=>nY f ts (i+1) l loc H k|none=>.stuck)=f t l[i] loc H λloc H=>Mj f ts (l.drop (i+1)) loc H k;rw[List.getElem?_eq_getElem hi];exact congrArg (f t l[i] loc H) (funext λloc=>funext λH=>a (by rw[h,List.length_cons];lia))
theorem assignIdx_eq{f:Expr->V->Loc->VH->(Loc->VH->Res)->Res}{ts:List Expr}{l:List V}{loc:Loc}{H:VH}{k:Loc->VH->Res}(h:l.length=ts.length):nY f ts 0 l loc H k=Mj f ts l loc H k:=by rw[FV (by lia),List.drop_zero]
noncomputable def kP(e:Expr):Bool:=J3 e false λf as ks=>as.isEmpty&&ks.isEmpty&&rJ f false λid=>id==("super":Str)
noncomputable def c9(src:VH->Bool)(turn:V->Loc->VH->Kf->Res):List V->Loc->VH->Kf->Res
 |[],loc,H,k=>if src H then k .next loc H else .stuck
 |v::r,loc,H,k=>if src H then turn v loc H λa loc H=>match a with
  |.next=>c9 src turn r loc H k
  |.cont=>c9 src turn r loc H k
  |.brk=>k .next loc H
  |.ret v=>k (.ret v) loc H else .stuck
noncomputable def fP(src:VH->Bool)(turn:V->VH->List V->(VH->List V->Res)->Res):List V->VH->List V->(VH->List V->Res)->Res
 |[],H,acc,k=>if src H then k H acc else .stuck
 |v::r,H,acc,k=>if src H then turn v H acc λH acc=>fP src turn r H acc k else .stuck
noncomputable def kG(test:Loc->VH->(Bool->VH->Res)->Res)(body:Loc->VH->Kf->Res):Nat->Loc->VH->Kf->Res
 |0,_,_,_=>.stuck
 |n+1,loc,H,k=>test loc H λb H=>match b with
  |true=>body loc H λa loc H=>match a with
   |.next=>kG test body n loc H k
   |.cont=>kG test body n loc H k
   |.brk=>k .next loc H
   |.ret v=>k (.ret v) loc H
  |false=>k .next loc H
noncomputable def JA(f:Expr->VH->(Bool->VH->Res)->Res):List Expr->VH->(Bool->VH->Res)->Res
 |[],H,k=>k false H
 |[e],H,k=>f e H k
 |e::a::r,H,k=>f e H λb H=>match b with
  |true=>k true H
  |false=>JA f (a::r) H k
noncomputable def tG(f:Expr->VH->(Bool->VH->Res)->Res):List Expr->VH->(Bool->VH->Res)->Res
 |[],H,k=>k true H
 |e::r,H,k=>f e H λb H=>match b with
  |true=>tG f r H k
  |false=>k false H
noncomputable def Mg(e:Expr):Bool:=by
 induction e using Expr.casesOn with
 |Starred _ _=>exact true
 |_=>exact false
noncomputable def gV(names:Sc):Sc:=names.map λp=>if p.2==.free then(p.1,.cell)else p
noncomputable def pY(sc:Sc)(O:Scope)(gs:List Comprehension):Bool:=O.kind==.function&&gs.all (λg=>g.is_async==0)&&O.names.all λp=>match p.2 with
 |.free=>sc.lookup p.1==some .cell
 |.cell=>false
 |.local=>O.names.lookup p.1==some .local
 |_=>true
noncomputable def oQ(sc:Sc)(e:Expr)(v:V)(loc:Loc)(H:VH)(k:Loc->VH->Res):Res:=rJ e .stuck λx=>if x="__debug__"\/x="__classdict__"then .stuck else match sc.lookup x,aU x loc with
 |some .local,none=>k (aB x v loc) H
 |_,_=>.stuck
noncomputable abbrev S3(v:V)(x:Res):Res:=by
 induction v using V.casesOn with
 |eF _ _ _=>exact .stuck
 |_=>exact x
noncomputable abbrev OS(f:Expr->V->Loc->VH->(Loc->VH->Res)->Res)(ts:List Expr)(v:V)(loc:Loc)(H:VH)(k:Loc->VH->Res):Res:=oR (Ly v H) λq=>S3 v (if q.1.length=ts.length/\ts.any Mg=false then nY f ts 0 q.1 loc H k else .stuck)
noncomputable def nP(sc:Sc)(t:Expr)(v:V)(loc:Loc)(H:VH)(k:Loc->VH->Res):Res:=rJ t (FE t .stuck λts=>OS (oQ sc) ts v loc H k) λz9=>oQ sc t v loc H k
noncomputable def sP(a:Expr->Loc->VH->Kv->Res)(n6:Expr->Loc->VH->(Bool->VH->Res)->Res)(asg:Expr->V->Loc->VH->(Loc->VH->Res)->Res)(elt:Expr):List Comprehension->V->Loc->VH->List V->(VH->List V->Res)->Res
 |[],_,loc,H,acc,k=>a elt loc H λv H=>if acc.length<=1000 then k H (acc++[v])else .stuck
 |[⟨t,_,ifs,_⟩],x,loc,H,acc,k=>match Ly x H with
  |some (l,src)=>fP src (λv H acc k=>asg t v loc H λloc H=>tG (λe H k=>n6 e loc H k) ifs H λb H=>match b with
   |true=>a elt loc H λv H=>if acc.length<=1000 then k H (acc++[v])else .stuck
   |false=>k H acc) l H acc k
  |none=>.stuck
 |⟨t,_,ifs,_⟩::⟨t',d,c,f⟩::gs,x,loc,H,acc,k=>match Ly x H with
  |some (l,src)=>fP src (λv H acc k=>asg t v loc H λloc H=>tG (λe H k=>n6 e loc H k) ifs H λb H=>match b with
   |true=>a d loc H λg H=>sP a n6 asg elt (⟨t',d,c,f⟩::gs) g loc H acc k
   |false=>k H acc) l H acc k
  |none=>.stuck
noncomputable def xJ(v:V):Bool:=by
 induction v using V.casesOn with
 |fn _=>exact true
 |cls c=>exact !gO (Lx (.aL c "__init__"))
 |typ _=>exact true
 |bi _=>exact true
 |_=>exact false
noncomputable def Mr(e:Expr):Option Str:=LD e none λc=>by
 induction c using Const.casesOn with
 |str s=>exact some s
 |_=>exact none
noncomputable abbrev BC:=Sc->Expr->Loc->VH->Kv->Res
noncomputable abbrev Ah:=Sc->Option Expr->Loc->VH->Kv->Res
noncomputable abbrev SI:=Sc->Expr->Loc->VH->(Bool->VH->Res)->Res
noncomputable abbrev ZV:=Sc->Expr->V->Loc->VH->(Loc->VH->Res)->Res
noncomputable abbrev Kb(c:Const)(H:VH)(k:Kv):Res:=by
 induction c using Const.casesOn with
 |none=>exact k .none H
 |bool b=>exact k (.bool b) H
 |int i=>exact k (.int i) H
 |str s=>exact k (.str s) H
 |_=>exact .stuck
noncomputable abbrev Fq(x:Str)(loc:Loc)(H:VH)(k:Kv)(a:NameKind):Res:=by
 induction a using NameKind.casesOn with
 |globalImplicit=>exact oR (DP x) λv=>k v H
 |globalExplicit=>exact .stuck
 |_=>exact oR (aU x loc) λv=>k v H
noncomputable abbrev Lk(sc:Sc)(x:Str)(loc:Loc)(H:VH)(k:Kv):Res:=oR (sc.lookup x) (Fq x loc H k)
noncomputable abbrev Jk{S:Type}(d:S)(ops:List CmpOp)(rs:List Expr)(f:CmpOp->Expr->S)(g:CmpOp->CmpOp->Expr->Expr->S):S:=match ops,rs with
 |[op],[r]=>f op r
 |[op,a],[r,b]=>g op a r b
 |_,_=>d
noncomputable abbrev bR(b:Bool)(x y:Res):Res:=Bool.casesOn (motive:=λz9=>Res) b y x
noncomputable abbrev YY(EV:BC)(sc:Sc)(l:Expr)(ops:List CmpOp)(rs:List Expr)(loc:Loc)(H:VH)(k:Bool->VH->Res):Res:=Jk .stuck ops rs (λop r=>EV sc l loc H λa H=>EV sc r loc H λb H=>oR (i5 op a b H) λt=>k t H) λop d r e=>EV sc l loc H λa H=>EV sc r loc H λb H=>oR (i5 op a b H) λt=>bR t (EV sc e loc H λc H=>oR (i5 d b c H) λt=>k t H) (k false H)
noncomputable abbrev Ic(f:Expr->VH->Kv->Res)(ks:List (Option Expr))(es:List Expr)(H:VH)(k:Kv):Res:=match ks,es with
 |[some a,some b,some c],[e1,d,g]=>oR (Mr a) λx=>oR (Mr b) λy=>oR (Mr c) λz=>if x≠y/\y≠z/\x≠z then nU f [e1,d,g] H λvs H=>Nf .stuck vs λu v w=>k (.ref H.length) (H++[.dict [(.str x,u),(.str y,v),(.str z,w)]])else .stuck
 |[],[]=>k (.ref H.length) (H++[.dict []])
 |[some a],[e]=>oR (Mr a) λx=>f e H λv H=>k (.ref H.length) (H++[.dict [(.str x,v)]])
 |_,_=>.stuck
noncomputable abbrev Fh(op:BoolOp)(t:Bool)(x y:Res):Res:=BoolOp.casesOn (motive:=λz9=>Res) op (bR t y x) (bR t x y)
noncomputable abbrev Ld(cf:CF)(EV:BC)(d:Ah)(h:SI)(sc:Sc)(e:Expr)(loc:Loc)(H:VH)(k:Kv):Res:=by
 induction e using Expr.casesOn with
 |Constant c _ _=>exact Kb c H k
 |Name x _=>exact Lk sc x loc H k
 |Attribute o a _=>exact if kP o then .stuck else EV sc o loc H λo H=>oR (Ml o a H) λv=>k v H
 |Subscript o i _=>exact Ey i (EV sc o loc H λo H=>EV sc i loc H λi H=>oR (Mz o i H) λv=>k v H) λa b=>EV sc o loc H λo H=>d sc a loc H λa H=>d sc b loc H λb H=>dU o a b H k
 |BinOp l op r _=>exact EV sc l loc H λa H=>EV sc r loc H λb H=>Lv op a b H k
 |UnaryOp op x _=>
  induction op using UnaryOp.casesOn with
  |USub=>exact EV sc x loc H λv H=>iD .stuck v λi=>k (.int (-i)) H
  |Not=>exact EV sc x loc H λv H=>oR (Mq v) λb=>k (.bool (!b)) H
  |_=>exact .stuck
 |BoolOp op vs _=>exact QO vs .stuck λx y=>EV sc x loc H λv H=>oR (Mq v) λt=>Fh op t (k v H) (EV sc y loc H k)
 |Compare l ops rs _=>exact YY EV sc l ops rs loc H λt H=>k (.bool t) H
 |IfExp t b o _=>exact h sc t loc H λc H=>bR c (EV sc b loc H k) (EV sc o loc H k)
 |Tuple es _ _=>exact if 100<es.length then .stuck else nU (λe H k=>EV sc e loc H k) es H λvs H=>k (.tup vs) H
 |List es _=>exact if 100<es.length then .stuck else nU (λe H k=>EV sc e loc H k) es H λvs H=>k (.ref H.length) (H++[.list vs])
 |Dict ks es _=>exact Ic (λe H k=>EV sc e loc H k) ks es H k
 |Call f as ks pos=>exact uY ks .stuck (D1 f (rJ f .stuck λz9=>if decide (20<as.length)||as.any Mg then .stuck else EV sc f loc H λf H=>if xJ f then nU (λe H k=>EV sc e loc H k) as H λvs H=>JR cf f vs H k else .stuck) λo m j=>if kP o||!(j.endLine==pos.line)||decide (20<as.length)||as.any Mg then .stuck else EV sc o loc H λo H=>oR (vI o m H) λn=>nU (λe H k=>EV sc e loc H k) as H λvs H=>aJ cf n o m vs H k)
 |ListComp elt gs O _=>exact List.casesOn (motive:=λz9=>Res) gs .stuck λg gs=>if pY sc O (g::gs)then EV sc g.iter loc H λx H=>sP (EV (gV O.names)) (h (gV O.names)) (nP (gV O.names)) elt (g::gs) x (loc.filter λp=>O.names.lookup p.1==some .free) H [] λH acc=>k (.ref H.length) (H++[.list acc])else .stuck
 |_=>exact .stuck
noncomputable abbrev Jd(EV:BC)(a:SI)(sc:Sc)(e:Expr)(loc:Loc)(H:VH)(k:Bool->VH->Res)(d:Res):Res:=by
 induction e using Expr.casesOn with
 |UnaryOp op x _=>
  induction op using UnaryOp.casesOn with
  |Not=>exact a sc x loc H λb H=>k (!b) H
  |_=>exact d
 |BoolOp op vs _=>exact BoolOp.casesOn (motive:=λz9=>Res) op (tG (λe H k=>a sc e loc H k) vs H k) (JA (λe H k=>a sc e loc H k) vs H k)
 |IfExp _ _ _ _=>exact .stuck
 |Compare l ops rs _=>exact YY EV sc l ops rs loc H k
 |_=>exact d
noncomputable abbrev Jm(a:NameKind)(d x:Res):Res:=by
 induction a using NameKind.casesOn with
 |«local»=>exact x
 |cell=>exact x
 |_=>exact d
noncomputable abbrev Ho(EV:BC)(c:Ah)(d:ZV)(sc:Sc)(t:Expr)(v:V)(loc:Loc)(H:VH)(k:Loc->VH->Res):Res:=by
 induction t using Expr.casesOn with
 |Name x _=>exact if x="__debug__"\/x="__classdict__"then .stuck else oR (sc.lookup x) λe=>Jm e .stuck (k (aB x v loc) H)
 |Attribute o a _=>exact if kP o then .stuck else EV sc o loc H λo H=>Ls o a v H λH=>k loc H
 |Subscript o i _=>exact Ey i (EV sc o loc H λo H=>EV sc i loc H λi H=>Mc o i v H λH=>k loc H) λa b=>EV sc o loc H λo H=>c sc a loc H λa H=>c sc b loc H λb H=>gF o a b v H λH=>k loc H
 |Tuple ts _ _=>exact OS (d sc) ts v loc H k
 |_=>exact .stuck
mutual
noncomputable def ev(cf:CF):Nat->BC
 |0,_,_,_,_,_=>.stuck
 |n+1,sc,e,loc,H,k=>Ld cf (ev cf n) (yZ cf n) (mE cf n) sc e loc H k
noncomputable def yZ(cf:CF):Nat->Ah
 |0,_,_,_,_,_=>.stuck
 |n+1,sc,e,loc,H,k=>Option.casesOn (motive:=λz9=>Res) e (k .none H) λe=>ev cf n sc e loc H k
noncomputable def mE(cf:CF):Nat->SI
 |0,_,_,_,_,_=>.stuck
 |n+1,sc,e,loc,H,k=>Jd (ev cf n) (mE cf n) sc e loc H k (ev cf n sc e loc H λv H=>oR (Mq v) λb=>k b H)
noncomputable def asg(cf:CF):Nat->ZV
 |0,_,_,_,_,_,_=>.stuck
 |n+1,sc,t,v,loc,H,k=>Ho (ev cf n) (yZ cf n) (asg cf n) sc t v loc H k
end
noncomputable def wA(t e:Expr):Bool:=by
 induction t using Expr.casesOn with
 |Tuple _ _ _=>exact FE e true λvs=>vs.all (foldedForSure 8)||!vs.all (constantsAlone 8)
 |List _ _=>exact false
 |Starred _ _=>exact false
 |_=>exact true
noncomputable def Bb(op:Operator)(i j:Int)(kk:V->Res):Res:=by
 induction op using Operator.casesOn with
 |Add=>exact kk (.int (i+j))
 |Sub=>exact kk (.int (i-j))
 |_=>exact .stuck
noncomputable def iZ(op:Operator)(a b:V)(kk:V->Res):Res:=iD .stuck a λi=>iD .stuck b λj=>Bb op i j kk
noncomputable def Z8(c:Str)(m a:Expr):Option (Str×Str×Expr):=(Mr a).bind λs=>if c="MachineFault"then some (c,s,m)else none
noncomputable def Z4(c:Str):List Expr->Option (Str×Str×Expr)
 |[m]=>if c="FuelFault"then some (c,"",m)else none
 |[a,m]=>Z8 c m a
 |_=>none
noncomputable def uC(e:Expr):Option (Str×Str×Expr):=J3 e none λf as ks=>uY ks none (rJ f none λc=>Z4 c as)
noncomputable def Ij{S:Type}(h:ExceptHandler)(f:Option Expr->Option Str->List Stmt->S):S:=by
 induction h using ExceptHandler.casesOn with
 |ExceptHandler t x b _=>exact f t x b
noncomputable def Mm(sc:Sc)(c:Str):List ExceptHandler->Option (Option Str×List Stmt)
 |[]=>none
 |h::r=>Ij h λt x b=>t.bind λt=>rJ t none λt=>if sc.lookup t=some .globalImplicit/\(t="MachineFault"\/t="FuelFault")then(if t=c then some (x,b)else Mm sc c r)else none
noncomputable def Nq(e:Expr):Option (Expr×Expr):=FE e none λes=>QO es none λa b=>some (a,b)
noncomputable def Ci(s:Stmt):Option (Expr×Expr):=JO s none Nq
noncomputable def S0(b:List Stmt):Option (Expr×Expr):=EP b none Ci
noncomputable def SW(e:Expr):Option Str:=rJ e none some
noncomputable def P5(e:Expr):Option (Str×Str):=D1 e none λo b z9=>(SW o).map λz=>(z,b)
noncomputable def handled(sc:Sc)(k:Kf)(loc:Loc)(c s:Str)(H:VH)(q:Option Str×List Stmt):Res:=oR (S0 q.2) λab=>oR (P5 ab.2) λa=>match q.1 with
 |none=>oR (Mr ab.1) λw=>if c="FuelFault"/\sc.lookup a.1=some .local then oR (aU a.1 loc) λo=>oR (Ml o a.2 H) λv=>k (.ret (.tup [.str w,v])) loc H else .stuck
 |some x=>oR (P5 ab.1) λb=>if x="fault"/\x=b.1/\gO (aU x loc)=true/\b.2="kind"/\c="MachineFault"/\x≠a.1/\sc.lookup x=some .local/\sc.lookup a.1=some .local then oR (aU a.1 loc) λo=>oR (Ml o a.2 H) λv=>k (.ret (.tup [.str s,v])) loc H else .stuck
noncomputable def gJ(f:Stmt->Loc->VH->Kf->Res):List Stmt->Loc->VH->Kf->Res
 |[],loc,H,k=>k .next loc H
 |s::r,loc,H,k=>f s loc H λa loc H=>match a with
  |.next=>gJ f r loc H k
  |a=>k a loc H
noncomputable abbrev Fy:=Sc->Stmt->Loc->VH->Kf->Res
noncomputable abbrev Ib(EV:BC)(sc:Sc)(e:Expr)(loc:Loc)(H:VH):Res:=oR (uC e) λq=>if sc.lookup q.1=some .globalImplicit then EV sc q.2.2 loc H λv H=>sD .stuck v λx=>if q.2.1.length+x.length<=900 then .exc q.1 q.2.1 H else .stuck else .stuck
noncomputable abbrev Jy(EV:BC)(sc:Sc)(e:Expr)(hs:List ExceptHandler)(loc:Loc)(H:VH)(k:Kf):Res:=match EV sc e loc H λv H=>.done (.ret v) loc H with
 |.done a loc H=>k a loc H
 |.exc c s H=>oR (Mm sc c hs) (handled sc k loc c s H)
 |.stuck=>.stuck
noncomputable abbrev Kn(EV:BC)(h:SI)(g:ZV)(d:Fy)(sc:Sc)(st:Stmt)(loc:Loc)(H:VH)(k:Kf):Res:=by
 induction st using Stmt.casesOn with
 |Expr e _=>exact Lh e (EV sc e loc H λz9 H=>k .next loc H) .stuck
 |Pass _=>exact k .next loc H
 |Break _=>exact k .brk loc H
 |Return e _=>exact Option.casesOn (motive:=λz9=>Res) e (k (.ret .none) loc H) λe=>EV sc e loc H λv H=>k (.ret v) loc H
 |Assign ts e _=>exact EP ts .stuck λt=>if wA t e then EV sc e loc H λv H=>g sc t v loc H λloc H=>k .next loc H else .stuck
 |AugAssign t op e _=>exact D1 t (rJ t .stuck λx=>if sc.lookup x=some .local then oR (aU x loc) λa=>EV sc e loc H λb H=>iZ op a b λv=>g sc t v loc H λloc H=>k .next loc H else .stuck) λo a z9=>EV sc o loc H λo H=>oR (Ml o a H) λold=>EV sc e loc H λb H=>iZ op old b λv=>Ls o a v H λH=>k .next loc H
 |If t b o _=>exact h sc t loc H λc H=>bR c (gJ (d sc) b loc H k) (gJ (d sc) o loc H k)
 |While t b o _=>exact uY o .stuck (kG (h sc t) (gJ (d sc) b) 100 loc H k)
 |For t i b o _=>exact uY o .stuck (EV sc i loc H λx H=>oR (Ly x H) λq=>c9 q.2 (λv loc H k=>g sc t v loc H λloc H=>gJ (d sc) b loc H k) q.1 loc H k)
 |Raise e c _=>exact Option.casesOn (motive:=λz9=>Res) e .stuck λe=>Option.casesOn (motive:=λz9=>Res) c (Ib EV sc e loc H) λz9=>.stuck
 |Try b hs e f _=>exact EP b .stuck λs=>JO s .stuck λx=>List.casesOn (motive:=λz9=>Res) hs .stuck λh0 hs=>uY e .stuck (uY f .stuck (Jy EV sc x (h0::hs) loc H k))
 |_=>exact .stuck
noncomputable def ex(cf:CF):Nat->Fy
 |0,_,_,_,_,_=>.stuck
 |n+1,sc,st,loc,H,k=>Kn (ev cf n) (mE cf n) (asg cf n) (ex cf n) sc st loc H k
noncomputable def lQ:List Str->List V->List V->Option Loc
 |[],_,[]=>some []
 |[],_,_::_=>none
 |p::Y,ds,v::vs=>(lQ Y ds vs).map ((p,v)::·)
 |p::Y,ds,[]=>match ds.drop (ds.length-(p::Y).length)with
  |d::_=>if(p::Y).length<=ds.length then(lQ Y ds []).map ((p,d)::·)else none
  |[]=>none
noncomputable def Z1(k:Kv):Kf:=λa z9 H=>match a with
 |.ret v=>k v H
 |.next=>k .none H
 |_=>.stuck
noncomputable abbrev S7(cf:CF)(vs:List V)(H:VH)(k:Kv)(D:Def):Res:=oR (lQ D.params D.qZ vs) λloc=>gJ (ex cf 30 D.sc) D.body loc H (Z1 k)
noncomputable def aA:Nat->CF
 |0,_,_,_,_=>.stuck
 |d+1,f,vs,H,k=>oR (Lx f) (S7 (aA d) vs H k)
noncomputable def vD(ns:List Int):Res:=aA 30 (.top "law") [.qG (ns.map .int)] [] λv H=>.done (.ret v) [] H
theorem oE{X:Sort u}{A:X->Prop}{G:Prop}(h:∃x,A x)(k:∀x,A x->G):G:=h.elim λx h=>k x h
theorem wU{X:Sort u}{S:Sort v}{A:X->S->Prop}{G:Prop}(h:∃x y,A x y)(k:∀x y,A x y->G):G:=h.elim λx h=>h.elim λy h=>k x y h
theorem i7{X:Sort u}{S:Sort v}{a:Sort w}{A:X->S->a->Prop}{G:Prop}(h:∃x y z,A x y z)(k:∀x y z,A x y z->G):G:=h.elim λx h=>h.elim λy h=>h.elim λz h=>k x y z h
theorem oA{A B G:Prop}(h:A/\B)(k:A->B->G):G:=k h.1 h.2
theorem gB{A B C G:Prop}(h:A/\B/\C)(k:A->B->C->G):G:=k h.1 h.2.1 h.2.2
theorem RG{A B C D G:Prop}(h:A/\B/\C/\D)(k:A->B->C->D->G):G:=k h.1 h.2.1 h.2.2.1 h.2.2.2
theorem Dc{A B C D I G:Prop}(h:A/\B/\C/\D/\I)(k:A->B->C->D->I->G):G:=k h.1 h.2.1 h.2.2.1 h.2.2.2.1 h.2.2.2.2
theorem aW{X:Sort u}{A B:X->Prop}{G:Prop}(h:∃x,A x/\B x)(k:∀x,A x->B x->G):G:=h.elim λx h=>k x h.1 h.2
theorem cY{X:Sort u}{A B C:X->Prop}{G:Prop}(h:∃x,A x/\B x/\C x)(k:∀x,A x->B x->C x->G):G:=h.elim λx h=>k x h.1 h.2.1 h.2.2
theorem fN{X:Sort u}{A B C D:X->Prop}{G:Prop}(h:∃x,A x/\B x/\C x/\D x)(k:∀x,A x->B x->C x->D x->G):G:=h.elim λx h=>k x h.1 h.2.1 h.2.2.1 h.2.2.2
theorem rZ{X:Sort u}{A B C D I:X->Prop}{G:Prop}(h:∃x,A x/\B x/\C x/\D x/\I x)(k:∀x,A x->B x->C x->D x->I x->G):G:=h.elim λx h=>k x h.1 h.2.1 h.2.2.1 h.2.2.2.1 h.2.2.2.2
theorem sY{X:Sort u}{S:Sort v}{A B:X->S->Prop}{G:Prop}(h:∃x y,A x y/\B x y)(k:∀x y,A x y->B x y->G):G:=h.elim λx h=>h.elim λy h=>k x y h.1 h.2
theorem b_{X:Sort u}{S:Sort v}{A B C:X->S->Prop}{G:Prop}(h:∃x y,A x y/\B x y/\C x y)(k:∀x y,A x y->B x y->C x y->G):G:=h.elim λx h=>h.elim λy h=>k x y h.1 h.2.1 h.2.2
theorem gX{X:Sort u}{S:Sort v}{A B C D:X->S->Prop}{G:Prop}(h:∃x y,A x y/\B x y/\C x y/\D x y)(k:∀x y,A x y->B x y->C x y->D x y->G):G:=h.elim λx h=>h.elim λy h=>k x y h.1 h.2.1 h.2.2.1 h.2.2.2
theorem m7{X:Sort u}{S:Sort v}{a:Sort w}{A B:X->S->a->Prop}{G:Prop}(h:∃x y z,A x y z/\B x y z)(k:∀x y z,A x y z->B x y z->G):G:=h.elim λx h=>h.elim λy h=>h.elim λz h=>k x y z h.1 h.2
theorem eS{X:Sort u}{S:Sort v}{a:Sort w}{A B C:X->S->a->Prop}{G:Prop}(h:∃x y z,A x y z/\B x y z/\C x y z)(k:∀x y z,A x y z->B x y z->C x y z->G):G:=h.elim λx h=>h.elim λy h=>h.elim λz h=>k x y z h.1 h.2.1 h.2.2
theorem lE{X:Sort u}{S:Sort v}{a:Sort w}{A B C D:X->S->a->Prop}{G:Prop}(h:∃x y z,A x y z/\B x y z/\C x y z/\D x y z)(k:∀x y z,A x y z->B x y z->C x y z->D x y z->G):G:=h.elim λx h=>h.elim λy h=>h.elim λz h=>k x y z h.1 h.2.1 h.2.2.1 h.2.2.2
theorem jQ{X:Sort u}{S:Sort v}{a:Sort w}{A B C D I:X->S->a->Prop}{G:Prop}(h:∃x y z,A x y z/\B x y z/\C x y z/\D x y z/\I x y z)(k:∀x y z,A x y z->B x y z->C x y z->D x y z->I x y z->G):G:=h.elim λx h=>h.elim λy h=>h.elim λz h=>k x y z h.1 h.2.1 h.2.2.1 h.2.2.2.1 h.2.2.2.2
theorem EL{X:Sort u}{S:Sort v}{A B C D I J:X->S->Prop}{G:Prop}(h:∃x y,A x y/\B x y/\C x y/\D x y/\I x y/\J x y)(k:∀x y,A x y->B x y->C x y->D x y->I x y->J x y->G):G:=h.elim λx h=>h.elim λy h=>k x y h.1 h.2.1 h.2.2.1 h.2.2.2.1 h.2.2.2.2.1 h.2.2.2.2.2
noncomputable abbrev Po:=Value->Shared->Prop
abbrev cS(P:Res->Prop):Prop:=P .stuck->False
theorem aQ{X:Type u}{l:List X}:l<+:l:=List.prefix_refl l
theorem aC{X:Type u}{a b:X}{l:List X}(h:a∈l):a∈b::l:=List.Mem.tail _ h
theorem aE{X:Type u}{a:X}{l:List X}:a∈a::l:=List.Mem.head _
theorem aI:type_of%@if_pos:=@if_pos
theorem aH:type_of%@if_neg:=@if_neg
theorem aF:type_of%@wpAny_bind:=@wpAny_bind
theorem a_:type_of%@wpAny_pure:=@wpAny_pure
theorem cH:type_of%@wpAny_holding:=@wpAny_holding
theorem dX:type_of%@wpAny_standAt:=@wpAny_standAt
theorem bY:type_of%@List.mem_append_left:=@List.mem_append_left
theorem cG:type_of%@List.mem_append_right:=@List.mem_append_right
theorem dN:type_of%@List.getElem?_eq_some_iff:=@List.getElem?_eq_some_iff
theorem bV:type_of%@List.mem_cons:=@List.mem_cons
theorem bO:type_of%@List.length_map:=@List.length_map
theorem bX:type_of%@List.map_cons:=@List.map_cons
theorem dJ:type_of%@Heap.get?_push_of_some:=@Heap.get?_push_of_some
theorem kA:type_of%@Heap.get?_push_size:=@Heap.get?_push_size
theorem cC:type_of%@decide_eq_true:=@decide_eq_true
theorem cU:type_of%@decide_eq_false:=@decide_eq_false
theorem dE:type_of%@Bool.and_eq_true:=@Bool.and_eq_true
theorem eE:type_of%@List.mem_of_getElem?:=@List.mem_of_getElem?
theorem fV:type_of%@PySem.W.Fast.te14364793385576792824:=@PySem.W.Fast.te14364793385576792824
theorem hX:type_of%@PySem.W.Fast.te10110043849684766642:=@PySem.W.Fast.te10110043849684766642
theorem jX:type_of%@List.getElem?_append_right:=@List.getElem?_append_right
theorem dF:type_of%@List.nodup_cons:=@List.nodup_cons
theorem c7:type_of%@List.mem_map:=@List.mem_map
theorem e_:type_of%@List.getElem?_map:=@List.getElem?_map
theorem fT:type_of%@Int.toNat_natCast:=@Int.toNat_natCast
theorem fS:type_of%@Nat.le_trans:=@Nat.le_trans
theorem eZ:type_of%@List.map_append:=@List.map_append
theorem fL:type_of%@List.mem_append:=@List.mem_append
theorem iY:type_of%@List.mem_map_of_mem:=@List.mem_map_of_mem
theorem gR:type_of%@List.perm_middle:=@List.perm_middle
theorem d7:type_of%@sizeLine_eq:=@sizeLine_eq
theorem aM:type_of%@Option.some.inj:=@Option.some.inj
theorem aV{a C:Prop}(h:a)(k:¬a):C:=absurd h k
theorem fA:type_of%@List.lookup_cons:=@List.lookup_cons
theorem eQ:type_of%@wpAny_mono:=@wpAny_mono
theorem c_:type_of%@beq_iff_eq:=@beq_iff_eq
theorem rw1{a b:Res}{p:Res->Prop}(h:a=b)(m:p b):p a:=h▸m
@[elab_as_elim]theorem rwl{X:Sort u}{a b:X}{p:X->Prop}(h:a=b)(m:p b):p a:=h▸m
@[elab_as_elim]theorem cM{X:Sort u}{a b:X}{p:X->Prop}(h:a=b)(m:p a):p b:=h▸m
theorem n3{a b c:Nat}(h:b+1<=c+1)(k:a<=b:=by decide):a<=c:=fS k (Nat.le_of_succ_le_succ h)
theorem n5{a b c:Nat}(h:b+1+1<=c+1+1)(k:a<=b:=by decide):a<=c:=n3 (Nat.le_of_succ_le_succ h) k
theorem n7{m b n:Nat}(h:b<=n)(k:m<=b):n=n-m+m:=(Nat.sub_add_cancel (fS k h)).symm
theorem n4{a b c:Nat}(h:b<=c)(k:a<=b:=by decide):a<=c:=fS k h
theorem su(m:Nat){b n:Nat}(h:b<=n)(k:m<=b:=by decide):∃x,n=x+m:=⟨n-m,n7 h k⟩
theorem dW{X:Type u}{a:X}{C:Prop}(h:none=some a):C:=nomatch h
theorem wR{X:Type u}{a:X}{C:Prop}(h:some a=none):C:=nomatch h
theorem Ku{X:Type u}{a:X}{l:List X}{C:Prop}(h:[]=a::l):C:=nomatch h
theorem Y0{C:Prop}(h:true=false):C:=nomatch h
theorem L9{C:Prop}(h:false=true):C:=nomatch h
local macro_rules
  | `(tactic| rwa [$e:term]) => `(tactic| refine Mine.Internal.rwl ($e) ?_)
local macro_rules
  | `(tactic| erw [$e:term]) => `(tactic| with_reducible refine Mine.Internal.rw1 ($e ..) ?_)
noncomputable section
structure Fix where
 prog:Program
 w:World
 K:Addr->Frag
 base:Heap
 mg:Str->Option Value
 mb:Str->Option Value
abbrev Fix.mo(F:Fix):Model:=model F.prog F.w
inductive bA where
 |ns(L:Addr)(m:Str->Option Value)
 |cell(c:Addr)(v:Option Value)
 |lst(a:Addr)(items:Array Value)
 |obj(a:Addr)(o:Obj)
noncomputable def bA.addr:bA->Addr
 |.ns L _=>L
 |.cell c _=>c
 |.lst a _=>a
 |.obj a _=>a
def bA.At(h:Heap):bA->Prop
 |.ns L m=>h.Ns L m
 |.cell c v=>h.IsCell c v
 |.lst a items=>h.PlainList a items
 |.obj a o=>h.get? a=some o
def lS(o:Obj):Prop:=(o.cls=.type "tuple"/\∃items n,o.data=.seq items n)\/(o.cls=.type "range"/\∃vs,o.data=.fields vs)
def aZ(h Z:Heap):Prop:=∀a o,h.get? a=some o->lS o->Z.get? a=some o
variable{o:Obj}
theorem eN{es ep}(e:o.data=.dict es ep):¬lS o:=by rintro(⟨_,_,_,q⟩|⟨_,_,q⟩)<;>rw[e]at q<;>cases q
theorem QF{v}(e:o.data=.cell v):¬lS o:=by rintro(⟨_,_,_,q⟩|⟨_,_,q⟩)<;>rw[e]at q<;>cases q
theorem lY(e:o.cls=.type "list"):¬lS o:=by rintro(⟨q,_⟩|⟨q,_⟩)<;>rw[e]at q<;>simp at q
theorem aZ.refl(h:Heap):aZ h h:=λz9 z9 e z9=>e
variable{bB:Heap}
theorem aZ.trans{b d:Heap}(x:aZ bB b)(y:aZ b d):aZ bB d:=λa o e c=>y a o (x a o e c) c
variable{h Z:Heap}
theorem aZ.of_keeps(k:∀b o,h.get? b=some o->Z.get? b=some o):aZ h Z:=λa o e z9=>k a o e
mutual
inductive RV(F:Fix)(U:List Addr)(h:Heap):V->Value->Prop
 |none:RV F U h .none .none
 |bool(b:Bool):RV F U h (.bool b) (.bool b)
 |int(i:Int)(t:Tok):RV F U h (.int i) (.int i t)
 |str(s:Str)(t:Tok):RV F U h (.str s) (.str s t)
 |tup{a:Addr}{o:Obj}{items:Array Value}{n:Nat}{l:List V}:h.get? a=some o->o.cls=.type "tuple"->o.data=.seq items n->b9 F U h l items.toList->RV F U h (.tup l) (.ref a)
 |ref{n:Nat}{a:Addr}:U[n]?=some a->RV F U h (.ref n) (.ref a)
 |fn{s:Str}{v:Value}:F.mg s=some v->p_ s=true->RV F U h (.fn s) v
 |cls{s:Str}{v:Value}:F.mg s=some v->oU s=true->RV F U h (.cls s) v
 |typ(t:String):RV F U h (.typ t) (.type t)
 |bi(t:String):RV F U h (.bi t) (.builtin t)
 |bits{v:Value}:F.mg "BITS"=some v->RV F U h .bits v
 |qG{a:Addr}{items:Array Value}{l:List V}:F.base.PlainList a items->b9 F U h l items.toList->RV F U h (.qG l) (.ref a)
 |eF{a:Addr}{x y z:Int}{t u v:Tok}:h.get? a=some {cls:=.type "range",dict:=none,data:=.fields #[.int x t,.int y u,.int z v],slots:=#[]}->RV F U h (.eF x y z) (.ref a)
inductive b9(F:Fix)(U:List Addr)(h:Heap):List V->List Value->Prop
 |nil:b9 F U h [] []
 |cons{v:V}{x:Value}{vs:List V}{xs:List Value}:RV F U h v x->b9 F U h vs xs->b9 F U h (v::vs) (x::xs)
end
variable{F:Fix}{U aO:List Addr}{n:Nat}{a:Addr}{v:V}{x:Value}{xs:List Value}
section
theorem mD(p:U<+:aO)(e:U[n]?=some a):aO[n]?=some a:=by refine oE p ?_;clear p;intro t aG;subst aG;rwa[List.getElem?_append_left (dN.mp e).1];exact e
theorem RV.mono(p:U<+:aO)(i:aZ h Z)(r:RV F U h v x):RV F aO Z v x:=RV.rec (motive_1:=λv x z9=>RV F aO Z v x) (motive_2:=λv x z9=>b9 F aO Z v x) .none .bool .int .str (λe c d z9 q=>.tup (i _ _ e (.inl ⟨c,_,_,d⟩)) c d q) (λe=>.ref (mD p e)) .fn .cls .typ .bi .bits (λe z9 q=>.qG e q) (λe=>.eF (i _ _ e (.inr ⟨rfl,_,rfl⟩))) .nil (λz9 z9 a b=>.cons a b) r
theorem b9.mono(p:U<+:aO)(i:aZ h Z){v:List V}{x:List Value}(r:b9 F U h v x):b9 F aO Z v x:=b9.rec (motive_1:=λv x z9=>RV F aO Z v x) (motive_2:=λv x z9=>b9 F aO Z v x) .none .bool .int .str (λe c d z9 q=>.tup (i _ _ e (.inl ⟨c,_,_,d⟩)) c d q) (λe=>.ref (mD p e)) .fn .cls .typ .bi .bits (λe z9 q=>.qG e q) (λe=>.eF (i _ _ e (.inr ⟨rfl,_,rfl⟩))) .nil (λz9 z9 a b=>.cons a b) r
theorem b9.length{vs:List V}(r:b9 F U h vs xs):xs.length=vs.length:=by
 induction vs generalizing xs with
 |nil=>cases r;rfl
 |cons v vs c=>cases r with|cons a b=>simp[c b]
theorem b9.get{vs:List V}(r:b9 F U h vs xs){i:Nat}(e:vs[i]?=some v):∃x,xs[i]?=some x/\RV F U h v x:=by
 induction vs generalizing xs i with
 |nil=>cases e
 |cons w vs c=>
  cases r with
  |cons a b=>
   induction i using Nat.casesOn with
   |zero=>clear c;have d:=aM e;subst d;exact⟨_,rfl,a⟩
   |succ i=>exact c b e
theorem b9.append{vs c:List V}{ys:List Value}(r:b9 F U h vs xs)(q:b9 F U h c ys):b9 F U h (vs++c) (xs++ys):=by
 induction vs generalizing xs with
 |nil=>cases r;exact q
 |cons v vs d=>cases r with|cons a b=>exact .cons a (d b)
theorem b9.drop{vs:List V}(r:b9 F U h vs xs)(n:Nat):b9 F U h (vs.drop n) (xs.drop n):=by
 induction n generalizing vs xs with
 |zero=>exact r
 |succ n c=>cases r with
  |nil=>exact .nil
  |cons a b=>exact c b
theorem b9.take{vs:List V}(r:b9 F U h vs xs)(n:Nat):b9 F U h (vs.take n) (xs.take n):=by
 induction n generalizing vs xs with
 |zero=>exact .nil
 |succ n c=>cases r with
  |nil=>exact .nil
  |cons a b=>exact .cons a (c b)
theorem b9.set{vs:List V}(r:b9 F U h vs xs)(n:Nat){v:V}(q:RV F U h v x):b9 F U h (vs.set n v) (xs.set n x):=by
 induction n generalizing vs xs with
 |zero=>cases r with
  |nil=>exact .nil
  |cons a b=>exact .cons q b
 |succ n c=>cases r with
  |nil=>exact .nil
  |cons a b=>exact .cons a (c b)
theorem b9.replicate(q:RV F U h v x)(n:Nat):b9 F U h (List.replicate n v) (List.replicate n x):=by
 induction n with
 |zero=>exact .nil
 |succ n a=>exact .cons q a
end
inductive Own where
 |obj(n:Nat)
 |PL(n:Nat)
def lN(F:Fix)(U:List Addr)(h:Heap)(as:List (Str×V))(m:Str->Option Value):Prop:=∀x,match aU x as with
 |some v=>∃val,m x=some val/\RV F U h v val
 |none=>m x=none
inductive DR(F:Fix)(U:List Addr)(h:Heap){κ:Type}(hO:κ->V):List (V×V)->List (κ×Value)->Prop
 |nil:DR F U h hO [] []
 |cons{k:κ}{v:V}{x:Value}{l:List (V×V)}{kvs:List (κ×Value)}:RV F U h v x->DR F U h hO l kvs->DR F U h hO ((hO k,v)::l) ((k,x)::kvs)
def uH(F:Fix)(U:List Addr)(h:Heap)(a:Addr)(l:List (V×V)):Prop:=∃kvs:List (Int×Value),h.DictOf (intKind F.prog F.w) a kvs/\DR F U h V.int l kvs
def xA(F:Fix)(U:List Addr)(h:Heap)(a:Addr)(l:List (V×V)):Prop:=∃kvs:List (Str×Value),h.DictOf (strKind F.prog F.w) a kvs/\DR F U h V.str l kvs
def E5(F:Fix)(c:Str)(C:Addr):Prop:=F.mg c=some (.ref C)/\oU c=true
def sC(h:Heap)(d:Addr)(m:Str->Option Value)(n:Nat):Prop:=h.Ns d m/\∃o es ep,h.get? d=some o/\o.data=.dict es ep/\es.size<=n
inductive Fa(F:Fix)(U:List Addr)(h:Heap)(own:Addr->Option Own)(n:Nat)(a:Addr)(c:Str)(as:List (Str×V)):Prop
 |mk C d o m:E5 F c C->h.get? a=some o->o.cls=.ref C->o.dict=some d->o.data=.plain->sC h d m as.length->lN F U h as m->own d=some (.PL n)->Fa F U h own n a c as
def mV(F:Fix)(U:List Addr)(h:Heap)(own:Addr->Option Own)(n:Nat)(a:Addr):VO->Prop
 |.list l=>∃items:Array Value,h.PlainList a items/\b9 F U h l items.toList
 |.dict l=>uH F U h a l\/xA F U h a l
 |.inst c as=>Fa F U h own n a c as
structure Lu(F:Fix)(U:List Addr)(H:VH)(Θ:List bA)(h:Heap):Prop where
 stays:F.base.StaysIn h
 len:U.length=H.length
 objs:∃own:Addr->Option Own,(∀a,own a≠none->F.base.get? a=none/\(∃o,h.get? a=some o))/\(∀p∈Θ,own p.addr=none)/\
  ∀n vo,H[n]?=some vo->∃a,U[n]?=some a/\own a=some (.obj n)/\mV F U h own n a vo
 nodup:(Θ.map bA.addr).Nodup
 dS:∀p∈Θ,p.At h/\F.base.get? p.addr=none
variable{H:VH}{Θ jP:List bA}{vo:VO}{as:List (Str×V)}{m:Str->Option Value}{κ:Type}{prog:Program}{w:World}{L:Addr}{items:Array Value}{c:Str}
section
variable{own:Addr->Option Own}
theorem lN.mono(r:lN F U h as m)(p:U<+:aO)(i:aZ h Z):lN F aO Z as m:=by
 intro x;have q:=r x
 cases e:aU x as with
 |none=>rw[e]at q;exact q
 |some v=>rw[e]at q;refine aW q ?_;clear q;intro val q1 q2;exact⟨val,q1,q2.mono p i⟩
theorem DR.mono{hO:κ->V}{l:List (V×V)}{kvs:List (κ×Value)}(p:U<+:aO)(i:aZ h Z)(r:DR F U h hO l kvs):DR F aO Z hO l kvs:=by
 induction r with
 |nil=>exact .nil
 |cons b _ a=>exact .cons (b.mono p i) a
theorem u7 [DecidableEq κ]{knd:KeyKind prog w κ}{d:Addr}{kvs:List (κ×Value)}(q:h.DictOf knd d kvs)(e:Z.get? d=h.get? d):Z.DictOf knd d kvs:=let⟨o,es,ep,ho,r⟩:=q;⟨o,es,ep,e.trans ho,r⟩
theorem TN(q:h.Ns L m)(e:Z.get? L=h.get? L):Z.Ns L m:=let⟨o,es,ep,ho,r⟩:=q;⟨o,es,ep,e.trans ho,r⟩
theorem YO(q:sC h L m n)(e:Z.get? L=h.get? L):sC Z L m n:=⟨TN q.1 e,let⟨o,es,ep,ho,r⟩:=q.2;⟨o,es,ep,e.trans ho,r⟩⟩
theorem WA{c:Addr}{v:Option Value}(q:h.IsCell c v)(e:Z.get? c=h.get? c):Z.IsCell c v:=let⟨o,ho,r⟩:=q;⟨o,e.trans ho,r⟩
theorem z0{l:Addr}(q:h.PlainList l items)(e:Z.get? l=h.get? l):Z.PlainList l items:=let⟨n,ho⟩:=q;⟨n,e.trans ho⟩
theorem bA.At.move{p:bA}(q:p.At h)(e:Z.get? p.addr=h.get? p.addr):p.At Z:=by
 induction p using bA.casesOn with
 |ns L m=>exact TN q e
 |cell c v=>exact WA q e
 |lst a items=>exact z0 q e
 |obj a o=>exact Eq.trans e q
theorem bA.At.obj{p:bA}(q:p.At h):∃o,h.get? p.addr=some o:=by
 induction p using bA.casesOn with
 |ns L m=>refine m7 q ?_;clear q;intro o _ _ e _;exact⟨o,e⟩
 |cell c v=>refine aW q ?_;clear q;intro o e _;exact⟨o,e⟩
 |lst a items=>refine oE q ?_;clear q;intro n e;exact⟨_,e⟩
 |obj a o=>exact⟨o,q⟩
theorem mV.move(q:mV F U h own n a vo)(p:U<+:aO)(i:aZ h Z)(e:Z.get? a=h.get? a)(f:∀d,own d=some (.PL n)->Z.get? d=h.get? d):mV F aO Z own n a vo:=by
 induction vo using VO.casesOn with
 |list l=>refine aW q ?_;clear q;intro items q1 q2;exact⟨items,z0 q1 e,q2.mono p i⟩
 |dict l=>exact q.imp (λ⟨kvs,q1,q2⟩=>⟨kvs,u7 q1 e,q2.mono p i⟩) λ⟨kvs,q1,q2⟩=>⟨kvs,u7 q1 e,q2.mono p i⟩
 |inst c as=>obtain⟨C,d,o,m,q1,q2,q3,q4,g,j,k,b⟩:=q;exact⟨C,d,o,m,q1,e.trans q2,q3,q4,g,YO j (f d b),k.mono p i,b⟩
theorem mV.qK{bG:Addr->Option Own}(q:mV F U h own n a vo)(e:∀d,own d=some (.PL n)->bG d=some (.PL n)):mV F U h bG n a vo:=by
 induction vo using VO.casesOn with
 |list l=>exact q
 |dict l=>exact q
 |inst c as=>obtain⟨C,d,o,m,q1,q2,q3,q4,f,g,i,b⟩:=q;exact⟨C,d,o,m,q1,q2,q3,q4,f,g,i,e d b⟩
theorem Lu.keeps(R:Lu F U H Θ h)(k:∀b o,h.get? b=some o->Z.get? b=some o):Lu F U H Θ Z:=by obtain⟨s,l,⟨own,o1,o2,f⟩,nd,pr⟩:=R;have same:∀b,(∃o,h.get? b=some o)->Z.get? b=h.get? b:=λb⟨o,e⟩=>(k b o e).trans e.symm;refine⟨λb o e=>k b o (s b o e),l,⟨own,λb hb=>⟨(o1 b hb).1,let⟨o,e⟩:=(o1 b hb).2;⟨o,k _ _ e⟩⟩,o2,λn vo e=>?_⟩,nd,λp hp=>⟨(pr p hp).1.move (same _ (pr p hp).1.obj),(pr p hp).2⟩⟩;refine cY (f n vo e) λa e1 c g=>?_;exact⟨a,e1,c,g.move aQ (aZ.of_keeps k) (same a (o1 a (by rwa[c];simp)).2) λd i=>same d (o1 d (by rwa[i];simp)).2⟩
theorem eO(s:Heap.SameBut a h Z)(e:h.get? a=some o)(c:¬lS o):aZ h Z:=λb ob d cb=>by
 by_cases q:b=a;·clear s;subst q;rw[e]at d;have f:=aM d;subst f;exact aV cb c
 ·exact(s.2 b q).trans d
theorem Lu.gM{p p':bA}(R:Lu F U H (p::Θ) h)(s:Heap.SameBut p.addr h Z)(e:h.get? p.addr=some o)(c:¬lS o)(g:p'.addr=p.addr)(q:p'.At Z):Lu F U H (p'::Θ) Z/\aZ h Z:=by
 have I:=eO s e c;obtain⟨st,l,⟨own,o1,o2,k⟩,nd,pr⟩:=R;have hp:=pr p (aE);have ne:∀b,own b≠none->b≠p.addr:=λb hb q=>hb (by rwa[q];exact o2 p (aE));refine⟨⟨λb ob f=>(s.2 b λq=>by rw[q,hp.2]at f;exact dW f).trans (st b ob f),l,⟨own,λb hb=>⟨(o1 b hb).1,?_⟩,λx a=>?_,λn vo e=>?_⟩,?_,λx a=>?_⟩,I⟩;·refine oE ((o1 b hb).2) λob f=>?_;exact⟨ob,(s.2 b (ne b hb)).trans f⟩
 ·clear q;rcases bV.mp a with rfl|a;·rwa[g];exact o2 p (aE)
  ·exact o2 x (aC a)
 ·refine cY (k n vo e) λb e1 j m=>?_;exact⟨b,e1,j,m.move aQ I (s.2 b (ne b (by rwa[j];simp))) λd r=>s.2 d (ne d (by rwa[r];simp))⟩
 ·rwa[bX];rwa[g];exact nd
 ·rcases bV.mp a with rfl|a;·exact⟨q,by rwa[g];exact hp.2⟩
  ·have i:x.addr≠p.addr:=by rw[bX,dF]at nd;exactλq=>nd.1 (q▸iY a)
   exact⟨(pr x (aC a)).1.move (s.2 _ i),(pr x (aC a)).2⟩
theorem Lu.perm(R:Lu F U H Θ h)(p:Θ.Perm jP):Lu F U H jP h:=by obtain⟨st,l,⟨own,o1,o2,b⟩,nd,pr⟩:=R;exact⟨st,l,⟨own,o1,λx a=>o2 x (p.mem_iff.mpr a),b⟩,(p.map bA.addr).nodup_iff.mp nd,λx a=>pr x (p.mem_iff.mpr a)⟩
theorem Lu.drop{p:bA}(R:Lu F U H (p::Θ) h):Lu F U H Θ h:=by obtain⟨st,l,⟨own,o1,o2,b⟩,nd,pr⟩:=R;exact⟨st,l,⟨own,o1,λx a=>o2 x (aC a),b⟩,by rw[bX,dF]at nd;exact nd.2,λx a=>pr x (aC a)⟩
theorem Lu.fresh(R:Lu F U H Θ h)(e:h.get? a=none):F.base.get? a=none/\(∀p∈Θ,p.addr≠a):=by
 refine⟨?_,λp hp q=>?_⟩
 ·cases q:F.base.get? a with
  |none=>rfl
  |some o=>rw[R.stays a o q]at e;exact wR e
 ·refine oE ((R.dS p hp).1.obj) λo b=>?_;rw[q,e]at b;exact dW b
theorem Lu.j2{p:bA}(R:Lu F U H Θ h)(k:∀b o,h.get? b=some o->Z.get? b=some o)(e:h.get? p.addr=none)(q:p.At Z):Lu F U H (p::Θ) Z:=by
 have fr:=R.fresh e;have j:=R.keeps k;obtain⟨_,_,⟨lJ,o1,o2,r⟩,_,_⟩:=R
 have hp:lJ p.addr=none:=by
  cases z:lJ p.addr with
  |none=>rfl
  |some x=>refine oA (o1 p.addr (by rwa[z];simp)) λ_ f=>?_;refine oE f ?_;clear f;intro ob g;rw[e]at g;exact dW g
 clear e;obtain⟨st,l,_,nd,pr⟩:=j;have same:∀b,(∃o,h.get? b=some o)->Z.get? b=h.get? b:=λb⟨o,e⟩=>(k b o e).trans e.symm;refine⟨st,l,⟨lJ,λb hb=>⟨(o1 b hb).1,let⟨o,e⟩:=(o1 b hb).2;⟨o,k _ _ e⟩⟩,λx c=>?_,λn vo e=>?_⟩,?_,λx c=>?_⟩
 ·clear q fr;rcases bV.mp c with rfl|c;·exact hp
  ·exact o2 x c
 ·refine cY (r n vo e) λa e1 i s=>?_;exact⟨a,e1,i,s.move aQ (aZ.of_keeps k) (same a (o1 a (by rwa[i];simp)).2) λd t=>same d (o1 d (by rwa[t];simp)).2⟩
 ·rwa[bX];rw[dF];refine⟨λm=>?_,nd⟩;refine aW (c7.mp m) λx c ex=>?_;exact fr.2 x c ex
 ·clear hp;rcases bV.mp c with rfl|c;·exact⟨q,fr.1⟩
  ·exact pr x c
theorem Lu.z6(R:Lu F U H Θ h)(k:∀b o,h.get? b=some o->Z.get? b=some o)(e:h.get? a=none)(s:∃o,Z.get? a=some o)(q:∀own,mV F (U++[a]) Z own H.length a vo):Lu F (U++[a]) (H++[vo]) Θ Z:=by
 have fr:=R.fresh e;obtain⟨st,l,⟨own,o1,o2,t⟩,nd,pr⟩:=R;have same:∀b,(∃o,h.get? b=some o)->Z.get? b=h.get? b:=λb⟨o,e⟩=>(k b o e).trans e.symm
 have m:own a=none:=by
  cases z:own a with
  |none=>rfl
  |some x=>refine oA (o1 a (by rwa[z];simp)) λ_ f=>?_;refine oE f ?_;clear f;intro ob r;rw[e]at r;exact dW r
 refine⟨λb o e=>k b o (st b o e),by simp[l],⟨λb=>if b=a then some (.obj H.length)else own b,λb hb=>?_,λp hp=>?_,λn vo' c=>?_⟩,nd,λp hp=>⟨(pr p hp).1.move (same _ (pr p hp).1.obj),(pr p hp).2⟩⟩
 ·by_cases z:b=a;·clear e q m hb;subst z;exact⟨fr.1,s⟩
  ·simp only[z,if_false]at hb;exact⟨(o1 b hb).1,let⟨o,e⟩:=(o1 b hb).2;⟨o,k _ _ e⟩⟩
 ·simp only[fr.2 p hp,if_false];exact o2 p hp
 ·rcases Nat.lt_trichotomy n H.length with i|i|i
  ·rw[List.getElem?_append_left i]at c;refine cY (t n vo' c) λb e1 j u=>?_;have hb:b≠a:=λz=>by rw[z,m]at j;exact dW j
   refine⟨b,mD ⟨_,rfl⟩ e1,by simp only[hb,if_false];exact j,?_⟩;refine(u.move ⟨_,rfl⟩ (aZ.of_keeps k) (same b (o1 b (by rwa[j];simp)).2) λd g=>same d (o1 d (by rwa[g];simp)).2).qK λd g=>?_;have:d≠a:=λz=>by rw[z,m]at g;exact dW g
   simp only[this,if_false];exact g
  ·subst i;rw[jX (Nat.le_refl _),Nat.sub_self]at c;have v:=aM c;subst v;refine⟨a,?_,by simp,q _⟩;rwa[jX (by rwa[l];exact Nat.le_refl _)];rwa[l];rewrite[Nat.sub_self];rfl
  ·rw[List.getElem?_eq_none (by simp;lia)]at c;exact dW c
theorem Lu.vQ{vo':VO}(R:Lu F U H Θ h)(t:U[n]?=some a)(u:H[n]?=some vo)(s:Heap.SameBut a h Z)(e:h.get? a=some o)(c:¬lS o)(A:∃o,Z.get? a=some o)(q:∀own,mV F U Z own n a vo'):Lu F U (H.set n vo') Θ Z/\aZ h Z:=by
 have I:=eO s e c;clear e;obtain⟨st,l,⟨own,o1,o2,v⟩,nd,pr⟩:=R;refine cY (v n vo u) λw e1 i B=>?_;rw[t]at e1;clear B;have f:=aM e1;subst f;have hb:=o1 a (by rwa[i];simp);refine⟨⟨λb ob j=>(s.2 b λq=>by rw[q,hb.1]at j;exact dW j).trans (st b ob j),by simp[l],⟨own,λb m=>⟨(o1 b m).1,?_⟩,o2,λk C r=>?_⟩,nd,λp hp=>?_⟩,I⟩
 ·by_cases z:b=a;·clear t s q e1 i hb;subst z;exact A
  ·refine oE ((o1 b m).2) λob j=>?_;exact⟨ob,(s.2 b z).trans j⟩
 ·by_cases z:k=n;·subst z;rw[List.getElem?_set_self (dN.mp u).1]at r;have f:=aM r;subst f;exact⟨a,t,i,q own⟩
  ·rw[List.getElem?_set_ne (Ne.symm z)]at r;refine cY (v k C r) λb f1 f2 f3=>?_;have g:b≠a:=λy=>by rw[y,i]at f2;clear r f1 f3;have f:=aM f2;cases f;exact z rfl
   exact⟨b,f1,f2,f3.move aQ I (s.2 b g) λd x=>s.2 d λy=>by rw[y,i]at x;have f:=aM x;cases f⟩
 ·have g:p.addr≠a:=λy=>by have:=o2 p hp;rw[y,i]at this;exact wR this
  exact⟨(pr p hp).1.move (s.2 _ g),(pr p hp).2⟩
theorem Lu.inst_upd{as':List (Str×V)}{d:Addr}{m':Str->Option Value}(R:Lu F U H Θ h)(B:U[n]?=some a)(C:H[n]?=some (.inst c as))(m:∀o,h.get? a=some o->o.dict=some d)(s:Heap.SameBut d h Z)(q:sC Z d m' as'.length)(r:lN F U h as' m'):Lu F U (H.set n (.inst c as')) Θ Z/\aZ h Z:=by
 obtain⟨st,l,⟨own,o1,o2,D⟩,nd,pr⟩:=R;refine cY (D n _ C) λE e1 x K=>?_;rw[B]at e1;have i:=aM e1;subst i;obtain⟨t,e,j,G,q1,q2,q3,q4,L,J,O,f⟩:=K;obtain rfl:e=d:=by have:=m j q2;rw[q4]at this;exact aM this
 have I:aZ h Z:=by refine eS (J.1) λod es ep A M _=>?_;exact eO s A (eN M)
 have hb:=o1 e (by rwa[f];simp);have g:a≠e:=λy=>by rw[y,f]at x;have i:=aM x;cases i
 refine⟨⟨λb ob u=>(s.2 b λq=>by rw[q,hb.1]at u;exact dW u).trans (st b ob u),by simp[l],⟨own,λb v=>⟨(o1 b v).1,?_⟩,o2,λk N w=>?_⟩,nd,λp hp=>?_⟩,I⟩
 ·by_cases z:b=e;·clear q4 J f m s hb g;subst z;refine m7 (q.1) λod _ _ A _=>?_;exact⟨od,A⟩
  ·refine oE ((o1 b v).2) λob u=>?_;exact⟨ob,(s.2 b z).trans u⟩
 ·by_cases z:k=n;·subst z;rw[List.getElem?_set_self (dN.mp C).1]at w;have i:=aM w;subst i;exact⟨a,B,x,t,e,j,m',q1,(s.2 a g).trans q2,q3,q4,L,q,r.mono aQ I,f⟩
  ·rw[List.getElem?_set_ne (Ne.symm z)]at w;refine cY (D k N w) λb f1 f2 f3=>?_;have g:b≠e:=λy=>by rw[y,f]at f2;have i:=aM f2;cases i
   exact⟨b,f1,f2,f3.move aQ I (s.2 b g) λd m=>s.2 d λy=>by rw[y,f]at m;clear w f1 f2 f3;have i:=aM m;cases i;exact z rfl⟩
 ·have g:p.addr≠e:=λy=>by have:=o2 p hp;rw[y,f]at this;exact wR this
  exact⟨(pr p hp).1.move (s.2 _ g),(pr p hp).2⟩
theorem Lu.inst_new{C:Addr}(R:Lu F U H Θ h)(w:E5 F c C):Lu F (U++[h.objs.size+1]) (H++[.inst c []]) Θ ((h.push emptyDict).push (instObj C h.objs.size)):=by
 have k:∀b o,h.get? b=some o->((h.push emptyDict).push (instObj C h.objs.size)).get? b=some o:=λb o e=>dJ _ (dJ _ e)
 have lt:∀{b:Addr},h.objs.size<=b->h.get? b=none:=λ{b}hb=>by
  cases q:h.get? b with
  |none=>rfl
  |some o=>exact aV (Heap.lt_size q) (Nat.not_lt.mpr hb)
 have f1:=R.fresh (lt (Nat.le_refl h.objs.size));have f2:=R.fresh (lt (Nat.le_succ h.objs.size));have r:((h.push emptyDict).push (instObj C h.objs.size)).get? (h.objs.size+1)=some (instObj C h.objs.size):=by have:=kA (h.push emptyDict) (o:=instObj C h.objs.size) rfl;rwa[Heap.size_push]at this
 have g1:((h.push emptyDict).push (instObj C h.objs.size)).get? h.objs.size=some emptyDict:=dJ _ (kA h rfl);obtain⟨st,l,⟨own,o1,o2,A⟩,nd,pr⟩:=R;have same:∀b,(∃o,h.get? b=some o)->((h.push emptyDict).push (instObj C h.objs.size)).get? b=h.get? b:=λb⟨o,e⟩=>(k b o e).trans e.symm
 have s:∀b,h.objs.size<=b->own b=none:=λb hb=>by
  cases z:own b with
  |none=>rfl
  |some x=>refine oA (o1 b (by rwa[z];simp)) λ_ i=>?_;refine oE i ?_;clear i;intro ob t;rw[lt hb]at t;exact dW t
 have u:=s _ (Nat.le_refl h.objs.size);have v:=s _ (Nat.le_succ h.objs.size);refine⟨λb o e=>k b o (st b o e),by simp[l],⟨λb=>if b=h.objs.size+1 then some (.obj H.length)else if b=h.objs.size then some (.PL H.length)else own b,λb hb=>?_,λp hp=>?_,λn vo' f=>?_⟩,nd,λp hp=>⟨(pr p hp).1.move (same _ (pr p hp).1.obj),(pr p hp).2⟩⟩
 ·by_cases z:b=h.objs.size+1;·clear hb;subst z;exact⟨f2.1,_,r⟩
  ·by_cases y:b=h.objs.size;·clear hb z;subst y;exact⟨f1.1,_,g1⟩
   ·simp only[z,y,if_false]at hb;exact⟨(o1 b hb).1,let⟨o,e⟩:=(o1 b hb).2;⟨o,k _ _ e⟩⟩
 ·simp only[f1.2 p hp,f2.2 p hp,if_false];exact o2 p hp
 ·rcases Nat.lt_trichotomy n H.length with j|j|j
  ·rw[List.getElem?_append_left j]at f;refine cY (A n vo' f) λb e1 g B=>?_;have hb:b≠h.objs.size+1:=λz=>by rw[z,v]at g;exact dW g
   have m:b≠h.objs.size:=λz=>by rw[z,u]at g;exact dW g
   refine⟨b,mD ⟨_,rfl⟩ e1,by simp only[hb,m,if_false];exact g,?_⟩;refine(B.move ⟨_,rfl⟩ (aZ.of_keeps k) (same b (o1 b (by rwa[g];simp)).2) λd a=>same d (o1 d (by rwa[a];simp)).2).qK λd a=>?_;have D:d≠h.objs.size+1:=λz=>by rw[z,v]at a;exact dW a
   have E:d≠h.objs.size:=λz=>by rw[z,u]at a;exact dW a
   simp only[D,E,if_false];exact a
  ·subst j;rw[jX (Nat.le_refl _),Nat.sub_self]at f;have G:=aM f;subst G;refine⟨h.objs.size+1,?_,by simp,C,h.objs.size,_,λz9=>none,w,r,rfl,rfl,rfl,?_,λx=>rfl,by simp⟩;·rwa[jX (by rwa[l];exact Nat.le_refl _)];rwa[l];rewrite[Nat.sub_self];rfl
   ·exact⟨(Heap.Ns.new h (.type "dict")).push _,_,_,_,g1,rfl,Nat.le_refl _⟩
  ·rw[List.getElem?_eq_none (by simp;lia)]at f;exact dW f
end
section
variable[DecidableEq κ]{hO:κ->V}
theorem DR.get(he:∀a b,hZ (hO a) (hO b)=decide (a=b)){k:κ}{l:List (V×V)}{kvs:List (κ×Value)}(r:DR F U h hO l kvs):match d8 (hO k) l with
 |some v=>∃x,valueAt kvs k=some x/\RV F U h v x
 |none=>valueAt kvs k=none:=by
 induction r with
 |nil=>rfl
 |@cons c v x l kvs b _ d=>
  show match(if hZ (hO c) (hO k)=true then some _ else d8 (hO k) l)with
  |some v=>_
  |none=>_;unfold valueAt;rw[he];by_cases q:c=k;·simp only[q,decide_true,if_true,List.find?_cons];exact⟨x,rfl,b⟩
  ·simp only[q,decide_false,List.find?_cons];simpa[valueAt]using d
set_option tactic.hygienic true in
theorem DR.any{l:List (V×V)}{kvs:List (κ×Value)}{k:κ}(he:∀a b,hZ (hO a) (hO b)=decide (a=b))(r:DR F U h hO l kvs)(q:RV F U h v x)(nd:(kvs.map (·.1)).Nodup):
 DR F U h hO (iQ (hO k) v l) (stored kvs k x):=by
 induction r with
 |nil=>exact .cons q .nil
 |@cons d v' f l kvs b r c=>
  rw[bX,dF]at nd;show DR F U h hO (if hZ (hO d) (hO k)=true then _ else _::iQ (hO k) v l) _;unfold stored;rw[he];by_cases z:d=k;·subst z;simp only[decide_true,if_true,List.any_cons,Bool.true_or,bX];have:(kvs.map λe=>if e.1=d then(e.1,x)else e)=kvs:=map_store_of_not_mem kvs d x nd.1;rwa[this];exact .cons q r
  ·have c:=c nd.2;simp only[z,decide_false,if_false,List.any_cons,Bool.false_or,bX,Bool.false_eq_true];unfold stored at c;split;·rename_i y;rw[aI y]at c;exact .cons b c
   ·rename_i y;rw[aH y]at c;exact .cons b c
theorem DR.del{l:List (V×V)}{kvs:List (κ×Value)}{k:κ}(he:∀a b,hZ (hO a) (hO b)=decide (a=b))(r:DR F U h hO l kvs)(nd:(kvs.map (·.1)).Nodup):DR F U h hO (j5 (hO k) l) (without kvs k):=by
 induction r with
 |nil=>exact .nil
 |@cons c v' d l kvs b r e=>
  rw[bX,dF]at nd;show DR F U h hO (if hZ (hO c) (hO k)=true then l else _::j5 (hO k) l) _;rw[he];by_cases z:c=k
  ·clear e;subst z;simp only[decide_true,if_true];have:without ((c,d)::kvs) c=kvs:=by unfold without;rwa[List.filter_cons];simp only[ne_eq,not_true,decide_false,Bool.false_eq_true,if_false];exact without_of_not_mem kvs c nd.1
   rwa[this];exact r
  ·simp only[z,decide_false,if_false,Bool.false_eq_true];have:without ((c,d)::kvs) k=(c,d)::without kvs k:=by unfold without;rwa[List.filter_cons];simp[z]
   rwa[this];exact .cons b (e nd.2)
theorem DR.length{l:List (V×V)}{kvs:List (κ×Value)}(r:DR F U h hO l kvs):kvs.length=l.length:=by
 induction r with
 |nil=>rfl
 |cons _ _ a=>simp[a]
theorem kJ(a b:Int):hZ (.int a) (.int b)=decide (a=b):=rfl
theorem mF(a b:Str):hZ (.str a) (.str b)=decide (a=b):=rfl
end
theorem Lu.sub(R:Lu F U H Θ h)(s:∀p∈jP,p∈Θ)(n:(jP.map bA.addr).Nodup):Lu F U H jP h:=by obtain⟨st,l,⟨own,o1,o2,a⟩,nd,pr⟩:=R;exact⟨st,l,⟨own,o1,λp hp=>o2 p (s p hp),a⟩,n,λp hp=>pr p (s p hp)⟩
theorem Lu.uniq{F:Fix}{U:List Addr}{H:VH}{h:Heap}{p q:bA}(R:Lu F U H Θ h)(hp:p∈Θ)(c:q∈Θ)(e:p.addr=q.addr):p=q:=by
 have nd:=R.nodup
 induction Θ with
 |nil=>cases hp
 |cons x r d=>
  rw[bX,dF]at nd;rcases bV.mp hp with rfl|a<;>(clear hp;rcases bV.mp c with rfl|b);·rfl
  ·exact aV (e▸iY b) nd.1
  ·exact aV (e▸iY a) nd.1
  ·exact d R.drop a b nd.2
inductive oS(F:Fix)(U:List Addr)(h:Heap):Loc->List (Str×Value)->Prop
 |nil:oS F U h [] []
 |cons{x:Str}{v:V}{y:Value}{l:Loc}{b:List (Str×Value)}:RV F U h v y->oS F U h l b->oS F U h ((x,v)::l) ((x,y)::b)
inductive XJ(F:Fix)(D:Def)(f:Addr):Prop
 |mk o fd:F.base.get? f=some o->o.data=.func fd->fd.body=.stmts D.body->F.base.CodeRec fd.code fd.qualname->fd.scope.names=D.sc->fd.scope.kind=.function->fd.scope.isCoroutine=false->fd.scope.isGenerator=false->
  fd.closure=[]->fd.globals=mainGlobals->fd.builtins=builtinsNs->
  (∀(s:Shared)(U:List Addr)(vals:List V)(xs:List Value)(loc:Loc),F.base.StaysIn s.heap->b9 F U s.heap vals xs->lQ D.params D.qZ vals=some loc->∃binds,BindsTo s fd ⟨xs,[]⟩ binds/\oS F U s.heap loc binds)->XJ F D f
structure kD(F:Fix)(D:Def)(f:Addr):Prop where
 fd:XJ F D f
 keep:keepIn (F.K f) (.ref f)=true
 type:typeIn (F.K f) (.ref f)=some (.type "function")
 params:∀p∈D.params,p≠("__debug__":Str)/\p≠("__classdict__":Str)/\(D.sc.lookup p=some .local\/D.sc.lookup p=some .cell)
 nodup:D.params.Nodup
 XV:(D.sc.map (·.1)).Nodup
structure Cv(F:Fix)(c:Str)(C:Addr):Prop where
 m5:findIn (F.K C) (.ref C) "__getattribute__"=some (some (.builtin "object.__getattribute__"))
 getattr:findIn (F.K C) (.ref C) "__getattr__"=some none
 hasDict:hasDictIn (F.K C) C=true
 over:plainOver (F.K C) C=true
 setattr:findIn (F.K C) (.ref C) "__setattr__"=some (some (.builtin "object.__setattr__"))
 makes:makesIn (F.K C) C=true
 keep:keepIn (F.K C) (.ref C)=true
 meths:∀m D,Lx (.aL c m)=some D->∃f,findIn (F.K C) (.ref C) m=some (some (.ref f))/\typeIn (F.K C) (.ref f)=some (.type "function")/\kD F D f
 attrs:∀x,mX c x=true->findIn (F.K C) (.ref C) x=some none
structure cA(F:Fix):Prop where
 iO:∀a,(F.K a).In F.base
 g:F.base.Ns mainGlobals F.mg
 b:F.base.Ns builtinsNs F.mb
 RS:F.base.get? sysModules≠none
 bits:∃a kvs,F.mg "BITS"=some (.ref a)/\F.base.DictOf (strKind F.prog F.w) a kvs/\∀x i,nS.lookup x=some i->∃t,valueAt kvs x=some (.int i t)
 cls:∀c C,E5 F c C->Cv F c C
 fns:∀x v D,p_ x=true->Lx (.top x)=some D->F.mg x=some v->∃f,v=.ref f/\kD F D f
 Y9:∀x v,F.mg x=some v->p_ x=true->∃a,keepIn (F.K a) v=true
 DE:∀c v,F.mg c=some v->oU c=true->∃C,v=.ref C
 nolimit:F.base.NoLimit
 nodigits:∃mc,F.base.Ns cStatics mc/\mc "sys.int_max_str_digits"=none
 DP:∀x v,DP x=some v->x≠("__debug__":Str)/\((∃val,F.mg x=some val/\RV F [] F.base v val)\/(F.mg x=none/\∃val,F.mb x=some val/\RV F [] F.base v val))
abbrev Keeps(h Z:Heap):Prop:=∀b o,h.get? b=some o->Z.get? b=some o
def Lq(A:Around)(n:Nat):Prop:=A.handled=none/\A.depth+4*n+20<recursionLimit/\A.units+100*n+300<cLine/\A.guards=some []
structure eY(A:Around)(L:Addr)(Θ:List bA):Prop where
 frames:∃J outer,A.frames=some (J::outer)/\J.frame=some L/\∀nJ∈J::outer,nJ.scope.kind≠.module/\∃L m,nJ.frame=some L/\bA.ns L m∈Θ
def CN(F:Fix)(J:Env)(U:List Addr)(h:Heap)(Θ:List bA)(x:Str)(v:V):Option NameKind->Prop
 |some .local=>∃m val,bA.ns J.locals m∈Θ/\m x=some val/\RV F U h v val
 |some .cell=>∃c val,J.cells.lookup x=some c/\bA.cell c (some val)∈Θ/\RV F U h v val
 |some .free=>∃c val,J.cells.lookup x=some c/\bA.cell c (some val)∈Θ/\RV F U h v val
 |_=>True
variable{J:Env}
theorem CN.map{x:Str}{k:Option NameKind}(q:CN F J U h Θ x v k)(rv:∀val,RV F U h v val->RV F aO Z v val)(b:∀m val,bA.ns J.locals m∈Θ->m x=some val->∃m',bA.ns J.locals m'∈jP/\m' x=some val)(a:∀c w,J.cells.lookup x=some c->bA.cell c w∈Θ->bA.cell c w∈jP):CN F J aO Z jP x v k:=by
 induction k using Option.casesOn with
 |none=>trivial
 |some k=>
  induction k using PySem.NameKind.casesOn with
  |«local»=>refine b_ q ?_;clear q;intro m val q1 q2 q3;refine aW (b m val q1 q2) λm' e1 d=>?_;exact⟨m',val,e1,d,rv _ q3⟩
  |cell=>refine b_ q ?_;clear q;intro c val q1 q2 q3;exact⟨c,val,q1,a _ _ q1 q2,rv _ q3⟩
  |free=>refine b_ q ?_;clear q;intro c val q1 q2 q3;exact⟨c,val,q1,a _ _ q1 q2,rv _ q3⟩
  |globalImplicit=>trivial
  |globalExplicit=>trivial
structure dG(F:Fix)(J:Env)(sc:Sc)(loc:Loc)(U:List Addr)(h:Heap)(Θ:List bA):Prop where
 names:J.scope.names=sc
 kind:J.scope.kind=.function
 glob:J.globals=mainGlobals
 blt:J.builtins=builtinsNs
 own:∃m,bA.ns J.locals m∈Θ
 cells:∀x,sc.lookup x=some .cell->∃c v,J.cells.lookup x=some c/\bA.cell c v∈Θ
 loc:∀x v,aU x loc=some v->x≠("__debug__":Str)/\x≠("__classdict__":Str)/\CN F J U h Θ x v (sc.lookup x)
variable{sc:Sc}{loc:Loc}
theorem dG.map(N:dG F J sc loc U h Θ)(rv:∀v val,RV F U h v val->RV F aO Z v val)(a:∀m,bA.ns J.locals m∈Θ->bA.ns J.locals m∈jP)(b:∀c w,bA.cell c w∈Θ->bA.cell c w∈jP):dG F J sc loc aO Z jP:=⟨N.names,N.kind,N.glob,N.blt,N.own.imp a,λx d=>sY (N.cells x d) λc v e hm=>⟨c,v,e,b _ _ hm⟩,λx v e=>⟨(N.loc x v e).1,(N.loc x v e).2.1,(N.loc x v e).2.2.map (rv v) (λm val hm e=>⟨m,a m hm,e⟩) λc w z9=>b c w⟩⟩
variable{X:Type}
theorem s8{p a:X}{l r:List X}(h:p∈l++a::r)(ne:p≠a):p∈l++r:=fL.mpr ((fL.mp h).imp id λh=>(bV.mp h).resolve_left ne)
theorem sT{p a b:X}{l r:List X}(h:p∈l++a::r)(ne:p≠a):p∈l++b::r:=fL.mpr ((fL.mp h).imp id λh=>aC ((bV.mp h).resolve_left ne))
theorem dG.mono(N:dG F J sc loc U h Θ)(p:U<+:aO)(i:aZ h Z)(s:∀q∈Θ,q∈jP):dG F J sc loc aO Z jP:=N.map (λz9 z9 q=>q.mono p i) (λz9=>s _) λz9 z9=>s _
def cZ(F:Fix)(g:Array GenState)(u:Drawn)(B:OsState)(Θ:List bA)(U:List Addr)(h:Heap)(P:Res->Prop)(k:Kv)(Q:Po):Prop:=∀v a aO Z t' x,U<+:aO->aZ h Z->Lu F aO a Θ Z->RV F aO Z v x->P (k v a)->Q x ⟨Z,g,u,t',B⟩
variable{g:Array GenState}{u:Drawn}{B:OsState}{P:Res->Prop}
theorem cZ.mono{k:Kv}{Q:Po}(K:cZ F g u B Θ U h P k Q)(p:U<+:aO)(i:aZ h Z):cZ F g u B Θ aO Z P k Q:=λv a c6 bB t' x p' b=>K v a c6 bB t' x (p.trans p') (i.trans b)
variable{t:Nat}{A:Around}{E:Po}{pos:Pos}
section
variable{k:Kv}{Q:Po}
theorem As{x:Str}(O:cA F)(R:Lu F U H Θ h)(N:dG F J sc loc U h Θ)(K:cZ F g u B Θ U h P k Q)(cf:CF)(stuck:cS P)(a:P (ev cf (n+1) sc (.Name x pos) loc H k)):wpAny F.mo A (eval (.Name x pos) J) Q E ⟨h,g,u,t,B⟩:=by
 replace a:P (oR (sc.lookup x) (Fq x loc H k)):=a
 cases i:sc.lookup x with
 |none=>rw[i]at a;exact(stuck a).elim
 |some e=>
  rw[i]at a;have hk:J.kindOf x=some e:=by unfold Env.kindOf;rwa[N.names];exact i
  have o:∀v,e≠.globalImplicit->e≠.globalExplicit->aU x loc=some v->P (k v H)->wpAny F.mo A (eval (.Name x pos) J) Q E ⟨h,g,u,t,B⟩:=by
   intro v g1 p f j;refine gB (N.loc x v f) λnd r q=>?_;have d:(x==("__debug__":Str))=false:=by simpa using nd
   rw[i]at q;clear a;induction e using PySem.NameKind.casesOn with
   |«local»=>refine b_ q ?_;clear q;intro m val q1 q2 q3;exact wpAny_Name (wpAny_loadName_local N.kind hk (R.dS _ q1).1 q2 (K v H U h t val aQ (aZ.refl _) R q3 j)) d
   |cell=>refine b_ q ?_;clear q;intro c val q1 q2 q3;exact wpAny_Name (wpAny_loadName_cell N.kind hk q1 (R.dS _ q2).1 (K v H U h t val aQ (aZ.refl _) R q3 j)) d
   |free=>refine b_ q ?_;clear q;intro c val q1 q2 q3;exact wpAny_Name (wpAny_loadName_free N.kind hk q1 (R.dS _ q2).1 (K v H U h t val aQ (aZ.refl _) R q3 j) (by simpa using r)) d
   |globalImplicit=>exact(g1 rfl).elim
   |globalExplicit=>exact(p rfl).elim
  induction e using PySem.NameKind.casesOn with
  |globalImplicit=>
   replace a:P (oR (DP x) λv=>k v H):=a
   cases l:DP x with
   |none=>rw[l]at a;exact(stuck a).elim
   |some v=>
    rw[l]at a;refine oA (O.DP x v l) λnd q=>?_;have d:(x==("__debug__":Str))=false:=by simpa using nd
    have I:aZ F.base h:=aZ.of_keeps R.stays;rcases q with⟨val,q1,q2⟩|⟨s,val,q1,q2⟩;·exact Name_function_global N.kind hk (loadGlobal_global (by rwa[N.glob];exact O.g.keeps R.stays) q1 (K v H U h t val aQ (aZ.refl _) R (q2.mono (List.nil_prefix) I) a)) d
    ·exact Name_function_global N.kind hk (loadGlobal_builtin (by rwa[N.glob];exact O.g.keeps R.stays) s (by rwa[N.blt];exact O.b.keeps R.stays) q1 (K v H U h t val aQ (aZ.refl _) R (q2.mono (List.nil_prefix) I) a)) d
  |globalExplicit=>exact(stuck a).elim
  |«local»|cell|free=>
   replace a:P (oR (aU x loc) λv=>k v H):=a
   cases f:aU x loc with
   |none=>rw[f]at a;exact(stuck a).elim
   |some v=>rw[f]at a;exact o v (by simp) (by simp) f a
end
variable{t' j:Nat}{i:Int}{l:List V}{C:Prop}{S:Type}{e value slice:Expr}{G:Value->Prop}{s:Shared}{y vb:Value}{op:Operator}{r:Bool}{tk:Tok}
section
variable{k:Kv}{Q:Po}
theorem cZ.here(K:cZ F g u B Θ U h P k Q)(R:Lu F U H Θ h)(r:RV F U h v x)(a:P (k v H)):Q x ⟨h,g,u,t',B⟩:=K v H U h t' x aQ (aZ.refl _) R r a
theorem cZ.int(K:cZ F g u B Θ U h P k Q)(R:Lu F U H Θ h){a:Nat}(b:P (k (.int i) H)):Q (.int i a) ⟨h,g,u,t',B⟩:=K.here R (.int i a) b
theorem cZ.bool(K:cZ F g u B Θ U h P k Q)(R:Lu F U H Θ h){b:Bool}(a:P (k (.bool b) H)):Q (.bool b) ⟨h,g,u,t',B⟩:=K.here R (.bool b) a
theorem Lu.list(R:Lu F U H Θ h)(e:H[n]?=some (.list l)):∃a items,U[n]?=some a/\h.PlainList a items/\b9 F U h l items.toList:=by obtain⟨_,_,⟨own,_,_,c⟩,_,_⟩:=R;refine cY (c n _ e) λa e1 _ b=>?_;refine aW b ?_;clear b;intro items q1 q2;exact⟨a,items,e1,q1,q2⟩
theorem Lu.dict{l:List (V×V)}(R:Lu F U H Θ h)(e:H[n]?=some (.dict l)):∃a,U[n]?=some a/\(uH F U h a l\/xA F U h a l)/\F.base.get? a=none:=by obtain⟨_,_,⟨own,o1,_,b⟩,_,_⟩:=R;refine cY (b n _ e) λa e1 c q=>?_;exact⟨a,e1,q,(o1 a (by rwa[c];simp)).1⟩
inductive Eg(F:Fix)(U:List Addr)(h:Heap)(n:Nat)(c:Str)(as:List (Str×V)):Prop
 |mk a C d o m:U[n]?=some a->E5 F c C->h.get? a=some o->o.cls=.ref C->o.dict=some d->o.data=.plain->sC h d m as.length->lN F U h as m->Eg F U h n c as
theorem Lu.inst(R:Lu F U H Θ h)(e:H[n]?=some (.inst c as)):Eg F U h n c as:=by obtain⟨_,_,⟨own,_,_,b⟩,_,_⟩:=R;obtain⟨a,e1,_,⟨C,d,o,m,q1,q2,q3,q4,f,g,i,j⟩⟩:=b n _ e;exact⟨a,C,d,o,m,e1,q1,q2,q3,q4,f,g,i⟩
theorem NV(r:RV F U h (.ref n) x):∃a,x=.ref a/\U[n]?=some a:=by cases r with|ref e=>exact⟨_,rfl,e⟩
theorem V6(r:RV F U h .none x):x=.none:=by cases r;rfl
theorem CV{s:Str}(r:RV F U h (.fn s) x):F.mg s=some x/\p_ s=true:=by cases r with|fn a b=>exact⟨a,b⟩
theorem r9{s:Str}(r:RV F U h (.cls s) x):F.mg s=some x/\oU s=true:=by cases r with|cls a b=>exact⟨a,b⟩
theorem ZX{s:String}(r:RV F U h (.typ s) x):x=.type s:=by cases r;rfl
theorem Bo{s:String}(r:RV F U h (.bi s) x):x=.builtin s:=by cases r;rfl
theorem cV{c:Prop} [Decidable c]{x y:Res}(h:P (if c then x else y))(a:c->P x->C)(b:¬c->P y->C):C:=by
 by_cases q:c;·rw[aI q]at h;exact a q h
 ·rw[aH q]at h;exact b q h
theorem bU{c:Prop} [Decidable c]{x:Res}(stuck:cS P)(h:P (if c then x else .stuck))(a:c->P x->C):C:=cV h a λz9 h=>(stuck h).elim
theorem XS{x:Res}(stuck:cS P)(h:P (TF v x))(q:v=.none->P x->C):C:=by
 induction v using V.casesOn with
 |none=>exact q rfl h
 |_=>exact(stuck h).elim
theorem eC{o:Option X}{f:X->Res}(stuck:cS P)(h:P (oR o f))(a:∀v,o=some v->P (f v)->C):C:=by
 induction o using Option.casesOn with
 |none=>exact(stuck h).elim
 |some v=>exact a v rfl h
theorem dM{c:Prop} [Decidable c]{x:Option X}{v:X}(h:(if c then x else none)=some v)(a:c->x=some v->C):C:=by
 by_cases q:c;·rw[aI q]at h;exact a q h
 ·rw[aH q]at h;exact dW h
theorem f9{c:Prop} [Decidable c]{x y:Option X}{v:X}(h:(if c then x else y)=some v)(a:c->x=some v->C)(b:¬c->y=some v->C):C:=by
 by_cases q:c;·rw[aI q]at h;exact a q h
 ·rw[aH q]at h;exact b q h
theorem aS{v:X}(h:(none:Option X)=some v):False:=by exact dW h
section
variable{p:S->Prop}{d:S}
theorem X8{N:Expr->S->Prop}{f:Expr->List Expr->List Keyword->S}(o:∀e,N e d)(q:∀x0 x1 x2 x3,N (.Call x0 x1 x2 x3) (f x0 x1 x2))(e:Expr):N e (J3 e d f):=by
 induction e using PySem.Expr.casesOn with
 |Call x0 x1 x2 x3=>exact q x0 x1 x2 x3
 |_=>exact o _
theorem WX{f:Expr->List Expr->List Keyword->S}(bad:p d->False)(h:p (J3 e d f))(q:∀x0 x1 x2 x3,e=.Call x0 x1 x2 x3->p (f x0 x1 x2)->C):C:=X8 (N:=λe b=>p b->(∀x0 x1 x2 x3,e=.Call x0 x1 x2 x3->p (f x0 x1 x2)->C)->C) (λz9 h z9=>(bad h).elim) (λx0 x1 x2 x3 h q=>q x0 x1 x2 x3 rfl h) e h q
theorem ZK{N:Expr->S->Prop}{f:Str->S}(o:∀e,N e d)(q:∀x0 x1,N (.Name x0 x1) (f x0))(e:Expr):N e (rJ e d f):=by
 induction e using PySem.Expr.casesOn with
 |Name x0 x1=>exact q x0 x1
 |_=>exact o _
theorem MA{f:Str->S}(bad:p d->False)(h:p (rJ e d f))(q:∀x0 x1,e=.Name x0 x1->p (f x0)->C):C:=ZK (N:=λe b=>p b->(∀x0 x1,e=.Name x0 x1->p (f x0)->C)->C) (λz9 h z9=>(bad h).elim) (λx0 x1 h q=>q x0 x1 rfl h) e h q
theorem ZI{N:Expr->S->Prop}{f:Const->S}(o:∀e,N e d)(q:∀x0 x1 x2,N (.Constant x0 x1 x2) (f x0))(e:Expr):N e (LD e d f):=by
 induction e using PySem.Expr.casesOn with
 |Constant x0 x1 x2=>exact q x0 x1 x2
 |_=>exact o _
theorem Ac{f:Const->S}(bad:p d->False)(h:p (LD e d f))(q:∀x0 x1 x2,e=.Constant x0 x1 x2->p (f x0)->C):C:=ZI (N:=λe b=>p b->(∀x0 x1 x2,e=.Constant x0 x1 x2->p (f x0)->C)->C) (λz9 h z9=>(bad h).elim) (λx0 x1 x2 h q=>q x0 x1 x2 rfl h) e h q
theorem YE{N:Expr->S->Prop}{f:Expr->Str->Pos->S}(o:∀e,N e d)(q:∀x0 x1 x2,N (.Attribute x0 x1 x2) (f x0 x1 x2))(e:Expr):N e (D1 e d f):=by
 induction e using PySem.Expr.casesOn with
 |Attribute x0 x1 x2=>exact q x0 x1 x2
 |_=>exact o _
theorem YW{f:Expr->Str->Pos->S}(bad:p d->False)(h:p (D1 e d f))(q:∀x0 x1 x2,e=.Attribute x0 x1 x2->p (f x0 x1 x2)->C):C:=YE (N:=λe b=>p b->(∀x0 x1 x2,e=.Attribute x0 x1 x2->p (f x0 x1 x2)->C)->C) (λz9 h z9=>(bad h).elim) (λx0 x1 x2 h q=>q x0 x1 x2 rfl h) e h q
theorem XT{N:Expr->S->Prop}{f:List Expr->S}(o:∀e,N e d)(q:∀x0 x1 x2,N (.Tuple x0 x1 x2) (f x0))(e:Expr):N e (FE e d f):=by
 induction e using PySem.Expr.casesOn with
 |Tuple x0 x1 x2=>exact q x0 x1 x2
 |_=>exact o _
theorem XZ{f:List Expr->S}(bad:p d->False)(h:p (FE e d f))(q:∀x0 x1 x2,e=.Tuple x0 x1 x2->p (f x0)->C):C:=XT (N:=λe b=>p b->(∀x0 x1 x2,e=.Tuple x0 x1 x2->p (f x0)->C)->C) (λz9 h z9=>(bad h).elim) (λx0 x1 x2 h q=>q x0 x1 x2 rfl h) e h q
theorem ZA{N:Stmt->S->Prop}{f:Expr->S}(o:∀s,N s d)(q:∀e r,N (.Return (some e) r) (f e))(s:Stmt):N s (JO s d f):=by
 induction s using PySem.Stmt.casesOn with
 |Return e r=>induction e using Option.casesOn with
  |none=>exact o _
  |some e=>exact q e r
 |_=>exact o _
theorem W8{s:Stmt}{f:Expr->S}(bad:p d->False)(h:p (JO s d f))(q:∀e r,s=.Return (some e) r->p (f e)->C):C:=ZA (N:=λs b=>p b->(∀e r,s=.Return (some e) r->p (f e)->C)->C) (λz9 h z9=>(bad h).elim) (λe r h q=>q e r rfl h) s h q
theorem N_{l:List X}{x:S}(bad:p d->False)(h:p (uY l d x))(q:l=[]->p x->C):C:=by
 induction l using List.casesOn with
 |nil=>exact q rfl h
 |cons _ _=>exact(bad h).elim
theorem M_{l:List X}{f:X->S}(bad:p d->False)(h:p (EP l d f))(q:∀a,l=[a]->p (f a)->C):C:=by
 induction l using List.casesOn with
 |nil=>exact(bad h).elim
 |cons a r=>exact N_ (l:=r) bad h λe h=>q a (by rwa[e];rfl) h
theorem Z0{l:List X}{f:X->X->S}(bad:p d->False)(h:p (QO l d f))(q:∀a b,l=[a,b]->p (f a b)->C):C:=by
 induction l using List.casesOn with
 |nil=>exact(bad h).elim
 |cons a r=>exact M_ (l:=r) bad h λb e h=>q a b (by rwa[e];rfl) h
theorem zO{w:Str}(h:Mr e=some w)(c:∀n p,e=.Constant (.str w) n p->C):C:=Ac (p:=λr=>r=some w) aS h λk n p e h=>by
 induction k using PySem.Const.casesOn with
 |str s=>have a:=aM h;subst a;exact c n p e
 |_=>exact(aS h).elim
end
section
variable{p:S->Prop}{d:S}{Gs:List Value->Prop}
@[elab_as_elim]theorem ri{f:Int->S}(r:RV F U h v x)(bad:p d->False)(hp:p (iD d v f))(q:∀i t,v=.int i->p (f i)->G (.int i t)):G x:=by
 induction v using V.casesOn with
 |int i=>cases r with|int _ t=>exact q i t rfl hp
 |_=>exact(bad hp).elim
@[elab_as_elim]theorem rs{f:Str->S}(r:RV F U h v x)(bad:p d->False)(hp:p (sD d v f))(q:∀i t,v=.str i->p (f i)->G (.str i t)):G x:=by
 induction v using V.casesOn with
 |str i=>cases r with|str _ t=>exact q i t rfl hp
 |_=>exact(bad hp).elim
@[elab_as_elim]theorem S_{f:Bool->S}(r:RV F U h v x)(bad:p d->False)(hp:p (bD d v f))(q:∀b,v=.bool b->p (f b)->G (.bool b)):G x:=by
 induction v using V.casesOn with
 |bool i=>cases r with|bool _=>exact q i rfl hp
 |_=>exact(bad hp).elim
@[elab_as_elim]theorem En(r:RV F U h v x)(q:qS v=true)(c:∀s t,G (.str s t)):G x:=by
 induction v using V.casesOn with
 |str i=>cases r with|str _ t=>exact c i t
 |_=>exact aV q Bool.false_ne_true
@[elab_as_elim]theorem Lj(r:RV F U h v x)(q:qI v=true)(c:∀s t,G (.int s t)):G x:=by
 induction v using V.casesOn with
 |int i=>cases r with|int _ t=>exact c i t
 |_=>exact aV q Bool.false_ne_true
@[elab_as_elim]theorem ZN(r:RV F U h v x)(q:qU v=true)(c:∀l a o items n,h.get? a=some o->o.cls=.type "tuple"->o.data=.seq items n->b9 F U h l items.toList->G (.ref a)):G x:=by
 induction v using V.casesOn with
 |tup l=>cases r with|tup e1 b d e=>exact c l _ _ _ _ e1 b d e
 |_=>exact aV q Bool.false_ne_true
theorem lA{a:Type}{o:Option X}{f:X->Option a}{r:a}(h:o.bind f=some r)(q:∀v,o=some v->f v=some r->C):C:=by
 induction o using Option.casesOn with
 |none=>cases h
 |some v=>exact q v rfl h
theorem Mn{a:Type}{o:Option X}{f:X->a}{r:a}(h:o.map f=some r)(q:∀v,o=some v->f v=r->C):C:=by
 induction o using Option.casesOn with
 |none=>cases h
 |some v=>injection h with h;exact q v rfl h
@[elab_as_elim]theorem rn{f:Nat->S}(r:RV F U h v x)(bad:p d->False)(hp:p (nD d v f))(q:∀n a,v=.ref n->U[n]?=some a->p (f n)->G (.ref a)):G x:=by
 induction v using V.casesOn with
 |ref n=>cases r with|ref e=>exact q n _ rfl e hp
 |_=>exact(bad hp).elim
@[elab_as_elim]theorem rt{f:List V->S}(r:RV F U h v x)(bad:p d->False)(hp:p (tD d v f))(q:∀l a o items n,h.get? a=some o->o.cls=.type "tuple"->o.data=.seq items n->b9 F U h l items.toList->p (f l)->G (.ref a)):G x:=by
 induction v using V.casesOn with
 |tup l=>cases r with|tup e1 b c e=>exact q l _ _ _ _ e1 b c e hp
 |_=>exact(bad hp).elim
@[elab_as_elim]theorem Fb{f:List V->S}(r:RV F U h v x)(bad:p d->False)(hp:p (fD d v f))(q:∀l a items,F.base.PlainList a items->b9 F U h l items.toList->p (f l)->G (.ref a)):G x:=by
 induction v using V.casesOn with
 |qG l=>cases r with|qG e1 b=>exact q l _ _ e1 b hp
 |_=>exact(bad hp).elim
theorem il{o:Option VO}{f:List V->S}(bad:p d->False)(hp:p (lD d o f))(q:∀l,o=some (.list l)->p (f l)->C):C:=by
 induction o using Option.casesOn with
 |none=>exact(bad hp).elim
 |some o=>induction o using VO.casesOn with
  |list l=>exact q l rfl hp
  |_=>exact(bad hp).elim
theorem Av{o:Option VO}{f:List (V×V)->S}(bad:p d->False)(hp:p (dD d o f))(q:∀l,o=some (.dict l)->p (f l)->C):C:=by
 induction o using Option.casesOn with
 |none=>exact(bad hp).elim
 |some o=>induction o using VO.casesOn with
  |dict l=>exact q l rfl hp
  |_=>exact(bad hp).elim
theorem ia{o:Option VO}{f:Str->List (Str×V)->S}(bad:p d->False)(hp:p (aD d o f))(q:∀c as,o=some (.inst c as)->p (f c as)->C):C:=by
 induction o using Option.casesOn with
 |none=>exact(bad hp).elim
 |some o=>induction o using VO.casesOn with
  |inst c as=>exact q c as rfl hp
  |_=>exact(bad hp).elim
theorem L3{f:List V->S}(R:Lu F U H Θ h)(b:U[n]?=some a)(bad:p d->False)(hp:p (lD d H[n]? f))(q:∀l items,H[n]?=some (.list l)->h.PlainList a items->b9 F U h l items.toList->p (f l)->C):C:=il bad hp λl el hp=>by refine b_ (R.list el) λi items e1 c e=>?_;rw[b]at e1;have g:=aM e1;subst g;exact q l items el c e hp
theorem YF{f:List (V×V)->S}(R:Lu F U H Θ h)(b:U[n]?=some a)(bad:p d->False)(hp:p (dD d H[n]? f))(q:∀l,H[n]?=some (.dict l)->(uH F U h a l\/xA F U h a l)->F.base.get? a=none->p (f l)->C):C:=Av bad hp λl el hp=>by refine cY (R.dict el) λi e1 c e=>?_;rw[b]at e1;have g:=aM e1;subst g;exact q l el c e hp
@[elab_as_elim]theorem EH(r:b9 F U h [] xs)(q:Gs []):Gs xs:=by cases r;exact q
@[elab_as_elim]theorem y6(r:b9 F U h (v::l) xs)(q:∀y ys,RV F U h v y->b9 F U h l ys->Gs (y::ys)):Gs xs:=by cases r with|cons a b=>exact q _ _ a b
@[elab_as_elim]theorem i1{f:V->S}(r:b9 F U h l xs)(bad:p d->False)(hp:p (Mv d l f))(q:∀v x,l=[v]->RV F U h v x->p (f v)->Gs [x]):Gs xs:=by
 induction l using List.casesOn with
 |nil=>exact(bad hp).elim
 |cons v l=>induction l using List.casesOn with
  |cons w l=>exact(bad hp).elim
  |nil=>exact y6 r λy ys a r=>EH r (q v y rfl a hp)
@[elab_as_elim]theorem i2{f:V->V->S}(r:b9 F U h l xs)(bad:p d->False)(hp:p (Nk d l f))(q:∀v w x y,RV F U h v x->RV F U h w y->p (f v w)->Gs [x,y]):Gs xs:=by
 induction l using List.casesOn with
 |nil=>exact(bad hp).elim
 |cons v l=>induction l using List.casesOn with
  |nil=>exact(bad hp).elim
  |cons w l=>induction l using List.casesOn with
   |cons u l=>exact(bad hp).elim
   |nil=>exact y6 r λy ys a r=>y6 r λz c b r=>EH r (q v w y z a b hp)
@[elab_as_elim]theorem i3{f:V->V->V->S}(r:b9 F U h l xs)(bad:p d->False)(hp:p (Nf d l f))(q:∀u v w x y z,RV F U h u x->RV F U h v y->RV F U h w z->p (f u v w)->Gs [x,y,z]):Gs xs:=by
 induction l using List.casesOn with
 |nil=>exact(bad hp).elim
 |cons v l=>induction l using List.casesOn with
  |nil=>exact(bad hp).elim
  |cons w l=>induction l using List.casesOn with
   |nil=>exact(bad hp).elim
   |cons u l=>induction l using List.casesOn with
    |cons e l=>exact(bad hp).elim
    |nil=>exact y6 r λy ys a r=>y6 r λz g b r=>y6 r λu i c r=>EH r (q _ _ _ y z u a b c hp)
end
@[elab_as_elim]theorem rl{f:Nat->List V->Res}(r:RV F U h v x)(stuck:cS P)(R:Lu F U H Θ h)(b:P (lR v H f))(q:∀n a l items,U[n]?=some a->H[n]?=some (.list l)->h.PlainList a items->b9 F U h l items.toList->P (f n l)->G (.ref a)):G x:=rn (d:=Res.stuck) r stuck b λn a z9 e b=>L3 R e stuck b λl items el pl rs b=>q n a l items e el pl rs b
theorem gE:h.get? h.objs.size=none:=by
 cases q:h.get? h.objs.size with
 |none=>rfl
 |some o=>exact aV (Heap.lt_size q) (Nat.lt_irrefl _)
theorem cZ.newList(K:cZ F g u B Θ U h P k Q)(R:Lu F U H Θ h){l:List V}(r:b9 F U h l items.toList)(a:P (k (.ref H.length) (H++[.list l]))):Q (.ref h.objs.size) ⟨h.push {cls:=.type "list",data:=.seq items},g,u,t',B⟩:=by have k1:Keeps h (h.push {cls:=.type "list",data:=.seq items}):=λb o e=>dJ _ e;have q:(h.push {cls:=.type "list",data:=.seq items}).get? h.objs.size=some {cls:=.type "list",data:=.seq items}:=kA h rfl;refine K _ _ (U++[h.objs.size]) _ t' _ ⟨_,rfl⟩ (aZ.of_keeps k1) (R.z6 (vo:=.list l) k1 gE ⟨_,q⟩ λown=>⟨items,⟨0,q⟩,r.mono ⟨_,rfl⟩ (aZ.of_keeps k1)⟩) ?_ a;refine .ref ?_;rwa[jX (by rwa[R.len];exact Nat.le_refl _)];rwa[R.len];rewrite[Nat.sub_self];rfl
theorem cZ.newTuple(K:cZ F g u B Θ U h P k Q)(R:Lu F U H Θ h){l:List V}{items:Array Value}(r:b9 F U h l items.toList)(a:P (k (.tup l) H)):Q (.ref h.objs.size) ⟨h.push {cls:=.type "tuple",data:=.seq items},g,u,t',B⟩:=by have k1:Keeps h (h.push {cls:=.type "tuple",data:=.seq items}):=λb o e=>dJ _ e;exact K _ _ U _ t' _ aQ (aZ.of_keeps k1) (R.keeps k1) (.tup (kA h rfl) rfl rfl (r.mono aQ (aZ.of_keeps k1))) a
theorem qH(e:Mf i=true):-(2^61:Int)<=i/\i<=2^61:=by unfold Mf at e;simp only[dE,decide_eq_true_eq]at e;exact e
theorem QA(vs:List Value)(x:Value)(n:Nat)(e:vs=[x]):(List.foldl (λx1 x2=>x1++x2) #[] (List.replicate n vs.toArray)).toList=List.replicate n x:=by
 subst e;suffices∀(acc:Array Value),(List.foldl (λx1 x2=>x1++x2) acc (List.replicate n #[x])).toList=acc.toList++List.replicate n x by simpa using this #[]
 induction n with
 |zero=>intro acc;simp
 |succ n a=>intro acc;rwa[List.replicate_succ];rwa[List.foldl_cons];rw[a];rwa[List.replicate_succ];simp
theorem IE(h:n<=2^24):¬Builtin.List.listTooLong n=true:=λq=>Nat.not_lt.mpr h (of_decide_eq_true q)
theorem U4{x:Int}(a:-(2^63:Int)<=x)(b:x<2^63):¬(!Builtin.List.listFitsIndex x)=true:=by rwa[show Builtin.List.listFitsIndex x=true from Bool.and_eq_true_iff.mpr ⟨cC a,cC b⟩];decide
theorem ZH{l:Addr}{x:Int}{u:Tok}(a:s.heap.get? l=some {cls:=.type "list",dict:=none,data:=.seq items n,slots:=#[]})(lK:-(2^63:Int)<=x)(c:x<2^63)(b:items.size*x.toNat<=2^24)(d:Q (.ref s.heap.objs.size) {s with heap:=s.heap.push {cls:=.type "list",data:=.seq (List.foldl (λx1 x2=>x1++x2) #[] (List.replicate (if items.isEmpty=true then 0 else x.toNat) items))}}):wpAny F.mo A (binaryOp .Mult (.ref l) (.int x u)) Q E s:=wpAny_binaryOp_repeat_ref (T:="list") (U:="int") (by decide) ⟨_,a,rfl⟩ (λs'=>typeIs_int s' x u) noFill_list_mul PySem.F.fills_int_mul PySem.F.slot_int_rmul repeat_list PySem.F.slot_int_index.lookup (call_meets PySem.F.slot_int_rmul (typeIs_int s x u) PySem.F.entry_int_rmul (PySem.F.args_int_rmul_2 _ _) (int___rmul___int_list x u l items n) ⟨a,rfl,⟨_,a,rfl⟩,call_meets PySem.F.slot_list_mul ⟨_,a,rfl⟩ PySem.F.entry_list_mul (PySem.F.args_list_mul_2 _ _) (AutoListH.list___mul___list_int_3 l items n x u (U4 lK c) (Nat.not_lt.mpr (fS b (by decide))) (IE b)) ⟨a,d⟩⟩)
theorem Bn{a b:V}(stuck:cS P)(R:Lu F U H Θ h)(K:cZ F g u B Θ U h P k Q)(e:RV F U h a x)(f:RV F U h b y)(d:P (Lv .Add a b H k)):wpAny F.mo A (binaryOp .Add x y) Q E ⟨h,g,u,t,B⟩:=cV (c:=qI a=true) d (λz9 d=>ri e stuck d λi l z9 d=>ri f stuck d λj m z9 d=>add_int (K.int R d)) λz9 d=>cV (c:=qS a=true) d (λz9 d=>rs e stuck d λi l z9 d=>rs f stuck d λj m z9 d=>bU stuck d λq d=>PyProof.Rows.add_str (λt' tk=>K.here R (.str _ _) d) (by rwa[d7];lia)) λz9 d=>rl e stuck R d λp r s i1 _ _⟨v,p1⟩r1 d=>rl f stuck R d λw z C i2 _ _⟨D,p2⟩r2 d=>bU stuck d λq d=>by have n:=r1.length;have o:=r2.length;rw[Array.length_toList]at n o;exact PySem.P.add_list p1 p2 (K.newList R (by rwa[Array.toList_append];exact r1.append r2) d) (by rwa[d7];lia)
theorem Cn{a b:V}(stuck:cS P)(R:Lu F U H Θ h)(K:cZ F g u B Θ U h P k Q)(m:RV F U h a x)(o:RV F U h b y)(c:P (lR a H λz9 l=>Mv .stuck l λv=>iD .stuck b λy=>if 0<=y/\y<=1000 then k (.ref H.length) (H++[.list (List.replicate y.toNat v)])else .stuck)):wpAny F.mo A (binaryOp .Mult x y) Q E ⟨h,g,u,t,B⟩:=rl m stuck R c λs p w d _ _⟨z,p1⟩r1 c=>by
 refine i1 (Gs:=λxs=>d.toList=xs->wpAny F.mo A (binaryOp .Mult (.ref p) y) Q E ⟨h,g,u,t,B⟩) r1 stuck c (λv x z9 r c f=>ri o stuck c λj C z9 c=>bU stuck c λq c=>?_) rfl;have i:d=[x].toArray:=by refine cM f ?_;rfl
 refine ZH p1 (by lia) (by lia) (by rwa[i];simp;lia) (K.newList R ?_ c);have e:d.isEmpty=false:=by rwa[i];rfl
 rwa[e];rwa[aH Bool.false_ne_true];have fr:=λn=>QA d.toList x n f;simp only[Array.toArray_toList]at fr;rw[fr];exact b9.replicate r _
theorem IJ{a b:V}(stuck:cS P)(R:Lu F U H Θ h)(K:cZ F g u B Θ U h P k Q)(e:RV F U h a x)(f:RV F U h b y)(d:P (Lv op a b H k)):wpAny F.mo A (binaryOp op x y) Q E ⟨h,g,u,t,B⟩:=by
 induction op using PySem.Operator.casesOn with
 |Add=>exact Bn stuck R K e f d
 |Sub=>exact ri e stuck d λi l z9 d=>ri f stuck d λj m z9 d=>sub_int (K.int R d)
 |Mult=>exact cV (c:=qI a=true) d (λz9 d=>ri e stuck d λi l z9 d=>ri f stuck d λj m z9 d=>bU stuck d λq d=>by rw[dE]at q;have q1:=qH q.1;exact PyProof.Rows.mul_int (K.int R d) (IntMulOk.of_left (intBits_le_64 (by lia) (by lia)))) λz9 d=>Cn stuck R K e f d
 |FloorDiv=>exact ri e stuck d λi l z9 d=>ri f stuck d λj m z9 d=>bU stuck d λq d=>floordiv_int (by lia) (by rwa[Int.fdiv_eq_ediv_of_nonneg _ (by(first|lia|omega))];exact K.int R d) (.inl (PyProof.noPylong_small (by lia)))
 |Mod=>exact ri e stuck d λi l z9 d=>ri f stuck d λj m z9 d=>bU stuck d λq d=>PyProof.Rows.mod_int (by lia) (by rwa[Int.fmod_eq_emod_of_nonneg _ (by(first|lia|omega))];exact K.int R d)
 |Pow=>exact ri e stuck d λi l z9 d=>ri f stuck d λj m z9 d=>bU stuck d λq d=>pow_int_small q.2.2.1 (by lia) (by lia) (K.int R d)
 |_=>exact(stuck d).elim
theorem sU{f:V->Option PyData}(hf:∀v d x,f v=some d->RV F U h v x->∃as,Reads h x d as):∀{l:List V}{q:List PyData}{xs:List Value},jA f l=some q->b9 F U h l xs->∃as,ReadsAll h xs q as:=by
 intro l
 induction l with
 |nil=>intro q xs e r;have c:=aM e;subst c;exact EH r ⟨_,.nil⟩
 |cons v l g=>intro q xs e r;refine y6 r λy ys a b=>?_;refine lA e λd i e=>Mn e λq' eq e=>?_;subst e;refine oE (hf _ _ _ i a) λas r1=>?_;refine oE (g eq b) λbs r2=>?_;exact⟨_,.cons r1 r2⟩
theorem jT(R:Lu F U H Θ h):∀(n:Nat)(v:V)(d:PyData)(x:Value),Mb H n v=some d->RV F U h v x->∃as,Reads h x d as:=by
 intro n
 induction n with
 |zero=>intro v d x e;cases e
 |succ n j=>
  intro v d x e r
  cases r with
  |none=>have a:=aM e;subst a;exact⟨_,.none⟩
  |bool b=>have a:=aM e;subst a;exact⟨_,.bool _⟩
  |int i t=>have a:=aM e;subst a;exact⟨_,.int _ _⟩
  |str s t=>have a:=aM e;subst a;exact⟨_,.str _ _⟩
  |tup e1 k m o=>refine Mn (f:=PyData.tuple) e λq eq c=>?_;clear e;subst c;refine oE (sU j eq o) λas g=>?_;exact⟨_,.tuple e1 k m g⟩
  |ref u=>refine L3 (p:=(·=some d)) (d:=none) (f:=λl=>(jA (Mb H n) l).map .list) R u aS e λl items el f2 f3 e=>Mn e λq eq c=>?_;clear e;subst c;refine oE f2 ?_;clear f2;intro w f2;refine oE (sU j eq f3) λas g=>?_;exact⟨_,.list f2 rfl rfl g⟩
  |_=>cases e
theorem AH(x y:Int):(x==y)=decide (x=y):=by
 by_cases q:x=y;·subst q;simp
 ·simp[q]
theorem Ng(x y:Str):(x==y)=decide (x=y):=by
 by_cases q:x=y;·subst q;simp
 ·simp[q]
theorem p_eq{a b:V}(R:Lu F U H Θ h)(o:A.units+100<cLine)(f:RV F U h a x)(k:RV F U h b y)(e:SP H a b=some r)(q:Q (.bool r) ⟨h,g,u,t,B⟩):wpAny F.mo A (compareOp .Eq x y) Q E ⟨h,g,u,t,B⟩:=f9 (c:=(qI a&&qI b)=true) e (λz9 e=>ri (p:=(·=some r)) f aS e λi l z9 e=>ri (p:=(·=some r)) k aS e λj m z9 e=>PyProof.Rows.eq_int (by injection e with e;rw[AH];rwa[e];exact q)) λz9 e=>f9 (c:=(qS a&&qS b)=true) e (λz9 e=>rs (p:=(·=some r)) f aS e λi l z9 e=>rs (p:=(·=some r)) k aS e λj m z9 e=>PyProof.Rows.eq_str (by injection e with e;rw[Ng];rwa[e];exact q)) λz9 e=>f9 (c:=(qO a&&qO b)=true) e (λz9 e=>S_ (p:=(·=some r)) f aS e λi z9 e=>S_ (p:=(·=some r)) k aS e λj z9 e=>PyProof.Rows.eq_bool (by injection e with e;rwa[e];exact q)) λz9 e=>lA e λd e1 e=>lA e λs n e=>dM e λz e=>by rw[dE]at z;injection e with e;subst e;refine oE (jT R _ _ _ _ e1 f) λas r1=>?_;refine oE (jT R _ _ _ _ n k) λbs r2=>?_;exact PyProof.Rows.eq_dataH r1 r2 z.1 z.2 (by lia) q
theorem Gh{a b:V}(R:Lu F U H Θ h)(o:A.units+100<cLine)(f:RV F U h a x)(k:RV F U h b y)(e:SP H a b=some r)(q:Q (.bool (!r)) ⟨h,g,u,t,B⟩):wpAny F.mo A (compareOp .NotEq x y) Q E ⟨h,g,u,t,B⟩:=f9 (c:=(qI a&&qI b)=true) e (λz9 e=>ri (p:=(·=some r)) f aS e λi l z9 e=>ri (p:=(·=some r)) k aS e λj m z9 e=>PyProof.Rows.ne_int (by injection e with e;rw[bne,AH];rwa[e];exact q)) λz9 e=>f9 (c:=(qS a&&qS b)=true) e (λz9 e=>rs (p:=(·=some r)) f aS e λi l z9 e=>rs (p:=(·=some r)) k aS e λj m z9 e=>PyProof.Rows.ne_str (by injection e with e;rw[bne,Ng];rwa[e];exact q)) λz9 e=>f9 (c:=(qO a&&qO b)=true) e (λz9 e=>S_ (p:=(·=some r)) f aS e λi z9 e=>S_ (p:=(·=some r)) k aS e λj z9 e=>PyProof.Rows.ne_bool (by injection e with e;rw[bne];rwa[e];exact q)) λz9 e=>lA e λd e1 e=>lA e λs n e=>dM e λz e=>by rw[dE]at z;injection e with e;subst e;refine oE (jT R _ _ _ _ e1 f) λas r1=>?_;refine oE (jT R _ _ _ _ n k) λbs r2=>?_;exact PyProof.Rows.ne_dataH r1 r2 z.1 z.2 (by lia) q
theorem KU{s:Str}(e:uQ s l=some r)(q:b9 F U h l xs):(∀y∈xs,∃z u,y=.str z u)/\r=xs.any λy=>match y with|.str z _=>z==s|_=>false:=by
 induction l generalizing r xs with
 |nil=>have d:=aM e;subst d;exact EH q ⟨λz9 c=>aV c List.not_mem_nil,rfl⟩
 |cons v l g=>
  refine y6 q λx ys a i=>?_;clear q;cases a with
  |str y tk=>
   have e:(match uQ s l with
    |some b=>some (decide (y=s)||b)
    |none=>none)=some r:=e
   cases f:uQ s l with
   |none=>rw[f]at e;exact dW e
   |some b=>
    rw[f]at e;have d:=aM e;subst d;refine oA (g f i) λi1 i2=>?_;refine⟨λz c=>?_,?_⟩
    ·rcases bV.mp c with rfl|c;·exact⟨_,_,rfl⟩
     ·exact i1 z c
    ·rwa[List.any_cons];refine cM i2 ?_;show _=((_==_)||_);rewrite[Ng];rfl
  |_=>cases e
theorem DC{a:V}(R:Lu F U H Θ h)(e:jW H a l=some r)(b:RV F U h a x)(q:b9 F U h l xs)(f:∀s u,x=.str s u->(∀y∈xs,∃z u,y=.str z u)->(r=xs.any λy=>match y with|.str z _=>z==s|_=>false)->C)(g:∀d as ds bs,Reads h x d as->ReadsAll h xs ds bs->PySem.SeqAt.shaped d=true->PyData.canLayAll0 ds=true->(r=ds.any λy=>PyData.eqv y d)->C):C:=f9 (c:=qS a=true) e (λz9 e=>rs (G:=λy=>x=y->C) (p:=(·=some r)) b aS e (λi k z9 e ex=>by refine oA (KU e q) λq1 q2=>?_;exact f _ _ ex q1 q2) rfl) λz9 e=>lA e λd e1 e=>lA e λds j e=>dM e λz e=>by rw[dE]at z;injection e with e;refine oE (jT R _ _ _ _ e1 b) λas r1=>?_;refine oE (sU (jT R 8) j q) λbs r2=>?_;exact g d as ds bs r1 r2 z.1 z.2 e.symm
theorem uD{d:PyData}(e:PySem.SeqAt.shaped d=true):d.canLay0=true/\d.depth<=64:=by unfold PySem.SeqAt.shaped at e;rw[dE]at e;exact⟨e.1,by simpa using e.2⟩
theorem tB{a:Type} [DecidableEq κ] [DecidableEq a]{knd:KeyKind F.prog F.w κ}{b:KeyKind F.prog F.w a}{d:Addr}(q:h.DictOf knd d []):h.DictOf b d []:=by
 refine jQ q ?_;clear q;intro o es ep q1 q2 q3 q4 c;refine oA c ?_;clear c;intro f g;clear q4;cases es with
 |mk l=>cases f;exact⟨o,#[],ep,q1,q2,q3,λe he=>by simp at he,.nil,.nil⟩
@[elab_as_elim]theorem rP{x:V}{l:List (V×V)}{G:Value->Prop}(r:RV F U h x y)(q:uH F U h a l\/xA F U h a l)(e:dR x l=true)(ci:∀i tk kvs,x=.int i->h.DictOf (intKind F.prog F.w) a kvs->DR F U h V.int l kvs->G (.int i tk))(cs:∀i tk kvs,x=.str i->h.DictOf (strKind F.prog F.w) a kvs->DR F U h V.str l kvs->G (.str i tk)):G y:=by
 induction x using V.casesOn with
 |int i=>
  clear cs;cases r with
  |int _ tk=>
   rcases q with⟨kvs,q1,q2⟩|⟨kvs,q1,q2⟩;·exact ci i tk kvs rfl q1 q2
   ·cases q2 with
    |nil=>exact ci i tk [] rfl (tB q1) .nil
    |cons _ _=>cases e
 |str i=>
  clear ci;cases r with
  |str _ tk=>
   rcases q with⟨kvs,q1,q2⟩|⟨kvs,q1,q2⟩
   ·cases q2 with
    |nil=>exact cs i tk [] rfl (tB q1) .nil
    |cons _ _=>cases e
   ·exact cs i tk kvs rfl q1 q2
 |_=>cases e
theorem SK{a b:V}{nt:Bool}(O:cA F)(R:Lu F U H Θ h)(Y:A.units+100<cLine)(C:RV F U h a x)(P:RV F U h b y)(e:ZP H a b=some r)(q:∀t,Q (.bool (nt^^r)) ⟨h,g,u,t,B⟩):wpAny F.mo A (compareOp (if nt then .NotIn else .In) x y) Q E ⟨h,g,u,t,B⟩:=by
 have w:∀t b,r=b->Q (.bool (nt^^b)) ⟨h,g,u,t,B⟩:=λt b e=>e▸q t;refine f9 (c:=qU b=true) e (λz9 e=>rt (p:=(·=some r)) P aS e λl ad o items n e1 J K W e=>?_) λz9 e=>rn (p:=(·=some r)) P aS e λn ad z9 S e=>f9 (c:=qL H[n]?=true) e (λz9 e=>L3 (p:=(·=some r)) R S aS e λl items el⟨T,f2⟩f3 e=>?_) λz9 e=>YF (p:=(·=some r)) R S aS e λl el f2 f3 e=>dM e λhk e=>?_
 ·refine DC R e C W (λs I ex q1 m=>?_) λd as ds bs r1 r2 q3 q4 m=>?_
  ·clear C q;subst ex;have f:=w t _ (m.trans Array.any_toList);have j:∀y∈items,SeqAt.EqAt A.in1 ⟨h,g,u,t,B⟩ y (.str s I) (match y with|.str z _=>z==s|_=>false):=λy D=>by refine wU (q1 y (Array.mem_toList_iff.mpr D)) λz v cB=>?_;clear D;subst cB;exact SeqAt.EqAt.str_str z v s I
   clear w;induction nt using Bool.casesOn with
   |false=>exact SeqAt.in_tupleAt _ ⟨o,e1,J,n,K⟩ j (by rw[Bool.false_xor]at f;exact f)
   |true=>exact SeqAt.notIn_tupleAt _ ⟨o,e1,J,n,K⟩ j (by rw[Bool.true_xor]at f;exact f)
  ·have z:=uD q3;have hm:A.units+(min (PyData.depthAll ds) d.depth+1)<cLine:=by have:=Nat.min_le_right (PyData.depthAll ds) d.depth;omega
   have f:=w t _ m;clear q w;induction nt using Bool.casesOn with
   |false=>exact SeqAt.in_tuple_reads (.tuple e1 J K r2) r1 q4 z.1 (by omega) (by rw[Bool.false_xor]at f;exact f)
   |true=>exact SeqAt.notIn_tuple_reads (.tuple e1 J K r2) r1 q4 z.1 (by omega) (by rw[Bool.true_xor]at f;exact f)
 ·refine DC R e C f3 (λs I ex q1 m=>?_) λd as ds bs r1 r2 q3 q4 m=>?_
  ·clear C q;subst ex;have f:=w t _ (m.trans Array.any_toList);have j:∀y∈items,SeqAt.EqAt A.in1 ⟨h,g,u,t,B⟩ y (.str s I) (match y with|.str z _=>z==s|_=>false):=λy D=>by refine wU (q1 y (Array.mem_toList_iff.mpr D)) λz v aG=>?_;clear D;subst aG;exact SeqAt.EqAt.str_str z v s I
   clear w;induction nt using Bool.casesOn with
   |false=>exact SeqAt.in_listAt _ ⟨_,f2,rfl,T,rfl⟩ j (by rw[Bool.false_xor]at f;exact f)
   |true=>exact SeqAt.notIn_listAt _ ⟨_,f2,rfl,T,rfl⟩ j (by rw[Bool.true_xor]at f;exact f)
  ·have z:=uD q3;have f:=w t _ m;have hm:A.units+(min (PyData.depthAll ds) d.depth+1)<cLine:=by have:=Nat.min_le_right (PyData.depthAll ds) d.depth;omega
   clear q w;induction nt using Bool.casesOn with
   |false=>exact SeqAt.in_list_reads (.list f2 rfl rfl r2) r1 q4 z.1 (by omega) (by rw[Bool.false_xor]at f;exact f)
   |true=>exact SeqAt.notIn_list_reads (.list f2 rfl rfl r2) r1 q4 z.1 (by omega) (by rw[Bool.true_xor]at f;exact f)
 ·clear w;injection e with e;have L:(ad==sysModules)=false:=by have:ad≠sysModules:=λz=>O.RS (z▸f3);simpa using this
  refine rP C f2 hk (λi tk kvs ex G M=>?_) λi tk kvs ex G M=>?_
  ·clear C hk;subst ex;have z:=DR.get kJ (k:=i) M
   have m:(valueAt kvs i).isSome=r:=by
    cases y:d8 (.int i) l with
    |none=>rw[y]at z e;dsimp only at z;rwa[z];exact e
    |some v=>rw[y]at z e;refine aW z ?_;clear z;intro v' N X;rwa[N];exact e
   induction nt using Bool.casesOn with
   |false=>exact wpAny_in_of (intKind_is _ _ i tk) L G.mapOf (by rwa[m];simpa using q _)
   |true=>exact wpAny_notIn_of (intKind_is _ _ i tk) L G.mapOf (by rwa[m];simpa using q _)
  ·clear C hk;subst ex;have z:=DR.get mF (k:=i) M
   have m:(valueAt kvs i).isSome=r:=by
    cases y:d8 (.str i) l with
    |none=>rw[y]at z e;dsimp only at z;rwa[z];exact e
    |some v=>rw[y]at z e;refine aW z ?_;clear z;intro v' N X;rwa[N];exact e
   induction nt using Bool.casesOn with
   |false=>exact wpAny_in_of (strKind_is _ _ i tk) L G.mapOf (by rwa[m];simpa using q _)
   |true=>exact wpAny_notIn_of (strKind_is _ _ i tk) L G.mapOf (by rwa[m];simpa using q _)
theorem noneB_eq{a:V}(b:RV F U h a x)(e:JP a=some r):(x==Value.none)=r:=by cases b<;>first|(injection e)|cases e
theorem oY{op:CmpOp}{a b:V}(O:cA F)(R:Lu F U H Θ h)(n:A.units+100<cLine)(k:RV F U h a x)(l:RV F U h b y)(e:i5 op a b H=some r)(q:∀t,Q (.bool r) ⟨h,g,u,t,B⟩):wpAny F.mo A (compareOp op x y) Q E ⟨h,g,u,t,B⟩:=by
 have m:∀{f:Int->Int->Bool}{G:Value->Value->Prop},yS a b f=some r->(∀i d j v,f i j=r->G (.int i d) (.int j v))->G x y:=λ{f G}e c=>ri (p:=(·=some r)) (G:=λz=>G z y) k aS e λi d z9 e=>ri (p:=(·=some r)) (G:=λz=>G (.int i d) z) l aS e λj v z9 e=>c i d j v (by injection e)
 induction op using PySem.CmpOp.casesOn with
 |Eq=>exact p_eq R n k l e (q _)
 |NotEq=>exact Mn e λs z e=>by clear m;subst e;exact Gh R n k l z (q _)
 |Lt=>exact m (G:=λx y=>wpAny F.mo A (compareOp .Lt x y) Q E ⟨h,g,u,t,B⟩) e λi d j v e=>lt_int (by rwa[e];exact q _)
 |LtE=>exact m (G:=λx y=>wpAny F.mo A (compareOp .LtE x y) Q E ⟨h,g,u,t,B⟩) e λi d j v e=>le_int (by rwa[e];exact q _)
 |Gt=>exact m (G:=λx y=>wpAny F.mo A (compareOp .Gt x y) Q E ⟨h,g,u,t,B⟩) e λi d j v e=>gt_int (by rwa[e];exact q _)
 |GtE=>exact m (G:=λx y=>wpAny F.mo A (compareOp .GtE x y) Q E ⟨h,g,u,t,B⟩) e λi d j v e=>ge_int (by rwa[e];exact q _)
 |Is=>
  refine dM e λhb e=>?_;clear m;induction b using V.casesOn with
  |none=>cases l;exact is_none_gen (by rwa[noneB_eq k e];exact q _)
  |_=>cases hb
 |IsNot=>
  refine dM e λhb e=>Mn e λs e1 o=>?_;clear m;induction b using V.casesOn with
  |none=>cases l;exact isnot_none_gen (by rwa[noneB_eq k e1];rwa[o];exact q _)
  |_=>cases hb
 |In=>exact SK (nt:=false) O R n k l e λt=>by simpa using q t
 |NotIn=>exact Mn e λs e1 o=>SK (nt:=true) O R n k l e1 λt=>by rw[<-o]at q;simpa using q t
theorem subs_eq(slice:Expr)(o i:Value):∃ops,subscripted slice false o i=operate ops (PySem.getItem o i):=by
 refine(?_:∀N:Sem Value->Prop,(∀ops,N (operate ops (PySem.getItem o i)))->N (subscripted slice false o i)) (λm=>∃ops,m=operate ops (PySem.getItem o i)) λops=>⟨ops,rfl⟩;intro N h
 induction slice using Expr.casesOn with
 |Slice a b c q=>induction c using Option.casesOn<;>exact h _
 |_=>exact h _
theorem mK{o i:Value}{T id:String}(a:s.TypeIs o T)(b:typeLookup (.type T) "__getitem__"=pure (some (.builtin id)))(c:wpAny F.mo A (PySem.getItem o i) Q E s):wpAny F.mo A (subscriptTail value slice o i) Q E s:=let⟨_,e⟩:=subs_eq slice o i;tail_any a b c e
structure Ce(F:Fix)(U:List Addr)(h:Heap)(items:Array Value)(i:Int)(v:V)(j:Nat)(x:Value):Prop where
 ix:seqIndex? i items.size=some j
 at_:items[j]?=some x
 rv:RV F U h v x
 lo:-(2^63)<=i
 hi:i<2^63
 way:(0<=i/\j=i.toNat)\/(i<0/\-(items.size:Int)<=i/\j=(i+items.size).toNat)
theorem BK(r:b9 F U h l items.toList)(e:eT l i=some v)(q:∀j x,Ce F U h items i v j x->C):C:=by
 have z:=r.length;rw[Array.length_toList]at z;refine f9 (c:=0<=i) e (λq1 e=>dM e λq2 e=>?_) λq1 e=>dM e λq2 e=>?_;·refine aW (r.get e) λx a b=>?_;have lt:=(dN.mp e).1;exact q i.toNat x ⟨seqIndex_of q1 (by lia),by refine cM Array.getElem?_toList ?_;exact a,b,by lia,by lia,.inl ⟨q1,rfl⟩⟩
 ·refine aW (r.get e) λx a b=>?_;exact q _ x ⟨PySem.seqIndex_neg (by lia) (by lia),by refine cM Array.getElem?_toList ?_;rwa[z];exact a,b,by lia,by lia,.inr ⟨by lia,by lia,rfl⟩⟩
theorem E2{ad:Addr}(R:Lu F U H Θ h)(K:cZ F g u B Θ U h P k Q)(pl:h.PlainList ad items)(r:b9 F U h l items.toList)(e:eT l i=some v)(b:P (k v H)):wpAny F.mo A (subscriptTail value slice (.ref ad) (.int i tk)) Q E ⟨h,g,u,t,B⟩:=by
 refine oE pl ?_;clear pl;intro d f2;refine BK r e λj w p=>?_;have c:h.IsList ad items:=⟨_,f2,rfl,d,rfl⟩;refine mK (T:="list") ⟨_,f2,rfl⟩ PySem.F.slot_list_getitem.lookup ?_;rcases p.way with⟨a,e1⟩|⟨a,f,e1⟩;·exact wpAny_getItem_list c a p.hi (by refine cM e1 ?_;exact p.at_) (K.here R p.rv b)
 ·exact wpAny_getItem_list_neg c a f p.lo (by refine cM e1 ?_;exact p.at_) (K.here R p.rv b)
theorem Ch{b:V}(r:RV F U h b x)(q:qB b=true):F.mg "BITS"=some x:=by
 induction b using V.casesOn with
 |bits=>cases r with|bits e=>exact e
 |_=>exact aV q Bool.false_ne_true
theorem RT{s:Str}(O:cA F)(R:Lu F U H Θ h)(K:cZ F g u B Θ U h P k Q)(a:F.mg "BITS"=some x)(z:nS.lookup s=some i)(c:P (k (.int i) H)):wpAny F.mo A (subscriptTail value slice x (.str s tk)) Q E ⟨h,g,u,t,B⟩:=by refine b_ (O.bits) λad kvs d b e=>?_;rw[d]at a;have f:=aM a;subst f;refine oE (e s i z) λl j=>?_;have D:=u7 b (Z:=h) (let⟨o,_,_,ho,_⟩:=b;(R.stays _ _ ho).trans ho.symm);exact mK D.mapOf.typeIs PySem.F.slot_dict_getitem.lookup (wpAny_getItem_of (strKind_is _ _ s tk) D.mapOf j (K.here R (.int _ _) c))
theorem NX{a b:V}(O:cA F)(R:Lu F U H Θ h)(K:cZ F g u B Θ U h P k Q)(m:RV F U h a x)(f:RV F U h b y)(e:Mz a b H=some v)(d:P (k v H)):wpAny F.mo A (subscriptTail value slice x y) Q E ⟨h,g,u,t,B⟩:=by
 refine f9 (c:=qU a=true) e (λz9 e=>?_) λz9 e=>f9 (c:=qS a=true) e (λz9 e=>?_) λz9 e=>f9 (c:=qB a=true) e (λc e=>?_) λz9 e=>f9 (c:=qF a=true) e (λz9 e=>?_) λz9 e=>?_;·exact rt (p:=(·=some v)) m aS e λl ad o items n e1 C I J e=>ri (p:=(·=some v)) f aS e λi tk z9 e=>BK J e λj w p=>mK ⟨o,e1,C⟩ PySem.F.slot_tuple_getitem.lookup (PyProof.Rows.getItem_tuple ⟨o,e1,C,n,I⟩ p.lo p.hi p.ix p.at_ (K.here R p.rv d))
 ·exact rs (p:=(·=some v)) m aS e λs tk z9 e=>ri (p:=(·=some v)) f aS e λi L z9 e=>dM e λq e=>Mn e λc z e=>by
   subst e;have lt:=(Array.getElem?_eq_some_iff.mp z).1;refine mK (typeIs_str _ _ _) PySem.F.slot_str_getitem.lookup (PyProof.Rows.getItem_str (c:=c) ?_ ?_ (K.here R (.str _ _) d));·simp only[Bool.or_eq_false_iff,decide_eq_false_iff_not];lia
   ·rwa[seqIndex_of q.1 (by show i<((s.cps.size:Nat):Int);lia)];exact z
 ·refine rs (p:=(·=some v)) f aS e λs tk z9 e=>Mn e λi z e=>?_;subst e;exact RT O R K (Ch m c) z d
 ·exact Fb (p:=(·=some v)) m aS e λl ad items e1 C e=>ri (p:=(·=some v)) f aS e λi tk z9 e=>E2 R K (let⟨M,f2⟩:=e1;⟨M,R.stays _ _ f2⟩) C e d
 ·refine rn (p:=(·=some v)) m aS e λn ad z9 G e=>f9 (c:=qL H[n]?=true) e (λz9 e=>L3 (p:=(·=some v)) R G aS e λl items el pl f3 e=>ri (p:=(·=some v)) f aS e λi tk z9 e=>E2 R K pl f3 e d) λz9 e=>YF (p:=(·=some v)) R G aS e λl el f2 f3 e=>dM e λhk e=>rP f f2 hk (λi tk kvs ex r D=>?_) λi tk kvs ex r D=>?_;·have z:=DR.get kJ (k:=i) D;rw[<-ex,e]at z;exact z.elim λw z=>mK r.mapOf.typeIs PySem.F.slot_dict_getitem.lookup (wpAny_getItem_of (intKind_is _ _ i tk) r.mapOf z.1 (K.here R z.2 d))
  ·have z:=DR.get mF (k:=i) D;rw[<-ex,e]at z;exact z.elim λw z=>mK r.mapOf.typeIs PySem.F.slot_dict_getitem.lookup (wpAny_getItem_of (strKind_is _ _ i tk) r.mapOf z.1 (K.here R z.2 d))
theorem KI{b:V}(r:RV F U h b vb)(q:qN b=true):vb=.none:=by
 induction b using V.casesOn with
 |none=>cases r;rfl
 |_=>exact aV q Bool.false_ne_true
structure Nj(l:List V)(items:Array Value)(p:Nat×Nat)(va vb:Value)(lo hi:Option Int):Prop where
 Eh:IsPart va lo
 Fe:IsPart vb hi
 pick:slicePick items lo hi none=((items.toList.drop p.1).take (p.2-p.1)).toArray
 le:p.1<=p.2
 len:p.2<=l.length
 Lb:sliceBounds lo hi none items.size=((p.1:Int),(p.2:Int),1)
theorem clip_eq{a:Int}{i:Nat}(h:a=(i:Int))(hi:i<=n):(if(1:Int)>0 then max 0 (min (if a<0 then a+n else a) n)else max (-1) (min (if a<0 then a+n else a) ((n:Int)-1)))=(i:Int):=by subst h;rwa[aI (by decide)];rwa[aH (Int.not_lt.mpr (Int.natCast_nonneg i))];rwa[Int.min_eq_left (Int.ofNat_le.mpr hi)];exact Int.max_eq_right (Int.natCast_nonneg i)
theorem bnd_eq{i:Nat}{lo hi:Option Int}(c:lo.getD 0=(i:Int))(d:hi.getD (n:Int)=(j:Int))(b:i<=n)(e:j<=n):sliceBounds lo hi none n=((i:Int),(j:Int),1):=by
 refine Prod.ext ?_ (Prod.ext ?_ rfl)
 ·induction lo using Option.casesOn with
  |none=>exact c
  |some a=>exact clip_eq c b
 ·induction hi using Option.casesOn with
  |none=>exact d
  |some a=>exact clip_eq d e
theorem PK{a b:V}{p:Nat×Nat}{va:Value}(r:b9 F U h l items.toList)(d:RV F U h a va)(f:RV F U h b vb)(e:cut l a b=some p)(q:∀lo hi,Nj l items p va vb lo hi->C):C:=by
 have z:=r.length;rw[Array.length_toList]at z;refine f9 (c:=qN b=true) e (λhb e=>?_) λz9 e=>f9 (c:=qN a=true) e (λhb e=>?_) λz9 e=>?_;·refine ri (p:=(·=some p)) (G:=λva=>(∀lo hi,Nj l items p va vb lo hi->C)->C) d aS e (λi tk z9 e=>dM e λq1 e q=>?_) q;refine oE (Int.eq_ofNat_of_zero_le q1.1) λi g=>?_;clear z9;subst g;injection e with e;subst e;refine q _ none ⟨.int _ _,(KI f hb▸IsPart.none:IsPart vb none),?_,by rw[fT];lia,Nat.le_refl _,bnd_eq rfl (by rwa[z];rfl) (by rw[fT];lia) (by lia)⟩;rw[fT];refine cM z ?_;rwa[List.take_of_length_le (by simp)];exact slicePick_from items i (by lia)
 ·refine ri (p:=(·=some p)) (G:=λvb=>(∀lo hi,Nj l items p va vb lo hi->C)->C) f aS e (λi tk z9 e=>dM e λq1 e q=>?_) q;refine oE (Int.eq_ofNat_of_zero_le q1.1) λi k=>?_;clear z9;subst k;injection e with e;subst e;refine q none _ ⟨(KI d hb▸IsPart.none:IsPart va none),.int _ _,?_,Nat.zero_le _,by rw[fT];lia,bnd_eq rfl rfl (Nat.zero_le _) (by rw[fT];lia)⟩;rw[fT];rwa[List.drop_zero];rw[Nat.sub_zero];exact slicePick_upto items i (by lia)
 ·refine ri (p:=(·=some p)) (G:=λva=>(∀lo hi,Nj l items p va vb lo hi->C)->C) d aS e (λi tk z9 e=>ri (p:=(·=some p)) (G:=λvb=>(∀lo hi,Nj l items p (.int i tk) vb lo hi->C)->C) f aS e λj m z9 e=>dM e λq1 e q=>?_) q;refine oE (Int.eq_ofNat_of_zero_le q1.1) λi cB=>?_;clear z9;subst cB;refine oE (Int.eq_ofNat_of_zero_le (Int.le_trans q1.1 q1.2.1)) λj aG=>?_;subst aG;injection e with e;subst e;refine q _ _ ⟨.int _ _,.int _ _,?_,by rw[fT,fT];lia,by rw[fT];lia,bnd_eq rfl rfl (by rw[fT];lia) (by rw[fT];lia)⟩;rw[fT,fT];exact slicePick_run items i j (by lia) (by lia)
theorem JT{o a b:V}{va:Value}(stuck:cS P)(R:Lu F U H Θ h)(K:cZ F g u B Θ U h P k Q)(v:RV F U h o x)(w:RV F U h a va)(C:RV F U h b vb)(d:P (dU o a b H k)):wpAny F.mo A (subscriptTail value slice x (.ref h.objs.size)) Q E ⟨h.push {cls:=.type "slice",data:=.fields #[va,vb,.none]},g,u,t,B⟩:=by
 have k1:Keeps h (h.push {cls:=.type "slice",data:=.fields #[va,vb,.none]}):=λb o e=>dJ _ e;have r:=R.keeps k1;have s:=K.mono aQ (aZ.of_keeps k1);have S:=Heap.IsSliceOf.new h va vb .none;generalize h.push {cls:=.type "slice",data:=.fields #[va,vb,.none]}=Z at k1 r s S⊢;refine cV (c:=qU o=true) d (λz9 d=>?_) λz9 d=>?_;·refine rt v stuck d λl ad o items n e1 D J I d=>?_;refine ri (G:=λy=>va=y->wpAny F.mo A (subscriptTail value slice (.ref ad) (.ref h.objs.size)) Q E ⟨Z,g,u,t,B⟩) w stuck d (λi tk z9 d=>bU stuck d λq d ev=>?_) rfl;refine oE (Int.eq_ofNat_of_zero_le (Int.le_trans (by decide) q.2.1)) λj L=>?_;have hb:=KI C q.1;have z:=I.length;rw[Array.length_toList]at z;have q3:=q.2.2;clear z9 q3;subst L;rw[ev,hb]at S;have f:=k1 _ _ e1;refine mK ⟨o,f,D⟩ PySem.F.slot_tuple_getitem.lookup (PyProof.Rows.getItem_tuple_from ⟨o,f,D,n,J⟩ S (by lia) (by lia) (s.newTuple r ?_ d) (by rwa[d7];lia));exact(I.drop j).mono aQ (aZ.of_keeps k1)
 ·refine rl v stuck R d λn ad l items N el⟨M,f2⟩f3 d=>eC stuck d λp ep d=>bU stuck d λq d=>PK f3 w C ep λlo hi c=>?_;have z:=f3.length;rw[Array.length_toList]at z;have m:=k1 _ _ f2;refine mK (T:="list") ⟨_,m,rfl⟩ PySem.F.slot_list_getitem.lookup (wpAny_getItem_list_slice ⟨_,m,rfl,M,rfl⟩ S c.Eh c.Fe .none (by simp) (s.newList r (l:=Mt l p) ?_ d) (by rwa[d7];lia));rwa[c.pick];exact((f3.drop p.1).take (p.2-p.1)).mono aQ (aZ.of_keeps k1)
end
theorem nZ{l:Addr}(a:h.PlainList l items)(f:Array Value->Array Value):(h.update l (Obj.mapSeq f)).PlainList l (f items):=by
 refine oE a ?_;clear a;intro n ho;have e:∃n',Obj.mapSeq f {cls:=.type "list",dict:=none,data:=.seq items n,slots:=#[]}={cls:=.type "list",dict:=none,data:=.seq (f items) n',slots:=#[]}:=by unfold Obj.mapSeq;exact⟨_,rfl⟩
 refine oE e ?_;clear e;intro n' e;refine⟨n',?_⟩;rwa[Heap.get?_update_self _ ho (by rwa[e];rfl)];rwa[e];rfl
variable{Q:Unit->Shared->Prop}{q:Nat}
section
theorem BU{l:Addr}{k:Int}{t:Tok}{v:Value}(d:s.heap.PlainList l items)(h0:0<=k)(b:k<2^63)(i:k<items.size)(f:∀Z,Z.PlainList l (items.setIfInBounds k.toNat v)->Heap.SameBut l s.heap Z->Q () {s with heap:=Z}):wpAny F.mo A (PySem.setItem (.ref l) (.int k t) v) Q E s:=by
 have a:=d.isList;refine cY (id a) λo ho m c=>?_;refine oE c ?_;clear c;intro ne g;unfold PySem.setItem;try with_reducible refine cH ?_
 first|refine aF (a_ ?_)|skip
 refine aF (wpAny_sequenceKey a.typeIs (by decide) ?_);refine aF (wpAny_callSpecial?_slot (name:=Str.ofString "__setitem__") a.typeIs PySem.slot_list_setitem (wpAny_call_entry PySem.slot_list_setitem a.typeIs PySem.entry_list_setitem ?_ (PySem.args_list_setitem _ _ _)));show wpAny _ _ (Builtin.List.listSubscript? (.int k t)>>=_) _ _ s;refine aF (wpAny_listSubscript_int (fitsIndex_of h0 b) ?_);clear b;refine oE (Int.eq_ofNat_of_zero_le h0) λj aG=>?_;clear h0;subst aG;have h:j<items.size:=by lia
 have e:items[j]?=some items[j]:=Array.getElem?_eq_getElem h;show wpAny _ _ ((seqItemAt l j>>=λr=>pure (r.map (j,·)))>>=_) _ _ s;refine aF (aF (wpAny_seqItemAt ho g (a_ ?_)));rwa[e];show wpAny _ _ (setSeqItemAt l j v>>=_) _ _ s;refine aF (wpAny_setSeqItemAt ho g ?_)
 first
  |exact aF (a_ (a_ ⟨.none,rfl,a_ (f _ (nZ d _) (Heap.SameBut.update ..))⟩))
  |exact a_ ⟨.none,rfl,a_ (f _ (nZ d _) (Heap.SameBut.update ..))⟩
theorem VZ{l m:List X}{p:Nat}(a:l.length<=1000)(b:m.length<=1000):(l.take p++m++l.drop q).length<=3000:=by rwa[List.length_append];rwa[List.length_append];rwa[List.length_take];rwa[List.length_drop];exact Nat.add_le_add (Nat.add_le_add (fS (Nat.min_le_right ..) a) b) (fS (Nat.sub_le ..) a)
theorem AB{l b sl:Addr}{new:Array Value}{m r:Value}{lo hi:Option Int}{p:Nat}(C:s.heap.PlainList l items)(hb:s.heap.PlainList b new)(ne:l≠b)(hs:s.heap.IsSliceOf sl m r .none)(pl:IsPart m lo)(H:IsPart r hi)(bd:sliceBounds lo hi none items.size=((p:Int),(q:Int),1))(I:p<=q)(M:q<=items.size)(t:items.size<=1000)(D:new.size<=1000)(J:∀Z,Z.PlainList l (items.toList.take p++new.toList++items.toList.drop q).toArray->Heap.SameBut l s.heap Z->Q () {s with heap:=Z}):wpAny F.mo A (PySem.setItem (.ref l) (.ref sl) (.ref b)) Q E s:=by
 have c:=C.isList;have u:=hb.isList;refine cY (id c) λo ho N g=>?_;refine oE g ?_;clear g;intro O k;refine cY (id u) λo2 e v h=>?_;refine oE h ?_;clear h;intro P i;refine cY (id hs) λB d w f=>?_;have j:s.TypeIs (.ref sl) "slice":=⟨B,d,w⟩;unfold PySem.setItem;try with_reducible refine cH ?_
 first|refine aF (a_ ?_)|skip
 refine aF (wpAny_sequenceKey c.typeIs (by decide) ?_);refine aF (wpAny_callSpecial?_slot (name:=Str.ofString "__setitem__") c.typeIs PySem.slot_list_setitem (wpAny_call_entry PySem.slot_list_setitem c.typeIs PySem.entry_list_setitem ?_ (PySem.args_list_setitem _ _ _)));show wpAny _ _ (Builtin.List.listSubscript? (.ref sl)>>=_) _ _ s;refine aF ?_;unfold Builtin.List.listSubscript?;refine aF (wpAny_specialOf j slice_no_index ?_);rwa[aI (by decide)];refine a_ ?_;show wpAny _ _ (typeOf (.ref sl)>>=_) _ _ s;refine aF (wpAny_typeOf j ?_);rwa[aH (by decide)];rw[listSliceParts_eq];refine aF (aF (wpAny_field d f (x:=.none) rfl (aF (wpAny_listPart .none ?_))));rwa[aH (by decide)];refine aF (wpAny_field d f (x:=m) rfl (aF (wpAny_listPart pl ?_)));refine aF (wpAny_field d f (x:=r) rfl (aF (wpAny_listPart H (a_ ?_))));have y:Builtin.List.listSameRef (.ref l) (.ref b)=false:=by simp[Builtin.List.listSameRef,ne]
 dsimp only;rwa[y];rwa[aH (by decide)];refine aF ?_;unfold Builtin.List.listAllItems;refine aF (wpAny_typeOf (T:="list") ⟨_,e,v⟩ ?_);rwa[aI (by decide)];have z:∀{A:Around}{a:Addr}{o:Obj}{xs:Array Value}{n:Nat}{Q:Array Value->Shared->Prop},s.heap.get? a=some o->o.data=.seq xs n->Q xs s->wpAny F.mo A (Builtin.List.listItems (.ref a)) Q E s:=λho k K=>by unfold Builtin.List.listItems;exact aF (wpAny_seqItems ho k (a_ K))
 first|refine z e i ?_|refine aF (z e i (a_ ?_))
 refine aF (z ho k ?_);refine aF (wpAny_of_eq (sliceIndices_raw lo hi none items.size (by simp)) ?_);rwa[bd];dsimp only;rwa[aI (by decide)];refine aF (wpAny_rule ?_);rwa[aH (IE (fS (Nat.add_le_add t D) (by decide)))];have e1:(max (p:Int) (q:Int)).toNat=q:=by rwa[Int.max_eq_right (Int.ofNat_le.mpr I)];rfl
 have L:((p:Int)).toNat=p:=rfl;rwa[e1];rwa[L];have G:(items.extract 0 p++new++items.extract q)=(items.toList.take p++new.toList++items.toList.drop q).toArray:=by apply Array.ext';simp;rwa[List.take_of_length_le (by simp)];rfl
 refine aF ?_;unfold Builtin.List.listUpdate;dsimp only;refine wpAny_updateSeq ho k ?_ (by rwa[d7];exact fS t (by decide)) ?_;·refine aF (wpAny_letGo (a_ ⟨_,rfl,a_ (J _ ?_ (Heap.SameBut.update ..))⟩));refine cM G ?_;exact nZ C _
 ·rwa[G];rwa[d7];exact fS (VZ t D) (by decide)
def tN(F:Fix)(g:Array GenState)(u:Drawn)(B:OsState)(Θ:List bA)(U:List Addr)(h:Heap)(P:Res->Prop)(k:VH->Res)(Q:Unit->Shared->Prop):Prop:=∀a aO Z t',U<+:aO->aZ h Z->Lu F aO a Θ Z->P (k a)->Q () ⟨Z,g,u,t',B⟩
theorem tN.mono{k:VH->Res}(K:tN F g u B Θ U h P k Q)(p:U<+:aO)(i:aZ h Z):tN F g u B Θ aO Z P k Q:=λa c6 bB t' p' b=>K a c6 bB t' (p.trans p') (i.trans b)
variable{k:VH->Res}
theorem JD(items:Array Value)(j:Nat)(v:Value):(items.setIfInBounds j v).toList=items.toList.set j v:=by simp
theorem tN.list{l':List V}{b:Array Value}(K:tN F g u B Θ U h P k Q)(R:Lu F U H Θ h)(c:U[n]?=some a)(el:H[n]?=some (.list l))(s:Heap.SameBut a h Z)(pl:Z.PlainList a b)(r:b9 F U h l' b.toList)(d:P (k (H.set n (.list l')))):Q () ⟨Z,g,u,t',B⟩:=by obtain⟨j,items,f1,⟨m,f2⟩,f3⟩:=R.list el;rw[c]at f1;have f:=aM f1;subst f;have I:=eO s f2 (lY rfl);refine oA (R.vQ (vo':=.list l') c el s f2 (lY rfl) (let⟨n,e⟩:=pl;⟨_,e⟩) λown=>⟨b,pl,r.mono aQ I⟩) λi _=>?_;exact K _ _ _ _ aQ I i d
theorem tN.dict{l l':List (V×V)}(K:tN F g u B Θ U h P k Q)(R:Lu F U H Θ h)(b:U[n]?=some a)(el:H[n]?=some (.dict l))(s:Heap.SameBut a h Z)(c:uH F U Z a l'\/xA F U Z a l')(d:P (k (H.set n (.dict l')))):Q () ⟨Z,g,u,t',B⟩:=by
 refine cY (R.dict el) λi f1 f2 f3=>?_;rw[b]at f1;clear f3;have e:=aM f1;subst e
 have ex:∃o es ep,h.get? a=some o/\o.data=.dict es ep:=by
  rcases f2 with⟨kvs,⟨o,es,ep,q1,q2,q3,_⟩,_⟩|⟨kvs,⟨o,es,ep,q1,q2,q3,_⟩,_⟩;·exact⟨o,es,ep,q1,q3⟩
  ·exact⟨o,es,ep,q1,q3⟩
 refine m7 ex ?_;clear ex;intro o es ep q1 q3;have I:=eO s q1 (eN q3)
 obtain⟨f,_⟩:=R.vQ (vo':=.dict l') b el s q1 (eN q3) (by
  rcases c with⟨kvs,⟨o,es,ep,q1,q2,q3,_⟩,_⟩|⟨kvs,⟨o,es,ep,q1,q2,q3,_⟩,_⟩;·exact⟨o,q1⟩
  ·exact⟨o,q1⟩) λown=>c;exact K _ _ _ _ aQ I f d
theorem sQ{l:List (V×V)}(f2:uH F U h a l\/xA F U h a l)(s:Heap.SameBut a h Z):aZ h Z:=by
 have ex:∃o es ep,h.get? a=some o/\o.data=.dict es ep:=by
  rcases f2 with⟨kvs,⟨o,es,ep,q1,q2,q3,_⟩,_⟩|⟨kvs,⟨o,es,ep,q1,q2,q3,_⟩,_⟩;·exact⟨o,es,ep,q1,q3⟩
  ·exact⟨o,es,ep,q1,q3⟩
 refine m7 ex ?_;clear ex;intro o es ep q1 q3;exact eO s q1 (eN q3)
theorem mS [DecidableEq κ]{knd:KeyKind F.prog F.w κ}{d:Addr}{kvs:List (κ×Value)}(q:h.DictOf knd d kvs):(kvs.map (·.1)).Nodup:=by refine jQ q ?_;clear q;intro _ _ _ _ _ _ _ a;refine oA a ?_;clear a;intro _ n;exact n
theorem OO{o i:V}{z:Value}(stuck:cS P)(R:Lu F U H Θ h)(K:tN F g u B Θ U h P k Q)(m:RV F U h o x)(b:RV F U h i y)(rv:RV F U h v z)(a:P (Mc o i v H k)):wpAny F.mo A (PySem.setItem x y z) Q E ⟨h,g,u,t,B⟩:=rn m stuck a λn ad z9 d a=>cV (c:=qL H[n]?=true) a (λz9 a=>L3 R d stuck a λl items el f2 f3 a=>ri b stuck a λj tk z9 a=>bU stuck a λq a=>by have p:=f3.length;rw[Array.length_toList]at p;refine BU f2 q.1 (by lia) (by lia) λZ pl s=>K.list R d el s pl ?_ a;rw[JD];exact f3.set _ rv) λz9 a=>YF R d stuck a λl el f2 f3 a=>bU stuck a λhk a=>by
 rw[dE,decide_eq_true_eq]at hk;refine rP b f2 hk.1 (λj tk kvs ex e f=>?_) λj tk kvs ex e f=>?_;·rw[ex]at a;refine wpAny_setItem_pairs (intKind_is _ _ j tk) e (λZ D s=>K.dict R d el s (.inl ⟨_,D,?_⟩) a) (by rwa[f.length];rwa[d7];lia);exact(f.any kJ rv (mS e)).mono aQ (sQ f2 s)
 ·rw[ex]at a;refine wpAny_setItem_pairs (strKind_is _ _ j tk) e (λZ D s=>K.dict R d el s (.inr ⟨_,D,?_⟩) a) (by rwa[f.length];rwa[d7];lia);exact(f.any mF rv (mS e)).mono aQ (sQ f2 s)
theorem LH{o a b:V}{va z:Value}(stuck:cS P)(R:Lu F U H Θ h)(K:tN F g u B Θ U h P k Q)(r:RV F U h o x)(C:RV F U h a va)(D:RV F U h b vb)(rv:RV F U h v z)(d:P (gF o a b v H k)):wpAny F.mo A (PySem.setItem x (.ref h.objs.size) z) Q E ⟨h.push {cls:=.type "slice",data:=.fields #[va,vb,.none]},g,u,t,B⟩:=by
 have k1:Keeps h (h.push {cls:=.type "slice",data:=.fields #[va,vb,.none]}):=λb o e=>dJ _ e;have i:=R.keeps k1;have f:=aZ.of_keeps k1;have I:=K.mono aQ f;have S:=Heap.IsSliceOf.new h va vb .none;have r:=r.mono aQ f;have rv:=rv.mono aQ f;have C:=C.mono aQ f;have D:=D.mono aQ f;clear R K;generalize h.push {cls:=.type "slice",data:=.fields #[va,vb,.none]}=Z at k1 i I f S r rv C D⊢;refine rl r stuck i d λn ad l items J el f2 f3 d=>rl rv stuck i d λm bd w news L M N O d=>eC stuck d λp ep d=>bU stuck d λq d=>PK f3 C D ep λlo hi c=>?_;have Y:=f3.length;have zw:=O.length;rw[Array.length_toList]at Y zw;have ne:ad≠bd:=by clear N;obtain⟨_,_,⟨own,_,_,T⟩,_,_⟩:=i;refine cY (T _ _ el) λa1 W u2 _=>?_;refine cY (T _ _ M) λa2 G X _=>?_;rw[J]at W;clear M;have j:=aM W;subst j;rw[L]at G;have j:=aM G;subst j;intro y;clear L G;subst y;rw[u2]at X;have j:=aM X;cases j;exact q.1 rfl
 have c1:=c.len;exact AB f2 N ne S c.Eh c.Fe c.Lb c.le (by lia) (by lia) (by lia) λZ pl s=>I.list i J el s pl (((f3.take p.1).append O).append (f3.drop p.2)) d
end
variable{M:Model}
theorem pD{name:Str}{v:Value}(r:sC s.heap a m n)(h:∀Z,sC Z a (λx=>if x=name then some v else m x) (if(m name).isSome then n else n+1)->Heap.SameBut a s.heap Z->Q () {s with heap:=Z,toks:=s.toks+1}):wpAny M A (nsSet a name v) Q E s:=by
 refine oA r ?_;clear r;intro p k;refine eS k ?_;clear k;intro o2 f g b j u;refine lE (id p) λo es ep ho w hk hm=>?_;rw[b]at ho;have z:=aM ho;subst z;rw[j]at w;clear ho;cases w;unfold nsSet;refine aF (aF (wpAny_askSetting (a_ (aF (wpAny_mkText (aF (wpAny_loadPart b ?_)))))));rwa[j];dsimp only;have l:f.any (·.refKey)=false:=by rw[Array.any_eq_false'];intro e he;refine wU (hk e he) λn t h=>?_;simp[DictEntry.refKey,h]
 rw[aRefKeyMayBeTheName_at];rwa[l];rw[Bool.and_false];refine wpAny_updatePart b (h _ ?_ (Heap.SameBut.update ..));clear h;obtain⟨c,d,C,sl⟩:=o2;subst j;have q:m name=(f.find? (·.key.isStr name)).map (·.val):=(hm name).symm
 cases hi:f.findIdx? (·.key.isStr name)with
 |some i=>
  have hs:(m name).isSome=true:=by rwa[q];rwa[Option.isSome_map];refine aW (Array.findIdx?_eq_some_iff_getElem.mp hi) λlt hp _=>?_;rw[Array.find?_isSome];exact⟨_,Array.getElem_mem lt,hp⟩
  rwa[hs];refine⟨⟨_,_,g,Heap.get?_update_self _ b (by simp only[Obj.putName_eq,Obj.putNameByArray,hi];rfl),by simp only[Obj.putName_eq,Obj.putNameByArray,hi];rfl,hk.modify _ _,λx=>?_⟩,_,_,g,Heap.get?_update_self _ b (by simp only[Obj.putName_eq,Obj.putNameByArray,hi];rfl),by simp only[Obj.putName_eq,Obj.putNameByArray,hi];rfl,?_⟩;·show _=if x=name then some v else m x;rw[<-hm];exact findBy_modify (λn v=>v.isStr n) Value.isStr_inj f name x v i hi
  ·simpa using u
 |none=>
  have hs:m name=none:=by rwa[q];rw[Option.map_eq_none_iff,Array.find?_eq_none];intro x B;simp[Array.findIdx?_eq_none_iff.mp hi x B]
  rwa[hs];refine⟨⟨_,_,g+1,Heap.get?_update_self _ b (by simp only[Obj.putName_eq,Obj.putNameByArray,hi];rfl),by simp only[Obj.putName_eq,Obj.putNameByArray,hi];rfl,hk.push _ _ _ _,λx=>?_⟩,_,_,g+1,Heap.get?_update_self _ b (by simp only[Obj.putName_eq,Obj.putNameByArray,hi];rfl),by simp only[Obj.putName_eq,Obj.putNameByArray,hi];rfl,?_⟩
  ·show _=if x=name then some v else m x;rw[<-hm]
   exact findBy_push (λn v=>v.isStr n) f name x _ _ v (λy=>by
    show(name==y)=decide (y=name);by_cases h:y=name;·clear q hi hs;subst h;simp
    ·have:¬name=y:=λe=>h e.symm;simp[h,this]) hi
  ·simpa using u
section
theorem Lu.iO(R:Lu F U H Θ h)(O:cA F){b:Addr}:(F.K b).In h:=λa o e=>R.stays _ _ (O.iO b a o e)
set_option tactic.hygienic true in
theorem MJ(r:RV F U h v x)(O:cA F)(e:∀s,v≠.bi s)(f:∀s,v≠.fn s)(b:v≠.bits):handedIn x=true:=by
 cases r<;>first|rfl|(exact aV rfl (e _))|(exact aV rfl (f _))|(exact aV rfl b)|skip
 rename_i s p q;refine oE (O.DE _ _ q p) λC aG=>?_;subst aG;rfl
set_option tactic.hygienic true in
theorem u_{d:Addr}{x:Str}(q:h.Ns d m)(e:h.get? d=some o):lookIn x o=some (m x):=by
 refine lE q ?_;clear q;intro o' es ep ho a hk hm;rw[e]at ho;have b:=aM ho;subst b;unfold lookIn;rwa[a];dsimp only;have c:m x=(es.find? (·.key.isStr x)).map (·.val):=(hm x).symm;rwa[c];refine cM Array.find?_toList ?_;generalize es.toList.find? (·.key.isStr x)=q
 induction q using Option.casesOn with
 |some f=>rfl
 |none=>refine aH ?_;rw[Bool.not_eq_true];rwa[Array.any_toList];rw[Array.any_eq_false'];intro e he;refine wU (hk e he) λn t h=>?_;simp[DictEntry.refKey,h]
inductive Er(F:Fix)(U:List Addr)(h:Heap)(n:Nat)(c:Str)(as:List (Str×V)):Prop
 |mk a C d o od m:U[n]?=some a->E5 F c C->InstAt h a o C (some od)->o.dict=some d->h.get? a=some o->h.get? d=some od->sC h d m as.length->lN F U h as m->Er F U h n c as
theorem Lu.instAt(R:Lu F U H Θ h)(e:H[n]?=some (.inst c as)):Er F U h n c as:=by
 obtain⟨a,C,d,o,m,q1,q2,q3,q4,b,g,f,i⟩:=R.inst e;refine eS (f.1) λod es ep r1 r2 _=>?_;refine⟨a,C,d,o,od,m,q1,q2,⟨q3,q4,?_,?_⟩,b,q3,r1,f,i⟩;·unfold notCls;rwa[g];rfl
 ·rwa[b];exact r1
theorem uL{o:V}{x:Str}{f:Bool}{k:Kv}{Q:Po}(O:cA F)(R:Lu F U H Θ h)(K:cZ F g u B Θ U h P k Q)(j:RV F U h o y)(e:Ml o x H=some v)(l:P (k v H)):wpAny F.mo A (PySem.getAttr y x f) Q E ⟨h,g,u,t,B⟩:=by
 refine rn (p:=(·=some v)) j aS e λn ad z9 r e=>ia (p:=(·=some v)) aS e λc as el e=>dM e λia e=>?_;obtain⟨a,C,d,o,od,m,q1,q2,q3,q4,D,G,I,J⟩:=R.instAt el;rw[r]at q1;clear D;have L:=aM q1;subst L;have i:=O.cls _ _ q2;have z:=J x
 cases ev:aU x as with
 |none=>rw[ev]at e;exact dW e
 |some w=>rw[ev]at e z;refine dM e λb e=>?_;injection e with e;subst e;exact z.elim λval z=>get_value (R.iO O) q3 i.m5 (findObj_own i.hasDict (i.attrs x ia) rfl (by rwa[u_ I.1 G];rwa[z.1];rfl)) (MJ z.2 O (λs q=>by rw[q]at b;cases b) (λs q=>by rw[q]at b;cases b) (λq=>by rw[q]at b;cases b)) (K.here R z.2 l)
theorem QB(x:Str)(v:V)(as:List (Str×V)):(aB x v as).length=if(aU x as).isSome then as.length else as.length+1:=by
 induction as with
 |nil=>rfl
 |cons p r a=>
  obtain⟨y,w⟩:=p;rwa[A1];rwa[jN];by_cases q:y=x;·rwa[aI q];rwa[aI q];rfl
  ·rwa[aH q];rwa[aH q];rwa[List.length_cons];rwa[a];cases(aU x r).isSome<;>rfl
theorem mM(x:Str)(v:V)(y:Str)(as:List (Str×V)):aU y (aB x v as)=if y=x then some v else aU y as:=by
 induction as with
 |nil=>
  show(if x=y then some v else none)=if y=x then some v else none;by_cases q:x=y;·rwa[aI q];rwa[aI q.symm];rfl
  ·rwa[aH q];rwa[aH λh=>q h.symm];rfl
 |cons p r a=>
  obtain⟨z,w⟩:=p;rwa[A1];by_cases q:z=x
  ·rwa[aI q];rwa[jN];rwa[jN];by_cases e:z=y;·rwa[aI (e.symm.trans q)];rwa[aI e];rfl
   ·rwa[aH (show¬y=x fromλh=>e (q.trans h.symm))];rwa[aH e];rwa[aH e];rfl
  ·rwa[aH q];rwa[jN];rwa[jN];by_cases e:z=y;·rwa[aH (show¬y=x fromλh=>q (e.trans h))];rwa[aI e];rwa[aI e];rfl
   ·rwa[aH e];rwa[aH e];exact a
theorem lN.set{x:Str}{v:V}{val:Value}(r:lN F U h as m)(q:RV F U h v val):lN F U h (aB x v as) (λy=>if y=x then some val else m y):=by
 intro y;rw[mM];by_cases e:y=x;·simp only[e,if_true];exact⟨val,rfl,q⟩
 ·simp only[e,if_false];exact r y
set_option tactic.hygienic true in
theorem lN.some(r:lN F U h as m)(x:Str):(m x).isSome=(aU x as).isSome:=by
 have z:=r x;generalize aU x as=q at z⊢
 induction q using Option.casesOn with
 |some v=>refine aW z ?_;clear z;intro val a _;rwa[a];rfl
 |none=>rwa[z];rfl
theorem vJ{o:V}{x:Str}{z:Value}{k:VH->Res}(stuck:cS P)(O:cA F)(R:Lu F U H Θ h)(K:tN F g u B Θ U h P k Q)(D:RV F U h o y)(rv:RV F U h v z)(f:P (Ls o x v H k)):wpAny F.mo A (PySem.setAttr y x z) Q E ⟨h,g,u,t,B⟩:=by
 refine rn D stuck f λn ad z9 q f=>ia stuck f λc as el f=>bU stuck f λia f=>?_;rw[dE,decide_eq_true_eq]at ia;obtain⟨a,C,d,o,od,m,q1,q2,q3,q4,G,q6,r,s⟩:=R.instAt el;rw[q]at q1;clear G;have l:=aM q1;subst l;have j:=O.cls _ _ q2;have X:=R.iO O (b:=C);have tk:takerIn (F.K C) C x=some none:=by unfold takerIn;rwa[j.attrs x ia.1];rfl
 refine set_plain X q3 j.setattr (osa_open X q3 j.over tk λb=>?_);refine aW (any_some j.hasDict) λcd J p=>?_;obtain⟨w,i,L,-⟩:=q3;clear L;obtain⟨oc,M,N,T⟩:=o;dsimp only at i q4;subst i q4;refine aF (a_ (aF (aF (wpAny_loadPart w (aF ((looks_clsIn X J).here ?_))))));rwa[p];refine a_ (a:=some d) (aF (a_ (aF ?_)));refine pD r λZ N' S=>?_;refine eS (N'.2) λo' W Y w1 w2 w3=>?_;refine aF (wpAny_lookBehind w1 (by rwa[w2];exact pastItsLine_dict (by rwa[d7];split at w3<;>lia)) ?_);refine a_ ?_;refine eS (r.1) λb6 b7 b8 y1 y2 _=>?_;have I:aZ h Z:=eO S y1 (eN y2);refine oA (R.inst_upd (as':=aB x v as) q el (λo e=>by rw[w]at e;have l:=aM e;subst l;rfl) S (by rw[QB,<-s.some];exact N') (s.set rv)) λR' _=>?_;exact K _ _ _ _ aQ I R' f
end
variable{vs:Array Value}{t₀:Nat}{oe:Obj}{dx:Addr}
section
theorem Lu.frames{S:List Addr}(R:Lu F U H Θ h)(g:∀b∈S,∃m,bA.ns b m∈Θ)(x:Heap.SlotsOnly S h Z):Lu F U H Θ Z/\aZ h Z:=by
 obtain⟨st,l,⟨own,o1,o2,j⟩,nd,pr⟩:=R;have off:∀b,own b≠none->b∉S:=λb hb hm=>by refine oE (g b hm) λm hm=>?_;exact hb (o2 _ hm)
 have sl:∀b∈S,∃o es ep,h.get? b=some o/\o.data=.dict es ep:=λb hb=>by refine oE (g b hb) λm hm=>?_;obtain⟨⟨o,es,ep,q1,q2,_⟩,_⟩:=pr _ hm;exact⟨o,es,ep,q1,q2⟩
 have I:aZ h Z:=λb o e c=>by
  by_cases hb:b∈S;·refine m7 (sl b hb) λo' es ep q1 q2=>?_;rw[e]at q1;have q:=aM q1;subst q;exact aV c (eN q2)
  ·exact(x.2.1 b hb).trans e
 have i:∀{L m},h.Ns L m->Z.Ns L m:=λ{L m}⟨o,es,ep,e,d,r⟩=>by refine oE (x.2.2 L o e) λsl s=>?_;exact⟨_,es,ep,s,d,r⟩
 refine⟨⟨λb o e=>?_,l,⟨own,λb hb=>⟨(o1 b hb).1,?_⟩,o2,λn vo e=>?_⟩,nd,λp hp=>⟨?_,(pr p hp).2⟩⟩,I⟩
 ·by_cases hb:b∈S;·refine oE (g b hb) λm hm=>?_;have:=(pr _ hm).2;change F.base.get? b=none at this;rw[this]at e;exact dW e
  ·exact(x.2.1 b hb).trans (st b o e)
 ·refine oE ((o1 b hb).2) λo e=>?_;exact⟨o,(x.2.1 b (off b hb)).trans e⟩
 ·refine cY (j n vo e) λa e1 k t=>?_;exact⟨a,e1,k,t.move aQ I (x.2.1 a (off a (by rwa[k];simp))) λd u=>x.2.1 d (off d (by rwa[u];simp))⟩
 ·by_cases hb:p.addr∈S;·refine oE (g _ hb) λm hm=>?_;have f:=(pr p hp).1;refine m7 (sl _ hb) λo' es ep q1 q2=>?_;have e:=Lu.uniq (F:=F) (U:=U) (H:=H) (h:=h) ⟨st,l,⟨own,o1,o2,j⟩,nd,pr⟩ hp hm rfl;rw[e]at f⊢;exact i f
  ·exact(pr p hp).1.move (x.2.1 _ hb)
theorem eY.fun(Fr:eY A L Θ)(R:Lu F U H Θ h):∃J outer,A.frames=some (J::outer)/\J.frame=some L/\h.FunFrames F.base (J::outer)/\∀b∈(J::outer).filterMap (·.frame),∃m,bA.ns b m∈Θ:=by
 refine b_ (Fr.frames) λJ outer e1 e d=>?_;refine⟨J,outer,e1,e,?_,λb hb=>?_⟩
 ·clear e1 e;generalize J::outer=l at d⊢
  induction l with
  |nil=>trivial
  |cons x r f=>refine oA (d x (aE)) λq1 a=>?_;refine sY a ?_;clear a;intro L m q2 q3;obtain⟨⟨o,es,ep,g,i,_⟩,j⟩:=R.dS _ q3;exact⟨q1,⟨L,o,q2,j,g,λvs z=>by rw[i]at z;cases z⟩,f λy k=>d y (aC k)⟩
 ·refine aW (List.mem_filterMap.mp hb) λx n hf=>?_;refine oA (d x n) λ_ c=>?_;refine sY c ?_;clear c;intro L m q2 q3;rw[q2]at hf;clear hb;have p:=aM hf;subst p;exact⟨m,q3⟩
theorem JC{Q:Po}(Fr:eY A L Θ)(R:Lu F U H Θ h)(hf:J.frame=some L)(e:∀Z,Lu F U H Θ Z->aZ h Z->Q (.ref L) ⟨Z,g,u,t,B⟩):wpAny F.mo A (PySem.frameOf J) Q E ⟨h,g,u,t,B⟩:=by
 refine gX (Fr.fun R) λa outer e1 d f i=>?_;unfold PySem.frameOf;refine aF (wpAny_frameEnvs e1 ?_);have c:((a::outer).dropWhile λx=>x.frame !=J.frame)=a::outer:=by simp[List.dropWhile,d,hf]
 rwa[c];unfold frameObject;refine aF (aF (wpAny_readyFrames_fun f λbB b=>a_ ?_));rwa[d];refine oA (R.frames i b) λj I=>?_;exact a_ (e bB j I)
inductive KZ(F:Fix)(L:Addr)(c s:Str)(e:Addr):List bA->Prop
 |new{C:Addr}{oe:Obj}{dx:Addr}{m:Str->Option Value}{vs:Array Value}{t:Tok}:F.mg c=some (.ref C)->oe.cls=.ref C->oe.dict=some dx->oe.data=.fields vs->(c="MachineFault"->m "kind"=some (.str s t))->
  vs[1]?=some .none->KZ F L c s e [.obj e oe,.ns dx m]
 |old{C:Addr}{oe:Obj}{dx:Addr}{m:Str->Option Value}{vs:Array Value}{t:Tok}{T:Addr}{oT:Obj}{ts:Array Value}:F.mg c=some (.ref C)->oe.cls=.ref C->oe.dict=some dx->oe.data=.fields vs->(c="MachineFault"->m "kind"=some (.str s t))->
  vs[1]?=some (.ref T)->oT.cls=.type "traceback"->oT.data=.fields ts->(ts[3]?=some .none\/ts[3]?=some (rawInt L))->KZ F L c s e [.obj T oT,.obj e oe,.ns dx m]
theorem fR{vs}(e:o.data=.fields vs)(c:o.cls≠.type "range"):¬lS o:=by
 rintro(⟨_,_,_,q⟩|⟨q,_⟩);·rw[e]at q;cases q
 ·exact c q
theorem nN(ho:h.get? a=some o)(b:o.data=.fields vs)(k:Nat)(v:Value):∃o',o'.cls=o.cls/\o'.dict=o.dict/\o'.data=.fields (vs.setIfInBounds k v)/\(h.update a (Obj.mapFields (·.setIfInBounds k v))).get? a=some o':=by obtain⟨c,d,e,sl⟩:=o;subst b;exact⟨⟨c,d,.fields (vs.setIfInBounds k v),sl⟩,rfl,rfl,rfl,Heap.get?_update_self _ ho rfl⟩
set_option tactic.hygienic true in
theorem vL{s:Str}{e:Addr}{X:List bA}(Fr:eY A L Θ)(R:Lu F U H (X++Θ) h)(x:KZ F L c s e X)(hf:J.frame=some L)
 (y:∀Z C oe dx m vs t T oT ts,aZ h Z->Lu F U H (.obj T oT::.obj e oe::.ns dx m::Θ) Z->F.mg c=some (.ref C)->oe.cls=.ref C->oe.dict=some dx->oe.data=.fields vs->(c="MachineFault"->m "kind"=some (.str s t))->
  vs[1]?=some (.ref T)->oT.cls=.type "traceback"->oT.data=.fields ts->ts[3]?=some (rawInt L)->Q () ⟨Z,g,u,t₀,B⟩):
 wpAny F.mo A (noteFrame (.ref e) J) Q E ⟨h,g,u,t₀,B⟩:=by
 have O:∀{Y:List bA},eY A L (Y++Θ):=λ{Y}=>⟨let⟨J,outer,e1,e2,e3⟩:=Fr.frames;⟨J,outer,e1,e2,λnJ Z=>let⟨q1,L',m,q2,q3⟩:=e3 nJ Z;⟨q1,L',m,q2,cG _ q3⟩⟩⟩
 have fin:∀{h:Heap}{C:Addr}{oe:Obj}{dx:Addr}{m:Str->Option Value}{vs:Array Value}{t:Tok}{Y:List bA}(a:Bool)(head:Value),Lu F U H (.obj e oe::.ns dx m::Θ) h->F.mg c=some (.ref C)->oe.cls=.ref C->oe.dict=some dx->oe.data=.fields vs->
  (c="MachineFault"->m "kind"=some (.str s t))->1<vs.size->(∀Z,aZ h Z->∀C oe dx m vs t T oT ts,Lu F U H (.obj T oT::.obj e oe::.ns dx m::Θ) Z->F.mg c=some (.ref C)->oe.cls=.ref C->oe.dict=some dx->oe.data=.fields vs->(c="MachineFault"->m "kind"=some (.str s t))->
  vs[1]?=some (.ref T)->oT.cls=.type "traceback"->oT.data=.fields ts->ts[3]?=some (rawInt L)->Q () ⟨Z,g,u,t₀,B⟩)->
  wpAny F.mo A (do setField (.ref e) 1 (<-EntryCells.newEntry head (<-PySem.frameOf J) .none (rawInt L) .none (<-entryPlaceOf L a))) Q E ⟨h,g,u,t₀,B⟩:=by intro h C oe dx m vs t Y a head R r n d k hk z y;refine aF (JC (Θ:=[.obj e oe,.ns dx m]++Θ) O R hf λbB D G=>?_);refine aF (wpAny_entryPlaceOf λpl P=>?_);unfold EntryCells.newEntry newFields;refine aF (wpAny_newObj_type ?_ (P.sizeOk5 _ _ _ _ _));dsimp only;have k1:Keeps bB (bB.push {cls:=.type "traceback",dict:=none,data:=.fields ([head,.ref L,.none,rawInt L,.none]++(if pl.isEmpty then List.replicate 6 Value.none else pl)).toArray}):=λb o e=>dJ _ e;have gT:(bB.push {cls:=.type "traceback",dict:=none,data:=.fields ([head,.ref L,.none,rawInt L,.none]++(if pl.isEmpty then List.replicate 6 Value.none else pl)).toArray}).get? bB.objs.size=some {cls:=.type "traceback",dict:=none,data:=.fields ([head,.ref L,.none,rawInt L,.none]++(if pl.isEmpty then List.replicate 6 Value.none else pl)).toArray}:=kA _ rfl;have K:=D.j2 (p:=.obj bB.objs.size _) k1 gE gT;have l:=K.perm (List.Perm.swap _ _ _);have he:=(l.dS _ (aE)).1;change _=some oe at he;refine wpAny_setField he k z ?_;refine fN (nN he k 1 (.ref bB.objs.size)) λM W w2 w3 S=>?_;refine oA (l.gM (p':=.obj e M) (Heap.SameBut.update ..) he (fR k (by rwa[n];simp)) rfl S) λi j=>?_;exact y _ (G.trans ((aZ.of_keeps k1).trans j)) C M dx m _ t bB.objs.size _ _ (i.perm (List.Perm.swap _ _ _)) r (W.trans n) (w2.trans d) w3 hk (by simp[z]) rfl rfl (by simp)
 unfold noteFrame;simp only[hf]
 cases x with
 |new r n d k hk v=>have he:=(R.dS _ (aE)).1;change _=some _ at he;refine aF (wpAny_field he k v ?_);rwa[aH (by decide)];exact fin (Y:=[]) _ _ R r n d k hk (Array.getElem?_eq_some_iff.mp v).1 λZ I C oe dx m vs t T oT ts=>y Z C oe dx m vs t T oT ts I
 |old r n d k hk v N f q=>
  rename_i C oe dx m vs t T oT ts;have he:=(R.dS _ (aC (aE))).1;have w:=(R.dS _ (aE)).1;change _=some _ at he w;refine aF (wpAny_field he k v ?_);rwa[aI (show(Value.ref T !=Value.none)=true from by simp)];rcases q with q|q;·refine aF (wpAny_field w f q ?_);rwa[aH (show¬((Value.none==rawInt L)=true)from by simp[rawInt])];refine aF (wpAny_setField w f (Array.getElem?_eq_some_iff.mp q).1 ?_);refine fN (nN w f 3 .none) λV W w2 w3 S=>?_;refine oA (R.gM (p':=.obj T V) (Heap.SameBut.update ..) w (fR f (by rwa[N];simp)) rfl S) λi j=>?_;exact fin (Y:=[]) _ _ i.drop r n d k hk (Array.getElem?_eq_some_iff.mp v).1 λZ I C oe dx m vs t T oT ts=>y Z C oe dx m vs t T oT ts (j.trans I)
  ·refine aF (wpAny_field w f q ?_);rwa[aI (by simp)];exact a_ (y h C oe dx m vs t T oT ts (aZ.refl _) R r n d k hk v N f q)
def Mu(F:Fix)(U:List Addr)(H:VH)(Θ:List bA)(h:Heap)(L:Addr)(c s:Str)(e:Addr):Prop:=∃X,Lu F U H (X++Θ) h/\KZ F L c s e X
def fX(F:Fix)(g:Array GenState)(u:Drawn)(B:OsState)(Θ:List bA)(U:List Addr)(h:Heap)(P:Res->Prop)(L:Addr)(E:Po):Prop:=∀c s a aO Z t' e,U<+:aO->aZ h Z->Mu F aO a Θ Z L c s e->P (.exc c s a)->E (.ref e) ⟨Z,g,u,t',B⟩
theorem fX.mono(K:fX F g u B Θ U h P L E)(p:U<+:aO)(i:aZ h Z):fX F g u B Θ aO Z P L E:=λc s a c6 bB t' e p' b=>K c s a c6 bB t' e (p.trans p') (i.trans b)
theorem A5{s:Str}{e:Addr}{fr:Option Addr}{C:Addr}{t:Tok}{T:Addr}{oT:Obj}{ts:Array Value}(R:Lu F U H (.obj T oT::.obj e oe::.ns dx m::Θ) h)(w:F.mg c=some (.ref C))(x:oe.cls=.ref C)(k:oe.dict=some dx)(p:oe.data=.fields vs)(hk:c="MachineFault"->m "kind"=some (.str s t))(q:vs[1]?=some (.ref T))(i:oT.cls=.type "traceback")(d:oT.data=.fields ts)(l:3<ts.size)(n:fr=none\/fr=some L)(y:∀Z,aZ h Z->Mu F U H Θ Z L c s e->Q () ⟨Z,g,u,t₀,B⟩):wpAny F.mo A (setFlight (.ref e) fr) Q E ⟨h,g,u,t₀,B⟩:=by
 have he:=(R.dS _ (aC (aE))).1;have j:=(R.dS _ (aE)).1;change _=some _ at he j;unfold setFlight;refine aF (wpAny_field he p q ?_);rwa[aI (show(Value.ref T !=Value.none)=true from by simp)];refine wpAny_setField j d l ?_;refine fN (nN j d 3 (fr.elim .none λf=>rawInt f)) λo z D r v=>?_;refine oA (R.gM (p':=.obj T o) (Heap.SameBut.update ..) j (fR d (by rwa[i];simp)) rfl v) λa b=>?_;refine y _ b ⟨_,a,.old w x k p hk q (z.trans i) r ?_⟩;clear r v a b;rcases n with rfl|rfl;·exact .inl (by simp[l])
 ·exact .inr (by simp[l])
theorem zW{s:Str}{e:Addr}(Fr:eY A L Θ)(x:Mu F U H Θ h L c s e)(hf:J.frame=some L)(l:∀Z,aZ h Z->Mu F U H Θ Z L c s e->E (.ref e) ⟨Z,g,u,t₀,B⟩):notedBy F.mo A J (cameBackBy F.mo A J E) (.ref e) ⟨h,g,u,t₀,B⟩:=by refine aW x ?_;clear x;intro X R x;unfold notedBy;refine vL Fr R x hf λZ C oe dx m vs t T oT ts I i n o a j hk k b d p=>?_;unfold cameBackBy;have he:=(i.dS _ (aC (aE))).1;change _=some _ at he;refine aF (wpAny_field he j k ?_);rwa[aH (by simp)];rwa[hf];exact A5 i n o a j hk k b d (Array.getElem?_eq_some_iff.mp p).1 (.inr rfl) λf q r=>l f (I.trans q) r
theorem Mu.sub{s:Str}{e:Addr}(x:Mu F U H Θ h L c s e)(m:∀p∈jP,p∈Θ)(nd:(jP.map bA.addr).Nodup):Mu F U H jP h L c s e:=by
 refine aW x ?_;clear x;intro X R x;refine⟨X,R.sub (λp hp=>?_) ?_,x⟩
 ·rcases fL.mp hp with hp|hp;·exact bY _ hp
  ·exact cG _ (m p hp)
 ·have n:=R.nodup;rw[eZ]at n⊢;rw[List.nodup_append]at n⊢;refine⟨n.1,nd,λa d b hb=>n.2.2 a d b ?_⟩;refine aW (c7.mp hb) λp hp aG=>?_;clear hb;subst aG;exact iY (m p hp)
end
section
variable{k:Kv}{Q:Po}
theorem cZ.u3(K:cZ F g u B Θ U h P k Q)(R:Lu F U H Θ h){a:Addr}(r:b9 F U h l items.toList)(b:Keeps h Z)(new:h.get? a=none)(pl:Z.PlainList a items)(c:P (k (.ref H.length) (H++[.list l]))):Q (.ref a) ⟨Z,g,u,t',B⟩:=by refine K _ _ (U++[a]) _ t' _ ⟨_,rfl⟩ (aZ.of_keeps b) (R.z6 (vo:=.list l) b new (let⟨n,e⟩:=pl;⟨_,e⟩) λown=>⟨items,pl,r.mono ⟨_,rfl⟩ (aZ.of_keeps b)⟩) ?_ c;refine .ref ?_;rwa[jX (by rwa[R.len];exact Nat.le_refl _)];rwa[R.len];rewrite[Nat.sub_self];rfl
theorem cZ.kept(K:cZ F g u B Θ U h P k Q)(R:Lu F U H Θ h)(a:Keeps h Z)(r:RV F U h v x)(b:P (k v H)):Q x ⟨Z,g,u,t',B⟩:=K v H U Z t' x aQ (aZ.of_keeps a) (R.keeps a) (r.mono aQ (aZ.of_keeps a)) b
theorem cZ.range(K:cZ F g u B Θ U h P k Q)(R:Lu F U H Θ h){a b c:Int}{d v w:Tok}(f:P (k (.eF a b c) H)):Q (.ref h.objs.size) ⟨h.push {cls:=.type "range",data:=.fields #[.int a d,.int b v,.int c w]},g,u,t',B⟩:=by have k1:Keeps h (h.push {cls:=.type "range",data:=.fields #[.int a d,.int b v,.int c w]}):=λb o e=>dJ _ e;exact K _ _ U _ t' _ aQ (aZ.of_keeps k1) (R.keeps k1) (.eF (kA h rfl)) f
theorem Nt(a:0<=i)(b:i<1000000):i.natAbs.log2<1920:=by
 have:i.natAbs.log2<=i.natAbs:=Nat.log2_le_self _;by_cases z:i.natAbs=0;·rwa[z];decide
 ·have:=Nat.log2_lt z (k:=20)|>.mpr (by lia);lia
theorem insI_perm(x:Int)(l:List Int):(Mw x l).Perm (x::l):=by
 induction l with
 |nil=>exact .refl _
 |cons y r a=>
  rwa[vH];by_cases q:x<=y;·rwa[aI q];rfl
  ·rwa[aH q];exact(List.Perm.cons y a).trans (List.Perm.swap _ _ _)
theorem F6(x:Int){l:List Int}(p:l.Pairwise (·<=·)):(Mw x l).Pairwise (·<=·):=by
 induction l with
 |nil=>exact List.pairwise_cons.mpr ⟨λz9 h=>aV h List.not_mem_nil,.nil⟩
 |cons y r b=>
  have p1:=(List.pairwise_cons.mp p).1;rwa[vH];by_cases q:x<=y;·rwa[aI q];exact List.pairwise_cons.mpr ⟨λz a=>(bV.mp a).elim (λe=>e▸q) λa=>Int.le_trans q (p1 z a),p⟩
  ·rwa[aH q];exact List.pairwise_cons.mpr ⟨λz a=>(bV.mp ((insI_perm x r).mem_iff.mp a)).elim (λe=>by rwa[e];lia) λa=>p1 z a,b (List.pairwise_cons.mp p).2⟩
theorem sortI_perm:∀(l:List Int),(l.foldr Mw []).Perm l
 |[]=>.refl _
 |x::r=>(insI_perm x _).trans (List.Perm.cons x (sortI_perm r))
theorem vK:∀(l:List Int),(l.foldr Mw []).Pairwise (·<=·)
 |[]=>.nil
 |x::r=>F6 x (vK r)
theorem CG{l m:List Int}(p:l.Perm m)(a:l.Pairwise (·<=·))(b:m.Pairwise (·<=·)):l=m:=p.eq_of_pairwise (λz9 z9 z9 z9 x y=>Int.le_antisymm x y) a b
theorem RR{vs:List Value}{ns:List Int}(a:IntsAre vs ns):b9 F U h (ns.map .int) vs:=by
 induction a with
 |nil=>exact .nil
 |cons n t _ b=>exact .cons (.int _ _) b
theorem G2{l:List (V×V)}{kvs:List (Int×Value)}{b:List Int}(r:DR F U h V.int l kvs)(e:My (l.map (·.1))=some b):b=kvs.map (·.1):=by
 induction r generalizing b with
 |nil=>have c:=aM e;subst c;rfl
 |cons a _ d=>exact Mn e λq' eq e=>by refine cM e ?_;rwa[bX];rwa[d eq];rfl
theorem RJ{l:List (V×V)}{s:List Int}(O:cA F)(R:Lu F U H Θ h)(K:cZ F g u B Θ U h P k Q)(N:A.handled=none)(S:U[n]?=some a)(el:H[n]?=some (.dict l))(r:My (l.map (·.1))=some s)(f:s.length<64)(T:P (k (.ref H.length) (H++[.list ((s.foldr Mw []).map .int)]))):wpAny F.mo A (call (.builtin "sorted") [.ref a]) Q E ⟨h,g,u,t,B⟩:=by
 refine cY (R.dict el) λa' f1 f2 f3=>?_;rw[S]at f1;clear el;have C:=aM f1;subst C;have W:(a==sysModules)=false:=by have:a≠sysModules:=λz=>O.RS (z▸f3);simpa using this
 have j:uH F U h a l:=by
  rcases f2 with f2|⟨kvs,q1,q2⟩;·exact f2
  ·cases q2 with
   |nil=>exact⟨[],tB q1,.nil⟩
   |cons _ _=>rw[bX]at r;cases r
 refine aW j ?_;clear j;intro kvs X Y;have ek:=G2 Y r;clear r;subst ek;rw[bO]at f;refine oE (X.dictAt) λep D=>?_;refine Calls.call_function_entry kind_sorted plain_sorted entry_sorted (args_sorted1 _) ?_;unfold Builtin.«sorted»;refine aF (m:=checkCount "sorted" 1 1 _) (a_ ?_);refine aF (kdu_collect (A:=A.in1) (kdl_dict (knd:=intKind F.prog F.w) (kvs:=kvs) (ep:=ep) W) N D (by rwa[d7];lia) λZ tk acc hk c=>?_)
 have hI:IntsAre acc.toList (kvs.map (·.1)):=by
  refine oA c ?_;clear c;intro q1 q2
  have key:∀(vs:List Value)(ks:List (Int×Value)),vs.length=ks.length->(∀(i:Nat)(v:Value),vs[i]?=some v->∃k x,ks[i]?=some (k,x)/\(intKind F.prog F.w).is k v=true)->IntsAre vs (ks.map (·.1)):=by
   intro vs
   induction vs with
   |nil=>intro ks e _;clear a_1;induction ks using List.casesOn with|nil=>exact .nil|cons _ _=>cases e
   |cons v vs ih=>
    intro ks e q
    induction ks using List.casesOn with
    |nil=>cases e
    |cons y ks=>refine sY (q 0 v rfl) λk x z1 I=>?_;have C:=aM z1;subst C;refine oE (Value.isInt_shape I) λtk aG=>?_;clear I;subst aG;exact .cons _ _ (ih ks (by simpa using e) λi w hw=>q (i+1) w (by simpa using hw))
  exact key _ _ (by rwa[Array.length_toList];exact q1) λi v hv=>q2 i v (by refine cM Array.getElem?_toList ?_;exact hv)
 have J:acc.toList.length=kvs.length:=by rwa[Array.length_toList];exact c.1
 refine aF (wpAny_newList ?_ (by rwa[J];rwa[d7];lia));have d:(Z.push (seqObj "list" acc.toList.toArray 0)).get? Z.objs.size=some (seqObj "list" acc.toList.toArray 0):=kA _ rfl;refine aF (cH (wpAny_call_entry slot_list_sort ⟨_,d,rfl⟩ entry_list_sort (list_sort_tree d hI (by rwa[J];exact f) λout G a1 L M=>⟨_,rfl,?_⟩) (args_list_sort _)));refine a_ ⟨_,rfl,?_⟩;have en:G=(kvs.map (·.1)).foldr Mw []:=CG (L.trans (sortI_perm _).symm) M (vK _);clear L M;subst en;refine oE (sortedHeap_at (out:=out) d) λe p=>?_;refine K.u3 (a:=Z.objs.size) R (RR a1) (λb o e=>?_) ?_ ⟨e,p⟩ T;·have hb:=hk b o e;rwa[sortedHeap_old (Nat.ne_of_lt (Heap.lt_size hb)) (by rw[Heap.size_push];exact Nat.lt_succ_of_lt (Heap.lt_size hb))];exact dJ _ hb
 ·cases z:h.get? Z.objs.size with
  |none=>rfl
  |some o=>exact aV (Heap.lt_size (hk _ _ z)) (Nat.lt_irrefl _)
end
theorem F7{xs:Array Value}{Q:Option Value->Shared->Prop}(c:s.heap.PlainList a xs)(l:A.handled=none)(h:∀Z tk,Keeps s.heap Z->Q none {s with heap:=Z,toks:=tk}):wpAny (model prog w) A (PySem.getAttr? (.ref a) "keys") Q E s:=by
 refine oE c ?_;clear c;intro k c;obtain⟨hp,g,d,tk,B⟩:=s;have j:∀f,(⟨hp,g,d,f,B⟩:Shared).TypeIs (.ref a) "list":=λz9=>⟨_,c,rfl⟩;have b:typeLookup (.type "list") "keys"=pure none:=am_miss_of_fast (by decide+kernel);have f1:=sub_AttributeError;have f3:=PySem.F.slot_list_getattribute.lookup;have f4:=PySem.F.slot_list_getattribute.bind (.ref a);have f5:=am_list_getattr_none;unfold PySem.getAttr? getAttrBy? getAttrBy;repeat(any_goals(first|assumption|exact j _|((with_reducible change wpAny _ _ (call (Value.builtin "list.__getattribute__") _ _) _ _ _);refine call_meets PySem.F.slot_list_getattribute (j _) am_entry_list_getattribute (PySem.F.args_list_getattribute_2 _ _) (meets_getattribute_miss_list a xs k #[] "keys" _ b (by decide) (by rw[d7];decide)) ⟨c,l,λZ f e i=>?_⟩)|wp_step))
 refine wU (i.there) λt' m he=>?_;change wpAny _ _ (getattributeRaised _ _ _ _ _ _ _) _ _ _;unfold getattributeRaised;repeat(any_goals(first|assumption|wp_step))
 exact h _ _ i.keeps
theorem qX:entryFor table "dict.update.loop"=some Builtin.«dict.update.loop»:=entryFor_of_tree (by kernel_rfl)
theorem j8:plainId "dict.update.loop"=true:=by decide+kernel
def YX(h:Heap)(x:Value)(p:Int×Value):Prop:=∃T o n t,x=.ref T/\h.get? T=some o/\o.cls=.type "tuple"/\o.data=.seq #[.int p.1 t,p.2] n
inductive nT(h:Heap):List Value->List (Int×Value)->Prop
 |nil:nT h [] []
 |cons{x p xs Y}:YX h x p->nT h xs Y->nT h (x::xs) (p::Y)
theorem nT.keep{xs Y}(r:nT h xs Y)(k:∀b o,h.get? b=some o->o.cls=.type "tuple"->Z.get? b=some o):nT Z xs Y:=by
 induction r with
 |nil=>exact .nil
 |cons a _ d=>refine i7 a ?_;clear a;intro T o n c;refine fN c ?_;clear c;intro t q1 q2 q3 q4;exact .cons ⟨T,o,n,t,q1,k _ _ q2 q3,q3,q4⟩ d
variable{R:Result->Shared->Prop}
set_option tactic.hygienic true in
theorem PJ{A:Around}{d I l:Addr}{items:Array Value}(W:A.handled=none)(M:d≠I)(ld:l≠d)(X:l≠I):
 ∀(Y:List (Int×Value))(i:Nat)(s:Shared)(acc:List (Int×Value))(u:Tok),s.heap.DictOf (intKind prog w) d acc->s.heap.IsListIter I l i->s.heap.IsList l items->nT s.heap (items.toList.drop i) Y->acc.length+Y.length<=1000->
  (∀Z tk,Z.DictOf (intKind prog w) d (Y.foldl (λa p=>stored a p.1 p.2) acc)->(∀b o,b≠d->b≠I->s.heap.get? b=some o->Z.get? b=some o)->R (.ok (.ret .none)) {s with heap:=Z,toks:=tk})->
  codeAny (model prog w) A (.builtin "dict.update.loop" ⟨[.ref d,.ref I,.int i u,.none],[]⟩) R s:=by
 intro Y
 induction Y with
 |nil=>
  intro i s acc u m hit F hp _ N;refine codeAny_builtin qX ?_;rwa[Around.under_plainId j8 _];have O:items[i]?=none:=by generalize e:items.toList.drop i=r at hp;cases hp;refine cM Array.getElem?_toList ?_;rewrite[List.getElem?_eq_none];rfl;exact List.drop_eq_nil_iff.mp e
  show wpAny _ A.in1 (pyNext (.ref I)>>=_) _ _ s;refine aF (wpAny_pyNext_list_end W hit F O λZ hs=>?_);show wpAny _ A.in1 (Builtin.Dict.addKeywords d []>>=λz9=>ret Value.none) _ _ _;refine aF (a_ (a_ (N Z _ ?_ λb o z9 g e=>hs b o g e)));refine m7 m ?_;clear m;intro o es ep ho r;exact⟨o,es,ep,hs d o M ho,r⟩
 |cons p Y ih=>
  intro i s acc u m hit F hp S N;refine codeAny_builtin qX ?_;rwa[Around.under_plainId j8 _]
  obtain⟨x,O,G,q⟩:∃x,items[i]?=some x/\YX s.heap x p/\nT s.heap (items.toList.drop (i+1)) Y:=by
   generalize e:items.toList.drop i=r at hp
   cases hp with
   |cons a b=>
    rename_i x xs;have e1:items.toList[i]?=some x:=by refine cM List.head?_drop ?_;rwa[e];rfl
    have e2:items.toList.drop (i+1)=xs:=by refine cM List.tail_drop ?_;rwa[e];rfl
    exact⟨_,by refine cM Array.getElem?_toList ?_;exact e1,a,by rwa[e2];exact b⟩
  show wpAny _ A.in1 (pyNext (.ref I)>>=_) _ _ s;refine aF (wpAny_pyNext_list_item hit F O λZ k hs=>?_);refine i7 G ?_;clear G;intro T o n H;refine fN H ?_;clear H;intro t cB U v P;subst cB;have TI:T≠I:=by rintro rfl;refine cY hit ?_;clear hit;intro o' c f _;rw[U]at c;have y:=aM c;subst y;rw[v]at f;simp at f
  have z:Z.get? T=some o:=(hs.2 T TI).trans U;dsimp only;refine aF (cH ?_);refine aF (wpAny_tryCatch ?_);unfold Builtin.Dict.pairItems;refine aF (wpAny_typeOf (T:="tuple") ⟨_,z,v⟩ ?_);rwa[aI (by decide)];refine aF (wpAny_seqItems z P (a_ ?_));have B:Z.DictOf (intKind prog w) d acc:=by refine m7 m ?_;clear m;intro o es ep ho r;exact⟨o,es,ep,(hs.2 d M).trans ho,r⟩
  show wpAny _ _ (holding [Value.int p.1 t,p.2] (dictSet d (.int p.1 t) p.2)) _ _ _;refine cH (wpAny_dictSet_pairs (intKind_is _ _ p.1 t) B (λJ K h=>?_) (by rwa[d7];simp at S;lia));have Td:T≠d:=by rintro rfl;refine eS B ?_;clear B;intro o' _ _ c f _;rw[z]at c;have y:=aM c;subst y;have:=f.1;rw[v]at this;simp at this
  have Q:J.IsList l items:=by refine aW F ?_;clear F;intro o ho r;exact⟨o,(h.2 l ld).trans ((hs.2 l X).trans ho),r⟩
  have C:J.IsListIter I l (i+1):=by refine aW k ?_;clear k;intro o ho r;exact⟨o,(h.2 I (Ne.symm M)).trans ho,r⟩
  refine a_ ⟨plainId_quiet j8 _,ih (i+1) _ _ 0 K C Q (q.keep λb ob e V=>?_) ?_ λL tk D E=>?_⟩
  ·have g:b≠I:=by rintro rfl;refine cY hit ?_;clear hit;intro o' c f _;rw[e]at c;have y:=aM c;subst y;rw[V]at f;simp at f
   have j:b≠d:=by rintro rfl;refine eS m ?_;clear m;intro o' _ _ c f _;rw[e]at c;have y:=aM c;subst y;have:=f.1;rw[V]at this;simp at this
   exact(h.2 b j).trans ((hs.2 b g).trans e)
  ·have:=stored_length_le acc p.1 p.2;simp at S;lia
  ·exact N L tk D λb o j g e=>E b o j g ((h.2 b j).trans ((hs.2 b g).trans e))
theorem FU{Q:Po}{l:Addr}{Y:List (Int×Value)}(B:A.handled=none)(v:s.heap.PlainList l items)(hp:nT s.heap items.toList Y)(C:Y.length<=1000)(h:∀Z tk,Z.DictOf (intKind prog w) s.heap.objs.size (Y.foldl (λa p=>stored a p.1 p.2) [])->Keeps s.heap Z->Q (.ref s.heap.objs.size) {s with heap:=Z,toks:=tk}):wpAny (model prog w) A (call (.type "dict") [.ref l]) Q E s:=by
 refine callType_codes (Q₁:=λobj g=>obj=.ref s.heap.objs.size/\g={s with heap:=s.heap.push {cls:=.type "dict",data:=.dict #[]}}) PySem.F.kt_called_dict (PySem.F.kt_typeCall_dict_1 _) PySem.F.entry_dict_init (kt_code_dict_new _ ⟨rfl,rfl⟩) ?_;rintro obj g⟨rfl,rfl⟩;have c:(s.heap.push {cls:=.type "dict",data:=.dict #[]}).DictOf (intKind prog w) s.heap.objs.size []:=Heap.DictOf.new s.heap;have k1:Keeps s.heap (s.heap.push {cls:=.type "dict",data:=.dict #[]}):=λb o e=>dJ _ e;have j:(s.heap.push {cls:=.type "dict",data:=.dict #[]}).PlainList l items:=let⟨n,e⟩:=v;⟨n,k1 _ _ e⟩;have x:l≠s.heap.objs.size:=by refine oE v ?_;clear v;intro n e;exact Nat.ne_of_lt (Heap.lt_size e)
 refine⟨c.typeIs,PySem.F.args_dict_init_2 _ _,?_⟩;unfold Builtin.«dict.__init__»;refine aF ?_;unfold Builtin.Dict.selfAndRest;refine aF (wpAny_notOrdered_dict c.typeIs ?_);show wpAny _ _ (pure (s.heap.objs.size,[Value.ref l])) _ _ _;refine a_ ?_;show wpAny _ _ (Builtin.Dict.updateFrom "dict.__init__" s.heap.objs.size (.ref l) [] .none) _ _ _;unfold Builtin.Dict.updateFrom;refine aF (wpAny_typeOf (T:="list") j.isList.typeIs ?_);rwa[aI (by decide)];refine aF (F7 j B λZ tk hk=>?_);simp only[Option.isNone_none,if_true];refine aF (wpAny_rule ?_);have f:Z.PlainList l items:=let⟨n,e⟩:=j;⟨n,hk _ _ e⟩;refine aF (wpAny_pyIter_list f.isList ?_);dsimp only;have k2:Keeps Z (Z.push {cls:=.type "list_iterator",data:=.fields #[.ref l,.int 0 0]}):=λb o e=>dJ _ e;have y:(Z.push {cls:=.type "list_iterator",data:=.fields #[.ref l,.int 0 0]}).DictOf (intKind prog w) s.heap.objs.size []:=by refine m7 c ?_;clear c;intro o es ep ho r;exact⟨o,es,ep,k2 _ _ (hk _ _ ho),r⟩
 have i:s.heap.objs.size<Z.objs.size:=by refine m7 c ?_;clear c;intro o es ep ho r;exact Heap.lt_size (hk _ _ ho)
 have t:l<Z.objs.size:=by refine oE f ?_;clear f;intro n e;exact Heap.lt_size e
 have z:(Z.push {cls:=.type "list_iterator",data:=.fields #[.ref l,.int 0 0]}).PlainList l items:=let⟨n,e⟩:=f;⟨n,k2 _ _ e⟩;refine a_ ⟨plainId_quiet j8 _,?_⟩;refine PJ (A:=A.in1) (d:=s.heap.objs.size) (I:=Z.objs.size) (l:=l) (items:=items) B (Nat.ne_of_lt i) x (Nat.ne_of_lt t) Y 0 ⟨Z.push {cls:=.type "list_iterator",data:=.fields #[.ref l,.int 0 0]},s.gens,s.drawn,tk,s.os⟩ [] 0 y ⟨_,kA _ rfl,rfl,rfl⟩ z.isList ?_ (by simpa using C) λu k m q=>?_;·exact hp.keep λb o e z9=>k2 _ _ (hk _ _ (k1 _ _ e))
 ·refine⟨rfl,h u k m λb o e=>?_⟩;have lt:=Heap.lt_size e;exact q b o (Nat.ne_of_lt lt) (Nat.ne_of_lt (Nat.lt_trans lt i)) (k2 _ _ (hk _ _ (k1 _ _ e)))
variable{rest:List Value}{cf:CF}{f:Value}
section
variable{k:Kv}{Q:Po}
theorem O8(r:RV F U h (.tup l) x):∃a o items n,x=.ref a/\h.get? a=some o/\o.cls=.type "tuple"/\o.data=.seq items n/\b9 F U h l items.toList:=by cases r with|tup e1 b c d=>exact⟨_,_,_,_,rfl,e1,b,c,d⟩
set_option tactic.hygienic true in
theorem N3{Y:List (Int×V)}(e:Mx l=some Y)(r:b9 F U h l xs):∃f:List (Int×Value),nT h xs f/\f.length=Y.length/\(∀{acc:List (Int×Value)}{dl:List (V×V)},DR F U h V.int dl acc->(acc.map (·.1)).Nodup->
 DR F U h V.int (Y.foldl (λd p=>iQ (.int p.1) p.2 d) dl) (f.foldl (λa p=>stored a p.1 p.2) acc)):=by
 induction l generalizing Y xs with
 |nil=>have m:=aM e;subst m;exact EH r ⟨[],.nil,rfl,λa z9=>a⟩
 |cons v l s=>
  refine y6 r λy ys t u=>rt (p:=(·=some Y)) t aS e λl' T o items n e1 w z A e=>i2 (Gs:=λB=>items.toList=B->_) (p:=(·=some Y)) A aS e (λa b x y C D e=>ri (G:=λx=>items.toList=[x,y]->_) (p:=(·=some Y)) C aS e λi tk z9 e=>Mn e λq eq e g=>?_) rfl;subst e;refine cY (s eq u) λf q1 q2 q3=>?_;have E:items=#[.int i tk,y]:=by apply Array.ext';rwa[g];rfl
  refine⟨(i,y)::f,.cons ⟨T,o,n,tk,rfl,e1,w,by rwa[z];rwa[E];rfl⟩ q1,by simp[q2],λH nd=>?_⟩;rwa[List.foldl_cons];rwa[List.foldl_cons];exact q3 (H.any kJ D nd) (c nd)
where
 c{acc:List (Int×Value)}{k:Int}{v:Value}(nd:(acc.map (·.1)).Nodup):((stored acc k v).map (·.1)).Nodup:=by
  unfold stored;split
  ·have:(acc.map λj=>if j.1=k then(j.1,v)else j).map (·.1)=acc.map (·.1):=by rwa[List.map_map];apply List.map_congr_left;intro x _;simp only[Function.comp];split<;>rfl
   rwa[this];exact nd
  ·rename_i q;rwa[eZ];rw[List.nodup_append];refine⟨nd,by simp,λa I b hb=>?_⟩;simp at hb;subst hb;rintro rfl;refine aW (c7.mp I) λp hp aG=>?_;subst aG;exact q (List.any_eq_true.mpr ⟨p,hp,by simp⟩)
theorem cZ.BF(K:cZ F g u B Θ U h P k Q)(R:Lu F U H Θ h){l:List (V×V)}{kvs:List (Int×Value)}(b:Keeps h Z)(new:h.get? a=none)(c:Z.DictOf (intKind F.prog F.w) a kvs)(r:DR F U h V.int l kvs)(d:P (k (.ref H.length) (H++[.dict l]))):Q (.ref a) ⟨Z,g,u,t',B⟩:=by refine K _ _ (U++[a]) _ t' _ ⟨_,rfl⟩ (aZ.of_keeps b) (R.z6 (vo:=.dict l) b new (let⟨o,_,_,e,_⟩:=c;⟨o,e⟩) λown=>.inl ⟨kvs,c,r.mono ⟨_,rfl⟩ (aZ.of_keeps b)⟩) ?_ d;refine .ref ?_;rwa[jX (by rwa[R.len];exact Nat.le_refl _)];rwa[R.len];rewrite[Nat.sub_self];rfl
section
variable{vs:List V}{w:V}
theorem UZ(stuck:cS P)(R:Lu F U H Θ h)(K:cZ F g u B Θ U h P k Q)(r:b9 F U h vs xs)(a:P (L5 vs H k)):wpAny F.mo A (call (.type "range") xs) Q E ⟨h,g,u,t,B⟩:=cV (c:=vs.length=1) a (λz9 a=>i1 r stuck a λv x z9 b a=>ri b stuck a λi e z9 a=>call_range_1 (K.range R a)) λz9 a=>cV (c:=vs.length=2) a (λz9 a=>i2 r stuck a λv w x y b d a=>ri b stuck a λi e z9 a=>ri d stuck a λi e z9 a=>call_range_2 (K.range R a)) λz9 a=>i3 r stuck a λv w e x y z b d f a=>ri b stuck a λi m z9 a=>ri d stuck a λj n z9 a=>ri f stuck a λl o z9 a=>bU stuck a λq a=>by clear z9;subst q;exact call_range_3 (by decide) (K.range R a) (hp:=.inl (PyProof.noPylong_small (by decide)))
theorem U0(stuck:cS P)(R:Lu F U H Θ h)(K:cZ F g u B Θ U h P k Q)(r:RV F U h v x)(b:P (MT v H k)):wpAny F.mo A (call (.type "tuple") [x]) Q E ⟨h,g,u,t,B⟩:=rl r stuck R b λn a l items z9 z9 f2 f3 b=>bU stuck b λq b=>by have z:=f3.length;rw[Array.length_toList]at z;exact call_tuple_list f2.isList (λZ hk=>(K.mono aQ (aZ.of_keeps hk)).newTuple (R.keeps hk) (f3.mono aQ (aZ.of_keeps hk)) b) (by rwa[d7];lia)
theorem An(stuck:cS P)(R:Lu F U H Θ h)(K:cZ F g u B Θ U h P k Q)(r:RV F U h v x)(b:P (TG v H k)):wpAny F.mo A (call (.type "list") [x]) Q E ⟨h,g,u,t,B⟩:=cV (c:=qU v=true) b (λz9 b=>rt r stuck b λl a o items n e1 f i e b=>bU stuck b λq b=>by have z:=e.length;rw[Array.length_toList]at z;exact call_list_seq a (.inr rfl) e1 f i (λZ j hk d=>K.u3 R e hk gE ⟨_,d⟩ b) (by rwa[d7];lia)) λz9 b=>rl r stuck R b λn a l items _ _⟨m,f2⟩f3 b=>bU stuck b λq b=>by have z:=f3.length;rw[Array.length_toList]at z;exact call_list_seq a (.inl rfl) f2 rfl rfl (λZ j hk d=>K.u3 R f3 hk gE ⟨_,d⟩ b) (by rwa[d7];lia)
theorem Bz(stuck:cS P)(R:Lu F U H Θ h)(K:cZ F g u B Θ U h P k Q)(r:RV F U h v x)(b:P (X7 v H k)):wpAny F.mo A (call (.builtin "len") [x]) Q E ⟨h,g,u,t,B⟩:=by
 have lst:∀{l:List V}{a:Addr}{items:Array Value},h.PlainList a items->b9 F U h l items.toList->P (if l.length<=1000 then k (.int l.length) H else .stuck)->wpAny F.mo A (call (.builtin "len") [.ref a]) Q E ⟨h,g,u,t,B⟩:=λf2 f3 b=>bU stuck b λq b=>by have z:=f3.length;rw[Array.length_toList]at z;refine call_len_list f2.isList (by lia) ?_;rwa[z];exact K.int R b
 exact cV (c:=qU v=true) b (λz9 b=>rt r stuck b λl a o items n e1 d e f b=>bU stuck b λq b=>by have z:=f.length;rw[Array.length_toList]at z;refine PyProof.Rows.len_tuple ⟨o,e1,d,n,e⟩ (by lia) ?_;rwa[z];exact K.int R b) λz9 b=>cV (c:=qF v=true) b (λz9 b=>Fb r stuck b λl a items e1 d b=>lst (z0 e1 (Z:=h) (let⟨n,ho⟩:=e1;(R.stays _ _ ho).trans ho.symm)) d b) λz9 b=>rl r stuck R b λn a l items z9 z9 f2 f3 b=>lst f2 f3 b
theorem De(stuck:cS P)(R:Lu F U H Θ h)(K:cZ F g u B Θ U h P k Q)(r:RV F U h v x)(r2:RV F U h w y)(b:P (Y6 v w H k)):wpAny F.mo A (call (.builtin "isinstance") [x,y]) Q E ⟨h,g,u,t,B⟩:=by
 have typ:∀{s:String},FZ s w=true->y=.type s:=λ{s}q=>by
  clear b;induction w using V.casesOn with
  |typ t=>cases r2;rwa[eq_of_beq q];rfl
  |_=>exact aV q Bool.false_ne_true
 refine cV (c:=FZ "str" w=true) b (λq b=>?_) λz9 b=>bU (c:=FZ "int" w=true) stuck b λq b=>?_;·rwa[typ q];exact cV (c:=qS v=true) b (λq b=>En r q λs t=>IsiPair.str_str (K.bool R b)) λz9 b=>cV (c:=qU v=true) b (λq b=>ZN r q λl a o items n e1 d z9 z9=>IsiPair.tuple_str e1 d (K.bool R b)) λz9 b=>rl r stuck R b λn a l items _ _⟨e,f2⟩f3 b=>IsiPair.list_str f2 rfl (K.bool R b)
 ·rwa[typ q];refine cV (c:=qI v=true) b (λq b=>Lj r q λs t=>IsiPair.int_int (K.bool R b)) λz9 b=>bU (c:=(qS v||qU v)=true) stuck b λq b=>?_;rcases Bool.or_eq_true_iff.mp q with q|q;·exact En r q λs t=>IsiPair.str_int (K.bool R b)
  ·exact ZN r q λl a o items n e1 d z9 z9=>IsiPair.tuple_int e1 d (K.bool R b)
theorem Y5(stuck:cS P)(R:Lu F U H Θ h)(j:A.guards=some [])(y:A.units+200<cLine)(K:cZ F g u B Θ U h P k Q)(r:RV F U h v x)(m:P (TH v H k)):wpAny F.mo A (call (.builtin "repr") [x]) Q E ⟨h,g,u,t,B⟩:=eC stuck m λs es f=>dM (c:=qU v=true) es λp es=>lA es λd w es=>dM es λq es=>by injection es with es;subst es;simp only[dE,Bool.not_eq_true',decide_eq_true_eq]at q;refine oE (jT R _ _ _ _ w r) λas i=>?_;exact ZN (G:=λx=>Reads h x d as->wpAny F.mo A (call (.builtin "repr") [x]) Q E ⟨h,g,u,t,B⟩) r p (λl a o items n z9 z9 z9 z9 i=>repr_of_reads' i q.1.1.1 (λz=>by rw[q.1.1.2]at z;exact L9 z) j (by lia) (λb o e=>e) (λZ C tk hk=>K.kept R hk (.str _ _) f) (by rwa[d7];lia)) i
end
theorem HV{f:V}{vs:List V}(O:cA F)(stuck:cS P)(R:Lu F U H Θ h)(d:A.handled=none)(m:A.guards=some [])(o:A.units+200<cLine)(K:cZ F g u B Θ U h P k Q)(p:RV F U h f x)(rs:b9 F U h vs xs)(b:P (aT f vs H k)):wpAny F.mo A (call x xs) Q E ⟨h,g,u,t,B⟩:=by
 cases p with
 |typ s=>refine cV (c:=s="range") b (λe b=>e▸UZ stuck R K rs b) λz9 b=>cV (c:=s="tuple") b (λe b=>i1 rs stuck b λv x z9 r b=>e▸U0 stuck R K r b) λz9 b=>cV (c:=s="list") b (λe b=>i1 rs stuck b λv x z9 r b=>e▸An stuck R K r b) λz9 b=>cV (c:=s="str") b (λe b=>i1 rs stuck b λv x z9 r b=>ri r stuck b λi z z9 b=>bU stuck b λq b=>e▸PySem.P.str_of_int (Nt q.1 q.2) (K.here R (.str _ _) b)) λz9 b=>bU (c:=s="dict") stuck b λe b=>i1 rs stuck b λv x z9 r b=>rl r stuck R b λn a l items z9 z9 f2 f3 b=>eC stuck b λY ep b=>bU stuck b λq b=>?_;refine cY (N3 ep f3) λI q1 q2 q3=>?_;exact e▸FU d f2 q1 (by lia) λZ tk C hk=>K.BF R hk gE C (q3 .nil .nil) b
 |bi s=>
  refine cV (c:=s="len") b (λe b=>i1 rs stuck b λv x z9 r b=>e▸Bz stuck R K r b) λz9 b=>cV (c:=s="min") b (λe b=>i2 rs stuck b λv w x y r r2 b=>ri r stuck b λi z z9 b=>ri r2 stuck b λj J z9 b=>e▸min_two_ints d λZ tk hk=>?_) λz9 b=>cV (c:=s="sorted") b (λe b=>i1 rs stuck b λv x z9 r b=>rn r stuck b λn a z9 D b=>Av stuck b λl el b=>eC stuck b λL G b=>bU stuck b λq b=>e▸RJ O R K d D el G q b) λz9 b=>cV (c:=s="isinstance") b (λe b=>i2 rs stuck b λv w x y r r2 b=>e▸De stuck R K r r2 b) λz9 b=>bU (c:=s="repr") stuck b λe b=>i1 rs stuck b λv x z9 r b=>e▸Y5 stuck R m o K r b;by_cases q:j<i;·rw[aI q]at b⊢;exact K.kept R hk (.int _ _) b
  ·rw[aH q]at b⊢;exact K.kept R hk (.int _ _) b
 |_=>exact(stuck b).elim
def AC(F:Fix)(m:Str)(f:Value):Kd->Prop
 |.list=>(m="append"/\f=.builtin "list.append")\/(m="extend"/\f=.builtin "list.extend")\/(m="pop"/\f=.builtin "list.pop")
 |.dict=>m="pop"/\f=.builtin "dict.pop"
 |.inst c=>∃C D a,E5 F c C/\Lx (.aL c m)=some D/\f=.ref a/\kD F D a
theorem GG{o:V}{m:Str}{j:Kd}{pl:Sem Bool}{Q:Value×List Value->Shared->Prop}(O:cA F)(R:Lu F U H Θ h)(K:RV F U h o x)(e:vI o m H=some j)(i:∀f,AC F m f j->Q (f,[x]) ⟨h,g,u,t,B⟩):wpAny F.mo A (getMethod x m pl) Q E ⟨h,g,u,t,B⟩:=by
 refine rn (G:=λx=>(∀f,AC F m f j->Q (f,[x]) ⟨h,g,u,t,B⟩)->wpAny F.mo A (getMethod x m pl) Q E ⟨h,g,u,t,B⟩) (p:=(·=some j)) K aS e (λn a z9 r e i=>?_) i;refine f9 (c:=qL H[n]?=true) e (λc e=>dM e λq e=>?_) λz9 e=>f9 (c:=qD H[n]?=true) e (λc e=>dM e λq e=>?_) λz9 e=>ia (p:=(·=some j)) aS e λc as el e=>dM e λq e=>?_
 ·injection e with e;subst e;clear e;obtain⟨l,el⟩:∃l,H[n]?=some (.list l):=by
   cases z:H[n]? with
   |none=>rw[z]at c;exact aV c Bool.false_ne_true
   |some o=>induction o using VO.casesOn with
    |list l=>exact⟨l,rfl⟩
    |_=>rw[z]at c;exact aV c Bool.false_ne_true
  clear e;obtain⟨I,items,f1,⟨n,f2⟩,f3⟩:=R.list el;rw[r]at f1;clear e;have k:=aM f1;subst k;have nd:∀b,Value.ref a=.ref b->∃o,(⟨h,g,u,t,B⟩:Shared).heap.get? b=some o/\o.dict=none:=λb hb=>by cases hb;exact⟨_,f2,rfl⟩
  rcases q with rfl|rfl|rfl;·exact getMethod_builtin (T:="list") ⟨_,f2,rfl⟩ PySem.F.plainAttrs_list PySem.F.slot_list_append PySem.F.type_list_append nd (i _ (.inl ⟨rfl,rfl⟩))
  ·exact getMethod_builtin (T:="list") ⟨_,f2,rfl⟩ PySem.F.plainAttrs_list PySem.F.slot_list_extend PySem.F.type_list_extend nd (i _ (.inr (.inl ⟨rfl,rfl⟩)))
  ·exact getMethod_builtin (T:="list") ⟨_,f2,rfl⟩ PySem.F.plainAttrs_list PySem.F.slot_list_pop PySem.F.type_list_pop nd (i _ (.inr (.inr ⟨rfl,rfl⟩)))
 ·injection e with e;subst e;clear e;obtain⟨l,el⟩:∃l,H[n]?=some (.dict l):=by
   cases z:H[n]? with
   |none=>rw[z]at c;exact aV c Bool.false_ne_true
   |some o=>induction o using VO.casesOn with
    |dict l=>exact⟨l,rfl⟩
    |_=>rw[z]at c;exact aV c Bool.false_ne_true
  refine cY (R.dict el) λI f1 f2 f3=>?_;rw[r]at f1;clear e f3;have k:=aM f1;subst k;clear e;subst q;obtain⟨o,es,ep,q1,q2⟩:∃o es ep,h.get? a=some o/\o.ExactDict/\o.data=.dict es ep:=by rcases f2 with⟨kvs,⟨o,es,ep,q1,q2,q3,_⟩,_⟩|⟨kvs,⟨o,es,ep,q1,q2,q3,_⟩,_⟩<;>exact⟨o,es,ep,q1,q2,q3⟩
  exact getMethod_builtin (T:="dict") ⟨_,q1,q2.1.1⟩ PySem.F.plainAttrs_dict PySem.F.slot_dict_pop PySem.F.type_dict_pop (λb hb=>by cases hb;exact⟨_,q1,q2.1.2.1⟩) (i _ ⟨rfl,rfl⟩)
 ·injection e with e;subst e;rw[dE]at q;obtain⟨I,C,d,o,od,L,q1,q2,q3,q4,M,N,P,S⟩:=R.instAt el;rw[r]at q1;clear M;have k:=aM q1;subst k;have s:=O.cls _ _ q2
  obtain⟨D,J⟩:∃D,Lx (.aL c m)=some D:=by
   have:=q.2;unfold gO at this
   cases z:Lx (.aL c m)with
   |none=>rw[z]at this;cases this
   |some D=>exact⟨D,rfl⟩
  refine cY (s.meths m D J) λf hf w W=>?_
  have hm:L m=none:=by
   have z:=S m;have n:=q.1;unfold gO at n
   cases y:aU m as with
   |none=>rw[y]at z;exact z
   |some v=>rw[y]at n;exact L9 n
  refine method_fn (R.iO O) q3 s.m5 s.getattr hf w ?_ (i _ ⟨C,D,f,q2,J,rfl,W⟩);unfold shadowIn;dsimp only;rwa[u_ P.1 N];rwa[hm];rfl
theorem wT(i:Int)(tk:Tok):(keyPart (.int i tk)).isSome=true:=by rfl
theorem wL(i:Str)(tk:Tok):(keyPart (.str i tk)).isSome=true:=by rfl
theorem A7{l:List (V×V)}{i:V}(O:cA F)(R:Lu F U H Θ h)(K:cZ F g u B Θ U h P k Q)(q:U[n]?=some a)(el:H[n]?=some (.dict l))(ri:RV F U h i x)(hr:rest=[]\/∃d,rest=[d])(ok:dR i l=true)(z:l.length<=100)(e:d8 i l=some v)(s:P (k v (H.set n (.dict (j5 i l))))):wpAny F.mo A (call (.builtin "dict.pop") (.ref a::x::rest)) Q E ⟨h,g,u,t,B⟩:=by
 refine cY (R.dict el) λJ f1 f2 f3=>?_;rw[q]at f1;clear f3;have C:=aM f1;subst C
 have b:argsOk "dict.pop" ⟨.ref a::x::rest,[]⟩:=by
  rcases hr with rfl|⟨d,rfl⟩;·exact PySem.F.args_dict_pop_2 _ _
  ·exact PySem.F.args_dict_pop_3 _ _ _
 have fin:∀{l':List (V×V)}{Z:Heap}{w:Value}{t':Nat},Heap.SameBut a h Z->(uH F U Z a l'\/xA F U Z a l')->RV F U h v w->l'=j5 i l->Q w ⟨Z,g,u,t',B⟩:=by
  intro l' Z w t' S r rv p;subst p;obtain⟨o,es,ep,q1,q3⟩:∃o es ep,h.get? a=some o/\o.data=.dict es ep:=by rcases f2 with⟨kvs,⟨o,es,ep,q1,q2,q3,_⟩,_⟩|⟨kvs,⟨o,es,ep,q1,q2,q3,_⟩,_⟩<;>exact⟨o,es,ep,q1,q3⟩
  have I:=eO S q1 (eN q3);obtain⟨D,_⟩:=R.vQ (vo':=.dict (j5 i l)) q el S q1 (eN q3) (by rcases r with⟨kvs,⟨o,es,ep,q1,q2,q3,_⟩,_⟩|⟨kvs,⟨o,es,ep,q1,q2,q3,_⟩,_⟩<;>exact⟨o,q1⟩) λown=>r;exact K _ _ _ _ t' w aQ I D (rv.mono aQ I) s
 refine rP (G:=λx=>argsOk "dict.pop" ⟨.ref a::x::rest,[]⟩->wpAny F.mo A (call (.builtin "dict.pop") (.ref a::x::rest)) Q E ⟨h,g,u,t,B⟩) ri f2 ok (λj tk kvs ex c f b=>?_) (λj tk kvs ex c f b=>?_) b;·have y:=DR.get kJ (k:=j) f;rw[<-ex,e]at y;refine y.elim λw y=>call_meetsIn PySem.F.slot_dict_pop c.mapOf.typeIs PySem.F.entry_dict_pop b (meets_dict_pop_there _ _ (intKind_is _ _ j tk) rest hr (wT j tk)) ⟨kvs,w,c,by rwa[f.length];rwa[d7];exact fS z (by decide),y.1,λZ m S=>?_⟩;exact fin S (.inl ⟨_,m,(f.del kJ (mS c)).mono aQ (sQ f2 S)⟩) y.2 (by rwa[ex];rfl)
 ·have y:=DR.get mF (k:=j) f;rw[<-ex,e]at y;refine y.elim λw y=>call_meetsIn PySem.F.slot_dict_pop c.mapOf.typeIs PySem.F.entry_dict_pop b (meets_dict_pop_there _ _ (strKind_is _ _ j tk) rest hr (wL j tk)) ⟨kvs,w,c,by rwa[f.length];rwa[d7];exact fS z (by decide),y.1,λZ m S=>?_⟩;exact fin S (.inr ⟨_,m,(f.del mF (mS c)).mono aQ (sQ f2 S)⟩) y.2 (by rwa[ex];rfl)
theorem yB:(items.eraseIdxIfInBounds (items.size-1)).toList=items.toList.dropLast:=by rwa[Array.toList_eraseIdxIfInBounds];rw[List.eraseIdx_eq_take_drop_succ];rwa[List.dropLast_eq_take];rwa[Array.length_toList];have:items.toList.drop (items.size-1+1)=[]:=List.drop_eq_nil_iff.mpr (by rwa[Array.length_toList];exact Nat.sub_le_iff_le_add.mp (Nat.le_refl _));rwa[this];rewrite[List.append_nil];rfl
theorem b9.dropLast(r:b9 F U h l xs):b9 F U h l.dropLast xs.dropLast:=by rwa[List.dropLast_eq_take];rwa[List.dropLast_eq_take];rwa[r.length];exact r.take _
theorem cZ.upd{l':List V}{b:Array Value}{w:Value}(K:cZ F g u B Θ U h P k Q)(R:Lu F U H Θ h)(c:U[n]?=some a)(el:H[n]?=some (.list l))(s:Heap.SameBut a h Z)(pl:Z.PlainList a b)(r:b9 F U h l' b.toList)(rv:RV F U h v w)(d:P (k v (H.set n (.list l')))):Q w ⟨Z,g,u,t',B⟩:=by obtain⟨j,items,f1,⟨m,f2⟩,f3⟩:=R.list el;rw[c]at f1;have f:=aM f1;subst f;have I:=eO s f2 (lY rfl);refine oA (R.vQ (vo':=.list l') c el s f2 (lY rfl) (let⟨n,e⟩:=pl;⟨_,e⟩) λown=>⟨b,pl,r.mono aQ I⟩) λi _=>?_;exact K _ _ _ _ t' w aQ I i (rv.mono aQ I) d
section
variable{vs:List V}{dl:List (V×V)}
theorem QL(stuck:cS P)(R:Lu F U H Θ h)(K:cZ F g u B Θ U h P k Q)(c:U[n]?=some a)(el:H[n]?=some (.list l))(f2:h.PlainList a items)(f3:b9 F U h l items.toList)(rs:b9 F U h vs xs)(b:P (HO n l vs H k)):wpAny F.mo A (call (.builtin "list.append") (.ref a::xs)) Q E ⟨h,g,u,t,B⟩:=i1 rs stuck b λv y z9 d b=>bU stuck b λq b=>by have e:=f3.length;rw[Array.length_toList]at e;refine wpAny_list_append_plain f2 (λZ pl s=>K.upd R c el s pl ?_ .none b) (by rwa[d7];lia);rwa[Array.toList_push];exact f3.append (.cons d .nil)
theorem Q_(stuck:cS P)(R:Lu F U H Θ h)(K:cZ F g u B Θ U h P k Q)(j:U[n]?=some a)(el:H[n]?=some (.list l))(f2:h.PlainList a items)(f3:b9 F U h l items.toList)(rs:b9 F U h vs xs)(c:P (IY n l vs H k)):wpAny F.mo A (call (.builtin "list.extend") (.ref a::xs)) Q E ⟨h,g,u,t,B⟩:=i1 rs stuck c λv y z9 o c=>rl o stuck R c λm b w e _ _⟨p,r⟩f c=>bU stuck c λq c=>by have s:=f3.length;have x:=f.length;rw[Array.length_toList]at s x;refine oE f2 ?_;clear f2;intro i d;refine call_meets PySem.F.slot_list_extend ⟨_,d,rfl⟩ PySem.F.entry_list_extend (PySem.F.args_list_extend_2 _ _) (AutoSeq1.list_extend_list_list_0 a items i b e p (by simp[Builtin.List.listTooLong,sizeLine];lia) (by rwa[d7];lia) (by rwa[d7];lia)) ⟨d,r,?_⟩;refine K.upd R j el (Heap.SameBut.update ..) (nZ ⟨i,d⟩ _) ?_ .none c;rwa[Array.toList_append];exact f3.append f
theorem X5(stuck:cS P)(R:Lu F U H Θ h)(K:cZ F g u B Θ U h P k Q)(j:U[n]?=some a)(el:H[n]?=some (.list l))(f2:h.PlainList a items)(f3:b9 F U h l items.toList)(rs:b9 F U h vs xs)(b:P (Z9 n l vs H k)):wpAny F.mo A (call (.builtin "list.pop") (.ref a::xs)) Q E ⟨h,g,u,t,B⟩:=bU (c:=vs.isEmpty=true) stuck b λc b=>eC stuck b λv ev b=>bU stuck b λq b=>by have f:=f3.length;rw[Array.length_toList]at f;rw[List.isEmpty_iff.mp c]at rs;refine oE f2 ?_;clear f2;intro i d;rw[List.getLast?_eq_getElem?]at ev;refine aW (f3.get ev) λw m e=>?_;refine EH rs (call_meets PySem.F.slot_list_pop ⟨_,d,rfl⟩ PySem.F.entry_list_pop (PySem.F.args_list_pop_1 _) (MeetsSeq.list_pop_last a items i w (by rwa[f];refine cM Array.getElem?_toList ?_;exact m) (by rwa[d7];lia)) ⟨d,?_⟩);refine K.upd R j el (Heap.SameBut.update ..) (nZ ⟨i,d⟩ _) ?_ e b;rwa[yB];exact f3.dropLast
theorem Y_(O:cA F)(stuck:cS P)(R:Lu F U H Θ h)(K:cZ F g u B Θ U h P k Q)(f:U[n]?=some a)(el:H[n]?=some (.dict dl))(rs:b9 F U h vs xs)(b:P (YZ n dl vs H k)):wpAny F.mo A (call (.builtin "dict.pop") (.ref a::xs)) Q E ⟨h,g,u,t,B⟩:=by
 refine cV (c:=vs.length=1) b (λz9 b=>i1 rs stuck b λv y z9 e b=>bU stuck b λok b=>eC stuck b λp ev b=>?_) λz9 b=>i2 rs stuck b λv w y z e l b=>bU stuck b λok b=>?_;·rw[dE,decide_eq_true_eq]at ok;exact A7 O R K f el e (.inl rfl) ok.1 ok.2 ev b
 ·rw[dE,decide_eq_true_eq]at ok
  cases ev:d8 v dl with
  |some p=>rw[ev]at b;exact A7 O R K f el e (.inr ⟨_,rfl⟩) ok.1 ok.2 ev b
  |none=>
   rw[ev]at b;refine cY (R.dict el) λq f1 f2 f3=>?_;rw[f]at f1;have o:=aM f1;subst o;have m:(a==sysModules)=false:=by have:a≠sysModules:=λz=>O.RS (z▸f3);simpa using this
   refine rP e f2 ok.1 (λj tk kvs ex d i=>?_) λj tk kvs ex d i=>?_;·have y:=DR.get kJ (k:=j) i;rw[<-ex,ev]at y;exact call_meetsIn PySem.F.slot_dict_pop d.mapOf.typeIs PySem.F.entry_dict_pop (PySem.F.args_dict_pop_3 _ _ _) (meets_dict_pop_default _ _ (intKind_is _ _ j tk) m (wT j tk) z) ⟨kvs,d,y,K.here R l b⟩
   ·have y:=DR.get mF (k:=j) i;rw[<-ex,ev]at y;exact call_meetsIn PySem.F.slot_dict_pop d.mapOf.typeIs PySem.F.entry_dict_pop (PySem.F.args_dict_pop_3 _ _ _) (meets_dict_pop_default _ _ (strKind_is _ _ j tk) m (wL j tk) z) ⟨kvs,d,y,K.here R l b⟩
end
theorem IK{d:Kd}{o:V}{m:Str}{vs:List V}(O:cA F)(stuck:cS P)(R:Lu F U H Θ h)(K:cZ F g u B Θ U h P k Q)(p:RV F U h o x)(rs:b9 F U h vs xs)(hk:d=.list\/d=.dict)(mv:AC F m f d)(b:P (aJ cf d o m vs H k)):wpAny F.mo A (call f (x::xs)) Q E ⟨h,g,u,t,B⟩:=by
 induction d using Kd.casesOn with
 |inst c=>rcases hk with e|e<;>cases e
 |list=>
  refine rl p stuck R b λn a l items i el f2 f3 b=>?_;rcases mv with⟨e,j⟩|⟨e,j⟩|⟨e,j⟩;·rwa[j];rw[aI e]at b;exact QL stuck R K i el f2 f3 rs b
  ·rwa[j];rw[e,aH (by decide),aI rfl]at b;exact Q_ stuck R K i el f2 f3 rs b
  ·rwa[j];rw[e,aH (by decide),aH (by decide),aI rfl]at b;exact X5 stuck R K i el f2 f3 rs b
 |dict=>refine rn p stuck b λn a z9 i b=>Av stuck b λl el b=>?_;rwa[mv.2];rw[aI mv.1]at b;exact Y_ O stuck R K i el rs b
end
structure cR(own bG:List bA):Prop where
 addr:bG.map bA.addr=own.map bA.addr
 ns:∀L m,bA.ns L m∈own->∃m',bA.ns L m'∈bG
 cell:∀c v,bA.cell c v∈own->∃v',bA.cell c v'∈bG
theorem cR.refl(own:List bA):cR own own:=⟨rfl,λz9 m h=>⟨m,h⟩,λz9 v h=>⟨v,h⟩⟩
theorem cR.trans{a b c:List bA}(x:cR a b)(y:cR b c):cR a c:=⟨y.addr.trans x.addr,λL m h=>let⟨m',Z⟩:=x.ns L m h;y.ns L m' Z,λc v h=>let⟨v',Z⟩:=x.cell c v h;y.cell c v' Z⟩
structure iA(J:Env)(sc:Sc)(own:List bA):Prop where
 ns:∃m,bA.ns J.locals m∈own
 cell:∀x,sc.lookup x=some .cell->∃c v,J.cells.lookup x=some c/\bA.cell c v∈own
 apart:∀x y c,sc.lookup x=some .cell->J.cells.lookup x=some c->J.cells.lookup y=some c->x=y
variable{own bG:List bA}
theorem iA.same(x:iA J sc own)(s:cR own bG):iA J sc bG:=⟨let⟨_,h⟩:=x.ns;s.ns _ _ h,λy a=>let⟨c,v,e,h⟩:=x.cell y a;let⟨v',Z⟩:=s.cell _ _ h;⟨c,v',e,Z⟩,x.apart⟩
variable{aP:List bA}{k:Loc->VH->Res}
section
theorem eY.same(x:eY A L (own++aP))(s:cR own bG):eY A L (bG++aP):=by
 refine b_ (x.frames) λJ outer e1 b c=>?_;refine⟨J,outer,e1,b,λnJ Z=>?_⟩;refine oA (c nJ Z) λq1 a=>?_;refine sY a ?_;clear a;intro L' m q2 q3;refine⟨q1,?_⟩;rcases fL.mp q3 with q3|q3;·refine oE (s.ns _ _ q3) λm' q=>?_;exact⟨L',m',q2,bY _ q⟩
 ·exact⟨L',m,q2,cG _ q3⟩
theorem Lu.FI{p p':bA}(R:Lu F U H (own++aP) h)(m:p∈own)(s:Heap.SameBut p.addr h Z)(e:h.get? p.addr=some o)(c:¬lS o)(b:p'.addr=p.addr)(q:p'.At Z):aZ h Z/\∃bG,Lu F U H (bG++aP) Z/\p'∈bG/\(∀q∈own,q.addr≠p.addr->q∈bG)/\bG.map bA.addr=own.map bA.addr:=by
 refine wU (List.append_of_mem m) λd f aG=>?_;clear m;subst aG;have g:∀x:bA,(x::(d++f++aP)).Perm (d++x::f++aP):=λx=>by refine cM List.cons_append ?_;exact List.Perm.append_right _ gR.symm
 refine oA ((R.perm (g p).symm).gM s e c b q) λi I=>?_;refine⟨I,d++p'::f,i.perm (g p'),cG _ (aE),λq a ne=>?_,by simp[b]⟩;clear s e b R;rcases fL.mp a with a|a;·exact bY _ a
 ·rcases bV.mp a with rfl|a;·exact aV rfl ne
  ·exact cG _ (aC a)
def AX(F:Fix)(g:Array GenState)(u:Drawn)(B:OsState)(J:Env)(sc:Sc)(own aP:List bA)(U:List Addr)(h:Heap)(P:Res->Prop)(k:Loc->VH->Res)(Q:Unit->Shared->Prop):Prop:=∀bL a aO Z t' bG,U<+:aO->aZ h Z->cR own bG->Lu F aO a (bG++aP) Z->dG F J sc bL aO Z (bG++aP)->P (k bL a)->Q () ⟨Z,g,u,t',B⟩
theorem AX.mono(K:AX F g u B J sc own aP U h P k Q)(p:U<+:aO)(i:aZ h Z)(s:cR own bG):AX F g u B J sc bG aP aO Z P k Q:=λbL a c6 bB t' o' p' b s'=>K bL a c6 bB t' o' (p.trans p') (i.trans b) (s.trans s')
def f8(F:Fix)(g:Array GenState)(u:Drawn)(B:OsState)(own aP:List bA)(U:List Addr)(h:Heap)(P:Res->Prop)(L:Addr)(E:Po):Prop:=∀c s a aO Z t' e bG,U<+:aO->aZ h Z->cR own bG->Mu F aO a (bG++aP) Z L c s e->P (.exc c s a)->E (.ref e) ⟨Z,g,u,t',B⟩
theorem f8.mono(K:f8 F g u B own aP U h P L E)(p:U<+:aO)(i:aZ h Z)(s:cR own bG):f8 F g u B bG aP aO Z P L E:=λc s a c6 bB t' e o' p' b s'=>K c s a c6 bB t' e o' (p.trans p') (i.trans b) (cR.trans ‹_› s')
theorem f8.here(K:f8 F g u B own aP U h P L E):fX F g u B (own++aP) U h P L E:=λc s a aO Z t' e p i=>K c s a aO Z t' e own p i (.refl _)
theorem zX{x:Str}(R:Lu F U H (own++aP) h)(N:dG F J sc loc U h (own++aP))(W:iA J sc own)(K:AX F g u B J sc own aP U h P k Q)(rv:RV F U h v y)(hx:sc.lookup x=some .local\/sc.lookup x=some .cell)(n1:x≠("__debug__":Str))(n2:x≠("__classdict__":Str))(hP:P (k (aB x v loc) H)):wpAny F.mo A (storeName J x y) Q E ⟨h,g,u,t,B⟩:=by
 have hk:J.kindOf x=sc.lookup x:=by unfold Env.kindOf;rwa[N.names];rfl
 rcases hx with D|D
 ·refine oE (W.ns) λm hm=>?_;have T:=(R.dS _ (bY _ hm)).1;refine wpAny_storeName_local (hk.trans D) T (λZ l s=>?_) (by rwa[N.kind];rfl);refine eS (id T) λo es ep q1 q2 _=>?_;refine oA (R.FI (p:=.ns J.locals m) (p':=.ns J.locals λz=>if z=x then some y else m z) hm s q1 (eN q2) rfl l) λI V=>?_;refine fN V ?_;clear V;intro bG R' a b ad;have uniq:∀m₁,bA.ns J.locals m₁∈own++aP->m₁=m:=λm₁ bB=>by have:=R.uniq bB (bY _ hm) rfl;clear bB;cases this;rfl
  have keep:∀q∈own++aP,q.addr≠J.locals->q∈bG++aP:=λq n ne=>by
   rcases fL.mp n with n|n;·exact bY _ (b q n ne)
   ·exact cG _ n
  have r:∀c w,bA.cell c w∈own++aP->c≠J.locals:=λc w j e=>by have:=R.uniq j (bY _ hm) e;cases this
  have S:cR own bG:=by
   refine⟨ad,λL m₁ bB=>?_,λc w j=>⟨w,b _ j (r c w (bY _ j))⟩⟩;by_cases e:L=J.locals;·clear bB;subst e;exact⟨_,a⟩
   ·exact⟨m₁,b _ bB e⟩
  refine K (aB x v loc) H U Z _ bG aQ I S R' ⟨N.names,N.kind,N.glob,N.blt,⟨_,bY _ a⟩,λz d=>let⟨c,w,e,j⟩:=N.cells z d;⟨c,w,e,keep _ j (r c w j)⟩,λz w d=>?_⟩ hP;rw[mM]at d;by_cases e:z=x;·clear hP hk l;subst e;rw[aI rfl]at d;have zz:=aM d;subst zz;refine⟨n1,n2,?_⟩;rwa[D];exact⟨_,y,bY _ a,by simp,rv.mono aQ I⟩
  ·rw[aH e]at d;refine gB (N.loc z w d) λa1 a2 a3=>?_;refine⟨a1,a2,?_⟩;exact a3.map (λz9 q=>q.mono aQ I) (λm₁ val M C=>⟨_,bY _ a,(aH e).trans (uniq m₁ M▸C)⟩) λc w z9 C=>keep _ C (r c _ C)
 ·refine sY (W.cell x D) λc X j hm=>?_;have f:=(R.dS _ (bY _ hm)).1;refine wpAny_storeName_cell N.kind (hk.trans D) j f λZ l s=>?_;refine aW (id f) λo q1 q2=>?_;refine oA (R.FI (p:=.cell c X) (p':=.cell c (some y)) hm s q1 (QF q2) rfl l) λI Y=>?_;refine fN Y ?_;clear Y;intro bG R' a b ad
  have keep:∀q∈own++aP,q.addr≠c->q∈bG++aP:=λq n ne=>by
   rcases fL.mp n with n|n;·exact bY _ (b q n ne)
   ·exact cG _ n
  have i:∀L m,bA.ns L m∈own++aP->L≠c:=λL m hL e=>by have:=R.uniq hL (bY _ hm) e;cases this
  have S:cR own bG:=by
   refine⟨ad,λL m hL=>⟨m,b _ hL (i L m (bY _ hL))⟩,λO w G=>?_⟩;by_cases e:O=c;·clear j hm f l s q1 b keep i;subst e;exact⟨_,a⟩
   ·exact⟨w,b _ G e⟩
  refine K (aB x v loc) H U Z _ bG aQ I S R' ⟨N.names,N.kind,N.glob,N.blt,let⟨m,hm⟩:=N.own;⟨m,keep _ hm (i _ _ hm)⟩,λz d=>let⟨O,w,e,G⟩:=N.cells z d;(if q:O=c then⟨O,some y,e,q▸bY _ a⟩else⟨O,w,e,keep _ G q⟩),λz w d=>?_⟩ hP;rw[mM]at d;by_cases e:z=x;·clear hP hk;subst e;rw[aI rfl]at d;have zz:=aM d;subst zz;refine⟨n1,n2,?_⟩;rwa[D];exact⟨c,y,j,bY _ a,rv.mono aQ I⟩
  ·rw[aH e]at d;refine gB (N.loc z w d) λa1 a2 a3=>?_;refine⟨a1,a2,?_⟩;exact a3.map (λz9 q=>q.mono aQ I) (λm₁ val M C=>⟨m₁,keep _ M (i _ _ M),C⟩) λO w M C=>keep _ C λq=>e (W.apart x z c D j (M.trans (congrArg some q))).symm
end
def ME(A:Around)(Θ:List bA):Prop:=∃outer,A.frames=some outer/\∀nJ∈outer,nJ.scope.kind≠.module/\∃L m,nJ.frame=some L/\bA.ns L m∈Θ
theorem eY.outer(x:eY A L Θ):ME A Θ:=let⟨J,outer,e1,_,a⟩:=x.frames;⟨J::outer,e1,a⟩
theorem eY.sub(x:eY A L Θ)(s:∀p∈Θ,p∈jP):eY A L jP:=⟨let⟨J,outer,e1,a,q⟩:=x.frames;⟨J,outer,e1,a,λnJ h=>let⟨k,L,m,f,Z⟩:=q nJ h;⟨k,L,m,f,s _ Z⟩⟩⟩
def X9(F:Fix)(g:Array GenState)(u:Drawn)(B:OsState)(Θ:List bA)(U:List Addr)(h:Heap)(P:Res->Prop)(E:Po):Prop:=∀c s a aO Z t' e,U<+:aO->aZ h Z->(∀L,Mu F aO a Θ Z L c s e)->P (.exc c s a)->E (.ref e) ⟨Z,g,u,t',B⟩
theorem fX.call(x:fX F g u B Θ U h P L E):X9 F g u B Θ U h P E:=λc s a aO Z t' e p i q=>x c s a aO Z t' e p i (q L)
def xX(F:Fix)(g:Array GenState)(u:Drawn)(B:OsState)(cf:CF)(d:Nat):Prop:=∀{A:Around}{Θ:List bA}{U:List Addr}{H:VH}{h:Heap}{t:Nat}{P:Res->Prop}{k:Kv}{Q:Po}{E:Po}{fk:Fk}{D:Def}{f:Addr}{vals:List V}{xs:List Value},Lx fk=some D->kD F D f->A.depth+4*d+4<=700->A.units+100*d+300<cLine->A.guards=some []->A.handled=none->ME A Θ->Lu F U H Θ h->b9 F U h vals xs->cZ F g u B Θ U h P k Q->X9 F g u B Θ U h P E->(P .stuck->False)->P (cf fk vals H k)->codeAny F.mo A (.call (.ref f) ⟨xs,[]⟩) (λr s'=>match r with|.ok (.ret v)=>Q v s'|.ok _=>False|.error e=>E e s') ⟨h,g,u,t,B⟩
structure Cx(F:Fix)(d:Nat)(A:Around)(J:Env)(L:Addr)(sc:Sc)(loc:Loc)(U:List Addr)(h:Heap)(Θ:List bA):Prop where
 depth:A.depth+4*d+7<=700
 units:A.units+100*d+390<cLine
 guards:A.guards=some []
 handled:A.handled=none
 fr:eY A L Θ
 hf:J.frame=some L
 N:dG F J sc loc U h Θ
variable{d:Nat}
theorem Cx.mono(x:Cx F d A J L sc loc U h Θ)(p:U<+:aO)(i:aZ h Z)(s:∀q∈Θ,q∈jP):Cx F d A J L sc loc aO Z jP:=⟨x.depth,x.units,x.guards,x.handled,x.fr.sub s,x.hf,x.N.mono p i s⟩
def dC(F:Fix)(g:Array GenState)(u:Drawn)(B:OsState)(cf:CF)(d n:Nat):Prop:=∀{A:Around}{J:Env}{L:Addr}{sc:Sc}{e:Expr}{loc:Loc}{Θ:List bA}{U:List Addr}{H:VH}{h:Heap}{t:Nat}{P:Res->Prop}{k:Kv}{Q:Po}{E:Po},Cx F d A J L sc loc U h Θ->Lu F U H Θ h->cZ F g u B Θ U h P k Q->fX F g u B Θ U h P L E->(P .stuck->False)->P (ev cf n sc e loc H k)->wpAny F.mo A (eval e J) Q E ⟨h,g,u,t,B⟩
def y_(F:Fix)(g:Array GenState)(u:Drawn)(B:OsState)(cf:CF)(d n:Nat):Prop:=∀{A:Around}{J:Env}{L:Addr}{sc:Sc}{e:Option Expr}{loc:Loc}{Θ:List bA}{U:List Addr}{H:VH}{h:Heap}{t:Nat}{P:Res->Prop}{k:Kv}{Q:Po}{E:Po},Cx F d A J L sc loc U h Θ->Lu F U H Θ h->cZ F g u B Θ U h P k Q->fX F g u B Θ U h P L E->(P .stuck->False)->P (yZ cf n sc e loc H k)->wpAny F.mo A (evalPart e J) Q E ⟨h,g,u,t,B⟩
def j_(F:Fix)(g:Array GenState)(u:Drawn)(B:OsState)(Θ:List bA)(U:List Addr)(h:Heap)(P:Res->Prop)(k:Bool->VH->Res)(Q:Bool->Shared->Prop):Prop:=∀b a aO Z t',U<+:aO->aZ h Z->Lu F aO a Θ Z->P (k b a)->Q b ⟨Z,g,u,t',B⟩
def iN(F:Fix)(g:Array GenState)(u:Drawn)(B:OsState)(cf:CF)(d n:Nat):Prop:=∀{A:Around}{J:Env}{L:Addr}{sc:Sc}{e:Expr}{loc:Loc}{Θ:List bA}{U:List Addr}{H:VH}{h:Heap}{t:Nat}{P:Res->Prop}{k:Bool->VH->Res}{Q:Bool->Shared->Prop}{E:Po},Cx F d A J L sc loc U h Θ->Lu F U H Θ h->j_ F g u B Θ U h P k Q->fX F g u B Θ U h P L E->(P .stuck->False)->P (mE cf n sc e loc H k)->wpAny F.mo A (isTrue e J (eval e J)) Q E ⟨h,g,u,t,B⟩
def YT(F:Fix)(g:Array GenState)(u:Drawn)(B:OsState)(Θ:List bA)(U:List Addr)(h:Heap)(P:Res->Prop)(len:Nat)(k:List V->VH->Res)(Q:List Value->Shared->Prop):Prop:=∀vs a aO Z t' xs,vs.length=len->U<+:aO->aZ h Z->Lu F aO a Θ Z->b9 F aO Z vs xs->P (k vs a)->Q xs ⟨Z,g,u,t',B⟩
variable{p:Pos}{es:List Expr}{kk:List V->VH->Res}{D:Def}
section
variable{k:Kv}{Q:Po}
theorem uU:∀{as:List Expr},as.any Mg=false->∀{pos:Pos},(backTo pos (starEach as J)).any (·.1)=false
 |[],_,_=>rfl
 |e::r,h,pos=>by rw[List.any_cons,Bool.or_eq_false_iff]at h;have a:=uU h.2 (pos:=pos);induction e using PySem.Expr.casesOn<;>first|exact a|cases h.1
theorem jV{r:List Expr}(h:∀x p,e≠.Starred x p):starEach (e::r) J=(false,eval e J)::starEach r J:=by induction e using PySem.Expr.casesOn<;>first|rfl|exact aV rfl (h _ _)
theorem KT(m:dC F g u B cf d n){pos:Pos}:∀(es:List Expr){U:List Addr}{H:VH}{h:Heap}{t:Nat}{kk:List V->VH->Res}{Q:List Value->Shared->Prop},Cx F d A J L sc loc U h Θ->Lu F U H Θ h->YT F g u B Θ U h P es.length kk Q->fX F g u B Θ U h P L E->(P .stuck->False)->P (nU (λe H k=>ev cf n sc e loc H k) es H kk)->wpAny F.mo A (spliced (backTo pos (starEach es J))) Q E ⟨h,g,u,t,B⟩:=by
 intro es
 induction es with
 |nil=>intro U H h t kk Q C R K X stuck c;exact spliced_nil (K [] H U h t [] rfl aQ (aZ.refl _) R .nil c)
 |cons e r a=>
  intro U H h t kk Q C R K X stuck c;have ns:∀x p,e≠.Starred x p:=by clear m a K;rintro x p rfl;induction n using Nat.casesOn<;>exact(stuck c).elim
  rwa[jV ns];refine spliced_cons (m C R (k:=λv H=>nU (λe H k=>ev cf n sc e loc H k) r H λvs H=>kk (v::vs) H) (λv D aO Z t' x p i s rv f=>?_) X stuck c);refine a (C.mono p i λz9 h=>h) s (λvs w o y z xs len p' q j l b=>?_) (X.mono p i) stuck f;exact K _ _ _ _ _ _ (by rwa[List.length_cons];rwa[List.length_cons];rwa[len];rfl) (p.trans p') (i.trans q) j (.cons (rv.mono p' q) l) b
theorem o_{o:Expr}{attr:Str}(hs:kP o=false)(h:wpAny M A (eval o J) Q E s):wpAny M A (attributeBase o attr J (eval o J)) Q E s:=by
 induction o using PySem.Expr.casesOn with
 |Call f as a p=>
  induction f using PySem.Expr.casesOn with
  |Name id np=>
   induction as using List.casesOn with
   |cons _ _=>exact h
   |nil=>
    induction a using List.casesOn with
    |cons _ _=>exact h
    |nil=>
     have hb:(id !=("super":Str))=true:=by rw[bne];rwa[show(id==("super":Str))=false from hs];rfl
     show wpAny M A (ite _ _ _) Q E s;refine wpAny_ite_true (cC (by rwa[hb];rfl)) ?_;exact h
  |_=>exact h
 |_=>exact h
theorem xW{b:Bool}{Q:Bool->Shared->Prop}(r:RV F U h v x)(e:Mq v=some b)(q:Q b ⟨h,g,u,t,B⟩):wpAny F.mo A (PySem.truthy x) Q E ⟨h,g,u,t,B⟩:=by
 induction v using V.casesOn with
 |bool c=>cases r;rw[<-aM e]at q;exact wpAny_truthy_bool q
 |none=>cases r;rw[<-aM e]at q;exactλz9 z9 z9=>q
 |int i=>cases r;rw[<-aM e]at q;exact PyProof.Rows.truthy_int (by rwa[show(i !=0)=decide (i≠0)by rw[bne,AH];simp];exact q)
 |_=>exact(aS e).elim
theorem qY{op:CmpOp}{r:Expr}{m:Sem Value}(h:∀a b c,r≠.Set a b c):markedBehindIn op r m=m:=by
 have e:behindInMarks op r=false:=by cases r<;>first|rfl|exact aV rfl (h _ _ _)
 unfold markedBehindIn;rwa[e];rfl
theorem pQ{r:Expr}(stuck:cS P)(d:P (ev cf n sc r loc H k)):∀a b c,r≠.Set a b c:=by rintro a b c rfl;induction n using Nat.casesOn<;>exact stuck d
theorem Bc(G:dC F g u B cf d n)(O:cA F){o:Expr}{a:Str}(hs:kP o=false)(stuck:cS P)(C:Cx F d A J L sc loc U h Θ)(R:Lu F U H Θ h)(K:cZ F g u B Θ U h P k Q)(X:fX F g u B Θ U h P L E)(I:P (ev cf n sc o loc H λo H=>oR (Ml o a H) λv=>k v H)):wpAny F.mo A (eval (.Attribute o a p) J) Q E ⟨h,g,u,t,B⟩:=by
 rw[arm_eval_Attribute];refine aF (o_ hs (G C R (λv M aO Z t' x pr i N rv b=>?_) X stuck I))
 cases m:Ml v a M with
 |none=>rw[m]at b;exact(stuck b).elim
 |some w=>rw[m]at b;refine aF (dX (aF (cH (uL O N (k:=k) (λr s q z D y f j l c e=>aF (wpAny_letTemporaryGo (a_ ?_))) rv m b))));exact K _ _ _ _ _ _ (pr.trans f) (i.trans j) l c e
theorem VB(s:dC F g u B cf d n){l r:Expr}(stuck:cS P)(C:Cx F d A J L sc loc U h Θ)(R:Lu F U H Θ h)(K:cZ F g u B Θ U h P k Q)(X:fX F g u B Θ U h P L E)(I:P (ev cf n sc l loc H λa H=>ev cf n sc r loc H λb H=>Lv op a b H k)):wpAny F.mo A (eval (.BinOp l op r p) J) Q E ⟨h,g,u,t,B⟩:=by refine wpAny_BinOp (s C R (λv N aO Z t' x pr i M rv o=>?_) X stuck I);refine s (C.mono pr i λz9 h=>h) M (λw z q D G y c e m f j=>?_) (X.mono pr i) stuck o;exact IJ stuck m (K.mono (pr.trans c) (i.trans e)) (rv.mono c e) f j
theorem WQ(V:dC F g u B cf d n)(io:y_ F g u B cf d n){o:Expr}{a b:Option Expr}{q:Pos}(stuck:cS P)(C:Cx F d A J L sc loc U h Θ)(R:Lu F U H Θ h)(K:cZ F g u B Θ U h P k Q)(X:fX F g u B Θ U h P L E)(W:P (ev cf n sc o loc H λo H=>yZ cf n sc a loc H λa H=>yZ cf n sc b loc H λb H=>dU o a b H k)):wpAny F.mo A (eval (.Subscript o (.Slice a b none q) p) J) Q E ⟨h,g,u,t,B⟩:=by refine Subscript_ (V C R (λv H' aO Z t' x pr i Y rv w=>?_) X stuck W);refine wpAny_Slice (io (C.mono pr i λz9 h=>h) Y (λva I D M N y c e r ra l=>?_) (X.mono pr i) stuck w);refine io (C.mono (pr.trans c) (i.trans e) λz9 h=>h) r (λvb O G S T z f j s rb m=>?_) (X.mono (pr.trans c) (i.trans e)) stuck l;rw[evalPart_none];refine a_ ?_;exact JT stuck s (K.mono (pr.trans (c.trans f)) (i.trans (e.trans j))) (rv.mono (c.trans f) (e.trans j)) (ra.mono f j) rb m
theorem Ds(s:dC F g u B cf d n)(O:cA F){o i:Expr}(stuck:cS P)(C:Cx F d A J L sc loc U h Θ)(R:Lu F U H Θ h)(K:cZ F g u B Θ U h P k Q)(X:fX F g u B Θ U h P L E)(G:P (ev cf n sc o loc H λo H=>ev cf n sc i loc H λi H=>oR (Mz o i H) λv=>k v H)):wpAny F.mo A (eval (.Subscript o i p) J) Q E ⟨h,g,u,t,B⟩:=by
 refine Subscript_ (s C R (λv M aO Z t' x pr i I rv m=>?_) X stuck G);refine s (C.mono pr i λz9 h=>h) I (λf j q z D y b c l e a=>?_) (X.mono pr i) stuck m
 cases r:Mz v f j with
 |none=>rw[r]at a;exact(stuck a).elim
 |some w=>rw[r]at a;exact NX O l (K.mono (pr.trans b) (i.trans c)) (rv.mono b c) e r a
theorem ZG(c:dC F g u B cf d n){x:Expr}(stuck:cS P)(C:Cx F d A J L sc loc U h Θ)(R:Lu F U H Θ h)(K:cZ F g u B Θ U h P k Q)(X:fX F g u B Θ U h P L E)(a:P (ev cf n sc x loc H λv H=>iD .stuck v λi=>k (.int (-i)) H)):wpAny F.mo A (eval (.UnaryOp .USub x p) J) Q E ⟨h,g,u,t,B⟩:=by refine wpAny_UnaryOp (c C R (λv e aO Z t' x pr i l rv b=>?_) X stuck a);exact ri (f:=λi=>k (.int (-i)) e) rv stuck b λj m z9 a=>PyProof.Rows.neg_int ((K.mono pr i).int l a)
theorem Eb(c:dC F g u B cf d n){x:Expr}(stuck:cS P)(C:Cx F d A J L sc loc U h Θ)(R:Lu F U H Θ h)(K:cZ F g u B Θ U h P k Q)(X:fX F g u B Θ U h P L E)(e:P (ev cf n sc x loc H λv H=>oR (Mq v) λb=>k (.bool (!b)) H)):wpAny F.mo A (eval (.UnaryOp .Not x p) J) Q E ⟨h,g,u,t,B⟩:=by
 refine wpAny_UnaryOp (c C R (λv j aO Z t' x pr i f rv a=>?_) X stuck e)
 cases hb:Mq v with
 |none=>rw[hb]at a;exact(stuck a).elim
 |some b=>rw[hb]at a;exact not_value (xW rv hb ((K.mono pr i).bool f a))
theorem RB(e:dC F g u B cf d n){op:BoolOp}{x y:Expr}(stuck:cS P)(C:Cx F d A J L sc loc U h Θ)(R:Lu F U H Θ h)(K:cZ F g u B Θ U h P k Q)(X:fX F g u B Θ U h P L E)(f:P (ev cf n sc x loc H λv H=>oR (Mq v) λt=>Fh op t (k v H) (ev cf n sc y loc H k))):wpAny F.mo A (eval (.BoolOp op [x,y] p) J) Q E ⟨h,g,u,t,B⟩:=by
 show wpAny _ A (boolOp p op [eval x J,eval y J]) Q E _;refine aF (e C R (λv j aO Z t' x pr i c rv a=>?_) X stuck f);refine aF (dX ?_);clear f;cases hb:Mq v with
 |none=>rw[hb]at a;exact(stuck a).elim
 |some b=>
  rw[hb]at a;refine aF (cH (xW rv hb ?_))
  induction op using PySem.BoolOp.casesOn with
  |And=>clear hb;induction b using Bool.casesOn with
   |true=>exact e (C.mono pr i λz9 h=>h) c (K.mono pr i) (X.mono pr i) stuck a
   |false=>exact a_ ((K.mono pr i).here c rv a)
  |Or=>clear hb;induction b using Bool.casesOn with
   |true=>exact a_ ((K.mono pr i).here c rv a)
   |false=>exact e (C.mono pr i λz9 h=>h) c (K.mono pr i) (X.mono pr i) stuck a
theorem Cx.AI(C:Cx F d A J L sc loc U h Θ):A.units+100<cLine:=by have:=C.units;lia
theorem ZM(z:dC F g u B cf d n)(O:cA F){l r:Expr}{op:CmpOp}(stuck:cS P)(C:Cx F d A J L sc loc U h Θ)(R:Lu F U H Θ h)(K:cZ F g u B Θ U h P k Q)(X:fX F g u B Θ U h P L E)(I:P (ev cf n sc l loc H λa H=>ev cf n sc r loc H λb H=>oR (i5 op a b H) λt=>k (.bool t) H)):wpAny F.mo A (eval (.Compare l [op] [r] p) J) Q E ⟨h,g,u,t,B⟩:=by
 rw[arm_eval_Compare];refine aF (z C R (λv N aO Z t' x pr i M rv o=>?_) X stuck I);show wpAny _ A (compareChain p x [op] [markedBehindIn op r (eval r J)]) Q E _;rwa[qY (pQ stuck o)];refine aF (cH (z (C.mono pr i λz9 h=>h) M (λq s w D G y e f j m c=>?_) (X.mono pr i) stuck o));refine aF (dX (wpAny_operating ?_))
 cases hb:i5 op v q s with
 |none=>rw[hb]at c;exact(stuck c).elim
 |some b=>rw[hb]at c;exact oY O j C.AI (rv.mono e f) m hb λt=>(K.mono (pr.trans e) (i.trans f)).bool j c
theorem W_(Y:dC F g u B cf d n)(O:cA F){l r S:Expr}{op o:CmpOp}(stuck:cS P)(C:Cx F d A J L sc loc U h Θ)(R:Lu F U H Θ h)(K:cZ F g u B Θ U h P k Q)(X:fX F g u B Θ U h P L E)(hP:P (ev cf n sc l loc H λa H=>ev cf n sc r loc H λb H=>oR (i5 op a b H) λt=>bR t (ev cf n sc S loc H λc H=>oR (i5 o b c H) λt=>k (.bool t) H) (k (.bool false) H))):wpAny F.mo A (eval (.Compare l [op,o] [r,S] p) J) Q E ⟨h,g,u,t,B⟩:=by
 rw[arm_eval_Compare];refine aF (Y C R (λv H' aO Z t' x pr i R' rv b6=>?_) X stuck hP);show wpAny _ A (compareChain p x [op,o] [eval r J,markedBehindIn o S (eval S J)]) Q E _;refine aF (cH (Y (C.mono pr i λz9 h=>h) R' (λw T b7 b9 c6 y j m q s e=>?_) (X.mono pr i) stuck b6));refine aF (dX ?_)
 cases hb:i5 op v w T with
 |none=>rw[hb]at e;exact(stuck e).elim
 |some b=>
  rw[hb]at e;refine aF (cH (oY O q C.AI (rv.mono j m) s hb λt=>?_));refine aF (wpAny_release' (aF (cH (wpAny_truthy_bool ?_))))
  induction b using Bool.casesOn with
  |false=>exact a_ ((K.mono (pr.trans j) (i.trans m)).bool q e)
  |true=>
   show wpAny _ A (compareChain p y [o] [markedBehindIn o S (eval S J)]) Q E _;rwa[qY (pQ stuck e)];refine aF (cH (Y (C.mono (pr.trans j) (i.trans m) λz9 h=>h) q (λV W b8 c7 c9 z D G I M f=>?_) (X.mono (pr.trans j) (i.trans m)) stuck e));refine aF (dX (wpAny_operating ?_))
   cases N:i5 o w V W with
   |none=>rw[N]at f;exact(stuck f).elim
   |some b'=>rw[N]at f;exact oY O I C.AI (s.mono D G) M N λt=>(K.mono (pr.trans (j.trans D)) (i.trans (m.trans G))).bool I f
theorem UN(c:dC F g u B cf d n)(z:¬100<es.length)(stuck:cS P)(C:Cx F d A J L sc loc U h Θ)(R:Lu F U H Θ h)(K:cZ F g u B Θ U h P k Q)(X:fX F g u B Θ U h P L E)(f:P (nU (λe H k=>ev cf n sc e loc H k) es H λvs H=>k (.tup vs) H)):wpAny F.mo A (eval (.Tuple es q p) J) Q E ⟨h,g,u,t,B⟩:=by refine wpAny_Tuple (KT @c es C R (λvs l aO Z t' xs len pr i j a b=>?_) X stuck f);exact⟨by rwa[a.length];rwa[len];rwa[d7];lia,(K.mono pr i).newTuple j a b⟩
theorem Aa(c:dC F g u B cf d n)(z:¬100<es.length)(stuck:cS P)(C:Cx F d A J L sc loc U h Θ)(R:Lu F U H Θ h)(K:cZ F g u B Θ U h P k Q)(X:fX F g u B Θ U h P L E)(f:P (nU (λe H k=>ev cf n sc e loc H k) es H λvs H=>k (.ref H.length) (H++[.list vs]))):wpAny F.mo A (eval (.List es p) J) Q E ⟨h,g,u,t,B⟩:=by refine wpAny_List (KT @c es C R (λvs l aO Z t' xs len pr i j a b=>?_) X stuck f);exact⟨by rwa[a.length];rwa[len];rwa[d7];lia,(K.mono pr i).newList j a b⟩
theorem O5(o:dC F g u B cf d n){first:List Value}{as:List Expr}(hk:∀Z,F.base.StaysIn Z->∃k,(k=Keeper.frame\/k=Keeper.machine\/k=Keeper.boundFrame)/\Looks F.mo Z (keeperOf f) k)(ns:as.any Mg=false)(stuck:cS P)(C:Cx F d A J L sc loc U h Θ)(R:Lu F U H Θ h)(X:fX F g u B Θ U h P L E)(b:P (nU (λe H k=>ev cf n sc e loc H k) as H kk))(K:YT F g u B Θ U h P as.length kk λxs a=>wpAny F.mo A (call f (first++xs)) Q E a):wpAny F.mo A (callWith pos f first (backTo pos (starEach as J)) []) Q E ⟨h,g,u,t,B⟩:=by
 have st:=uU (J:=J) ns (pos:=pos)
 induction as using List.casesOn with
 |nil=>refine callWith_of (P:=λZ=>F.base.StaysIn Z) rfl hk (PySem.evalArgs_none ⟨R.stays,?_⟩);exact K [] H U h t [] rfl aQ (aZ.refl _) R .nil b
 |cons e r=>
  have c:∀x p,e≠.Starred x p:=by clear b K st;rintro x p rfl;cases ns
  refine callWith_of (P:=λZ=>F.base.StaysIn Z) (by rwa[st];rfl) hk ?_;have:=KT @o (t:=t) (pos:=pos) (e::r) (kk:=kk) (Q:=λvs s'=>F.base.StaysIn s'.heap/\wpAny F.mo A (call f (first++vs)) Q E s') C R (λvs q aO Z t' xs len p i m j l=>⟨m.stays,K vs q aO Z t' xs len p i m j l⟩) X stuck b;rw[jV c]at this⊢;exact evalArgs_plain this
theorem VG(e:dC F g u B cf d n)(it:iN F g u B cf d n){c b o:Expr}(stuck:cS P)(C:Cx F d A J L sc loc U h Θ)(R:Lu F U H Θ h)(K:cZ F g u B Θ U h P k Q)(X:fX F g u B Θ U h P L E)(j:P (mE cf n sc c loc H λc H=>bR c (ev cf n sc b loc H k) (ev cf n sc o loc H k))):wpAny F.mo A (eval (.IfExp c b o p) J) Q E ⟨h,g,u,t,B⟩:=by
 refine wpAny_IfExp (it C R (λc l aO Z t' pr i f a=>?_) X stuck j);induction c using Bool.casesOn;·exact e (C.mono pr i λz9 h=>h) f (K.mono pr i) (X.mono pr i) stuck a
 ·exact e (C.mono pr i λz9 h=>h) f (K.mono pr i) (X.mono pr i) stuck a
theorem nM(O:cA F){b:Addr}(e:keepIn (F.K b) f=true)(Z:Heap)(s:F.base.StaysIn Z):∃k,(k=Keeper.frame\/k=Keeper.machine\/k=Keeper.boundFrame)/\Looks F.mo Z (keeperOf f) k:=keeps_K e Z λa o q=>s _ _ (O.iO b a o q)
theorem lL(e:keeperOf f=pure .machine)(Z:Heap)(a:F.base.StaysIn Z):∃k,(k=Keeper.frame\/k=Keeper.machine\/k=Keeper.boundFrame)/\Looks F.mo Z (keeperOf f) k:=⟨.machine,.inr (.inl rfl),Looks.of_pure e⟩
theorem xH(A:Around)(C:Addr)(xs:List Value):A.under (.builtin "type.__call__" ⟨.ref C::xs,[]⟩)={A with depth:=A.depth+1,units:=A.units+1}:=by
 have w:(Code.builtin "type.__call__" ⟨.ref C::xs,[]⟩).weight=1:=by rfl
 have u:(Code.builtin "type.__call__" ⟨.ref C::xs,[]⟩).cUnits=1:=by rfl
 have e:(Code.builtin "type.__call__" ⟨.ref C::xs,[]⟩).envs=[]:=by rfl
 have d:(Code.builtin "type.__call__" ⟨.ref C::xs,[]⟩).guards=[]:=by rfl
 obtain⟨a,b,c,dd,f⟩:=A;simp[Around.under,w,u,e,d,pushEnvs,pushGuards]
theorem ZY(M:xX F g u B cf d)(O:cA F){C:Addr}{vs:List V}(stuck:cS P)(j:Cx F d A J L sc loc U h Θ)(R:Lu F U H Θ h)(K:cZ F g u B Θ U h P k Q)(X:fX F g u B Θ U h P L E)(q:E5 F c C)(s:Lx (.aL c "__init__")=some D)(rs:b9 F U h vs xs)(N:P (cf (.aL c "__init__") (.ref H.length::vs) (H++[.inst c []]) λv w=>TF v (k (.ref H.length) w))):wpAny F.mo A (call (.ref C) xs) Q E ⟨h,g,u,t,B⟩:=by
 have y:=O.cls _ _ q;refine cY (y.meths _ _ s) λf hf l S=>?_;have T:Keeps h ((h.push emptyDict).push (instObj C h.objs.size)):=λb o e=>dJ _ (dJ _ e);have I:=aZ.of_keeps T;have W:=R.inst_new q;have pr:U<+:U++[h.objs.size+1]:=⟨_,rfl⟩;have m:=R.iO O (b:=C);refine wpAny_call (make_core (makes_of m y.makes) (looks_findIn m hf) (λself=>bind_fn m self l) (.inl rfl) ?_);have G:(U++[h.objs.size+1])[H.length]?=some (h.objs.size+1):=by rwa[jX (by rwa[R.len];exact Nat.le_refl _)];rwa[R.len];rewrite[Nat.sub_self];rfl
 rw[xH];refine codeAny_mono (M (Q:=λv s'=>v=.none/\Q (.ref (h.objs.size+1)) s') (E:=E) s S (by show A.depth+1+4*d+4<=700;have:=j.depth;lia) (by show A.units+1+100*d+300<cLine;have:=j.units;lia) j.guards j.handled j.fr.outer W (.cons (.ref G) (rs.mono pr I)) (λv w aO Z t' x p i n rv a=>?_) (X.mono pr I).call stuck N) λr s' z=>?_;·refine XS stuck a λe a=>?_;subst e;cases V6 rv;exact⟨rfl,K _ _ _ _ _ _ (pr.trans p) (I.trans i) n (.ref (mD p G)) a⟩
 ·rcases r with e|(v|_|_|_)<;>first|exact z|exact z.elim
theorem XL(S:dC F g u B cf d n)(hc:xX F g u B cf d)(O:cA F){o:Expr}{m:Str}{G:Pos}{as:List Expr}(hs:kP o=false)(hl:(G.endLine==pos.line)=true)(z:¬20<as.length)(ns:as.any Mg=false)(stuck:cS P)(C:Cx F d A J L sc loc U h Θ)(R:Lu F U H Θ h)(K:cZ F g u B Θ U h P k Q)(X:fX F g u B Θ U h P L E)(hP:P (ev cf n sc o loc H λo H=>oR (vI o m H) λy=>nU (λe H k=>ev cf n sc e loc H k) as H λvs H=>aJ cf y o m vs H k)):wpAny F.mo A (eval (.Call (.Attribute o m G) as [] pos) J) Q E ⟨h,g,u,t,B⟩:=by
 rw[arm_eval_Call];refine aF (o_ hs (S C R (λv H' aO Z t' x pr i T rv l=>?_) X stuck hP));refine aF (dX ?_)
 cases hm:vI v m H' with
 |none=>rw[hm]at l;exact(stuck l).elim
 |some y=>
  rw[hm]at l
  have r:methodCallForm (as.length+([]:List Keyword).length) (backTo pos (starEach as J)) (backToKw pos (keywordEach [] J))=true:=by
   have:=uU (J:=J) ns (pos:=pos);unfold methodCallForm;have h1:(backTo pos (starEach as J)).all (!·.1)=true:=by rw[List.all_eq_true];intro x hx;rw[List.any_eq_false]at this;simpa using this x hx
   rwa[h1];rwa[show backToKw pos (keywordEach [] J)=[]from rfl];simp;lia
  have w:methodCallPos true o J G pos=pure pos:=by unfold methodCallPos;simp[hl]
  unfold methodCall;rwa[r];refine aF (cH (GG O T rv hm λf mv=>?_));refine aF (wpAny_of_eq w ?_)
  have hk:∀Z,F.base.StaysIn Z->∃k,(k=Keeper.frame\/k=Keeper.machine\/k=Keeper.boundFrame)/\Looks F.mo Z (keeperOf f) k:=by
   clear l hm;induction y using Kd.casesOn with
   |list=>rcases mv with⟨_,rfl⟩|⟨_,rfl⟩|⟨_,rfl⟩<;>exact lL rfl
   |dict=>refine oA mv ?_;clear mv;intro _ I;subst I;exact lL rfl
   |inst c=>refine lE mv ?_;clear mv;intro _ _ fa _ _ cB M;subst cB;exact nM O M.keep
  have C':=C.mono pr i λz9 h=>h;refine O5 @S (first:=[x]) hk ns stuck C' T (X.mono pr i) l λvs V N W Y xs len a b p s j=>?_;have b6:=C'.mono a b λz9 h=>h;have q:=K.mono (pr.trans a) (i.trans b);show wpAny _ A (call f (x::xs)) Q E _;clear l hm hk;induction y using Kd.casesOn with
  |list=>exact IK O stuck p q (rv.mono a b) s (.inl rfl) mv j
  |dict=>exact IK O stuck p q (rv.mono a b) s (.inr rfl) mv j
  |inst c=>refine lE mv ?_;clear mv;intro Cl D fa hC hD aG M;subst aG;unfold aJ at j;exact wpAny_call (hc hD M (by have:=C.depth;lia) (by have:=C.units;lia) C.guards C.handled C.fr.outer p (.cons (rv.mono a b) s) q (X.mono (pr.trans a) (i.trans b)).call stuck j)
theorem NW{C:V->Prop}(h:xJ v=true)(b:∀s,C (.fn s))(d:∀c D,Lx (.aL c "__init__")=some D->C (.cls c))(e:∀s,C (.typ s))(f:∀s,C (.bi s)):C v:=by
 induction v using V.casesOn with
 |fn s=>exact b s
 |cls c=>
  replace h:(!gO (Lx (.aL c "__init__")))=true:=h
  cases a:Lx (.aL c "__init__")with
  |none=>rw[a]at h;cases h
  |some D=>exact d c D a
 |typ s=>exact e s
 |bi s=>exact f s
 |_=>exact aV h Bool.false_ne_true
theorem Ob(T:dC F g u B cf d n)(V:xX F g u B cf d)(S:∀fk vs H k,Lx fk=none->cf fk vs H k=.stuck)(O:cA F){f:Str}{as:List Expr}(ns:as.any Mg=false)(stuck:cS P)(C:Cx F d A J L sc loc U h Θ)(R:Lu F U H Θ h)(K:cZ F g u B Θ U h P k Q)(X:fX F g u B Θ U h P L E)(m:P (ev cf n sc (.Name f p) loc H λf H=>if xJ f then nU (λe H k=>ev cf n sc e loc H k) as H λvs H=>JR cf f vs H k else .stuck)):wpAny F.mo A (eval (.Call (.Name f p) as [] pos) J) Q E ⟨h,g,u,t,B⟩:=by
 refine wpAny_Call_ofName (T C R (λv H' aO Z t' x pr i Y rv y=>?_) X stuck m);refine bU stuck y λMG y=>?_;have hk:∀Z,F.base.StaysIn Z->∃k,(k=Keeper.frame\/k=Keeper.machine\/k=Keeper.boundFrame)/\Looks F.mo Z (keeperOf x) k:=by exact NW (C:=λv=>RV F aO Z v x->∀Z,F.base.StaysIn Z->∃k,(k=Keeper.frame\/k=Keeper.machine\/k=Keeper.boundFrame)/\Looks F.mo Z (keeperOf x) k) MG (λs rv=>oE (O.Y9 _ _ (CV rv).1 (CV rv).2) λz9 kp=>nM O kp) (λc D z9 rv=>oE (O.DE _ _ (r9 rv).1 (r9 rv).2) λCl e=>by subst e;exact nM O (O.cls _ _ (r9 rv)).keep) (λs rv=>by cases ZX rv;exact lL rfl) (λs rv=>by cases Bo rv;exact lL rfl) rv
 have C':=C.mono pr i λz9 h=>h;refine O5 @T (first:=[]) hk ns stuck C' Y (X.mono pr i) y λvs q z r I xs len a b j o G=>?_;have M:=C'.mono a b λz9 h=>h;have l:=K.mono (pr.trans a) (i.trans b);have w:=X.mono (pr.trans a) (i.trans b);show wpAny _ A (call x xs) Q E _;have W:A.units+200<cLine:=by have:=C.units;lia
 refine NW (C:=λv=>RV F z r v x->P (JR cf v vs q k)->wpAny F.mo A (call x xs) Q E ⟨r,g,u,I,B⟩) MG (λs rv m=>?_) (λc D N rv m=>?_) (λs rv m=>HV O stuck j C.handled C.guards W l rv o m) (λs rv m=>HV O stuck j C.handled C.guards W l rv o m) (rv.mono a b) G
 ·replace m:P (cf (.top s) vs q k):=m;clear hk;cases N:Lx (.top s)with
  |none=>rw[S _ _ _ _ N]at m;exact(stuck m).elim
  |some D=>refine aW (O.fns _ _ _ (CV rv).2 N (CV rv).1) λfa cB FA=>?_;clear rv;subst cB;exact wpAny_call (V N FA (by have:=C.depth;lia) (by have:=C.units;lia) C.guards C.handled C.fr.outer j o l w.call stuck m)
 ·refine oE (O.DE _ _ (r9 rv).1 (r9 rv).2) λCl aG=>?_;clear hk;subst aG;exact ZY V O stuck M j l w (r9 rv) N o m
theorem Lu.adopt{vo:VO}(R:Lu F U H (.obj a o::Θ) h)(s:Heap.SameBut a h Z)(c:¬lS o)(t:∃o,Z.get? a=some o)(q:∀own,aZ h Z->mV F (U++[a]) Z own H.length a vo):Lu F (U++[a]) (H++[vo]) Θ Z/\aZ h Z:=by
 have n:=R.dS _ (aE);have I:=eO s n.1 c;obtain⟨st,l,⟨own,o1,o2,u⟩,nd,pr⟩:=R;have i:own a=none:=o2 _ (aE);have fr:∀p∈Θ,p.addr≠a:=λp hp e=>by rw[bX,dF]at nd;exact nd.1 (by rwa[show(bA.obj a o).addr=a from rfl];refine cM e ?_;exact iY hp)
 refine⟨⟨λb ob j=>(s.2 b λq=>by clear s t nd pr o2 i fr;subst q;have:=n.2;change F.base.get? b=none at this;rw[this]at j;exact dW j).trans (st b ob j),by simp[l],⟨λb=>if b=a then some (.obj H.length)else own b,λb hb=>?_,λp hp=>?_,λm vo' f=>?_⟩,by rw[bX,dF]at nd;exact nd.2,λp hp=>⟨(pr p (aC hp)).1.move (s.2 _ (fr p hp)),(pr p (aC hp)).2⟩⟩,I⟩
 ·by_cases z:b=a;·clear s q nd pr o2 i fr hb;subst z;exact⟨n.2,t⟩
  ·simp only[z,if_false]at hb;refine oE ((o1 b hb).2) λob j=>?_;exact⟨(o1 b hb).1,ob,(s.2 b z).trans j⟩
 ·simp only[fr p hp,if_false];exact o2 p (aC hp)
 ·rcases Nat.lt_trichotomy m H.length with k|k|k
  ·rw[List.getElem?_append_left k]at f;refine cY (u m vo' f) λb e1 r v=>?_;have hb:b≠a:=λz=>by rw[z,i]at r;exact dW r
   refine⟨b,mD ⟨_,rfl⟩ e1,by simp only[hb,if_false];exact r,?_⟩;refine(v.move ⟨_,rfl⟩ I (s.2 b hb) λd g=>s.2 d λz=>by rw[z,i]at g;exact dW g).qK λd g=>?_;have:d≠a:=λz=>by rw[z,i]at g;exact dW g
   simp only[this,if_false];exact g
  ·subst k;rw[jX (Nat.le_refl _),Nat.sub_self]at f;have w:=aM f;subst w;refine⟨a,?_,by simp,q _ I⟩;rwa[jX (by rwa[l];exact Nat.le_refl _)];rwa[l];rewrite[Nat.sub_self];rfl
  ·rw[List.getElem?_eq_none (by simp;lia)]at f;exact dW f
inductive q_(F:Fix)(U:List Addr)(h:Heap):List Str->List V->List (Value×Value)->Prop
 |nil:q_ F U h [] [] []
 |cons{x:Str}{t:Tok}{v:V}{y:Value}{xs vs Y}:RV F U h v y->q_ F U h xs vs Y->q_ F U h (x::xs) (v::vs) ((.str x t,y)::Y)
theorem q_.length{xs:List Str}{vs:List V}{Y:List (Value×Value)}(r:q_ F U h xs vs Y):vs.length=xs.length:=by
 induction r with
 |nil=>rfl
 |cons _ _ a=>simp[a]
theorem q_.facts{xs:List Str}{vs:List V}{Y:List (Value×Value)}(r:q_ F U h xs vs Y):allStrKeys Y=true/\(strPairs Y).map (·.1)=xs/\DR F U h V.str ((xs.zip vs).map λp=>(.str p.1,p.2)) (strPairs Y):=by
 induction r with
 |nil=>exact⟨rfl,rfl,.nil⟩
 |cons a _ b=>refine gB b ?_;clear b;intro i1 i2 i3;refine⟨i1,?_,.cons a i3⟩;show _::(strPairs _).map (·.1)=_;rwa[i2];rfl
theorem WI(z:dC F g u B cf d n):∀(ks:List Expr)(xs:List Str)(es:List Expr){U:List Addr}{H:VH}{h:Heap}{t:Nat}{kk:List V->VH->Res}{Q:List (Value×Value)->Shared->Prop},ks.map Mr=xs.map some->xs.length=es.length->Cx F d A J L sc loc U h Θ->Lu F U H Θ h->fX F g u B Θ U h P L E->(P .stuck->False)->P (nU (λe H k=>ev cf n sc e loc H k) es H kk)->(∀vs f aO Z t' Y,U<+:aO->aZ h Z->Lu F aO f Θ Z->q_ F aO Z xs vs Y->P (kk vs f)->Q Y ⟨Z,g,u,t',B⟩)->wpAny F.mo A (evalPairs (pairTrees (ks.map some) es J pos)) Q E ⟨h,g,u,t,B⟩:=by
 intro ks
 induction ks with
 |nil=>
  intro xs es U H h t kk Q a el C R X stuck j l
  induction xs using List.casesOn with
  |nil=>induction es using List.casesOn with
   |nil=>exact pairTrees_nil_walk (l [] H U h t [] aQ (aZ.refl _) R .nil j)
   |cons _ _=>exact aV el.symm (Nat.succ_ne_zero _)
  |cons _ _=>exact aV a.symm (List.cons_ne_nil _ _)
 |cons O ks m=>
  intro xs es U H h t kk Q a el C R X stuck j l
  induction xs using List.casesOn with
  |nil=>exact aV a (List.cons_ne_nil _ _)
  |cons x xs=>induction es using List.casesOn with
   |nil=>exact aV el (Nat.succ_ne_zero _)
   |cons e es=>rw[bX,bX]at a;refine oA (List.cons.inj a) λb o=>?_;rwa[bX];refine pairTrees_cons_walk ?_;refine zO b λz9 z9 D=>?_;clear a b;subst D;refine wpAny_Constant_str ?_;refine z C R (k:=λv H=>nU (λe H k=>ev cf n sc e loc H k) es H λvs H=>kk (v::vs) H) (λv f aO Z t' y p i G rv q=>?_) X stuck j;refine m xs es o (Nat.succ.inj el) (C.mono p i λz9 h=>h) G (X.mono p i) stuck q λvs I s K M Y p' w r N c=>?_;exact l _ _ _ _ _ _ (p.trans p') (i.trans w) r (.cons (rv.mono p' w) N) c
theorem NO(W:dC F g u B cf d n){ks:List Expr}{xs:List Str}{es:List Expr}(N:ks.map Mr=xs.map some)(el:xs.length=es.length)(h0:ks≠[])(l:ks.length<=15)(nd:xs.Nodup)(stuck:cS P)(C:Cx F d A J L sc loc U h Θ)(R:Lu F U H Θ h)(K:cZ F g u B Θ U h P k Q)(X:fX F g u B Θ U h P L E){kk:List V->VH->Res}(hk:∀vs f,vs.length=xs.length->P (kk vs f)->P (k (.ref f.length) (f++[.dict ((xs.zip vs).map λp=>(.str p.1,p.2))])))(hP:P (nU (λe H k=>ev cf n sc e loc H k) es H kk)):wpAny F.mo A (eval (.Dict (ks.map some) es p) J) Q E ⟨h,g,u,t,B⟩:=by
 have kl:ks.length=es.length:=by refine cM el ?_;have:=congrArg List.length N;simpa using this
 have k1:Keeps h (h.push {cls:=.type "dict",data:=.dict #[]}):=λb o e=>dJ _ e;have R1:=R.j2 (p:=.obj h.objs.size {cls:=.type "dict",data:=.dict #[]}) k1 gE (kA h rfl);have m:=aZ.of_keeps k1;have Xd:fX F g u B (.obj h.objs.size {cls:=.type "dict",data:=.dict #[]}::Θ) U (h.push {cls:=.type "dict",data:=.dict #[]}) P L E:=λc s f aO Z t' e p i x r=>by refine X c s f aO Z t' e p (m.trans i) (x.sub (λq v=>aC v) ?_) r;exact R.nodup
 refine wpAny_Dict_walk (knd:=strKind F.prog F.w) (by simp) (by simpa using kl) (by simpa using h0) (by simpa using l) ?_;refine WI @W ks xs es N el (C.mono aQ m λq v=>aC v) R1 Xd stuck hP λvs f aO Z t' Y pr i j O y=>?_;refine gB (O.facts) λf1 f2 f3=>?_;have T:=(j.dS _ (aE)).1;change _=some _ at T;have D0:Z.DictOf (strKind F.prog F.w) h.objs.size []:=⟨_,#[],0,T,⟨rfl,rfl,rfl⟩,rfl,λe he=>by simp at he,.nil,.nil⟩;refine display_done_str (a:=h.objs.size) f1 (by rwa[f2];exact nd) D0 λz D S=>?_;have len:=O.length;refine oA (j.adopt (vo:=.dict ((xs.zip vs).map λp=>(.str p.1,p.2))) S (eN rfl) (let⟨o,_,_,e,_⟩:=D;⟨o,e⟩) λown I=>.inr ⟨_,D,f3.mono ⟨_,rfl⟩ I⟩) λG M=>?_;refine K _ _ (aO++[h.objs.size]) z _ _ (pr.trans ⟨_,rfl⟩) (m.trans (i.trans M)) G (.ref ?_) (hk vs f len y);rwa[jX (by rwa[j.len];exact Nat.le_refl _)];rwa[j.len];rewrite[Nat.sub_self];rfl
end
section
theorem j_.mono{k:Bool->VH->Res}{Q:Bool->Shared->Prop}(K:j_ F g u B Θ U h P k Q)(p:U<+:aO)(i:aZ h Z):j_ F g u B Θ aO Z P k Q:=λb a c6 bB t' p' c=>K b a c6 bB t' (p.trans p') (i.trans c)
theorem j_.here{k:Bool->VH->Res}{Q:Bool->Shared->Prop}(K:j_ F g u B Θ U h P k Q)(R:Lu F U H Θ h){b:Bool}(a:P (k b H)):Q b ⟨h,g,u,t',B⟩:=K b H U h t' aQ (aZ.refl _) R a
theorem SH(it:iN F g u B cf d n):∀(vs:List Expr){U:List Addr}{H:VH}{h:Heap}{t:Nat}{k:Bool->VH->Res}{Q:Bool->Shared->Prop},Cx F d A J L sc loc U h Θ->Lu F U H Θ h->j_ F g u B Θ U h P k Q->fX F g u B Θ U h P L E->(P .stuck->False)->P (tG (λe H k=>mE cf n sc e loc H k) vs H k)->wpAny F.mo A (allTrue .And vs J) Q E ⟨h,g,u,t,B⟩
 |[],U,H,h,t,k,Q,C,R,K,X,stuck,c=>wpAny_allTrue_And_nil (K.here R c)
 |e::r,U,H,h,t,k,Q,C,R,K,X,stuck,c=>by
  refine wpAny_allTrue_And_cons (it C R (λb j aO Z t' p i f a=>?_) X stuck c)
  induction b using Bool.casesOn with
  |true=>exact SH @it r (C.mono p i λz9 h=>h) f (K.mono p i) (X.mono p i) stuck a
  |false=>exact(K.mono p i).here f a
theorem YL(it:iN F g u B cf d n):∀(vs:List Expr){U:List Addr}{H:VH}{h:Heap}{t:Nat}{k:Bool->VH->Res}{Q:Bool->Shared->Prop},Cx F d A J L sc loc U h Θ->Lu F U H Θ h->j_ F g u B Θ U h P k Q->fX F g u B Θ U h P L E->(P .stuck->False)->P (JA (λe H k=>mE cf n sc e loc H k) vs H k)->wpAny F.mo A (allTrue .Or vs J) Q E ⟨h,g,u,t,B⟩
 |[],U,H,h,t,k,Q,C,R,K,X,stuck,c=>wpAny_allTrue_Or_nil (K.here R c)
 |[e],U,H,h,t,k,Q,C,R,K,X,stuck,c=>wpAny_allTrue_Or_cons (it C R (λb j aO Z t' p i f a=>match b with
  |true=>(K.mono p i).here f a
  |false=>wpAny_allTrue_Or_nil ((K.mono p i).here f a)) X stuck c)
 |e::l::r,U,H,h,t,k,Q,C,R,K,X,stuck,c=>wpAny_allTrue_Or_cons (it C R (λb j aO Z t' p i f a=>match b,a with
  |true,a=>(K.mono p i).here f a
  |false,a=>YL @it (l::r) (C.mono p i λz9 h=>h) f (K.mono p i) (X.mono p i) stuck a) X stuck c)
theorem XB(z:dC F g u B cf d n)(O:cA F){k:Bool->VH->Res}{Q:Bool->Shared->Prop}{l r:Expr}{op:CmpOp}(C:Cx F d A J L sc loc U h Θ)(R:Lu F U H Θ h)(K:j_ F g u B Θ U h P k Q)(X:fX F g u B Θ U h P L E)(stuck:cS P)(I:P (ev cf n sc l loc H λa H=>ev cf n sc r loc H λb H=>oR (i5 op a b H) λt=>k t H)):wpAny F.mo A (isTrue (.Compare l [op] [r] p) J (eval (.Compare l [op] [r] p) J)) Q E ⟨h,g,u,t,B⟩:=by
 rw[arm_isTrue_Compare];refine aF (z C R (λv N aO Z t' x pr i M rv o=>?_) X stuck I);show wpAny _ A (testChain p x [op] [markedBehindIn op r (eval r J)]) Q E _;rwa[qY (pQ stuck o)];refine aF (cH (z (C.mono pr i λz9 h=>h) M (λq s w D G y e f j m c=>aF (dX ?_)) (X.mono pr i) stuck o))
 cases hb:i5 op v q s with
 |none=>rw[hb]at c;exact(stuck c).elim
 |some b=>rw[hb]at c;exact aF (wpAny_operating (oY O j C.AI (rv.mono e f) m hb λt=>cH (wpAny_truthy_bool ((K.mono (pr.trans e) (i.trans f)).here j c))))
theorem Y4(Y:dC F g u B cf d n)(O:cA F){k:Bool->VH->Res}{Q:Bool->Shared->Prop}{l r M:Expr}{op j:CmpOp}(C:Cx F d A J L sc loc U h Θ)(R:Lu F U H Θ h)(K:j_ F g u B Θ U h P k Q)(X:fX F g u B Θ U h P L E)(stuck:cS P)(hP:P (ev cf n sc l loc H λa H=>ev cf n sc r loc H λb H=>oR (i5 op a b H) λt=>bR t (ev cf n sc M loc H λc H=>oR (i5 j b c H) λt=>k t H) (k false H))):wpAny F.mo A (isTrue (.Compare l [op,j] [r,M] p) J (eval (.Compare l [op,j] [r,M] p) J)) Q E ⟨h,g,u,t,B⟩:=by
 rw[arm_isTrue_Compare];refine aF (Y C R (λv H' aO Z t' x pr i R' rv b6=>?_) X stuck hP);show wpAny _ A (testChain p x [op,j] [eval r J,markedBehindIn j M (eval M J)]) Q E _;refine aF (cH (Y (C.mono pr i λz9 h=>h) R' (λw T b7 b9 c6 y m o q s e=>aF (dX ?_)) (X.mono pr i) stuck b6))
 cases hb:i5 op v w T with
 |none=>rw[hb]at e;exact(stuck e).elim
 |some b=>
  rw[hb]at e;refine aF (cH (oY O q C.AI (rv.mono m o) s hb λt=>aF (wpAny_release' (aF (cH (wpAny_truthy_bool ?_))))))
  induction b using Bool.casesOn with
  |false=>exact a_ ((K.mono (pr.trans m) (i.trans o)).here q e)
  |true=>
   show wpAny _ A (testChain p y [j] [markedBehindIn j M (eval M J)]) Q E _;rwa[qY (pQ stuck e)];refine aF (cH (Y (C.mono (pr.trans m) (i.trans o) λz9 h=>h) q (λV W b8 c7 c9 z D G I N f=>aF (dX ?_)) (X.mono (pr.trans m) (i.trans o)) stuck e))
   cases S:i5 j w V W with
   |none=>rw[S]at f;exact(stuck f).elim
   |some b'=>rw[S]at f;exact aF (wpAny_operating (oY O I C.AI (s.mono D G) N S λt=>cH (wpAny_truthy_bool ((K.mono (pr.trans (m.trans D)) (i.trans (o.trans G))).here I f))))
theorem PP(m:dC F g u B cf d n)(it:iN F g u B cf d n)(O:cA F):iN F g u B cf d (n+1):=by
 intro A J L sc e loc Θ U H h t P k Q E C R K X stuck f
 have dflt:∀{e:Expr},isTrue e J (eval e J)=(do let v<-eval e J;standAt e.pos;holding [v] (PySem.truthy v))->P (ev cf n sc e loc H λv H=>oR (Mq v) λb=>k b H)->wpAny F.mo A (isTrue e J (eval e J)) Q E ⟨h,g,u,t,B⟩:=by
  intro e he f;refine wpAny_isTrue_value (m C R (λv q aO Z t' x p i o rv j=>?_) X stuck f) he
  cases hb:Mq v with
  |none=>rw[hb]at j;exact(stuck j).elim
  |some b=>rw[hb]at j;exact xW rv hb ((K.mono p i).here o j)
 induction e using PySem.Expr.casesOn with
 |UnaryOp op x p=>
  induction op using PySem.UnaryOp.casesOn with
  |Not=>exact wpAny_isTrue_Not (it C R (λb q aO Z t' pr i o j=>(K.mono pr i).here o j) X stuck f)
  |_=>exact dflt rfl f
 |BoolOp op vs p=>
  induction op using PySem.BoolOp.casesOn with
  |And=>exact wpAny_isTrue_BoolOp (SH @it vs C R K X stuck f)
  |Or=>exact wpAny_isTrue_BoolOp (YL @it vs C R K X stuck f)
 |IfExp a b c p=>exact(stuck f).elim
 |Compare l ops rs p=>
  rcases ops with _|⟨op,_|⟨s,_|⟨_,_⟩⟩⟩;·exact(stuck f).elim
  ·rcases rs with _|⟨r,_|⟨_,_⟩⟩;·exact(stuck f).elim
   ·exact XB @m O C R K X stuck f
   ·exact(stuck f).elim
  ·rcases rs with _|⟨r,_|⟨w,_|⟨_,_⟩⟩⟩;·exact(stuck f).elim
   ·exact(stuck f).elim
   ·exact Y4 @m O C R K X stuck f
   ·exact(stuck f).elim
  ·rcases rs with _|⟨r,_|⟨_,_⟩⟩<;>exact(stuck f).elim
 |_=>exact dflt rfl f
theorem P1(b:dC F g u B cf d n):y_ F g u B cf d (n+1):=by
 intro A J L sc e loc Θ U H h t P k Q E C R K X stuck a
 induction e using Option.casesOn with
 |none=>rw[evalPart_none];exact a_ (K.here R .none a)
 |some e=>rw[evalPart_some];exact b C R K X stuck a
theorem BH{l it:Addr}(f:l≠it):∀(m i:Nat)(s:Shared)(Q:List Value->Shared->Prop),s.heap.IsListIter @it l i->s.heap.IsList l items->i+m<=items.size->(∀Z,Z.IsListIter @it l (i+m)->Heap.SameBut @it s.heap Z->Q ((items.toList.drop i).take m) {s with heap:=Z})->wpAny F.mo A (draw (.ref @it) m) Q E s
 |0,i,s,Q,hit,j,hm,k=>a_ (by have:=k s.heap hit (Heap.SameBut.refl ..);simpa using this)
 |m+1,i,s,Q,hit,j,hm,k=>by
  have g:i<items.size:=by lia
  refine aF (m:=pyNext (.ref @it)) (wpAny_pyNext_list_item hit j (Array.getElem?_eq_getElem g) λbB b a=>?_);have d:bB.IsList l items:=let⟨o,ho,r⟩:=j;⟨o,(a.2 l f).trans ho,r⟩;refine aF (cH (BH f m (i+1) _ _ b d (by lia) λh c e=>a_ ?_));have n:items.toList.drop i=items[i]::items.toList.drop (i+1):=by simp[List.drop_eq_getElem_cons,g]
  have:=k h (by rwa[show i+(m+1)=i+1+m by lia];exact c) (a.trans e);rw[n,List.take_succ_cons]at this;exact this
theorem pX{l:Addr}{Q:List Value->Shared->Prop}(m:A.handled=none)(g:s.heap.IsList l items)(n:∀Z,Keeps s.heap Z->Q items.toList {s with heap:=Z}):wpAny F.mo A (unpackItems (.ref l) items.size none) Q E s:=by
 have h:l≠s.heap.objs.size:=by refine aW g ?_;clear g;intro o ho _;exact Nat.ne_of_lt (Heap.lt_size ho)
 unfold unpackItems;refine aF ?_;unfold notIterableAtAll;refine aF (wpAny_specialOf g.typeIs PySem.slot_list_iter.lookup ?_);refine a_ ?_;simp only[Bool.false_eq_true,if_false];refine aF (cH (wpAny_pyIter_list g ?_));have i:(s.heap.push {cls:=.type "list_iterator",data:=.fields #[.ref l,.int 0 0]}).IsList l items:=let⟨o,ho,r⟩:=g;⟨o,dJ _ ho,r⟩;refine aF (cH (BH h items.size 0 _ _ ⟨_,kA _ rfl,rfl,rfl⟩ i (by lia) λbB c a=>?_));have j:List.take items.size (List.drop 0 items.toList)=items.toList:=by rwa[List.drop_zero];exact List.take_of_length_le (by simp)
 rwa[j];rwa[aH (by simp)];have d:bB.IsList l items:=let⟨o,ho,r⟩:=i;⟨o,(a.2 l h).trans ho,r⟩;refine aF (cH (wpAny_pyNext_list_end m c d (by simp) λk f=>?_));simp only[Option.isSome_none,Bool.false_eq_true,if_false];refine a_ (n k λb o e=>?_);have hb:b≠s.heap.objs.size:=Nat.ne_of_lt (Heap.lt_size e);exact f b o hb ((a.2 b hb).trans (dJ _ e))
end
def f_(F:Fix)(g:Array GenState)(u:Drawn)(B:OsState)(cf:CF)(d n:Nat):Prop:=∀{A:Around}{J:Env}{L:Addr}{sc:Sc}{a:Expr}{v:V}{x:Value}{loc:Loc}{own aP:List bA}{U:List Addr}{H:VH}{h:Heap}{t:Nat}{P:Res->Prop}{k:Loc->VH->Res}{Q:Unit->Shared->Prop}{E:Po},Cx F d A J L sc loc U h (own++aP)->iA J sc own->Lu F U H (own++aP) h->RV F U h v x->AX F g u B J sc own aP U h P k Q->f8 F g u B own aP U h P L E->(P .stuck->False)->P (asg cf n sc a v loc H k)->wpAny F.mo A (assign a J x) Q E ⟨h,g,u,t,B⟩
variable{bL:Loc}
section
theorem Cx.turn(x:Cx F d A J L sc loc U h (own++aP))(s:cR own bG)(N:dG F J sc bL aO Z (bG++aP)):Cx F d A J L sc bL aO Z (bG++aP):=⟨x.depth,x.units,x.guards,x.handled,x.fr.same s,x.hf,N⟩
theorem kM{r:List Expr}(h:Mg e=false):assignEach (e::r) J=(false,assign e J)::assignEach r J:=by induction e using PySem.Expr.casesOn<;>first|rfl|cases h
theorem rM:∀{ts:List Expr},ts.any Mg=false->(assignEach ts J).findIdx? (·.1)=none/\(assignEach ts J).length=ts.length
 |[],_=>⟨rfl,rfl⟩
 |e::r,h=>by rw[List.any_cons,Bool.or_eq_false_iff]at h;refine oA (rM h.2) λi1 i2=>?_;rwa[kM h.1];exact⟨by rwa[List.findIdx?_cons];simp[i1],by simp[i2]⟩
theorem PQ(ia:f_ F g u B cf d n):∀(ts:List Expr)(l:List V){xs:List Value}{loc:Loc}{own:List bA}{U:List Addr}{H:VH}{h:Heap}{t:Nat}{k:Loc->VH->Res}{Q:Unit->Shared->Prop},ts.any Mg=false->Cx F d A J L sc loc U h (own++aP)->iA J sc own->Lu F U H (own++aP) h->b9 F U h l xs->AX F g u B J sc own aP U h P k Q->f8 F g u B own aP U h P L E->(P .stuck->False)->P (Mj (asg cf n sc) ts l loc H k)->wpAny F.mo A (assignInOrder ((assignEach ts J).map (·.2)) xs) Q E ⟨h,g,u,t,B⟩:=by
 intro ts
 induction ts with
 |nil=>
  intro l xs loc own U H h t k Q ns C W R r K X stuck a
  induction l using List.casesOn with
  |nil=>cases r;exact wpAny_assignInOrder_none (K loc H U h t own aQ (aZ.refl _) (.refl _) R C.N a)
  |cons _ _=>exact(stuck a).elim
 |cons e ts c=>
  intro l xs loc own U H h t k Q ns C W R r K X stuck a
  induction l using List.casesOn with
  |nil=>exact(stuck a).elim
  |cons v l=>
   rw[List.any_cons,Bool.or_eq_false_iff]at ns
   cases r with
   |cons f j=>rwa[kM ns.1];refine wpAny_assignInOrder_more (ia C W R f (k:=λloc H=>Mj (asg cf n sc) ts l loc H k) (λbL o aO Z t' bG p i s m N' b=>?_) X stuck a);exact c l ns.2 (C.turn s N') (W.same s) m (j.mono p i) (K.mono p i s) (X.mono p i s) stuck b
theorem sJ{l:List V}{src:VH->Bool}(R:Lu F U H Θ h)(rv:RV F U h v x)(e:Ly v H=some (l,src))(g:∀a b c,v≠.eF a b c):∃a items,x=.ref a/\b9 F U h l items.toList/\((h.IsTuple a items)\/h.PlainList a items):=by
 induction v using V.casesOn with
 |tup l'=>refine i7 (O8 rv) λa o items d=>?_;refine rZ d ?_;clear d;intro n f e1 i j k;clear rv;subst f;exact⟨a,items,rfl,(Prod.mk.inj (aM e)).1▸k,.inl ⟨o,e1,i,n,j⟩⟩
 |eF a b c=>exact aV rfl (g _ _ _)
 |ref n=>
  refine aW (NV rv) λa aG m=>?_;clear rv;subst aG
  cases el:H[n]? with
  |none=>unfold Ly at e;dsimp only at e;rw[el]at e;exact(aS e).elim
  |some vo=>
   unfold Ly at e;dsimp only at e;rw[el]at e
   induction vo using VO.casesOn with
   |list l'=>refine b_ (R.list el) λp items f1 f2 f3=>?_;rw[m]at f1;exact⟨a,items,rfl,(Prod.mk.inj (aM e)).1▸f3,.inr ((aM f1)▸f2)⟩
   |_=>exact(aS e).elim
 |_=>exact(aS e).elim
theorem PT{x:Res}(stuck:cS P)(d:P (S3 v x))(q:(∀a b c,v≠.eF a b c)->P x->C):C:=by
 induction v using V.casesOn with
 |eF=>exact(stuck d).elim
 |_=>exact q (λz9 z9 z9 e=>nomatch e) d
theorem A9{c:List (Bool×(Value->Sem Unit))}(f:A.handled=none)(hs:s.heap.IsTuple a items\/s.heap.PlainList a items)(h:c.length=items.size)(d:c.findIdx? (·.1)=none)(g:∀Z,Keeps s.heap Z->wpAny F.mo A (assignInOrder (c.map (·.2)) items.toList) Q E {s with heap:=Z}):wpAny F.mo A (unpack (.ref a) c) Q E s:=by
 unfold unpack;rwa[h];rwa[d];rcases hs with i|j;·exact aF (cH (wpAny_unpackItems_tuple f i λZ hk=>g Z λb o e=>hk b o (Nat.ne_of_lt (Heap.lt_size e)) e))
 ·exact aF (cH (pX f j.isList g))
theorem RM(ih:dC F g u B cf d n)(io:y_ F g u B cf d n)(ia:f_ F g u B cf d n)(O:cA F):f_ F g u B cf d (n+1):=by
 intro A J L sc f8 v x loc own aP U H h t P k Q E C W R rv K X stuck j;have KH:∀{aO Z},U<+:aO->aZ h Z->tN F g u B (own++aP) aO Z P (λH=>k loc H) Q:=λ{aO Z}p i G m M S c e D f=>K loc G m M S own (p.trans c) (i.trans e) (.refl _) D (C.N.mono (p.trans c) (i.trans e) λz9 h=>h) f;have Y:∀{o i0:Expr}{p:Pos},P (ev cf n sc o loc H λo H=>ev cf n sc i0 loc H λi H=>Mc o i v H λH=>k loc H)->wpAny F.mo A (assign (.Subscript o i0 p) J x) Q E ⟨h,g,u,t,B⟩:=by intro o i0 p j;rw[arm_assign_Subscript];refine aF (cH (ih C R (λw H' aO Z t' y pr i R' b6 b7=>?_) X.here stuck j));refine aF (cH (ih (C.mono pr i λz9 h=>h) R' (λwi G m M S z c e D ri f=>?_) (X.here.mono pr i) stuck b7));refine aF (dX (aF (cH ?_)));exact OO stuck D (k:=λH=>k loc H) (λb8 T b9 c6 c7 c9 d6 V=>wpAny_release' (KH (pr.trans c) (i.trans e) b8 T b9 c6 c7 c9 d6 V)) (b6.mono c e) ri (rv.mono (pr.trans c) (i.trans e)) f
 induction f8 using PySem.Expr.casesOn with
 |Name y p=>
  refine cV j (λz9 z=>(stuck z).elim) λhn j=>wpAny_assign_Name ?_
  cases hl:sc.lookup y with
  |none=>rw[hl]at j;exact(stuck j).elim
  |some kd=>
   rw[hl]at j
   induction kd using PySem.NameKind.casesOn with
   |«local»=>exact zX R C.N W K rv (.inl hl) (λz=>hn (.inl z)) (λz=>hn (.inr z)) j
   |cell=>exact zX R C.N W K rv (.inr hl) (λz=>hn (.inl z)) (λz=>hn (.inr z)) j
   |_=>exact(stuck j).elim
 |Attribute o a p=>
  refine cV j (λz9 z=>(stuck z).elim) λhs j=>?_
  show wpAny _ A (do let ov<-holding [x] (eval o J);standAt p.atName;holding [x,ov] (PySem.setAttr ov a x);release [x,ov] []) Q E _;refine aF (cH (ih C R (λw H' aO Z t' y pr i R' b6 b7=>?_) X.here stuck j));exact aF (dX (aF (cH (vJ stuck O R' (k:=λH=>k loc H) (λG m M S c e D f=>wpAny_release' (KH pr i G m M S c e D f)) b6 (rv.mono pr i) b7))))
 |Subscript o i0 p=>
  induction i0 using PySem.Expr.casesOn with
  |Slice a b s q=>
   induction s using Option.casesOn with
   |some _=>exact Y j
   |none=>rw[arm_assign_Subscript];refine aF (cH (ih C R (λw H' aO Z t' y pr i R' b6 b7=>?_) X.here stuck j));refine aF (cH (wpAny_Slice (io (C.mono pr i λz9 h=>h) R' (λva G m M S ya c e D ra f=>?_) (X.here.mono pr i) stuck b7)));refine io (C.mono (pr.trans c) (i.trans e) λz9 h=>h) D (λvb i4 f9 i5 i6 z d7 d8 f7 rb d9=>?_) (X.here.mono (pr.trans c) (i.trans e)) stuck f;rw[evalPart_none];refine a_ (aF (dX (aF (cH ?_))));have p':=pr.trans (c.trans d7);have i':=i.trans (e.trans d8);exact LH stuck f7 (k:=λH=>k loc H) (λb8 T b9 c6 c7 c9 d6 V=>wpAny_release' (KH p' i' b8 T b9 c6 c7 c9 d6 V)) (b6.mono (c.trans d7) (e.trans d8)) (ra.mono d7 d8) rb (rv.mono p' i') d9
  |_=>exact Y j
 |Tuple ts q p=>replace j:P (OS (asg cf n sc) ts v loc H k):=j;refine eC stuck j λq' he j=>PT stuck j λnr j=>bU stuck j λhl j=>?_;rw[assignIdx_eq hl.1]at j;refine b_ (sJ (l:=q'.1) (src:=q'.2) R rv he nr) λa items aG r hs=>?_;clear rv Y;subst aG;have z:=r.length;rw[Array.length_toList]at z;rw[arm_assign_Tuple];refine oA (rM (J:=J) hl.2) λs1 s2=>?_;refine aF (dX (A9 C.handled hs (by rwa[s2];rwa[z];rwa[hl.1];rfl) s1 λZ hk=>?_));have I:=aZ.of_keeps hk;exact PQ @ia ts q'.1 hl.2 (C.mono aQ I λz9 h=>h) W (R.keeps hk) (r.mono aQ I) (K.mono aQ I (.refl _)) (X.mono aQ I (.refl _)) stuck j
 |_=>exact(stuck j).elim
end
def O7(F:Fix)(g:Array GenState)(u:Drawn)(B:OsState)(cf:CF)(d n:Nat):Prop:=∀{A:Around}{J:Env}{L:Addr}{sc:Sc}{elt t0 b:Expr}{ifs:List Expr}{a:Int}{gs:List Comprehension}{O:Scope}{pos:Pos}{loc:Loc}{Θ:List bA}{U:List Addr}{H:VH}{h:Heap}{t:Nat}{P:Res->Prop}{k:Kv}{Q:Po}{E:Po},Cx F d A J L sc loc U h Θ->Lu F U H Θ h->cZ F g u B Θ U h P k Q->fX F g u B Θ U h P L E->(P .stuck->False)->pY sc O (⟨t0,b,ifs,a⟩::gs)=true->P (ev cf n sc b loc H λx H=>sP (ev cf n (gV O.names)) (mE cf n (gV O.names)) (nP (gV O.names)) elt (⟨t0,b,ifs,a⟩::gs) x (loc.filter λp=>O.names.lookup p.1==some .free) H [] λH acc=>k (.ref H.length) (H++[.list acc]))->wpAny F.mo A (eval (.ListComp elt (⟨t0,b,ifs,a⟩::gs) O pos) J) Q E ⟨h,g,u,t,B⟩
theorem SD{cf:CF}{k:Kv}{M:Expr->Res->Prop}(o:∀e,M e .stuck)(B:∀a b,M (.Constant .none a b) (k .none H))(C:∀x a b,M (.Constant (.bool x) a b) (k (.bool x) H))(D:∀x a b,M (.Constant (.int x) a b) (k (.int x) H))(E:∀x a b,M (.Constant (.str x) a b) (k (.str x) H))(nm:∀x q,M (.Name x q) (ev cf (n+1) sc (.Name x q) loc H k))(at_:∀x a q,M (.Attribute x a q) (ev cf (n+1) sc (.Attribute x a q) loc H k))(sl:∀x a b q2 q,M (.Subscript x (.Slice a b none q2) q) (ev cf (n+1) sc (.Subscript x (.Slice a b none q2) q) loc H k))(A:∀x i q,M (.Subscript x i q) (ev cf n sc x loc H λo H=>ev cf n sc i loc H λi H=>oR (Mz o i H) λv=>k v H))(F:∀l op r q,M (.BinOp l op r q) (ev cf (n+1) sc (.BinOp l op r q) loc H k))(G:∀x q,M (.UnaryOp .USub x q) (ev cf (n+1) sc (.UnaryOp .USub x q) loc H k))(no:∀x q,M (.UnaryOp .Not x q) (ev cf (n+1) sc (.UnaryOp .Not x q) loc H k))(I:∀op x y q,M (.BoolOp op [x,y] q) (ev cf (n+1) sc (.BoolOp op [x,y] q) loc H k))(J:∀l op r q,M (.Compare l [op] [r] q) (ev cf (n+1) sc (.Compare l [op] [r] q) loc H k))(K:∀l op d r g q,M (.Compare l [op,d] [r,g] q) (ev cf (n+1) sc (.Compare l [op,d] [r,g] q) loc H k))(L:∀c b x q,M (.IfExp c b x q) (ev cf (n+1) sc (.IfExp c b x q) loc H k))(P:∀es q p,M (.Tuple es q p) (ev cf (n+1) sc (.Tuple es q p) loc H k))(Q:∀es q,M (.List es q) (ev cf (n+1) sc (.List es q) loc H k))(R:∀q,M (.Dict [] [] q) (ev cf (n+1) sc (.Dict [] [] q) loc H k))(S:∀a e q,M (.Dict [some a] [e] q) (ev cf (n+1) sc (.Dict [some a] [e] q) loc H k))(T:∀a b c e1 j t q,M (.Dict [some a,some b,some c] [e1,j,t] q) (ev cf (n+1) sc (.Dict [some a,some b,some c] [e1,j,t] q) loc H k))(U:∀x m u as q,M (.Call (.Attribute x m u) as [] q) (ev cf (n+1) sc (.Call (.Attribute x m u) as [] q) loc H k))(V:∀f p as q,M (.Call (.Name f p) as [] q) (ev cf (n+1) sc (.Call (.Name f p) as [] q) loc H k))(W:∀elt t0 w ifs a gs O q,M (.ListComp elt (⟨t0,w,ifs,a⟩::gs) O q) (ev cf (n+1) sc (.ListComp elt (⟨t0,w,ifs,a⟩::gs) O q) loc H k))(e:Expr):M e (ev cf (n+1) sc e loc H k):=by
 refine(?_:∀N:Expr->Prop,(∀e,M e (ev cf (n+1) sc e loc H k)->N e)->N e) (λe=>M e (ev cf (n+1) sc e loc H k)) λz9 h=>h;intro N c
 induction e using PySem.Expr.casesOn with
 |Constant x a b=>induction x using PySem.Const.casesOn with
  |none=>exact c _ (B a b)
  |bool x=>exact c _ (C x a b)
  |int x=>exact c _ (D x a b)
  |str x=>exact c _ (E x a b)
  |_=>exact c _ (o _)
 |Name x q=>exact c _ (nm x q)
 |Attribute x a q=>exact c _ (at_ x a q)
 |Subscript x i q=>induction i using PySem.Expr.casesOn with
  |Slice a b s q2=>induction s using Option.casesOn with
   |none=>exact c _ (sl x a b q2 q)
   |some _=>exact c _ (A x _ q)
  |_=>exact c _ (A x _ q)
 |BinOp l op r q=>exact c _ (F l op r q)
 |UnaryOp op x q=>induction op using PySem.UnaryOp.casesOn with
  |USub=>exact c _ (G x q)
  |Not=>exact c _ (no x q)
  |_=>exact c _ (o _)
 |BoolOp op vs q=>rcases vs with _|⟨x,_|⟨y,_|⟨z,vs⟩⟩⟩<;>first|exact c _ (I op x y q)|exact c _ (o _)
 |Compare l ops rs q=>rcases ops with _|⟨op,_|⟨d,_|⟨_,_⟩⟩⟩<;>first|exact c _ (o _)|(rcases rs with _|⟨r,_|⟨g,_|⟨_,_⟩⟩⟩<;>first|exact c _ (J l op r q)|exact c _ (K l op d r g q)|exact c _ (o _))
 |IfExp a b x q=>exact c _ (L a b x q)
 |Tuple es q p=>exact c _ (P es q p)
 |List es q=>exact c _ (Q es q)
 |Dict ks es q=>
  rcases ks with _|⟨_|x,ks⟩;·rcases es with _|⟨_,_⟩<;>first|exact c _ (R q)|exact c _ (o _)
  ·exact c _ (o _)
  ·rcases ks with _|⟨_|y,ks⟩;·rcases es with _|⟨e,_|⟨_,_⟩⟩<;>first|exact c _ (S x e q)|exact c _ (o _)
   ·exact c _ (o _)
   ·rcases ks with _|⟨_|z,_|⟨_,_⟩⟩<;>first|exact c _ (o _)|(rcases es with _|⟨e1,_|⟨j,_|⟨t,_|⟨_,_⟩⟩⟩⟩<;>first|exact c _ (T x y z e1 j t q)|exact c _ (o _))
 |Call f as ks q=>induction ks using List.casesOn with
  |cons k1 ks=>induction f using PySem.Expr.casesOn<;>exact c _ (o _)
  |nil=>induction f using PySem.Expr.casesOn with
   |Attribute x m u=>exact c _ (U x m u as q)
   |Name f p=>exact c _ (V f p as q)
   |_=>exact c _ (o _)
 |ListComp elt gs O q=>rcases gs with _|⟨⟨t0,w,ifs,a⟩,gs⟩<;>first|exact c _ (W elt t0 w ifs a gs O q)|exact c _ (o _)
 |_=>exact c _ (o _)
@[elab_as_elim]theorem Am{f:V->Res}{C:List V->Prop}{l:List V}(stuck:cS P)(h:P (Mv .stuck l f))(q:∀v,P (f v)->C [v]):C l:=by rcases l with _|⟨v,_|⟨w,l⟩⟩<;>first|exact q v h|exact(stuck h).elim
@[elab_as_elim]theorem QP{f:V->V->V->Res}{C:List V->Prop}{l:List V}(stuck:cS P)(h:P (Nf .stuck l f))(q:∀u v w,P (f u v w)->C [u,v,w]):C l:=by rcases l with _|⟨u,_|⟨v,_|⟨w,_|⟨_,l⟩⟩⟩⟩<;>first|exact q u v w h|exact(stuck h).elim
section
theorem WC(s:dC F g u B cf d n)(io:y_ F g u B cf d n)(it:iN F g u B cf d n)(Z:O7 F g u B cf d n)(T:xX F g u B cf d)(G:∀fk vs H k,Lx fk=none->cf fk vs H k=.stuck)(D:cA F):dC F g u B cf d (n+1):=by
 intro A J L sc e loc Θ U H h t P k Q E C R K X stuck j;refine SD (cf:=cf) (M:=λe r=>P r->wpAny F.mo A (eval e J) Q E ⟨h,g,u,t,B⟩) (λe j=>(stuck j).elim) (λa b j=>wpAny_Constant_none (K.here R .none j)) (λx a b j=>wpAny_Constant_bool (K.bool R j)) (λx a b j=>wpAny_Constant_int (K.int R j)) (λx a b j=>wpAny_Constant_str (K.here R (.str _ _) j)) (λx q j=>As D R C.N K cf stuck j) (λx a q j=>cV (c:=kP x=true) j (λz9 h=>(stuck h).elim) λhs j=>Bc @s D (Bool.eq_false_iff.mpr hs) stuck C R K X j) (λx a b q2 q j=>WQ @s @io stuck C R K X j) (λx i q j=>Ds @s D stuck C R K X j) (λl op r q j=>VB @s stuck C R K X j) (λx q j=>ZG @s stuck C R K X j) (λx q j=>Eb @s stuck C R K X j) (λop x y q j=>RB @s stuck C R K X j) (λl op r q j=>ZM @s D stuck C R K X j) (λl op b6 r r' q j=>W_ @s D stuck C R K X j) (λc b x q j=>VG @s @it stuck C R K X j) (λes q p j=>cV (c:=100<es.length) j (λz9 h=>(stuck h).elim) λz j=>UN @s z stuck C R K X j) (λes q j=>cV (c:=100<es.length) j (λz9 h=>(stuck h).elim) λz j=>Aa @s z stuck C R K X j) (λq j=>wpAny_Dict_empty (K.BF R (l:=[]) (kvs:=[]) (λb o e=>dJ _ e) gE (Heap.DictOf.new h) .nil j)) (λa e q j=>?_) (λa b c e1 V W q j=>?_) (λx m ap as q j=>?_) (λf p as q j=>?_) (λelt t0 i0 ifs a gs O q j=>cV (c:=pY sc O (⟨t0,i0,ifs,a⟩::gs)=true) j (λI j=>Z C R K X stuck I j) λz9 h=>(stuck h).elim) e j;·replace j:P (oR (Mr a) λx=>ev cf n sc e loc H λv H=>k (.ref H.length) (H++[VO.dict [(.str x,v)]])):=j;refine eC stuck j λx ex j=>?_;refine NO @s (ks:=[a]) (xs:=[x]) (es:=[e]) (kk:=λvs H=>Mv .stuck vs λv=>k (.ref H.length) (H++[VO.dict [(.str x,v)]])) (by rwa[bX];rwa[ex];rfl) rfl (List.cons_ne_nil _ _) (Nat.le_of_ble_eq_true rfl) (dF.mpr ⟨List.not_mem_nil,List.nodup_nil⟩) stuck C R K X (λvs H' z9 S=>Am (l:=vs) stuck S λv h=>h) j
 ·replace j:P (oR (Mr a) λx=>oR (Mr b) λy=>oR (Mr c) λz=>if x≠y/\y≠z/\x≠z then nU (λe H k=>ev cf n sc e loc H k) [e1,V,W] H λvs H=>Nf .stuck vs λY v w=>k (.ref H.length) (H++[VO.dict [(.str x,Y),(.str y,v),(.str z,w)]])else .stuck):=j;refine eC stuck j λx ex j=>eC stuck j λy ey j=>eC stuck j λz ez j=>?_;refine cV (c:=x≠y/\y≠z/\x≠z) j (λnd j=>?_) λz9 h=>(stuck h).elim;refine NO @s (ks:=[a,b,c]) (xs:=[x,y,z]) (es:=[e1,V,W]) (by rwa[bX];rwa[bX];rwa[bX];rwa[ex];rwa[ey];rwa[ez];rfl) rfl (List.cons_ne_nil _ _) (Nat.le_of_ble_eq_true rfl) (by simp[nd]) stuck C R K X (λvs H' z9 S=>QP (l:=vs) stuck S λY v w h=>h) j
 ·refine cV (c:=(kP x||!(ap.endLine==q.line)||decide (20<as.length)||as.any Mg)=true) j (λz9 h=>(stuck h).elim) λhs j=>?_;simp only[Bool.or_eq_true,Bool.not_eq_true',decide_eq_true_eq,not_or,Bool.not_eq_true,Bool.not_eq_false]at hs;exact XL @s T D hs.1.1.1 hs.1.1.2 hs.1.2 hs.2 stuck C R K X j
 ·refine cV (c:=(decide (20<as.length)||as.any Mg)=true) j (λz9 h=>(stuck h).elim) λhs j=>?_;simp only[Bool.or_eq_true,decide_eq_true_eq,not_or,Bool.not_eq_true]at hs;exact Ob @s T G D hs.2 stuck C R K X j
end
inductive FN(F:Fix)(U:List Addr)(h:Heap):Fl->Flow->Prop
 |next:FN F U h .next .next
 |brk:FN F U h .brk .brk
 |cont:FN F U h .cont .cont
 |ret{v:V}{x:Value}:RV F U h v x->FN F U h (.ret v) (.ret x)
def kT(F:Fix)(g:Array GenState)(u:Drawn)(B:OsState)(J:Env)(sc:Sc)(own aP:List bA)(U:List Addr)(h:Heap)(P:Res->Prop)(k:Kf)(Q:Flow->Shared->Prop):Prop:=∀a bL b aO Z t' bG f,U<+:aO->aZ h Z->cR own bG->Lu F aO b (bG++aP) Z->dG F J sc bL aO Z (bG++aP)->FN F aO Z a f->P (k a bL b)->Q f ⟨Z,g,u,t',B⟩
def uT(F:Fix)(g:Array GenState)(u:Drawn)(B:OsState)(cf:CF)(d n:Nat):Prop:=∀{A:Around}{J:Env}{L:Addr}{sc:Sc}{st:Stmt}{loc:Loc}{own aP:List bA}{U:List Addr}{H:VH}{h:Heap}{t:Nat}{P:Res->Prop}{k:Kf}{Q:Flow->Shared->Prop}{E:Po},Cx F d A J L sc loc U h (own++aP)->iA J sc own->Lu F U H (own++aP) h->kT F g u B J sc own aP U h P k Q->f8 F g u B own aP U h P L E->(P .stuck->False)->P (ex cf n sc st loc H k)->wpAny F.mo A (exec st J) Q E ⟨h,g,u,t,B⟩
section
variable{k:Kf}{Q:Flow->Shared->Prop}
theorem kT.mono(K:kT F g u B J sc own aP U h P k Q)(p:U<+:aO)(i:aZ h Z)(s:cR own bG):kT F g u B J sc bG aP aO Z P k Q:=λa bL b c6 bB t' o' f p' c s'=>K a bL b c6 bB t' o' f (p.trans p') (i.trans c) (s.trans s')
theorem yY(m:uT F g u B cf d n):∀(b:List Stmt){loc:Loc}{own:List bA}{U:List Addr}{H:VH}{h:Heap}{t:Nat}{k:Kf}{Q:Flow->Shared->Prop},Cx F d A J L sc loc U h (own++aP)->iA J sc own->Lu F U H (own++aP) h->kT F g u B J sc own aP U h P k Q->f8 F g u B own aP U h P L E->(P .stuck->False)->P (gJ (ex cf n sc) b loc H k)->wpAny F.mo A (execs b J) Q E ⟨h,g,u,t,B⟩:=by
 intro b
 induction b with
 |nil=>intro loc own U H h t k Q C W R K X stuck j;exact wpAny_execs_nil (K .next loc H U h t own _ aQ (aZ.refl _) (.refl _) R C.N .next j)
 |cons st r l=>
  intro loc own U H h t k Q C W R K X stuck j;refine wpAny_execs_cons (m C W R (k:=λc loc H=>match c with|.next=>gJ (ex cf n sc) r loc H k|c=>k c loc H) (λc bL q aO Z t' bG f p i s e N' o a=>?_) X stuck j)
  cases o with
  |next=>exact l (C.turn s N') (W.same s) e (K.mono p i s) (X.mono p i s) stuck a
  |brk=>exact K _ _ _ _ _ _ _ _ p i s e N' .brk a
  |cont=>exact K _ _ _ _ _ _ _ _ p i s e N' .cont a
  |ret rv=>exact K _ _ _ _ _ _ _ _ p i s e N' (.ret rv) a
theorem kT.at(K:kT F g u B J sc own aP U h P k Q)(N:dG F J sc loc U h (own++aP)){a:Fl}{f:Flow}{b:VH}(p:U<+:aO)(i:aZ h Z)(c:Lu F aO b (own++aP) Z)(r:FN F aO Z a f)(d:P (k a loc b)):Q f ⟨Z,g,u,t',B⟩:=K a loc b aO Z t' own f p i (.refl _) c (N.mono p i λz9 h=>h) r d
theorem Ip(it:iN F g u B cf d n)(e:uT F g u B cf d n){c:Expr}{b o:List Stmt}(C:Cx F d A J L sc loc U h (own++aP))(W:iA J sc own)(R:Lu F U H (own++aP) h)(K:kT F g u B J sc own aP U h P k Q)(X:f8 F g u B own aP U h P L E)(stuck:cS P)(j:P (mE cf n sc c loc H λc H=>bR c (gJ (ex cf n sc) b loc H k) (gJ (ex cf n sc) o loc H k))):wpAny F.mo A (exec (.If c b o p) J) Q E ⟨h,g,u,t,B⟩:=by
 refine wpAny_If (it C R (λc l aO Z t' pr i f a=>?_) X.here stuck j);have C':=C.mono pr i λz9 h=>h
 induction c using Bool.casesOn with
 |true=>exact yY @e b C' W f (K.mono pr i (.refl _)) (X.mono pr i (.refl _)) stuck a
 |false=>exact yY @e o C' W f (K.mono pr i (.refl _)) (X.mono pr i (.refl _)) stuck a
theorem Dq(b:dC F g u B cf d n)(C:Cx F d A J L sc loc U h (own++aP))(R:Lu F U H (own++aP) h)(K:kT F g u B J sc own aP U h P k Q)(X:f8 F g u B own aP U h P L E)(stuck:cS P)(c:P (ev cf n sc e loc H λv H=>k (.ret v) loc H)):wpAny F.mo A (exec (.Return (some e) p) J) Q E ⟨h,g,u,t,B⟩:=wpAny_Return_some (b C R (λv j aO Z t' x pr i f rv a=>K.at C.N pr i f (.ret rv) a) X.here stuck c)
theorem Z7(l:dC F g u B cf d n){p:Pos}(m:∀a b c q,e≠.ListComp a b c q)(C:Cx F d A J L sc loc U h (own++aP))(R:Lu F U H (own++aP) h)(K:kT F g u B J sc own aP U h P k Q)(X:f8 F g u B own aP U h P L E)(stuck:cS P)(j:P (ev cf n sc e loc H λz9 H=>k .next loc H)):wpAny F.mo A (exec (.Expr e p) J) Q E ⟨h,g,u,t,B⟩:=by
 have hi:interactive J=false:=by unfold interactive;rwa[C.N.kind];rfl
 have hs:swapsWith e none p.line J=pure false:=by induction e using PySem.Expr.casesOn<;>first|rfl|exact aV rfl (m _ _ _ _)|(induction n using Nat.casesOn<;>exact(stuck j).elim)
 exact wpAny_Expr_any (l C R (λv r aO Z t' x pr i o rv f=>K.at C.N pr i o .next f) X.here stuck j) hi hs
end
theorem sameL_eq{m:List V}(h:Ly.m4 l m=true):l=m:=@of_decide_eq_true _ (Classical.propDecidable _) h
def Mo(v:V)(l:List V):VH->Bool:=match v with
 |.ref n=>λa=>match a[n]? with
  |some (.list l')=>Ly.m4 l l'
  |_=>false
 |_=>λz9=>true
variable{src:VH->Bool}
theorem yM{C:V->Prop}(e:Ly v H=some (l,src))(f:src=Mo (.tup l) l->C (.tup l))(g:∀a b c,(Mf a&&Mf b)=true->lV a b c=some l->src=Mo (.eF a b c) l->C (.eF a b c))(h:∀n,H[n]?=some (.list l)->src=Mo (.ref n) l->C (.ref n)):C v:=by
 induction v using V.casesOn with
 |tup l'=>clear g h;have d:=aM e;cases d;exact f rfl
 |eF a b c=>refine dM e λhs e=>Mn e λl' i e=>?_;clear f h;have d:=(Prod.mk.inj e).1;have j:=(Prod.mk.inj e).2;subst d;subst j;exact g a b c hs i rfl
 |ref n=>replace e:lD none H[n]? (λl=>some (l,Mo (.ref n) l))=some (l,src):=e;refine il (p:=λr=>r=some (l,src)) aS e λl' el e=>?_;clear f g;have d:=aM e;cases d;exact h n el rfl
 |_=>cases e
theorem rI{l:List V}{src:VH->Bool}(e:Ly v H=some (l,src)):src=Mo v l:=yM (C:=λv=>src=Mo v l) e id (λz9 z9 z9 z9 z9 h=>h) λz9 z9 h=>h
inductive jR(F:Fix)(U:List Addr)(h:Heap)(l:List V)(i:Nat):V->Obj->Prop
 |tup{a:Addr}{o' o:Obj}{items:Array Value}{n:Nat}:h.get? a=some o'->o'.cls=.type "tuple"->o'.data=.seq items n->b9 F U h l items.toList->o.cls=.type "tuple_iterator"->o.data=.fields #[.ref a,.int i 0]->jR F U h l i (.tup l) o
 |list{n:Nat}{a:Addr}{o:Obj}:U[n]?=some a->o.cls=.type "list_iterator"->o.data=.fields #[.ref a,.int i 0]->jR F U h l i (.ref n) o
 |eF{lo hi st:Int}{o:Obj}:lV lo hi st=some l->o={cls:=.type "range_iterator",dict:=none,data:=.fields #[rawInt (lo+st*i),rawInt ((l.length:Int)-i),rawInt st],slots:=#[]}->jR F U h l i (.eF lo hi st) o
variable{I:Addr}
section
theorem jR.mono{i:Nat}(x:jR F U h l i v o)(p:U<+:aO)(g:aZ h Z):jR F aO Z l i v o:=by
 cases x with
 |tup a b c d e f=>exact .tup (g _ _ a (.inl ⟨b,_,_,c⟩)) b c (d.mono p g) e f
 |list a b c=>exact .list (mD p a) b c
 |eF a b=>exact .eF a b
theorem jR.u9{i:Nat}(x:jR F U h l i v o):¬lS o:=by
 cases x with
 |tup a b c d e f=>exact fR f (by rwa[e];simp)
 |list a b c=>exact fR c (by rwa[b];simp)
 |eF a b=>subst b;exact fR rfl (by simp)
theorem Lu.sF{p:bA}(R:Lu F U H (p::Θ) h)(s:Heap.ExtBut p.addr h Z)(e:h.get? p.addr=some o)(c:¬lS o):Lu F U H Θ Z/\aZ h Z:=by
 have I:aZ h Z:=λb ob a cb=>by
  by_cases q:b=p.addr;·subst q;rw[e]at a;have j:=aM a;subst j;exact aV cb c
  ·exact s b ob q a
 obtain⟨st,l,⟨own,o1,o2,k⟩,nd,pr⟩:=R;have hp:=pr p (aE);have ne:∀b,own b≠none->b≠p.addr:=λb hb q=>hb (by rwa[q];exact o2 p (aE));have at_:∀b,b≠p.addr->(∃o,h.get? b=some o)->Z.get? b=h.get? b:=λb hb⟨o,e⟩=>(s b o hb e).trans e.symm;rw[bX,dF]at nd;refine⟨⟨λb ob a=>s b ob (λq=>by rw[q,hp.2]at a;exact dW a) (st b ob a),l,⟨own,λb hb=>⟨(o1 b hb).1,?_⟩,λx f=>o2 x (aC f),λn vo e=>?_⟩,nd.2,λx f=>?_⟩,I⟩;·refine oE ((o1 b hb).2) λob a=>?_;exact⟨ob,s b ob (ne b hb) a⟩
 ·refine cY (k n vo e) λb e1 i m=>?_;have hb:own b≠none:=by rwa[i];simp
  exact⟨b,e1,i,m.move aQ I (at_ b (ne b hb) (o1 b hb).2) λd r=>by
   have hb:own d≠none:=by rwa[r];simp
   exact at_ d (ne d hb) (o1 d hb).2⟩
 ·have g:x.addr≠p.addr:=λq=>nd.1 (q▸iY f);exact⟨(pr x (aC f)).1.move (at_ _ g (pr x (aC f)).1.obj),(pr x (aC f)).2⟩
theorem TV{a b:Int}:Builtin.Range.rangeSize a b 1=((b-a).toNat:Int):=by
 show(if(1:Int)>0 then(if a<b then(b-a-1)/1+1 else 0)else _)=_;rwa[aI (by decide)];by_cases h:a<b;·rwa[aI h];rw[Int.ediv_one,Int.sub_add_cancel];rwa[Int.toNat_of_nonneg (Int.le_of_lt (Int.sub_pos_of_lt h))];rfl
 ·rwa[aH h];rwa[Int.toNat_eq_zero.mpr (Int.sub_nonpos_of_le (Int.not_lt.mp h))];rfl
theorem TD{a b:Int}:Builtin.Range.rangeSize a b (-1)=((a-b).toNat:Int):=by
 show(if(-1:Int)>0 then _ else(if a>b then(a-b-1)/1+1 else 0))=_;rwa[aH (by decide)];by_cases h:a>b;·rwa[aI h];rw[Int.ediv_one,Int.sub_add_cancel];rwa[Int.toNat_of_nonneg (Int.le_of_lt (Int.sub_pos_of_lt h))];rfl
 ·rwa[aH h];rwa[Int.toNat_eq_zero.mpr (Int.sub_nonpos_of_le (Int.not_lt.mp h))];rfl
theorem HG{x:Int}(h:x<2^63):Builtin.Range.rangeFitsLong (x.toNat:Int)=true:=Bool.and_eq_true_iff.mpr ⟨cC (Int.le_trans (by decide) (Int.natCast_nonneg _)),cC (by
 by_cases q:0<=x;·rwa[Int.toNat_of_nonneg q];exact h
 ·rwa[Int.toNat_eq_zero.mpr (Int.le_of_lt (Int.not_le.mp q))];decide)⟩
theorem AW{lo hi st:Int}(e:lV lo hi st=some l):(st=1\/st=-1)/\Builtin.Range.rangeSize lo hi st=(l.length:Int)/\∀(i:Nat)(w:V),l[i]?=some w->w=V.int (lo+st*(i:Int)):=by
 refine f9 e (λq e=>?_) λz9 e=>dM e λq e=>?_
 ·clear e;subst q;have b:=aM e;subst b;refine⟨.inl rfl,?_,λi w a=>?_⟩;·rwa[TV];rw[bO];rwa[List.length_range];rfl
  ·rw[e_]at a
   cases z:(List.range (hi-lo).toNat)[i]? with
   |none=>rw[z]at a;cases a
   |some j=>rw[z]at a;have b:=aM a;subst b;have:=dN.mp z;refine oE this ?_;clear this;intro lt e;rw[List.getElem_range]at e;clear z a;subst e;simp
 ·clear z9 e;subst q;have b:=aM e;subst b;refine⟨.inr rfl,?_,λi w a=>?_⟩;·rwa[TD];rw[bO];rwa[List.length_range];rfl
  ·rw[e_]at a
   cases z:(List.range (lo-hi).toNat)[i]? with
   |none=>rw[z]at a;cases a
   |some j=>
    rw[z]at a;have b:=aM a;subst b;have:=dN.mp z;refine oE this ?_;clear this;intro lt e;rw[List.getElem_range]at e;clear z a;subst e;have:lo+-1*(i:Int)=lo-(i:Int):=by rw[Int.neg_mul,Int.one_mul];rfl
    rwa[this];rfl
theorem IZ{i:Nat}{w:V}{Q:Option Value->Shared->Prop}(R:Lu F U H Θ h)(m:bA.obj I o∈Θ)(x:jR F U h l i v o)(hs:Mo v l H=true)(j:l[i]?=some w)(q:∀y Z t' o',Heap.SameBut I h Z->Z.get? I=some o'->jR F U Z l (i+1) v o'->RV F U Z w y->Q (some y) ⟨Z,g,u,t',B⟩):wpAny F.mo A (pyNext (.ref I)) Q E ⟨h,g,u,t,B⟩:=by
 have k:=(R.dS _ m).1;change h.get? I=some o at k;have n:∀{Z},Heap.SameBut I h Z->aZ h Z:=λS=>eO S k x.u9;clear m;cases x with
 |tup a b c d e f=>refine aW (d.get j) λy r s=>?_;refine wpAny_pyNext_tuple_item ⟨o,k,e,f⟩ ⟨_,a,b,_,c⟩ (by refine cM Array.getElem?_toList ?_;exact r) λZ z S=>cY z λo' e1 C D=>?_;exact q y Z _ o' S e1 (.tup (n S _ _ a (.inl ⟨b,_,_,c⟩)) b c (d.mono aQ (n S)) C D) (s.mono aQ (n S))
 |list a b c=>refine il (p:=λb=>b=true) Bool.false_ne_true (show lD false H[_]? (λl'=>Ly.m4 l l')=true from hs) λl' el hs=>?_;refine b_ (R.list el) λK items f1 f2 f3=>?_;rw[a]at f1;have G:=aM f1;subst G;rw[<-sameL_eq hs]at f3;refine aW (f3.get j) λy r s=>?_;refine wpAny_pyNext_list_item ⟨o,k,b,c⟩ f2.isList (by refine cM Array.getElem?_toList ?_;exact r) λZ z S=>cY z λo' e1 C D=>?_;exact q y Z _ o' S e1 (.list a C D) (s.mono aQ (n S))
 |eF a b=>subst b;refine gB (AW a) λf1 f2 f3=>?_;have lt:=(dN.mp j).1;refine wpAny_pyNext_range_item k (by lia) λZ hit S=>?_;have J:=f3 i w j;clear j;subst J;refine q _ Z _ _ S hit (.eF a ?_) (.int _ _);congr 1;simp only[Int.natCast_add,Int.natCast_one];rwa[show _+_*(_:Int)+_=_+_*((i:Int)+1)by rw[Int.mul_add,Int.mul_one,Int.add_assoc]];rwa[show(l.length:Int)-i-1=l.length-(i+1)by lia];rfl
theorem NF{Q:Option Value->Shared->Prop}(j:A.handled=none)(R:Lu F U H Θ h)(m:bA.obj I o∈Θ)(x:jR F U h l l.length v o)(hs:Mo v l H=true)(k:∀Z t',Heap.ExtBut I h Z->Q none ⟨Z,g,u,t',B⟩):wpAny F.mo A (pyNext (.ref I)) Q E ⟨h,g,u,t,B⟩:=by
 have i:=(R.dS _ m).1;change h.get? I=some o at i;clear m;cases x with
 |tup a b c d e f=>have z:=d.length;refine wpAny_pyNext_tuple_end j ⟨o,i,e,f⟩ ⟨_,a,b,_,c⟩ (by refine cM Array.getElem?_toList ?_;rewrite[List.getElem?_eq_none];rfl;lia) λZ S=>k Z _ S
 |list a b c=>refine il (p:=λb=>b=true) Bool.false_ne_true (show lD false H[_]? (λl'=>Ly.m4 l l')=true from hs) λl' el hs=>?_;refine b_ (R.list el) λq items f1 f2 f3=>?_;rw[a]at f1;have n:=aM f1;subst n;rw[<-sameL_eq hs]at f3;have z:=f3.length;exact wpAny_pyNext_list_end j ⟨o,i,b,c⟩ f2.isList (by refine cM Array.getElem?_toList ?_;rewrite[List.getElem?_eq_none];rfl;lia) λZ S=>k Z _ S
 |eF a b=>subst b;exact wpAny_pyNext_range_end j i (by lia) λZ S=>k Z _ S
end
variable{eJ:List bA}{c6:List Addr}{t0:Expr}{np:Pos}{line:Nat}
section
variable{k:Kf}{Q:Flow->Shared->Prop}
theorem oW(e:Mf i=true):Builtin.Range.rangeFitsLong i=true:=by have:=qH e;unfold Builtin.Range.rangeFitsLong;simp only[dE,decide_eq_true_eq];lia
theorem DT{Q:Po}(R:Lu F U H Θ h)(rv:RV F U h v x)(e:Ly v H=some (l,src))(d:∀o,o.isFreed=false->jR F U (h.push o) l 0 v o->Q (.ref h.objs.size) ⟨h.push o,g,u,t,B⟩):wpAny F.mo A (pyIter x) Q E ⟨h,g,u,t,B⟩:=by
 refine yM (C:=λv=>RV F U h v x->(∀o,o.isFreed=false->jR F U (h.push o) l 0 v o->Q (.ref h.objs.size) ⟨h.push o,g,u,t,B⟩)->wpAny F.mo A (pyIter x) Q E ⟨h,g,u,t,B⟩) e (λz9 rv d=>?_) (λa b c q z z9 rv d=>?_) (λn el z9 rv d=>?_) rv d;·refine i7 (O8 rv) λa o items f=>?_;refine rZ f ?_;clear f;intro n i e1 k m s;clear rv;subst i;refine wpAny_pyIter_tuple ⟨o,e1,k,n,m⟩ (d _ rfl ?_);exact .tup (dJ _ e1) k m (s.mono aQ (aZ.of_keeps λb o e=>dJ _ e)) rfl rfl
 ·rw[dE]at q;clear z9;cases rv with
  |eF hr=>
   refine gB (AW z) λf1 f2 f3=>?_;have y:=qH q.1;have D:=qH q.2
   have j:Builtin.Range.small a b c=true:=by
    unfold Builtin.Range.small;rwa[oW q.1];rwa[oW q.2]
    have p:Builtin.Range.rangeFitsLong (Builtin.Range.rangeSize a b c)=true:=by
     clear z d hr f2 f3;rcases f1 with rfl|rfl;·rwa[TV];exact HG (by lia)
     ·rwa[TD];exact HG (by lia)
    rwa[p];clear z d hr f2 f3 p;rcases f1 with rfl|rfl;·show(Builtin.Range.rangeSize a b 1==0||Builtin.Range.rangeFitsLong (b+0))=true;rw[Int.add_zero];rwa[oW q.2];rewrite[Bool.or_true];rfl
    ·show(Builtin.Range.rangeSize a b (-1)==0||Builtin.Range.rangeFitsLong (b+0))=true;rw[Int.add_zero];rwa[oW q.2];rewrite[Bool.or_true];rfl
   refine wpAny_pyIter_range hr j (d _ rfl (.eF z ?_));rwa[f2];simp
 ·refine aW (NV rv) λa aG r=>?_;clear rv;subst aG;refine b_ (R.list el) λG items f1 f2 f3=>?_;rw[r]at f1;have w:=aM f1;subst w;exact wpAny_pyIter_list f2.isList (d _ rfl (.list r rfl rfl))
theorem DQ{i:Nat}{g:Expr}{Q:Unit->Shared->Prop}(p:s.heap.get? I=some o)(x:jR F U h l i v o)(q:Q () s):wpAny F.mo A (letOwnedTupleGo g (.ref I) y) Q E s:=by
 have j:o.cls=.type "tuple_iterator"\/o.cls=.type "list_iterator"\/o.cls=.type "range_iterator":=by
  clear p;cases x with
  |tup a b c d e f=>exact .inl e
  |list a b c=>exact .inr (.inl b)
  |eF a b=>subst b;exact .inr (.inr rfl)
 have k:∃vs,o.data=.fields vs:=by
  clear p j;cases x with
  |tup a b c d e f=>exact⟨_,f⟩
  |list a b c=>exact⟨_,c⟩
  |eF a b=>subst b;exact⟨_,rfl⟩
 refine oE k ?_;clear k;intro vs k
 have t:wpAny F.mo A (do
  let(.ref r,.ref a):=(Value.ref I,y)|return
  let o<-load r
  match o.cls,o.data with
  |.type n,.fields vs=>
   if["enumerate","zip","dict_itemiterator","dict_reverseitemiterator","odict_iterator","itertools.zip_longest","itertools.pairwise"].contains n&&vs[0]?==some (rawInt a)then
    rule "for.unpacks-the-owned-tuple"
    updateField r 0 .none
  |_,_=>pure ():Sem Unit) Q E s:=by
  induction y using PySem.Value.casesOn with
  |ref a=>refine aF (wpAny_load p ?_);rcases j with j|j|j<;>(rwa[j];rwa[k];exact a_ q)
  |_=>exact a_ q
 refine(?_:∀N:Sem Unit->Prop,N (do
  let(.ref r,.ref a):=(Value.ref I,y)|return
  let o<-load r
  match o.cls,o.data with
  |.type n,.fields vs=>
   if["enumerate","zip","dict_itemiterator","dict_reverseitemiterator","odict_iterator","itertools.zip_longest","itertools.pairwise"].contains n&&vs[0]?==some (rawInt a)then
    rule "for.unpacks-the-owned-tuple"
    updateField r 0 .none
  |_,_=>pure ():Sem Unit)->N (pure ())->N (letOwnedTupleGo _ _ _)) (λm=>wpAny F.mo A m Q E s) t (a_ q);intro N u w
 induction g using Expr.casesOn with
 |_=>first|exact u|exact w
theorem dG.rO(N:dG F J sc loc U h (own++.obj I o::aP)):dG F J sc loc U h (own++aP):=N.map (λz9 z9 q=>q) (λm hm=>s8 hm λe=>bA.noConfusion e) λc w hm=>s8 hm λe=>bA.noConfusion e
theorem iK(p:bA)(a b:List bA):(a++p::b).Perm (p::(a++b)):=gR
theorem vB(h:∀a b c,e≠.Set a b c)(x:Value):foldedSetIterable e J x=pure x:=by induction e using PySem.Expr.casesOn<;>first|rfl|exact aV rfl (h _ _ _)
theorem pB{p q:bA}{a b:List bA}(h:p∈a++b):p∈a++q::b:=by
 rcases fL.mp h with h|h;·exact bY _ h
 ·exact cG _ (aC h)
theorem uI{p:bA}{a b:List bA}(h:((a++p::b).map bA.addr).Nodup):((a++b).map bA.addr).Nodup:=by have:=(iK p a b).map bA.addr|>.nodup_iff.mp h;rw[bX,dF]at this;exact this.2
theorem XQ{I:Addr}{o:Obj}(hf:J.frame=some L)(Fr:eY A L (own++aP))(X:f8 F g u B own aP U h P L E)(p:U<+:c6)(i:aZ h bB)(s:cR own eJ):f8 F g u B eJ (.obj I o::aP) c6 bB P L (notedBy F.mo A J λe s'=>cameBackBy F.mo A J E e s'):=by
 intro c k l aO Z t' e bG p' m s' n a;have b:eY A L (bG++.obj I o::aP):=(Fr.same (s.trans s')).sub λq d=>pB d;refine zW b n hf λf r j=>?_;refine aW (id j) λY t v=>?_;have nd:((bG++.obj I o::aP).map bA.addr).Nodup:=by have:=t.nodup;rw[eZ,List.nodup_append]at this;exact this.2.1
 exact X c k l aO f t' e bG (p.trans p') (i.trans (m.trans r)) (s.trans s') (j.sub (λq d=>pB d) (uI nd)) a
inductive PR(F:Fix)(g:Array GenState)(u:Drawn)(B:OsState)(P:Res->Prop)(J:Env)(sc:Sc)(I:Addr)(aP own:List bA)(l:List V)(v:V)(U:List Addr)(h:Heap)(turn:V->Loc->VH->Kf->Res)(k:Kf):Nat->Shared->Prop
 |mk{m i:Nat}{eJ:List bA}{c6:List Addr}{oL:VH}{bB:Heap}{jU:Nat}{jY:Loc}{rF:Obj}:m+i=l.length->U<+:c6->aZ h bB->cR own eJ->Lu F c6 oL (eJ++.obj I rF::aP) bB->dG F J sc jY c6 bB (eJ++aP)->jR F c6 bB l i v rF->
  P (c9 (Mo v l) turn (l.drop i) jY oL k)->PR F g u B P J sc I aP own l v U h turn k m ⟨bB,g,u,jU,B⟩
def QI(cf:CF)(n:Nat)(sc:Sc)(t0:Expr)(b:List Stmt):V->Loc->VH->Kf->Res:=λv loc H k=>asg cf n sc t0 v loc H λloc H=>gJ (ex cf n sc) b loc H k
theorem Cx.gD{a:Heap}{jY:Loc}{I:Addr}{o:Obj}(C:Cx F d A J L sc loc U h (own++aP))(s:cR own eJ)(N:dG F J sc jY c6 bB (eJ++aP))(i:aZ bB a):Cx F d A J L sc jY c6 a (eJ++.obj I o::aP):=⟨C.depth,C.units,C.guards,C.handled,(C.fr.same s).sub λq b=>pB b,C.hf,N.mono aQ i λq b=>pB b⟩
set_option tactic.hygienic true in
theorem Bs(ih:dC F g u B cf d n)(ia:f_ F g u B cf d n)(ie:uT F g u B cf d n){i0:Expr}{b:List Stmt}(C:Cx F d A J L sc loc U h (own++aP))(W:iA J sc own)(R:Lu F U H (own++aP) h)(K:kT F g u B J sc own aP U h P k Q)(X:f8 F g u B own aP U h P L E)(stuck:cS P)
 (hP:P (ev cf n sc i0 loc H λx H=>oR (Ly x H) λq=>c9 q.2 (λv loc H k=>asg cf n sc t0 v loc H λloc H=>gJ (ex cf n sc) b loc H k) q.1 loc H k)):wpAny F.mo A (exec (.For t0 i0 b [] p) J) Q E ⟨h,g,u,t,B⟩:=by
 refine wpAny_For (ih C R (λv H' aO Z t' x pr i R' rv d8=>?_) X.here stuck hP) (vB (pQ stuck hP))
 cases he:Ly v H' with
 |none=>rw[he]at d8;exact(stuck d8).elim
 |some q=>
  rw[he]at d8;refine DT R' rv he λo hf hit=>?_;have k1:Keeps Z (Z.push o):=λb o e=>dJ _ e;have I1:=aZ.of_keeps k1;refine codeAny_forLoop_any (PR F g u B P J sc Z.objs.size aP own q.1 v U h (QI cf n sc t0 b) k) ?_ q.1.length
   (.mk rfl pr (i.trans I1) (.refl _) ((R'.j2 (p:=.obj Z.objs.size o) k1 gE (kA Z hf)).perm (iK _ own aP).symm) (C.N.mono pr (i.trans I1) λz9 h=>h) hit ((rI (l:=q.1) (src:=q.2) he)▸d8));intro m s z;obtain⟨hm,Y,b6,r,Rl,d9,c,G⟩:=z;rename_i j eJ c6 oL bB jU jY rF;have b7:bA.obj Z.objs.size rF∈eJ++.obj Z.objs.size rF::aP:=cG _ (aE);have hI:bB.get? Z.objs.size=some rF:=(Rl.dS _ b7).1
  cases hw:q.1[j]? with
  |none=>have e:q.1.length=j:=Nat.le_antisymm (List.getElem?_eq_none_iff.mp hw) (hm▸Nat.le_add_left ..);rw[<-e,List.drop_length]at G;rw[<-e]at c;exact bU stuck G λhs G=>NF C.handled Rl b7 c hs λf7 j1 S=>
   have z:=(Rl.perm (iK _ eJ aP)).sF S hI c.u9
   wpAny_execs_nil (K .next jY oL c6 f7 _ eJ _ Y (b6.trans z.2) r z.1 (d9.mono aQ z.2 λz9 h=>h) .next G)
  |some w=>
   have j3:j<q.1.length:=(dN.mp hw).1;have m1:0<m:=Nat.lt_of_add_lt_add_right (n:=j) (by rw[Nat.zero_add,hm];exact j3);refine oE (su 1 m1) λm' aG=>?_;subst aG;have ed:q.1.drop j=w::q.1.drop (j+1):=(dN.mp hw).2▸List.drop_eq_getElem_cons j3;rw[ed]at G;refine bU stuck G λhs G=>IZ Rl b7 c hs hw λy f7 j1 b8 S eI M ry=>DQ eI M ?_;refine oA ((Rl.perm (iK _ eJ aP)).gM (p':=.obj Z.objs.size b8) S hI c.u9 rfl eI) λR2 I2=>?_;have f9:=XQ (I:=Z.objs.size) (o:=b8) C.hf C.fr X Y (b6.trans I2) r;have i4:=C.gD (I:=Z.objs.size) (o:=b8) r d9 I2;refine ia i4 (W.same r) (R2.perm (iK _ eJ aP).symm) ry (λj8 l0 k8 l4 l9 j9 b9 c7 O j4 j5 j0=>?_) f9 stuck G;refine yY @ie b (i4.turn O j5) ((W.same r).same O) j4 (λfl D d6 d7 T i5 V f i6 i7 j6 i8 i9 rf a=>?_) (f9.mono b9 c7 O) stuck j0;have pp:=Y.trans (b9.trans i6);have ii:=b6.trans (I2.trans (c7.trans i7));have ss:=r.trans (O.trans j6);have again:∀(a:P (c9 (Mo v q.1) (QI cf n sc t0 b) (q.1.drop (j+1)) D d6 k)),∃j7,j7<m'+1/\PR F g u B P J sc Z.objs.size aP own q.1 v U h (QI cf n sc t0 b) k j7 ⟨T,g,u,i5,B⟩:=λa=>⟨m',Nat.lt_succ_self _,.mk ((Nat.succ_add_eq_add_succ m' j).symm.trans hm) pp ii ss i8 i9.rO (M.mono (b9.trans i6) (c7.trans i7)) a⟩;have out:∀{fl:Fl}{f:Flow},FN F d7 T fl f->P (k fl D d6)->Q f ⟨T,g,u,i5,B⟩:=λrf hP=>K _ D d6 d7 T _ V _ pp ii ss (i8.perm (iK _ V aP)).drop i9.rO rf hP
   cases rf with
   |next=>exact again a
   |cont=>exact again a
   |brk=>exact out .next a
   |ret rv=>exact out (.ret rv) a
theorem UL(hf:J.frame=some L)(Fr:eY A L (own++aP))(X:f8 F g u B own aP U h P L E)(p:U<+:c6)(i:aZ h bB)(s:cR own eJ):f8 F g u B eJ aP c6 bB P L (notedBy F.mo A J λe s'=>cameBackBy F.mo A J E e s'):=by intro c d f aO Z t' e bG p' j s' k a;refine zW (Fr.same (s.trans s')) k hf λb l m=>?_;exact X c d f aO b t' e bG (p.trans p') (i.trans (j.trans l)) (s.trans s') m a
inductive X6(F:Fix)(g:Array GenState)(u:Drawn)(B:OsState)(P:Res->Prop)(J:Env)(sc:Sc)(aP own:List bA)(U:List Addr)(h:Heap)(test:Loc->VH->(Bool->VH->Res)->Res)(body:Loc->VH->Kf->Res)(k:Kf):Nat->Shared->Prop
 |mk{m:Nat}{eJ:List bA}{c6:List Addr}{oL:VH}{bB:Heap}{jU:Nat}{jY:Loc}:U<+:c6->aZ h bB->cR own eJ->Lu F c6 oL (eJ++aP) bB->dG F J sc jY c6 bB (eJ++aP)->P (kG test body m jY oL k)->X6 F g u B P J sc aP own U h test body k m ⟨bB,g,u,jU,B⟩
set_option tactic.hygienic true in
theorem WM(it:iN F g u B cf d n)(ie:uT F g u B cf d n){c0:Expr}{b:List Stmt}(C:Cx F d A J L sc loc U h (own++aP))(W:iA J sc own)(R:Lu F U H (own++aP) h)(K:kT F g u B J sc own aP U h P k Q)(X:f8 F g u B own aP U h P L E)(stuck:cS P)(N0:Nat)
 (hP:P (kG (mE cf n sc c0) (gJ (ex cf n sc) b) N0 loc H k)):wpAny F.mo A (exec (.While c0 b [] p) J) Q E ⟨h,g,u,t,B⟩:=by
 refine wpAny_While (codeAny_whileLoop (X6 F g u B P J sc aP own U h (mE cf n sc c0) (gJ (ex cf n sc) b) k) ?_ N0 (.mk aQ (aZ.refl _) (.refl _) R C.N hP));intro m s z;obtain⟨v,w,e,Rl,V,Y⟩:=z;rename_i eJ c6 oL bB jU jY
 induction m using Nat.casesOn with
 |zero=>exact(stuck Y).elim
 |succ m=>
  have D:=C.turn e V;have G:=UL C.hf C.fr X v w e;refine it D Rl (λc Z T b6 c7 i j I x=>?_) G.here stuck Y;have M:=D.mono i j λz9 h=>h
  induction c using Bool.casesOn with
  |false=>exact wpAny_execs_nil (K .next jY Z T b6 _ eJ _ (v.trans i) (w.trans j) e I M.N .next x)
  |true=>
   refine yY @ie b M (W.same e) I (λfl l O y S c9 o f b7 b8 b9 q r rf a=>?_) (G.mono i j (.refl _)) stuck x;have pp:=v.trans (i.trans b7);have ii:=w.trans (j.trans b8);have ss:=e.trans b9
   cases rf with
   |next=>exact⟨m,Nat.lt_succ_self _,.mk pp ii ss q r a⟩
   |cont=>exact⟨m,Nat.lt_succ_self _,.mk pp ii ss q r a⟩
   |brk=>exact K .next l O y S _ o _ pp ii ss q r .next a
   |ret rv=>exact K _ l O y S _ o _ pp ii ss q r (.ret rv) a
set_option tactic.hygienic true in
theorem kT.Z6(K:kT F g u B J sc own aP U h P k Q):AX F g u B J sc own aP U h P (λloc H=>k .next loc H) λz9 s=>Q .next s:=
 λbL a aO Z t' bG p i s R N b=>K .next bL a aO Z t' bG _ p i s R N .next b
theorem HN{j:Int}{kk:V->Res}(stuck:cS P)(a:P (Bb op i j kk))(x:op=.Add->P (kk (.int (i+j)))->C)(y:op=.Sub->P (kk (.int (i-j)))->C):C:=by
 induction op using PySem.Operator.casesOn with
 |Add=>exact x rfl a
 |Sub=>exact y rfl a
 |_=>exact(stuck a).elim
theorem S9{f:Int->Res}(r:RV F U h v x)(stuck:cS P)(a:P (iD .stuck v f))(q:∀i t,x=.int i t->P (f i)->C):C:=ri (G:=λx=>(∀i t,x=.int i t->P (f i)->C)->C) r stuck a (λi t z9 h q=>q i t rfl h) q
set_option tactic.hygienic true in
theorem X_(I:dC F g u B cf d n)(ia:f_ F g u B cf d n){x:Str}{a:V}(o:sc.lookup x=some .local)(M:aU x loc=some a)(C:Cx F d A J L sc loc U h (own++aP))(W:iA J sc own)(R:Lu F U H (own++aP) h)
 (K:kT F g u B J sc own aP U h P k Q)(X:f8 F g u B own aP U h P L E)(stuck:cS P)
 (O:P (ev cf n sc e loc H λb H=>iZ op a b λv=>asg cf n sc (.Name x np) v loc H λloc H=>k .next loc H)):wpAny F.mo A (exec (.AugAssign (.Name x np) op e p) J) Q E ⟨h,g,u,t,B⟩:=by
 refine gB (C.N.loc x a M) λn1 n2 q=>?_;rw[o]at q;refine b_ q ?_;clear q;intro m val q1 q2 q3;have hk:J.kindOf x=some .local:=by unfold Env.kindOf;rwa[C.N.names];exact o
 have r:∀{y:Value}{s:Shared}{D:Unit->Shared->Prop},wpAny F.mo A (assign (.Name x np) J y) D E s->wpAny F.mo A (assign (.Name x np) J y) D E s:=λh=>h
 show wpAny _ A (do standAt np;let old<-loadName J x;let v<-holding [old] (eval e J);standAt p;let new<-operate [old,v] (inplaceOp op old v);standAt np;bindName J x new;pure .next) Q E _;refine aF (dX (aF (wpAny_loadName_local C.N.kind hk (R.dS _ q1).1 q2 ?_)));refine aF (cH (I C R (λb S aO Z t' y pr i T rv c=>?_) X.here stuck O));have C':=C.mono pr i λz9 h=>h;have Y:=(K.mono pr i (.refl _)).Z6;have fin:∀{v:V}{z:Value}{f:Nat},RV F aO Z v z->P (asg cf n sc (.Name x np) v loc S λloc H=>k .next loc H)->wpAny F.mo A (standAt np>>=λz9=>bindName J x z>>=λz9=>pure Flow.next) Q E ⟨Z,g,u,f,B⟩:=by intro v z f rz l;have:=ia (t:=f) C' W T rz Y (X.mono pr i (.refl _)) stuck l;rw[PySem.assign_Name]at this;have e1:(standAt np>>=λz9=>bindName J x z>>=λz9=>pure Flow.next)=((standAt np>>=λz9=>bindName J x z)>>=λz9=>pure Flow.next):=rfl;rwa[e1];exact aF (eQ this (λz9 z9 q=>a_ q) λz9 z9 q=>q)
 refine aF (dX ?_);refine S9 q3 stuck c λi b6 e1 c=>S9 rv stuck c λj w G c=>HN stuck c (λe c=>?_) λe c=>?_;·subst e e1 G;exact aF (wpAny_operating (PyProof.Rows.iadd_int (fin (.int _ _) c)))
 ·subst e e1 G;exact aF (wpAny_operating (PyProof.Rows.isub_int (fin (.int _ _) c)))
set_option tactic.hygienic true in
theorem Au(ih:dC F g u B cf d n)(O:cA F){o:Expr}{at_:Str}(C:Cx F d A J L sc loc U h (own++aP))(R:Lu F U H (own++aP) h)
 (K:kT F g u B J sc own aP U h P k Q)(X:f8 F g u B own aP U h P L E)(stuck:cS P)
 (hP:P (ev cf n sc o loc H λo H=>oR (Ml o at_ H) λold=>ev cf n sc e loc H λb H=>iZ op old b λv=>Ls o at_ v H λH=>k .next loc H)):wpAny F.mo A (exec (.AugAssign (.Attribute o at_ np) op e p) J) Q E ⟨h,g,u,t,B⟩:=by
 refine wpAny_AugAssign_AttributeAny (ih C R (λv H' aO Z t' x pr i R' rv q=>?_) X.here stuck hP)
 cases ho:Ml v at_ H' with
 |none=>rw[ho]at q;exact(stuck q).elim
 |some old=>
  rw[ho]at q;refine uL O R' (k:=λold H=>ev cf n sc e loc H λb H=>iZ op old b λw=>Ls v at_ w H λH=>k .next loc H) (λc6 c7 b8 c9 d6 y c f T G I=>?_) rv ho q;have V:=C.mono (pr.trans c) (i.trans f) λz9 h=>h;refine ih V T (λb d7 M W d8 z l m D rb a=>?_) (X.here.mono (pr.trans c) (i.trans f)) stuck I;have pp:=pr.trans (c.trans l);have ii:=i.trans (f.trans m);have KH:∀{t₀:Nat},tN F g u B (own++aP) M W P (λH=>k .next loc H) λz9 s=>Q .next s:=λ{t₀}d9 b9 f7 f9 Y b6 b7 S=>K.at C.N (pp.trans Y) (ii.trans b6) b7 .next S;have r:=G.mono l m;refine S9 r stuck a λi i4 e1 a=>S9 rb stuck a λj w e2 a=>HN stuck a (λe a=>?_) λe a=>?_;·subst e e1 e2;exact PyProof.Rows.iadd_int (vJ stuck O D (KH (t₀:=0)) (rv.mono (c.trans l) (f.trans m)) (.int _ _) a)
  ·subst e e1 e2;exact PyProof.Rows.isub_int (vJ stuck O D (KH (t₀:=0)) (rv.mono (c.trans l) (f.trans m)) (.int _ _) a)
theorem dG.congr(N:dG F J sc loc U h Θ)(e:∀x,aU x bL=aU x loc):dG F J sc bL U h Θ:=⟨N.names,N.kind,N.glob,N.blt,N.own,N.cells,λx v q=>N.loc x v (by rw[<-e];exact q)⟩
theorem X4(d:∀a b c q,e≠.ListComp a b c q)(f:∀a b c q,e≠.SetComp a b c q)(g:∀a b c q r,e≠.DictComp a b c q r):swapsWithSole [t0] e line J=pure false:=by unfold swapsWithSole;dsimp only;induction e using PySem.Expr.casesOn<;>first|rfl|exact aV rfl (d _ _ _ _)|exact aV rfl (f _ _ _ _)|exact aV rfl (g _ _ _ _ _)
theorem ET(l:dC F g u B cf d n)(ia:f_ F g u B cf d n)(hs:Mg t0=false)(m:∀a b c q,e≠.ListComp a b c q)(o:swappedStores [t0] e J=pure none)(C:Cx F d A J L sc loc U h (own++aP))(W:iA J sc own)(R:Lu F U H (own++aP) h)(K:kT F g u B J sc own aP U h P k Q)(X:f8 F g u B own aP U h P L E)(stuck:cS P)(f:P (ev cf n sc e loc H λv H=>asg cf n sc t0 v loc H λloc H=>k .next loc H)):wpAny F.mo A (exec (.Assign [t0] e p) J) Q E ⟨h,g,u,t,B⟩:=by
 have s:∀a b c q,e≠.SetComp a b c q:=by rintro a b c q rfl;induction n using Nat.casesOn<;>exact stuck f
 have n3:∀a b c q r,e≠.DictComp a b c q r:=by rintro a b c q r rfl;induction n using Nat.casesOn<;>exact stuck f
 refine wpAny_Assign_stores (l C R (λv y aO Z t' x pr i w rv j=>?_) X.here stuck f) (X4 m s n3) o;rwa[kM hs];show wpAny _ A (assign t0 J x) _ E _;exact ia (C.mono pr i λz9 h=>h) W w rv (K.mono pr i (.refl _)).Z6 (X.mono pr i (.refl _)) stuck j
theorem JJ{x:Str}{kk:Loc->VH->Res}{a:Unit->Shared->Prop}(C:Cx F d A J L sc loc U h (own++aP))(W:iA J sc own)(R:Lu F U H (own++aP) h)(rv:RV F U h v y)(b:sc.lookup x=some .local)(c:x≠("__debug__":Str))(e:x≠("__classdict__":Str))(K:AX F g u B J sc own aP U h P kk a)(f:P (kk (aB x v loc) H)):wpAny F.mo A (bindName J x y) a E ⟨h,g,u,t,B⟩:=wpAny_bindName (zX R C.N W K rv (.inl b) c e f)
end
noncomputable def s9(J:Env)(line:Nat)(e:Expr):Option Str:=match e with
 |.Name id pos=>if J.kindOf id==some .local&&pos.line==line then some id else none
 |_=>none
noncomputable def d_(J:Env)(line:Nat)(ts:List Expr):List Str:=ts.filterMap (s9 J line)
theorem PO{J:Env}{line:Nat}(e:Expr):s9 J line e=none\/∃y pos,e=.Name y pos/\J.kindOf y=some .local/\s9 J line e=some y:=by
 refine(?_:∀N:Expr->Prop,(∀e,s9 J line e=none->N e)->(∀y pos,s9 J line (.Name y pos)=(if J.kindOf y==some .local&&pos.line==line then some y else none)->N (.Name y pos))->N e) (λe=>s9 J line e=none\/∃y pos,e=.Name y pos/\J.kindOf y=some .local/\s9 J line e=some y) (λe h=>.inl h) λy pos h=>?_;·intro N o q;induction e using PySem.Expr.casesOn<;>first|exact q _ _ rfl|exact o _ rfl
 ·by_cases c:(J.kindOf y==some .local&&pos.line==line)=true;·exact .inr ⟨y,pos,rfl,c_.mp (dE _ _▸c).1,h.trans (aI c)⟩
  ·exact .inl (h.trans (aH c))
theorem uB{c:Prop} [Decidable c]{a b:X}(G:X->Prop)(x:c->G a)(y:¬c->G b):G (if c then a else b):=by
 by_cases h:c;·rwa[aI h];exact x h
 ·rwa[aH h];exact y h
theorem YH{a b c:Nat}(h:¬((a !=b||c !=d)=true)):a=b/\c=d:=by simp only[Bool.or_eq_true,not_or,bne_iff_ne,ne_eq,Decidable.not_not]at h;exact h
theorem Os{a b c:Nat}{x y:Bool}(h:¬((!(a==b||a==c)||x||y)=true)):a=b\/a=c:=by simp only[Bool.or_eq_true,not_or,Bool.not_eq_true',Bool.not_eq_false,c_]at h;exact h.1.1
theorem BO{ts vs:List Expr}{q q':Nat}{p p':Pos}{J:Env}(hm:vs.all (foldedForSure 8)=true\/vs.all (constantsAlone 8)=false):swappedStores [.Tuple ts q p] (.Tuple vs q' p') J=pure none\/∃line,(ts.length=2\/ts.length=3)/\(d_ J line ts).length=ts.length/\((d_ J line ts).eraseDups.length=(d_ J line ts).length)/\swappedStores [.Tuple ts q p] (.Tuple vs q' p') J=pure (some (d_ J line ts)):=by
 refine(?_:∀G:Sem (Option (List Str))->Prop,G (pure none)->(∀line,(ts.length=2\/ts.length=3)->(d_ J line ts).length=ts.length->(d_ J line ts).eraseDups.length=(d_ J line ts).length->G (pure (some (d_ J line ts))))->G (swappedStores [.Tuple ts q p] (.Tuple vs q' p') J)) (λX=>X=pure none\/∃line,(ts.length=2\/ts.length=3)/\(d_ J line ts).length=ts.length/\((d_ J line ts).eraseDups.length=(d_ J line ts).length)/\X=pure (some (d_ J line ts))) (.inl rfl) λline a b c=>.inr ⟨line,a,b,c,rfl⟩;intro G g0 g1;refine uB G (λz9=>g0) λf=>uB G (λz9=>g0) λh=>uB G (λz9=>g0) λd=>uB G (λz9=>g0) λg=>uB G (λe=>?_) λz9=>?_
 ·rcases hm with hm|hm;·exact aV hm g
  ·rw[hm]at e;exact L9 e
 ·exact g1 ((ts.head?.map (λx:Expr=>x.pos.line)).getD 0) (Os f) (YH d).1 (YH d).2
theorem RL{N:Expr->Expr->Prop}(o:∀t e,swappedStores [t] e J=pure none->N t e)(a:∀ts q p vs q' p',N (.Tuple ts q p) (.Tuple vs q' p'))(b:∀ts p e,N (.List ts p) e)(t e:Expr):N t e:=by
 induction t using PySem.Expr.casesOn with
 |Tuple ts q p=>induction e using PySem.Expr.casesOn<;>first|exact a _ _ _ _ _ _|exact o _ _ rfl
 |List ts p=>exact b _ _ _
 |_=>exact o _ _ rfl
theorem tP(h:∀ts q p vs q' p',¬(t0=.Tuple ts q p/\e=.Tuple vs q' p'))(a:∀ts p,t0≠.List ts p):swappedStores [t0] e J=pure none:=RL (N:=λt0 e=>(∀ts q p vs q' p',¬(t0=.Tuple ts q p/\e=.Tuple vs q' p'))->(∀ts p,t0≠.List ts p)->swappedStores [t0] e J=pure none) (λz9 z9 z z9 z9=>z) (λz9 z9 z9 z9 z9 z9 h z9=>aV ⟨rfl,rfl⟩ (h _ _ _ _ _ _)) (λz9 z9 z9 z9 a=>aV rfl (a _ _)) t0 e h a
section
variable{k:Kf}{Q:Flow->Shared->Prop}
theorem OT:∀{ts:List Expr},(d_ J line ts).length=ts.length->∀(i:Nat)(x:Str),(d_ J line ts)[i]?=some x->(∃pos,ts[i]?=some (Expr.Name x pos))/\J.kindOf x=some .local:=by
 intro ts
 induction ts with
 |nil=>intro _ i x a;cases a
 |cons e ts c=>
  intro b i x a;unfold d_ at b a;rcases PO (J:=J) (line:=line) e with h|⟨y,pos,he,d,h⟩;·rw[List.filterMap_cons_none h]at b;exact aV (fS (Nat.le_of_eq b.symm) (List.length_filterMap_le _ ts)) (Nat.not_succ_le_self _)
  ·rw[List.filterMap_cons_some h]at b a
   induction i using Nat.casesOn with
   |zero=>refine cM (aM a) ?_;rwa[he];exact⟨⟨pos,rfl⟩,d⟩
   |succ i=>exact c (Nat.succ.inj b) i x a
end
section
variable{k:Kf}
def putAll(bs:List (Str×V))(loc:Loc):Loc:=bs.foldl (λl b=>aB b.1 b.2 l) loc
theorem rL(x:Str):∀(bs:List (Str×V))(loc:Loc),(bs.map (·.1)).Nodup->aU x (putAll bs loc)=match bs.find? (λb=>b.1==x)with|some b=>some b.2|none=>aU x loc
 |[],loc,_=>rfl
 |(y,v)::r,loc,nd=>by
  rw[bX,dF]at nd;show aU x (putAll r (aB y v loc))=_;rwa[rL x r _ nd.2];rw[mM];rwa[List.find?_cons];by_cases e:y=x
  ·subst e;have:r.find? (λb=>b.1==y)=none:=by rw[List.find?_eq_none];intro b hb q;exact nd.1 (c7.mpr ⟨b,hb,by simpa using q⟩)
   simp[this]
  ·have a:¬x=y:=λq=>e q.symm;simp only[a,if_false,show(y==x)=false by simpa using e]
theorem P0{x:Str}{bs:List (Str×V)}(nd:(bs.map (·.1)).Nodup):bs.reverse.find? (λb=>b.1==x)=bs.find? (λb=>b.1==x):=by
 induction bs with
 |nil=>rfl
 |cons b r a=>
  rw[bX,dF]at nd;rwa[List.reverse_cons];rwa[List.find?_append];rwa[a nd.2];rwa[List.find?_cons];by_cases e:(b.1==x)=true
  ·have:r.find? (λb=>b.1==x)=none:=by rw[List.find?_eq_none];intro c hb q;exact nd.1 (c7.mpr ⟨c,hb,by rw[c_]at e q;rwa[e];rwa[q];rfl⟩)
   rwa[this];rwa[e];simp[e]
  ·simp only[Bool.not_eq_true]at e;rwa[e];cases z:r.find? (λb=>b.1==x)<;>simp[e,z]
theorem JL(bs:List (Str×V))(loc:Loc)(nd:(bs.map (·.1)).Nodup)(x:Str):aU x (putAll bs.reverse loc)=aU x (putAll bs loc):=by rwa[rL _ _ _ nd];rwa[rL _ _ _ (by rw[List.map_reverse];exact(List.reverse_perm _).nodup_iff.mpr nd)];rwa[P0 nd];rfl
inductive iI(F:Fix)(U:List Addr)(h:Heap):List (Str×V)->List (Str×Value)->Prop
 |nil:iI F U h [] []
 |cons{x:Str}{v:V}{y:Value}{bs ys}:RV F U h v y->iI F U h bs ys->iI F U h ((x,v)::bs) ((x,y)::ys)
theorem iI.mono{bs ys}(r:iI F U h bs ys)(p:U<+:aO)(i:aZ h Z):iI F aO Z bs ys:=by
 induction r with
 |nil=>exact .nil
 |cons a _ b=>exact .cons (a.mono p i) @b
set_option tactic.hygienic true in
theorem Q3:∀{bs:List (Str×V)}{ys:List (Str×Value)}{loc:Loc}{own:List bA}{U:List Addr}{h:Heap}{t:Nat}{Q:Unit->Shared->Prop},iI F U h bs ys->(∀b∈bs,sc.lookup b.1=some .local/\b.1≠("__debug__":Str)/\b.1≠("__classdict__":Str))->
 Cx F d A J L sc loc U h (own++aP)->iA J sc own->Lu F U H (own++aP) h->
 (∀aO Z t' bG,U<+:aO->aZ h Z->cR own bG->Lu F aO H (bG++aP) Z->dG F J sc (putAll bs loc) aO Z (bG++aP)->Q () ⟨Z,g,u,t',B⟩)->
 wpAny F.mo A (assignInOrder (ys.map λb=>bindName J b.1) (ys.map (·.2))) Q E ⟨h,g,u,t,B⟩:=by
 intro bs
 induction bs with
 |nil=>intro ys loc own U h t Q r hb C W R v;cases r;exact wpAny_assignInOrder_none (v U h t own aQ (aZ.refl _) (.refl _) R C.N)
 |cons K bs x=>
  intro ys loc own U h t Q r hb C W R v
  cases r with
  |cons a r=>refine gB (hb _ (aE)) λy D G=>?_;refine wpAny_assignInOrder_more (JJ (P:=λz=>z=.done .next (aB _ _ loc) H) (kk:=λloc H=>.done .next loc H) C W R a y D G (λbL M aO Z t' bG p i s I N' e=>?_) rfl);cases e;refine x (r.mono p i) (λb w=>hb b (aC w)) (C.turn s N') (W.same s) I λf j k c l m n o q=>?_;exact v f j k c (p.trans l) (i.trans m) (s.trans n) o q
end
section
variable{k:Kf}{Q:Flow->Shared->Prop}
theorem EY{kk:Loc->VH->Res}(stuck:cS P):∀(names:List Str)(n:Nat)(ts:List Expr)(l:List V)(loc:Loc),names.length=ts.length->(∀(i:Nat)(x:Str),names[i]?=some x->∃pos,ts[i]?=some (Expr.Name x pos))->(∀x∈names,sc.lookup x=some .local)->P (Mj (asg cf n sc) ts l loc H kk)->l.length=ts.length/\(∀x∈names,x≠("__debug__":Str)/\x≠("__classdict__":Str))/\P (kk (putAll (names.zip l) loc) H):=by
 intro names
 induction names with
 |nil=>
  intro n ts l loc d f hk a;clear f;induction ts using List.casesOn with
  |nil=>induction l using List.casesOn with
   |nil=>exact⟨rfl,λz9 h=>aV h List.not_mem_nil,a⟩
   |cons _ _=>exact(stuck a).elim
  |cons _ _=>exact aV d.symm (Nat.succ_ne_zero _)
 |cons x names j=>
  intro n ts l loc d f hk a
  induction ts using List.casesOn with
  |nil=>exact aV d (Nat.succ_ne_zero _)
  |cons e ts=>induction l using List.casesOn with
   |nil=>exact(stuck a).elim
   |cons v l=>
    refine oE (f 0 x rfl) λpos he=>?_;have k:=aM he;subst k;replace a:P (asg cf n sc (.Name x pos) v loc H λloc H=>Mj (asg cf n sc) ts l loc H kk):=a;clear he;induction n using Nat.casesOn with
    |zero=>exact(stuck a).elim
    |succ n=>
     have g:=hk x (aE);refine cV (c:=x="__debug__"\/x="__classdict__") a (λz9 h=>(stuck h).elim) λhb a=>?_;rw[g]at a;refine gB (j (n+1) ts l (aB x v loc) (Nat.succ.inj d) (λi y b=>f (i+1) y b) (λy b=>hk y (aC b)) a) λq1 q2 q3=>?_;refine⟨congrArg Nat.succ q1,λy b=>?_,q3⟩;clear hk d f g a q3;rcases bV.mp b with rfl|b;·exact⟨λz=>hb (.inl z),λz=>hb (.inr z)⟩
     ·exact q2 y b
theorem zI:∀(names:List Str){l:List V}{xs:List Value},b9 F U h l xs->iI F U h (names.zip l) (names.zip xs)
 |[],_,_,_=>by simp only[List.zip_nil_left];exact .nil
 |_::_,[],_,r=>by cases r;exact .nil
 |x::names,v::l,_,r=>by
  cases r with
  |cons a b=>exact .cons a (zI names b)
theorem iI.append{bs cs ys c}(a:iI F U h bs ys)(b:iI F U h cs c):iI F U h (bs++cs) (ys++c):=by
 induction a with
 |nil=>exact b
 |cons r _ d=>exact .cons r @d
theorem iI.reverse{bs ys}(a:iI F U h bs ys):iI F U h bs.reverse ys.reverse:=by
 induction a with
 |nil=>exact .nil
 |cons r _ b=>rwa[List.reverse_cons];rwa[List.reverse_cons];exact b.append (.cons r .nil)
theorem yE{l:List Str}(e:l.eraseDups.length=l.length)(z:l.length=2\/l.length=3):l.Nodup:=by
 rcases l with _|⟨a,_|⟨b,_|⟨c,_|⟨d,l⟩⟩⟩⟩;·exact List.nodup_nil
 ·exact dF.mpr ⟨List.not_mem_nil,List.nodup_nil⟩
 ·by_cases q:b=a;·clear z;subst q;simp[List.eraseDups_cons]at e
  ·simp[Ne.symm q]
 ·by_cases q1:b=a;·clear z;subst q1;by_cases q2:c=b<;>simp[List.eraseDups_cons,q2]at e
  ·by_cases q2:c=a;·clear z;subst q2;simp[List.eraseDups_cons,q1]at e
   ·by_cases q3:c=b;·clear z;subst q3;simp[List.eraseDups_cons,q1]at e
    ·simp[Ne.symm q1,Ne.symm q2,Ne.symm q3]
 ·rcases z with z|z;·exact aV (Nat.succ.inj (Nat.succ.inj z)) (Nat.succ_ne_zero _)
  ·exact aV (Nat.succ.inj (Nat.succ.inj (Nat.succ.inj z))) (Nat.succ_ne_zero _)
set_option tactic.hygienic true in
theorem MB(ih:dC F g u B cf d n){ts vs:List Expr}{q':Nat}{p':Pos}(c9:ts.length=2\/ts.length=3)(f:(d_ J line ts).length=ts.length)(d6:(d_ J line ts).eraseDups.length=(d_ J line ts).length)
 (hw:swappedStores [.Tuple ts q p] (.Tuple vs q' p') J=pure (some (d_ J line ts)))(C:Cx F d A J L sc loc U h (own++aP))(W:iA J sc own)(R:Lu F U H (own++aP) h)
 (K:kT F g u B J sc own aP U h P k Q)(X:f8 F g u B own aP U h P L E)(stuck:cS P)
 (m:P (ev cf n sc (.Tuple vs q' p') loc H λv H=>asg cf n sc (.Tuple ts q p) v loc H λloc H=>k .next loc H)):wpAny F.mo A (exec (.Assign [.Tuple ts q p] (.Tuple vs q' p') pos) J) Q E ⟨h,g,u,t,B⟩:=by
 rw[exec_Assign_arm];refine aF (dX ?_);rwa[show swapsWithSole [.Tuple ts q p] (.Tuple vs q' p') pos.line J=pure false from rfl];refine aF (a_ ?_);rwa[aH (by decide)];refine aF (ih C R (λv S aO Z t' x pr i R' rv T=>?_) X.here stuck m);rwa[hw];refine aF (a_ ?_);have C':=C.mono pr i λz9 h=>h;have nd:=yE d6 (by rwa[f];exact c9);have G:=OT f;have M:∀x∈d_ J line ts,sc.lookup x=some .local:=λx hx=>by refine oE (List.mem_iff_getElem?.mp hx) λj hj=>?_;have:=(G j x hj).2;unfold Env.kindOf at this;rw[C.N.names]at this;exact this
 show wpAny _ A (rule "assign.swapped-stores">>=λz9=>unpackItems x (d_ J line ts).length none>>=λitems=>assignInOrder ((d_ J line ts).reverse.map λn=>bindName J n) items.reverse>>=λz9=>pure Flow.next) Q E _;refine aF (wpAny_rule ?_)
 induction n using Nat.casesOn with
 |zero=>exact(stuck T).elim
 |succ n=>
  have m:P (OS (asg cf n sc) ts v loc S (λloc H=>k .next loc H)):=T
  cases he:Ly v S with
  |none=>replace m:P (oR (Ly v S) _):=m;rw[he]at m;exact(stuck m).elim
  |some q'=>
   replace m:P (oR (Ly v S) _):=m;rw[he]at m;refine PT stuck m λnr m=>bU stuck m λV m=>?_;obtain⟨l,src⟩:=q';dsimp only at V m;rw[assignIdx_eq V.1]at m;refine gB (EY stuck (d_ J line ts) n ts l loc f (λi y hy=>(G i y hy).1) M m) λe1 e2 e3=>?_;refine b_ (sJ R' rv he nr) λa items aG r hs=>?_;subst aG;have z:=r.length;simp only[Array.length_toList]at z
   have cont:∀c w,Keeps Z c->wpAny F.mo A (assignInOrder ((d_ J line ts).reverse.map λn=>bindName J n) items.toList.reverse>>=λz9=>pure Flow.next) Q E ⟨c,g,u,w,B⟩:=by
    intro c w hk;have I:=aZ.of_keeps hk;have br:=(zI (d_ J line ts) (r.mono aQ I)).reverse;have lz:(d_ J line ts).length=items.toList.length:=by rwa[f];refine cM e1 ?_;rwa[r.length];rfl
    have m1:((d_ J line ts).zip items.toList).reverse.map (λb=>bindName J b.1)=(d_ J line ts).reverse.map λn=>bindName J n:=by rwa[List.map_reverse];rwa[List.map_reverse];congr 1;rwa[show(λb:Str×Value=>bindName J b.1)=(λn=>bindName J n)∘Prod.fst from rfl];refine cM List.map_map ?_;rwa[List.map_fst_zip (by(first|lia|omega))];rfl
    have m2:((d_ J line ts).zip items.toList).reverse.map (·.2)=items.toList.reverse:=by rwa[List.map_reverse];rwa[List.map_snd_zip (by(first|lia|omega))];rfl
    have bs:=Q3 (t:=w) (E:=E) (Q:=λz9 s=>Q .next s) br (λb hb=>by have d7:=List.mem_reverse.mp hb;have:=(List.of_mem_zip d7).1;exact⟨M _ this,(e2 _ this).1,(e2 _ this).2⟩) (C'.mono aQ I λz9 h=>h) W (R'.keeps hk) (λO Y b6 D b7 b8 b9 c6 c7=>by refine K .next _ S O Y b6 D _ (pr.trans b7) (i.trans (I.trans b8)) b9 c6 (c7.congr λx=>?_) .next e3;refine(JL _ _ ?_ x).symm;rwa[List.map_fst_zip (by(first|lia|omega))];exact nd);rw[m1,m2]at bs;exact aF (eQ bs (λz9 z9 q=>a_ q) λz9 z9 q=>q)
   have d8:(d_ J line ts).length=items.size:=by rwa[f];refine cM e1 ?_;rwa[z];rfl
   rwa[d8];rcases hs with ht|hl;·exact aF (wpAny_unpackItems_tuple C.handled ht λc hk=>cont c _ λb o e=>hk b o (Nat.ne_of_lt (Heap.lt_size e)) e)
   ·exact aF (pX C.handled hl.isList λc hk=>cont c _ hk)
theorem NK(i:dC F g u B cf d n)(ia:f_ F g u B cf d n)(hf:wA t0 e=true)(r:∀a b c q,e≠.ListComp a b c q)(C:Cx F d A J L sc loc U h (own++aP))(W:iA J sc own)(R:Lu F U H (own++aP) h)(K:kT F g u B J sc own aP U h P k Q)(X:f8 F g u B own aP U h P L E)(stuck:cS P)(j:P (ev cf n sc e loc H λv H=>asg cf n sc t0 v loc H λloc H=>k .next loc H)):wpAny F.mo A (exec (.Assign [t0] e pos) J) Q E ⟨h,g,u,t,B⟩:=by
 have hs:Mg t0=false:=by induction t0 using PySem.Expr.casesOn<;>first|rfl|cases hf
 by_cases hb:∃ts q p vs q' p',t0=.Tuple ts q p/\e=.Tuple vs q' p'
 ·refine i7 hb ?_;clear hb;intro ts q p f;refine m7 f ?_;clear f;intro vs q' p' cB l;subst cB;subst l;have hm:vs.all (foldedForSure 8)=true\/vs.all (constantsAlone 8)=false:=by unfold wA at hf;dsimp only at hf;rw[Bool.or_eq_true,Bool.not_eq_true']at hf;exact hf
  rcases BO (J:=J) (q:=q) (p:=p) (ts:=ts) (q':=q') (p':=p') hm with m|⟨line,o,s,w,m⟩;·exact ET @i @ia hs r m C W R K X stuck j
  ·exact MB @i o s w m C W R K X stuck j
 ·refine ET @i @ia hs r (tP (λts q p vs q' p' z=>hb ⟨ts,q,p,vs,q',p',z⟩) ?_) C W R K X stuck j;rintro ts p rfl;cases hf
end
section
variable{k:Kv}{Q:Po}
theorem Lu.LX{f:bA}{vo:VO}(R:Lu F U H (f::Θ) h)(r:f.addr=a)(ho:h.get? a=some o)(s:Heap.SameBut a h Z)(c:¬lS o)(v:∃o,Z.get? a=some o)(q:∀own,aZ h Z->mV F (U++[a]) Z own H.length a vo):Lu F (U++[a]) (H++[vo]) Θ Z/\aZ h Z:=by
 have t:=R.dS _ (aE);have I:=eO s ho c;rw[r]at t;clear ho;obtain⟨st,l,⟨own,o1,o2,w⟩,nd,pr⟩:=R;have j:own a=none:=by have:=o2 _ (aE);rw[r]at this;exact this
 have fr:∀p∈Θ,p.addr≠a:=λp hp e=>by rw[bX,dF]at nd;exact nd.1 (by rwa[r];refine cM e ?_;exact iY hp)
 refine⟨⟨λb ob k=>(s.2 b λq=>by clear s v j fr;subst q;have:=t.2;rw[this]at k;exact dW k).trans (st b ob k),by simp[l],⟨λb=>if b=a then some (.obj H.length)else own b,λb hb=>?_,λp hp=>?_,λm vo' g=>?_⟩,by rw[bX,dF]at nd;exact nd.2,λp hp=>⟨(pr p (aC hp)).1.move (s.2 _ (fr p hp)),(pr p (aC hp)).2⟩⟩,I⟩
 ·by_cases z:b=a;·clear s q j fr hb;subst z;exact⟨t.2,v⟩
  ·simp only[z,if_false]at hb;refine oE ((o1 b hb).2) λob k=>?_;exact⟨(o1 b hb).1,ob,(s.2 b z).trans k⟩
 ·simp only[fr p hp,if_false];exact o2 p (aC hp)
 ·rcases Nat.lt_trichotomy m H.length with n|n|n
  ·rw[List.getElem?_append_left n]at g;refine cY (w m vo' g) λb e1 u x=>?_;have hb:b≠a:=λz=>by rw[z,j]at u;exact dW u
   refine⟨b,mD ⟨_,rfl⟩ e1,by simp only[hb,if_false];exact u,?_⟩;refine(x.move ⟨_,rfl⟩ I (s.2 b hb) λd i=>s.2 d λz=>by rw[z,j]at i;exact dW i).qK λd i=>?_;have:d≠a:=λz=>by rw[z,j]at i;exact dW i
   simp only[this,if_false];exact i
  ·subst n;rw[jX (Nat.le_refl _),Nat.sub_self]at g;have y:=aM g;subst y;refine⟨a,?_,by simp,q _ I⟩;rwa[jX (by rwa[l];exact Nat.le_refl _)];rwa[l];rewrite[Nat.sub_self];rfl
  ·rw[List.getElem?_eq_none (by simp;lia)]at g;exact dW g
end
structure NA(F:Fix)(g:Array GenState)(u:Drawn)(B:OsState)(cf:CF)(d n:Nat):Prop where
 rest:∀{A:Around}{J:Env}{L:Addr}{sc:Sc}{st:Stmt}{loc:Loc}{own aP:List bA}{U:List Addr}{H:VH}{h:Heap}{t:Nat}{P:Res->Prop}{k:Kf}{Q:Flow->Shared->Prop}{E:Po},
  ((∃t0 a b c q p,st=.Assign [t0] (.ListComp a b c q) p)\/(∃e p,st=.Raise (some e) none p)\/(∃e q h0 hs p,st=.Try [.Return (some e) q] (h0::hs) [] [] p))->
  Cx F d A J L sc loc U h (own++aP)->iA J sc own->Lu F U H (own++aP) h->kT F g u B J sc own aP U h P k Q->f8 F g u B own aP U h P L E->(P .stuck->False)->P (ex cf (n+1) sc st loc H k)->
  wpAny F.mo A (exec st J) Q E ⟨h,g,u,t,B⟩
theorem R8{cf:CF}{k:Kf}{M:Stmt->Res->Prop}(o:∀s,M s .stuck)(g:∀e p,(∀a b c q,e≠.ListComp a b c q)->M (.Expr e p) (ev cf n sc e loc H λz9 H=>k .next loc H))(Y:∀p,M (.Pass p) (k .next loc H))(j:∀p,M (.Break p) (k .brk loc H))(l:∀p,M (.Return none p) (k (.ret .none) loc H))(r1:∀e p,M (.Return (some e) p) (ex cf (n+1) sc (.Return (some e) p) loc H k))(as:∀t e p,M (.Assign [t] e p) (ex cf (n+1) sc (.Assign [t] e p) loc H k))(m:∀x q op e p,M (.AugAssign (.Name x q) op e p) (ex cf (n+1) sc (.AugAssign (.Name x q) op e p) loc H k))(r:∀x a q op e p,M (.AugAssign (.Attribute x a q) op e p) (ex cf (n+1) sc (.AugAssign (.Attribute x a q) op e p) loc H k))(d:∀t b x p,M (.If t b x p) (ex cf (n+1) sc (.If t b x p) loc H k))(u:∀t b p,M (.While t b [] p) (ex cf (n+1) sc (.While t b [] p) loc H k))(v:∀t i b p,M (.For t i b [] p) (ex cf (n+1) sc (.For t i b [] p) loc H k))(w:∀e p,M (.Raise (some e) none p) (ex cf (n+1) sc (.Raise (some e) none p) loc H k))(y:∀e q h0 hs p,M (.Try [.Return (some e) q] (h0::hs) [] [] p) (ex cf (n+1) sc (.Try [.Return (some e) q] (h0::hs) [] [] p) loc H k))(st:Stmt):M st (ex cf (n+1) sc st loc H k):=by
 refine(?_:∀N:Stmt->Prop,(∀s,M s (ex cf (n+1) sc s loc H k)->N s)->N st) (λs=>M s (ex cf (n+1) sc s loc H k)) λz9 h=>h;intro N c
 induction st using PySem.Stmt.casesOn with
 |Expr e p=>induction e using PySem.Expr.casesOn with
  |ListComp a b s q=>exact c _ (o _)
  |_=>exact c _ (g _ p λz9 z9 z9 z9 h=>Expr.noConfusion h)
 |Pass p=>exact c _ (Y p)
 |Break p=>exact c _ (j p)
 |Return e p=>induction e using Option.casesOn with
  |none=>exact c _ (l p)
  |some e=>exact c _ (r1 e p)
 |Assign ts e p=>rcases ts with _|⟨t,_|⟨_,_⟩⟩<;>first|exact c _ (as t e p)|exact c _ (o _)
 |AugAssign z op e p=>induction z using PySem.Expr.casesOn with
  |Name x q=>exact c _ (m x q op e p)
  |Attribute x a q=>exact c _ (r x a q op e p)
  |_=>exact c _ (o _)
 |If t b x p=>exact c _ (d t b x p)
 |While t b x p=>induction x using List.casesOn with
  |nil=>exact c _ (u t b p)
  |cons _ _=>exact c _ (o _)
 |For t i b x p=>induction x using List.casesOn with
  |nil=>exact c _ (v t i b p)
  |cons _ _=>exact c _ (o _)
 |Raise e s p=>rcases e with _|e<;>rcases s with _|s<;>first|exact c _ (w e p)|exact c _ (o _)
 |Try b hs x f p=>
  rcases b with _|⟨b,_|⟨_,_⟩⟩;·exact c _ (o _)
  ·induction b using PySem.Stmt.casesOn with
   |Return e q=>rcases e with _|e<;>first|exact c _ (o _)|(rcases hs with _|⟨h0,hs⟩<;>first|exact c _ (o _)|(rcases x with _|⟨_,_⟩<;>first|exact c _ (o _)|(rcases f with _|⟨_,_⟩<;>first|exact c _ (y e q h0 hs p)|exact c _ (o _))))
   |_=>exact c _ (o _)
  ·induction b using PySem.Stmt.casesOn with
   |Return e _=>induction e using Option.casesOn<;>exact c _ (o _)
   |_=>exact c _ (o _)
 |_=>exact c _ (o _)
section
set_option tactic.hygienic true in
theorem V_(j:dC F g u B cf d n)(it:iN F g u B cf d n)(ia:f_ F g u B cf d n)(o:uT F g u B cf d n)(v:NA F g u B cf d n)(O:cA F):uT F g u B cf d (n+1):=by
 intro A J L sc st loc own aP U H h t P k Q E C W R K X stuck f;refine R8 (cf:=cf) (M:=λs r=>P r->wpAny F.mo A (exec s J) Q E ⟨h,g,u,t,B⟩) (λs f=>(stuck f).elim) (λe p l f=>Z7 (p:=p) @j l C R K X stuck f) (λp f=>wpAny_Pass (K.at C.N aQ (aZ.refl _) R .next f)) (λp f=>wpAny_Break (K.at C.N aQ (aZ.refl _) R .brk f))
  (λp f=>wpAny_Return_none (K.at C.N aQ (aZ.refl _) R (.ret .none) f)) (λe p f=>Dq @j C R K X stuck f) (λt0 e p f=>?_) (λx q op e p f=>?_) (λx a q op e p f=>Au @j O C R K X stuck f) (λt b x p f=>Ip @it @o C W R K X stuck f)
  (λt b p f=>WM @it @o C W R K X stuck 100 f) (λt i b p f=>Bs @j @ia @o C W R K X stuck f) (λe p f=>v.rest (.inr (.inl ⟨_,_,rfl⟩)) C W R K X stuck f) (λe q h0 hs p f=>v.rest (.inr (.inr ⟨_,_,_,_,_,rfl⟩)) C W R K X stuck f) st f
 ·by_cases l:∃a b c q,e=.ListComp a b c q;·refine i7 l ?_;clear l;intro a b c m;refine oE m ?_;clear m;intro q cB;subst cB;exact v.rest (.inl ⟨_,_,_,_,_,_,rfl⟩) C W R K X stuck f
  ·exact bU stuck f λhf f=>NK @j @ia hf (λa b c q z=>l ⟨a,b,c,q,z⟩) C W R K X stuck f
 ·refine bU stuck f λy f=>?_
  cases w:aU x loc with
  |none=>rw[w]at f;exact(stuck f).elim
  |some a=>rw[w]at f;exact X_ @j @ia y w C W R K X stuck f
end
def uV(M:Model)(A:Around)(E:Po)(use:Option (Value->Sem Unit))(Q:Po)(acc:Value)(W:Env)(r:Result)(s':Shared):Prop:=match r with
 |.ok _=>match use with
  |none=>∃m,s'.heap.Ns W.locals m/\∀Z,Heap.SameBut W.locals s'.heap Z->Q acc {s' with heap:=Z}
  |some u=>wpAny M A (u acc) (λz9 a=>∃m,a.heap.Ns W.locals m/\∀Z,Heap.SameBut W.locals a.heap Z->Q .none {a with heap:=Z}) E s'
 |.error x=>∃m,s'.heap.Ns W.locals m/\∀Z,Heap.SameBut W.locals s'.heap Z->wpAny M A (passOn "comprehension.variables-let-go" x W:Sem Value) (λz9 z9=>False) E {s' with heap:=Z}
variable{O:Scope}{gs:List Comprehension}{use:Option (Value->Sem Unit)}
section
theorem zV{b first:Sem Value}{g:Comprehension}{N:List (Str×Addr)}{Q:Po}(G:clausesOf e=g::gs)(hs:∀x,foldedSetIterable g.iter J x=pure x)(z:closureFor O J=pure N)(a:O.kind=.function)(j:∀x∈O.names,x.2=.local->O.names.lookup x.1=some .local)(h:wpAny M A first (λx o=>wpAny M A (pyIter x) (λit p=>wpAny M A b (λacc q=>wpAny M A (newFunctionEnv O J.globals N [] J.qual none .none (some J)) (λW t=>codeAny M A (.compStart e 0 it acc {W with scope:={W.scope with names:=O.names.map λ(n,k)=>if(k==.free&&J.scope.kind==.function&&J.kindOf n==some .cell)then(n,.cell)else(n,k)}}) (uV M A E use Q acc {W with scope:={W.scope with names:=O.names.map λ(n,k)=>if(k==.free&&J.scope.kind==.function&&J.kindOf n==some .cell)then(n,.cell)else(n,k)}}) t/\W.scope=O) E q) E p) E o) E s):wpAny M A (comprehension e O J pos b false first use) Q E s:=by
 unfold comprehension;rwa[z];rwa[G];refine aF (eQ h (λx o bB=>aF (dX (aF (wpAny_of_eq (hs x) (aF (cH (eQ bB (λit p v=>wpAny_standIf (aF (eQ v (λacc q w=>aF (a_ (aF (eQ w (λW t c=>?_) λz9 z9 Z=>Z)))) λz9 z9 Z=>Z))) λz9 z9 Z=>Z))))))) λz9 z9 Z=>Z);dsimp only;refine oA c ?_;clear c;intro d B;rw[B]at d;have D:∀x∈(O.names.filter λx=>(x.2==.local||x.2==.cell)&&x.1 !=(".0":Str)).reverse,x.2=.local->Env.kindOf {W with scope:=relabel O J} x.1=some .local:=λx H F=>lookup_relabel_local (j x (List.mem_filter.mp (List.mem_reverse.mp H)).1 F)
 have I:∀x∈(O.names.filter λx=>(x.2==.local||x.2==.cell)&&x.1 !=(".0":Str)).reverse.drop 1++(O.names.filter λx=>(x.2==.local||x.2==.cell)&&x.1 !=(".0":Str)).reverse.take 1,x.2=.local->Env.kindOf {W with scope:=relabel O J} x.1=some .local:=λx H F=>by
  rcases fL.mp H with K|K;·exact D x (List.mem_of_mem_drop K) F
  ·exact D x (List.mem_of_mem_take K) F
 refine cH (aF (wpAny_attempt (cH (wpAny_run (codeAny_mono d λr s' hr=>?_)))));clear h bB v w d B;cases r with
 |ok f=>
  induction use using Option.casesOn with
  |none=>refine aW hr ?_;clear hr;intro m C hr;exact aF (cH (wpAny_comp_letGo (cenv:={W with scope:=relabel O J}) a _ s' m D C λZ m' z9 i=>a_ (hr Z i)))
  |some u=>refine aF (wpAny_rule (aF (cH (eQ hr (λz9 L l=>?_) λz9 z9 Z=>Z))));refine aW l ?_;clear l;intro m C l;exact aF (wpAny_comp_letGo (cenv:={W with scope:=relabel O J}) a _ L m I C λZ m' z9 i=>a_ (l Z i))
 |error x=>refine aW hr ?_;clear hr;intro m C hr;exact aF (cH (wpAny_comp_letGo (cenv:={W with scope:=relabel O J}) a _ s' m D C λZ m' z9 i=>eQ (hr Z i) (λz9 z9 f=>f.elim) λz9 z9 y=>y))
end
variable{elt:Expr}{gens:List Comprehension}
section
theorem UJ{i:Nat}{Q:Po}(g:s.heap.get? I=some o)(x:jR F U h l i v o)(j:Q (.ref I) s):wpAny F.mo A (pyIter (.ref I)) Q E s:=by
 cases x with
 |tup a b c d e f=>exact wpAny_pyIter_tupleiter ⟨o,g,e,f⟩ j
 |list a b c=>exact wpAny_pyIter_listiter ⟨o,g,b,c⟩ j
 |eF a b=>subst b;exact wpAny_pyIter_rangeiter g j
theorem tI{J:Env}:∀(names:List (Str×NameKind))(cs:List (Str×Addr)),(∀p∈names,p.2=.free->∃c,J.cells.lookup p.1=some c)->∃d,(forIn names cs λ(x:Str×NameKind)(cs:List (Str×Addr))=>(if(x.2==NameKind.free)=true then do let a<-cellOf J x.1;pure (ForInStep.yield ((x.1,a)::cs))else pure (ForInStep.yield cs):Sem (ForInStep (List (Str×Addr)))))=(pure d:Sem (List (Str×Addr)))/\∀x c,J.cells.lookup x=some c->(∃p∈names,p.1=x/\p.2=.free)\/cs.lookup x=some c->d.lookup x=some c
 |[],cs,_=>⟨cs,rfl,λx c z9 h=>by rcases h with⟨p,hp,_⟩|h;exact aV hp (by simp);exact h⟩
 |(y,k)::r,cs,i=>by
  rw[List.forIn_cons];have hr:∀p∈r,p.2=.free->∃c,J.cells.lookup p.1=some c:=λp hp=>i p (aC hp);by_cases hk:k=.free
  ·subst hk;refine oE (i (y,.free) (aE) rfl) λc l=>?_;refine aW (tI r ((y,c)::cs) hr) λd e q=>?_;refine⟨d,?_,λx j f hp=>?_⟩;·simp only[beq_self_eq_true,if_true];unfold cellOf;rwa[show J.cells.lookup y=some c from l];simp only[pure_bind];exact e
   ·refine q x j f ?_;by_cases b:x=y;·clear i e q hp;subst b;right;have:J.cells.lookup x=some c:=l;rw[this]at f;have m:=aM f;subst m;simp
    ·have hb:(x==y)=false:=by simpa using b
     rcases hp with⟨p,hp,e1,g⟩|hp
     ·rcases bV.mp hp with rfl|hp;·exact aV e1 (λz=>b z.symm)
      ·exact .inl ⟨p,hp,e1,g⟩
     ·right;rwa[fA];rwa[hb];exact hp
  ·refine aW (tI r cs hr) λd e q=>?_;have hb:(k==NameKind.free)=false:=by simpa using hk
   refine⟨d,?_,λx j f hp=>q x j f ?_⟩;·simp only[hb,Bool.false_eq_true,if_false,pure_bind];exact e
   ·rcases hp with⟨p,hp,e1,g⟩|hp
    ·rcases bV.mp hp with rfl|hp;·exact aV g hk
     ·exact .inl ⟨p,hp,e1,g⟩
    ·exact .inr hp
theorem CE(b:∀p∈O.names,p.2=.free->∃c,J.cells.lookup p.1=some c):∃a,closureFor O J=pure a/\∀x c,J.cells.lookup x=some c->(∃p∈O.names,p.1=x/\p.2=.free)->a.lookup x=some c:=by refine aW (tI (J:=J) O.names [] b) λa e q=>?_;refine⟨a,?_,λx c d hp=>q x c d (.inl hp)⟩;unfold closureFor;dsimp only;rwa[e];rfl
theorem GX{d:Expr}{ifs:List Expr}{it acc:Value}(e:gens[j]?=some ⟨t0,d,ifs,0⟩)(f:∀a,gens[j+1]?=some a->a.is_async=0):compTurn (.ListComp elt gens O pos) j @it acc J=(standAt d.pos>>=λz9=>pyNext @it>>=λr=>match r with
 |none=>pure (.done .next)
 |some v=>letOwnedTupleGo t0 @it v>>=λz9=>assign t0 J v>>=λz9=>(forIn ifs true λc r=>if r=true then do let ok<-isTrue c J (eval c J);pure (ForInStep.yield ok)else pure (ForInStep.yield r))>>=λok=>if ok=true then(match gens[j+1]? with
  |some a=>eval a.iter J>>=λx=>standAt a.iter.pos>>=λz9=>foldedSetIterable a.iter J x>>=λx=>holding [x] (pyIter x)>>=λb=>runOwn (.compStart (.ListComp elt gens O pos) (j+1) b acc J) J>>=λz9=>again (.compLoop (.ListComp elt gens O pos) j @it acc J)
  |none=>(eval elt J>>=λx=>call (.builtin "list.append") [acc,x]>>=λz9=>pure ())>>=λz9=>again (.compLoop (.ListComp elt gens O pos) j @it acc J))else again (.compLoop (.ListComp elt gens O pos) j @it acc J)):=by
 unfold compTurn;dsimp only;rwa[e];dsimp only;have h0:((0:Int)!=0)=false:=rfl;simp only[h0,Bool.false_eq_true,if_false];congr 1;funext _;congr 1;funext r
 induction r using Option.casesOn with
 |none=>rfl
 |some v=>
  dsimp only;congr 1;funext _;congr 1;funext _;congr 1;funext ok
  induction ok using Bool.casesOn with
  |false=>rfl
  |true=>
   simp only[if_true]
   cases g:gens[j+1]? with
   |none=>rfl
   |some a=>have:=f a g;simp only[this,h0,Bool.false_eq_true,if_false]
end
structure hM(F:Fix)(Θ:List bA)(W:Env)(sc:Sc)(D:Addr)(loc:Loc)(U:List Addr)(H:VH)(h:Heap)(acc:List V)(m:Str->Option Value)(items:Array Value):Prop where
 R:Lu F U H (.ns W.locals m::.lst D items::Θ) h
 rs:b9 F U h acc items.toList
 N:dG F W sc loc U h (.ns W.locals m::.lst D items::Θ)
theorem dG.less(N:dG F J sc bL U h Θ)(q:∀x v,aU x loc=some v->aU x bL=some v):dG F J sc loc U h Θ:=⟨N.names,N.kind,N.glob,N.blt,N.own,N.cells,λx v e=>N.loc x v (q x v e)⟩
variable{W:Env}{acc:List V}
section
variable{D:Addr}
theorem hM.keeps{Z:Heap}(S:hM F Θ W sc D loc U H h acc m items)(k:Keeps h Z):hM F Θ W sc D loc U H Z acc m items:=have I:=aZ.of_keeps k;⟨S.R.keeps k,S.rs.mono aQ I,S.N.mono aQ I λz9 h=>h⟩
theorem RC{x:Str}(S:hM F Θ W sc D loc U H h acc m items)(rv:RV F U h v y)(k:sc.lookup x=some .local)(n:x≠("__debug__":Str))(r:x≠("__classdict__":Str))(K:∀Z m' t',aZ h Z->hM F Θ W sc D (aB x v loc) U H Z acc m' items->Q () ⟨Z,g,u,t',B⟩):wpAny F.mo A (storeName W x y) Q E ⟨h,g,u,t,B⟩:=by
 obtain⟨R,rs,N⟩:=S;have hk:W.kindOf x=sc.lookup x:=by unfold Env.kindOf;rwa[N.names];rfl
 have hm:bA.ns W.locals m∈.ns W.locals m::.lst D items::Θ:=aE;have d:=(R.dS _ hm).1;refine wpAny_storeName_local (hk.trans k) d (λZ f j=>?_) (by rwa[N.kind];rfl);refine eS (id d) λo es ep q1 q2 _=>?_;refine oA (R.gM (p:=.ns W.locals m) (p':=.ns W.locals λz=>if z=x then some y else m z) j q1 (eN q2) rfl f) λl I=>?_;have uniq:∀m₁,bA.ns W.locals m₁∈.ns W.locals m::.lst D items::Θ->m₁=m:=λm₁ bB=>by have:=R.uniq bB hm rfl;clear bB;cases this;rfl
 have a:∀c w,bA.cell c w∈.ns W.locals m::.lst D items::Θ->bA.cell c w∈(.ns W.locals λz=>if z=x then some y else m z)::.lst D items::Θ:=λc w i=>by
  rcases bV.mp i with e|i;·cases e
  ·exact aC i
 refine K Z _ _ I ⟨l,rs.mono aQ I,N.names,N.kind,N.glob,N.blt,⟨_,aE⟩,λz b=>let⟨c,w,e,i⟩:=N.cells z b;⟨c,w,e,a _ _ i⟩,λz w b=>?_⟩;rw[mM]at b;by_cases e:z=x;·clear K hk f l a;subst e;rw[aI rfl]at b;have s:=aM b;subst s;refine⟨n,r,?_⟩;rwa[k];exact⟨_,y,aE,by simp,rv.mono aQ I⟩
 ·rw[aH e]at b;refine gB (N.loc z w b) λC G J=>?_;refine⟨C,G,?_⟩;exact J.map (λz9 q=>q.mono aQ I) (λm₁ val L M=>⟨_,aE,(aH e).trans (uniq m₁ L▸M)⟩) λc w z9=>a c w
def Nd(loc bL:Loc):Prop:=∀x v,aU x loc=some v->aU x bL=some v
theorem Nd.refl(loc:Loc):Nd loc loc:=λz9 z9 h=>h
theorem Nd.trans{a b c:Loc}(x:Nd a b)(y:Nd b c):Nd a c:=λz v h=>y z v (x z v h)
def tQ(F:Fix)(g:Array GenState)(u:Drawn)(B:OsState)(Θ:List bA)(W:Env)(sc:Sc)(D:Addr)(loc:Loc)(U:List Addr)(h:Heap)(acc:List V)(items:Array Value)(P:Res->Prop)(k:Loc->VH->Res)(Q:Unit->Shared->Prop):Prop:=∀bL a Z t' m',Nd loc bL->aZ h Z->hM F Θ W sc D bL U a Z acc m' items->P (k bL a)->Q () ⟨Z,g,u,t',B⟩
theorem PS{M:Expr->Res->Prop}(o:∀e,M e .stuck)(q:∀x p,M (.Name x p) (oQ sc (.Name x p) v loc H k))(e:Expr):M e (oQ sc e v loc H k):=by induction e using PySem.Expr.casesOn<;>first|exact q _ _|exact o _
theorem IH{k:Loc->VH->Res}(S:hM F Θ W sc D loc U H h acc m items)(rv:RV F U h v y)(K:tQ F g u B Θ W sc D loc U h acc items P k Q)(stuck:cS P)(a:P (oQ sc e v loc H k)):wpAny F.mo A (assign e W y) Q E ⟨h,g,u,t,B⟩:=by
 refine PS (M:=λe r=>P r->wpAny F.mo A (assign e W y) Q E ⟨h,g,u,t,B⟩) (λe a=>(stuck a).elim) (λx p a=>?_) e a;refine cV (c:=x="__debug__"\/x="__classdict__") a (λz9 h=>(stuck h).elim) λd a=>?_
 cases b:sc.lookup x with
 |none=>rw[b]at a;exact(stuck a).elim
 |some j=>
  rw[b]at a
  induction j using PySem.NameKind.casesOn with
  |«local»=>
   cases f:aU x loc with
   |some _=>rw[f]at a;exact(stuck a).elim
   |none=>
    rw[f]at a;refine wpAny_assign_Name (RC S rv b (λz=>d (.inl z)) (λz=>d (.inr z)) λZ m' t' I S'=>K _ _ _ _ _ (λz w i=>?_) I S' a);rw[mM];by_cases e:z=x;·clear d a b S';subst e;rw[f]at i;exact dW i
    ·rwa[aH e];exact i
  |_=>exact(stuck a).elim
theorem UH:∀(ts:List Expr)(l:List V){xs:List Value}{loc:Loc}{h:Heap}{t:Nat}{H:VH}{m:Str->Option Value}{k:Loc->VH->Res}{Q:Unit->Shared->Prop},ts.any Mg=false->hM F Θ W sc D loc U H h acc m items->b9 F U h l xs->tQ F g u B Θ W sc D loc U h acc items P k Q->(P .stuck->False)->P (Mj (oQ sc) ts l loc H k)->wpAny F.mo A (assignInOrder ((assignEach ts W).map (·.2)) xs) Q E ⟨h,g,u,t,B⟩:=by
 intro ts
 induction ts with
 |nil=>
  intro l xs loc h t H m k Q ns S r K stuck a
  induction l using List.casesOn with
  |nil=>cases r;exact wpAny_assignInOrder_none (K loc H h t m (.refl _) (aZ.refl _) S a)
  |cons _ _=>exact(stuck a).elim
 |cons e ts n=>
  intro l xs loc h t H m k Q ns S r K stuck a
  induction l using List.casesOn with
  |nil=>exact(stuck a).elim
  |cons v l=>
   rw[List.any_cons,Bool.or_eq_false_iff]at ns
   cases r with
   |cons o p=>rwa[kM ns.1];refine wpAny_assignInOrder_more (IH S o (k:=λloc H=>Mj (oQ sc) ts l loc H k) (λbL z Z t' m' mo i S' c=>?_) stuck a);exact n l ns.2 S' (p.mono aQ i) (λd q s w x f y j b=>K _ _ _ _ _ (mo.trans f) (i.trans y) j b) stuck c
theorem VQ{M:Expr->Res->Prop}(o:∀e,M e .stuck)(q:∀x p,M (.Name x p) (oQ sc (.Name x p) v loc H k))(b:∀ts q p,M (.Tuple ts q p) (nP sc (.Tuple ts q p) v loc H k))(e:Expr):M e (nP sc e v loc H k):=by induction e using PySem.Expr.casesOn<;>first|exact q _ _|exact o _|exact b _ _ _
theorem YG(n:A.handled=none)(S:hM F Θ W sc D loc U H h acc m items)(rv:RV F U h v y)(K:tQ F g u B Θ W sc D loc U h acc items P k Q)(stuck:cS P)(b:P (nP sc e v loc H k)):wpAny F.mo A (assign e W y) Q E ⟨h,g,u,t,B⟩:=by refine VQ (M:=λe r=>P r->wpAny F.mo A (assign e W y) Q E ⟨h,g,u,t,B⟩) (λe b=>(stuck b).elim) (λx p b=>IH S rv K stuck b) (λts q p b=>?_) e b;replace b:P (OS (oQ sc) ts v loc H k):=b;refine eC stuck b λq' he b=>PT stuck b λo b=>bU stuck b λd b=>?_;rw[assignIdx_eq d.1]at b;refine b_ (sJ (l:=q'.1) (src:=q'.2) S.R rv he o) λa s aG r hs=>?_;clear rv;subst aG;have z:=r.length;rw[Array.length_toList]at z;rw[arm_assign_Tuple];refine oA (rM (J:=W) d.2) λw C=>?_;refine aF (dX (A9 n hs (by rwa[C];rwa[z];rwa[d.1];rfl) w λZ hk=>?_));have I:=aZ.of_keeps hk;exact UH ts q'.1 d.2 (S.keeps hk) (r.mono aQ I) (λf G L N O i T j c=>K _ _ _ _ _ i (I.trans T) j c) stuck b
theorem A2{Q:Bool->Shared->Prop}(a:Q false s):∀(l:List Expr),wpAny F.mo A (forIn l false λc r=>if r=true then do let ok<-isTrue c W (eval c W);pure (ForInStep.yield ok)else pure (ForInStep.yield r)) Q E s
 |[]=>by rwa[List.forIn_nil];exact a_ a
 |e::r=>by rw[List.forIn_cons];simp only[Bool.false_eq_true,if_false];exact aF (a_ (A2 a r))
theorem HM(it:iN F g u B cf d n):∀(vs:List Expr){U:List Addr}{H:VH}{h:Heap}{t:Nat}{k:Bool->VH->Res}{Q:Bool->Shared->Prop},Cx F d A W L sc loc U h Θ->Lu F U H Θ h->j_ F g u B Θ U h P k Q->fX F g u B Θ U h P L E->(P .stuck->False)->P (tG (λe H k=>mE cf n sc e loc H k) vs H k)->wpAny F.mo A (forIn vs true λc r=>if r=true then do let ok<-isTrue c W (eval c W);pure (ForInStep.yield ok)else pure (ForInStep.yield r)) Q E ⟨h,g,u,t,B⟩
 |[],U,H,h,t,k,Q,C,R,K,X,stuck,f=>by rwa[List.forIn_nil];exact a_ (K.here R f)
 |e::r,U,H,h,t,k,Q,C,R,K,X,stuck,f=>by
  rw[List.forIn_cons];simp only[if_true];refine aF (aF (it C R (λb l aO Z t' p i j a=>a_ ?_) X stuck f))
  induction b using Bool.casesOn with
  |true=>exact HM @it r (C.mono p i λz9 h=>h) j (K.mono p i) (X.mono p i) stuck a
  |false=>exact A2 ((K.mono p i).here j a) r
end
def SM(a:Expr->Loc->VH->Kv->Res)(n6:Expr->Loc->VH->(Bool->VH->Res)->Res)(asg:Expr->V->Loc->VH->(Loc->VH->Res)->Res)(elt:Expr)(gs:List Comprehension)(loc:Loc)(H:VH)(acc:List V)(k:VH->List V->Res):Res:=match gs with
 |[]=>a elt loc H λv H=>if acc.length<=1000 then k H (acc++[v])else .stuck
 |c::b=>a c.iter loc H λd H=>sP a n6 asg elt (c::b) d loc H acc k
def vN(a:Expr->Loc->VH->Kv->Res)(n6:Expr->Loc->VH->(Bool->VH->Res)->Res)(asg:Expr->V->Loc->VH->(Loc->VH->Res)->Res)(elt:Expr)(g0:Comprehension)(gs:List Comprehension)(loc:Loc)(v:V)(H:VH)(acc:List V)(k:VH->List V->Res):Res:=asg g0.target v loc H λloc H=>tG (λe H k=>n6 e loc H k) g0.ifs H λb H=>match b with
 |true=>SM a n6 asg elt gs loc H acc k
 |false=>k H acc
variable{g0:Comprehension}
theorem yL{b:Expr->Loc->VH->Kv->Res}{n6:Expr->Loc->VH->(Bool->VH->Res)->Res}{asg:Expr->V->Loc->VH->(Loc->VH->Res)->Res}{x:V}{k:VH->List V->Res}:sP b n6 asg elt (g0::gs) x loc H acc k=match Ly x H with
 |some (l,src)=>fP src (vN b n6 asg elt g0 gs loc) l H acc k
 |none=>.stuck:=by
 obtain⟨t0,f,ifs,a⟩:=g0
 induction gs using List.casesOn with
 |nil=>rfl
 |cons d e=>obtain⟨t',g,c,h⟩:=d;rfl
structure p0(d:Nat)(A:Around)(W:Env)(L:Addr)(Θ:List bA):Prop where
 depth:A.depth+4*d+7<=700
 units:A.units+100*d+390<cLine
 guards:A.guards=some []
 handled:A.handled=none
 fr:eY A L Θ
 hf:W.frame=some L
section
variable{D:Addr}
theorem p0.more(B:p0 d A W L Θ)(s:∀p∈Θ,p∈jP):p0 d A W L jP:=⟨B.depth,B.units,B.guards,B.handled,B.fr.sub s,B.hf⟩
theorem hM.cx(S:hM F Θ W sc D loc U H h acc m items)(B:p0 d A W L Θ):Cx F d A W L sc loc U h (.ns W.locals m::.lst D items::Θ):=⟨B.depth,B.units,B.guards,B.handled,B.fr.sub λq a=>aC (aC a),B.hf,S.N⟩
theorem hM.next{a:VH}(S:hM F Θ W sc D loc U H h acc m items)(p:U<+:aO)(i:aZ h Z)(b:Lu F aO a (.ns W.locals m::.lst D items::Θ) Z):hM F Θ W sc D loc aO a Z acc m items:=⟨b,S.rs.mono p i,S.N.mono p i λz9 h=>h⟩
theorem hM.less(S:hM F Θ W sc D bL U H h acc m items)(q:Nd loc bL):hM F Θ W sc D loc U H h acc m items:=⟨S.R,S.rs,S.N.less q⟩
theorem vP(p a b:bA)(r:List bA):(p::a::b::r).Perm (a::b::p::r):=(List.Perm.swap a p _).trans (.cons a (.swap b p _))
theorem hM.Aj{o':Obj}(S:hM F (.obj I o::Θ) W sc D loc U H h acc m items)(s:Heap.SameBut I h Z)(f:¬lS o)(e:Z.get? I=some o'):hM F (.obj I o'::Θ) W sc D loc U H Z acc m items/\aZ h Z:=by have b:=S.R.perm (vP _ _ _ _).symm;have d:=(b.dS _ (aE)).1;change h.get? I=some o at d;refine oA (b.gM (p':=.obj I o') s d f rfl e) λg a=>?_;refine⟨⟨g.perm (vP _ _ _ _),S.rs.mono aQ a,?_⟩,a⟩;have N:dG F W sc loc U h ([.ns W.locals m,.lst D items]++.obj I o::Θ):=S.N;exact N.map (λz9 z9 q=>q.mono aQ a) (λm hm=>sT (l:=[_,_]) hm λe=>bA.noConfusion e) λc w hm=>sT (l:=[_,_]) hm λe=>bA.noConfusion e
theorem hM.Z3(S:hM F (.obj I o::Θ) W sc D loc U H h acc m items)(s:Heap.ExtBut I h Z)(d:¬lS o):hM F Θ W sc D loc U H Z acc m items/\aZ h Z:=by have b:=S.R.perm (vP _ _ _ _).symm;have c:=(b.dS _ (aE)).1;change h.get? I=some o at c;refine oA (b.sF s c d) λe a=>?_;refine⟨⟨e,S.rs.mono aQ a,?_⟩,a⟩;have N:dG F W sc loc U h ([.ns W.locals m,.lst D items]++.obj I o::Θ):=S.N;exact(N.rO).mono aQ a λz9 h=>h
theorem hM.Do(S:hM F Θ W sc D loc U H h acc m items)(hf:o.isFreed=false):hM F (.obj h.objs.size o::Θ) W sc D loc U H (h.push o) acc m items/\aZ h (h.push o):=by
 have k1:Keeps h (h.push o):=λb o e=>dJ _ e;have a:=aZ.of_keeps k1;refine⟨⟨(S.R.j2 (p:=.obj h.objs.size o) k1 gE (kA h hf)).perm (vP _ _ _ _),S.rs.mono aQ a,S.N.mono aQ a λp hp=>?_⟩,a⟩;simp only[bV]at hp⊢;rcases hp with rfl|rfl|hp;·exact .inl rfl
 ·exact .inr (.inl rfl)
 ·exact .inr (.inr (.inr hp))
theorem hM.push{Q:Po}(S:hM F Θ W sc D loc U H h acc m items)(rv:RV F U h v y)(k:acc.length<=1000)(K:∀Z,aZ h Z->hM F Θ W sc D loc U H Z (acc++[v]) m (items.push y)->Q .none ⟨Z,g,u,t,B⟩):wpAny F.mo A (call (.builtin "list.append") [.ref D,y]) Q E ⟨h,g,u,t,B⟩:=by
 have d:=S.R.perm (List.Perm.swap _ _ _);have b:=(d.dS _ (aE)).1;change h.PlainList D items at b;have f:items.size=acc.length:=by have:=S.rs.length;simpa using this
 refine wpAny_list_append_plain b (λZ pl s=>?_) (by rwa[d7];lia);refine oE (id b) λn i=>?_;refine oA (d.gM (p':=.lst D (items.push y)) s i (lY rfl) rfl pl) λj a=>?_;refine K Z a ⟨j.perm (List.Perm.swap _ _ _),?_,?_⟩;·rwa[Array.toList_push];exact(S.rs.mono aQ a).append (.cons (rv.mono aQ a) .nil)
 ·have N:dG F W sc loc U h ([.ns W.locals m]++.lst D items::Θ):=S.N;exact N.map (λz9 z9 q=>q.mono aQ a) (λm hm=>sT (l:=[_]) hm λe=>bA.noConfusion e) λc w hm=>sT (l:=[_]) hm λe=>bA.noConfusion e
end
section
theorem EF{it acc:Value}{b:Comprehension}(c:gens[j]?=some b)(d:b.is_async=0)(h0:codeAny (model prog w) A (.compLoop (.ListComp elt gens O pos) j @it acc J) R s)(h:wpAny (model prog w) A (pyIter @it) (λa s'=>codeAny (model prog w) A (.compLoop (.ListComp elt gens O pos) j a acc J) R s') (notedBy (model prog w) A J λx s'=>R (.error x) s') s):codeAny (model prog w) A (.compStart (.ListComp elt gens O pos) j @it acc J) R s:=by
 refine codeAny_of_tree ?_
 show wpAny _ _ ((compStart (.ListComp elt gens O pos) j @it acc J).onRaise (λx=>do noteFrame x J;standAt theWindowsPlace)) _ _ s;refine wpAny_notedAt ?_;unfold compStart;have e:(clausesOf (.ListComp elt gens O pos))[j]?=some b:=c;rwa[e];simp only[Option.elim,d];rwa[aH (by decide)];show wpAny _ _ (ask>>=_) _ _ s;refine aF (wpAny_askSetting (wpAny_ite ?_));split
 ·first
   |exact aF (a_ (a_ (And.intro rfl h0)))
   |exact a_ (And.intro rfl h0)
 ·first
   |exact aF (wpAny_rule (aF (dX (aF (eQ h (λa s' Z=>a_ (And.intro rfl Z)) λz9 z9 x=>x)))))
   |(refine aF (wpAny_rule ?_);exact aF (dX (aF (eQ h (λa s' Z=>a_ (And.intro rfl Z)) λz9 z9 x=>x))))
end
def pJ(F:Fix)(g:Array GenState)(u:Drawn)(B:OsState)(Θ:List bA)(W:Env)(D:Addr)(U:List Addr)(h:Heap)(P:Res->Prop)(L:Addr)(E:Po):Prop:=∀c s b aO Z t' e m' a,U<+:aO->aZ h Z->Mu F aO b (.ns W.locals m'::.lst D a::Θ) Z L c s e->P (.exc c s b)->E (.ref e) ⟨Z,g,u,t',B⟩
section
variable{D:Addr}
theorem pJ.mono(X:pJ F g u B Θ W D U h P L E)(p:U<+:aO)(i:aZ h Z):pJ F g u B Θ W D aO Z P L E:=λc s b c6 bB t' e m' a p' d=>X c s b c6 bB t' e m' a (p.trans p') (i.trans d)
theorem pJ.here(X:pJ F g u B Θ W D U h P L E):fX F g u B (.ns W.locals m::.lst D items::Θ) U h P L E:=λc s a aO Z t' e p i=>X c s a aO Z t' e _ _ p i
theorem pJ.more(X:pJ F g u B Θ W D U h P L E):pJ F g u B (.obj I o::Θ) W D U h P L E:=by
 intro c s f aO Z t' e m' b p i x j;refine X c s f aO Z t' e m' b p i (x.sub (λq d=>?_) ?_) j
 ·simp only[bV]at d⊢;rcases d with rfl|rfl|d;·exact .inl rfl
  ·exact .inr (.inl rfl)
  ·exact .inr (.inr (.inr d))
 ·refine aW x ?_;clear x;intro Y k _;have:=k.nodup;rw[eZ,List.nodup_append]at this;exact uI (p:=.obj I o) (a:=[.ns W.locals m',.lst D b]) this.2.1
theorem r7{l r:List X}{a:X}(e:l.drop j=a::r):l[j]?=some a/\l.drop (j+1)=r:=by
 constructor
 ·have:(l.drop j)[0]?=some a:=by rwa[e];rfl
  rw[List.getElem?_drop]at this;simpa using this
 ·have:(l.drop j).drop 1=r:=by rwa[e];rfl
  rw[List.drop_drop]at this;simpa[Nat.add_comm]using this
def y8(F:Fix)(g:Array GenState)(u:Drawn)(B:OsState)(A:Around)(P:Res->Prop)(W:Env)(sc:Sc)(L D:Addr)(cf:CF)(d n:Nat)(elt:Expr)(gens:List Comprehension)(O:Scope)(pos:Pos)(gs:List Comprehension)(g0:Comprehension):Prop:=∀(j:Nat),gens.drop j=g0::gs->(∀c∈g0::gs,c.is_async=0)->∀{Θ:List bA}{l:List V}{v:V}{I:Addr}{o:Obj}{loc:Loc}{U:List Addr}{H:VH}{h:Heap}{t:Nat}{acc:List V}{m:Str->Option Value}{items:Array Value}{kk:VH->List V->Res}{R:Result->Shared->Prop},p0 d A W L Θ->hM F (.obj I o::Θ) W sc D loc U H h acc m items->jR F U h l 0 v o->P (fP (Mo v l) (vN (ev cf n sc) (mE cf n sc) (nP sc) elt g0 gs loc) l H acc kk)->(∀aO f Z t' b m' a,U<+:aO->aZ h Z->hM F Θ W sc D loc aO f Z b m' a->P (kk f b)->R (.ok .next) ⟨Z,g,u,t',B⟩)->pJ F g u B Θ W D U h P L (notedBy F.mo A W λe s'=>R (.error e) s')->codeAny F.mo A (.compStart (.ListComp elt gens O pos) j (.ref I) (.ref D) W) R ⟨h,g,u,t,B⟩
inductive SB(F:Fix)(g:Array GenState)(u:Drawn)(B:OsState)(P:Res->Prop)(W:Env)(sc:Sc)(D I:Addr)(Θ:List bA)(l:List V)(v:V)(loc:Loc)(U:List Addr)(h:Heap)(turn:V->VH->List V->(VH->List V->Res)->Res)(kk:VH->List V->Res):Nat->Shared->Prop
 |mk{k i:Nat}{c6:List Addr}{oL:VH}{bB:Heap}{jU:Nat}{FC:List V}{m₁:Str->Option Value}{EC:Array Value}{rF:Obj}:k+i=l.length->U<+:c6->aZ h bB->hM F (.obj I rF::Θ) W sc D loc c6 oL bB FC m₁ EC->jR F c6 bB l i v rF->
  P (fP (Mo v l) turn (l.drop i) oL FC kk)->SB F g u B P W sc D I Θ l v loc U h turn kk k ⟨bB,g,u,jU,B⟩
def CK(F:Fix)(g:Array GenState)(u:Drawn)(B:OsState)(P:Res->Prop)(W:Env)(sc:Sc)(D:Addr)(Θ:List bA)(loc:Loc)(U:List Addr)(h:Heap)(kk:VH->List V->Res)(Q:Shared->Prop):Prop:=∀aO c Z t' b m' a,U<+:aO->aZ h Z->hM F Θ W sc D loc aO c Z b m' a->P (kk c b)->Q ⟨Z,g,u,t',B⟩
theorem mJ{s:VH->Bool}{b:V->VH->List V->(VH->List V->Res)->Res}{k:VH->List V->Res}(stuck:cS P)(a:P (fP s b [] H acc k))(c:s H=true->P (k H acc)->C):C:=bU stuck a c
set_option tactic.hygienic true in
theorem N1(ih:dC F g u B cf d n)(stuck:cS P){Q:PySem.Fin->Shared->Prop}{tl:Sem PySem.Fin}{kk:VH->List V->Res}:∀(gs:List Comprehension),
 (∀r o,gs=r::o->y8 F g u B A P W sc L D cf d n elt gens O pos o r)->gens.drop (j+1)=gs->(∀c∈gs,c.is_async=0)->p0 d A W L Θ->hM F Θ W sc D loc U H h acc m items->pJ F g u B Θ W D U h P L E->
 P (SM (ev cf n sc) (mE cf n sc) (nP sc) elt gs loc H acc kk)->CK F g u B P W sc D Θ loc U h kk (λs=>wpAny F.mo A tl Q E s)->
 wpAny F.mo A (match gens[j+1]? with
  |some r=>eval r.iter W>>=λx=>standAt r.iter.pos>>=λz9=>foldedSetIterable r.iter W x>>=λx=>holding [x] (pyIter x)>>=λc7=>
   runOwn (.compStart (.ListComp elt gens O pos) (j+1) c7 (.ref D) W) W>>=λz9=>tl
  |none=>(eval elt W>>=λx=>call (.builtin "list.append") [.ref D,x]>>=λz9=>pure ())>>=λz9=>tl) Q E ⟨h,g,u,t,B⟩
 |[],_,hd,_,J,S,X,hP,K=>by rwa[show gens[j+1]?=none from List.getElem?_eq_none (List.drop_eq_nil_iff.mp hd)];exact aF (aF (ih (S.cx J) S.R (λw v C M N z b f i rz a=>aF (bU stuck a λT a=>(S.next b f i).push rz T λf8 Y k=>a_ (K _ _ _ _ _ _ _ b (f.trans Y) k a))) X.here stuck hP))
 |r::o,c9,hd,ha,J,S,X,hP,K=>by
  rwa[(r7 hd).1];refine aF (ih (S.cx J) S.R (λw v C M N z b f i rz a=>?_) X.here stuck hP);refine aF (dX (aF (wpAny_of_eq (vB (pQ stuck hP) z) (aF (cH ?_)))));rw[yL]at a
  cases he:Ly w v with
  |none=>rw[he]at a;exact(stuck a).elim
  |some q=>rw[he]at a;refine DT i rz he λo' hf b6=>?_;refine oA ((S.next b f i).Do hf) λk y=>?_;refine aF (wpAny_runOwn (c9 r o rfl (j+1) hd ha J k b6 ((rI (l:=q.1) (src:=q.2) he)▸a) (λd6 f9 i4 i5 c6 i6 I b7 b8 b9 G=>K _ _ _ _ _ _ _ (b.trans b7) (f.trans (y.trans b8)) b9 G) ?_));intro c s H' aO Z t' e m' p p' i' hx d7;exact zW (J.fr.sub λq hq=>aC (aC hq)) hx J.hf λd8 d9 f7=>X c s H' aO d8 t' e m' p (b.trans p') (f.trans (y.trans (i'.trans d9))) f7 d7
set_option tactic.hygienic true in
theorem y7(ih:dC F g u B cf d n)(it:iN F g u B cf d n)(stuck:cS P)(gs:List Comprehension)
 (j4:∀g' i8,gs=g'::i8->y8 F g u B A P W sc L D cf d n elt gens O pos i8 g')(g0:Comprehension):y8 F g u B A P W sc L D cf d n elt gens O pos gs g0:=by
 intro j hj ha Θ l v I o loc U H h t acc m items kk R j9 S hit hP j5 i9;obtain⟨t0,i0,ifs,a0⟩:=g0;have j6:a0=0:=ha _ (aE);subst j6;have mI:∀{m:Str->Option Value}{items:Array Value}{o:Obj},bA.obj I o∈.ns W.locals m::.lst D items::.obj I o::Θ:=aC (aC (aE))
 have i4:∀g',gens[j+1]?=some g'->g'.is_async=0:=λg' j7=>ha _ (aC (by
  have:(gens.drop (j+1))[0]?=some g':=by rwa[List.getElem?_drop];exact j7
  rw[(r7 hj).2]at this;exact eE this))
 have loop:codeAny F.mo A (.compLoop (.ListComp elt gens O pos) j (.ref I) (.ref D) W) R ⟨h,g,u,t,B⟩:=by
  refine codeAny_loop rfl (SB F g u B P W sc D I Θ l v loc U h (vN (ev cf n sc) (mE cf n sc) (nP sc) elt ⟨t0,i0,ifs,0⟩ gs loc) kk) ?_ l.length (.mk rfl aQ (aZ.refl _) S hit hP);intro k s z;obtain⟨hk,T,V,C,f,a⟩:=z;rename_i i c6 oL bB jU FC m₁ EC rF;refine wpAny_noted ?_;rwa[GX (r7 hj).1 i4];refine aF (dX (aF ?_))
  cases hw:l[i]? with
  |none=>
   have e:l.length=i:=by have:=List.getElem?_eq_none_iff.mp hw;lia
   rw[<-e,List.drop_length]at a;rw[<-e]at f;exact mJ stuck a λhs a=>NF j9.handled C.R mI f hs λc7 j0 X=>
    have q:=C.Z3 X f.u9
    a_ (j5 _ _ _ _ _ _ _ T (V.trans q.2) q.1 a)
  |some w=>
   have j8:i<l.length:=(dN.mp hw).1;refine oE (⟨k-1,by lia⟩:∃k',k=k'+1) λk' aG=>?_;subst aG;have ed:l.drop i=w::l.drop (i+1):=(dN.mp hw).2▸List.drop_eq_getElem_cons j8;rw[ed]at a;refine bU stuck a λhs a=>IZ C.R mI f hs hw λy c7 j0 Y X eI E ry=>?_;refine oA (C.Aj X f.u9 eI) λj1 c9=>?_;have d6:pJ F g u B (.obj I Y::Θ) W D c6 c7 P L _:=(i9.mono T (V.trans c9)).more;refine aF (DQ eI E (aF ?_));refine YG j9.handled j1 ry (λb9 k8 l0 l4 l9 i5 G Z i6=>aF ?_) stuck a;have d7:p0 d A W L (.obj I Y::Θ):=j9.more λp hp=>aC hp;refine HM @it ifs (Z.cx d7) Z.R (λb m0 i7 j2 m4 J K j3 b6=>?_) (d6.mono aQ G).here stuck i6;have d8:=Z.next J K j3
   have fin:CK F g u B P W sc D (.obj I Y::Θ) b9 i7 j2 (λH acc=>fP (Mo v l) (vN (ev cf n sc) (mE cf n sc) (nP sc) elt ⟨t0,i0,ifs,0⟩ gs loc) (l.drop (i+1)) H acc kk) (SB F g u B P W sc D I Θ l v loc U h (vN (ev cf n sc) (mE cf n sc) (nP sc) elt ⟨t0,i0,ifs,0⟩ gs loc) kk k'):=λb7 d9 f7 f8 M f9 r N Q b8 x=>
    .mk (by lia) (T.trans (J.trans N)) (V.trans (c9.trans (G.trans (K.trans Q)))) (b8.less i5) (E.mono (J.trans N) (G.trans (K.trans Q))) x
   induction b using Bool.casesOn with
   |false=>exact a_ ⟨rfl,k',Nat.lt_succ_self _,fin _ _ _ _ _ _ _ aQ (aZ.refl _) d8 b6⟩
   |true=>exact N1 @ih stuck gs j4 (r7 hj).2 (λc hc=>ha c (aC hc)) d7 d8 (d6.mono J (G.trans K)) b6 λb7 d9 f7 f8 M f9 r N Q b8 x=>a_ ⟨rfl,k',Nat.lt_succ_self _,fin b7 d9 f7 f8 M f9 r N Q b8 x⟩
 exact EF (r7 hj).1 rfl loop (UJ (S.R.dS _ mI).1 hit loop)
theorem VM(f:dC F g u B cf d n)(it:iN F g u B cf d n)(stuck:cS P):∀(gs:List Comprehension)(g0:Comprehension),y8 F g u B A P W sc L D cf d n elt gens O pos gs g0:=by
 intro gs
 induction gs with
 |nil=>exact y7 @f @it stuck [] λh a e=>by exact Ku e
 |cons g1 b c=>exact y7 @f @it stuck (g1::b) λh a e=>by cases e;exact c g1
end
theorem G0{f:Str->Bool}{x:Str}(loc:Loc):aU x (loc.filter λp=>f p.1)=if f x then aU x loc else none:=by
 induction loc with
 |nil=>cases f x<;>rfl
 |cons p r c=>
  obtain⟨y,v⟩:=p;rwa[jN];rwa[List.filter_cons];show aU x (if f y=true then(y,v)::r.filter _ else r.filter _)=_;by_cases a:f y=true
  ·rwa[aI a];rwa[jN];by_cases e:y=x;·rwa[aI e];rwa[aI e];rwa[aI (show f x=true from e▸a)];rfl
   ·rwa[aH e];rwa[aH e];exact c
  ·rwa[aH a];rwa[c];by_cases b:f x=true;·rwa[aH (show¬y=x fromλe=>a (e▸b))];rfl
   ·rwa[aH b];rwa[aH b];rfl
theorem u6{names:Sc}{x:Str}:(gV names).lookup x=(names.lookup x).map λk=>if k==.free then .cell else k:=by
 induction names with
 |nil=>rfl
 |cons p r b=>
  obtain⟨y,k⟩:=p;show List.lookup x ((if k==.free then(y,.cell)else(y,k))::gV r)=_
  cases a:x==y with
  |true=>
   by_cases hk:(k==NameKind.free)=true;·rwa[aI hk];simp only[fA,a,Option.map,hk,if_true]
   ·rwa[aH hk];simp only[fA,a,Option.map,aH hk]
  |false=>
   by_cases hk:(k==NameKind.free)=true;·rwa[aI hk];simp only[fA,a];exact b
   ·rwa[aH hk];simp only[fA,a];exact b
theorem nL{names:Sc}{x:Str}{k:NameKind}(h:names.lookup x=some k):(x,k)∈names:=by
 induction names with
 |nil=>cases h
 |cons p r b=>
  obtain⟨y,q⟩:=p;rw[fA]at h
  cases a:x==y with
  |true=>rw[a]at h;clear b;have c:=aM h;subst c;rwa[c_.mp a];exact aE
  |false=>rw[a]at h;exact aC (b h)
variable{pos':Pos}
section
set_option tactic.hygienic true in
theorem NM(ih:dC F g u B cf d n)(it:iN F g u B cf d n)(stuck:cS P){O:Scope}{kk:VH->List V->Res}{Q:Po}{D:Addr}
 (C:Cx F d A J L sc loc U h Θ)(R:Lu F U H (.ns W.locals (λx=>([]:List (Str×Value)).reverse.lookup x)::.lst D #[]::.obj I o::Θ) h)(X:fX F g u B Θ U h P L E)(k:∀c∈g0::gs,c.is_async=0)
 (b:∀p∈O.names,p.2=.free->sc.lookup p.1=some .cell)(G:∀p∈O.names,p.2≠.cell)
 (b6:∀x c,J.cells.lookup x=some c->(∃p∈O.names,p.1=x/\p.2=.free)->W.cells.lookup x=some c)
 (e1:W.scope.names=gV O.names)(e2:W.scope.kind=.function)(e3:W.globals=J.globals)(e4:W.builtins=J.builtins)(e5:W.frame=J.frame)
 (hit:jR F U h l 0 v o)(hP:P (fP (Mo v l) (vN (ev cf n (gV O.names)) (mE cf n (gV O.names)) (nP (gV O.names)) elt g0 gs (loc.filter λp=>O.names.lookup p.1==some .free)) l H [] kk))
 (fin:∀aO r Z t' acc m items,U<+:aO->aZ h Z->Lu F aO r (.ns W.locals m::.lst D items::Θ) Z->b9 F aO Z acc items.toList->P (kk r acc)->
  match use with
  |none=>∃m,Z.Ns W.locals m/\∀b7,Heap.SameBut W.locals Z b7->Q (.ref D) ⟨b7,g,u,t',B⟩
  |some j1=>wpAny F.mo A (j1 (.ref D)) (λz9 K=>∃m,K.heap.Ns W.locals m/\∀Z,Heap.SameBut W.locals K.heap Z->Q .none {K with heap:=Z}) E ⟨Z,g,u,t',B⟩):
 codeAny F.mo A (.compStart (.ListComp elt (g0::gs) O pos) 0 (.ref I) (.ref D) W) (uV F.mo A E use Q (.ref D) W) ⟨h,g,u,t,B⟩:=by
 have f9:p0 d A W L Θ:=⟨C.depth,C.units,C.guards,C.handled,C.fr,e5.trans C.hf⟩
 have N:dG F W (gV O.names) (loc.filter λp=>O.names.lookup p.1==some .free) U h (.ns W.locals (λx=>([]:List (Str×Value)).reverse.lookup x)::.lst D #[]::.obj I o::Θ):=by
  have up:∀p∈Θ,p∈.ns W.locals (λx=>([]:List (Str×Value)).reverse.lookup x)::.lst D #[]::.obj I o::Θ:=λp hp=>aC (aC (aC hp));refine⟨e1,e2,e3.trans C.N.glob,e4.trans C.N.blt,⟨_,aE⟩,λx j=>?_,λx w j=>?_⟩
  ·rw[u6]at j
   cases M:O.names.lookup x with
   |none=>rw[M]at j;cases j
   |some kd=>
    have hm:=nL M;rw[M]at j;have:kd=.free:=by induction kd using PySem.NameKind.casesOn<;>first|rfl|exact aV rfl (G _ hm)|(simp at j)
    subst this;refine sY (C.N.cells x (b _ hm rfl)) λc w hc b8=>?_;exact⟨c,w,b6 x c hc ⟨_,hm,rfl,rfl⟩,up _ b8⟩
  ·rw[G0 (f:=λy=>O.names.lookup y==some .free)]at j;split at j
   ·rename_i hf;have M:O.names.lookup x=some .free:=by simpa using hf
    have hm:=nL M;have hs:=b _ hm rfl;refine gB (C.N.loc x w j) λa1 a2 a3=>?_;refine⟨a1,a2,?_⟩;rwa[u6];rwa[M];rw[hs]at a3;refine b_ a3 ?_;clear a3;intro c val b1 b2 b3;exact⟨c,val,b6 x c b1 ⟨_,hm,rfl,rfl⟩,up _ b2,b3⟩
   ·exact dW j
 refine VM @ih @it stuck gs g0 0 rfl k f9 ⟨R,.nil,N⟩ hit hP (λaO r Z t' c6 m' a p i S i4=>?_) ?_
 ·have:=fin aO r Z t' c6 m' a p i S.R S.rs i4;unfold uV
  induction use using Option.casesOn with
  |none=>exact this
  |some j1=>exact this
 ·intro c s r aO Z t' e m' a p i x i5;refine aW x ?_;clear x;intro Y RY xY;unfold notedBy;refine vL (f9.fr.sub λq hq=>aC (aC hq)) RY xY f9.hf λbB j0 oe dx mx vs tk T oT ts c7 c9 hC hc i6 hd hk h1 i7 i8 h3=>?_;have Rc:Lu F aO r (.ns W.locals m'::.obj T oT::.obj e oe::.ns dx mx::.lst D a::Θ) bB:=c9.perm (((List.Perm.swap _ _ _).cons _).cons _|>.trans (((List.Perm.swap _ _ _).cons _).trans (List.Perm.swap _ _ _)));refine⟨m',(Rc.dS _ (aE)).1,λd6 d7=>?_⟩;have i9:=(Rc.dS _ (aE)).1;refine eS (id i9) λob es ep q1 q2 _=>?_;refine oA (Rc.sF d7.extBut q1 (eN q2)) λd8 d9=>?_;have z:Lu F aO r (.obj T oT::.obj e oe::.ns dx mx::Θ) d6:=(d8.perm (show List.Perm _ (.lst D a::.obj T oT::.obj e oe::.ns dx mx::Θ)from(((List.Perm.swap _ _ _).cons _).cons _|>.trans (((List.Perm.swap _ _ _).cons _).trans (List.Perm.swap _ _ _))))).drop;have he:=(z.dS _ (aC (aE))).1;change _=some oe at he;unfold PySem.passOn;refine aF (wpAny_field he hd h1 ?_);rwa[aH (by simp)];rwa[f9.hf];refine aF (A5 z hC hc i6 hd hk h1 i7 i8 (Array.getElem?_eq_some_iff.mp h3).1 (.inr rfl) λf7 f8 x'=>?_);exact wpAny_throw (X c s r aO f7 _ e p (i.trans (c7.trans (d9.trans f8))) x' i5)
theorem AT(h:pY sc O gs=true)(k:O.kind=.function->(∀g∈gs,g.is_async=0)->(∀p∈O.names,p.2=.free->sc.lookup p.1=some .cell)->(∀p∈O.names,p.2≠.cell)->(∀p∈O.names,p.2=.local->O.names.lookup p.1=some .local)->C):C:=by have a:=Bool.and_eq_true_iff.mp h;have b:=Bool.and_eq_true_iff.mp a.1;have c:=List.all_eq_true.mp a.2;refine k (eq_of_beq b.1) (λg d=>eq_of_beq (List.all_eq_true.mp b.2 g d)) (λp hp e=>?_) (λp hp e=>?_) λp hp e=>?_<;>(have z:=c p hp;rw[e]at z;first|exact eq_of_beq z|exact Bool.noConfusion z)
theorem tT(h:pY sc O (g0::gs)=true):firstAsync (g0::gs)=false:=by refine AT h λ_ z _ _ _=>?_;obtain⟨_,_,_,a⟩:=g0;have z:a=0:=z _ (aE);subst z;rfl
set_option tactic.hygienic true in
theorem A8(ih:dC F g u B cf d n)(it:iN F g u B cf d n)(stuck:cS P){i0:Expr}{ifs:List Expr}{a:Int}{use:Option (Value->Sem Unit)}{k:Kv}{Q:Po}
 (C:Cx F d A J L sc loc U h Θ)(R:Lu F U H Θ h)(X:fX F g u B Θ U h P L E)(f7:pY sc O (⟨t0,i0,ifs,a⟩::gs)=true)
 (hP:P (ev cf n sc i0 loc H λx H=>sP (ev cf n (gV O.names)) (mE cf n (gV O.names)) (nP (gV O.names)) elt (⟨t0,i0,ifs,a⟩::gs) x (loc.filter λp=>O.names.lookup p.1==some .free) H [] λH acc=>k (.ref H.length) (H++[.list acc])))
 (fin:∀aO H' Z t' acc D Cc m items,U<+:aO->aZ h Z->Lu F aO H' (.ns Cc m::.lst D items::Θ) Z->b9 F aO Z acc items.toList->P (k (.ref H'.length) (H'++[.list acc]))->
  match use with
  |none=>∃m,Z.Ns Cc m/\∀b6,Heap.SameBut Cc Z b6->Q (.ref D) ⟨b6,g,u,t',B⟩
  |some f9=>wpAny F.mo A (f9 (.ref D)) (λz9 T=>∃m,T.heap.Ns Cc m/\∀Z,Heap.SameBut Cc T.heap Z->Q .none {T with heap:=Z}) E ⟨Z,g,u,t',B⟩):
 wpAny F.mo A (comprehension (.ListComp elt (⟨t0,i0,ifs,a⟩::gs) O pos) O J pos' (newList []) false (eval i0 J) use) Q E ⟨h,g,u,t,B⟩:=by
 refine AT f7 λf I j z K=>?_;have b7:∀p∈O.names,p.2=.free->∃c,J.cells.lookup p.1=some c:=λp hp e=>by refine sY (C.N.cells p.1 (j p hp e)) λc v hc _=>?_;exact⟨c,hc⟩
 refine aW (CE b7) λcl V f8=>?_
 have M:(O.names.map λx=>if(x.2==.free&&J.scope.kind==.function&&J.kindOf x.1==some .cell)then(x.1,.cell)else(x.1,x.2))=gV O.names:=by
  unfold gV;apply List.map_congr_left;intro p hp;by_cases hk:p.2=.free
  ·have h1:J.kindOf p.1=some .cell:=by unfold Env.kindOf;rwa[C.N.names];exact j p hp hk
   rwa[h1];rwa[C.N.kind];rwa[hk];rfl
  ·have:(p.2==NameKind.free)=false:=by simpa using hk
   rwa[this];rfl
 refine zV rfl (vB (pQ stuck hP)) V f K (ih C R (λv H' aO Z t' x p i R' rv G=>?_) X stuck hP);rw[yL]at G
 cases he:Ly v H' with
 |some q=>
  obtain⟨l,src⟩:=q;rw[he]at G;have b8:=rI he;subst b8;refine DT R' rv he λo hf hit=>?_;have k1:Keeps Z (Z.push o):=λb o e=>dJ _ e;have R1:=R'.j2 (p:=.obj Z.objs.size o) k1 gE (kA Z hf);refine wpAny_newObj_type (wpAny_newFunctionEnv z (by intro y hy;simp at hy) (λbB r s=>?_) f);dsimp only at r s⊢;have k2:Keeps (Z.push o) ((Z.push o).push {cls:=.type "list",dict:=none,data:=.seq ([]:List Value).toArray}):=λb o e=>dJ _ e;have R2:=R1.j2 (p:=.lst (Z.push o).objs.size #[]) k2 gE ⟨_,kA _ rfl⟩;have k3:Keeps ((Z.push o).push {cls:=.type "list",dict:=none,data:=.seq ([]:List Value).toArray}) bB:=λb ob e=>by refine s.extBut b ob (Nat.ne_of_lt (Heap.lt_size e)) (dJ _ e)
  have R3:=R2.j2 (p:=.ns ((Z.push o).push {cls:=.type "list",dict:=none,data:=.seq ([]:List Value).toArray}).objs.size _) k3 gE r;have I1:=aZ.of_keeps k1;have I3:aZ Z bB:=I1.trans ((aZ.of_keeps k2).trans (aZ.of_keeps k3));refine⟨?_,rfl⟩;have II:=i.trans I3;refine NM @ih @it stuck (O:=O) (C.mono p II λz9 h=>h) R3 (X.mono p II) I j z (λx c hx hp=>f8 x c hx hp) M f rfl rfl rfl (hit.mono aQ ((aZ.of_keeps k2).trans (aZ.of_keeps k3))) G (λW c6 c7 c9 S m₂ w d6 d7 d8 d9 Y=>?_);have:=fin W c6 c7 c9 S _ _ m₂ w (p.trans d6) (II.trans d7) d8 d9 Y;induction use using Option.casesOn<;>exact this
 |none=>rw[he]at G;exact(stuck G).elim
theorem N6(y:dC F g u B cf d n)(it:iN F g u B cf d n):O7 F g u B cf d n:=by intro A J L sc elt t0 N ifs a gs O pos loc Θ U H h t P k Q E C R K X stuck f z;rw[eval_ListComp];rwa[tT f];refine A8 @y @it stuck (use:=none) C R X f z λaO G Z t' acc D S m items p i o M q=>?_;have j:=(o.dS _ (aE)).1;refine⟨m,j,λr s=>?_⟩;refine eS (id j) λob es ep q1 q2 _=>?_;refine oA (o.sF s.extBut q1 (eN q2)) λb c=>?_;have v:=(b.dS _ (aE)).1;change r.PlainList D items at v;refine oE (id v) λT w=>?_;refine oA (b.LX (vo:=.list acc) rfl w (.refl _ _) (lY rfl) ⟨_,w⟩ λown I=>⟨items,v,M.mono ⟨_,rfl⟩ c⟩) λl x=>?_;have e:aO.length=G.length:=o.len;exact K _ _ _ _ _ _ (p.trans ⟨_,rfl⟩) (i.trans c) l (.ref (by rwa[jX (by rwa[e];exact Nat.le_refl _)];rwa[e];rewrite[Nat.sub_self];rfl)) q
end
section
variable{k:Kf}{Q:Flow->Shared->Prop}
theorem dG.N8{C:Addr}(N:dG F J sc loc U h (own++.ns C m::aP))(ne:C≠J.locals):dG F J sc loc U h (own++aP):=N.map (λz9 z9 q=>q) (λm' hm=>s8 hm λe=>ne (congrArg bA.addr e).symm) λc w hm=>s8 hm λe=>bA.noConfusion e
theorem OE(c:dC F g u B cf d n)(ia:f_ F g u B cf d n)(hs:Mg t0=false)(a:swapsWithSole [t0] e p.line J=pure false)(f:swappedStores [t0] e J=pure none)(C:Cx F d A J L sc loc U h (own++aP))(W:iA J sc own)(R:Lu F U H (own++aP) h)(K:kT F g u B J sc own aP U h P k Q)(X:f8 F g u B own aP U h P L E)(stuck:cS P)(j:P (ev cf n sc e loc H λv H=>asg cf n sc t0 v loc H λloc H=>k .next loc H)):wpAny F.mo A (exec (.Assign [t0] e p) J) Q E ⟨h,g,u,t,B⟩:=by refine wpAny_Assign_stores (c C R (λv m aO Z t' x pr i l rv b=>?_) X.here stuck j) a f;rwa[kM hs];show wpAny _ A (assign t0 J x) _ E _;exact ia (C.mono pr i λz9 h=>h) W l rv (K.mono pr i (.refl _)).Z6 (X.mono pr i (.refl _)) stuck b
set_option tactic.hygienic true in
theorem MM(ih:dC F g u B cf d n)(i7:∀m<n,dC F g u B cf d m)(i8:∀m<n,iN F g u B cf d m)(ia:f_ F g u B cf d n){q:Pos}(hf:wA t0 (.ListComp elt gens O q)=true)
 (C:Cx F d A J L sc loc U h (own++aP))(W:iA J sc own)(R:Lu F U H (own++aP) h)(K:kT F g u B J sc own aP U h P k Q)(X:f8 F g u B own aP U h P L E)(stuck:cS P)
 (hP:P (ev cf n sc (.ListComp elt gens O q) loc H λv H=>asg cf n sc t0 v loc H λloc H=>k .next loc H)):wpAny F.mo A (exec (.Assign [t0] (.ListComp elt gens O q) p) J) Q E ⟨h,g,u,t,B⟩:=by
 have hs:Mg t0=false:=by induction t0 using PySem.Expr.casesOn<;>first|rfl|cases hf
 have hw:swappedStores [t0] (.ListComp elt gens O q) J=pure none:=tP (by rintro ts q p vs q' p'⟨_,e⟩;cases e) (by rintro ts p rfl;cases hf);have plain:swapsWithSole [t0] (.ListComp elt gens O q) p.line J=pure false->wpAny F.mo A (exec (.Assign [t0] (.ListComp elt gens O q) p) J) Q E ⟨h,g,u,t,B⟩:=λb8=>OE @ih @ia hs b8 hw C W R K X stuck hP;by_cases hn:∃y py,t0=.Name y py
 ·refine wU hn ?_;clear hn;intro y py aG;subst aG;have hb:∃b,swapsWithSole [.Name y py] (.ListComp elt gens O q) p.line J=pure b/\swapsWith (.ListComp elt gens O q) (some (.Name y py)) p.line J=pure b:=⟨_,rfl,rfl⟩;refine aW hb ?_;clear hb;intro b hb b8
  induction b using Bool.casesOn with
  |false=>exact plain hb
  |true=>
   rwa[exec_Assign_Name_used _ _ _ _ b8];refine aF (dX (aF ?_))
   induction n using Nat.casesOn with
   |zero=>exact(stuck hP).elim
   |succ n=>
    induction gens using List.casesOn with
    |nil=>exact(stuck hP).elim
    |cons g0 gs=>
     obtain⟨t1,i0,ifs,a⟩:=g0;rw[show ev cf (n+1) sc (.ListComp elt (⟨t1,i0,ifs,a⟩::gs) O q) loc H (λv H=>asg cf (n+1) sc (.Name y py) v loc H λloc H=>k .next loc H)=if pY sc O (⟨t1,i0,ifs,a⟩::gs)then ev cf n sc i0 loc H λx H=>
      sP (ev cf n (gV O.names)) (mE cf n (gV O.names)) (nP (gV O.names)) elt (⟨t1,i0,ifs,a⟩::gs) x (loc.filter λp=>O.names.lookup p.1==some .free) H [] λH acc=>(λv H=>asg cf (n+1) sc (.Name y py) v loc H λloc H=>k .next loc H) (.ref H.length) (H++[.list acc])else .stuck from by kernel_rfl]at hP;split at hP
     ·rename_i b9
      show wpAny _ A (do let _<-comprehension (.ListComp elt (⟨t1,i0,ifs,a⟩::gs) O q) O J _ (newList []) (firstAsync (⟨t1,i0,ifs,a⟩::gs)) (eval i0 J) (some (assign (.Name y py) J))) _ _ _;rwa[tT b9];refine aF (eQ (A8 (i7 n (Nat.lt_succ_self _)) (i8 n (Nat.lt_succ_self _)) stuck (use:=some (assign (.Name y py) J)) (k:=λv H=>asg cf (n+1) sc (.Name y py) v loc H λloc H=>k .next loc H) (Q:=λz9 s'=>Q .next s') C R X.here b9 hP λaO H' Z t' acc D Cc m items pr i R' r' i9=>?_) (λz9 s' hq=>a_ (a_ hq)) λz9 z9 e=>e);have T:=R'.perm (List.Perm.swap _ _ _);have hD:=(T.dS _ (aE)).1;change Z.PlainList D items at hD;refine oE (id hD) λnn c6=>?_;refine oA (T.LX (vo:=.list acc) rfl c6 (.refl _ _) (lY rfl) ⟨_,c6⟩ λown I=>⟨items,hD,r'.mono ⟨_,rfl⟩ I⟩) λc9 j1=>?_;have V:aO.length=H'.length:=R'.len;have d6:Lu F (aO++[D]) (H'++[.list acc]) (own++.ns Cc m::aP) Z:=c9.perm (iK _ own aP).symm;have pp:U<+:aO++[D]:=pr.trans ⟨_,rfl⟩;have d7:Cx F d A J L sc loc (aO++[D]) Z (own++.ns Cc m::aP):=C.mono pp i λp hp=>pB hp;have d8:f8 F g u B own (.ns Cc m::aP) (aO++[D]) Z P L E:=by intro c s r j b6 w e f z G o M l;refine X c s r j b6 w e f (pp.trans z) (i.trans G) o (M.sub (λp hp=>pB hp) ?_) l;refine aW M ?_;clear M;intro Y RY _;have nd:=RY.nodup;rw[eZ,List.nodup_append]at nd;exact uI nd.2.1
      have rv:RV F (aO++[D]) Z (.ref H'.length) (.ref D):=.ref (by rwa[jX (by rwa[V];exact Nat.le_refl _)];rwa[V];rewrite[Nat.sub_self];rfl);refine ia d7 W d6 rv (k:=λloc H=>k .next loc H) (λS r j b6 w f z G o d9 f7 l=>?_) d8 stuck i9;have N:=d9.perm (iK _ f aP);have f9:=(N.dS _ (aE)).1;refine⟨m,f9,λi4 i5=>?_⟩;refine eS (id f9) λob es ep q1 q2 _=>?_;refine oA (N.sF i5.extBut q1 (eN q2)) λi6 b7=>?_;have ne:Cc≠J.locals:=λe=>by refine oE ((W.same o).ns) λm' j0=>?_;have nd:=N.nodup;rw[bX,dF]at nd;exact nd.1 (c7.mpr ⟨_,bY _ j0,e.symm⟩)
      exact K .next S r j i4 w f .next (pp.trans z) (i.trans (G.trans b7)) o i6 ((f7.N8 ne).mono aQ b7 λz9 h=>h) .next l
     ·exact(stuck hP).elim
 ·exact plain (by induction t0 using PySem.Expr.casesOn<;>first|rfl|exact aV ⟨_,_,rfl⟩ hn)
end
variable{nm:Str}{N:Addr}{bs bm:List Value}{hdct ab:Bool}{sn:List Str}{col:Option Bool}{dd:Option Addr}
section
variable{d:Drawn}
variable{q:Str}{C:Addr}{sub:List Value}{k0 k1 k2 k3 k5:Option Value}
structure vM(C:Addr)(bm:List Value):Prop where
 exc:(Value.ref C::bm).contains (.type "Exception")=true
 base:(Value.ref C::bm).contains (.type "BaseException")=true
 dW:(Value.ref C::bm).contains (.type "AttributeError")=false
 Kx:(Value.ref C::bm).contains (.type "NameError")=false
theorem DJ(mo:vM C bm)(b:h.get? C=some (excClassObj nm q C N bs bm hdct sn sub ab col dd k0 k1 k2 k3 k5 "Exception.__new__"))(f:Q () ⟨h,g,d,t,B⟩):wpAny M A (checkBuiltinCall "Exception.__new__" ⟨.ref C::rest,[]⟩) Q E ⟨h,g,d,t,B⟩:=by
 have c:=PySem.F.excBase_Exception;have a:=mo.exc;have e:=c.noStar;unfold checkBuiltinCall;rwa[c.newKind];rwa[c.newSplit];rwa[c.newRow];repeat(first|refine wpAny_loadPart_at b ?_|(refine wpAny_isSubtype_exc b ?_;rw[a])|refine wpAny_staticBase_exc b ?_|refine wpAny_madeBy_exc b ?_|with_reducible refine wpAny_ite_false (by rewrite[bne_self_eq_false];rfl) ?_|with_reducible refine aF (wpAny_ite_false (by rw[bne_self_eq_false];rfl) ?_)|wp_step)
 exact f
end
section
variable{d:Drawn}
variable{q:Str}{C:Addr}{sub:List Value}{k0 k1 k2 k3 k5:Option Value}
theorem Ax(mo:vM C bm)(b:h.get? C=some (excClassObj nm q C N bs bm hdct sn sub ab col dd k0 k1 k2 k3 k5 "Exception.__new__"))(l:R (.ok (.ret (.ref (h.objs.size+1)))) ⟨(h.push {cls:=.type "tuple",data:=.seq rest.toArray}).push {cls:=.ref C,data:=.fields #[.ref h.objs.size,.none,.none,.none,.bool false,.none]},g,d,t,B⟩)(c:rest.length<=sizeLine):codeAny (model prog w) A (.builtin "Exception.__new__" ⟨.ref C::rest,[]⟩) R ⟨h,g,d,t,B⟩:=by
 have a:=PySem.F.excBase_Exception;have e:=a.ends;have f:=mo.exc;have i:=mo.dW;have j:=mo.Kx;refine codeAny_builtinAt a.entry ?_;unfold Builtin.«BaseException.__new__»;refine PySem.wpAt_bind ?_;show PySem.wpAt _ _ _ (stack>>=_) _ _ _;refine PySem.wpAt_bind (PySem.wpAt_stack λp k=>PySem.wpAt_of_wpAny ?_);wp_walk;refine PySem.wpAt_of_wpAny ?_;rwa[a.owner];repeat(first|with_reducible refine wpAny_madeHere_exc a.canon b ?_|with_reducible refine wpAny_loadPart_at b ?_|(with_reducible refine wpAny_isSubtype_exc b ?_;first|rw[f]|rw[i]|rw[j])|wp_step)
 show R _ _;rw[Heap.size_push];exact l
theorem HF(mo:vM C bm){m:Addr}{n:Obj}{Q:Po}(i:h.get? C=some (excClassObj nm q C N bs bm hdct sn sub ab col dd k0 k1 k2 k3 k5 "Exception.__new__"))(hi:Looks (model prog w) h (typeLookup (.ref C) "__init__") (some (.ref m)))(p:h.get? m=some n)(s:n.cls=.type "function")(D:∀Z e,Heap.MadeExcOf h Z e (.ref C) rest->codeAny (model prog w) (A.under (.builtin "type.__call__" ⟨.ref C::rest,[]⟩)) (.call (.ref m) ⟨.ref e::rest,[]⟩) (λr s'=>match r with|.ok (.ret v)=>v=.none/\Q (.ref e) s'|.ok _=>False|.error x=>E x s') ⟨Z,g,d,t,B⟩)(j:rest.length<=sizeLine):wpAny (model prog w) A (call (.ref C) rest) Q E ⟨h,g,d,t,B⟩:=by
 have f1:=tc_lookup;have f2:=tc_bind (.ref C);have G:(⟨h,g,d,t,B⟩:Shared).TypeIs (.ref C) "type":=⟨_,i,rfl⟩;refine wpAny_call (codeAny_of_tree ?_);show wpAny _ _ (callAny (.ref C) _) _ _ _;repeat(any_goals(first|assumption|with_reducible refine wpAny_loadPart_at i ?_|wp_step))
 refine⟨rfl,?_⟩;refine codeAny_call_builtin_at (Code.quiet_builtin _ (by decide+kernel)) entry_typeCall (wpAny_check_type_call_sub i ?_);repeat(first|with_reducible refine wpAny_loadPart_at i ?_|with_reducible refine wpAny_madeBy_exc i ?_|wp_step)
 refine codeAny_call_builtin_code (Code.quiet_builtin _ PySem.F.excBase_Exception.quiet) (DJ mo i ?_);refine Ax mo i ?_ j;show wpAny (model prog w) (A.under (.builtin "type.__call__" ⟨.ref C::rest,[]⟩)) _ _ _ ⟨(h.push {cls:=.type "tuple",data:=.seq rest.toArray}).push {cls:=.ref C,data:=.fields #[.ref h.objs.size,.none,.none,.none,.bool false,.none]},g,d,t,B⟩;have c:=dJ {cls:=.ref C,data:=.fields #[.ref h.objs.size,.none,.none,.none,.bool false,.none]} (dJ {cls:=.type "tuple",data:=.seq rest.toArray} i);have a:=dJ {cls:=.ref C,data:=.fields #[.ref h.objs.size,.none,.none,.none,.bool false,.none]} (dJ {cls:=.type "tuple",data:=.seq rest.toArray} p);have l:=hi.keeps (h':=(h.push {cls:=.type "tuple",data:=.seq rest.toArray}).push {cls:=.ref C,data:=.fields #[.ref h.objs.size,.none,.none,.none,.bool false,.none]}) λb o e=>dJ _ (dJ _ e);have f:((h.push {cls:=.type "tuple",data:=.seq rest.toArray}).push {cls:=.ref C,data:=.fields #[.ref h.objs.size,.none,.none,.none,.bool false,.none]}).get? (h.objs.size+1)=some {cls:=.ref C,data:=.fields #[.ref h.objs.size,.none,.none,.none,.bool false,.none]}:=by heap_get
 have u:(Value.ref C::bm).contains (.ref C)=true:=by simp
 generalize y:(h.push {cls:=.type "tuple",data:=.seq rest.toArray}).push {cls:=.ref C,data:=.fields #[.ref h.objs.size,.none,.none,.none,.bool false,.none]}=bB at c a l f⊢;have H:Looks (model prog w) bB (typeOf (.ref (h.objs.size+1))) (.ref C):=(Looks.ld f).andThen .now;have I:Looks (model prog w) bB (isSubtype (.ref C) (.ref C)) true:=λA Q E⟨_,_,_,_,_⟩k q=>wpAny_isSubtype_exc (k _ _ c) (by rwa[u];exact q);have J:Looks (model prog w) bB (bindSpecial (.ref m) (.ref (h.objs.size+1))) (.ref m,[.ref (h.objs.size+1)]):=by unfold bindSpecial;exact((Looks.ld a).andThen (by show Looks (model prog w) bB (pure n.cls) (.type "function");rwa[s];exact .now)).andThen (Looks.of_pure (by kernel_rfl))
 unfold isInstance callSpecial? specialOf;repeat(first|with_reducible refine wpAny_call ?_|lk)
 refine codeAny_mono (D bB (h.objs.size+1) ⟨λb o hb=>?_,Heap.get?_none_of_le (Nat.le_succ _),h.objs.size,f,Heap.get?_none_of_le (Nat.le_refl _),?_⟩) λr s' z=>?_;·refine cM y ?_;exact dJ _ (dJ _ hb)
 ·refine cM y ?_;exact dJ _ (Heap.get?_push_at rfl rfl)
 ·rcases r with e|(v|_|_|_)<;>first|exact z|exact z.elim|skip
  refine oA z ?_;clear z;intro aG z;subst aG;exact a_ (a_ z)
end
variable{K:Frag}
section
open Builtin Builtin.ObjectAttr
noncomputable def gG:List Value->Bool
 |.ref _::r=>gG r
 |l=>l==[.type "Exception",.type "BaseException",.type "object"]
theorem oK:∀{l:List Value},gG l=true->l=[.type "Exception",.type "BaseException",.type "object"]\/∃c r,l=.ref c::r/\gG r=true
 |.ref c::r,e=>.inr ⟨c,r,rfl,e⟩
 |[],e=>.inl (c_.mp e)
 |.type _::_,e=>.inl (c_.mp e)
 |.none::_,e=>.inl (c_.mp e)
 |.bool _::_,e=>.inl (c_.mp e)
 |.int _ _::_,e=>.inl (c_.mp e)
 |.float _ _::_,e=>.inl (c_.mp e)
 |.str _ _::_,e=>.inl (c_.mp e)
 |.bytes _ _::_,e=>.inl (c_.mp e)
 |.ellipsis::_,e=>.inl (c_.mp e)
 |.notImplemented::_,e=>.inl (c_.mp e)
 |.builtin _::_,e=>.inl (c_.mp e)
theorem LB(self:Value){l:List Value}(e:gG l=true):refuseLoop self "__setattr__" l=pure ():=by
 induction l with
 |nil=>cases e
 |cons v r a=>
  rcases oK e with q|⟨c,d,q,b⟩;·rwa[q];exact PySem.F.store_Exception.passes self
  ·clear e;cases q;rw[refuseLoop_ref];exact a b
theorem v_{l:List Value}(e:gG l=true){x:String}(a:([.type "Exception",.type "BaseException",.type "object"]:List Value).contains (.type x)=true):l.contains (.type x)=true:=by
 induction l with
 |nil=>cases e
 |cons v r b=>
  rcases oK e with q|⟨c,f,q,d⟩;·rwa[q];exact a
  ·clear e;cases q;rwa[List.contains_cons];rwa[b d];rewrite[Bool.or_true];rfl
theorem AZ{l:List Value}(e:gG l=true){x:String}(a:([.type "Exception",.type "BaseException",.type "object"]:List Value).contains (.type x)=false):l.contains (.type x)=false:=by
 induction l with
 |nil=>cases e
 |cons v r b=>
  rcases oK e with q|⟨c,f,q,d⟩;·rwa[q];exact a
  ·clear e;cases q;rwa[List.contains_cons];rwa[b d];rfl
theorem pV{C:Addr}(e:gG bm=true):vM C bm:=have a:gG (.ref C::bm)=true:=e;⟨v_ a (by decide+kernel),v_ a (by decide+kernel),AZ a (by decide+kernel),AZ a (by decide+kernel)⟩
inductive XA(K:Frag)(C:Addr):Prop
 |mk nm q N bs bm sn sub ab col dd k0 k1 k2 k3 k5:K.lookup C=some (excClassObj nm q C N bs bm true sn sub ab col dd k0 k1 k2 k3 k5 "Exception.__new__")->gG bm=true->XA K C
inductive XD(K:Frag)(C:Addr)(h:Heap):Prop
 |mk nm q N bs bm sn sub ab col dd k0 k1 k2 k3 k5:h.get? C=some (excClassObj nm q C N bs bm true sn sub ab col dd k0 k1 k2 k3 k5 "Exception.__new__")->gG bm=true->
  ∀cd,clsIn K C=some cd->gG cd.mro=true->cd.hasDict=true->cd.mro=.ref C::bm->XD K C h
structure jJ(F:Fix)(C:Addr):Prop where
 obj:XA (F.K C) C
 setattr:findIn (F.K C) (.ref C) "__setattr__"=some (some (.builtin "object.__setattr__"))
 m5:findIn (F.K C) (.ref C) "__getattribute__"=some (some (.builtin "BaseException.__getattribute__"))
 getattr:findIn (F.K C) (.ref C) "__getattr__"=some none
 attrs:∀x∈([("message":Str),"spot","kind"]:List Str),findIn (F.K C) (.ref C) x=some none
 keep:keepIn (F.K C) (.ref C)=true
section
variable{C x:Addr}{cd:ClassData}
theorem DZ{g:Obj}{od:Option Obj}{name:Str}{v:Value}(X:K.In s.heap)(I:InstAt s.heap x g C od)(c:clsIn K C=some cd)(ho:gG cd.mro=true)(i:findIn K (.ref C) name=some none)(h:∀b,wpAny (model prog w) A.in1 (storeInOwnDict (.ref x) (.ref C) (.str name tk) name v b) (λfin s'=>match fin with|.done f=>R (.ok f) s'|.again d=>d.quiet=true/\codeAny (model prog w) A d R s') (λe s'=>R (.error e) s') s):codeAny (model prog w) A (.call (.builtin "object.__setattr__") ⟨[.ref x,.str name tk,v],[]⟩) R s:=by
 have a:=PySem.F.store_object;have ne:cd.mro.isEmpty=false:=by cases q:cd.mro with|nil=>rw[q]at ho;cases ho|cons _ _=>rfl
 have sub:Looks (model prog w) s.heap (isInstance (.ref x) (.type "object")) true:=I.type.andThen (looks_mroIn X (by unfold mroIn;rwa[c];rw[Option.bind_some];rwa[aH (by rwa[ne];decide)];rwa[v_ ho (by decide+kernel)];rfl));refine codeAny_call_builtin a.slot.plain a.entry (@check_slot (model prog w) _ _ s "object.__setattr__" "object" "__setattr__" (.ref x) [.str name tk,v] [] _ a.kind a.split sub (a.args (.ref x) (.str name tk) v) ?_);have hm:Looks (model prog w) s.heap (mroOf (.ref C)) cd.mro:=(looks_clsIn X c).andThen .now;rw[osa_eq,refuse_eq];refine aF (aF (I.type.here (aF (hm.here ?_))));rwa[LB _ ho];refine a_ (aF (I.type.here (aF ((looks_findIn X i).here (aF (a_ ?_))))));exact h _
end
section
variable{C e:Addr}
theorem jJ.data(O:cA F)(X:jJ F C)(hb:F.base.StaysIn h):XD (F.K C) C h:=by obtain⟨nm,q,N,bs,bm,sn,sub,ab,col,dd,k0,k1,k2,k3,k5,ho,hm⟩:=X.obj;refine⟨nm,q,N,bs,bm,sn,sub,ab,col,dd,k0,k1,k2,k3,k5,hb _ _ (O.iO _ _ _ ho),hm,_,by unfold clsIn;rwa[ho];rfl,hm,rfl,rfl⟩
theorem U5(O:cA F)(k:jJ F C){x:Str}{v:Value}(s:x∈([("message":Str),"spot","kind"]:List Str))(R:Lu F U H (.obj e oe::Θ) h)(l:oe.cls=.ref C)(m:oe.dict=none)(c:oe.data=.fields vs)(w:∀Z t' dx,aZ h Z->Lu F U H (.obj e {oe with dict:=some dx}::.ns dx (λy=>if y=x then some v else none)::Θ) Z->sC Z dx (λy=>if y=x then some v else none) 1->Q () ⟨Z,g,u,t',B⟩):wpAny F.mo A (PySem.setAttr (.ref e) x v) Q E ⟨h,g,u,t,B⟩:=by
 obtain⟨nm,q,N,bs,bm,sn,sub,ab,col,dd,k0,k1,k2,k3,k5,hC,hm,cd,i,ho,d,z⟩:=k.data O R.stays;have X:=R.iO O (b:=C);have he:=(R.dS _ (aE)).1;change h.get? e=some oe at he;have I:InstAt h e oe C none:=⟨he,l,by unfold notCls;rwa[c];rfl,by rwa[m];trivial⟩;refine set_plain X I k.setattr (DZ X I i ho (k.attrs x s) λb=>?_);refine aF (a_ (aF (aF (wpAny_loadPart he (?_)))));clear I;obtain⟨oc,D,G,j⟩:=oe;dsimp only at l m c;subst l m c;dsimp only;refine aF ((looks_clsIn X i).here ?_);rwa[d];rwa[aH (by decide)];rwa[aH (by simp[typeHasDict])];refine aF (wpAny_alloc' ?_);have k1:Keeps h (h.push emptyDict):=λb o e=>dJ _ e;have f:=k1 _ _ he;refine aF (wpAny_update' f ?_);refine a_ (a:=some h.objs.size) ?_;dsimp only;have J:(h.push emptyDict).Ns h.objs.size (λz9=>none):=Heap.Ns.new h (.type "dict");have K:=R.j2 (p:=.ns h.objs.size λz9=>none) k1 gE J;have L:((h.push emptyDict).update e λo=>{cls:=o.cls,dict:=some h.objs.size,data:=o.data,slots:=o.slots}).get? e=some {cls:=.ref C,dict:=some h.objs.size,data:=.fields vs,slots:=j}:=Heap.get?_update_self _ f rfl;refine oA ((K.perm (List.Perm.swap _ _ _)).gM (p':=.obj e {cls:=.ref C,dict:=some h.objs.size,data:=.fields vs,slots:=j}) (Heap.SameBut.update ..) f (fR rfl (by simp)) rfl L) λM P=>?_;have r:=M.perm (List.Perm.swap _ _ _);have n:=(r.dS _ (aE)).1;change Heap.Ns _ _ _ at n;have T:sC ((h.push emptyDict).update e λo=>{cls:=o.cls,dict:=some h.objs.size,data:=o.data,slots:=o.slots}) h.objs.size (λz9=>none) 0:=by refine⟨n,emptyDict,#[],0,?_,rfl,Nat.le_refl _⟩;exact(Heap.get?_update_ne _ _ _ _ (Nat.ne_of_lt (Heap.lt_size he)).symm).trans (Heap.get?_push_at rfl rfl)
 unfold storeInDict newKeyGuard;refine aF (a_ (aF (pD T λZ N' S=>?_)));refine eS (id N'.2) λo' V W Y w2 w3=>?_;refine aF (wpAny_lookBehind Y (by rwa[w2];exact pastItsLine_dict (by rwa[d7];simp at w3;lia)) ?_);refine a_ ?_;refine eS (id n) λb6 b7 b8 y1 y2 _=>?_;refine oA (r.gM (p':=.ns h.objs.size λy=>if y=x then some v else none) S y1 (eN y2) rfl N'.1) λR4 I4=>?_;exact w Z _ _ ((aZ.of_keeps k1).trans (P.trans I4)) (R4.perm (List.Perm.swap _ _ _)) N'
theorem HP(O:cA F)(o:jJ F C){x:Str}{v:Value}(G:x∈([("message":Str),"spot","kind"]:List Str))(R:Lu F U H (.obj e oe::.ns dx m::Θ) h)(p:oe.cls=.ref C)(r:oe.dict=some dx)(c:oe.data=.fields vs)(J:sC h dx m n)(Y:n<=100)(K:∀Z t',aZ h Z->Lu F U H (.obj e oe::.ns dx (λy=>if y=x then some v else m y)::Θ) Z->sC Z dx (λy=>if y=x then some v else m y) (n+1)->Q () ⟨Z,g,u,t',B⟩):wpAny F.mo A (PySem.setAttr (.ref e) x v) Q E ⟨h,g,u,t,B⟩:=by obtain⟨nm,q,N,bs,bm,sn,sub,ab,col,dd,k0,k1,k2,k3,k5,hC,hm,cd,f,ho,d,L⟩:=o.data O R.stays;have X:=R.iO O (b:=C);have he:=(R.dS _ (aE)).1;change h.get? e=some oe at he;have i:=(R.dS _ (aC (aE))).1;change h.Ns dx m at i;refine eS (id i) λod es ep j s _=>?_;have I:InstAt h e oe C (some od):=⟨he,p,by unfold notCls;rwa[c];rfl,by rwa[r];exact j⟩;refine set_plain X I o.setattr (DZ X I f ho (o.attrs x G) λb=>?_);refine aF (a_ (aF (aF (wpAny_loadPart he (?_)))));clear he I;obtain⟨oc,M,P,T⟩:=oe;dsimp only at p r c;subst p r c;dsimp only;refine aF ((looks_clsIn X f).here ?_);rwa[d];rwa[aH (by decide)];refine a_ (a:=some dx) ?_;dsimp only;unfold storeInDict newKeyGuard;refine aF (a_ (aF (pD J λZ N' S=>?_)));refine eS (id N'.2) λo' k l w z D=>?_;refine aF (wpAny_lookBehind w (by rwa[z];exact pastItsLine_dict (by rwa[d7];split at D<;>lia)) ?_);refine a_ ?_;refine oA ((R.perm (List.Perm.swap _ _ _)).gM (p':=.ns dx λy=>if y=x then some v else m y) S j (eN s) rfl N'.1) λV W=>?_;refine K Z _ W (V.perm (List.Perm.swap _ _ _)) ⟨N'.1,?_⟩;refine eS (N'.2) λo' k l w z D=>?_;exact⟨o',k,l,w,z,by split at D<;>(first|with_reducible assumption|lia)⟩
end
end
variable{b:List (Str×Value)}{Y:List Str}
section
theorem Lu.Q8{new:List bA}(R:Lu F U H Θ h)(k:Keeps h Z)(e:∀p∈new,h.get? p.addr=none)(q:∀p∈new,p.At Z)(nd:(new.map bA.addr).Nodup):Lu F U H (new++Θ) Z:=by
 have fr:∀p∈new,F.base.get? p.addr=none/\(∀x∈Θ,x.addr≠p.addr):=λp hp=>R.fresh (e p hp);have g:=R.keeps k;obtain⟨s,l,⟨own,o1,o2,r⟩,f,pr⟩:=R;have same:∀b,(∃o,h.get? b=some o)->Z.get? b=h.get? b:=λb⟨o,e⟩=>(k b o e).trans e.symm;refine⟨g.stays,l,⟨own,λb hb=>⟨(o1 b hb).1,let⟨o,e⟩:=(o1 b hb).2;⟨o,k _ _ e⟩⟩,λp hp=>?_,λn vo t=>?_⟩,?_,λp hp=>?_⟩
 ·rcases fL.mp hp with hp|hp
  ·cases z:own p.addr with
   |none=>rfl
   |some x=>refine oA (o1 p.addr (by rwa[z];simp)) λ_ c=>?_;refine oE c ?_;clear c;intro ob i;rw[e p hp]at i;exact dW i
  ·exact o2 p hp
 ·refine cY (r n vo t) λa e1 j u=>?_;exact⟨a,e1,j,u.move aQ (aZ.of_keeps k) (same a (o1 a (by rwa[j];simp)).2) λd v=>same d (o1 d (by rwa[v];simp)).2⟩
 ·rwa[eZ];rw[List.nodup_append];refine⟨nd,f,λa m b hb=>?_⟩;refine aW (c7.mp m) λp hp cB=>?_;clear m;subst cB;refine aW (c7.mp hb) λx w aG=>?_;clear hb;subst aG;exactλz=>(fr p hp).2 x w z.symm
 ·rcases fL.mp hp with hp|hp;·exact⟨q p hp,(fr p hp).1⟩
  ·exact g.dS p hp
theorem O_{s:Str}{e:Addr}(Fr:eY A L Θ)(x:Mu F U H Θ h L c s e)(hf:J.frame=some L)(p:∀Z,aZ h Z->(∀L',Mu F U H Θ Z L' c s e)->Q () ⟨Z,g,u,t₀,B⟩):wpAny F.mo A (leaving J (.ref e)) Q E ⟨h,g,u,t₀,B⟩:=by refine aW x ?_;clear x;intro X R x;unfold leaving;refine aF (vL Fr R x hf λZ C oe dx m vs t T oT ts I R q r k n hk o b a v=>?_);have d:=(Array.getElem?_eq_some_iff.mp v).1;have he:=(R.dS _ (aC (aE))).1;have j:=(R.dS _ (aE)).1;change _=some oe at he;change _=some oT at j;unfold setFlight;refine aF (wpAny_field he n o ?_);rwa[aI (show(Value.ref T !=Value.none)=true from by simp)];refine wpAny_setField j a d ?_;refine fN (nN j a 3 .none) λl w D y z=>?_;refine oA (R.gM (p':=.obj T l) (Heap.SameBut.update ..) j (fR a (by rwa[b];simp)) rfl z) λf i=>?_;exact p _ (I.trans i) λL'=>⟨_,f,.old q r k n hk o (w.trans b) y (.inl (by simp[d]))⟩
theorem oH:∀{cs:List (Str×Addr)}{n:Str}{c:Addr},(cs.map (·.1)).Nodup->(n,c)∈cs->cs.lookup n=some c
 |(k,v)::r,n,c,nd,hm=>by
  rw[bX,dF]at nd;rwa[fA];rcases bV.mp hm with e|hr;·clear nd hm;have a:=(Prod.mk.inj e).1;have b:=(Prod.mk.inj e).2;subst a;subst b;simp
  ·have:(n==k)=false:=by rw[beq_eq_false_iff_ne];intro e;exact nd.1 (c7.mpr ⟨(n,c),hr,e⟩)
   rwa[this];exact oH nd.2 hr
theorem cellsFrom_names(names:Sc):∀(n:Nat)(acc:List (Str×Addr))(x:Str),(∃c,(x,c)∈cellsFrom n names acc)↔((x,NameKind.cell)∈names\/∃c,(x,c)∈acc):=by
 induction names with
 |nil=>intro n acc x;exact⟨.inr,λh=>h.elim (λh=>by cases h) id⟩
 |cons p r g=>
  intro n acc x;obtain⟨y,k⟩:=p;by_cases hk:(k==NameKind.cell)=true
  ·rwa[show cellsFrom n ((y,k)::r) acc=cellsFrom (n+1) r ((y,n)::acc)from aI hk];rw[g];rwa[c_.mp hk];constructor
   ·rintro(a|⟨c,b⟩);·exact .inl (aC a)
    ·rcases bV.mp b with e|b;·clear b;have d:=(Prod.mk.inj e).1;have f:=(Prod.mk.inj e).2;subst d;subst f;exact .inl (aE)
     ·exact .inr ⟨c,b⟩
   ·rintro(a|⟨c,b⟩)
    ·rcases bV.mp a with e|a;·clear a;have d:=(Prod.mk.inj e).1;have f:=(Prod.mk.inj e).2;subst d;cases f;exact .inr ⟨n,aE⟩
     ·exact .inl a
    ·exact .inr ⟨c,aC b⟩
  ·rwa[show cellsFrom n ((y,k)::r) acc=cellsFrom n r acc from aH hk];rw[g];exact or_congr_left ⟨.tail _,λa=>(bV.mp a).elim (λe=>by clear a;have d:=(Prod.mk.inj e).1;have f:=(Prod.mk.inj e).2;subst d;subst f;exact aV rfl hk) id⟩
theorem qJ(names:Sc):∀(n:Nat)(acc:List (Str×Addr)),(names.map (·.1)).Nodup->(acc.map (·.1)).Nodup->(∀x c k,(x,c)∈acc->(x,k)∉names)->((cellsFrom n names acc).map (·.1)).Nodup:=by
 induction names with
 |nil=>intro n acc _ nd _;exact nd
 |cons p r f=>
  intro n acc a nd b;obtain⟨y,k⟩:=p;rw[bX,dF]at a;by_cases hk:(k==NameKind.cell)=true
  ·rwa[show cellsFrom n ((y,k)::r) acc=cellsFrom (n+1) r ((y,n)::acc)from aI hk];refine f (n+1) _ a.2 ?_ ?_;·rwa[bX];rw[dF];refine⟨λhm=>?_,nd⟩;refine aW (c7.mp hm) λz g e=>?_;exact b z.1 z.2 k g (e▸aE)
   ·intro x c d hm hr;rcases bV.mp hm with e|hm;·clear b hm;have h:=(Prod.mk.inj e).1;have i:=(Prod.mk.inj e).2;subst h;subst i;exact a.1 (c7.mpr ⟨_,hr,rfl⟩)
    ·exact b x c d hm (aC hr)
  ·rwa[show cellsFrom n ((y,k)::r) acc=cellsFrom n r acc from aH hk];exact f n acc a.2 nd λx c d hm hr=>b x c d hm (aC hr)
theorem J0(a:Str->Option NameKind)(x:Str)(b:List (Str×Value)):∀(m:Str->Option Value),x∉b.map (·.1)->bindL a b m x=m x:=by
 induction b with
 |nil=>intro m h;rfl
 |cons p r c=>
  intro m h;obtain⟨n,v⟩:=p;rw[bX,bV,not_or]at h;refine(c _ h.2).trans ?_;by_cases q:a n=some .local;·rwa[aI q];exact aH h.1
  ·rwa[aH q];rfl
theorem J8(a:Str->Option NameKind)(x:Str)(b:List (Str×Value)):∀(m:Str->Option Value),x∉b.map (·.1)->bindC a b m x=m x:=by
 induction b with
 |nil=>intro m h;rfl
 |cons p r c=>
  intro m h;obtain⟨n,v⟩:=p;rw[bX,bV,not_or]at h;refine(c _ h.2).trans ?_;by_cases q:a n=some .local;·rwa[aI q];rfl
  ·rwa[aH q];exact aH h.1
theorem L8{a:Str->Option NameKind}{x:Str}(hk:a x=some .local):∀(m:Str->Option Value),(b.map (·.1)).Nodup->(x,y)∈b->bindL a b m x=some y:=by
 induction b with
 |nil=>intro m nd hm;cases hm
 |cons p r c=>
  intro m nd hm;obtain⟨n,v⟩:=p;rw[bX,dF]at nd;rcases bV.mp hm with e|hm;·clear hm;have d:=(Prod.mk.inj e).1;have f:=(Prod.mk.inj e).2;subst d;subst f;refine(J0 a x r _ nd.1).trans ?_;rwa[aI hk];exact aI rfl
  ·exact c _ nd.2 hm
theorem MW{a:Str->Option NameKind}{x:Str}(hk:a x≠some .local):∀(m:Str->Option Value),(b.map (·.1)).Nodup->(x,y)∈b->bindC a b m x=some y:=by
 induction b with
 |nil=>intro m nd hm;cases hm
 |cons p r c=>
  intro m nd hm;obtain⟨n,v⟩:=p;rw[bX,dF]at nd;rcases bV.mp hm with e|hm;·clear hm;have d:=(Prod.mk.inj e).1;have f:=(Prod.mk.inj e).2;subst d;subst f;refine(J8 a x r _ nd.1).trans ?_;rwa[aH hk];exact aI rfl
  ·exact c _ nd.2 hm
theorem wJ:∀(ds vs:List V){loc:Loc},lQ Y ds vs=some loc->loc.map (·.1)=Y:=by
 induction Y with
 |nil=>
  intro ds vs loc e
  induction vs using List.casesOn with
  |nil=>have a:=aM e;subst a;rfl
  |cons v vs=>cases e
 |cons p Y g=>
  have c:∀(ds vs:List V)(d:V){loc:Loc},(lQ Y ds vs).map ((p,d)::·)=some loc->loc.map (·.1)=p::Y:=by
   intro ds vs d loc e
   cases b:lQ Y ds vs with
   |none=>rw[b]at e;cases e
   |some l=>rw[b]at e;have a:=aM e;subst a;exact congrArg (p::·) (g _ _ b)
  intro ds vs loc e
  induction vs using List.casesOn with
  |cons v vs=>exact c _ _ v e
  |nil=>
   have e:(match ds.drop (ds.length-(p::Y).length)with
    |d::_=>if(p::Y).length<=ds.length then(lQ Y ds []).map ((p,d)::·)else none
    |[]=>none)=some loc:=e
   cases f:ds.drop (ds.length-(p::Y).length)with
   |nil=>rw[f]at e;exact dW e
   |cons d r=>
    rw[f]at e;by_cases q:(p::Y).length<=ds.length;·exact c _ _ d ((aI q).symm.trans e)
    ·cases(aH q).symm.trans e
theorem oS.names(r:oS F U h loc b):b.map (·.1)=loc.map (·.1):=by
 induction r with
 |nil=>rfl
 |cons _ _ a=>simp[a]
theorem oS.get(r:oS F U h loc b){x:Str}(e:aU x loc=some v):∃y,(x,y)∈b/\RV F U h v y:=by
 induction r with
 |nil=>cases e
 |@cons y _ _ _ _ a _ c=>
  rw[jN]at e;by_cases q:y=x;·clear c;cases(aI q).symm.trans e;exact⟨_,q▸aE,a⟩
  ·refine aW (c ((aH q).symm.trans e)) λy d f=>?_;exact⟨y,aC d,f⟩
end
structure WN(F:Fix)(D:Def)(f:Addr)(Θ:List bA)(U:List Addr)(H:VH)(h:Heap)(binds:List (Str×Value))(J:Env)(bB:Heap)(m:Str->Option Value)(own:List bA):Prop where
 yO:aZ h bB
 frame:J.frame=some J.locals
 names:J.scope.names=D.sc
 kind:J.scope.kind=.function
 glob:J.globals=mainGlobals
 blt:J.builtins=builtinsNs
 cells:J.cells=cellsFrom (h.objs.size+1) D.sc []
 R:Lu F U H (own++Θ) bB
 W:iA J D.sc own
 head:∃r,own=.ns J.locals m::r/\r.length=J.cells.length
 loc:∀x y,(x,y)∈binds->D.sc.lookup x=some .local->m x=some y
 cell:∀x y,(x,y)∈binds->D.sc.lookup x=some .cell->∃c,J.cells.lookup x=some c/\bA.cell c (some y)∈own
 size:J.locals=h.objs.size
variable{R₀:Result->Shared->Prop}
section
theorem HT(O:cA F){f:Addr}{binds:List (Str×Value)}{fd:FuncData}(M:kD F D f)(ho:F.base.get? f=some o)(i:o.data=.func fd)(w:A.depth<recursionLimit)(R:Lu F U H Θ h)(hB:BindsTo ⟨h,g,u,t,B⟩ fd ⟨xs,[]⟩ binds)(hn:binds.map (·.1)=D.params)(go:∀J bB jU m own,WN F D f Θ U H h binds J bB m own->wpAny F.mo (A.deeper J) (execs D.body J) (λf s'=>R₀ (.ok (.ret (match f with|.ret v=>v|_=>.none))) s') (λe s'=>wpAny F.mo (A.deeper J) (leaving J e) (λz9 C=>R₀ (.error e) C) (λX C=>R₀ (.error X) C) s') ⟨bB,g,u,jU,B⟩):codeAny F.mo A (.call (.ref f) ⟨xs,[]⟩) R₀ ⟨h,g,u,t,B⟩:=by
 obtain⟨o',c6,N,d,E,G,b,j,Y,P,Q,I,S,_⟩:=M.fd;rw[ho]at N;clear a;have zz:=aM N;subst zz;rw[i]at d;cases d;refine codeAny_call_function (body:=D.body) w (R.stays _ _ ho) i Y P E (G.keeps R.stays) (hB _ _ _ _ ?_);rwa[Q];have K:∀x,D.sc.lookup x=some .cell->∃c,(cellsFrom (h.objs.size+1) fd.scope.names []).lookup x=some c:=λx Z=>by rwa[b];refine oE ((cellsFrom_names D.sc (h.objs.size+1) [] x).mpr (.inl (nL Z))) λc L=>?_;exact⟨c,oH (qJ D.sc _ [] M.XV (by simp) (by simp)) L⟩
 have b6:∀x∈binds,fd.scope.names.lookup x.1=some .local\/(fd.scope.names.lookup x.1=some .cell/\((cellsFrom (h.objs.size+1) fd.scope.names []).lookup x.1).isSome=true):=λx Z=>by
  have hp:x.1∈D.params:=by refine cM hn ?_;exact c7.mpr ⟨_,Z,rfl⟩
  rcases(M.params x.1 hp).2.2 with n|n;·exact .inl (by rwa[b];exact n)
  ·refine oE (K x.1 n) λc L=>?_;exact .inr ⟨by rwa[b];exact n,by rwa[L];rfl⟩
 refine wpAny_newFunctionEnv_cells j b6 λJ he s' x=>?_;have hL:J.locals=h.objs.size:=by rwa[he];rfl
 have r:J.cells=cellsFrom (h.objs.size+1) D.sc []:=by rwa[he];refine cM b ?_;rfl
 have T:∀y,J.kindOf y=D.sc.lookup y:=λy=>by refine cM b ?_;rwa[he];rfl
 have s:=O.nolimit.keeps R.stays|>.keeps x.toInCall.keep;refine⟨s,codeAny_func ?_⟩;refine wU (x.toInCall.same) λbB jU b7=>?_;clear s;subst b7;have k:Keeps h bB:=x.toInCall.keep;have b8:=x.toInCall.ns;have nd:(J.cells.map (·.1)).Nodup:=by rwa[r];exact qJ D.sc _ [] M.XV (by simp) (by simp)
 have bn:(binds.map (·.1)).Nodup:=by rwa[hn];exact M.nodup
 have fresh:∀a,h.objs.size<=a->h.get? a=none:=λa ha=>Heap.get?_none_of_le ha
 have V:Lu F U H ((.ns J.locals (bindL J.kindOf binds λz9=>none)::J.cells.map λp=>bA.cell p.2 (bindC J.kindOf binds (λz9=>none) p.1))++Θ) bB:=by
  refine R.Q8 k (λp hp=>?_) (λp hp=>?_) ?_
  ·rcases bV.mp hp with rfl|hp;·exact fresh _ (by show h.objs.size<=J.locals;rwa[hL];exact Nat.le_refl _)
   ·refine aW (c7.mp hp) λq W cB=>?_;clear hp;subst cB;exact fresh _ (Nat.le_of_lt (by have:=x.above q.1 q.2 W;rw[hL]at this;exact this))
  ·rcases bV.mp hp with rfl|hp;·exact b8
   ·refine aW (c7.mp hp) λq W aG=>?_;clear hp;subst aG;exact x.cell q.1 q.2 (oH nd W)
  ·rwa[bX];rw[dF];rwa[List.map_map];refine⟨λhm=>?_,?_⟩;·refine aW (c7.mp hm) λq W e=>?_;have:=x.above q.1 q.2 W;have X:q.2=J.locals:=e;rw[X]at this;exact Nat.lt_irrefl _ this
   ·rw[List.nodup_iff_pairwise_ne,List.pairwise_map];exact x.apart.imp λb9=>b9
 refine go J bB jU (bindL J.kindOf binds λz9=>none) _ ⟨aZ.of_keeps k,by rwa[he];rfl,by rwa[he];exact b,by rwa[he];exact j,by rwa[he];exact I,by rwa[he];exact S,r,V,⟨⟨_,aE⟩,λy hy=>?_,λy z c hy h1 h2=>?_⟩,⟨_,rfl,by simp⟩,λy v hm n=>?_,λy v hm n=>?_,hL⟩
 ·refine oE (K y hy) λc L=>?_;have l:J.cells.lookup y=some c:=by rwa[r];refine cM b ?_;exact L
  exact⟨c,_,l,aC (c7.mpr ⟨(y,c),mem_of_lookup l,rfl⟩)⟩
 ·exact name_of_addr x.apart (mem_of_lookup h1) (mem_of_lookup h2)
 ·exact L8 (by rw[T];exact n) _ bn hm
 ·refine oE (K y n) λc L=>?_;have l:J.cells.lookup y=some c:=by rwa[r];refine cM b ?_;exact L
  refine⟨c,l,aC (c7.mpr ⟨(y,c),mem_of_lookup l,?_⟩)⟩;rwa[MW (by rw[T];rwa[n];simp) _ bn hm];rfl
theorem UP(O:cA F)(ie:uT F g u B (aA d) d 30):xX F g u B (aA (d+1)) (d+1):=by
 intro A Θ U H h t P k Q E fk D f vals xs hD FA c9 d6 b6 b7 OR R rs K X stuck w;replace w:P (oR (Lx fk) (S7 (aA d) vals H k)):=w;rw[hD]at w;refine eC (o:=lQ D.params D.qZ vals) stuck w λloc hb w=>?_;clear hD;obtain⟨o,fd,ho,l,_,_,_,_,_,_,_,_,_,n⟩:=FA.fd;refine aW (n ⟨h,g,u,t,B⟩ U vals xs loc R.stays rs hb) λbinds hB G=>?_;have hn:binds.map (·.1)=D.params:=by rwa[G.names];exact wJ _ _ hb
 refine HT O FA ho l (by have:recursionLimit=1000:=rfl;lia) R hB hn λJ bB jU m own T=>?_;refine aW OR ?_;clear OR;intro outer hf I
 have fr:eY (A.deeper J) J.locals (own++Θ):=by
  refine⟨J,outer,Around.frames_deeper hf,T.frame,λnJ he=>?_⟩;rcases bV.mp he with rfl|he;·refine aW (T.head) λr hr _=>?_;exact⟨by rwa[T.kind];simp,_,_,T.frame,bY _ (by rwa[hr];exact aE)⟩
  ·refine oA (I nJ he) λq1 M=>?_;refine sY M ?_;clear M;intro L m' q2 q3;exact⟨q1,L,m',q2,cG _ q3⟩
 have N:dG F J D.sc loc U bB (own++Θ):=by
  refine⟨T.names,T.kind,T.glob,T.blt,let⟨m,hm⟩:=T.W.ns;⟨m,bY _ hm⟩,λx S=>let⟨c,v,e,hm⟩:=T.W.cell x S;⟨c,v,e,bY _ hm⟩,λx v S=>?_⟩;refine aW (G.get S) λy hy ry=>?_;have hp:x∈D.params:=by refine cM hn ?_;exact c7.mpr ⟨_,hy,rfl⟩
  refine gB (FA.params x hp) λn1 n2 hk=>?_;refine⟨n1,n2,?_⟩;rcases hk with hk|hk;·rwa[hk];refine aW (T.head) λr hr _=>?_;exact⟨m,y,bY _ (by rwa[hr];exact aE),T.loc x y hy hk,ry.mono aQ T.yO⟩
  ·rwa[hk];refine aW (T.cell x y hy hk) λc hc hm=>?_;exact⟨c,y,hc,bY _ hm,ry.mono aQ T.yO⟩
 have C:Cx F d (A.deeper J) J J.locals D.sc loc U bB (own++Θ):=⟨by show A.depth+1+4*d+7<=700;lia,by show A.units+3+100*d+390<cLine;lia,b6,b7,fr,T.frame,N⟩;have a:∀{bG:List bA}{aO:List Addr}{z:VH}{Z:Heap},Lu F aO z (bG++Θ) Z->Lu F aO z Θ Z:=λ{bG}{aO}{z}{Z}V=>V.sub (λp hp=>cG _ hp) (by have:=V.nodup;rw[eZ,List.nodup_append]at this;exact this.2.1);refine yY @ie D.body C T.W T.R (λfl bL z aO Z t' bG fw p i s V N' rf b=>?_) ?_ stuck w
 ·cases rf with
  |next=>exact K _ _ _ _ _ _ p (T.yO.trans i) (a V) .none b
  |ret rv=>exact K _ _ _ _ _ _ p (T.yO.trans i) (a V) rv b
  |brk=>exact(stuck b).elim
  |cont=>exact(stuck b).elim
 ·intro c s z aO Z t' e bG p i so S b8;refine O_ (fr.same so) S T.frame λb9 c6 j=>?_;refine X c s z aO b9 t' e p (T.yO.trans (i.trans c6)) (λL'=>?_) b8;refine(j L').sub (λq hq=>cG _ hq) ?_;refine aW (j L') λY RY _=>?_;have nd:=RY.nodup;rw[eZ,List.nodup_append,eZ,List.nodup_append]at nd;exact nd.2.1.2.1
end
variable{newId:String}
section
variable{C e:Addr}
theorem CI{q:Str}{sub:List Value}{k0 k1 k2 k3 k5:Option Value}{d:Drawn}(mo:vM C bm)(j:h.get? C=some (excClassObj nm q C N bs bm hdct sn sub ab col dd k0 k1 k2 k3 k5 newId))(he:h.get? e=some oe)(c:oe.cls=.ref C)(k:Q () ⟨h,g,d,t,B⟩):wpAny M A (checkBuiltinCall "Exception.__init__" ⟨.ref e::rest,[]⟩) Q E ⟨h,g,d,t,B⟩:=by
 have F:=PySem.F.excBase_Exception;have i:=mo.exc;have f:=F.noStar;simp only[checkBuiltinCall,F.initKind,F.initSplit,F.initRow];repeat(first|(with_reducible refine wpAny_loadPart_at he ?_;rw[c])|with_reducible refine wpAny_loadPart_at j ?_|(with_reducible refine wpAny_isSubtype_exc j ?_;rw[i])|wp_step)
 refine wpAny_onRaise ?_;rw[show∀(a b:String)(n:Nat),Bind.check ⟨.positional,"*","Exception",.self,[⟨"args",.varPos,false⟩]⟩ a b n (List.map (λx=>x.fst) ({pos:=Value.ref e::rest}:Args).kw)=pure ()fromλa b n=>check_star_args _ _ _ _ _ _];exact a_ k
theorem OZ(O:cA F)(k:jJ F C){t0:Addr}{Q:Po}(R:Lu F U H (.obj e oe::Θ) h)(i:oe.cls=.ref C)(c:oe.data=.fields vs)(h0:vs[0]?=some (.ref t0))(l:∀Z t' a m,aZ h Z->Lu F U H (.obj e a::Θ) Z->a.cls=oe.cls->a.dict=oe.dict->a.data=.fields (vs.setIfInBounds 0 (.ref m))->Q .none ⟨Z,g,u,t',B⟩):wpAny F.mo A (call (.builtin "Exception.__init__") [.ref e,x]) Q E ⟨h,g,u,t,B⟩:=by
 obtain⟨nm,q,N,bs,bm,sn,sub,ab,col,dd,k0,k1,k2,k3,k5,n,hm,cd,p,ho,f,r⟩:=k.data O R.stays;have he:=(R.dS _ (aE)).1;change h.get? e=some oe at he;have j:=PySem.F.excBase_Exception;have k1:Keeps h (h.push {cls:=.type "tuple",data:=.seq [x].toArray}):=λb o e=>dJ _ e;have d:=k1 _ _ he;refine wpAny_call (codeAny_call_builtin j.init.plain j.initEntry (CI (pV hm) n he i ?_));repeat(first|with_reducible refine wpAny_field d c h0 ?_|with_reducible refine wpAny_setField d c (Array.getElem?_eq_some_iff.mp h0).1 ?_|wp_step)
 refine fN (nN d c 0 (.ref h.objs.size)) λa s v w y=>?_;refine oA ((R.keeps k1).gM (p':=.obj e a) (Heap.SameBut.update ..) d (fR c (by rwa[i];simp)) rfl y) λz D=>?_;exact l _ _ a _ ((aZ.of_keeps k1).trans D) z s v w
end
noncomputable def gY:Expr->Nat->Expr
 |.Call f as _ _,i=>match i with
  |0=>f
  |i+1=>as.getD i f
 |.Attribute o _ _,_=>o
 |.BinOp l _ r _,i=>match i with
  |0=>l
  |_=>r
 |e,_=>e
noncomputable def h_:Stmt->Nat->Expr
 |.Expr e _,_=>e
 |.Assign ts e _,i=>match i with
  |0=>ts.getD 0 e
  |_=>e
 |_,_=>.Name "" default
noncomputable def Jt:Expr->Nat
 |.Constant _ n _=>n
 |_=>0
def SE(c:Str):Def:=(Lx (.aL c "__init__")).getD ⟨[],[],[],[]⟩
def fQ(c:Str)(i:Nat):Stmt:=(SE c).body.getD i (.Pass default)
noncomputable abbrev NR:Sc:=[(("self":Str),.local),(("message":Str),.local),(("spot":Str),.local),(("Exception":Str),.globalImplicit)]
inductive TU:Prop
 |mk D:Lx (.aL "LendError" "__init__")=some D->D.params=[("self":Str),"message","spot"]->D.qZ=[.int 0]->D.sc=NR->
  ∀p1 p2 p3 p4 p5 p6 q1 q2 q3 q4 r1 r2 r3 r4,p2.endLine=p5.line->D.body=[.Expr (.Call (.Attribute (.Name "Exception" p1) "__init__" p2) [.Name "self" p3,.Name "message" p4] [] p5) p6,
   .Assign [.Attribute (.Name "self" q1) "message" q2] (.Name "message" q3) q4,.Assign [.Attribute (.Name "self" r1) "spot" r2] (.Name "spot" r3) r4]->TU
theorem DY:TU:=⟨SE "LendError",by kernel_rfl,by kernel_rfl,by kernel_rfl,by kernel_rfl,(gY (gY (h_ (fQ "LendError" 0) 0) 0) 0).pos,(gY (h_ (fQ "LendError" 0) 0) 0).pos,(gY (h_ (fQ "LendError" 0) 0) 1).pos,(gY (h_ (fQ "LendError" 0) 0) 2).pos,(h_ (fQ "LendError" 0) 0).pos,(fQ "LendError" 0).pos,(gY (h_ (fQ "LendError" 1) 0) 0).pos,(h_ (fQ "LendError" 1) 0).pos,(h_ (fQ "LendError" 1) 1).pos,(fQ "LendError" 1).pos,(gY (h_ (fQ "LendError" 2) 0) 0).pos,(h_ (fQ "LendError" 2) 0).pos,(h_ (fQ "LendError" 2) 1).pos,(fQ "LendError" 2).pos,by kernel_rfl,by kernel_rfl⟩
noncomputable abbrev IN:Sc:=[(("self":Str),.local),(("kind":Str),.local),(("message":Str),.local),(("LendError":Str),.globalImplicit)]
inductive MN:Prop
 |mk D:Lx (.aL "MachineFault" "__init__")=some D->D.params=[("self":Str),"kind","message"]->D.qZ=[]->D.sc=IN->
  ∀p1 p2 p3 p4 p5 p6 p7 p8 p9 pa n q1 q2 q3 q4,p2.endLine=p5.line->D.body=[.Expr (.Call (.Attribute (.Name "LendError" p1) "__init__" p2) [.Name "self" p3,.BinOp (.BinOp (.Name "kind" p4) .Add (.Constant (.str ": ") n pa) p7) .Add (.Name "message" p8) p9] [] p5) p6,
   .Assign [.Attribute (.Name "self" q1) "kind" q2] (.Name "kind" q3) q4]->MN
theorem A0:MN:=⟨SE "MachineFault",by kernel_rfl,by kernel_rfl,by kernel_rfl,by kernel_rfl,(gY (gY (h_ (fQ "MachineFault" 0) 0) 0) 0).pos,(gY (h_ (fQ "MachineFault" 0) 0) 0).pos,(gY (h_ (fQ "MachineFault" 0) 0) 1).pos,(gY (gY (gY (h_ (fQ "MachineFault" 0) 0) 2) 0) 0).pos,(h_ (fQ "MachineFault" 0) 0).pos,(fQ "MachineFault" 0).pos,(gY (gY (h_ (fQ "MachineFault" 0) 0) 2) 0).pos,(gY (gY (h_ (fQ "MachineFault" 0) 0) 2) 1).pos,(gY (h_ (fQ "MachineFault" 0) 0) 2).pos,(gY (gY (gY (h_ (fQ "MachineFault" 0) 0) 2) 0) 1).pos,Jt (gY (gY (gY (h_ (fQ "MachineFault" 0) 0) 2) 0) 1),(gY (h_ (fQ "MachineFault" 1) 0) 0).pos,(h_ (fQ "MachineFault" 1) 0).pos,(h_ (fQ "MachineFault" 1) 1).pos,(fQ "MachineFault" 1).pos,by kernel_rfl,by kernel_rfl⟩
structure jE(F:Fix):Prop where
 lend:∃C D f,F.mg "LendError"=some (.ref C)/\Lx (.aL "LendError" "__init__")=some D/\kD F D f/\readsIn (F.K C) C (.type "type")=true/\PySem.W.findCls (F.K C) (.ref C) (.type "type") "__init__"=some (.val (.ref f))/\
  specialIn (F.K C) (.ref C) "__getattribute__"=some (some (.builtin "type.__getattribute__"))
 fault:∃C D f,F.mg "MachineFault"=some (.ref C)/\jJ F C/\Lx (.aL "MachineFault" "__init__")=some D/\kD F D f/\findIn (F.K C) (.ref C) "__init__"=some (some (.ref f))
 fuel:∃C D f,F.mg "FuelFault"=some (.ref C)/\jJ F C/\Lx (.aL "LendError" "__init__")=some D/\kD F D f/\findIn (F.K C) (.ref C) "__init__"=some (some (.ref f))
 exc:F.mg "Exception"=none/\F.mb "Exception"=some (.type "Exception")
 apart:∀C C',F.mg "MachineFault"=some (.ref C)->F.mg "FuelFault"=some (.ref C')->(clsIn (F.K C) C).any (λcd=>cd.mro.contains (.ref C'))=false/\(clsIn (F.K C') C').any (λcd=>cd.mro.contains (.ref C))=false
variable{e1:Expr}
section
theorem Nl{F:Fix}{first:List Value}{a:Expr}{Q:Po}(hk:∀Z,F.base.StaysIn Z->∃k,(k=Keeper.frame\/k=Keeper.machine\/k=Keeper.boundFrame)/\Looks F.mo Z (keeperOf f) k)(j:∀x p,e1≠.Starred x p)(l:∀x p,a≠.Starred x p)(h:wpAny F.mo A (eval e1 J) (λc d=>wpAny F.mo A (eval a J) (λv2 b=>F.base.StaysIn b.heap/\wpAny F.mo A (call f (first++[c,v2])) Q E b) E d) E s):wpAny F.mo A (callWith pos f first (backTo pos (starEach [e1,a] J)) []) Q E s:=by
 have e:backTo pos (starEach [e1,a] J)=[(false,eval e1 J),(false,do standAt pos;eval a J)]\/backTo pos (starEach [e1,a] J)=[(false,eval e1 J),(false,eval a J)]:=by rwa[jV j];rwa[jV l];first|exact .inr rfl|exact .inl rfl
 rcases e with e|e;·rwa[e];refine callWith_of (P:=λZ=>F.base.StaysIn Z) rfl hk (evalArgs_plain (spliced_cons (eQ h (λc d g=>spliced_cons (aF (dX (eQ g (λv2 b i=>spliced_nil i) λz9 z9 x=>x)))) λz9 z9 x=>x)))
 ·rwa[e];exact callWith_of (P:=λZ=>F.base.StaysIn Z) rfl hk (evalArgs_plain (spliced_cons (eQ h (λc d g=>spliced_cons (eQ g (λv2 b i=>spliced_nil i) λz9 z9 x=>x)) λz9 z9 x=>x)))
theorem ldn{x:Str}{Q:Po}(hk:J.scope.kind=.function)(a:J.kindOf x=some .local)(b:s.heap.Ns J.locals m)(hm:m x=some y)(q:Q y s)(c:(x==("__debug__":Str))=false:=by decide):wpAny M A (eval (.Name x p) J) Q E s:=wpAny_Name (wpAny_loadName_local hk a b hm q) c
end
section
variable{C e:Addr}
theorem EK{pl:Sem Bool}{Q:Value×List Value->Shared->Prop}(X:K.In s.heap)(h:Q (.builtin "Exception.__init__",[]) {s with toks:=s.toks+1}):wpAny (model prog w) A (getMethod (.type "Exception") "__init__" pl) Q E s:=by
 have a:opaqueClassAbove (.type "Exception")=pure none:=by unfold opaqueClassAbove;dsimp only;rwa[show Manifest.isStub "Exception"=false by decide+kernel];rfl
 have d:typeOf (.type "Exception")=pure (.type "type"):=by kernel_rfl
 have b:Looks (model prog w) s.heap (typeOf (.type "Exception")) (.type "type"):=Looks.of_pure d;have c:findIn K (.type "type") "__getattribute__"=some (some (.builtin "type.__getattribute__")):=type_tga;unfold getMethod specialOf;refine aF (aF (b.here ((looks_findIn X c).here ?_)));dsimp only;rwa[aI canon_tga];refine aF (eQ (Q:=λv=>Q (v,[])) (E:=E) ?_ (λz9 z9 z=>a_ z) λz9 z9 z=>z);have f:Looks (model prog w) s.heap (opaqueClassAbove (.type "Exception")) none:=Looks.of_pure a;have e:PySem.W.findCls K (.type "Exception") (.type "type") "__init__"=some (.val (.builtin "Exception.__init__")):=by kernel_rfl
 have g:handedIn (.builtin "Exception.__init__")=true:=by decide+kernel
 refine cls_open X f b c (looks_hook X (r:=none) (by rfl)) (by show subIn K _ _=_;rfl) e (a_ (by show wpAny _ _ (handedOut _) _ _ _;rwa[handedOut_of g];exact a_ h))
structure D5(F:Fix)(H:VH)(U:List Addr)(Θ:List bA)(h:Heap)(e:Addr)(oe:Obj)(sc:Sc)(loc:Loc)(J:Env)(bB:Heap)(m:Str->Option Value):Prop where
 yO:aZ h bB
 kind:J.scope.kind=.function
 glob:J.globals=mainGlobals
 blt:J.builtins=builtinsNs
 hk:∀y,J.kindOf y=sc.lookup y
 R:Lu F U H (.obj e oe::.ns J.locals m::Θ) bB
 self:m "self"=some (.ref e)
 str:∀{x s},sc.lookup x=some .local->aU x loc=some (.str s)->∃tk,m x=some (.str s tk)
 int:∀{x i},sc.lookup x=some .local->aU x loc=some (.int i)->∃tk,m x=some (.int i tk)
theorem IF(O:cA F){f:Addr}(K:kD F D f){sc:Sc}{loc:Loc}{vals:List V}(c:D.sc=sc)(E:∀n,cellsFrom n sc []=[])(d:sc.lookup ("self":Str)=some .local)(G:aU "self" loc=some (.ref 0))(rs:b9 F [e] h vals xs)(hb:lQ D.params D.qZ vals=some loc)(i:A.depth<recursionLimit)(R:Lu F U H (.obj e oe::Θ) h)(L:∀J bB jU m,D5 F H U Θ h e oe sc loc J bB m->wpAny F.mo (A.deeper J) (execs D.body J) (λf s'=>R₀ (.ok (.ret (match f with|.ret v=>v|_=>.none))) s') (λe s'=>wpAny F.mo (A.deeper J) (leaving J e) (λz9 j=>R₀ (.error e) j) (λM j=>R₀ (.error M) j) s') ⟨bB,g,u,jU,B⟩):codeAny F.mo A (.call (.ref f) ⟨xs,[]⟩) R₀ ⟨h,g,u,t,B⟩:=by
 obtain⟨o,fd,ho,k,_,_,_,_,_,_,_,_,_,l⟩:=K.fd;refine aW (l ⟨h,g,u,t,B⟩ [e] _ _ _ R.stays rs hb) λbinds hB s=>?_;have N:binds.map (·.1)=D.params:=by rwa[s.names];exact wJ _ _ hb
 refine HT O K ho k i R hB N λJ bB jU m own T=>L J bB jU m ?_;have at_:∀{x v},sc.lookup x=some .local->aU x loc=some v->∃y,m x=some y/\RV F [e] h v y:=λa w=>by refine aW (s.get w) λy p q=>?_;exact⟨y,T.loc _ y p (by rwa[c];exact a),q⟩
 have C:own=[.ns J.locals m]:=by refine aW (T.head) λr hr a=>?_;rw[T.cells,c,E]at a;rwa[hr];rwa[List.eq_nil_of_length_eq_zero a];rfl
 have b:=T.R;rw[C]at b;refine⟨T.yO,T.kind,T.glob,T.blt,λy=>by unfold Env.kindOf;rwa[T.names];rwa[c];rfl,b.perm (List.Perm.swap _ _ _),?_,λa w=>?_,λa w=>?_⟩
 ·refine aW (at_ d G) λy p q=>?_
  cases q with
  |ref z=>have P:=aM z;subst P;exact p
 ·refine aW (at_ a w) λy p q=>?_
  cases q with
  |str _ I=>exact⟨I,p⟩
 ·refine aW (at_ a w) λy p q=>?_
  cases q with
  |int _ I=>exact⟨I,p⟩
theorem D5.ld(T:D5 F H U Θ h e oe sc loc J bB m){y:Str}{v:Value}{Q:Po}(a:Lu F U H jP Z)(hm:bA.ns J.locals m∈jP)(b:sc.lookup y=some .local)(c:m y=some v)(d:(y==("__debug__":Str))=false)(q:Q v ⟨Z,g,u,t',B⟩):wpAny F.mo A (eval (.Name y p) J) Q E ⟨Z,g,u,t',B⟩:=ldn T.kind ((T.hk _).trans b) (a.dS _ hm).1 c q d
theorem D5.sset(T:D5 F H U Θ h e oe sc loc J bB m)(hs:sc.lookup ("self":Str)=some .local){y a:Str}{q q' s:Pos}{v:Value}{Q:Flow->Shared->Prop}{r:List Stmt}(c:Lu F U H jP Z)(hm:bA.ns J.locals m∈jP)(d:sc.lookup y=some .local)(f:m y=some v)(i:(y==("__debug__":Str))=false)(k:wpAny F.mo A (PySem.setAttr (.ref e) a v) (λz9 s'=>wpAny F.mo A (execs r J) Q E s') E ⟨Z,g,u,t',B⟩):wpAny F.mo A (execs (.Assign [.Attribute (.Name "self" p) a q] (.Name y q') s::r) J) Q E ⟨Z,g,u,t',B⟩:=by
 refine wpAny_execs_cons (wpAny_Assign_stores (T.ld c hm d f i ?_) rfl rfl)
 show wpAny _ A (do let b<-holding [v] (eval (.Name "self" p) J);standAt q.atName;holding [v,b] (PySem.setAttr b a v);release [v,b] []) _ _ _;exact aF (cH (T.ld c hm hs T.self rfl (aF (dX (aF (cH (eQ k (λz9 s' z=>wpAny_release' z) λz9 z9 z=>z)))))))
theorem PD(O:cA F)(K:jJ F C)(XE:F.mg "Exception"=none/\F.mb "Exception"=some (.type "Exception")){f:Addr}(hD:Lx (.aL "LendError" "__init__")=some D)(FA:kD F D f){t0:Addr}{x:Str}(i:A.depth<recursionLimit)(R:Lu F U H (.obj e oe::Θ) h)(I:oe.cls=.ref C)(L:oe.dict=none)(M:oe.data=.fields vs)(h0:vs[0]?=some (.ref t0))(hq:∀Z t' a dx m N,aZ h Z->Lu F U H (.obj e a::.ns dx m::Θ) Z->a.cls=.ref C->a.dict=some dx->a.data=.fields (vs.setIfInBounds 0 (.ref N))->sC Z dx m 2->R₀ (.ok (.ret .none)) ⟨Z,g,u,t',B⟩):codeAny F.mo A (.call (.ref f) ⟨[.ref e,.str x tk],[]⟩) R₀ ⟨h,g,u,t,B⟩:=by
 obtain⟨D',n,P,Q,S,p1,p2,p3,p4,p5,p6,q1,q2,q3,q4,r1,r2,r3,r4,j,k⟩:=DY;rw[hD]at n;have zz:=aM n;subst zz;refine IF (sc:=NR) (loc:=[(("self":Str),V.ref 0),("message",V.str x),("spot",V.int 0)]) (vals:=[.ref 0,.str x]) O FA S (λz9=>rfl) rfl rfl (.cons (.ref rfl) (.cons (.str x tk) .nil)) (by rwa[P];rwa[Q];rfl) i R λJ bB jU m T=>?_;refine oE (T.str (x:="message") rfl rfl) λc6 m2=>?_;refine oE (T.int (x:="spot") rfl rfl) λc7 m3=>?_;rwa[k];refine wpAny_execs_cons (wpAny_Expr_any ?_ (by unfold interactive;rwa[T.kind];rfl) rfl);rw[arm_eval_Call];refine aF (o_ rfl (Name_function_global T.kind (by rewrite[T.hk];rfl) (loadGlobal_builtin (by rwa[T.glob];exact O.g.keeps T.R.stays) XE.1 (by rwa[T.blt];exact O.b.keeps T.R.stays) XE.2 ?_) rfl));refine aF (dX ?_);have l:methodCallForm (([.Name "self" p3,.Name "message" p4]:List Expr).length+([]:List Keyword).length) (backTo p5 (starEach [.Name "self" p3,.Name "message" p4] J)) (backToKw p5 (keywordEach [] J))=true:=by rfl
 have o:methodCallPos true (.Name "Exception" p1) J p2 p5=pure p5:=by unfold methodCallPos;simp[j]
 unfold methodCall;rwa[l];refine aF (cH (EK (T.R.iO O (b:=0)) (aF (wpAny_of_eq o ?_))));refine Nl (F:=F) (first:=[]) (λZ s=>lL rfl Z s) (by intro _ _ z;cases z) (by intro _ _ z;cases z) ?_;refine T.ld T.R (aC (aE)) rfl T.self rfl (T.ld T.R (aC (aE)) rfl m2 rfl ⟨T.R.stays,?_⟩);refine OZ O K T.R I M h0 λb6 b7 W N p c X w2 Y=>?_;refine T.sset rfl c (aC (aE)) rfl m2 rfl (U5 O K (aE) c (X.trans I) (w2.trans L) Y λb8 b9 dx q d r=>?_);refine T.sset rfl d (aC (aC (aE))) rfl m3 rfl (HP O K (aC (aE)) d (X.trans I) rfl Y r (by decide) λv w y E G=>wpAny_execs_nil ?_);exact hq v w _ dx _ N (T.yO.trans (p.trans (q.trans y))) (E.perm (((List.Perm.swap _ _ _).cons _).trans (List.Perm.swap _ _ _))).drop (X.trans I) rfl Y G
theorem TY{a b:Str}{c tb:Tok}{Q:Po}(R:Lu F U H Θ h)(e:a.length+b.length<=1000)(f:∀Z t' tk,aZ h Z->Lu F U H Θ Z->Q (.str (a++b) tk) ⟨Z,g,u,t',B⟩):wpAny F.mo A (binaryOp .Add (.str a c) (.str b tb)) Q E ⟨h,g,u,t,B⟩:=by
 refine IJ (P:=λr=>r=.done (.ret (.str (a++b))) [] H) (k:=λv H=>.done (.ret v) [] H) (by intro z;cases z) R (λv m aO Z t' x p i d rv j=>?_) (.str a c) (.str b tb) ?_
 ·injection j with e1 n l;injection e1 with e1;subst e1 l;have:U=aO:=List.IsPrefix.eq_of_length p (by rwa[R.len];rwa[d.len];rfl);clear p;subst this
  cases rv with
  |str _ tk=>exact f Z t' tk i d
 ·show(if a.length+b.length<=1000 then Res.done (Fl.ret (V.str (a++b))) [] H else Res.stuck)=_;rwa[aI e];rfl
theorem VD(O:cA F)(XC:jJ F C)(XF:jE F){f:Addr}(hD:Lx (.aL "MachineFault" "__init__")=some D)(FA:kD F D f){t0:Addr}{k x:Str}{n:Tok}(K:A.depth+5<recursionLimit)(c7:k.length+x.length<=900)(R:Lu F U H (.obj e oe::Θ) h)(hc:oe.cls=.ref C)(L:oe.dict=none)(M:oe.data=.fields vs)(h0:vs[0]?=some (.ref t0))(hq:∀Z t' a dx m N P,aZ h Z->Lu F U H (.obj e a::.ns dx m::Θ) Z->a.cls=.ref C->a.dict=some dx->a.data=.fields (vs.setIfInBounds 0 (.ref N))->m "kind"=some (.str k P)->R₀ (.ok (.ret .none)) ⟨Z,g,u,t',B⟩):codeAny F.mo A (.call (.ref f) ⟨[.ref e,.str k n,.str x tk],[]⟩) R₀ ⟨h,g,u,t,B⟩:=by
 obtain⟨D',o,Q,S,W,p1,p2,p3,p4,p5,p6,p7,p8,p9,pa,n0,q1,q2,q3,q4,i,j⟩:=A0;rw[hD]at o;have zz:=aM o;subst zz;refine jQ (XF.lend) λCL DL fl X Y FL b6 p=>?_;refine oA p ?_;clear p;intro b7 b8;refine IF (sc:=IN) (loc:=[(("self":Str),V.ref 0),("kind",V.str k),("message",V.str x)]) (vals:=[.ref 0,.str k,.str x]) O FA W (λz9=>rfl) rfl rfl (.cons (.ref rfl) (.cons (.str k n) (.cons (.str x tk) .nil))) (by rwa[Q];rwa[S];rfl) (by lia) R λJ bB jU m T=>?_;refine oE (T.str (x:="kind") rfl rfl) λb9 m2=>?_;refine oE (T.str (x:="message") rfl rfl) λi4 m3=>?_;rwa[j];refine wpAny_execs_cons (wpAny_Expr_any ?_ (by unfold interactive;rwa[T.kind];rfl) rfl);rw[arm_eval_Call];refine aF (o_ rfl (Name_function_global T.kind (by rewrite[T.hk];rfl) (loadGlobal_global (by rwa[T.glob];exact O.g.keeps T.R.stays) X ?_) rfl));refine aF (dX ?_);have l:methodCallForm (([.Name "self" p3,.BinOp (.BinOp (.Name "kind" p4) .Add (.Constant (.str ": ") n0 pa) p7) .Add (.Name "message" p8) p9]:List Expr).length+([]:List Keyword).length) (backTo p5 (starEach [.Name "self" p3,.BinOp (.BinOp (.Name "kind" p4) .Add (.Constant (.str ": ") n0 pa) p7) .Add (.Name "message" p8) p9] J)) (backToKw p5 (keywordEach [] J))=true:=by rfl
 have q:methodCallPos true (.Name "LendError" p1) J p2 p5=pure p5:=by unfold methodCallPos;simp[i]
 have h2:(": ":Str).length=2:=by rfl
 unfold methodCall;rwa[l];refine aF (cH (method_cls (T.R.iO O) b8 (cls_value (T.R.iO O) b6 b7 rfl (aF (wpAny_of_eq q ?_)))));refine Nl (F:=F) (first:=[]) (nM O FL.keep) (by intro _ _ z;cases z) (by intro _ _ z;cases z) ?_;refine T.ld T.R (aC (aE)) rfl T.self rfl ?_;refine wpAny_BinOp (wpAny_BinOp (T.ld T.R (aC (aE)) rfl m2 rfl (wpAny_Constant_str (TY T.R (by lia) λc9 d6 i5 r b=>?_))));refine T.ld b (aC (aE)) rfl m3 rfl (TY b (by rw[Str.length_append];lia) λd7 d8 i6 s c=>⟨c.stays,?_⟩);refine wpAny_call (PD O XC XF.exc Y FL (by show A.depth+1<recursionLimit;lia) c hc L M h0 λd9 f7 c6 dx f8 N v d w1 w2 w3 w=>?_);refine T.sset rfl d (aC (aC (aE))) rfl m2 rfl (HP O XC (aC (aC (aE))) d w1 w2 w3 w (by decide) λy E G I f9=>wpAny_execs_nil ?_);exact hq y E _ dx _ N b9 (T.yO.trans (r.trans (s.trans (v.trans G)))) (I.perm (((List.Perm.swap _ _ _).cons _).trans (List.Perm.swap _ _ _))).drop w1 w2 w3 (aI rfl)
end
theorem RH{C:Addr}{nm q:Str}{N:Addr}{bs bm:List Value}{hdct:Bool}{sn:List Str}{sub:List Value}{ab:Bool}{col:Option Bool}{dd:Option Addr}{k0 k1 k2 k3 k5:Option Value}{newId:String}{x:Sem Value}{Q:Flow->Shared->Prop}(mo:vM C bm)(j:A.handled=none)(h:wpAny M A x (λv a=>∃e oe vs,v=.ref e/\a.heap.get? C=some (excClassObj nm q C N bs bm hdct sn sub ab col dd k0 k1 k2 k3 k5 newId)/\a.heap.get? e=some oe/\oe.cls=.ref C/\oe.data=.fields vs/\vs[1]?=some .none/\E (.ref e) a) E s):wpAny M A (raiseStmt J (some x) none) Q E s:=by
 have c:=mo.base;unfold raiseStmt;refine aF (eQ h (λv a bB=>?_) λz9 z9 x=>x);refine jQ bB ?_;clear bB;intro e oe vs aG i he f b;refine gB b ?_;clear b;intro k l m;subst aG;obtain⟨hp,g,d,tk,B⟩:=a;repeat(first|(with_reducible refine wpAny_loadPart_at he ?_;rw[f])|with_reducible refine wpAny_loadPart_at i ?_|(with_reducible refine wpAny_isSubtype_exc i ?_;rw[c])|with_reducible refine wpAny_field he k l ?_|wp_step)
 exact wpAny_raiseNew_none j m
section
variable{k:Kf}{Q:Flow->Shared->Prop}
theorem Bi{F:Fix}{first:List Value}{Q:Po}(hk:∀Z,F.base.StaysIn Z->∃k,(k=Keeper.frame\/k=Keeper.machine\/k=Keeper.boundFrame)/\Looks F.mo Z (keeperOf f) k)(c:∀x p,e1≠.Starred x p)(h:wpAny F.mo A (eval e1 J) (λb a=>F.base.StaysIn a.heap/\wpAny F.mo A (call f (first++[b])) Q E a) E s):wpAny F.mo A (callWith pos f first (backTo pos (starEach [e1] J)) []) Q E s:=by
 have e:backTo pos (starEach [e1] J)=[(false,eval e1 J)]:=by rwa[jV c];rfl
 rwa[e];exact callWith_of (P:=λZ=>F.base.StaysIn Z) rfl hk (evalArgs_plain (spliced_cons (eQ h (λb a d=>spliced_nil d) λz9 z9 x=>x)))
theorem y9{k:Kv}(stuck:cS P)(a:P (ev cf n sc e loc H k)):∀x p,e≠.Starred x p:=by rintro x p rfl;induction n using Nat.casesOn<;>exact stuck a
theorem WB(O:cA F)(P:jE F){C:Addr}{s x:Str}{v:Tok}{Q:Po}(T:F.mg "MachineFault"=some (.ref C))(y:A.depth+10<recursionLimit)(c:s.length+x.length<=900)(R:Lu F U H Θ h)(V:∀Z t' e oe dx m vs a,aZ h Z->Lu F U H (.obj e oe::.ns dx m::Θ) Z->oe.cls=.ref C->oe.dict=some dx->oe.data=.fields vs->vs[1]?=some .none->m "kind"=some (.str s a)->Q (.ref e) ⟨Z,g,u,t',B⟩):wpAny F.mo A (call (.ref C) [.str s v,.str x tk]) Q E ⟨h,g,u,t,B⟩:=by
 refine jQ (P.fault) λC' D f d S W G hi=>?_;rw[T]at d;have I:=aM d;cases I;obtain⟨nm,q,N,bs,bm,sn,sub,ab,col,dd,k0,k1,k2,k3,k5,J,hm,cd,X,ho,K,Y⟩:=S.data O R.stays;obtain⟨o,fd,i,_⟩:=G.fd;have L:o.cls=.type "function":=by have z:=G.type;refine aW (Option.map_eq_some_iff.mp z) λo' w z=>?_;have:=O.iO _ _ _ w;rw[i]at this;clear w;have I:=aM this;subst I;exact z
 refine HF (pV hm) J (looks_findIn (R.iO O) hi) (R.stays _ _ i) L (λZ e M=>?_) (by rwa[d7];simp);obtain⟨t0,he,-,-⟩:=M.there;have j:=R.j2 (p:=.obj e _) M.keeps M.new he;rw[xH];refine VD O S P W G (by show A.depth+1+5<recursionLimit;lia) c j rfl rfl rfl rfl λk l b dx m tt a n r w1 w2 w3 w4=>?_;exact⟨rfl,V k l e b dx m _ a ((aZ.of_keeps M.keeps).trans n) r w1 w2 w3 rfl w4⟩
theorem V7(O:cA F)(I:jE F){C:Addr}{x:Str}{Q:Po}(K:F.mg "FuelFault"=some (.ref C))(n:A.depth+10<recursionLimit)(R:Lu F U H Θ h)(L:∀Z t' e oe dx m vs,aZ h Z->Lu F U H (.obj e oe::.ns dx m::Θ) Z->oe.cls=.ref C->oe.dict=some dx->oe.data=.fields vs->vs[1]?=some .none->Q (.ref e) ⟨Z,g,u,t',B⟩):wpAny F.mo A (call (.ref C) [.str x tk]) Q E ⟨h,g,u,t,B⟩:=by
 refine jQ (I.fuel) λC' D f b J P r hi=>?_;rw[K]at b;have s:=aM b;cases s;obtain⟨nm,q,N,bs,bm,sn,sub,ab,col,dd,k0,k1,k2,k3,k5,v,hm,cd,S,ho,y,T⟩:=J.data O R.stays;obtain⟨o,fd,c,_⟩:=r.fd;have G:o.cls=.type "function":=by have z:=r.type;refine aW (Option.map_eq_some_iff.mp z) λo' w z=>?_;have:=O.iO _ _ _ w;rw[c]at this;clear w;have s:=aM this;subst s;exact z
 refine HF (pV hm) v (looks_findIn (R.iO O) hi) (R.stays _ _ c) G (λZ e M=>?_) (by rwa[d7];simp);obtain⟨t0,he,-,-⟩:=M.there;have d:=R.j2 (p:=.obj e _) M.keeps M.new he;rw[xH];refine PD O J I.exc P r (by show A.depth+1<recursionLimit;lia) d rfl rfl rfl rfl λi j a dx m Y k l V W X w4=>?_;exact⟨rfl,L i j e a dx m _ ((aZ.of_keeps M.keeps).trans k) l V W X rfl⟩
theorem F9{q:Str×Str×Expr}(h:uC e=some q)(a:∀np s d p1 m cp,e=.Call (.Name "MachineFault" np) [.Constant (.str s) d p1,m] [] cp->q=(("MachineFault":Str),s,m)->C)(b:∀np m cp,e=.Call (.Name "FuelFault" np) [m] [] cp->q=(("FuelFault":Str),("":Str),m)->C):C:=WX (p:=λr=>r=some q) aS h λf as ks cp e1 h=>N_ (p:=λr=>r=some q) aS h λg h=>MA (p:=λr=>r=some q) aS h λc np i h=>by
 rcases as with _|⟨x,_|⟨m,_|⟨_,_⟩⟩⟩;·exact(aS h).elim
 ·exact dM h λe h=>b np x cp (by rwa[e1];rwa[g];rwa[i];rwa[e];rfl) (by refine cM (aM h) ?_;rwa[e];rfl)
 ·exact lA h λs hs h=>dM h λe h=>zO hs λd p1 j=>a np s d p1 m cp (by rwa[e1];rwa[g];rwa[i];rwa[e];rwa[j];rfl) (by refine cM (aM h) ?_;rwa[e];rfl)
 ·exact(aS h).elim
inductive OH(F:Fix)(C:Addr)(E:Po)(s:Shared):Value->Prop
 |mk e oe vs:F.base.StaysIn s.heap->s.heap.get? e=some oe->oe.cls=.ref C->oe.data=.fields vs->vs[1]?=some .none->E (.ref e) s->OH F C E s (.ref e)
theorem BI(O:cA F){C:Addr}(d:jJ F C)(f:A.handled=none){x:Sem Value}(h:wpAny F.mo A x (λv a=>OH F C E a v) E s):wpAny F.mo A (raiseStmt J (some x) none) Q E s:=by obtain⟨nm,q,N,bs,bm,sn,sub,ab,col,dd,k0,k1,k2,k3,k5,b,hm,cd,g,ho,c,i⟩:=d.data O (h:=F.base) λz9 z9 e=>e;refine RH (C:=C) (nm:=nm) (q:=q) (N:=N) (bs:=bs) (bm:=bm) (hdct:=true) (sn:=sn) (sub:=sub) (ab:=ab) (col:=col) (dd:=dd) (k0:=k0) (k1:=k1) (k2:=k2) (k3:=k3) (k5:=k5) (newId:="Exception.__new__") (pV hm) f (eQ h (λv a z=>?_) λz9 z9 x=>x);obtain⟨e,oe,vs,st,j,k,l,m,n⟩:=z;exact⟨e,oe,vs,rfl,st _ _ b,j,k,l,m,n⟩
theorem ML(O:cA F)(C:Cx F d A J L sc loc U h (own++aP))(st:F.base.StaysIn h){Cl:Addr}{Q:Po}(a:sc.lookup c=some .globalImplicit)(hm:F.mg c=some (.ref Cl))(b:(c==("__debug__":Str))=false)(q:Q (.ref Cl) ⟨h,g,u,t,B⟩):wpAny F.mo A (eval (.Name c np) J) Q E ⟨h,g,u,t,B⟩:=Name_function_global C.N.kind (by unfold Env.kindOf;rwa[C.N.names];exact a) (loadGlobal_global (by rwa[C.N.glob];exact O.g.keeps st) hm q) b
theorem Nr(ih:dC F g u B cf d n)(O:cA F)(T:jE F)(C:Cx F d A J L sc loc U h (own++aP))(R:Lu F U H (own++aP) h)(X:f8 F g u B own aP U h P L E)(stuck:cS P)(r:P (oR (uC e) λq=>if sc.lookup q.1=some .globalImplicit then ev cf n sc q.2.2 loc H λv H=>sD .stuck v λx=>if q.2.1.length+x.length<=900 then .exc q.1 q.2.1 H else .stuck else .stuck)):wpAny F.mo A (exec (.Raise (some e) none p) J) Q E ⟨h,g,u,t,B⟩:=by
 have j:A.depth+10<recursionLimit:=by have:=C.depth;have:recursionLimit=1000:=rfl;lia
 refine eC stuck r λq hq r=>bU stuck r λV r=>?_;rw[arm_exec_Raise];refine aF (dX ?_);refine F9 hq (λnp s n1 p1 m cp W eq=>?_) (λnp m cp W eq=>?_);·rw[eq]at V r;rwa[W];refine jQ (T.fault) λCl D f G I _ _ _=>?_;refine BI (C:=Cl) O I C.handled (aF (wpAny_Call_ofName (ML O C R.stays V G rfl (Nl (F:=F) (first:=[]) (nM O I.keep) (by intro _ _ z;cases z) (y9 stuck r) (wpAny_Constant_str (ih C R (λv Y aO Z t' x pr i K rv a=>⟨K.stays,?_⟩) X.here stuck r))))));refine rs (p:=P) rv stuck a λy tk z9 a=>bU stuck a λw a=>?_;exact WB O T G j w K λk l c oe dx m vs b6 o b M w2 N S w5=>aF (dX (a_ (.mk c oe vs b.stays (b.dS _ (aE)).1 M N S (X "MachineFault" s Y aO k l c own pr (i.trans o) (.refl _) ⟨_,b,.new G M w2 N (λz9=>w5) S⟩ a))))
 ·rw[eq]at V r;rwa[W];refine jQ (T.fuel) λCl D f G I _ _ _=>?_;refine BI (C:=Cl) O I C.handled (aF (wpAny_Call_ofName (ML O C R.stays V G rfl (Bi (F:=F) (first:=[]) (nM O I.keep) (y9 stuck r) (ih C R (λv Y aO Z t' x pr i K rv a=>⟨K.stays,?_⟩) X.here stuck r)))));refine rs (p:=P) rv stuck a λy tk z9 a=>bU stuck a λw a=>?_;exact V7 O T G j K λk l c oe dx m vs o b M w2 N S=>aF (dX (a_ (.mk c oe vs b.stays (b.dS _ (aE)).1 M N S (X "FuelFault" "" Y aO k l c own pr (i.trans o) (.refl _) ⟨_,b,.new (t:=tk) G M w2 N (λz=>aV z (by decide)) S⟩ a))))
end
section
open Builtin Builtin.ObjectAttr
section
variable{k:Kf}{C e:Addr}
theorem NY(O:cA F)(k:jJ F C){x:Str}{v:Value}{a:Bool}{Q:Po}(p:x∈([("message":Str),"spot","kind"]:List Str))(R:Lu F U H Θ h)(s:bA.obj e oe∈Θ)(y:bA.ns dx m∈Θ)(z:oe.cls=.ref C)(D:oe.dict=some dx)(l:oe.data=.fields vs)(hm:m x=some v)(G:handedIn v=true)(J:Q v ⟨h,g,u,t+1,B⟩):wpAny F.mo A (PySem.getAttr (.ref e) x a) Q E ⟨h,g,u,t,B⟩:=by
 obtain⟨nm,q,N,bs,bm,sn,sub,ab,col,dd,k0,k1,k2,k3,k5,W,L,cd,i,ho,c,n⟩:=k.data O R.stays;have X:=R.iO O (b:=C);have he:=(R.dS _ s).1;change h.get? e=some oe at he;have d:=(R.dS _ y).1;change h.Ns dx m at d;refine eS (id d) λod es ep j P _=>?_;have I:InstAt h e oe C (some od):=⟨he,z,by unfold notCls;rwa[l];rfl,by rwa[D];exact j⟩;have o:=I.type (M:=model F.prog F.w);have S:=looks_findIn (M:=model F.prog F.w) X k.m5;have T:hasDictIn (F.K C) C=true:=by unfold hasDictIn;rwa[i];exact c
 have hf:findObj (F.K C) C (some od) x=some (.value v):=findObj_own T (k.attrs x p) rfl (by rwa[u_ d j];rwa[hm];rfl);have V:=looks_find (M:=model F.prog F.w) X I hf
 have f:Looks F.mo h (isInstance (.ref e) (.type "BaseException")) true:=o.andThen (looks_mroIn X (by
  unfold mroIn;have ne:cd.mro.isEmpty=false:=by rwa[n];rfl
  rwa[i];rw[Option.bind_some];rwa[aH (by rwa[ne];decide)];rwa[v_ ho (by decide+kernel)];rfl));refine aF (wpAny_mkText (cH (aF (o.at (aF (S.at ?_))))));dsimp only;rwa[show(onTheHeap (.ref C)&&Value.builtin "BaseException.__getattribute__"==Value.builtin "object.__getattribute__")=false from by rwa[show(Value.builtin "BaseException.__getattribute__"==Value.builtin "object.__getattribute__")=false from by decide+kernel];rewrite[Bool.and_false];rfl];rwa[aH (by decide)];refine aF ((looks_hook (M:=model F.prog F.w) X (mc:=.ref C) (r:=none) (by rwa[aI (by rfl)];exact k.getattr)).at (aF (wpAny_attempt (cH ?_))));unfold callGetattribute;rwa[show(a&&onTheHeap (Value.builtin "BaseException.__getattribute__"))=false from Bool.and_false _];rwa[aH (by decide)];unfold boundAndCalled;rw[PySem.F.attr_Exception.ga.bind];refine aF (a_ ?_);show wpAny _ _ (call (.builtin "BaseException.__getattribute__") [.ref e,.str x t]) _ _ _;refine wpAny_call ?_;refine codeAny_call_builtin PySem.F.attr_Exception.ga.plain PySem.F.entry_bexc_ga ?_;refine@check_slot F.mo _ _ ⟨h,g,u,t+1,B⟩ "BaseException.__getattribute__" "BaseException" "__getattribute__" (.ref e) [.str x t] [] _ (by decide+kernel) (by decide+kernel) f (PySem.F.args_bexc_ga (.ref e) (.str x t)) ?_;refine aF (a_ (aF (a_ (aF (o.at (aF (V.at ?_)))))));refine a_ ?_;show wpAny _ _ (handedOut v) _ _ _;rwa[handedOut_of G];exact a_ J
end
end
section
variable{q:Str}{C:Addr}{sub:List Value}{k0 k1 k2 k3 k5:Option Value}
variable{Ez q':Str}{C' N':Addr}{Ei WW:List Value}{Ck:Bool}{Fg:List Str}{W7:List Value}{Em:Bool}{ZE:Option Bool}{Ff:Option Addr}{Fx Ej Ev Fv Fj:Option Value}{XM:String}
theorem QS{d:Drawn}{e:Addr}{b:Bool}{Q:Bool->Shared->Prop}(j:h.get? C=some (excClassObj nm q C N bs bm hdct sn sub ab col dd k0 k1 k2 k3 k5 newId))(c:h.get? C'=some (excClassObj Ez q' C' N' Ei WW Ck Fg W7 Em ZE Ff Fx Ej Ev Fv Fj XM))(he:h.get? e=some oe)(i:oe.cls=.ref C)(a:(Value.ref C'::WW).contains (.type "BaseException")=true)(hb:(Value.ref C::bm).contains (.ref C')=b)(k:Q b ⟨h,g,d,t,B⟩):wpAny M A (excMatches (.ref e) (.ref C')) Q E ⟨h,g,d,t,B⟩:=by
 have f:=tc_notTuple;unfold excMatches;repeat(first|(with_reducible refine wpAny_loadPart_at he ?_;rw[i])|with_reducible refine wpAny_loadPart_at c ?_|(with_reducible refine wpAny_isSubtype_exc c ?_;rw[a])|(with_reducible refine wpAny_isSubtype_exc j ?_;rw[hb])|wp_step)
 clear hb;induction b using Bool.casesOn<;>(wp_walk;exact k)
end
variable{lJ:List bA}
section
variable{k:Kf}{C e:Addr}
theorem HS{x:Str}{u:Option Value}(R:Lu F U H (own++aP) h)(N:dG F J sc loc U h (own++aP))(g:cR lJ own)(hm:bA.ns J.locals m∈own)(fresh:aU x loc=none)(n:Z.Ns J.locals (λz=>if z=x then u else m z))(r:Heap.SameBut J.locals h Z):∃bG,aZ h Z/\cR lJ bG/\Lu F U H (bG++aP) Z/\dG F J sc loc U Z (bG++aP)/\bA.ns J.locals (λz=>if z=x then u else m z)∈bG:=by
 have s:=(R.dS _ (bY _ hm)).1;refine eS (id s) λo es ep q1 q2 _=>?_;refine oA (R.FI (p:=.ns J.locals m) (p':=.ns J.locals λz=>if z=x then u else m z) hm r q1 (eN q2) rfl n) λI i=>?_;refine fN i ?_;clear i;intro bG t a d ad;have uniq:∀m₁,bA.ns J.locals m₁∈own++aP->m₁=m:=λm₁ bB=>by have:=R.uniq bB (bY _ hm) rfl;clear bB;cases this;rfl
 have keep:∀q∈own++aP,q.addr≠J.locals->q∈bG++aP:=λq j ne=>by
  rcases fL.mp j with j|j;·exact bY _ (d q j ne)
  ·exact cG _ j
 have b:∀c w,bA.cell c w∈own++aP->c≠J.locals:=λc w f e=>by have:=R.uniq f (bY _ hm) e;cases this
 have S:cR own bG:=by
  refine⟨ad,λL m₁ bB=>?_,λc w f=>⟨w,d _ f (b c w (bY _ f))⟩⟩;by_cases e:L=J.locals;·clear bB;subst e;exact⟨_,a⟩
  ·exact⟨m₁,d _ bB e⟩
 refine⟨bG,I,g.trans S,t,⟨N.names,N.kind,N.glob,N.blt,⟨_,bY _ a⟩,λz k=>let⟨c,w,e,f⟩:=N.cells z k;⟨c,w,e,keep _ f (b c w f)⟩,λz w k=>?_⟩,a⟩;have e:z≠x:=λe=>by rw[e,fresh]at k;exact dW k
 refine gB (N.loc z w k) λv y A=>?_;refine⟨v,y,?_⟩;exact A.map (λz9 q=>q.mono aQ I) (λm₁ val B l=>⟨_,bY _ a,(aH e).trans (uniq m₁ B▸l)⟩) λc w z9 l=>keep _ l (b c _ l)
theorem wH{x:Str}(R:Lu F U H (own++aP) h)(N:dG F J sc loc U h (own++aP))(a:cR lJ own)(W:iA J sc own)(e:sc.lookup x=some .local)(fresh:aU x loc=none)(K:∀Z t' bG m',aZ h Z->cR lJ bG->iA J sc bG->Lu F U H (bG++aP) Z->dG F J sc loc U Z (bG++aP)->bA.ns J.locals m'∈bG->m' x=some y->Q () ⟨Z,g,u,t',B⟩):wpAny F.mo A (storeName J x y) Q E ⟨h,g,u,t,B⟩:=by
 have hk:J.kindOf x=sc.lookup x:=by unfold Env.kindOf;rwa[N.names];rfl
 refine oE (W.ns) λm hm=>?_;have b:=(R.dS _ (bY _ hm)).1;refine wpAny_storeName_local (hk.trans e) b (λZ c d=>?_) (by rwa[N.kind];rfl);refine rZ (HS R N (.refl own) hm fresh c d) λbG I S f N' mem=>?_;exact K Z _ bG _ I (a.trans S) (W.same S) f N' mem (by simp)
theorem F0{x:Str}{v:Value}(R:Lu F U H (own++aP) h)(N:dG F J sc loc U h (own++aP))(a:cR lJ own)(hm:bA.ns J.locals m∈own)(e:m x=some v)(f:sc.lookup x=some .local)(fresh:aU x loc=none)(K:∀Z t' bG,aZ h Z->cR lJ bG->Lu F U H (bG++aP) Z->dG F J sc loc U Z (bG++aP)->Q () ⟨Z,g,u,t',B⟩):wpAny F.mo A (unbindBehindTheSuite J x pos) Q E ⟨h,g,u,t,B⟩:=by
 have hk:J.kindOf x=sc.lookup x:=by unfold Env.kindOf;rwa[N.names];rfl
 have b:=(R.dS _ (bY _ hm)).1;unfold unbindBehindTheSuite;refine wpAny_onRaise (eQ (wpAny_unbindName_local (E:=λz9 z9=>False) (hk.trans f) b e (by rwa[N.kind];rfl) λZ j c d=>?_) (λz9 z9 q=>q) λz9 z9 q=>q.elim);refine rZ (HS R N (.refl own) hm fresh c d) λbG I S i N' mem=>?_;exact K Z _ bG I (a.trans S) i N'
theorem UB{x:Str}{Q:Po}(R:Lu F U H Θ h)(N:dG F J sc loc U h Θ)(a:sc.lookup x=some .local)(b:aU x loc=some v)(c:∀y,RV F U h v y->Q y ⟨h,g,u,t,B⟩):wpAny F.mo A (eval (.Name x p) J) Q E ⟨h,g,u,t,B⟩:=by
 refine gB (N.loc x v b) λnd e q=>?_;have d:(x==("__debug__":Str))=false:=by simpa using nd
 rw[a]at q;refine b_ q ?_;clear q;intro m val q1 q2 q3;exact wpAny_Name (wpAny_loadName_local N.kind (by unfold Env.kindOf;rwa[N.names];exact a) (R.dS _ q1).1 q2 (c val q3)) d
end
section
variable{oT:Obj}{k:Kf}{C e T:Addr}
theorem BG(c:jE F){t:Str}(d:t="MachineFault"\/t="FuelFault"):∃C,F.mg t=some (.ref C)/\jJ F C:=by
 rcases d with rfl|rfl;·refine eS (c.fault) λC _ _ a b _=>?_;exact⟨C,a,b⟩
 ·refine eS (c.fuel) λC _ _ a b _=>?_;exact⟨C,a,b⟩
theorem P8(O:cA F)(f:jE F){t:Str}{g:Addr}(i:t="MachineFault"\/t="FuelFault")(h:c="MachineFault"\/c="FuelFault")(b:F.mg t=some (.ref g))(a:F.mg c=some (.ref C)){cd:ClassData}(d:clsIn (F.K C) C=some cd)(hm:cd.mro=.ref C::bm):(Value.ref C::bm).contains (.ref g)=decide (t=c):=by
 by_cases e:t=c;·clear h;subst e;rw[b]at a;have j:=aM a;cases j;simp
 ·rwa[cU e];refine cM hm ?_;rcases i with rfl|rfl<;>rcases h with rfl|rfl;·exact aV rfl e
  ·have:=(f.apart _ _ b a).2;rw[d]at this;exact this
  ·have:=(f.apart _ _ a b).1;rw[d]at this;exact this
  ·exact aV rfl e
theorem FF{h0:ExceptHandler}{r:List ExceptHandler}{y:Option Str×List Stmt}{C:Prop}(d:Mm sc c (h0::r)=some y)(a:∀t np x b pos,h0=.ExceptHandler (some (.Name t np)) x b pos->sc.lookup t=some .globalImplicit/\(t="MachineFault"\/t="FuelFault")->(if t=c then some (x,b)else Mm sc c r)=some y->C):C:=by
 cases h0 with
 |ExceptHandler ty x b pos=>
  induction ty using Option.casesOn with
  |none=>exact(aS d).elim
  |some t=>
   induction t using PySem.Expr.casesOn with
   |Name t np=>exact dM d λq d=>a t np x b pos rfl q d
   |_=>exact(aS d).elim
theorem xK:∀{l:List ExceptHandler}{y:Option Str×List Stmt},Mm sc c l=some y->c="MachineFault"\/c="FuelFault"
 |[],_,z=>(aS z).elim
 |_::_,_,z=>FF z λz9 z9 z9 z9 z9 z9 q z=>f9 z (λe z9=>e▸q.2) λz9 z=>xK z
theorem Fi(R:Lu F U H (.obj T oT::.obj e oe::.ns dx m::Θ) h){ts:Array Value}(f:oe.data=.fields vs)(k:vs[1]?=some (.ref T))(l:oT.cls=.type "traceback")(i:oT.data=.fields ts)(n:3<ts.size)(o:∀a b,aZ h a->Lu F U H (.obj T b::.obj e oe::.ns dx m::Θ) a->Q () ⟨a,g,u,t,B⟩):wpAny F.mo A (setFlight (.ref e) none) Q E ⟨h,g,u,t,B⟩:=by have he:h.get? e=some oe:=(R.dS _ (aC (aE))).1;have j:h.get? T=some oT:=(R.dS _ (aE)).1;unfold setFlight;refine aF (wpAny_field he f k ?_);rwa[aI (show(Value.ref T !=Value.none)=true from by simp)];refine wpAny_setField j i n ?_;refine fN (nN j i 3 .none) λb q r s p=>?_;refine oA (R.gM (p':=.obj T b) (Heap.SameBut.update ..) j (fR i (by rwa[l];simp)) rfl p) λc d=>?_;exact o _ b d c
theorem uZ(O:cA F)(S:jE F)(o:F.mg c=some (.ref C))(l:oe.cls=.ref C)(p:oe.data=.fields vs)(h1:vs[1]?=some (.ref T)){xo:Option Str}{b₀:Stmt}{bs:List Stmt}{Q:Flow->Shared->Prop}(hk:J.scope.kind=.function)(v:∀x,J.kindOf x=sc.lookup x)(w:J.globals=mainGlobals)(d:∀pos Z t' oT,aZ h Z->Lu F U H (.obj T oT::.obj e oe::.ns dx m::Θ) Z->match xo with
 |none=>wpAny F.mo (A.mark (some (.ref e))) (execs (b₀::bs) J) Q (λz9 z9=>False) ⟨Z,g,u,t',B⟩
 |some x=>wpAny F.mo (A.mark (some (.ref e))) (storeName J x (.ref e)) (λz9 n=>wpAny F.mo (A.mark (some (.ref e))) (execs (b₀::bs) J) (λf y=>wpAny F.mo A (do bindName J x .none;unbindBehindTheSuite J x pos) (λz9 D=>Q f D) E y) (λz9 z9=>False) n) (λz9 z9=>False) ⟨Z,g,u,t',B⟩):∀(hs:List ExceptHandler)(Z:Heap)(t':Nat)(oT:Obj)(ts:Array Value),aZ h Z->Mm sc c hs=some (xo,b₀::bs)->Lu F U H (.obj T oT::.obj e oe::.ns dx m::Θ) Z->oT.cls=.type "traceback"->oT.data=.fields ts->3<ts.size->wpAny F.mo A (handleBy (.ref e) J hs) Q E ⟨Z,g,u,t',B⟩
 |[],Z,t',oT,ts,I,t,R,V,W,X=>by cases t
 |h0::rest,Z,t',oT,ts,I,t,R,V,W,X=>by
  refine FF t λtn np x b pos heq a G=>?_;rwa[heq];refine aW (BG S a.2) λCt K b6=>?_;refine aW (BG S (xK t)) λC' L XC=>?_;rw[o]at L;have zz:=aM L;cases zz;obtain⟨nm,q,N,d6,bm,sn,sub,ab,col,dd,k0,k1,k2,k3,k5,b7,d7,cd,b8,ho,b9,c6⟩:=XC.data O R.stays;obtain⟨Ez,q',N',Ei,WW,Fg,W7,Em,ZE,Ff,Fx,Ej,Ev,Fv,Fj,M,P,d8,c7,d9,Y,c9⟩:=b6.data O R.stays;have he:Z.get? e=some oe:=(R.dS _ (aC (aE))).1;refine wpAny_handleBy_cons (codeAny_handlers_test (Name_function_global hk (by rw[v];exact a.1) (loadGlobal_global (by rwa[w];exact O.g.keeps R.stays) K ?_) (by rcases a.2 with z|z<;>rwa[z]<;>decide))) (by intro z;cases z);refine QS b7 M he l (pV P).base (P8 O S a.2 (xK t) K o b8 c6) ?_;refine f9 G (λr z=>?_) λr z=>?_
  ·rwa[cC r];rwa[(Prod.mk.inj (aM z)).1];rwa[(Prod.mk.inj (aM z)).2];simp only[if_true];clear t G z;induction xo using Option.casesOn with
   |none=>exact codeAny_handlers_suite (Fi R p h1 V W X λi s j k=>eQ (d pos i t' s (I.trans j) k) (λz9 z9 q=>q) λz9 z9 q=>q.elim)
   |some x=>exact codeAny_handlers_suite_as (Fi R p h1 V W X λi s j k=>eQ (d pos i t' s (I.trans j) k) (λz9 n q=>eQ q (λz9 z9 q=>q) λz9 z9 q=>q.elim) λz9 z9 q=>q.elim)
  ·rwa[cU r];exact uZ O S o l p h1 hk v w d rest Z t' oT ts I z R V W X
end
def AE(sc:Sc)(hs:List ExceptHandler)(k:Kf)(a:Loc):Res->Res
 |.done b loc H=>k b loc H
 |.exc c s H=>oR (Mm sc c hs) (handled sc k a c s H)
 |.stuck=>.stuck
theorem RK{z:Str}(h:SW e=some z)(c:∀p,e=.Name z p->C):C:=MA (p:=λr=>r=some z) aS h λx p e h=>by have a:=aM h;subst a;exact c p e
theorem IL{q:Str×Str}(h:P5 e=some q)(c:∀p a,e=.Attribute (.Name q.1 a) q.2 p->C):C:=YW (p:=λr=>r=some q) aS h λo b p e h=>Mn h λz d f=>RK d λa g=>c p a (by rwa[e];rwa[g];refine cM f ?_;rfl)
theorem RW{q:Expr×Expr}(h:Nq e=some q)(c:∀n p,e=.Tuple [q.1,q.2] n p->C):C:=XZ (p:=λr=>r=some q) aS h λes n p e h=>Z0 (p:=λr=>r=some q) aS h λa b d h=>c n p (by rwa[e];rwa[d];refine cM (aM h) ?_;rfl)
theorem Q4{l:List Stmt}{q:Expr×Expr}(h:S0 l=some q)(c:∀n p r,l=[.Return (some (.Tuple [q.1,q.2] n p)) r]->C):C:=M_ (p:=λr=>r=some q) aS h λs e h=>W8 (p:=λr=>r=some q) aS h λx r a h=>RW h λn p b=>c n p r (by rwa[e];rwa[a];rwa[b];rfl)
section
variable{k:Kf}{C e T:Addr}
theorem wO(O:cA F){z b:Str}{o:V}{q:Pos}{Q:Po}(R:Lu F U H Θ h)(N:dG F J sc loc U h Θ)(w:sc.lookup z=some .local)(x:aU z loc=some o)(m:Ml o b H=some v)(C:∀y Z t',aZ h Z->Lu F U H Θ Z->RV F U Z v y->Q y ⟨Z,g,u,t',B⟩):wpAny F.mo A (eval (.Attribute (.Name z p) b q) J) Q E ⟨h,g,u,t,B⟩:=by rw[arm_eval_Attribute];refine aF (o_ rfl (UB R N w x λy D=>?_));refine aF (dX (aF (cH (uL (P:=λr=>r=.done (.ret v) [] H) O R (k:=λv H=>.done (.ret v) [] H) (λn s d i j y a l c e f=>aF (wpAny_letTemporaryGo (a_ ?_))) D m rfl))));clear m;injection f with e1 I G;injection e1 with e1;subst e1 G;have:U=d:=List.IsPrefix.eq_of_length a (by rwa[R.len];rwa[c.len];rfl);clear a;subst this;exact C y i j l c e
theorem MU{b:Expr}{M:Model}{Q:Po}(e:∀x p,e1≠.Starred x p)(f:∀x p,b≠.Starred x p)(h:wpAny F.mo A (eval e1 J) (λc d=>wpAny F.mo A (eval b J) (λv2 a=>Q (.ref a.heap.objs.size) {a with heap:=a.heap.push {cls:=.type "tuple",data:=.seq [c,v2].toArray}}) E d) E s):wpAny F.mo A (eval (.Tuple [e1,b] q p) J) Q E s:=by refine wpAny_Tuple ?_;rwa[jV e];rwa[jV f];exact spliced_cons (eQ h (λc d g=>spliced_cons (eQ g (λv2 a i=>spliced_nil ⟨by rwa[d7];simp,i⟩) λz9 z9 x=>x)) λz9 z9 x=>x)
end
section
variable{k:Kf}{Q:Flow->Shared->Prop}
theorem TX{p q r:bA}(R:Lu F U H (p::q::r::Θ) h):Lu F U H Θ h:=R.drop.drop.drop
theorem J9(p q r:bA)(own aP:List bA):(p::q::r::(own++aP)).Perm (own++p::q::r::aP):=by have a:(r::(own++aP)).Perm (own++r::aP):=(iK r own aP).symm;have b:(q::(own++r::aP)).Perm (own++q::r::aP):=(iK q own _).symm;have c:(p::(own++q::r::aP)).Perm (own++p::q::r::aP):=(iK p own _).symm;exact((a.cons q).cons p).trans ((b.cons p).trans c)
theorem Dv(ih:dC F g u B cf d n)(O:cA F)(XF:jE F){h0:ExceptHandler}{hs:List ExceptHandler}{q:Pos}(C:Cx F d A J L sc loc U h (own++aP))(W:iA J sc own)(R:Lu F U H (own++aP) h)(K:kT F g u B J sc own aP U h P k Q)(stuck:cS P)(hP:P (AE sc (h0::hs) k loc (ev cf n sc e loc H λv H=>.done (.ret v) loc H))):wpAny F.mo A (exec (.Try [.Return (some e) q] (h0::hs) [] [] p) J) Q E ⟨h,g,u,t,B⟩:=by
 refine wpAny_Try_except (wpAny_execs_cons (wpAny_Return_some ?_));refine ih C R (P:=λr=>P (AE sc (h0::hs) k loc r)) (k:=λv H=>.done (.ret v) loc H) (λv H' aO Z t' x pr i R' rv a=>?_) ?_ stuck hP;·exact K.at C.N pr i R' (.ret rv) a
 intro c s H' aO Z t' ea pr i x a;have a:P (AE sc (h0::hs) k loc (.exc c s H')):=a;refine aW x ?_;clear x;intro Xs RX xx;have hk:J.scope.kind=.function:=C.N.kind;have j2:∀y,J.kindOf y=sc.lookup y:=λy=>by unfold Env.kindOf;rwa[C.N.names];rfl
 refine vL C.fr RX xx C.hf λbB Cl oe dx m vs tk T oT ts m0 V hC hc u9 hd v0 h1 j3 j4 h3=>?_;have j5:=(Array.getElem?_eq_some_iff.mp h3).1;have he:=(V.dS _ (aC (aE))).1;have hT:=(V.dS _ (aE)).1;change _=some oe at he;change _=some oT at hT;unfold setFlight;refine aF (wpAny_field he hd h1 ?_);rwa[aI (show(Value.ref T !=Value.none)=true from by simp)];refine wpAny_setField hT j4 j5 ?_;refine fN (nN hT j4 3 .none) λj6 w1 w2 w3 w4=>?_;refine oA (V.gM (p':=.obj T j6) (Heap.SameBut.update ..) hT (fR j4 (by rwa[j3];simp)) rfl w4) λd9 m4=>?_;have II:=i.trans (m0.trans m4);have NN:∀{X:Heap}{Y:Obj},aZ h X->dG F J sc loc aO X (.obj T Y::.obj ea oe::.ns dx m::(own++aP)):=λ{X Y}I=>C.N.mono pr I λp hp=>aC (aC (aC hp));refine eC stuck a λq0 hh a=>eC stuck a λab m5 a=>eC stuck a λzb w6 a=>?_;obtain⟨xo,bs⟩:=q0;refine Q4 m5 λqq pq A9 eb=>IL w6 λpb pz ez=>?_;rw[show bs=_ from eb,ez]at hh;clear m5;induction xo using Option.casesOn with
 |none=>refine eC stuck a λw hw a=>bU stuck a λf a=>eC stuck a λo ho a=>eC stuck a λv hv a=>zO hw λn1 p1 ew=>?_;rw[ew]at hh;refine uZ O XF hC hc hd h1 hk j2 C.N.glob (Q:=Q) (E:=E) (b₀:=_) (bs:=_) (xo:=none) (λpos b6 m6 b D b7=>?_) (h0::hs) _ t' j6 _ (aZ.refl _) hh d9 (w1.trans j3) w3 (by simpa using j5);refine wpAny_execs_cons (wpAny_Return_some (MU (M:=model F.prog F.w) (by intro _ _ z;cases z) (by intro _ _ z;cases z) (wpAny_Constant_str ?_)));refine wO O b7 (NN (II.trans D)) f.2 ho hv λy f7 m7 b8 G ry=>?_;have KV:cZ F g u B (.obj T b::.obj ea oe::.ns dx m::(own++aP)) aO f7 P (λv H=>k (.ret v) loc H) (λx s=>Q (.ret x) s):=λz5 z6 w7 f8 m8 z7 m9 n6 b9 j7 j8=>K.at C.N (pr.trans m9) (II.trans (D.trans (b8.trans n6))) (TX b9) (.ret j7) j8;exact KV.newTuple G (l:=[.str w,v]) (items:=[_,y].toArray) (.cons (.str _ _) (.cons ry .nil)) a
 |some xn=>
  refine eC stuck a λya w8 a=>bU stuck a λf a=>eC stuck a λo ho a=>eC stuck a λv hv n8=>IL w8 λpa py ey=>?_;refine Dc f ?_;clear f;intro w9 y0 c6 y6 n9;refine RG n9 ?_;clear n9;intro p0 y7 d6 y8;rw[ey,<-y0,y6]at hh;clear eb y7;subst w9
  have fresh:aU "fault" loc=none:=by
   cases z:aU ("fault":Str) loc with
   |none=>rfl
   |some _=>rw[z]at c6;cases c6
  refine eS (XF.fault) λCf _ _ r6 XC _=>?_;have:Cl=Cf:=by rw[p0,r6]at hC;clear XC;have zz:=aM hC;cases zz;rfl
  clear r6;subst this;refine uZ O XF hC hc hd h1 hk j2 C.N.glob (Q:=Q) (E:=E) (b₀:=_) (bs:=_) (xo:=some "fault") (λpos b6 m6 b D b7=>?_) (h0::hs) _ t' j6 _ (aZ.refl _) hh d9 (w1.trans j3) w3 (by simpa using j5);dsimp only;have j9:Lu F aO H' (own++.obj T b::.obj ea oe::.ns dx m::aP) b6:=b7.perm (J9 _ _ _ _ _);have r7:dG F J sc loc aO b6 (own++.obj T b::.obj ea oe::.ns dx m::aP):=C.N.mono pr (II.trans D) λp hp=>(J9 _ _ _ own aP).mem_iff.mp (aC (aC (aC hp)));refine wH j9 r7 (.refl own) W d6 fresh λf7 m7 j z8 b8 r8 r9 G f9 d7 k8=>?_;have me:bA.obj ea oe∈j++.obj T b::.obj ea oe::.ns dx m::aP:=cG _ (aC (aE));have md:bA.ns dx m∈j++.obj T b::.obj ea oe::.ns dx m::aP:=cG _ (aC (aC (aE)));refine wpAny_execs_cons (wpAny_Return_some (MU (M:=model F.prog F.w) (by intro _ _ z;cases z) (by intro _ _ z;cases z) ?_));rw[arm_eval_Attribute];refine aF (o_ rfl (ldn hk ((j2 _).trans d6) (G.dS _ (bY _ d7)).1 k8 ?_));refine aF (dX (aF (cH (NY O XC (aC (aC (aE))) G me md hc u9 hd (v0 p0) rfl (aF (wpAny_letTemporaryGo (a_ ?_)))))));refine wO O G f9 y8 ho hv λy f8 m8 i4 b9 ry=>?_;have s5:=f9.mono aQ i4 λz9 h=>h;have y9:=II.trans (D.trans (b8.trans i4))
  have KV:cZ F g u B (j++.obj T b::.obj ea oe::.ns dx m::aP) aO f8 P (λv H=>k (.ret v) loc H) (λx s=>wpAny F.mo A (do bindName J "fault" .none;unbindBehindTheSuite J "fault" pos) (λz9 s6=>Q (.ret x) s6) E s):=by
   intro A0 s7 c9 A1 A2 A3 i5 i6 s8 l0 l4;have s9:=s5.mono i5 i6 λz9 h=>h;refine aF (wpAny_bindName (wH s8 s9 r8 r9 d6 fresh λA4 A5 u8 A6 i7 u0 A7 u3 u4 d8 l9=>?_));refine F0 u3 u4 u0 d8 l9 d6 fresh λi8 A8 S i9 j0 j1 u5=>?_;have u6:Lu F c9 s7 (S++aP) i8:=TX (j1.perm (J9 _ _ _ _ _).symm);have u7:dG F J sc loc c9 i8 (S++aP):=by have:=(u5.rO).rO;refine this.N8 ?_;intro ez;refine oE ((W.same j0).ns) λmw z0=>?_;have nd:=j1.nodup;rw[eZ,List.nodup_append]at nd;exact nd.2.2 _ (iY z0) dx (c7.mpr ⟨.ns dx m,aC (aC (aE)),rfl⟩) ez.symm
   exact K _ _ _ _ _ _ _ _ (pr.trans i5) (y9.trans (i6.trans (i7.trans i9))) j0 u6 u7 (.ret (l0.mono aQ (i7.trans i9))) l4
  exact KV.newTuple b9 (l:=[.str s,v]) (items:=[_,y].toArray) (.cons (.str _ _) (.cons ry .nil)) n8
end
section
theorem VP(i:dC F g u B cf d n)(j:∀m<n,dC F g u B cf d m)(l:∀m<n,iN F g u B cf d m)(ia:f_ F g u B cf d n)(O:cA F)(r:jE F):NA F g u B cf d n:=by
 refine⟨λ{A J L sc st loc own aP U H h t P k Q E}o C W R K X stuck f=>?_⟩;rcases o with⟨t0,a,b,c,q,p,rfl⟩|⟨e,p,rfl⟩|⟨e,q,h0,hs,p,rfl⟩;·exact bU stuck f λhf f=>MM @i @j @l @ia hf C W R K X stuck f
 ·exact Nr @i O r C R X stuck f
 ·exact Dv @i O r C W R K stuck f
structure Oq(F:Fix)(g:Array GenState)(u:Drawn)(B:OsState)(cf:CF)(d n:Nat):Prop where
 ev:dC F g u B cf d n
 opt:y_ F g u B cf d n
 n6:iN F g u B cf d n
 asg:f_ F g u B cf d n
 ex:uT F g u B cf d n
theorem No:Oq F g u B cf d 0:=by
 refine⟨?_,?_,?_,?_,?_⟩;·intro A J L sc e loc Θ U H h t P k Q E C R K X stuck a;exact(stuck a).elim
 ·intro A J L sc e loc Θ U H h t P k Q E C R K X stuck a;exact(stuck a).elim
 ·intro A J L sc e loc Θ U H h t P k Q E C R K X stuck a;exact(stuck a).elim
 ·intro A J L sc b v x loc own aP U H h t P k Q E C W R rv K X stuck a;exact(stuck a).elim
 ·intro A J L sc st loc own aP U H h t P k Q E C W R K X stuck a;exact(stuck a).elim
theorem N9(i:xX F g u B cf d)(c:∀fk vs H k,Lx fk=none->cf fk vs H k=.stuck)(O:cA F)(j:jE F):∀n m,m<=n->Oq F g u B cf d m
 |0,m,h=>by rwa[Nat.le_zero.mp h];exact No
 |n+1,m,h=>by
  have b:=N9 i c O j n;rcases Nat.lt_or_ge n m with f|f;·have e:m=n+1:=Nat.le_antisymm h f;clear h f;subst e;have a:=b n (Nat.le_refl _);exact⟨WC a.ev a.opt a.n6 (N6 a.ev a.n6) i c O,P1 a.ev,PP a.ev a.n6 O,RM a.ev a.opt a.asg O,V_ a.ev a.n6 a.asg a.ex (VP a.ev (λm hm=>(b m (Nat.le_of_lt hm)).ev) (λm hm=>(b m (Nat.le_of_lt hm)).n6) a.asg O j) O⟩
  ·exact b m f
theorem yK:∀(d:Nat)fk vs H k,Lx fk=none->aA d fk vs H k=.stuck
 |0,_,_,_,_,_=>rfl
 |d+1,fk,vs,H,k,e=>by show oR (Lx fk) _=_;rwa[e];rfl
theorem Bg(O:cA F)(c:jE F)(d:Nat):xX F g u B (aA d) d:=by
 induction d with
 |zero=>intro A Θ U H h t P k Q E fk D f vals xs m n b e i j o R rs K X stuck l;exact(stuck l).elim
 |succ d a=>exact UP O ((N9 a (yK d) O c 30 30 (Nat.le_refl _)).ex)
end
noncomputable def j7:List Str->List Value->List Value->Option (List (Str×Value))
 |[],_,[]=>some []
 |[],_,_::_=>none
 |p::Y,ds,v::vs=>(j7 Y ds vs).map ((p,v)::·)
 |p::Y,ds,[]=>match ds.drop (ds.length-(p::Y).length)with
  |d::_=>if(p::Y).length<=ds.length then(j7 Y ds []).map ((p,d)::·)else none
  |[]=>none
variable{ds:List Value}
theorem uG{p:Str}{vs:List Value}(e:j7 (p::Y) ds vs=some b)(k:∀y l a,j7 Y ds a=some l->b=(p,y)::l->(vs=y::a\/(vs=[]/\a=[]/\(p::Y).length<=ds.length/\∃r,ds.drop (ds.length-(p::Y).length)=y::r))->C):C:=by
 have g:∀y a,(j7 Y ds a).map ((p,y)::·)=some b->(vs=y::a\/(vs=[]/\a=[]/\(p::Y).length<=ds.length/\∃r,ds.drop (ds.length-(p::Y).length)=y::r))->C:=by
  intro y a e q
  cases c:j7 Y ds a with
  |none=>rw[c]at e;cases e
  |some l=>rw[c]at e;exact k y l a c (aM e).symm q
 clear k;induction vs using List.casesOn with
 |cons v vs=>exact g v vs e (.inl rfl)
 |nil=>
  have e:(match ds.drop (ds.length-(p::Y).length)with
   |d::_=>if(p::Y).length<=ds.length then(j7 Y ds []).map ((p,d)::·)else none
   |[]=>none)=some b:=e
  cases f:ds.drop (ds.length-(p::Y).length)with
  |nil=>rw[f]at e;exact dW e
  |cons d r=>
   rw[f]at e;by_cases q:(p::Y).length<=ds.length;·exact g d [] ((aI q).symm.trans e) (.inr ⟨rfl,rfl,q,r,f⟩)
   ·cases(aH q).symm.trans e
theorem wN:∀{vs:List Value}{b:List (Str×Value)},j7 Y ds vs=some b->b.map (·.1)=Y:=by
 induction Y with
 |nil=>
  intro vs b e
  induction vs using List.casesOn with
  |nil=>have a:=aM e;subst a;rfl
  |cons v vs=>cases e
 |cons p Y c=>intro vs b e;exact uG e λy l d f hb z9=>by rwa[hb];rwa[bX];rwa[c f];rfl
theorem LZ:∀{vs:List Value}{b:List (Str×Value)},j7 Y ds vs=some b->vs.length<=Y.length/\Y.length<=vs.length+ds.length:=by
 induction Y with
 |nil=>
  intro vs b e
  induction vs using List.casesOn with
  |nil=>exact⟨Nat.le_refl _,Nat.zero_le _⟩
  |cons v vs=>cases e
 |cons p Y a=>
  intro vs b e;refine uG e λy l c d hb q=>?_;rcases q with rfl|⟨rfl,rfl,q,_⟩;·have:=a d;rwa[List.length_cons];rwa[List.length_cons];lia
  ·exact⟨Nat.zero_le _,fS q (Nat.le_add_left _ _)⟩
noncomputable def pO(Y:List Str)(ds:List Value):List (Str×Value):=(Y.drop (Y.length-ds.length)).zip (ds.drop (ds.length-Y.length))
theorem wS{p n:Str}(h:n≠p):(pO (p::Y) ds).lookup n=(pO Y ds).lookup n:=by
 unfold pO;by_cases a:ds.length<=Y.length;·have e1:(p::Y).length-ds.length=(Y.length-ds.length)+1:=Nat.succ_sub a;have b:ds.length-(p::Y).length=0:=Nat.sub_eq_zero_of_le (Nat.le_succ_of_le a);have c:ds.length-Y.length=0:=Nat.sub_eq_zero_of_le a;rwa[e1];rwa[b];rwa[c];rwa[List.drop_succ_cons];rfl
 ·have g:=Nat.lt_of_not_le a;have e1:(p::Y).length-ds.length=0:=Nat.sub_eq_zero_of_le g;have b:Y.length-ds.length=0:=Nat.sub_eq_zero_of_le (Nat.le_of_lt g);have lt:ds.length-(p::Y).length<ds.length:=Nat.sub_lt (Nat.zero_lt_of_lt g) (Nat.succ_pos _);rw[e1,b,List.drop_zero,List.drop_zero,List.drop_eq_getElem_cons lt];have c:ds.length-(p::Y).length+1=ds.length-Y.length:=Nat.succ_pred_eq_of_pos (Nat.sub_pos_of_lt g);rwa[c];rwa[List.zip_cons_cons];rwa[fA];have:(n==p)=false:=by simpa using h
  rwa[this];rfl
theorem JQ{n:Str}{v:Value}:∀{vs:List Value}{b:List (Str×Value)},Y.Nodup->j7 Y ds vs=some b->(n,v)∈b->((Y.zip vs).lookup n).or ((pO Y ds).lookup n)=some v:=by
 induction Y with
 |nil=>
  intro vs b nd e hm
  induction vs using List.casesOn with
  |nil=>have a:=aM e;subst a;cases hm
  |cons v vs=>cases e
 |cons p Y g=>
  intro vs b nd e hm;rw[dF]at nd;refine uG e λy l i d hb q=>?_;rw[hb]at hm;have c:(n,v)∈l->n≠p:=λhm q=>nd.1 (by refine cM (wN d) ?_;refine cM q ?_;exact c7.mpr ⟨_,hm,rfl⟩);clear e;rcases q with rfl|⟨rfl,rfl,q,r,hr⟩
  ·rwa[List.zip_cons_cons];rwa[fA];rcases bV.mp hm with e|hm;·clear nd hm hb c;have a:=(Prod.mk.inj e).1;have f:=(Prod.mk.inj e).2;subst a;subst f;rewrite[beq_self_eq_true];rfl
   ·rwa[show(n==p)=false from beq_eq_false_iff_ne.mpr (c hm)];rwa[wS (c hm)];exact g nd.2 d hm
  ·rcases bV.mp hm with e|hm;·clear nd hm hb c;have a:=(Prod.mk.inj e).1;have f:=(Prod.mk.inj e).2;subst a;subst f;show((pO (n::Y) ds).lookup n)=some v;unfold pO;rwa[hr];rwa[show(n::Y).length-ds.length=0 by lia];rwa[List.drop_zero];rwa[List.zip_cons_cons];rwa[fA];rewrite[beq_self_eq_true];rfl
   ·show((pO (p::Y) ds).lookup n)=some v;rwa[wS (c hm)];have h:=g nd.2 d hm;rw[List.zip_nil_right]at h;exact h
theorem sH(f:Str×Value->List (Str×Value)->Sem (ForInStep (List (Str×Value))))(hf:∀p s,f p s=if(s.lookup p.1).isNone=true then pure (.yield (s++[p]))else pure (.yield s)):∀(L:List (Str×Value))(s:List (Str×Value)),∃r,forIn L s f=(pure r:Sem _)/\∀n,r.lookup n=(s.lookup n).or (L.lookup n)
 |[],s=>⟨s,rfl,λn=>by simp⟩
 |p::L,s=>by
  rw[List.forIn_cons,hf];by_cases h:(s.lookup p.1).isNone=true;·rwa[aI h];refine aW (sH f hf L (s++[p])) λr e q=>?_;refine⟨r,by simpa using e,λn=>?_⟩;rwa[q n];rwa[List.lookup_append];rwa[Option.or_assoc];congr 1;rwa[fA];rwa[fA];rwa[List.lookup_nil];induction n==p.1 using Bool.casesOn<;>simp
  ·rwa[aH h];refine aW (sH f hf L s) λr e q=>?_;refine⟨r,by simpa using e,λn=>?_⟩;rwa[q n];rwa[fA]
   cases hb:n==p.1 with
   |false=>rfl
   |true=>
    have a:n=p.1:=c_.mp hb;clear hb;subst a
    cases b:s.lookup p.1 with
    |none=>rw[b]at h;exact aV rfl h
    |some _=>rfl
theorem uK{f:Str->Option (Str×Value)}:∀{b:List (Str×Value)},(∀n v,(n,v)∈b->f n=some (n,v))->(b.map (·.1)).filterMap f=b
 |[],_=>rfl
 |(n,v)::b,h=>by rwa[bX];rwa[List.filterMap_cons];rwa[h n v (aE)];rwa[uK λn v hm=>h n v (aC hm)];rfl
def yG(h:Heap)(d:Value)(ds:List Value):Prop:=(d=.none/\ds=[])\/∃T o items n,d=.ref T/\h.get? T=some o/\o.data=.seq items n/\items.toList=ds
theorem D7:∀{Y:List Str}{xs:List Value}{k:Nat}{n:Str},k<=xs.length->n∈Y.take k->((Y.zip xs).lookup n).isNone=false
 |[],_,_,_,_,h=>by rw[List.take_nil]at h;cases h
 |_::_,[],0,_,_,h=>nomatch h
 |_::_,_::_,0,_,_,h=>nomatch h
 |_::_,[],_+1,_,hk,_=>aV hk (Nat.not_succ_le_zero _)
 |p::Y,x::xs,k+1,n,hk,h=>by
  rwa[List.zip_cons_cons];rwa[fA]
  cases hb:n==p with
  |true=>rfl
  |false=>exact(bV.mp h).elim (λe=>aV (c_.mpr e) (by rwa[hb];exact Bool.false_ne_true)) λh=>D7 (Nat.le_of_succ_le_succ hk) h
theorem Q9{d:Value}(e:yG s.heap d ds){Q:Option (Array Value)->Shared->Prop}(c:∀a:Option (Array Value),(a.getD #[]).toList=ds->Q a s):wpAny M A (seqItems? d) Q E s:=e.elim (λq=>by rwa[q.1];exact a_ (c none (by rwa[q.2];rfl))) λq=>by refine i7 q ?_;clear q;intro T o items b;refine fN b ?_;clear b;intro n e1 f g h;rwa[e1];exact wpAny_seqItems f g (c (some items) h)
theorem U3(n m:Nat):m-(n-(n-m))=m-n:=by
 rcases Nat.le_total n m with h|h;·rwa[Nat.sub_eq_zero_of_le h];rewrite[Nat.sub_zero];rfl
 ·rwa[Nat.sub_sub_self h];rw[Nat.sub_self];rwa[Nat.sub_eq_zero_of_le h];rfl
theorem GD{fd:FuncData}(c:fd.params.posonlyargs=[])(h:fd.params.args.map (·.arg)=Y)(i:fd.params.vararg=none)(j:fd.params.kwonlyargs=[])(k:fd.params.kwarg=none)(nd:Y.Nodup)(f:yG s.heap fd.defaults ds)(hb:j7 Y ds xs=some b):BindsTo s fd ⟨xs,[]⟩ b:=by
 intro M A E Q q;have g:=LZ hb;obtain⟨D,F,⟨p1,p2,p3,p4,p5,p6,p7⟩,G,H,I,J,o,K,p,t,u,w,y,z⟩:=fd;replace c:p1=[]:=c;replace i:p3=none:=i;replace j:p4=[]:=j;replace k:p6=none:=k;replace h:p2.map (·.arg)=Y:=h;replace f:yG s.heap o ds:=f;subst c;subst i;subst j;subst k;subst h;refine oE (⟨_,rfl⟩:∃Y,Y=p2.map (·.arg)) λY l=>?_;rw[<-l]at nd hb g;have h0:¬((decide (xs.length>Y.length)&&true)=true):=by rw[Bool.and_true,decide_eq_true_iff];exact Nat.not_lt.mpr g.1
 have d:Y.length-(ds.drop (ds.length-Y.length)).length=Y.length-ds.length:=by rwa[List.length_drop];rewrite[U3];rfl
 have c:¬((!(List.filter (λn=>((Y.zip xs).lookup n).isNone) (Y.take (Y.length-(ds.drop (ds.length-Y.length)).length))).isEmpty)=true):=by rwa[show List.filter (λn=>((Y.zip xs).lookup n).isNone) (Y.take (Y.length-(ds.drop (ds.length-Y.length)).length))=[]from List.filter_eq_nil_iff.mpr λn B=>by rwa[D7 (d▸Nat.sub_le_of_le_add g.2) B];exact Bool.false_ne_true];exact Bool.false_ne_true
 refine aW (sH (λx s=>if(List.lookup x.fst s).isNone=true then pure (ForInStep.yield (s++[(x.fst,x.snd)]))else pure (ForInStep.yield s)) (λz9 z9=>rfl) ((List.drop (Y.length-ds.length) Y).zip (List.drop (ds.length-Y.length) ds)) (Y.zip xs)) λr e hr=>?_;have hB:Q (List.filterMap (λn=>Option.map (λx=>(n,x)) (List.lookup n r)) (Y++[])) s:=by rw[List.append_nil];refine cM (wN hb) ?_;rwa[uK λn v hm=>by rwa[show List.lookup n r=some v from(hr n).trans (JQ nd hb hm)];rfl];exact q
 rw[<-d]at e;rw[l]at h0 c e hB;clear hr q nd hb g d l;show wpAny M A (seqItems? o>>=_) Q E s;refine aF (Q9 f λa C=>?_);clear f;rw[<-C]at c e;show wpAny M A (ite _ _ _) Q E s;refine wpAny_ite_false (cU h0) ?_;show wpAny M A (ite _ _ _) Q E s;refine wpAny_ite_false (cU c) (aF (m:=forIn _ _ _) (wpAny_of_eq e ?_));show wpAny M A (pure (List.filterMap (λn=>Option.map (λx=>(n,x)) (List.lookup n r)) (p2.map (·.arg)++[]))) Q E s;exact a_ hB
noncomputable def AG:Value->String->Bool
 |.type T,s=>T==s
 |_,_=>false
noncomputable def CP:Value->Str->Bool
 |.str x _,s=>x==s
 |_,_=>false
noncomputable def CQ:Value->Int->Bool
 |.int x _,i=>x==i
 |_,_=>false
noncomputable def Eo:Data->Option ClassData
 |.cls cd=>some cd
 |_=>none
noncomputable def SZ:Data->Option (Array Value)
 |.seq items _=>some items
 |_=>none
noncomputable def Fu:Data->Option (Array DictEntry)
 |.dict es _=>some es
 |_=>none
noncomputable def j6{X:Type}(o:Option X)(f:X->Bool):Bool:=match o with
 |some x=>f x
 |none=>false
theorem cX{a b:Bool}:(a&&b)=true↔a=true/\b=true:=by induction a using Bool.casesOn<;>induction b using Bool.casesOn<;>decide
theorem ff(h:false=true):C:=Bool.noConfusion h
theorem eM{o:Option X}{f:X->Bool}(e:j6 o f=true):∃x,o=some x/\f x=true:=by
 induction o using Option.casesOn with
 |none=>exact ff e
 |some x=>exact⟨x,rfl,e⟩
theorem vR{v:Value}{s:String}(e:AG v s=true):v=.type s:=by
 induction v using PySem.Value.casesOn with
 |type T=>exact congrArg _ (c_.mp e)
 |_=>exact ff e
theorem xT{v:Value}{s:Str}(e:CP v s=true):∃t,v=.str s t:=by
 induction v using PySem.Value.casesOn with
 |str x t=>exact⟨t,by rwa[c_.mp e];rfl⟩
 |_=>exact ff e
theorem xN{v:Value}{s:Int}(e:CQ v s=true):∃t,v=.int s t:=by
 induction v using PySem.Value.casesOn with
 |int x t=>exact⟨t,by rwa[c_.mp e];rfl⟩
 |_=>exact ff e
theorem YN{d:Data}{c:ClassData}(e:Eo d=some c):d=.cls c:=by
 induction d using PySem.Data.casesOn with
 |cls x=>exact congrArg _ (aM e)
 |_=>exact(aS e).elim
theorem LU{d:Data}{c:Array Value}(e:SZ d=some c):∃n,d=.seq c n:=by
 induction d using PySem.Data.casesOn with
 |seq x n=>exact⟨n,by rwa[aM e];rfl⟩
 |_=>exact(aS e).elim
theorem ZL{d:Data}{c:Array DictEntry}(e:Fu d=some c):∃n,d=.dict c n:=by
 induction d using PySem.Data.casesOn with
 |dict x n=>exact⟨n,by rwa[aM e];rfl⟩
 |_=>exact(aS e).elim
noncomputable def DW:Value->Bool
 |.none=>true
 |_=>false
noncomputable def LK:Value->Bool->Bool
 |.bool c,b=>b==c
 |_,_=>false
noncomputable def YD:Value->Option Addr
 |.ref a=>some a
 |_=>none
noncomputable def Eu:Data->Option (Array Value)
 |.fields vs=>some vs
 |_=>none
noncomputable def ZQ:Data->Option FuncData
 |.func fd=>some fd
 |_=>none
noncomputable def Ep:FuncBody->Option (List Stmt)
 |.stmts b=>some b
 |_=>none
theorem BA{v:Value}(e:DW v=true):v=.none:=by
 induction v using PySem.Value.casesOn with
 |none=>rfl
 |_=>exact ff e
theorem NJ{v:Value}{b:Bool}(e:LK v b=true):v=.bool b:=by
 induction v using PySem.Value.casesOn with
 |bool c=>rwa[c_.mp e];rfl
 |_=>exact ff e
theorem O0{v:Value}(e:YD v=some a):v=.ref a:=by
 induction v using PySem.Value.casesOn with
 |ref b=>rwa[aM e];rfl
 |_=>exact(aS e).elim
theorem Az{d:Data}{c:Array Value}(e:Eu d=some c):d=.fields c:=by
 induction d using PySem.Data.casesOn with
 |fields x=>rwa[aM e];rfl
 |_=>exact(aS e).elim
theorem Bd{d:Data}{c:FuncData}(e:ZQ d=some c):d=.func c:=by
 induction d using PySem.Data.casesOn with
 |func x=>rwa[aM e];rfl
 |_=>exact(aS e).elim
theorem X2{d:FuncBody}{c:List Stmt}(e:Ep d=some c):d=.stmts c:=by induction d using PySem.FuncBody.casesOn<;>first|exact(aS e).elim|rw[aM e]
noncomputable def OQ:V->Value->Bool
 |.none,x=>DW x
 |.bool b,x=>LK x b
 |.int i,x=>CQ x i
 |_,_=>false
noncomputable def zS:List V->List Value->Bool
 |[],[]=>true
 |v::l,x::r=>OQ v x&&zS l r
 |_,_=>false
noncomputable def Dz(K:Frag)(d:Value)(ds:List V):Bool:=DW d&&ds.isEmpty||j6 (YD d) λT=>j6 (K.lookup T) λo=>j6 (SZ o.data) λitems=>zS ds items.toList
noncomputable def Oe(K:Frag)(c:Value)(q:Str):Bool:=j6 (YD c) λa=>j6 (K.lookup a) λo=>j6 (Eu o.data) λvs=>j6 vs[1]? λv=>CP v q
noncomputable def yF:List Str->Bool
 |[]=>true
 |x::r=>!r.contains x&&yF r
noncomputable def YI(K:Frag)(f:Addr)(D:Def):Bool:=j6 (K.lookup f) λo=>AG o.cls "function"&&j6 (ZQ o.data) λfd=>fd.scope.names==D.sc&&fd.scope.kind==.function&&!fd.scope.isCoroutine&&!fd.scope.isGenerator&&fd.closure.isEmpty&&fd.globals==mainGlobals&&fd.builtins==builtinsNs&&fd.params.posonlyargs.isEmpty&&fd.params.args.map (·.arg)==D.params&&fd.params.vararg.isNone&&fd.params.kwonlyargs.isEmpty&&fd.params.kwarg.isNone&&Dz K fd.defaults D.qZ&&Oe K fd.code fd.qualname&&D.params.all (λp=>p !=("__debug__":Str)&&p !=("__classdict__":Str)&&(D.sc.lookup p==some .local||D.sc.lookup p==some .cell))&&yF D.params&&yF (D.sc.map (·.1))
noncomputable def I_(K:Frag)(f:Addr):Option (List Stmt):=(K.lookup f).bind λo=>(ZQ o.data).bind λfd=>Ep fd.body
theorem NB(e:OQ v x=true):RV F U h v x:=by
 induction v using V.casesOn with
 |none=>rwa[BA e];exact .none
 |bool b=>rwa[NJ e];exact .bool _
 |int i=>refine oE (xN e) λt aG=>?_;clear e;subst aG;exact .int _ _
 |_=>exact ff e
theorem HB:∀{r:List Value},zS l r=true->b9 F U h l r:=by
 induction l with
 |nil=>intro r e;induction r using List.casesOn with
  |nil=>exact .nil
  |cons _ _=>exact ff e
 |cons v l a=>intro r e;induction r using List.casesOn with
  |nil=>exact ff e
  |cons x r=>exact .cons (NB (cX.mp e).1) (a (cX.mp e).2)
theorem uN{l:List Str}:yF l=true->l.Nodup:=by
 induction l with
 |nil=>exactλz9=>List.nodup_nil
 |cons x r a=>intro e;refine oA (cX.mp e) λe1 b=>?_;refine dF.mpr ⟨λh=>?_,a b⟩;rw[List.contains_iff_mem.mpr h]at e1;exact ff e1
theorem MX(Y:List Str){c:List V}:∀{vals:List V}{xs:List Value}{loc:Loc},b9 F U h c ds->b9 F U h vals xs->lQ Y c vals=some loc->∃b,j7 Y ds xs=some b/\oS F U h loc b:=by
 induction Y with
 |nil=>
  intro vals xs loc i rs e
  cases rs with
  |nil=>refine cM (aM e) ?_;exact⟨[],rfl,.nil⟩
  |cons a b=>exact(aS e).elim
 |cons p Y n=>
  intro vals xs loc i rs e
  cases rs with
  |cons a r=>refine aW (Option.map_eq_some_iff.mp e) λl k cB=>?_;clear e;subst cB;refine aW (n i r k) λb hb m=>?_;exact⟨_,show(j7 Y ds _).map _=_ by rwa[hb];rfl,.cons a m⟩
  |nil=>
   have j:=i.length;have f:=i.drop (c.length-(p::Y).length)
   replace e:(match c.drop (c.length-(p::Y).length)with
    |d::_=>if(p::Y).length<=c.length then(lQ Y c []).map ((p,d)::·)else none
    |[]=>none)=some loc:=e;generalize c.drop (c.length-(p::Y).length)=y at e f;generalize o:ds.drop (c.length-(p::Y).length)=z at f
   cases f with
   |nil=>exact(aS e).elim
   |cons q s=>
    by_cases g:(p::Y).length<=c.length
    ·replace e:=(aI g).symm.trans e;refine aW (Option.map_eq_some_iff.mp e) λl k aG=>?_;clear e;subst aG;refine aW (n i .nil k) λb hb m=>?_;refine⟨_,?_,.cons q m⟩
     show(match ds.drop (ds.length-(p::Y).length)with
      |d::_=>if(p::Y).length<=ds.length then(j7 Y ds []).map ((p,d)::·)else none
      |[]=>none)=_;rwa[j];rwa[o];refine(aI g).trans ?_;rwa[hb];rfl
    ·exact(aS ((aH g).symm.trans e)).elim
theorem Q1{f:Addr}(iO:(F.K f).In F.base)(e:YI (F.K f) f D=true)(m:I_ (F.K f) f=some D.body):kD F D f:=by
 refine aW (eM e) λo ho f1=>?_;refine oA (cX.mp f1) λz f2=>?_;refine aW (eM f2) λfd i f3=>?_;clear e f1 f2;have hb:fd.body=.stmts D.body:=by unfold I_ at m;rw[ho,Option.bind_some,i,Option.bind_some]at m;exact X2 m
 obtain⟨c,d,W,sl⟩:=o;obtain rfl:=Bd i;clear i;obtain rfl:=vR z;simp only[dE,c_,Bool.not_eq_true',List.isEmpty_iff,Option.isNone_iff_eq_none,List.all_eq_true,Bool.or_eq_true,bne_iff_ne,ne_eq]at f3;obtain⟨⟨⟨⟨⟨⟨⟨⟨⟨⟨⟨⟨⟨⟨⟨⟨e1,A⟩,B⟩,C⟩,E⟩,G⟩,H⟩,I⟩,J⟩,q⟩,r⟩,t⟩,g⟩,h⟩,u⟩,k⟩,w⟩:=f3;refine⟨⟨_,fd,iO _ _ ho,rfl,hb,?_,e1,A,B,C,E,G,H,λs U vals xs loc st rs L=>?_⟩,?_,?_,λp hp=>?_,uN k,uN w⟩;·refine aW (eM h) λa M h=>?_;refine aW (eM h) λo' j h=>?_;refine aW (eM h) λvs x h=>?_;refine aW (eM h) λv N h=>?_;refine oE (xT h) λtk aG=>?_;clear h;subst aG;exact⟨a,o',vs,tk,O0 M,iO _ _ j,Az x,N⟩
 ·have l:∃ds,yG s.heap fd.defaults ds/\b9 F U s.heap D.qZ ds:=by
   rcases Bool.or_eq_true_iff.mp g with g|g;·refine oA (cX.mp g) λO P=>?_;rwa[List.isEmpty_iff.mp P];exact⟨[],.inl ⟨BA O,rfl⟩,.nil⟩
   ·refine aW (eM g) λT Q g=>?_;refine aW (eM g) λo' j g=>?_;refine aW (eM g) λitems hi g=>?_;refine oE (LU hi) λn R=>?_;exact⟨_,.inr ⟨T,o',items,n,O0 Q,st _ _ (iO _ _ j),R,rfl⟩,HB g⟩
  refine aW l ?_;clear l;intro ds l S;refine aW (MX D.params S rs L) λb y V=>?_;exact⟨b,GD I J q r t (uN k) l y,V⟩
 ·unfold keepIn;dsimp only;rwa[ho];rfl
 ·unfold typeIn;dsimp only;rwa[ho];rfl
 ·obtain⟨⟨a,b⟩,c⟩:=u p hp;exact⟨a,b,c⟩
noncomputable def qQ(f:Nat->Obj)(n:Nat):Nat->Nat->Nat->BT
 |0,_,_=>.nil
 |k+1,a,b=>match Nat.blt b n with
  |true=>.node (f b) (qQ f n k (2*a) (a+b)) (qQ f n k (2*a) (2*a+b))
  |false=>.nil
theorem vX(f:Nat->Obj)(n:Nat):∀(k a b i:Nat),i+1<2^k->(qQ f n k a b).get i=if a*i+b<n then some (f (a*i+b))else none
 |0,a,b,i,h=>by simp at h
 |k+1,a,b,i,h=>by
  show(match Nat.blt b n with
  |true=>BT.node (f b) (qQ f n k (2*a) (a+b)) (qQ f n k (2*a) (2*a+b))
  |false=>.nil).get i=_
  cases e:Nat.blt b n with
  |false=>
   have:¬b<n:=λq=>by rw[show Nat.blt b n=true from Nat.ble_eq_true_of_le q]at e;exact Y0 e
   rwa[aH λq=>this (Nat.lt_of_le_of_lt (Nat.le_add_left b (a*i)) q)];rfl
  |true=>
   have hb:b<n:=Nat.le_of_ble_eq_true e;dsimp only;rw[BT.get_node];have c:i+1<2*2^k:=by rw[Nat.pow_succ,Nat.mul_comm]at h;exact h
   by_cases h0:i=0;·clear h c;subst h0;simp[hb]
   ·rwa[aH h0];have e1:=Nat.div_add_mod i 2;by_cases p:i%2=1
    ·rw[p]at e1;rwa[aI p];rwa[vX f n k (2*a) (a+b) (i/2) (Nat.lt_of_mul_lt_mul_left (a:=2) (b:=i/2+1) (by rw[<-e1]at c;exact c))];have:2*a*(i/2)+(a+b)=a*i+b:=by refine cM e1 ?_;rw[Nat.mul_add,Nat.mul_one,<-Nat.mul_assoc];rwa[Nat.mul_comm a 2];rw[Nat.add_assoc];rwa[e1];rfl
     rwa[this];rfl
    ·rw[(Nat.mod_two_eq_zero_or_one i).resolve_right p,Nat.add_zero]at e1;rwa[aH p];clear p;generalize i/2=q at e1;clear h;subst e1
     induction q using Nat.casesOn with
     |zero=>exact aV rfl h0
     |succ q=>
      rwa[show q+1-1=q from rfl];rwa[vX f n k (2*a) (2*a+b) q (Nat.lt_of_mul_lt_mul_left (a:=2) (b:=q+1) (Nat.lt_of_succ_lt c))];have:2*a*q+(2*a+b)=a*(2*(q+1))+b:=by rw[<-Nat.mul_assoc];rwa[Nat.mul_comm a 2];rewrite[Nat.mul_succ,Nat.add_assoc];rfl
      rwa[this];rfl
theorem LG{T:BT}{f:Nat->Obj}{life:Life}(a:n<4095)(h:∀i,i<n->(T.get i).getD default=f i):absHeap T n life=absHeap (qQ f n 12 1 0) n life:=by
 unfold absHeap BT.list;have:(List.range n).map (λi=>(T.get i).getD default)=(List.range n).map (λi=>((qQ f n 12 1 0).get i).getD default):=by refine List.map_congr_left λi hi=>?_;rw[List.mem_range]at hi;rwa[h i hi];rwa[vX f n 12 1 0 i (by simp only[Nat.reducePow];lia)];rw[Nat.one_mul,Nat.add_zero];rwa[aI hi];rfl
 rwa[this];rfl
noncomputable abbrev pT:Program:=PySem.Challenge.pw_ot0054_01
noncomputable def zR:Env:={scope:=pT.main.scope,locals:=mainNs,globals:=mainNs,cells:=[],code:=.ref 13,frame:=some 14}
noncomputable def cT:Code:=.body (behindTheImports pT) zR
noncomputable abbrev qT:Pos:={line:=0,col:=0,endLine:=0,endCol:=0}
noncomputable def gQ(a c:Nat):List Stmt:=(pT.main.body.drop a).take c
noncomputable def lf(kn:List (Nat×Obj))(old:Nat->Obj)(i:Nat):Obj:=(kn.lookup i).getD (old i)
noncomputable def tR(kn:List (Nat×Obj))(old:Nat->Obj)(n toks:Nat)(B:OsState):SharedT:=⟨qQ (lf kn old) n 12 1 0,n,{},#[],{},toks,B⟩
noncomputable def TB{X:Type}(n:Nat)(ob:SharedT->X)(r:Flow×SharedT×Code×Pos):(Flow×Code×Pos)×(Nat×Life×Array GenState×Drawn×Nat×OsState)×List (Option Obj)×X:=((r.1,r.2.2.1,r.2.2.2),(r.2.1.n,r.2.1.life,r.2.1.gens,r.2.1.drawn,r.2.1.toks,r.2.1.os),(List.range n).map r.2.1.tree.get,ob r.2.1)
def Mk{X:Type}(w:World)(a:List Stmt)(N:Nat)(kn:List (Nat×Obj))(n toks:Nat)(pos:Pos)(b:List (Nat×Obj))(n' z:Nat)(pos':Pos)(ob:SharedT->X)(val:X):Prop:=∀(old:Nat->Obj)(B:OsState),(segRunT treeTable pT w 11 (some (.ref 6)) 1 N (tR kn old n toks B) (piecesOf a zR cT pos [topFrame qT])).map (TB n ob)=some ((.next,cT,pos'),(n',{},#[],{},z,B),(List.range 15).map (λi=>b.lookup i)++(List.range (n-15)).map (λi=>some (old (i+15))),val)
def Go(w:World)(B:OsState)(kn:List (Nat×Obj))(n toks:Nat)(pos:Pos)(rest:List Stmt)(old:Nat->Obj)(M:Nat):Prop:=∀N r,topRun treeTable pT w 11 (some (.ref 6)) N (tR kn old n toks B).abs (restOf rest zR cT pos [topFrame qT])=some r->topRun treeTable pT w 11 (some (.ref 6)) (M+N) ⟨boot_heap w.params,#[],boot_drawn,boot_toks,B⟩ (topStub pT)=some r
variable{kn:List (Nat×Obj)}{old:Nat->Obj}{n' z:Nat}
theorem Go.part{toks:Nat}{g rest:List Stmt}{M N:Nat}{a:List (Nat×Obj)}{ob:SharedT->X}{val:X}(G:Go w B kn n toks pos (g++rest) old M)(P:Mk w g N kn n toks pos a n' z pos' ob val)(l:15<=n)(hs:∀i,i<15->∃o,a.lookup i=some o)(hk:∀i,15<=i->a.lookup i=none)(v:n'<4095):∃(b:Nat->Obj)(T:SharedT),Go w B a n' z pos' rest b (M+N)/\(∀i,15<=i->i<n->b i=old i)/\(∀i,(T.tree.get i).getD default=lf a b i)/\T.abs=(tR a b n' z B).abs/\T.n=n'/\ob T=val:=by
 obtain⟨⟨f,s,c,p⟩,e1,m⟩:=Option.map_eq_some_iff.mp (P old B);unfold TB at m;simp only[Prod.mk.injEq]at m;clear P;obtain⟨⟨rfl,rfl,rfl⟩,⟨t,x,y,A,C,D⟩,E,F⟩:=m
 have u:∀i,i<n->s.tree.get i=if i<15 then a.lookup i else some (old i):=λi hi=>by
  have:=congrArg (·[i]?) E;rw[e_,List.getElem?_range hi,List.getElem?_append]at this;simp only[bO,List.length_range,e_]at this;by_cases q:i<15;·rw[aI q,List.getElem?_range q]at this;rwa[aI q];simpa using this
  ·rw[aH q,List.getElem?_range (Nat.sub_lt_sub_right (Nat.le_of_not_lt q) hi)]at this;rwa[aH q];have e:i-15+15=i:=Nat.sub_add_cancel (Nat.le_of_not_lt q);simpa[e]using this
 have j:∀i,(s.tree.get i).getD default=lf a (λi=>(s.tree.get i).getD default) i:=λi=>by
  unfold lf;by_cases q:i<15;·refine oE (hs i q) λo ho=>?_;rwa[u i (Nat.lt_of_lt_of_le q l)];rwa[aI q];rwa[ho];rfl
  ·rwa[hk i (Nat.le_of_not_lt q)];rfl
 have d:s.abs=(tR a (λi=>(s.tree.get i).getD default) n' z B).abs:=by unfold SharedT.abs tR;dsimp only;rwa[t];rwa[x];rwa[y];rwa[A];rwa[C];rwa[D];rwa[LG (f:=lf a λi=>(s.tree.get i).getD default) v λi z9=>j i];rfl
 refine⟨λi=>(s.tree.get i).getD default,s,λN' r k=>?_,λi h hi=>?_,j,d,t,F⟩;·have H:=piece_app (tb:=treeTable) (p:=pT) (w:=w) (n₀:=11) (ann:=some (.ref 6)) (env:=zR) (q:=qT) (rest:=rest) (segRun_of e1) (by rwa[d];exact k);have:=G _ _ H;rw[Nat.add_assoc];exact this
 ·show(s.tree.get i).getD default=_;rwa[u i hi];rwa[aH (Nat.not_lt.mpr h)];rfl
noncomputable def MZ(x:String)(t:Nat)(v:Value):Str×Tok×Value:=(Str.ofString x,t,v)
noncomputable def bQ(x:String)(t a:Nat):Str×Tok×Value:=(Str.ofString x,t,.ref a)
noncomputable def SC:List (Str×Tok×Value):=[bQ "_wall" 193 21,bQ "LendError" 227 39,bQ "TypeFault" 243 52,bQ "TraitFault" 259 64,bQ "MachineFault" 285 83,bQ "FuelFault" 301 95,MZ "DROP_types" 305 (.str "Drop" 304),bQ "parts_of" 313 104,bQ "rebuilt" 322 111,bQ "substituted" 328 116,bQ "with_regions" 334 121,bQ "no_region" 341 128,bQ "erased" 348 135,bQ "region_text" 355 142,bQ "type_text" 361 147,bQ "matched" 374 154,bQ "field_rows" 383 161,bQ "fields_of" 389 166,bQ "has_drop" 398 173,bQ "needs_drop" 404 178,MZ "MOST_DEEP_layout" 408 (.int 40 407),bQ "sum_of" 419 185,bQ "size_of" 427 192,bQ "size_within" 433 197,bQ "part_types" 439 202,bQ "first_place" 447 209,bQ "offset_of_field" 458 216,bQ "offset_of_item" 467 223,bQ "Stack" 551 280,bQ "UNINIT" 555 285,MZ "OWNER" 557 (.int 0 556),bQ "pointer" 566 292,bQ "moved" 574 299,bQ "Allocation" 603 314,bQ "Memory" 745 424,bQ "is_enum" 755 435,bQ "parts_told" 761 440,bQ "is_of_parts" 768 447,bQ "parts_of_cells" 782 454,bQ "want_whole" 795 461,bQ "cells_of" 804 468,bQ "rows_of" 810 473,bQ "joined" 819 480,bQ "filled" 830 487,bQ "told_value" 836 492,bQ "head_pairs" 848 499,bQ "could_be" 862 506,bQ "match_type" 878 513,bQ "match_all" 892 520,MZ "MOST_DEEP_traits" 896 (.int 12 895),bQ "last_name" 903 527,bQ "names_of" 909 532,bQ "matches_impl" 920 539,bQ "is_plainly_copy" 927 546,bQ "Selection" 997 587,bQ "select" 1011 598,MZ "DROP_generics" 1015 (.str "Drop" 1014),bQ "key_of" 1021 603,bQ "resolved_ref" 1027 608,bQ "drop_impl" 1036 615,bQ "jobs_of" 1046 622,bQ "DropGlue" 1113 660,bQ "offset_of_part" 1123 671,bQ "BITS" 1153 672,bQ "is_signed" 1160 679,bQ "least" 1167 686,bQ "greatest" 1174 693,bQ "fits" 1182 700,bQ "wrapped" 1191 707,bQ "cast_int" 1199 714,bQ "cut_quotient" 1208 721,bQ "exact" 1217 728,bQ "checked" 1228 735,bQ "shifted" 1240 742,bQ "inverted" 1248 749,bQ "compared" 1257 756,bQ "TAG_KINDS" 1269 757,bQ "COMPARISONS" 1276 758,bQ "is_pointer" 1283 765,bQ "of_bits" 1292 772,bQ "reckoned" 1304 779,bQ "Places" 1420 852,bQ "Rvalues" 1530 920,bQ "Frame" 1577 948,bQ "told_live" 1588 959,bQ "Machine" 1757 1056,bQ "Body" 1845 1121,bQ "World" 1894 1150,bQ "_law_BYTE" 1899 1155,bQ "_law_BIT" 1901 1156,bQ "_law_pool" 1912 1163,bQ "_law_take" 1921 1170,bQ "_law_one" 1929 1177,bQ "_law_wrapped" 1936 1184,bQ "_law_kinds" 1944 1191,bQ "_law_number" 1952 1198,bQ "_law_truth" 1960 1205,bQ "_law_statement" 1971 1212,bQ "_law_end" 1982 1219,bQ "_law_body" 1988 1224,bQ "_law_spot" 1998 1231,bQ "_law_read" 2011 1238,bQ "_law_worked" 2017 1243,bQ "_law_done" 2029 1250,bQ "_law_goal" 2040 1257,bQ "_law_run" 2046 1262,bQ "_law_told" 2057 1269,bQ "_law_fixed_right" 2063 1274,bQ "law" 2078 1281]
noncomputable def Dt:List (Int×Addr):=[(1,20),(5,27),(11,48),(13,60),(15,72),(20,91),(24,103),(33,110),(44,115),(48,120),(54,127),(56,134),(58,141),(62,146),(84,153),(103,160),(105,165),(117,172),(122,177),(140,184),(145,191),(147,196),(166,201),(170,208),(172,215),(175,222),(178,229),(220,291),(222,298),(224,305),(230,324),(299,434),(301,439),(307,446),(309,453),(319,460),(330,467),(336,472),(339,479),(344,486),(349,491),(362,498),(380,505),(400,512),(421,519),(433,526),(435,531),(437,538),(443,545),(449,552),(496,597),(511,602),(515,607),(532,614),(540,621),(542,628),(580,670),(586,678),(588,685),(590,692),(592,699),(594,706),(597,713),(599,720),(602,727),(620,734),(629,741),(633,748),(635,755),(652,764),(654,771),(658,778),(663,785),(723,862),(789,930),(803,958),(810,965),(946,1066),(973,1131),(990,1162),(1003,1169),(1010,1176),(1012,1183),(1014,1190),(1017,1197),(1026,1204),(1029,1211),(1053,1218),(1066,1223),(1077,1230),(1088,1237),(1101,1242),(1118,1249),(1136,1256),(1154,1261),(1172,1268),(1180,1273),(1185,1280)]
noncomputable def CM:List (Nat×Nat×Addr):=[(0,7,98),(7,25,224),(32,7,319),(39,6,455),(45,17,547),(62,9,623),(71,3,672),(74,1,673),(75,13,757),(88,1,758),(89,5,857),(94,4,960),(98,2,1061),(100,8,1171),(108,16,1275),(124,1,1282)]
noncomputable def oJ(P:Params)(x:Str)(t:Tok)(v:Value):DictEntry:=⟨PyData.keyHash P x,.str x t,v⟩
noncomputable def Jf(P:Params)(k:Nat)(nm:Value):Obj:=⟨.type "dict",none,.dict (([oJ P "__name__" 165 nm,oJ P "__doc__" 166 .none,oJ P "__package__" 167 .none,oJ P "__loader__" 168 (.builtin "__main__.__loader__#opaque"),oJ P "__spec__" 169 .none,oJ P "__annotations__" 170 (.ref 6),oJ P "__builtins__" 171 (.ref 4),oJ P "__file__" 173 (.str "/claim/cut.py" 172),oJ P "__cached__" 174 .none]++(SC.take k).map λe=>oJ P e.1 e.2.1 e.2.2).toArray) (9+k),#[]⟩
noncomputable def CS(P:Params)(b:Bool):Obj:=⟨.none,none,match b with
 |true=>.dict #[oJ P "type.__subclasses__.Exception.0" 224 (.int 39 0),oJ P "type.__subclasses__.Exception.n" 225 (.int 1 0)] 2
 |false=>.dict #[] 0,#[]⟩
noncomputable def Ed(m:Nat):Obj:=⟨.none,none,.fields ((Dt.take m).flatMap λc=>[.int c.1 0,.int 0 0,.ref c.2]).toArray,#[]⟩
noncomputable def Jr:Obj:=⟨.type "code",none,.fields #[.str "<module>" 182,.str "<module>" 183,.str "/claim/cut.py" 184,.int 1 0,.int 0 0,.int 0 0,.int 0 0,.int 0 0,.ref 11,.bool false,.int 181 0,.ref 12,.none,.none,.none,.none,.int 185 0,.int 1 0,.str "/claim/cut.py" 186],#[]⟩
noncomputable def Jp:Obj:=⟨.type "frame",none,.plain,#[some (.ref 13),some (.ref 3),some (.ref 3),none,some (.str "__main__" 164),none,some (.ref 0)]⟩
def eP(P:Params)(k m:Nat)(nm:Value)(b:Bool):List (Nat×Obj):=[(3,Jf P k nm),(12,Ed m),(0,boot_o_0 P),(1,boot_o_1 P),(2,CS P b),(4,boot_o_4 P),(5,boot_o_5 P),(6,boot_o_6 P),(7,boot_o_7 P),(8,boot_o_8 P),(9,boot_o_9 P),(10,boot_o_10 P),(11,⟨.type "tuple",none,.seq #[] 0,#[]⟩),(13,Jr),(14,Jp)]
noncomputable def xG(x:Str):Option Value:=(SC.map λe=>(e.1,e.2.2)).lookup x
noncomputable def Et:Option Value->Option Addr
 |some (.ref a)=>some a
 |_=>none
noncomputable def QC:Option (Option Value)->Option Addr
 |some (some (.ref f))=>some f
 |_=>none
noncomputable def Ex:Option PySem.W.CFound->Option Addr
 |some (.val (.ref f))=>some f
 |_=>none
noncomputable def lH(x:Str):Option Addr:=Et (xG x)
def xU:List Str:=IM.map Str.ofString
def zP:List Str:=DH.map Str.ofString
noncomputable def I0(b:List Stmt):List Str:=b.filterMap λst=>match st with
 |.FunctionDef n ..=>some n
 |_=>none
def Iw:Stmt->List Fk
 |.FunctionDef n ..=>if p_ n then[.top n]else[]
 |.ClassDef n _ _ b ..=>if oU n||n==("LendError":Str)||n==("MachineFault":Str)then(I0 b).map (.aL n)else[]
 |_=>[]
def Jv:Stmt->List Str
 |.ClassDef n ..=>if oU n then[n]else[]
 |_=>[]
def W9:Stmt->List (Str×V)
 |.Assign [.Name n _] _ _=>(match Me.lookup n with
  |some v=>[(n,v)]
  |none=>[])
 |_=>[]
noncomputable def WV(j:Nat):List Stmt:=match CM[j]? with
 |some (a,c,_)=>gQ a c
 |none=>[]
noncomputable def Es:Nat->Addr
 |0=>15
 |j+1=>match CM[j]? with
  |some (_,_,n)=>n
  |none=>0
noncomputable def Ks(j:Nat):Addr:=match CM[j]? with
 |some (_,_,n)=>n
 |none=>0
def qW(j:Nat):List Fk:=(WV j).flatMap Iw
def Fp(j:Nat):List Str:=(WV j).flatMap Jv
def SJ(j:Nat):List (Str×V):=(WV j).flatMap W9
noncomputable def oO(K:Frag):Fk->Option Addr
 |.top x=>lH x
 |.aL c m=>match lH c with
  |some C=>QC (findIn K (.ref C) m)
  |none=>none
def Fo(K:Frag)(fk:Fk):Bool:=match Lx fk with
 |some D=>(match oO K fk with
  |some f=>YI K f D
  |none=>false)
 |none=>true
noncomputable def yX(K:Frag)(fk:Fk):Option (List Stmt):=(oO K fk).bind (I_ K)
def RO(K:Frag)(c:Str):Bool:=match lH c with
 |some C=>findIn K (.ref C) "__getattribute__"==some (some (.builtin "object.__getattribute__"))&&findIn K (.ref C) "__getattr__"==some none&&hasDictIn K C&&plainOver K C&&findIn K (.ref C) "__setattr__"==some (some (.builtin "object.__setattr__"))&&makesIn K C&&keepIn K (.ref C)&&BN.all (λs=>!mX c (Str.ofString s)||findIn K (.ref C) (Str.ofString s)==some none)
 |none=>false
noncomputable def FB(a:Addr):Nat:=CM.findIdx λc=>Nat.blt a c.2.2
noncomputable def zE(j:Nat)(a:Addr):Bool:=Nat.beq (FB a) j&&Nat.ble 15 a
noncomputable def S5(j:Nat)(K:Frag)(fk:Fk):Bool:=match oO K fk with
 |some f=>typeIn K (.ref f)==some (.type "function")&&zE j f
 |none=>false
noncomputable def W4(C:Addr):List Value->Bool
 |[]=>false
 |v::bm=>(match v with
  |.ref C'=>C'==C
  |_=>false)&&gG bm
noncomputable def Af:Option (Option Value)->String->Bool
 |some (some (.builtin n)),s=>n==s
 |_,_=>false
noncomputable def Fd(C:Addr)(sl:Array (Option Value))(cd:ClassData):Bool:=W4 C cd.mro&&!cd.hasDel&&cd.hasDict&&sl.toList.length==6&&Af sl.toList[4]? "Exception.__new__"
noncomputable def HR(K:Frag)(C:Addr):Bool:=j6 (K.lookup C) λo=>AG o.cls "type"&&j6 (Eo o.data) (Fd C o.slots)
noncomputable def I5(K:Frag)(c:Str):Bool:=match lH c with
 |some C=>HR K C&&findIn K (.ref C) "__setattr__"==some (some (.builtin "object.__setattr__"))&&findIn K (.ref C) "__getattribute__"==some (some (.builtin "BaseException.__getattribute__"))&&findIn K (.ref C) "__getattr__"==some none&&([("message":Str),"spot","kind"]:List Str).all (λx=>findIn K (.ref C) x==some none)&&keepIn K (.ref C)
 |none=>false
mutual
noncomputable def SU(K:Frag):V->Value->Bool
 |.int i,x=>CQ x i
 |.str s,x=>CP x s
 |.tup l,x=>(match x with
  |.ref a=>j6 (K.lookup a) λo=>AG o.cls "tuple"&&j6 (SZ o.data) λitems=>DN K l items.toList
  |_=>false)
 |_,_=>false
noncomputable def DN(K:Frag):List V->List Value->Bool
 |[],[]=>true
 |v::l,x::r=>SU K v x&&DN K l r
 |_,_=>false
end
noncomputable def sW:List DictEntry->List (Str×Int)->Bool
 |[],[]=>true
 |e::es,p::r=>CP e.key p.1&&CQ e.val p.2&&sW es r
 |_,_=>false
def yD(K:Frag):Bool:=j6 (lH "BITS") λa=>j6 (K.lookup a) λo=>AG o.cls "dict"&&o.dict.isNone&&o.slots.toList.isEmpty&&j6 (Fu o.data) λes=>sW es.toList nS
noncomputable def sN(K:Frag):List Int:=match lH "BITS"with
 |some a=>(match K.lookup a with
  |some ⟨_,_,.dict es _,_⟩=>es.toList.map (·.hash)
  |_=>[])
 |none=>[]
noncomputable def EM:V->Bool
 |.bits=>true
 |_=>false
noncomputable def HK(K:Frag)(p:Str×V):Bool:=match EM p.2 with
 |true=>p.1==("BITS":Str)
 |false=>j6 (xG p.1) (SU K p.2)
noncomputable def IV(K:Frag):Bool:=I5 K "MachineFault"&&I5 K "FuelFault"&&j6 (lH "LendError") λL=>j6 (lH "MachineFault") λC=>j6 (lH "FuelFault") λC'=>j6 (oO K (.aL "LendError" "__init__")) (λl=>(oO K (.aL "MachineFault" "__init__")).isSome&&QC (findIn K (.ref C') "__init__")==some l&&Ex (PySem.W.findCls K (.ref L) (.type "type") "__init__")==some l)&&readsIn K L (.type "type")&&specialIn K (.ref L) "__getattribute__"==some (some (.builtin "type.__getattribute__"))&&!(clsIn K C).any (λcd=>cd.mro.contains (.ref C'))&&!(clsIn K C').any (λcd=>cd.mro.contains (.ref C))
noncomputable def vT(j:Nat)(x:Str):Bool:=match lH x with
 |some a=>zE j a
 |none=>false
def oG(j:Nat)(K:Frag):Bool:=(qW j).all (λfk=>Fo K fk&&S5 j K fk)&&(Fp j).all (λc=>RO K c&&vT j c)&&(SJ j).all (HK K)&&(j !=0||(IV K&&vT 0 "LendError"&&vT 0 "MachineFault"&&vT 0 "FuelFault"))&&(j !=7||yD K)
noncomputable def zL(j:Nat):List Addr:=(match j with
 |0=>[2]
 |_=>[])++(List.range (Ks j-Es j)).map (·+Es j)
noncomputable def AK(j:Nat)(T:SharedT):Frag:=(zL j).filterMap λa=>((T.tree.get a).bind alive).map λo=>(a,o)
def mQ(j:Nat)(T:SharedT):Bool×List (Option (List Stmt))×List Int:=(oG j (AK j T),(qW j).map (yX (AK j T)),match Nat.beq j 7 with
 |true=>sN (AK j T)
 |false=>[])
def iP(j:Nat)(w:World):Bool×List (Option (List Stmt))×List Int:=(true,(qW j).map (λfk=>(Lx fk).map (·.body)),match Nat.beq j 7 with
 |true=>nS.map λp=>hashStr w p.1
 |false=>[])
noncomputable def qV:Program:={pT with main:={pT.main with body:=gQ 124 1}}
noncomputable def r6:List Str:=(SC.map (·.1)).filter (·!=("law":Str))
theorem V5(P:Params)(k m:Nat)(nm:Value)(b:Bool):∀i,i<15->∃o,(eP P k m nm b).lookup i=some o:=by intro i hi;rcases i with _|_|_|_|_|_|_|_|_|_|_|_|_|_|_|i<;>first|exact⟨_,rfl⟩|exact aV hi (Nat.not_lt_of_le (Nat.le_add_left 15 i))
theorem sR(P:Params)(k m:Nat)(nm:Value)(b:Bool):∀i,15<=i->(eP P k m nm b).lookup i=none:=by
 intro i hi;unfold eP;simp only[fA,List.lookup_nil];have:∀j,j<15->(i==j)=false:=λj a=>by rw[beq_eq_false_iff_ne];lia
 rwa[this 3 (by decide)];rwa[this 12 (by decide)];rwa[this 0 (by decide)];rwa[this 1 (by decide)];rwa[this 2 (by decide)];rwa[this 4 (by decide)];rwa[this 5 (by decide)];rwa[this 6 (by decide)];rwa[this 7 (by decide)];rwa[this 8 (by decide)];rwa[this 9 (by decide)];rwa[this 10 (by decide)];rwa[this 11 (by decide)];rwa[this 13 (by decide)];rwa[this 14 (by decide)];rfl
abbrev TR(P:Params):=eP P 0 0 (.str "__main__" 164) false
theorem UO(w:World)(B:OsState):topGo treeTable pT w 11 (some (.ref 6)) 12 ⟨boot_heap w.params,#[],boot_drawn,boot_toks,B⟩ (topStub pT)=some ((tR (TR w.params) (λz9=>default) 15 187 B).abs,⟨denote treeTable cT,cT,qT,[topFrame qT]⟩):=by rwa[PySem.W.Fast.te15667345088766844465];rwa[PySem.W.Fast.te11892475500146522536];rwa[fV];kernel_rfl
theorem N5(w:World)(B:OsState):segRun treeTable pT w 11 (some (.ref 6)) 1 1 (tR (TR w.params) (λz9=>default) 15 187 B).abs (blockOf (behindTheImports pT) zR cT qT [topFrame qT])=some (.next,(tR (TR w.params) (λz9=>default) 15 187 B).abs,cT,qT):=by rwa[PySem.W.Fast.te14374325043358763698];rwa[fV];kernel_rfl
theorem WG(w:World)(B:OsState)(H:Heap)(t:Nat)(pos:Pos):topRun treeTable pT w 11 (some (.ref 6)) 2 ⟨H,#[],{},t,B⟩ (restOf [] zR cT pos [topFrame qT])=some ⟨H,#[],{},t,B⟩:=by rwa[PySem.W.Fast.te14082659384304107361];rwa[fV];kernel_rfl
theorem Lg(w:World)(B:OsState):Go w B (TR w.params) 15 187 qT (behindTheImports pT) (λz9=>default) (12+1):=λN r k=>by rw[Nat.add_assoc];exact go_top (UO w B) (piece_block (N5 w B) k)
theorem RU:behindTheImports pT=gQ 0 7++(gQ 7 25++(gQ 32 7++(gQ 39 6++(gQ 45 17++(gQ 62 9++(gQ 71 3++(gQ 74 1++(gQ 75 13++(gQ 88 1++(gQ 89 5++(gQ 94 4++(gQ 98 2++(gQ 100 8++(gQ 108 16++(gQ 124 1++[]))))))))))))))):=by kernel_rfl
def PF(P:Params)(s:Shared):=((staticsOk (importedModules pT.main.body) (boot_heap P) s.heap&&namesBound pT s.heap&&gensDone s&&laidKept (boot_heap P) s.heap),openSeen qV r6 (importedModules pT.main.body) (λz9=>true) true s)
theorem Nv(w:World):Mk w (gQ 124 1) 38 (eP w.params 108 97 (.str "law_ot0054_01" 1895) true) 1275 2064 ⟨1180,0,1184,63⟩ (eP w.params 109 98 (.str "law_ot0054_01" 1895) true) 1282 2079 ⟨1185,0,1195,29⟩ (λT=>(mQ 15 T,PF w.params T.abs)) (iP 15 w,true,openGood qV r6):=by intro old B;rwa[hX];rwa[fV];kernel_rfl
theorem Oc(w:World):Mk w (gQ 0 7) 1156 (eP w.params 0 0 (.str "__main__" 164) false) 15 187 ⟨0,0,0,0⟩ (eP w.params 6 6 (.str "lendcore.errors" 194) true) 98 302 ⟨20,0,21,8⟩ (mQ 0) (iP 0 w):=by intro old B;rwa[hX];rwa[fV];kernel_rfl
theorem Og(w:World):Mk w (gQ 7 25) 630 (eP w.params 6 6 (.str "lendcore.errors" 194) true) 98 302 ⟨20,0,21,8⟩ (eP w.params 28 26 (.str "lendcore.stacks" 468) true) 224 470 ⟨177,0,177,8⟩ (mQ 1) (iP 1 w):=by intro old B;rwa[hX];rwa[fV];kernel_rfl
theorem On(w:World):Mk w (gQ 32 7) 728 (eP w.params 28 26 (.str "lendcore.stacks" 468) true) 224 470 ⟨177,0,177,8⟩ (eP w.params 34 30 (.str "lendcore.memory" 552) true) 319 604 ⟨224,0,229,27⟩ (mQ 2) (iP 2 w):=by intro old B;rwa[hX];rwa[fV];kernel_rfl
theorem Om(w:World):Mk w (gQ 39 6) 776 (eP w.params 34 30 (.str "lendcore.memory" 552) true) 319 604 ⟨224,0,229,27⟩ (eP w.params 39 35 (.str "lendcore.cells" 746) true) 455 783 ⟨309,0,318,27⟩ (mQ 3) (iP 3 w):=by intro old B;rwa[hX];rwa[fV];kernel_rfl
theorem Oo(w:World):Mk w (gQ 45 17) 469 (eP w.params 39 35 (.str "lendcore.cells" 746) true) 455 783 ⟨309,0,318,27⟩ (eP w.params 54 49 (.str "lendcore.traits" 893) true) 547 928 ⟨443,0,448,46⟩ (mQ 4) (iP 4 w):=by intro old B;rwa[hX];rwa[fV];kernel_rfl
theorem Ol(w:World):Mk w (gQ 62 9) 532 (eP w.params 54 49 (.str "lendcore.traits" 893) true) 547 928 ⟨443,0,448,46⟩ (eP w.params 61 55 (.str "lendcore.drop_glue" 1037) true) 623 1047 ⟨540,0,541,55⟩ (mQ 5) (iP 5 w):=by intro old B;rwa[hX];rwa[fV];kernel_rfl
theorem Oj(w:World):Mk w (gQ 71 3) 374 (eP w.params 61 55 (.str "lendcore.drop_glue" 1037) true) 623 1047 ⟨540,0,541,55⟩ (eP w.params 63 57 (.str "lendcore.integers" 1124) true) 672 1126 ⟨584,0,584,8⟩ (mQ 6) (iP 6 w):=by intro old B;rwa[hX];rwa[fV];kernel_rfl
theorem Of(a:World)(b:Bool):Mk (a.withFollow "special-get-raises" b) (gQ 74 1) 146 (eP (a.withFollow "special-get-raises" b).params 63 57 (.str "lendcore.integers" 1124) true) 672 1126 ⟨584,0,584,8⟩ (eP (a.withFollow "special-get-raises" b).params 64 57 (.str "lendcore.integers" 1124) true) 673 1154 ⟨585,0,585,4⟩ (mQ 7) (iP 7 (a.withFollow "special-get-raises" b)):=by intro old B;rwa[hX];rwa[fV];induction b using Bool.casesOn<;>kernel_rfl
theorem Oi(w:World):Mk w (gQ 75 13) 378 (eP w.params 64 57 (.str "lendcore.integers" 1124) true) 673 1154 ⟨585,0,585,4⟩ (eP w.params 76 69 (.str "lendcore.places" 1258) true) 757 1260 ⟨649,0,649,8⟩ (mQ 8) (iP 8 w):=by intro old B;rwa[hX];rwa[fV];kernel_rfl
theorem Od(a:World)(b:Bool):Mk (a.withFollow "special-get-raises" b) (gQ 88 1) 56 (eP (a.withFollow "special-get-raises" b).params 76 69 (.str "lendcore.places" 1258) true) 757 1260 ⟨649,0,649,8⟩ (eP (a.withFollow "special-get-raises" b).params 77 69 (.str "lendcore.places" 1258) true) 758 1270 ⟨650,0,650,9⟩ (mQ 9) (iP 9 (a.withFollow "special-get-raises" b)):=by intro old B;rwa[hX];rwa[fV];induction b using Bool.casesOn<;>kernel_rfl
theorem Oa(w:World):Mk w (gQ 89 5) 612 (eP w.params 77 69 (.str "lendcore.places" 1258) true) 758 1270 ⟨650,0,650,9⟩ (eP w.params 82 73 (.str "lendcore.places" 1258) true) 857 1421 ⟨663,0,722,25⟩ (mQ 10) (iP 10 w):=by intro old B;rwa[hX];rwa[fV];kernel_rfl
theorem Nz(w:World):Mk w (gQ 94 4) 774 (eP w.params 82 73 (.str "lendcore.places" 1258) true) 857 1421 ⟨663,0,722,25⟩ (eP w.params 85 76 (.str "lendcore.machine" 1531) true) 960 1589 ⟨803,0,809,16⟩ (mQ 11) (iP 11 w):=by intro old B;rwa[hX];rwa[fV];kernel_rfl
theorem Nx(w:World):Mk w (gQ 98 2) 656 (eP w.params 85 76 (.str "lendcore.machine" 1531) true) 960 1589 ⟨803,0,809,16⟩ (eP w.params 86 77 (.str "lendcore.mir" 1758) true) 1061 1760 ⟨945,0,945,8⟩ (mQ 12) (iP 12 w):=by intro old B;rwa[hX];rwa[fV];kernel_rfl
theorem Nw(w:World):Mk w (gQ 100 8) 796 (eP w.params 86 77 (.str "lendcore.mir" 1758) true) 1061 1760 ⟨945,0,945,8⟩ (eP w.params 92 81 (.str "law_ot0054_01" 1895) true) 1171 1922 ⟨1003,0,1009,57⟩ (mQ 13) (iP 13 w):=by intro old B;rwa[hX];rwa[fV];kernel_rfl
theorem Ny(w:World):Mk w (gQ 108 16) 487 (eP w.params 92 81 (.str "law_ot0054_01" 1895) true) 1171 1922 ⟨1003,0,1009,57⟩ (eP w.params 108 97 (.str "law_ot0054_01" 1895) true) 1275 2064 ⟨1180,0,1184,63⟩ (mQ 14) (iP 14 w):=by intro old B;rwa[hX];rwa[fV];kernel_rfl
def AQ(j:Nat)(K:Frag):Bool×List (Option (List Stmt))×List Int:=(oG j K,(qW j).map (yX K),match Nat.beq j 7 with
 |true=>sN K
 |false=>[])
def HZ(P:Params)(K:Frag)(n:Nat)(old:Nat->Obj):Prop:=∀a o,K.lookup a=some o->(15<=a/\a<n/\alive (old a)=some o)\/(a=2/\o=CS P true)
theorem HZ.mono{P:Params}{b:Nat->Obj}(k:HZ P K n old)(c:n<=n')(h:∀i,15<=i->i<n->b i=old i):HZ P K n' b:=λa o e=>(k a o e).imp (λ⟨x,y,z⟩=>⟨x,Nat.lt_of_lt_of_le y c,by rwa[h a x y];exact z⟩) id
set_option tactic.hygienic true in
theorem rE{g:Nat->Option Obj}:∀{as:List Nat}{a:Nat}{o:Obj},List.lookup a (as.filterMap λa=>(g a).map λo=>(a,o))=some o->a∈as/\g a=some o
 |[],a,o,e=>by cases e
 |b::r,a,o,e=>by
  rw[List.filterMap_cons]at e
  cases hb:g b with
  |none=>rw[hb]at e;refine oA (rE e) λx y=>?_;exact⟨aC x,y⟩
  |some ob=>
   rw[hb]at e;simp only[Option.map_some,fA]at e;split at e;·rename_i q;have c:=aM e;subst c;rwa[c_.mp q];exact⟨aE,hb⟩
   ·refine oA (rE e) λx y=>?_;exact⟨aC x,y⟩
theorem SA{P:Params}{T:SharedT}{c:List (Nat×Obj)}{b:Nat->Obj}(h:∀i,(T.tree.get i).getD default=lf c b i)(k:∀a∈zL j,(15<=a/\a<n')\/a=2)(l:c.lookup 2=some (CS P true))(hk:∀i,15<=i->c.lookup i=none):HZ P (AK j T) n' b:=λa o e=>by
 refine oA (rE (g:=λa=>(T.tree.get a).bind alive) e) λhm f=>?_;refine aW (Option.bind_eq_some_iff.mp f) λo' e1 d=>?_;have:=h a;rw[e1]at this;change o'=_ at this;clear e f e1;rcases k a hm with⟨x,y⟩|rfl;·refine .inl ⟨x,y,?_⟩;unfold lf at this;rw[hk a x]at this;change o'=b a at this;refine cM this ?_;exact d
 ·refine .inr ⟨rfl,?_⟩;unfold lf at this;rw[l]at this;change o'=CS P true at this;rw[this]at d;exact(aM d).symm
def zU(w:World)(L:List (Nat×Frag))(n:Nat)(old:Nat->Obj):Prop:=∀p∈L,HZ w.params p.2 n old/\AQ p.1 p.2=iP p.1 w
theorem Go.step{toks k m:Nat}{nm:Value}{c rest:List Stmt}{M N:Nat}{ob:SharedT->X}{val:X}{L:List (Nat×Frag)}(j:Nat)(G:Go w B kn n toks pos (c++rest) old M)(h:zU w L n old)(P:Mk w c N kn n toks pos (eP w.params k m nm true) n' z pos' ob val)(d:15<=n)(e:n<=n')(l:n'<4095)(o:∀a∈zL j,(15<=a/\a<n')\/a=2)(f:∀T,ob T=val->mQ j T=iP j w):∃(b:Nat->Obj)(T:SharedT),Go w B (eP w.params k m nm true) n' z pos' rest b (M+N)/\zU w ((j,AK j T)::L) n' b/\T.abs=(tR (eP w.params k m nm true) b n' z B).abs/\ob T=val:=by
 refine EL (G.part P d (V5 _ _ _ _ _) (sR _ _ _ _ _) l) λb T g hp q e1 r i=>?_;refine⟨b,T,g,λp hm=>?_,e1,i⟩;rcases bV.mp hm with rfl|hm;·exact⟨SA q o rfl (sR _ _ _ _ _),f T i⟩
 ·exact⟨(h p hm).1.mono e hp,(h p hm).2⟩
theorem Go.stepK{toks k m:Nat}{nm:Value}{c rest:List Stmt}{M N:Nat}{ob:SharedT->X}{val:X}{L:List (Nat×Frag)}(j:Nat)(G:Go w B kn n toks pos (c++rest) old M)(i:zU w L n old)(P:Mk w c N kn n toks pos (eP w.params k m nm true) n' z pos' ob val)(d:15<=n)(e:n<=n')(l:n'<4095)(o:∀a∈zL j,(15<=a/\a<n')\/a=2)(f:∀T,ob T=val->mQ j T=iP j w)(K:∀(b:Nat->Obj)(T:SharedT),Go w B (eP w.params k m nm true) n' z pos' rest b (M+N)->zU w ((j,AK j T)::L) n' b->C):C:=let⟨b,T,g,h,_⟩:=Go.step j G i P d e l o f;K b T g h
theorem hY(j n':Nat)(h:(zL j).all (λa=>(Nat.ble 15 a&&Nat.blt a n')||a==2)=true):∀a∈zL j,(15<=a/\a<n')\/a=2:=λa b=>by have:=List.all_eq_true.mp h a b;simp only[Bool.or_eq_true,dE,c_]at this;exact this.imp (λ⟨x,y⟩=>⟨Nat.le_of_ble_eq_true x,Nat.le_of_ble_eq_true y⟩) id
theorem Ag(w:World):Mk w (gQ 74 1) 146 (eP w.params 63 57 (.str "lendcore.integers" 1124) true) 672 1126 ⟨584,0,584,8⟩ (eP w.params 64 57 (.str "lendcore.integers" 1124) true) 673 1154 ⟨585,0,585,4⟩ (mQ 7) (iP 7 w):=by have:=Of w (w.params.followText "special-get-raises");rw[World.withFollow_self]at this;exact this
theorem XK(w:World):Mk w (gQ 88 1) 56 (eP w.params 76 69 (.str "lendcore.places" 1258) true) 757 1260 ⟨649,0,649,8⟩ (eP w.params 77 69 (.str "lendcore.places" 1258) true) 758 1270 ⟨650,0,650,9⟩ (mQ 9) (iP 9 w):=by have:=Od w (w.params.followText "special-get-raises");rw[World.withFollow_self]at this;exact this
abbrev m0(P:Params):=eP P 109 98 (.str "law_ot0054_01" 1895) true
noncomputable abbrev F2:Nat:=(((((((((((((((((12+1)+1156)+630)+728)+776)+469)+532)+374)+146)+378)+56)+612)+774)+656)+796)+487)+38)
theorem Oh(w:World)(B:OsState):∃(L:List (Nat×Frag))(old:Nat->Obj),topRun treeTable pT w 11 (some (.ref 6)) (F2+2) ⟨boot_heap w.params,#[],boot_drawn,boot_toks,B⟩ (topStub pT)=some (tR (m0 w.params) old 1282 2079 B).abs/\zU w L 1282 old/\L.map (·.1)=[15,14,13,12,11,10,9,8,7,6,5,4,3,2,1,0]/\PF w.params (tR (m0 w.params) old 1282 2079 B).abs=(true,openGood qV r6):=by have g:=Lg w B;rw[RU]at g;refine Go.stepK (L:=[]) 0 g (λz9 h=>by cases h) (Oc w) (by decide) (by decide) (by decide) (hY _ _ (by decide+kernel)) (λT e=>e) λX Y g0 s=>?_;refine Go.stepK 1 g0 s (Og w) (by decide) (by decide) (by decide) (hY _ _ (by decide+kernel)) (λT e=>e) λo1 Z g1 t=>?_;refine Go.stepK 2 g1 t (On w) (by decide) (by decide) (by decide) (hY _ _ (by decide+kernel)) (λT e=>e) λo2 T2 u K2=>?_;refine Go.stepK 3 u K2 (Om w) (by decide) (by decide) (by decide) (hY _ _ (by decide+kernel)) (λT e=>e) λo3 T3 v K3=>?_;refine Go.stepK 4 v K3 (Oo w) (by decide) (by decide) (by decide) (hY _ _ (by decide+kernel)) (λT e=>e) λo4 T4 x y=>?_;refine Go.stepK 5 x y (Ol w) (by decide) (by decide) (by decide) (hY _ _ (by decide+kernel)) (λT e=>e) λo5 T5 z A=>?_;refine Go.stepK 6 z A (Oj w) (by decide) (by decide) (by decide) (hY _ _ (by decide+kernel)) (λT e=>e) λo6 T6 C D=>?_;refine Go.stepK 7 C D (Ag w) (by decide) (by decide) (by decide) (hY _ _ (by decide+kernel)) (λT e=>e) λo7 T7 E F=>?_;refine Go.stepK 8 E F (Oi w) (by decide) (by decide) (by decide) (hY _ _ (by decide+kernel)) (λT e=>e) λo8 T8 G H=>?_;refine Go.stepK 9 G H (XK w) (by decide) (by decide) (by decide) (hY _ _ (by decide+kernel)) (λT e=>e) λo9 T9 I J=>?_;refine Go.stepK 10 I J (Oa w) (by decide) (by decide) (by decide) (hY _ _ (by decide+kernel)) (λT e=>e) λK M a b=>?_;refine Go.stepK 11 a b (Nz w) (by decide) (by decide) (by decide) (hY _ _ (by decide+kernel)) (λT e=>e) λN O c d=>?_;refine Go.stepK 12 c d (Nx w) (by decide) (by decide) (by decide) (hY _ _ (by decide+kernel)) (λT e=>e) λP Q f i=>?_;refine Go.stepK 13 f i (Nw w) (by decide) (by decide) (by decide) (hY _ _ (by decide+kernel)) (λT e=>e) λR S j k=>?_;refine Go.stepK 14 j k (Ny w) (by decide) (by decide) (by decide) (hY _ _ (by decide+kernel)) (λT e=>e) λU V l m=>?_;refine gX (Go.step 15 l m (Nv w) (by decide) (by decide) (by decide) (hY _ _ (by decide+kernel)) (λT e=>congrArg Prod.fst e)) λn W o p q r=>?_;refine⟨_,n,o 2 _ (WG w B _ _ _),p,rfl,?_⟩;refine cM q ?_;exact congrArg Prod.snd r
noncomputable def hashAt(h:Heap):List Int:=match lH "BITS"with
 |some a=>(match h.get? a with
  |some ⟨_,_,.dict es _,_⟩=>es.toList.map (·.hash)
  |_=>[])
 |none=>[]
noncomputable def SY(s:Shared):Prop×List Int×List (Option Obj):=((∃Kp:Nat->Frag,(∀j,(Kp j).In s.heap)/\∀j,j<16->(AQ j (Kp j)).1=true/\(AQ j (Kp j)).2.1=(qW j).map λfk=>(Lx fk).map (·.body)),hashAt s.heap,(List.range 15).map s.heap.get?)
def TO(w:World):Prop×List Int×List (Option Obj):=(True,nS.map (λp=>hashStr w p.1),(List.range 15).map λi=>(m0 w.params).lookup i)
section
variable{P:Params}
theorem PH{a:Nat}(h:a<1282):(absHeap (qQ (lf kn old) 1282 12 1 0) 1282 {}).get? a=alive (lf kn old a):=abs_get h (by rwa[vX _ _ _ _ _ _ (by simp only[Nat.reducePow];lia)];rw[Nat.one_mul,Nat.add_zero];rwa[aI h];rfl)
theorem VL{a:Nat}(h:a<1282)(b:15<=a):(absHeap (qQ (lf (m0 P) old) 1282 12 1 0) 1282 {}).get? a=alive (old a):=by rwa[PH h];unfold lf;rwa[sR _ _ _ _ _ a b];rfl
theorem PC:∀{a:Nat},a<15->(absHeap (qQ (lf (m0 P) old) 1282 12 1 0) 1282 {}).get? a=(m0 P).lookup a:=by intro a h;rwa[PH (by(first|lia|omega))];rcases a with _|_|_|_|_|_|_|_|_|_|_|_|_|_|_|a<;>first|rfl|exact aV h (Nat.not_lt_of_le (Nat.le_add_left 15 a))
theorem OJ(k:HZ P K 1282 old):K.In (absHeap (qQ (lf (m0 P) old) 1282 12 1 0) 1282 {}):=λa o e=>by
 rcases k a o e with⟨x,y,z⟩|⟨rfl,rfl⟩;·rwa[VL y x];exact z
 ·rwa[PC (by(first|decide|omega))];rfl
end
theorem IC(X:K.In h)(e:yD K=true):hashAt h=sN K:=by unfold hashAt sN;refine aW (eM e) λa b e=>?_;refine aW (eM e) λo ho _=>?_;rwa[b];dsimp only;(rwa[ho];rwa[X _ _ ho];rfl)<;>rfl
theorem V4:pT.main.body.takeWhile opensTheText=[]:=by kernel_rfl
theorem VS:pT.main.scope={kind:=.module,names:=pT.main.scope.names,isGenerator:=false,isCoroutine:=false,more:=[]}:=by kernel_rfl
theorem Dr:opening pT=plainProg pT.main.scope.names:=by unfold opening;rwa[V4];show({main:={body:=[],scope:=pT.main.scope,futureAnnotations:=pT.main.futureAnnotations,file:=pT.main.file,more:=pT.main.more},modules:=pT.modules,parses:=pT.parses,absent:=pT.absent,harvested:=pT.harvested,given:=pT.given}:Program)=_;unfold plainProg;refine cM VS ?_;kernel_rfl
theorem Dy(s:Shared):fenceModules? pT s=some s:=by kernel_rfl
theorem Br(P:Params):((boot_heap P).isNs mainGlobals&&(#[]:Array GenState).size==0)=true:=by kernel_rfl
theorem Cs(P:Params):(boot_heap P).objs.size=11:=by kernel_rfl
theorem Bk(P:Params):(boot_heap P).nsMap mainGlobals "__annotations__"=some (.ref 6):=by kernel_rfl
theorem P2{p:Program}{N:Nat}{d:Drawn}{k a:Nat}{ann:Option Value}(b:(h.isNs mainGlobals&&(#[]:Array GenState).size==0)=true)(c:h.objs.size=a)(e:h.nsMap mainGlobals "__annotations__"=ann)(r:topRun treeTable p w a ann N ⟨h,#[],d,k,B⟩ (topStub p)=some s)(l:(staticsOk (importedModules p.main.body) h s.heap&&namesBound p s.heap&&gensDone s&&laidKept h s.heap)=true):topFrom treeTable p w N ⟨h,#[],d,k,B⟩=some s:=by unfold topFrom;dsimp only;rwa[b];rwa[c];rwa[e];rwa[r];show(match staticsOk (importedModules p.main.body) h _&&namesBound p _&&gensDone _&&laidKept h _ with|true=>_|false=>_)=_;rwa[l];rfl
theorem V9{p q:Program}{loose:List Str}{Xt:Shared->Bool}{Yf:Shared->X}{Ya:World->X}{N:Nat}{H:Heap}{d:Drawn}{k:Nat}(o:(fencedOpening treeTable p w N).map (λs=>(s.heap,s.gens,s.drawn,s.toks))=some (H,#[],d,k))(t:∀B,∃s,topFrom treeTable p w N ⟨H,#[],d,k,B⟩=some s/\openSeen q loose (importedModules p.main.body) Xt true s=openGood q loose/\Yf s=Ya w):(openEnds treeTable p w N).map (λs=>(openSeen q loose (importedModules p.main.body) Xt true s,Yf s))=some (openGood q loose,Ya w):=by obtain⟨⟨h,gs,i,j,B⟩,e,a⟩:=Option.map_eq_some_iff.mp o;simp only[Prod.mk.injEq]at a;refine RG a ?_;clear a;intro aG cB b c;clear o;subst aG;subst cB;subst b;subst c;refine cY (t B) λs t f g=>?_;unfold openEnds;rwa[e];show(topFrom treeTable p w N _).map _=_;rwa[t];exact congrArg some (Prod.ext f g)
theorem Nc{L:List (Nat×Frag)}(h:L.lookup j=some K):(j,K)∈L:=by
 induction L with
 |nil=>cases h
 |cons p r a=>
  obtain⟨i,q⟩:=p;rw[fA]at h
  cases hb:j==i with
  |true=>rw[hb]at h;clear a;have b:=aM h;subst b;rwa[c_.mp hb];exact aE
  |false=>rw[hb]at h;exact aC (a h)
theorem OF{L:List (Nat×Frag)}(h:j∈L.map (·.1)):∃K,L.lookup j=some K:=by
 cases a:L.lookup j with
 |some K=>exact⟨K,rfl⟩
 |none=>exfalso;rw[List.lookup_eq_none_iff]at a;refine aW (c7.mp h) λp hp aG=>?_;clear h;subst aG;have:=a p hp;simp at this
theorem R7{L:List (Nat×Frag)}{h:Heap}(e:h=absHeap (qQ (lf (m0 w.params) old) 1282 12 1 0) 1282 {})(c:zU w L 1282 old)(i:L.map (·.1)=[15,14,13,12,11,10,9,8,7,6,5,4,3,2,1,0]):(∃Kp:Nat->Frag,(∀j,(Kp j).In h)/\∀j,j<16->(AQ j (Kp j)).1=true/\(AQ j (Kp j)).2.1=(qW j).map λfk=>(Lx fk).map (·.body))/\hashAt h=nS.map (λp=>hashStr w p.1):=by
 subst e
 have all:∀j,j<16->∃K,L.lookup j=some K/\K.In (absHeap (qQ (lf (m0 w.params) old) 1282 12 1 0) 1282 {})/\AQ j K=iP j w:=λj d=>by
  have:j∈L.map (·.1):=by rwa[i];exact(by decide:∀j,j<16->j∈[15,14,13,12,11,10,9,8,7,6,5,4,3,2,1,0]) j d
  refine oE (OF this) λK b=>?_;exact⟨K,b,OJ (c _ (Nc b)).1,(c _ (Nc b)).2⟩
 refine⟨⟨λj=>(L.lookup j).getD [],λj=>?_,λj d=>?_⟩,?_⟩
 ·dsimp only
  cases b:L.lookup j with
  |none=>intro a o k;cases k
  |some K=>exact OJ (c _ (Nc b)).1
 ·refine cY (all j d) λK b _ ho=>?_;dsimp only;rwa[b];show(AQ j K).1=true/\(AQ j K).2.1=_;rwa[ho];exact⟨rfl,rfl⟩
 ·refine cY (all 7 (by decide)) λK _ f ho=>?_;have g:oG 7 K=true:=congrArg Prod.fst ho;have l:sN K=nS.map λp=>hashStr w p.1:=congrArg (λx=>x.2.2) ho;unfold oG at g;rw[dE]at g;have hb:yD K=true:=g.2;exact(IC f hb).trans l
theorem Bt:LeftO pT qV r6 (λz9=>true) SY TO (F2+2):=λw=>by refine V9 (boot_open Dr (by decide+kernel) Dy w) λB=>?_;refine gX (Oh w B) λL old b d e a=>?_;have c:=Prod.mk.inj a;refine oA (R7 (h:=(tR (m0 w.params) old 1282 2079 B).abs.heap) rfl d e) λf1 f2=>?_;exact⟨_,P2 (Br _) (Cs _) (Bk _) b c.1,c.2,Prod.ext (eq_true f1) (Prod.ext f2 (List.map_congr_left λi hi=>PC (List.mem_range.mp hi)))⟩
def xP(P:Params)(Kp:Nat->Frag)(a:Addr):Frag:=match Nat.blt a 15 with
 |true=>m0 P
 |false=>Kp (FB a)
structure m6(w:World)(Kp:Nat->Frag)(h:Heap):Prop where
 NH:∀j,(Kp j).In h
 ck:∀j,j<16->oG j (Kp j)=true
 bd:∀j,j<16->(qW j).map (yX (Kp j))=(qW j).map λfk=>(Lx fk).map (·.body)
 hs:sN (Kp 7)=nS.map λp=>hashStr w p.1
 low:Frag.In (m0 w.params) h
variable{Kp:Nat->Frag}
theorem m6.keeps{Z:Heap}(S:m6 w Kp h)(k:∀b o,h.get? b=some o->Z.get? b=some o):m6 w Kp Z:=⟨λj=>(S.NH j).keeps k,S.ck,S.bd,S.hs,S.low.keeps k⟩
theorem US(e:SY s=TO w):∃Kp,m6 w Kp s.heap:=by
 unfold SY TO at e;rw[Prod.mk.injEq,Prod.mk.injEq]at e;refine gB e ?_;clear e;intro e1 g h;refine aW (of_eq_true e1) λKp i c=>?_;refine⟨Kp,i,λj b=>(c j b).1,λj b=>(c j b).2,?_,λa o d=>?_⟩
 ·have f:oG 7 (Kp 7)=true:=(c 7 (by decide)).1;unfold oG at f;rw[dE]at f;have hb:yD (Kp 7)=true:=by simpa using f.2
  refine cM (IC (i 7) hb) ?_;exact g
 ·by_cases q:a<15;·have:=congrArg (·[a]?) h;simp only[e_,List.getElem?_range q,Option.map_some,Option.some.injEq]at this;rwa[this];exact d
  ·exfalso;have:=sR w.params 109 98 (.str "law_ot0054_01" 1895) true a (Nat.le_of_not_lt q);rw[this]at d;exact dW d
def methsOf(c:Str):List Str:=match Na c pT.main.body with
 |some b=>I0 b
 |none=>[]
theorem RZ:xU.all (λx=>(List.range 16).any λj=>(qW j).contains (.top x))=true:=by decide+kernel
theorem QD:zP.all (λc=>(List.range 16).any λj=>(Fp j).contains c&&(methsOf c).all λm=>(qW j).contains (.aL c m))=true:=by decide+kernel
theorem VR:Me.all (λp=>(List.range 16).any λj=>(SJ j).any λq=>q.1==p.1)=true:=by decide+kernel
theorem VX:((qW 0).contains (.aL "LendError" "__init__")&&(qW 0).contains (.aL "MachineFault" "__init__"))=true:=by decide+kernel
theorem V1:(xU.all (λx=>x !=("__debug__":Str))&&zP.all (λc=>c !=("__debug__":Str))&&Me.all (λp=>p.1 !=("__debug__":Str))&&tH.all (λp=>p.1 !=("__debug__":Str))&&vV.all (λp=>p.1 !=("__debug__":Str)))=true:=by decide+kernel
theorem WF:xU.all (λx=>(Lx (.top x)).isSome)=true:=by decide+kernel
def mZ:List Str:=xU++zP++([("LendError":Str),"MachineFault","FuelFault"]:List Str)++Me.map (·.1)
theorem PZ(P:Params):mZ.map (nsIn (m0 P) mainGlobals)=mZ.map λx=>some (xG x):=by kernel_rfl
theorem QQ:mZ.all (λx=>(xG x).isSome)=true:=by decide+kernel
theorem Ba(P:Params):(tH.map (λp=>(nsIn (m0 P) mainGlobals p.1,nsIn (m0 P) builtinsNs p.1)),vV.map (λp=>(nsIn (m0 P) mainGlobals p.1,nsIn (m0 P) builtinsNs p.1)),nsIn (m0 P) mainGlobals "Exception",nsIn (m0 P) builtinsNs "Exception")=(tH.map (λp=>(some none,some (some (.type p.2)))),vV.map (λp=>(some none,some (some (.builtin p.2)))),some none,some (some (.type "Exception"))):=by kernel_rfl
theorem VF{N:List (Str×V)->Prop}(o:N [])(q:∀n,N (match Me.lookup n with|some v=>[(n,v)]|none=>[]))(st:Stmt):N (W9 st):=by
 induction st using Stmt.casesOn with
 |Assign ts e p=>
  rcases ts with _|⟨t,_|⟨_,_⟩⟩;·exact o
  ·induction t using Expr.casesOn with
   |Name n _=>exact q n
   |_=>exact o
  ·induction t using Expr.casesOn with
   |_=>exact o
 |_=>exact o
theorem JK{q:Str×V}(h:q∈SJ j):Me.lookup q.1=some q.2:=by
 unfold SJ at h;refine aW (List.mem_flatMap.mp h) λst _ h=>?_;refine VF (N:=λl=>q∈l->Me.lookup q.1=some q.2) (λh=>aV h List.not_mem_nil) (λn h=>?_) st h
 cases a:Me.lookup n with
 |none=>rw[a]at h;exact aV h List.not_mem_nil
 |some v=>rw[a]at h;rwa[List.mem_singleton.mp h];exact a
theorem JG{x:Str}{s:Stmt}{r:List Stmt}{N:Option Stmt->Prop}(o:N (lB x r))(q:(∃n a b c d e sc f g h,s=.FunctionDef n a b c d e sc f g h/\n=x)->N (some s)):N (lB x (s::r)):=by
 induction s using Stmt.casesOn with
 |FunctionDef n a b c d e sc f g h=>
  show N (if n=x then some _ else lB x r);by_cases z:n=x;·rwa[aI z];exact q ⟨_,_,_,_,_,_,_,_,_,_,rfl,z⟩
  ·rwa[aH z];exact o
 |_=>exact o
theorem GY{x:Str}{st:Stmt}{l:List Stmt}:lB x l=some st->st∈l/\∃n a b c d e sc f g h,st=.FunctionDef n a b c d e sc f g h/\n=x:=by
 induction l with
 |nil=>exactλe=>(aS e).elim
 |cons s r i=>
  refine JG (N:=λo=>o=some st->st∈s::r/\∃n a b c d e sc f g h,st=.FunctionDef n a b c d e sc f g h/\n=x) (λe=>?_) λq e=>?_;·refine oA (i e) λj k=>?_;exact⟨aC j,k⟩
  ·refine cM (aM e) ?_;exact⟨aE,q⟩
theorem GQ{m:Str}(e:Lx (.aL c m)=some D):m∈methsOf c:=by
 unfold Lx at e;dsimp only at e;unfold methsOf
 cases hb:Na c pT.main.body with
 |none=>rw[hb]at e;cases e
 |some b=>
  rw[hb]at e;simp only[Option.bind_some]at e
  cases hs:lB m b with
  |none=>rw[hs]at e;cases e
  |some st=>refine oA (GY hs) λq i=>?_;refine i7 i ?_;clear i;intro n a r j;refine i7 j ?_;clear j;intro s d t k;refine i7 k ?_;clear k;intro sc f g l;refine aW l ?_;clear l;intro h o p;clear e hb hs;subst o;subst p;exact List.mem_filterMap.mpr ⟨_,q,rfl⟩
theorem tE{x:Str}(e:p_ x=true):x∈xU:=by unfold p_ at e;refine aW (List.any_eq_true.mp e) λs hs q=>?_;rw[decide_eq_true_eq]at q;exact c7.mpr ⟨s,hs,q⟩
theorem rA{x:Str}(e:oU x=true):x∈zP:=by unfold oU at e;refine aW (List.any_eq_true.mp e) λs hs q=>?_;rw[decide_eq_true_eq]at q;exact c7.mpr ⟨s,hs,q⟩
theorem j4{l:List (Str×X)}{x:Str}{v:X}(e:l.lookup x=some v):(x,v)∈l:=by
 induction l with
 |nil=>cases e
 |cons p r b=>
  obtain⟨y,q⟩:=p;rw[fA]at e
  cases a:x==y with
  |true=>rw[a]at e;clear b;have c:=aM e;subst c;rwa[c_.mp a];exact aE
  |false=>rw[a]at e;exact aC (b e)
theorem U8{C:Addr}{l:List Value}(e:W4 C l=true):∃bm,l=.ref C::bm/\gG bm=true:=by
 induction l using List.casesOn with
 |nil=>exact ff e
 |cons v bm=>
  refine oA (cX.mp e) λe1 a=>?_;refine⟨bm,?_,a⟩;clear e;induction v using PySem.Value.casesOn with
  |ref C'=>rwa[c_.mp e1];rfl
  |_=>exact ff e1
theorem WE{v:Option (Option Value)}{s:String}(e:Af v s=true):v=some (some (.builtin s)):=by
 rcases v with _|_|v;·exact ff e
 ·exact ff e
 ·induction v using PySem.Value.casesOn with
  |builtin n=>rwa[c_.mp e];rfl
  |_=>exact ff e
theorem XH{l:List X}{x:X}(h:l.length=6)(e:l[4]?=some x):∃a b c d f,l=[a,b,c,d,x,f]:=by
 rcases l with _|⟨a,_|⟨b,_|⟨c,_|⟨d,_|⟨y,_|⟨f,_|⟨_,_⟩⟩⟩⟩⟩⟩⟩;·exact Nat.noConfusion h
 ·exact aV h (Nat.ne_of_beq_eq_false rfl)
 ·exact aV h (Nat.ne_of_beq_eq_false rfl)
 ·exact aV h (Nat.ne_of_beq_eq_false rfl)
 ·exact aV h (Nat.ne_of_beq_eq_false rfl)
 ·exact aV h (Nat.ne_of_beq_eq_false rfl)
 ·exact⟨a,b,c,d,f,by rwa[aM e];rfl⟩
 ·exact aV (Nat.succ.inj (Nat.succ.inj (Nat.succ.inj (Nat.succ.inj (Nat.succ.inj (Nat.succ.inj h)))))) (Nat.succ_ne_zero _)
theorem ZR{v:Option Value}(e:Et v=some a):v=some (.ref a):=by
 rcases v with _|v;·exact(aS e).elim
 ·induction v using PySem.Value.casesOn with
  |ref b=>rwa[aM e];rfl
  |_=>exact(aS e).elim
theorem z5{v:Option (Option Value)}(e:QC v=some a):v=some (some (.ref a)):=by
 rcases v with _|_|v;·exact(aS e).elim
 ·exact(aS e).elim
 ·induction v using PySem.Value.casesOn with
  |ref b=>rwa[aM e];rfl
  |_=>exact(aS e).elim
theorem Y2{v:Option PySem.W.CFound}(e:Ex v=some a):v=some (.val (.ref a)):=by
 rcases v with _|v|_;·exact(aS e).elim
 ·induction v using PySem.Value.casesOn with
  |ref b=>rwa[aM e];rfl
  |_=>exact(aS e).elim
 ·exact(aS e).elim
theorem N4(e:EM v=true):v=.bits:=by
 induction v using V.casesOn with
 |bits=>rfl
 |_=>exact ff e
theorem JZ{prog:Program}{w:World}:∀{es:List DictEntry}{l:List (Str×Int)},sW es l=true->es.map (·.hash)=l.map (λp=>hashStr w p.1)->∃kvs:List (Str×Value),(∀e∈es,∃k,(strKind prog w).is k e.key=true/\e.hash=(strKind prog w).hash k)/\Pairs (strKind prog w) es kvs/\kvs.map (·.1)=l.map (·.1)/\∀x i,l.lookup x=some i->∃t,valueAt kvs x=some (.int i t):=by
 intro es
 induction es with
 |nil=>
  intro l e c;clear c;induction l using List.casesOn with
  |nil=>exact⟨[],λz9 h=>aV h List.not_mem_nil,.nil,rfl,λz9 z9 h=>(aS h).elim⟩
  |cons _ _=>exact ff e
 |cons o es r=>
  intro l e c
  induction l using List.casesOn with
  |nil=>exact ff e
  |cons p l=>
   refine oA (cX.mp e) λe1 s=>?_;refine oA (cX.mp e1) λe1 g=>?_;refine oA (List.cons.inj c) λd f=>?_;clear e c;obtain⟨h,k,v⟩:=o;obtain⟨x,j⟩:=p;refine oE (xT e1) λtk cB=>?_;clear e1;subst cB;refine oE (xN g) λu aG=>?_;clear e1 g;subst aG;refine fN (r s f) λkvs q1 q2 q3 q4=>?_;have m:Value.isStrOf x (.str x tk)=true:=by simp[Value.isStrOf]
   refine⟨(x,.int j u)::kvs,λy a=>?_,.cons m rfl q2,congrArg (x::·) q3,λz n b=>?_⟩
   ·rcases bV.mp a with rfl|a;·exact⟨x,m,d⟩
    ·exact q1 y a
   ·rw[fA]at b;unfold valueAt;rwa[List.find?_cons]
    cases hb:z==x with
    |true=>rw[hb]at b;have A:=aM b;subst A;have:x=z:=(c_.mp hb).symm;simp[this]
    |false=>
     rw[hb]at b;have:¬x=z:=λq=>by rw[q]at hb;simp at hb
     simp only[this,decide_false];exact q4 z n b
theorem Y7(e:SU K (.tup l) x=true):∃a d items n sl,x=.ref a/\K.lookup a=some ⟨.type "tuple",d,.seq items n,sl⟩/\DN K l items.toList=true:=by
 induction x using PySem.Value.casesOn with
 |ref a=>refine aW (eM (show j6 (K.lookup a) (λo=>AG o.cls "tuple"&&j6 (SZ o.data) λitems=>DN K l items.toList)=true from e)) λo ho e=>?_;refine oA (cX.mp e) λe1 e=>?_;refine aW (eM e) λitems hi e=>?_;obtain⟨c,d,b,sl⟩:=o;refine oE (LU hi) λn aG=>?_;clear hi;subst aG;obtain rfl:=vR e1;exact⟨a,d,items,n,sl,rfl,ho,e⟩
 |_=>exact ff e
mutual
theorem LL{F:Fix}{K:Frag}(iO:K.In F.base):∀{v:V}{x:Value},SU K v x=true->RV F [] F.base v x
 |.int i,x,e=>by refine oE (xN e) λt cB=>?_;clear e;subst cB;exact .int _ _
 |.str s,x,e=>by refine oE (xT e) λt aG=>?_;clear e;subst aG;exact .str _ _
 |.tup l,x,e=>by
  obtain⟨a,d,items,n,sl,rfl,ho,e⟩:=Y7 e
  exact .tup (iO _ _ ho) rfl rfl (HW iO e)
 |.none,x,e=>ff e
 |.bool _,x,e=>ff e
 |.ref _,x,e=>ff e
 |.fn _,x,e=>ff e
 |.cls _,x,e=>ff e
 |.typ _,x,e=>ff e
 |.bi _,x,e=>ff e
 |.bits,x,e=>ff e
 |.eF _ _ _,x,e=>ff e
 |.qG _,x,e=>ff e
theorem HW{F:Fix}{K:Frag}(iO:K.In F.base):∀{l:List V}{r:List Value},DN K l r=true->b9 F [] F.base l r
 |[],[],_=>.nil
 |v::l,x::r,e=>.cons (LL iO (cX.mp e).1) (HW iO (cX.mp e).2)
 |[],_::_,e=>ff e
 |_::_,[],e=>ff e
end
theorem OX{C:Addr}(e:HR K C=true):∃d cd sl bm k0 k1 k2 k3 k5,K.lookup C=some ⟨.type "type",d,.cls cd,sl⟩/\cd.mro=.ref C::bm/\sl.toList=[k0,k1,k2,k3,some (.builtin "Exception.__new__"),k5]/\cd.hasDel=false/\cd.hasDict=true/\gG bm=true:=by refine aW (eM e) λo ho e=>?_;refine oA (cX.mp e) λe1 e=>?_;refine aW (eM e) λcd b e=>?_;obtain⟨c,d,j,sl⟩:=o;obtain rfl:=YN b;clear b;obtain rfl:=vR e1;unfold Fd at e;simp only[dE,c_,Bool.not_eq_true']at e;obtain⟨⟨⟨⟨e1,f⟩,g⟩,h⟩,i⟩:=e;refine aW (U8 e1) λbm hm hb=>?_;refine i7 (XH h (WE i)) λk0 k1 k2 a=>?_;refine wU a ?_;clear a;intro k3 k5 hs;exact⟨d,cd,sl,bm,k0,k1,k2,k3,k5,ho,hm,hs,f,g,hb⟩
theorem A6{C:Addr}(g:lH c=some C)(h:F.K C=K)(e:I5 K c=true):jJ F C:=by unfold I5 at e;rw[g]at e;subst h;simp only[dE,c_,List.all_eq_true]at e;obtain⟨⟨⟨⟨⟨e1,i⟩,j⟩,k⟩,m⟩,n⟩:=e;refine⟨?_,i,j,k,λx o=>m x o,n⟩;refine i7 (OX e1) λd cd sl a=>?_;refine i7 a ?_;clear a;intro bm k0 k1 b;refine jQ b ?_;clear b;intro k2 k3 k5 ho hm hs r3 f;refine oA f ?_;clear f;intro r4 p;obtain⟨nm,bs,mro,ns,q,r,sn,sub,ab,col,del⟩:=cd;dsimp only at hm r3 r4;subst hm r3 r4;obtain⟨l⟩:=sl;dsimp only at hs;subst hs;exact⟨nm,q,ns,bs,bm,sn,sub,ab,col,d,k0,k1,k2,k3,k5,ho,p⟩
set_option tactic.hygienic true in
theorem JB{mb:Str->Option Value}{n:Str}{v:Value}(X:K.In h)(G:h.Ns builtinsNs mb)(e:nsIn K builtinsNs n=some (some v)):mb n=some v:=by
 refine lE G ?_;clear G;intro o es ep ho a _ hf;unfold nsIn at e
 cases q:K.lookup builtinsNs with
 |none=>rw[q]at e;exact dW e
 |some ob=>
  rw[q]at e;have z:=aM ((X _ _ q).symm.trans ho);subst z;obtain⟨c,k,d,m⟩:=ob;cases a;have e:(match es.toList.find? (·.key.isStr n)with|some e=>some (some e.val)|none=>if es.toList.any (·.refKey)then none else some none)=some (some v):=e;rw[<-hf];unfold nsFind findBy;rw[<-Array.find?_toList]
  cases he:es.toList.find? (·.key.isStr n)with
  |some f=>rw[he]at e;exact aM e
  |none=>
   rw[he]at e;by_cases b:es.toList.any (·.refKey)=true;·exact dW ((aI b).symm.trans e)
   ·exact dW (aM ((aH b).symm.trans e))
section
theorem rU{P:Params}(h:zE j a=true):xP P Kp a=Kp j:=by
 unfold zE at h;rw[dE]at h;have b:FB a=j:=Nat.eq_of_beq_eq_true h.1;have c:15<=a:=Nat.le_of_ble_eq_true h.2;unfold xP
 have:Nat.blt a 15=false:=by
  cases q:Nat.blt a 15 with
  |false=>rfl
  |true=>exact aV c (Nat.not_le.mpr (Nat.le_of_ble_eq_true q))
 rwa[this];rwa[b];rfl
theorem oF{f:Nat->Bool}(h:(List.range 16).any f=true):∃j,j<16/\f j=true:=by refine aW (List.any_eq_true.mp h) λj a e=>?_;exact⟨j,List.mem_range.mp a,e⟩
theorem m6.fun(S:m6 F.w Kp F.base)(i:F.K=xP F.w.params Kp)(g:j<16){fk:Fk}(hm:fk∈qW j)(h:Lx fk=some D):∃f,oO (Kp j) fk=some f/\typeIn (Kp j) (.ref f)=some (.type "function")/\F.K f=Kp j/\kD F D f:=by
 have c:=S.ck j g;unfold oG at c;simp only[dE,List.all_eq_true]at c;refine oA (c.1.1.1.1 fk hm) λa b=>?_;unfold Fo at a;unfold S5 at b;rw[h]at a;dsimp only at a
 cases hf:oO (Kp j) fk with
 |none=>rw[hf]at a;exact L9 a
 |some f=>
  rw[hf]at a b;dsimp only at a b;rw[dE,c_]at b;have e:F.K f=Kp j:=by rwa[i];exact rU b.2
  refine⟨f,rfl,b.1,e,Q1 (by rwa[e];exact S.NH j) (by rwa[e];exact a) ?_⟩;have d:=List.map_inj_left.mp (S.bd j g) fk hm;unfold yX at d;rw[hf,h]at d;rwa[e];exact d
theorem IW(S:m6 F.w Kp F.base)(g:F.base.Ns mainGlobals F.mg){x:Str}(a:x∈mZ){v:Value}(e:xG x=some v):F.mg x=some v:=by have:=List.map_inj_left.mp (PZ F.w.params) x a;rw[e]at this;exact mg_of S.low g this
theorem r8(S:m6 F.w Kp F.base)(g:F.base.Ns mainGlobals F.mg){x:Str}(b:x∈mZ)(e:lH x=some a):F.mg x=some (.ref a):=by exact IW S g b (ZR e)
end
theorem P3:∃D,Lx (.aL "LendError" "__init__")=some D:=by obtain⟨D,h,_⟩:=DY;exact⟨D,h⟩
theorem N7:∃D,Lx (.aL "MachineFault" "__init__")=some D:=by obtain⟨D,h,_⟩:=A0;exact⟨D,h⟩
section
set_option tactic.hygienic true in
theorem WZ(S:m6 F.w Kp F.base)(J:F.K=xP F.w.params Kp)(g:F.base.Ns mainGlobals F.mg)(b:F.base.Ns builtinsNs F.mb)(nl:F.base.NoLimit)(nd:∃mc,F.base.Ns cStatics mc/\mc "sys.int_max_str_digits"=none):cA F/\jE F:=by
 have iO:∀a,(F.K a).In F.base:=λa=>by
  rwa[J];unfold xP
  induction Nat.blt a 15 using Bool.casesOn with
  |true=>exact S.low
  |false=>exact S.NH _
 have d6:∀{x:Str},x∈xU->x∈mZ:=λh=>bY _ (bY _ (bY _ h));have d7:∀{x:Str},x∈zP->x∈mZ:=λh=>bY _ (bY _ (cG _ h));have W:∀{x:Str},x∈([("LendError":Str),"MachineFault","FuelFault"]:List Str)->x∈mZ:=λh=>bY _ (cG _ h);have X:∀{p:Str×V},p∈Me->p.1∈mZ:=λh=>cG _ (iY h);have b8:=V1;simp only[dE,List.all_eq_true,bne_iff_ne,ne_eq]at b8;obtain⟨⟨⟨⟨d1,d2⟩,d3⟩,d4⟩,d5⟩:=b8;have bi:=Ba F.w.params;simp only[Prod.mk.injEq]at bi;refine RG bi ?_;clear bi;intro b1 b2 b3 b4;have r:∀{x:Str},x∈xU->∃f D,Lx (.top x)=some D/\F.mg x=some (.ref f)/\kD F D f:=λ{x}d=>by refine aW (oF (List.all_eq_true.mp RZ x d)) λj Q hm=>?_;refine oE (Option.isSome_iff_exists.mp (List.all_eq_true.mp WF x d)) λD E=>?_;refine fN (S.fun J Q (List.contains_iff_mem.mp hm) E) λf hf _ _ G=>?_;exact⟨f,D,E,r8 S g (d6 d) hf,G⟩
 have clsAt:∀{c:Str},c∈zP->∃j C,j<16/\lH c=some C/\F.mg c=some (.ref C)/\F.K C=Kp j/\RO (Kp j) c=true/\∀m∈methsOf c,Fk.aL c m∈qW j:=λ{c}R=>by
  refine aW (oF (List.all_eq_true.mp QD c R)) λj Q hm=>?_;rw[dE,List.all_eq_true]at hm;have k:=S.ck j Q;unfold oG at k;simp only[dE,List.all_eq_true]at k;refine oA (k.1.1.1.2 c (List.contains_iff_mem.mp hm.1)) λk1 k2=>?_;unfold vT at k2
  cases H:lH c with
  |none=>rw[H]at k2;exact L9 k2
  |some C=>rw[H]at k2;exact⟨j,C,Q,rfl,r8 S g (d7 R) H,by rwa[J];exact rU k2,k1,λm h=>List.contains_iff_mem.mp (hm.2 m h)⟩
 have k0:=S.ck 0 (by decide);unfold oG at k0;simp only[bne_self_eq_false,Bool.false_or,dE]at k0;obtain⟨⟨⟨x0,xL⟩,xM⟩,xF⟩:=k0.1.2;have exc:=VX;rw[dE]at exc;refine⟨⟨iO,g,b,?_,?_,?_,?_,?_,?_,nl,nd,?_⟩,?_⟩;·have:F.base.get? sysModules=some (boot_o_1 F.w.params):=S.low _ _ (by rfl);rwa[this];simp
 ·have h:=S.hs;have k7:=S.ck 7 (by decide);unfold oG at k7;rw[dE]at k7;have L:yD (Kp 7)=true:=by simpa using k7.2
  refine aW (eM (o:=lH "BITS") L) λa ha L=>?_;refine aW (eM L) λo ho L=>?_;refine oA (cX.mp L) λL e4=>?_;refine aW (eM e4) λes d8 e3=>?_;refine oA (cX.mp L) λL e2=>?_;refine oA (cX.mp L) λe1 e5=>?_;obtain⟨c,dd,dt,sl⟩:=o;refine oE (ZL d8) λn aG=>?_;subst aG;obtain rfl:=vR e1;obtain rfl:=Option.isNone_iff_eq_none.mp e5;have hh:es.toList.map (·.hash)=nS.map λp=>hashStr F.w p.1:=by refine cM h ?_;unfold sN;rwa[ha];dsimp only;rwa[ho];rfl
  refine fN (JZ (prog:=F.prog) (w:=F.w) e3 hh) λkvs q1 q2 q3 q4=>?_;have d9:sl=#[]:=by obtain⟨l⟩:=sl;simpa using e2
  refine⟨a,kvs,r8 S g (X (p:=("BITS",.bits)) (j4 (by kernel_rfl))) ha,⟨_,es,n,S.NH 7 _ _ ho,⟨rfl,rfl,d9⟩,rfl,λe he=>q1 e (Array.mem_toList_iff.mpr he),q2,?_⟩,q4⟩;rwa[q3];decide+kernel
 ·intro c C H;have R:=rA H.2;refine EL (clsAt R) λj C' Q h1 T h3 e hm=>?_;rw[H.1]at T;have i:=aM T;cases i;unfold RO at e;rw[h1,<-h3]at e;simp only[dE,c_,List.all_eq_true]at e;obtain⟨⟨⟨⟨⟨⟨⟨e1,e2⟩,e3⟩,e4⟩,e5⟩,e6⟩,e7⟩,e8⟩:=e;refine⟨e1,e2,e3,e4,e5,e6,e7,λm D E=>?_,λx d=>?_⟩;·refine fN (S.fun J Q (hm m (GQ E)) E) λf hf U hk G=>?_;unfold oO at hf;dsimp only at hf;rw[h1]at hf;dsimp only at hf;rwa[h3];exact⟨f,z5 hf,U,G⟩
  ·have I:=d;unfold mX at I;rw[dE]at I;refine aW (List.any_eq_true.mp I.1) λs hs q=>?_;rw[decide_eq_true_eq]at q;have:=e8 s hs;rw[q]at this;rw[Bool.or_eq_true,Bool.not_eq_true',c_]at this;rcases this with z|z;·rw[d]at z;exact Y0 z
   ·exact z
 ·intro x v D d E hm;refine b_ (r (tE d)) λf D' M hf G=>?_;rw[E]at M;have i:=aM M;subst i;rw[hm]at hf;have i:=aM hf;subst i;exact⟨f,rfl,G⟩
 ·intro x v hm d;refine b_ (r (tE d)) λf D' M hf G=>?_;rw[hm]at hf;have i:=aM hf;subst i;exact⟨f,G.keep⟩
 ·intro c v hm d;refine gX (clsAt (rA d)) λ_ C _ _ T _=>?_;rw[hm]at T;have i:=aM T;subst i;exact⟨C,rfl⟩
 ·intro x v d;unfold DP at d;split at d
  ·rename_i v' hl;have I:=aM d;subst I;have u:=j4 hl;refine⟨d3 _ u,.inl ?_⟩;refine aW (oF (List.all_eq_true.mp VR _ u)) λj Q hq=>?_;refine aW (List.any_eq_true.mp hq) λq b9 Y=>?_;rw[c_]at Y;have N:=JK b9;rw[Y]at N;change Me.lookup x=some q.2 at N;rw[hl]at N;have e2:=aM N;have k:=S.ck j Q;unfold oG at k;simp only[dE,List.all_eq_true]at k;have kk:=k.1.1.2 q b9;refine oE (Option.isSome_iff_exists.mp (List.all_eq_true.mp QQ _ (X u))) λxv Z=>?_;change xG x=some xv at Z;have O:=IW S g (X u) Z;change F.mg x=some xv at O;unfold HK at kk;rw[<-e2,Y]at kk
   cases hb:EM v' with
   |true=>rw[hb]at kk;obtain rfl:=c_.mp kk;obtain rfl:=N4 hb;exact⟨xv,O,.bits O⟩
   |false=>rw[hb]at kk;refine aW (eM kk) λy hy kk=>?_;change xG x=some y at hy;have f7:=aM (Z.symm.trans hy);subst f7;exact⟨_,O,LL (S.NH j) kk⟩
  ·split at d;·rename_i hf;have i:=aM d;subst i;refine b_ (r (tE hf)) λf D' M c6 G=>?_;exact⟨d1 x (tE hf),.inl ⟨_,c6,.fn c6 hf⟩⟩
   ·split at d;·rename_i R;have i:=aM d;subst i;refine gX (clsAt (rA R)) λ_ C _ _ T _=>?_;exact⟨d2 x (rA R),.inl ⟨_,T,.cls T R⟩⟩
    ·split at d;·rename_i t U;have i:=aM d;subst i;have q:=List.map_inj_left.mp b1 _ (j4 U);simp only[Prod.mk.injEq]at q;exact⟨d4 _ (j4 U),.inr ⟨ns_none_of S.low g q.1,_,JB S.low b q.2,.typ _⟩⟩
     ·split at d;·rename_i t U;have i:=aM d;subst i;have q:=List.map_inj_left.mp b2 _ (j4 U);simp only[Prod.mk.injEq]at q;exact⟨d5 _ (j4 U),.inr ⟨ns_none_of S.low g q.1,_,JB S.low b q.2,.bi _⟩⟩
      ·exact dW d
 ·unfold IV at x0;simp only[dE]at x0;obtain⟨⟨x1,x2⟩,x5⟩:=x0;unfold vT at xL xM xF;refine aW (eM x5) λLa hL x5=>?_;refine aW (eM x5) λC H x5=>?_;refine aW (eM x5) λC' b6 x5=>?_;rw[hL]at xL;rw[H]at xM;rw[b6]at xF;dsimp only at xL xM xF;have kL:F.K La=Kp 0:=by rwa[J];exact rU xL
  have kC:F.K C=Kp 0:=by rwa[J];exact rU xM
  have b7:F.K C'=Kp 0:=by rwa[J];exact rU xF
  have mL:=r8 S g (W (aE)) hL;have mC:=r8 S g (W (aC (aE))) H;have c7:=r8 S g (W (aC (aC (aE)))) b6;simp only[dE,c_,Bool.not_eq_true']at x5;obtain⟨⟨⟨⟨y1,y2⟩,y3⟩,y4⟩,y5⟩:=x5;refine aW (eM y1) λl z1 y1=>?_;simp only[dE,c_]at y1;obtain⟨⟨_,z3⟩,z4⟩:=y1;obtain⟨D,E⟩:=P3;refine fN (S.fun J (by decide) (List.contains_iff_mem.mp exc.1) E) λf hf U hk G=>?_;rw[z1]at hf;have i:=aM hf;subst i;obtain⟨D2,c9⟩:=N7;refine fN (S.fun J (by decide) (List.contains_iff_mem.mp exc.2) c9) λf2 P f9 i4 f8=>?_;unfold oO at P;dsimp only at P;rw[H]at P;refine⟨⟨La,D,l,mL,E,G,by rwa[kL];exact y2,by rwa[kL];exact Y2 z4,by rwa[kL];exact y3⟩,⟨C,D2,f2,mC,A6 H kC x1,c9,f8,by rwa[kC];exact z5 P⟩,⟨C',D,l,c7,A6 b6 b7 x2,E,G,by rwa[b7];exact z5 z3⟩,⟨ns_none_of S.low g b3,JB S.low b b4⟩,λA B hA hB=>?_⟩;rw[mC]at hA;have i:=aM hA;cases i;rw[c7]at hB;have i:=aM hB;cases i;rwa[kC];rwa[b7];exact⟨y4,y5⟩
end
noncomputable abbrev rT:=PySem.Challenge.rw_ot0054_01.row
theorem Dw:(PySem.W.defOf qV rT.name).isSome=true:=by kernel_rfl
theorem Jg:rT.toRowW.prog.theDef rT.name=(PySem.W.defOf qV rT.name).map λx=>(x.1.params,x.1.body,x.1.scope):=by kernel_rfl
theorem Hn:(PySem.W.defOf qV rT.name).bind (λx=>kwWritten? x.1.params.kwonlyargs x.1.params.kw_defaults)=(PySem.W.defOf qV rT.name).map (·.2):=by kernel_rfl
theorem Bj:chainsOk qV=true:=by kernel_rfl
theorem Be:opensWell rT.toRowW.prog=true:=by kernel_rfl
theorem Bp:(frees rT.toRowW&&rT.within.isEmpty)=true:=by kernel_rfl
theorem ZS:rT.toRowW.prog.bare:=⟨rfl,rfl,rfl,rfl,rfl,by decide+kernel⟩
noncomputable abbrev lT:=PySem.Challenge.rw_ot0054_01
theorem u_1:sreFenced pT.main=true:=by rwa[PySem.W.Fast.te11788848310118352699];kernel_rfl
theorem u_2:((moduleNames pT.main.body).isEmpty||lookedIntoSs (moduleNames pT.main.body) pT.main.body)=true:=by kernel_rfl
theorem u_3:namesResolve pT=true:=by rwa[PySem.W.Fast.te8377067652309620493];kernel_rfl
theorem u_4:pT.boundNames.all (λn=>!worldNames.contains n)=true:=by rwa[PySem.W.Fast.te18344453789297297638];rwa[PySem.W.Fast.te14412699480532031325];kernel_rfl
theorem u_5:noRoadLSs {strict:=!(importedModules pT.main.body).all cThrough.contains,foot:=none,bare:=(["vars","dir","locals"]:List Str).filter (readsOut pT pT.main.body)} pT.main.body=true:=by rwa[PySem.W.Fast.te8326940854005059898];kernel_rfl
theorem u_6:(namesMeet pT pT.main.body λz9 n=>attrL n)=true:=by rwa[PySem.W.Fast.te17119622794617984870];rwa[PySem.W.Fast.te17868728402115742887];kernel_rfl
theorem V0:looksOpen rT.prog=true:=look_both (look_both (look_both (look_both (look_both u_1 u_2) u_3) u_4) u_5) u_6
theorem XW:rT.partSaid=true:=by unfold OpenRow.partSaid;rw[show looksOpen rT.prog=true from V0,Bool.true_and];kernel_rfl
theorem Dj:rT.wellSaid=true:=by unfold OpenRow.wellSaid;rw[XW,Bool.true_and,PySem.W.Fast.te18344453789297297638];kernel_rfl
theorem v_2:decide (lT.foot<=(behindTheImports lT.prog).length)=true:=by kernel_rfl
theorem v_3:lT.footing.all footLine=true:=by rw[PySem.W.Fast.te10501279942588096481];kernel_rfl
theorem v_4:noClassBlock lT.prog lT.footing=true:=by rw[PySem.W.Fast.te8179353310426384613];kernel_rfl
theorem v_5:(lT.most.all (λn=>decide (63<=n))&&lT.bound.all (λn=>decide (2^63<=n)))=true:=by kernel_rfl
theorem v_6:noRoadLSs {strict:=true,foot:=some lT.bound',writes:=lT.writes,may:=lT.may} lT.footing=true:=by rw[PySem.W.Fast.te8326940854005059898];kernel_rfl
theorem v_7:defStands lT.about lT.above=true:=by kernel_rfl
theorem v_8:lT.namesIt=true:=by rw[PySem.W.Fast.te16286561074155671207];kernel_rfl
theorem v_9:((["type","isinstance","issubclass","getattr","hasattr"]:List Str).all (λn=>lT.about !=[n]))=true:=by kernel_rfl
theorem v_10:lT.bound'.all (λn=>!builtinNamed n||lT.about==[n]||!lT.reads n)=true:=by rw[PySem.W.Fast.named_eq];kernel_rfl
theorem v_11:((!lT.writes||(lT.prog.main.body.flatMap importedNames).all λn=>!lT.reads n)&&(lT.prog.main.body.flatMap importedNames).all (λn=>!lT.reads n||(drawsOf n lT.prog.main.body).all λa=>a.2 !=("attrgetter":Str)&&a.2 !=("methodcaller":Str)))=true:=by kernel_rfl
theorem v_12:namesMeet lT.prog lT.footing (λsc n=>(!(["type","isinstance","issubclass","getattr","hasattr"]:List Str).contains n||sc.names.lookup n==some .globalImplicit)&&(lT.may !=some n||sc.kind==.module||sc.names.lookup n==some .globalImplicit))=true:=by rw[PySem.W.Fast.te17119622794617984870];kernel_rfl
theorem v_13:lT.own.contains lT.name=true:=by kernel_rfl
theorem v_14:(lT.own.eraseDups.length==lT.own.length)=true:=by rw[PySem.W.Fast.te7723801398212525404];kernel_rfl
theorem v_15:lT.own.all (λn=>!builtinNamed n)=true:=by rw[PySem.W.Fast.named_eq];kernel_rfl
theorem v_16:namesMeet lT.prog lT.above (λz9 n=>!lT.own.contains n)=true:=by rw[PySem.W.Fast.te17119622794617984870];kernel_rfl
theorem v_17:(namesMeet lT.prog lT.footing λsc n=>sc.kind==.module||sc.names.lookup n !=some .globalExplicit)=true:=by rw[PySem.W.Fast.te17119622794617984870];kernel_rfl
theorem Ae:lT.wellSaid=true:=by unfold OpenLaw.wellSaid;rw[show lT.row.wellSaid=true from Dj,v_2,v_3,v_4];have h:=v_5;rw[dE]at h;have Z:=v_11;rw[dE]at Z;rewrite[h.1,h.2,v_6,v_7,v_8,v_9,v_10,Z.1,Z.2,v_12,v_13,v_14,v_15,v_16,v_17];rfl
theorem FD{P:Params}:∀{ns:List Int}{vs:List Value},WellAll P Z vs (ofPys (ns.map PyData.int))->b9 F U h (ns.map V.int) vs
 |[],vs,w=>by cases w;exact .nil
 |n::ns,vs,w=>by
  cases w with
  |cons a r=>cases a;exact .cons (.int _ _) (FD r)
theorem VV:Lu F [] [] [] F.base:=by
 refine⟨λz9 z9 e=>e,rfl,⟨λz9=>none,λz9 h=>aV rfl h,λz9 h=>?_,λn vo e=>?_⟩,List.nodup_nil,λz9 h=>?_⟩;·cases h
 ·simp at e
 ·cases h
theorem XR(C:∀ns:List Int,ns.length<=63->∃H,vD ns=.done (.ret (.bool true)) [] H)(F:Fix)(O:cA F)(q:jE F){ns:List Int}(j:ns.length<=63){b:Addr}(m:F.mg "law"=some (.ref a)){P:Params}(w:Well P F.base (.ref b) (ofPy (PyData.list (ns.map PyData.int)))){gens:Array GenState}:wpAny F.mo callerA (PySem.call (.ref a) [.ref b]) (λv s'=>v=.bool true/\(∀b o,F.base.get? b=some o->s'.heap.get? b=some o)/\s'.os=B/\s'.gens=gens) (λz9 z9=>False) ⟨F.base,gens,u,t,B⟩:=by
 refine oE (C ns j) λH d=>?_
 cases i:Lx (.top "law")with
 |none=>rw[show vD ns=.stuck from yK _ _ _ _ _ i]at d;cases d
 |some y=>
  refine aW (O.fns "law" _ y (by decide+kernel) i m) λf hf z=>?_;cases hf
  cases w with
  |list e1 D=>
   refine wpAny_call (Bg (F:=F) (g:=gens) (u:=u) (B:=B) O q 30 (A:=callerA) (Θ:=[]) (U:=[]) (H:=[]) (P:=λr=>∃H,r=.done (.ret (.bool true)) [] H) (k:=λv n=>.done (.ret v) [] n) i z (by decide) (by decide+kernel) rfl rfl ⟨[],rfl,λz9 h=>by cases h⟩ VV (.cons (.qG ⟨_,e1⟩ (FD D)) .nil) (λv n aO Z t' x z9 z9 R rv l=>?_) (λc s n aO Z t' e z9 z9 z9 l=>?_) (λh=>?_) ⟨H,d⟩);·refine oE l ?_;clear l;intro p e;cases e;cases rv;exact⟨rfl,λb o e=>R.stays _ _ e,rfl,rfl⟩
   ·refine oE l ?_;clear l;intro p e;cases e
   ·refine oE h ?_;clear h;intro p e;cases e
set_option tactic.hygienic true in
theorem UG(C:∀ns:List Int,ns.length<=63->∃H,vD ns=.done (.ret (.bool true)) [] H)(d:DefRec)(m:List (Str×Expr))(e:d.name=("law":Str)):WalkO qV r6 (λz9 z9=>True) (λw h=>∃Kp,m6 w Kp h) rT.toRowW d m λf vs=>PySem.call f vs:=by
 intro w r j mg mb G⟨Kp,S⟩a o K cd doc L M ho N y O n i s vals as k l p q lK;refine Ground.open G ?_;intro T R D P Q;wrow_args k l p q lK;rename_i ns _ _ _ _ _ _ _ b _ _ _ _ z _ _ _ c _;have c:ns.length<=63:=by have:¬(63:Int)<(ns.length:Int):=c;lia
 obtain⟨heap,gens,u,t,B⟩:=j;have x:=WZ (F:=⟨rT.toRowW.prog,w,xP w.params Kp,heap,mg,mb⟩) (Kp:=Kp) S rfl T.g T.b T.nolimit T.nodigits;refine eQ (XR C ⟨rT.toRowW.prog,w,xP w.params Kp,heap,mg,mb⟩ x.1 x.2 c (e▸n) z) (λv s'⟨A,E,I,J⟩=>?_) λz9 z9 h=>h.elim;subst A;exact GoodW.toG ⟨.inl ⟨.bool true,.bool true,[],rfl,λz9=>rfl,.bool true,by kernel_rfl,λz9=>⟨List.nodup_nil,λz9 h=>by cases h⟩⟩,E,I,by rwa[J];exact i⟩
theorem holds_of(C:∀ns:List Int,ns.length<=63->∃H,vD ns=.done (.ret (.bool true)) [] H):PySem.Challenge.rw_ot0054_01.Holds:=by refine holds_law Ae λa=>?_;obtain⟨⟨d,b⟩,c⟩:=Option.isSome_iff_exists.mp Dw;have f:=Jg;have g:=Hn;rw[c]at f g;have ok:=look_both (look_both Bj Be) Bp;exact holds_open (q:=qV) (loose:=r6) (Xt:=λz9=>true) (XP:=λz9 z9=>True) (Yf:=SY) (Ya:=TO) (YP:=λw h=>∃Kp,m6 w Kp h) (N:=F2+2) Bt (λw s e=>US e) (λw h Z⟨Kp,S⟩k=>⟨Kp,S.keeps k⟩) (λz9 z9=>trivial) (λz9 z9 z9 z9 z9=>trivial) c f g (λz9 z9=>recFacts_nil rfl) (by rfl) a ok ZS ⟨[.list []],by decide+kernel,by decide+kernel⟩ (UG C d b (defOf_name c))
end
namespace Lw
variable{l cJ vs acc:List V}{n m r mN mH kZ dL bJ Z bP jD iH jH b8 b7 dP dH cK cI nC nI rV a x it i al o z j r2 many bl lo sp cd:Nat}{as:List (Str×V)}{H G Y:VH}{v cL J lO hV hU O iE U cD sB uA qR tS oM v3 w0 jM zK fE eA tL mW AU m8 j9 IS qP hJ fJ hH x0 x1 x2 x3 x4 x5 x6 x7 iL W:V}{k:Kv}{cf:CF}{kQ lv:Bool}{jZ iR iV dO j3 y j0 iW iC wW b g0 g1:Int}{vF e nm:Str}{o' ob ob':VO}{L B T:List (Nat×VO)}{src:VH->Bool}{kb kk:Bool->Res}{turn:V->VH->List V->(VH->List V->Res)->Res}{P:Res->Prop}{α:Type}{σ:List (List V×Bool)}{A:wK}{s s0:Ms}{loc:Loc}{c:Cell}{S:St}{p:cO}{cs:List Cell}{op o2:Op}{C:Op->Prop}{f:Int->Int->List V}{st:bM}{t:dT}{bs:List (List bM×dT)}{rows:List bM}{lst SS:List Nat}{K:VH->List V->Res}{q:Nat×VO}{KK:V->V->VH->Res}
noncomputable section
theorem jF(a b:Int):hZ (.int a) (.int b)=decide (a=b):=rfl
theorem w9:Ly.m4 l l=true:=@cC _ (Classical.propDecidable _) rfl
noncomputable abbrev eB:V:=.tup [.str "uninit"]
noncomputable abbrev Lr:V:=.tup [.str "==",.str "!=",.str "<",.str "<=",.str ">",.str ">="]
noncomputable abbrev bH:V:=.tup [.str "int",.str "i8"]
noncomputable abbrev Mh:V:=.tup [.str "bool"]
def gA(o:V)(x:Str)(H:VH)(k:V->Res):Res:=match Ml o x H with|some v=>k v|none=>.stuck
def gI(o i:V)(H:VH)(k:V->Res):Res:=match Mz o i H with|some v=>k v|none=>.stuck
def gL(x:Str)(loc:Loc)(k:V->Res):Res:=match aU x loc with|some v=>k v|none=>.stuck
def mO(o:V)(m:Str)(H:VH)(k:Kd->Res):Res:=match vI o m H with|some a=>k a|none=>.stuck
def cP(op:CmpOp)(a b:V)(H:VH)(k:Bool->Res):Res:=match i5 op a b H with|some t=>k t|none=>.stuck
def tV(v:V)(k:Bool->Res):Res:=match Mq v with|some b=>k b|none=>.stuck
noncomputable def iT(b:Bool)(x y:Res):Res:=match b with|true=>x|false=>y
def Ou(v:V)(H:VH)(k:Int->Res):Res:=iD .stuck v λi=>k (-i)
noncomputable def nw(o:VO)(H:VH)(k:Kv):Res:=k (.ref H.length) (H++[o])
def eL(cf:CF)(c:Str)(vs:List V)(H:VH)(k:Kv):Res:=cf (.aL c "__init__") (.ref H.length::vs) (H++[.inst c []]) λv a=>TF v (k (.ref H.length) a)
noncomputable def kF(acc:List V)(v:V)(H:VH)(k:VH->List V->Res):Res:=if acc.length<=1000 then k H (acc++[v])else .stuck
def rs(c s:Str)(v:V)(H:VH):Res:=sD .stuck v λx=>if s.length+x.length<=900 then .exc c s H else .stuck
def gC(v:V)(H:VH)(k:V->V->Res):Res:=oR (Ly v H) λq=>S3 v (if q.1.length=2/\false=false then(match q.1[0]? with|some v=>(match q.1[1]? with|some w=>k v w|none=>.stuck)|none=>.stuck)else .stuck)
noncomputable def sq(rest:Loc->VH->Kf->Res)(k:Kf):Kf:=λa loc H=>match a with|.next=>rest loc H k|a=>k a loc H
def fin(k:Kv):Kf:=Z1 k
def f7(x:V)(turn:V->Loc->VH->Kf->Res)(loc:Loc)(H:VH)(k:Kf):Res:=match Ly x H with
 |some (l,src)=>c9 src turn l loc H k
 |none=>.stuck
def gD(x:V)(turn:V->VH->List V->(VH->List V->Res)->Res)(H:VH)(acc:List V)(k:VH->List V->Res):Res:=match Ly x H with
 |some (l,src)=>fP src turn l H acc k
 |none=>.stuck
noncomputable def sI(src:VH->Bool)(H:VH)(x:Res):Res:=if src H then x else .stuck
theorem cQ{c x:Str}{k:V->Res}(h:H[n]?=some (.inst c as)):gA (.ref n) x H k=oR (if mX c x then(match aU x as with|some v=>if EB v then some v else none|none=>none)else none) k:=by
 have e:gA (.ref n) x H k=oR (aD none H[n]? λc as=>if mX c x then(match aU x as with|some v=>if EB v then some v else none|none=>none)else none) k:=by kernel_rfl
 rwa[e];rwa[h];rfl
theorem cN{c m:Str}{k:Kd->Res}(h:H[n]?=some (.inst c as)):mO (.ref n) m H k=oR (if gO (aU m as)&&!gO (Lx (.aL c m))then some (Kd.inst c)else none) k:=by
 have e:mO (.ref n) m H k=(λo:Option VO=>oR (if qL o then(if m="append"\/m="extend"\/m="pop"then some Kd.list else none)else if qD o then(if m="pop"then some Kd.dict else none)else aD none o λc as=>if gO (aU m as)&&!gO (Lx (.aL c m))then some (Kd.inst c)else none) k) (H[n]?):=by kernel_rfl
 rwa[e];rwa[h];rfl
theorem bE{c x:Str}{k:VH->Res}(h:H[n]?=some (.inst c as)):Ls (.ref n) x v H k=(if mX c x&&decide (as.length<=100)then k (H.set n (.inst c (aB x v as)))else .stuck):=by
 have e:Ls (.ref n) x v H k=(λ(o:Option VO)=>match o with|some (.inst c as)=>if mX c x&&decide (as.length<=100)then k (H.set n (.inst c (aB x v as)))else .stuck|_=>.stuck) (H[n]?):=by kernel_rfl
 rwa[e];rwa[h];rfl
theorem gP{m:Str}{k:Kd->Res}(h:H[n]?=some (.list l))(hm:m="append"\/m="extend"\/m="pop"):mO (.ref n) m H k=k .list:=by
 have e:mO (.ref n) m H k=(λo:Option VO=>oR (if qL o then(if m="append"\/m="extend"\/m="pop"then some Kd.list else none)else if qD o then(if m="pop"then some Kd.dict else none)else aD none o λc as=>if gO (aU m as)&&!gO (Lx (.aL c m))then some (Kd.inst c)else none) k) (H[n]?):=by kernel_rfl
 rwa[e];rwa[h];show oR (if m="append"\/m="extend"\/m="pop"then some Kd.list else none) k=_;rwa[aI hm];rfl
theorem z_{l:List (V×V)}{k:Kd->Res}(h:H[n]?=some (.dict l)):mO (.ref n) "pop" H k=k .dict:=by
 have e:mO (.ref n) "pop" H k=(λo:Option VO=>oR (if qL o then some Kd.list else if qD o then some Kd.dict else aD none o λc as=>if gO (aU "pop" as)&&!gO (Lx (.aL c "pop"))then some (Kd.inst c)else none) k) (H[n]?):=by kernel_rfl
 rwa[e];rwa[h];rfl
theorem eU(h:H[n]?=some (.list l))(a:l.length<=1000):aT (.bi "len") [.ref n] H k=k (.int l.length) H:=by
 have e:aT (.bi "len") [.ref n] H k=(λ(o:Option VO)=>match o with|some (.list l)=>if l.length<=1000 then k (.int l.length) H else .stuck|_=>.stuck) (H[n]?):=by kernel_rfl
 rwa[e];rwa[h];exact aI a
theorem BL(h:H[n]?=some (.list l))(a:l.length<=1000):aT (.typ "tuple") [.ref n] H k=k (.tup l) H:=by
 have e:aT (.typ "tuple") [.ref n] H k=(λ(o:Option VO)=>match o with|some (.list l)=>if l.length<=1000 then k (.tup l) H else .stuck|_=>.stuck) (H[n]?):=by kernel_rfl
 rwa[e];rwa[h];exact aI a
theorem DM(h:H[n]?=some (.list l))(a:l.length<=1000):aT (.typ "list") [.ref n] H k=k (.ref H.length) (H++[VO.list l]):=by
 have e:aT (.typ "list") [.ref n] H k=(λ(o:Option VO)=>match o with|some (.list l)=>if l.length<=1000 then k (.ref H.length) (H++[VO.list l])else .stuck|_=>.stuck) (H[n]?):=by kernel_rfl
 rwa[e];rwa[h];exact aI a
theorem k8(h:H[n]?=some (.list l)):aT (.bi "isinstance") [.ref n,.typ "str"] H k=k (.bool false) H:=by
 have e:aT (.bi "isinstance") [.ref n,.typ "str"] H k=(λ(o:Option VO)=>match o with|some (.list _)=>k (.bool false) H|_=>.stuck) (H[n]?):=by kernel_rfl
 rwa[e];rwa[h];rfl
theorem aY{i:Int}{v:V}{k:V->Res}(h:H[n]?=some (.list l))(a:eT l i=some v):gI (.ref n) (.int i) H k=k v:=by
 have e:gI (.ref n) (.int i) H k=(λo:Option VO=>oR (if qL o then lD none o λl=>eT l i else dD none o λl=>if dR (.int i) l then d8 (.int i) l else none) k) (H[n]?):=by kernel_rfl
 rwa[e];rwa[h];show oR (eT l i) k=_;rwa[a];rfl
theorem nB{l:List (V×V)}{i v:V}{k:V->Res}(h:H[n]?=some (.dict l))(hk:dR i l=true)(a:d8 i l=some v):gI (.ref n) i H k=k v:=by
 have e:gI (.ref n) i H k=(λo:Option VO=>oR (if qL o then lD none o λl=>iD none i λi=>eT l i else dD none o λl=>if dR i l then d8 i l else none) k) (H[n]?):=by kernel_rfl
 rwa[e];rwa[h];show oR (if dR i l then d8 i l else none) k=_;rwa[aI hk];rwa[a];rfl
theorem vA{a b:V}{p:Nat×Nat}(h:H[n]?=some (.list l))(c:cut l a b=some p)(d:l.length<=1000):dU (.ref n) a b H k=k (.ref H.length) (H++[VO.list (Mt l p)]):=by
 have e:dU (.ref n) a b H k=(λ(o:Option VO)=>match o with|some (.list l)=>(match cut l a b with|some p=>if l.length<=1000 then k (.ref H.length) (H++[VO.list (Mt l p)])else .stuck|none=>.stuck)|_=>.stuck) (H[n]?):=by kernel_rfl
 rwa[e];rwa[h];show(match cut l a b with|some p=>if l.length<=1000 then k (.ref H.length) (H++[VO.list (Mt l p)])else .stuck|none=>.stuck)=_;rwa[c];exact aI d
theorem mU{i:Int}{k:VH->Res}(h:H[n]?=some (.list l))(hi:0<=i/\i<l.length/\l.length<=1000):Mc (.ref n) (.int i) v H k=k (H.set n (VO.list (l.set i.toNat v))):=by
 have e:Mc (.ref n) (.int i) v H k=(λo:Option VO=>if qL o then lD .stuck o λl=>(if 0<=i/\i<l.length/\l.length<=1000 then k (H.set n (VO.list (l.set i.toNat v)))else .stuck)else dD .stuck o λl=>if dR (.int i) l&&decide (l.length<=100)then k (H.set n (.dict (iQ (.int i) v l)))else .stuck) (H[n]?):=by kernel_rfl
 rwa[e];rwa[h];exact aI hi
theorem jI{l:List (V×V)}{i:V}{k:VH->Res}(h:H[n]?=some (.dict l))(hi:(dR i l&&decide (l.length<=100))=true):Mc (.ref n) i v H k=k (H.set n (.dict (iQ i v l))):=by
 have e:Mc (.ref n) i v H k=(λo:Option VO=>if qL o then lD .stuck o λl=>(iD .stuck i λi=>if 0<=i/\i<l.length/\l.length<=1000 then k (H.set n (VO.list (l.set i.toNat v)))else .stuck)else dD .stuck o λl=>if dR i l&&decide (l.length<=100)then k (H.set n (.dict (iQ i v l)))else .stuck) (H[n]?):=by kernel_rfl
 rwa[e];rwa[h];exact aI hi
theorem u5{w:List V}{a b:V}{p:Nat×Nat}{k:VH->Res}(h:H[n]?=some (.list l))(c:H[m]?=some (.list w))(d:cut l a b=some p)(f:n≠m/\w.length<=1000/\l.length<=1000):gF (.ref n) a b (.ref m) H k=k (H.set n (VO.list (l.take p.1++w++l.drop p.2))):=by
 have e:gF (.ref n) a b (.ref m) H k=(λ(o o2:Option VO)=>match o,o2 with|some (.list l),some (.list w)=>(match cut l a b with|some p=>if n≠m/\w.length<=1000/\l.length<=1000 then k (H.set n (VO.list (l.take p.1++w++l.drop p.2)))else .stuck|none=>.stuck)|_,_=>.stuck) (H[n]?) (H[m]?):=by kernel_rfl
 rwa[e];rwa[h];rwa[c];show(match cut l a b with|some p=>if n≠m/\w.length<=1000/\l.length<=1000 then k (H.set n (VO.list (l.take p.1++w++l.drop p.2)))else .stuck|none=>.stuck)=_;rwa[d];exact aI f
theorem v0{w:List V}(h:H[n]?=some (.list l))(a:H[m]?=some (.list w))(b:l.length+w.length<=1000):Lv .Add (.ref n) (.ref m) H k=k (.ref H.length) (H++[VO.list (l++w)]):=by
 have e:Lv .Add (.ref n) (.ref m) H k=(λ(o o2:Option VO)=>match o,o2 with|some (.list l),some (.list m)=>if l.length+m.length<=1000 then k (.ref H.length) (H++[VO.list (l++m)])else .stuck|_,_=>.stuck) (H[n]?) (H[m]?):=by kernel_rfl
 rwa[e];rwa[h];rwa[a];exact aI b
theorem vS{v:V}{y:Int}(h:H[n]?=some (.list [v]))(a:0<=y/\y<=1000):Lv .Mult (.ref n) (.int y) H k=k (.ref H.length) (H++[VO.list (List.replicate y.toNat v)]):=by
 have e:Lv .Mult (.ref n) (.int y) H k=(λ(o:Option VO)=>match o with|some (.list [v])=>if 0<=y/\y<=1000 then k (.ref H.length) (H++[VO.list (List.replicate y.toNat v)])else .stuck|_=>.stuck) (H[n]?):=by kernel_rfl
 rwa[e];rwa[h];exact aI a
theorem gU(h:H[n]?=some (.list l))(a:l.length<=1000):aJ cf .list (.ref n) "append" [v] H k=k .none (H.set n (VO.list (l++[v]))):=by
 have e:aJ cf .list (.ref n) "append" [v] H k=(λ(o:Option VO)=>match o with|some (.list l)=>if l.length<=1000 then k .none (H.set n (VO.list (l++[v])))else .stuck|_=>.stuck) (H[n]?):=by kernel_rfl
 rwa[e];rwa[h];exact aI a
theorem I7{w:List V}(h:H[n]?=some (.list l))(a:H[r]?=some (.list w))(b:n≠r/\l.length<=1000/\w.length<=1000):aJ cf .list (.ref n) "extend" [.ref r] H k=k .none (H.set n (VO.list (l++w))):=by
 have e:aJ cf .list (.ref n) "extend" [.ref r] H k=(λ(o o2:Option VO)=>match o with|some (.list l)=>(match o2 with|some (.list w)=>if n≠r/\l.length<=1000/\w.length<=1000 then k .none (H.set n (VO.list (l++w)))else .stuck|_=>.stuck)|_=>.stuck) (H[n]?) (H[r]?):=by kernel_rfl
 rwa[e];rwa[h];rwa[a];exact aI b
theorem UW(h:H[n]?=some (.list l))(a:l.getLast?=some v)(b:l.length<=1000):aJ cf .list (.ref n) "pop" [] H k=k v (H.set n (VO.list l.dropLast)):=by
 have e:aJ cf .list (.ref n) "pop" [] H k=(λ(o:Option VO)=>match o with|some (.list l)=>(match l.getLast? with|some v=>if l.length<=1000 then k v (H.set n (VO.list l.dropLast))else .stuck|none=>.stuck)|_=>.stuck) (H[n]?):=by kernel_rfl
 rwa[e];rwa[h];show(match l.getLast? with|some v=>if l.length<=1000 then k v (H.set n (VO.list l.dropLast))else .stuck|none=>.stuck)=_;rwa[a];exact aI b
theorem Cp{l:List (V×V)}{x:V}(h:H[n]?=some (.dict l))(ho:(dR x l&&decide (l.length<=100))=true)(a:d8 x l=some v):aJ cf .dict (.ref n) "pop" [x] H k=k v (H.set n (.dict (j5 x l))):=by
 have e:aJ cf .dict (.ref n) "pop" [x] H k=(λ(o:Option VO)=>match o with|some (.dict l)=>if dR x l&&decide (l.length<=100)then(match d8 x l with|some v=>k v (H.set n (.dict (j5 x l)))|none=>.stuck)else .stuck|_=>.stuck) (H[n]?):=by kernel_rfl
 rwa[e];rwa[h];show(if dR x l&&decide (l.length<=100)then(match d8 x l with|some v=>k v (H.set n (.dict (j5 x l)))|none=>.stuck)else .stuck)=_;rwa[aI ho];rwa[a];rfl
theorem Db{l:List (V×V)}{x y:V}(h:H[n]?=some (.dict l))(ho:(dR x l&&decide (l.length<=100))=true):aJ cf .dict (.ref n) "pop" [x,y] H k=(match d8 x l with|some v=>k v (H.set n (.dict (j5 x l)))|none=>k y H):=by
 have e:aJ cf .dict (.ref n) "pop" [x,y] H k=(λ(o:Option VO)=>match o with|some (.dict l)=>if dR x l&&decide (l.length<=100)then(match d8 x l with|some v=>k v (H.set n (.dict (j5 x l)))|none=>k y H)else .stuck|_=>.stuck) (H[n]?):=by kernel_rfl
 rwa[e];rwa[h];show(if dR x l&&decide (l.length<=100)then(match d8 x l with|some v=>k v (H.set n (.dict (j5 x l)))|none=>k y H)else .stuck)=_;rwa[aI ho];rfl
theorem VN{l:List (V×V)}{x:V}{k:Bool->Res}(h:H[n]?=some (.dict l))(ho:dR x l=true):cP .In x (.ref n) H k=k (d8 x l).isSome:=by
 have e:cP .In x (.ref n) H k=(λo:Option VO=>oR (if qL o then lD none o λl=>jW H x l else dD none o λl=>if dR x l then some (d8 x l).isSome else none) k) (H[n]?):=by kernel_rfl
 rwa[e];rwa[h];show oR (if dR x l then some (d8 x l).isSome else none) k=_;rwa[aI ho];rfl
theorem kW{l:List (V×V)}{x:V}{k:Bool->Res}(h:H[n]?=some (.dict l))(ho:dR x l=true):cP .NotIn x (.ref n) H k=k (!(d8 x l).isSome):=by
 have e:cP .NotIn x (.ref n) H k=(λo:Option VO=>oR ((if qL o then lD none o λl=>jW H x l else dD none o λl=>if dR x l then some (d8 x l).isSome else none).map (!·)) k) (H[n]?):=by kernel_rfl
 rwa[e];rwa[h];show oR ((if dR x l then some (d8 x l).isSome else none).map (!·)) k=_;rwa[aI ho];rfl
theorem nG{x:V}{t:Bool}{k:Bool->Res}(h:H[n]?=some (.list l))(ho:jW H x l=some t):cP .In x (.ref n) H k=k t:=by
 have e:cP .In x (.ref n) H k=(λo:Option VO=>oR (if qL o then lD none o λl=>jW H x l else dD none o λl=>if dR x l then some (d8 x l).isSome else none) k) (H[n]?):=by kernel_rfl
 rwa[e];rwa[h];show oR (jW H x l) k=_;rwa[ho];rfl
theorem nQ(h:H[n]?=some (.list l)):Ly (.ref n) H=some (l,λa=>match a[n]? with|some (.list l')=>Ly.m4 l l'|_=>false):=by
 have e:Ly (.ref n) H=(λ(o:Option VO)=>match o with|some (.list l)=>some (l,λa=>match a[n]? with|some (.list l')=>Ly.m4 l l'|_=>false)|_=>none) (H[n]?):=by kernel_rfl
 rwa[e];rwa[h];rfl
noncomputable abbrev tU(mN:Nat):VO:=.inst "Stack" [("items",.ref mN)]
theorem jK{k:V->Res}(h:H[n]?=some (tU mN)):gA (.ref n) "items" H k=k (.ref mN):=by rwa[cQ h];kernel_rfl
theorem u4{k:Kd->Res}(h:H[n]?=some (tU mN)):mO (.ref n) "place" H k=k (.inst "Stack"):=by rwa[cN h];kernel_rfl
theorem HD{k:Kd->Res}(h:H[n]?=some (tU mN)):mO (.ref n) "read" H k=k (.inst "Stack"):=by rwa[cN h];kernel_rfl
theorem E7{k:Kd->Res}(h:H[n]?=some (tU mN)):mO (.ref n) "write" H k=k (.inst "Stack"):=by rwa[cN h];kernel_rfl
noncomputable abbrev tW(mH kZ:Nat)(kQ:Bool):VO:=.inst "Allocation" [("cells",.ref mH),("stacks",.ref kZ),("is_live",.bool kQ)]
theorem pC{k:V->Res}(h:H[n]?=some (tW mH kZ kQ)):gA (.ref n) "cells" H k=k (.ref mH):=by rwa[cQ h];kernel_rfl
theorem tM{k:V->Res}(h:H[n]?=some (tW mH kZ kQ)):gA (.ref n) "stacks" H k=k (.ref kZ):=by rwa[cQ h];kernel_rfl
theorem zZ{k:V->Res}(h:H[n]?=some (tW mH kZ kQ)):gA (.ref n) "is_live" H k=k (.bool kQ):=by rwa[cQ h];kernel_rfl
noncomputable abbrev lG(dL:Nat)(jZ:Int):VO:=.inst "Memory" [("allocations",.ref dL),("tags",.int jZ)]
theorem fK{k:V->Res}(h:H[n]?=some (lG dL jZ)):gA (.ref n) "allocations" H k=k (.ref dL):=by rwa[cQ h];kernel_rfl
theorem yV{k:Kd->Res}(h:H[n]?=some (lG dL jZ)):mO (.ref n) "allocate" H k=k (.inst "Memory"):=by rwa[cN h];kernel_rfl
theorem GU{k:Kd->Res}(h:H[n]?=some (lG dL jZ)):mO (.ref n) "base" H k=k (.inst "Memory"):=by rwa[cN h];kernel_rfl
theorem rY{k:Kd->Res}(h:H[n]?=some (lG dL jZ)):mO (.ref n) "is_live" H k=k (.inst "Memory"):=by rwa[cN h];kernel_rfl
theorem G7{k:Kd->Res}(h:H[n]?=some (lG dL jZ)):mO (.ref n) "free" H k=k (.inst "Memory"):=by rwa[cN h];kernel_rfl
theorem wV{k:Kd->Res}(h:H[n]?=some (lG dL jZ)):mO (.ref n) "room" H k=k (.inst "Memory"):=by rwa[cN h];kernel_rfl
theorem rH{k:Kd->Res}(h:H[n]?=some (lG dL jZ)):mO (.ref n) "read" H k=k (.inst "Memory"):=by rwa[cN h];kernel_rfl
theorem jB{k:Kd->Res}(h:H[n]?=some (lG dL jZ)):mO (.ref n) "write" H k=k (.inst "Memory"):=by rwa[cN h];kernel_rfl
theorem qE{k:Kd->Res}(h:H[n]?=some (lG dL jZ)):mO (.ref n) "read_all" H k=k (.inst "Memory"):=by rwa[cN h];kernel_rfl
theorem lW{k:Kd->Res}(h:H[n]?=some (lG dL jZ)):mO (.ref n) "write_all" H k=k (.inst "Memory"):=by rwa[cN h];kernel_rfl
noncomputable abbrev nW(bJ Z:Nat):VO:=.inst "Places" [("memory",.ref bJ),("world",.ref Z)]
theorem lP{k:V->Res}(h:H[n]?=some (nW bJ Z)):gA (.ref n) "memory" H k=k (.ref bJ):=by rwa[cQ h];kernel_rfl
theorem d9{k:V->Res}(h:H[n]?=some (nW bJ Z)):gA (.ref n) "world" H k=k (.ref Z):=by rwa[cQ h];kernel_rfl
theorem gN{k:Kd->Res}(h:H[n]?=some (nW bJ Z)):mO (.ref n) "home_of" H k=k (.inst "Places"):=by rwa[cN h];kernel_rfl
theorem nE{k:Kd->Res}(h:H[n]?=some (nW bJ Z)):mO (.ref n) "spot_of" H k=k (.inst "Places"):=by rwa[cN h];kernel_rfl
theorem wD{k:Kd->Res}(h:H[n]?=some (nW bJ Z)):mO (.ref n) "element_of" H k=k (.inst "Places"):=by rwa[cN h];kernel_rfl
theorem nR{k:Kd->Res}(h:H[n]?=some (nW bJ Z)):mO (.ref n) "read" H k=k (.inst "Places"):=by rwa[cN h];kernel_rfl
theorem DV{k:Kd->Res}(h:H[n]?=some (nW bJ Z)):mO (.ref n) "leave" H k=k (.inst "Places"):=by rwa[cN h];kernel_rfl
theorem eV{k:Kd->Res}(h:H[n]?=some (nW bJ Z)):mO (.ref n) "taken" H k=k (.inst "Places"):=by rwa[cN h];kernel_rfl
noncomputable abbrev uR(bP Z:Nat):VO:=.inst "Rvalues" [("places",.ref bP),("world",.ref Z)]
theorem iU{k:V->Res}(h:H[n]?=some (uR bP Z)):gA (.ref n) "places" H k=k (.ref bP):=by rwa[cQ h];kernel_rfl
theorem E8{k:Kd->Res}(h:H[n]?=some (uR bP Z)):mO (.ref n) "cells" H k=k (.inst "Rvalues"):=by rwa[cN h];kernel_rfl
theorem oD{k:Kd->Res}(h:H[n]?=some (uR bP Z)):mO (.ref n) "of_two" H k=k (.inst "Rvalues"):=by rwa[cN h];kernel_rfl
theorem GJ{k:Kd->Res}(h:H[n]?=some (uR bP Z)):mO (.ref n) "made" H k=k (.inst "Rvalues"):=by rwa[cN h];kernel_rfl
noncomputable abbrev IP(bP Z:Nat):VO:=.inst "DropGlue" [("places",.ref bP),("world",.ref Z)]
noncomputable abbrev l_(jD iH:Nat)(iR iV:Int)(jH:Nat):VO:=.inst "Frame" [("body",.ref jD),("target",.none),("after",.none),("homes",.ref iH),("block",.int iR),("index",.int iV),("jobs",.ref jH)]
theorem fO{k:V->Res}(h:H[n]?=some (l_ jD iH iR iV jH)):gA (.ref n) "body" H k=k (.ref jD):=by rwa[cQ h];kernel_rfl
theorem iJ{k:V->Res}(h:H[n]?=some (l_ jD iH iR iV jH)):gA (.ref n) "homes" H k=k (.ref iH):=by rwa[cQ h];kernel_rfl
theorem uM{k:V->Res}(h:H[n]?=some (l_ jD iH iR iV jH)):gA (.ref n) "block" H k=k (.int iR):=by rwa[cQ h];kernel_rfl
theorem mY{k:V->Res}(h:H[n]?=some (l_ jD iH iR iV jH)):gA (.ref n) "index" H k=k (.int iV):=by rwa[cQ h];kernel_rfl
theorem wM{k:V->Res}(h:H[n]?=some (l_ jD iH iR iV jH)):gA (.ref n) "jobs" H k=k (.ref jH):=by rwa[cQ h];kernel_rfl
theorem kX{k:Kd->Res}(h:H[n]?=some (l_ jD iH iR iV jH)):mO (.ref n) "go" H k=k (.inst "Frame"):=by rwa[cN h];kernel_rfl
noncomputable abbrev eH(b8 Z:Nat)(cJ:List V)(dO:Int)(bJ bP b7 dP dH cK cI:Nat)(cL:V):VO:=.inst "Machine" [("program",.ref b8),("world",.ref Z),("inputs",.tup cJ),("fuel",.int dO),("memory",.ref bJ),("places",.ref bP),("rvalues",.ref b7),("glue",.ref dP),("late",.ref dH),("frames",.ref cK),("prints",.ref cI),("outcome",cL)]
theorem lC{k:V->Res}(h:H[n]?=some (eH b8 Z cJ dO bJ bP b7 dP dH cK cI cL)):gA (.ref n) "program" H k=k (.ref b8):=by rwa[cQ h];kernel_rfl
theorem kY{k:V->Res}(h:H[n]?=some (eH b8 Z cJ dO bJ bP b7 dP dH cK cI cL)):gA (.ref n) "world" H k=k (.ref Z):=by rwa[cQ h];kernel_rfl
theorem tJ{k:V->Res}(h:H[n]?=some (eH b8 Z cJ dO bJ bP b7 dP dH cK cI cL)):gA (.ref n) "inputs" H k=k (.tup cJ):=by rwa[cQ h];kernel_rfl
theorem rK{k:V->Res}(h:H[n]?=some (eH b8 Z cJ dO bJ bP b7 dP dH cK cI cL)):gA (.ref n) "fuel" H k=k (.int dO):=by rwa[cQ h];kernel_rfl
theorem iS{k:V->Res}(h:H[n]?=some (eH b8 Z cJ dO bJ bP b7 dP dH cK cI cL)):gA (.ref n) "memory" H k=k (.ref bJ):=by rwa[cQ h];kernel_rfl
theorem fY{k:V->Res}(h:H[n]?=some (eH b8 Z cJ dO bJ bP b7 dP dH cK cI cL)):gA (.ref n) "places" H k=k (.ref bP):=by rwa[cQ h];kernel_rfl
theorem AM{k:V->Res}(h:H[n]?=some (eH b8 Z cJ dO bJ bP b7 dP dH cK cI cL)):gA (.ref n) "rvalues" H k=k (.ref b7):=by rwa[cQ h];kernel_rfl
theorem rC{k:V->Res}(h:H[n]?=some (eH b8 Z cJ dO bJ bP b7 dP dH cK cI cL)):gA (.ref n) "late" H k=k (.ref dH):=by rwa[cQ h];kernel_rfl
theorem lM{k:V->Res}(h:H[n]?=some (eH b8 Z cJ dO bJ bP b7 dP dH cK cI cL)):gA (.ref n) "frames" H k=k (.ref cK):=by rwa[cQ h];kernel_rfl
theorem oB{k:V->Res}(h:H[n]?=some (eH b8 Z cJ dO bJ bP b7 dP dH cK cI cL)):gA (.ref n) "prints" H k=k (.ref cI):=by rwa[cQ h];kernel_rfl
theorem m9{k:V->Res}(h:H[n]?=some (eH b8 Z cJ dO bJ bP b7 dP dH cK cI .none)):gA (.ref n) "outcome" H k=k .none:=by rwa[cQ h];kernel_rfl
theorem n_{k:V->Res}(h:H[n]?=some (eH b8 Z cJ dO bJ bP b7 dP dH cK cI (.tup l))):gA (.ref n) "outcome" H k=k (.tup l):=by rwa[cQ h];kernel_rfl
theorem JE{k:Kd->Res}(h:H[n]?=some (eH b8 Z cJ dO bJ bP b7 dP dH cK cI cL)):mO (.ref n) "run" H k=k (.inst "Machine"):=by rwa[cN h];kernel_rfl
theorem rS{k:Kd->Res}(h:H[n]?=some (eH b8 Z cJ dO bJ bP b7 dP dH cK cI cL)):mO (.ref n) "body_of" H k=k (.inst "Machine"):=by rwa[cN h];kernel_rfl
theorem EE{k:Kd->Res}(h:H[n]?=some (eH b8 Z cJ dO bJ bP b7 dP dH cK cI cL)):mO (.ref n) "enter" H k=k (.inst "Machine"):=by rwa[cN h];kernel_rfl
theorem pG{k:Kd->Res}(h:H[n]?=some (eH b8 Z cJ dO bJ bP b7 dP dH cK cI cL)):mO (.ref n) "make_home" H k=k (.inst "Machine"):=by rwa[cN h];kernel_rfl
theorem lX{k:Kd->Res}(h:H[n]?=some (eH b8 Z cJ dO bJ bP b7 dP dH cK cI cL)):mO (.ref n) "give_back" H k=k (.inst "Machine"):=by rwa[cN h];kernel_rfl
theorem DB{k:Kd->Res}(h:H[n]?=some (eH b8 Z cJ dO bJ bP b7 dP dH cK cI cL)):mO (.ref n) "leave" H k=k (.inst "Machine"):=by rwa[cN h];kernel_rfl
theorem GS{k:Kd->Res}(h:H[n]?=some (eH b8 Z cJ dO bJ bP b7 dP dH cK cI cL)):mO (.ref n) "step" H k=k (.inst "Machine"):=by rwa[cN h];kernel_rfl
theorem tX{k:Kd->Res}(h:H[n]?=some (eH b8 Z cJ dO bJ bP b7 dP dH cK cI cL)):mO (.ref n) "do_statement" H k=k (.inst "Machine"):=by rwa[cN h];kernel_rfl
theorem sZ{k:Kd->Res}(h:H[n]?=some (eH b8 Z cJ dO bJ bP b7 dP dH cK cI cL)):mO (.ref n) "do_terminator" H k=k (.inst "Machine"):=by rwa[cN h];kernel_rfl
theorem pU{k:Kd->Res}(h:H[n]?=some (eH b8 Z cJ dO bJ bP b7 dP dH cK cI cL)):mO (.ref n) "do_switch" H k=k (.inst "Machine"):=by rwa[cN h];kernel_rfl
theorem xB{k:Kd->Res}(h:H[n]?=some (eH b8 Z cJ dO bJ bP b7 dP dH cK cI cL)):mO (.ref n) "do_assert" H k=k (.inst "Machine"):=by rwa[cN h];kernel_rfl
noncomputable abbrev qC(vF:Str)(j3:Int)(nC nI rV:Nat):VO:=.inst "Body" [("name",.str vF),("arg_count",.int j3),("locals",.ref nC),("blocks",.ref nI),("spots",.ref rV)]
theorem xQ{k:V->Res}(h:H[n]?=some (qC vF j3 nC nI rV)):gA (.ref n) "arg_count" H k=k (.int j3):=by rwa[cQ h];kernel_rfl
theorem fC{k:V->Res}(h:H[n]?=some (qC vF j3 nC nI rV)):gA (.ref n) "locals" H k=k (.ref nC):=by rwa[cQ h];kernel_rfl
theorem j1{k:V->Res}(h:H[n]?=some (qC vF j3 nC nI rV)):gA (.ref n) "blocks" H k=k (.ref nI):=by rwa[cQ h];kernel_rfl
theorem uF{y:Nat}{k:VH->Res}(h:H[n]?=some (tU mN)):Ls (.ref n) "items" (.ref y) H k=k (H.set n (tU y)):=by rwa[bE h];kernel_rfl
theorem AN{y:Bool}{k:VH->Res}(h:H[n]?=some (tW mH kZ kQ)):Ls (.ref n) "is_live" (.bool y) H k=k (H.set n (tW mH kZ y)):=by rwa[bE h];kernel_rfl
theorem E3{k:VH->Res}(h:H[n]?=some (l_ jD iH iR iV jH)):Ls (.ref n) "block" (.int y) H k=k (H.set n (l_ jD iH y iV jH)):=by rwa[bE h];kernel_rfl
theorem u8{k:VH->Res}(h:H[n]?=some (l_ jD iH iR iV jH)):Ls (.ref n) "index" (.int y) H k=k (H.set n (l_ jD iH iR y jH)):=by rwa[bE h];kernel_rfl
theorem G6{k:VH->Res}(h:H[n]?=some (eH b8 Z cJ dO bJ bP b7 dP dH cK cI cL)):Ls (.ref n) "fuel" (.int y) H k=k (H.set n (eH b8 Z cJ y bJ bP b7 dP dH cK cI cL)):=by rwa[bE h];kernel_rfl
theorem nF{y:V}{k:VH->Res}(h:H[n]?=some (eH b8 Z cJ dO bJ bP b7 dP dH cK cI cL)):Ls (.ref n) "outcome" (y) H k=k (H.set n (eH b8 Z cJ dO bJ bP b7 dP dH cK cI y)):=by rwa[bE h];kernel_rfl
theorem fZ{o:VO}(h:H[a]?=some o):a<H.length:=(dN.mp h).1
theorem b6{o:VO}(h:H[a]?=some o):(H++G)[a]?=some o:=by rwa[List.getElem?_append_left (fZ h)];exact h
theorem cW{o:VO}:(H++[o])[H.length]?=some o:=by simp
theorem gW{b:Nat}{o:VO}(h:H[b]?=some o)(n:a≠b):(H.set a o')[b]?=some o:=by rwa[List.getElem?_set_ne n];exact h
theorem get_set_eq{o:VO}(h:H[a]?=some o):(H.set a o')[a]?=some o':=by rwa[List.getElem?_set_self (fZ h)];rfl
noncomputable abbrev MI:VO:=.list [.tup [.int 0,.str "unique"]]
structure bN(Y H:VH)(S:List Nat)(L:List (Nat×VO)):Prop where
 base:∀(a:Nat)(o:VO),Y[a]?=some o->H[a]?=some o
 nd:(L.map (·.1)).Nodup
 at_:∀p∈L,Y.length<=p.1/\H[p.1]?=some p.2/\p.1∉S
 st:∀s∈S,Y.length<=s/\∃it,H[s]?=some (tU it)/\H[it]?=some MI/\it∉S/\∀p∈L,p.1≠it
section
variable{S:List Nat}{A:List (Nat×VO)}{s:Nat}{o:VO}
theorem bN.get(c:bN Y H S L)(h:(x,o)∈L):H[x]?=some o:=(c.at_ _ h).2.1
theorem bN.len(c:bN Y H S L):Y.length<=H.length:=by
 cases a:Y.length with
 |zero=>lia
 |succ n=>have:Y[n]?=some (Y[n]'(by lia)):=List.getElem?_eq_getElem (by lia);have:=fZ (c.base _ _ this);lia
theorem bN.app(c:bN Y H S L):bN Y (H++G) S L:=⟨λa o h=>b6 (c.base a o h),c.nd,λp h=>⟨(c.at_ p h).1,b6 (c.at_ p h).2.1,(c.at_ p h).2.2⟩,λs h=>⟨(c.st s h).1,let⟨it,a,b,d⟩:=(c.st s h).2;⟨it,b6 a,b6 b,d⟩⟩⟩
theorem bN.new(c:bN Y H S L):bN Y (H++[o]) S ((H.length,o)::L):=by
 have hk:∀p∈L,p.1<H.length:=λp h=>fZ (c.at_ p h).2.1;have hs:∀s∈S,s<H.length:=λs h=>let⟨it,a,_⟩:=(c.st s h).2;fZ a;refine⟨c.app.base,?_,λp h=>?_,λs h=>?_⟩;·rwa[bX];rw[dF];refine⟨λh=>?_,c.nd⟩;refine aW (c7.mp h) λp hp e=>?_;have:=hk p hp;lia
 ·rcases bV.mp h with rfl|h;·exact⟨c.len,cW,λh=>Nat.lt_irrefl _ (hs _ h)⟩
  ·exact c.app.at_ p h
 ·refine oA (c.st s h) λg f=>?_;refine fN f ?_;clear f;intro it a b d e;refine⟨g,it,b6 a,b6 b,d,λp hp=>?_⟩;rcases bV.mp hp with rfl|hp;·have:=fZ b;show H.length≠it;lia
  ·exact e p hp
theorem bN.perm{L':List (Nat×VO)}(c:bN Y H S L)(p:L.Perm L'):bN Y H S L':=⟨c.base,(p.map _).nodup_iff.mp c.nd,λq h=>c.at_ q (p.mem_iff.mpr h),λs h=>let⟨a,it,b,d,e,f⟩:=c.st s h;⟨a,it,b,d,e,λq g=>f q (p.mem_iff.mpr g)⟩⟩
theorem bN.sub{L':List (Nat×VO)}(c:bN Y H S L)(p:L'.Sublist L):bN Y H S L':=⟨c.base,(p.map _).nodup c.nd,λq h=>c.at_ q (p.subset h),λs h=>let⟨a,it,b,d,e,f⟩:=c.st s h;⟨a,it,b,d,e,λq g=>f q (p.subset g)⟩⟩
theorem bN.set(c:bN Y H S (A++(x,o)::B)):bN Y (H.set x o') S (A++(x,o')::B):=by
 have g:=c.at_ (x,o) (cG _ (aE))
 have ne:∀p∈A++(x,o')::B,p.1=x->p=(x,o'):=by
  intro p hp e;have nd:=c.nd;rw[eZ,bX,List.nodup_append]at nd;refine gB nd ?_;clear nd;intro l j n3;rw[dF]at j;rcases fL.mp hp with hp|hp;·exact aV e (n3 _ (iY hp) _ (aE))
  ·rcases bV.mp hp with rfl|hp;·rfl
   ·exact aV (c7.mpr ⟨p,hp,e⟩) j.1
 have old:∀p∈A++(x,o')::B,p.1≠x->p∈A++(x,o)::B:=by
  intro p hp e;rcases fL.mp hp with hp|hp;·exact bY _ hp
  ·rcases bV.mp hp with rfl|hp;·exact aV rfl e
   ·exact cG _ (aC hp)
 refine⟨λa o2 h=>?_,?_,λp hp=>?_,λs hs=>?_⟩;·exact gW (c.base a o2 h) (by have:=fZ h;have:=g.1;show x≠a;lia)
 ·have:=c.nd;simpa using this
 ·by_cases e:p.1=x;·have:=ne p hp e;clear hp e;subst this;exact⟨g.1,get_set_eq g.2.1,g.2.2⟩
  ·have q:=c.at_ p (old p hp e);exact⟨q.1,gW q.2.1 (λz=>e z.symm),q.2.2⟩
 ·refine oA (c.st s hs) λk i=>?_;refine fN i ?_;clear i;intro it a b d f;refine⟨k,it,gW a (λz=>g.2.2 (by show x∈S;rwa[z];exact hs)),gW b (f (x,o) (cG _ (aE))),d,λp hp=>?_⟩;by_cases e:p.1=x;·rwa[e];exact f (x,o) (cG _ (aE))
  ·exact f p (old p hp e)
theorem bN.Fw(c:bN Y H S L)(hs:s∈S)(hi:(H++G)[it]?=some MI)(w:H.length<=it):bN Y ((H++G).set s (tU it)) S L:=by
 have g:=c.app (G:=G);refine oA (g.st s hs) λn b=>?_;refine fN b ?_;clear b;intro r t x A B;have big:∀y,(∃o,H[y]?=some o)->y≠it:=λy⟨o,h⟩=>by have:=fZ h;lia
 refine⟨λa o h=>gW (g.base a o h) (by have:=fZ h;lia),c.nd,λp hp=>?_,λs' i=>?_⟩;·have q:=g.at_ p hp;exact⟨q.1,gW q.2.1 (λz=>q.2.2 (z▸hs)),q.2.2⟩
 ·refine oA (c.st s' i) λl d=>?_;refine fN d ?_;clear d;intro j k u m v;by_cases e:s'=s;·clear hs n t;subst e;refine⟨l,it,get_set_eq (b6 k),gW hi (big s' ⟨_,k⟩),λz=>?_,λp hp=>big _ ⟨_,(c.at_ p hp).2.1⟩⟩;refine oA (c.st it z) λ_ f=>?_;refine aW f ?_;clear f;intro _ q _;exact big it ⟨_,q⟩ rfl
  ·exact⟨l,j,gW (b6 k) (λz=>e z.symm),gW (b6 u) (λz=>m (z▸hs)),m,v⟩
end
noncomputable abbrev mT:V:=.tup [.str "int",.str "usize"]
noncomputable abbrev fU:V:=.tup [.str "tuple",.tup [bH,Mh]]
noncomputable abbrev KQ:V:=.tup [.str "array",bH,.int 3]
theorem BR:aA (n+1) (.aL "Stack" "place") [J,lO] H k=gA J "items" H λc=>aT (.bi "len") [c] H λd H=>Lv .Sub d (.int 1) H λe H=>aT (.typ "range") [e,(.int (-1)),(.int (-1))] H λf H=>f7 f (λb a H k3=>gL "self" (aB "at" b a) λv4=>gA v4 "items" H λj=>gL "at" (aB "at" b a) λl=>gI j l H λm=>gI m (.int 0) H λo=>gL "tag" (aB "at" b a) λp=>cP .Eq o p H λg=>iT g (gL "at" (aB "at" b a) λh=>k3 (.ret h) (aB "at" b a) H) (k3 .next (aB "at" b a) H)) [("self",J),("tag",lO)] H (sq (λi H q=>.exc "MachineFault" "aliased" H) (fin k)):=by kernel_rfl
theorem DI:aA (n+1) (.aL "Stack" "read") [J,lO] H k=mO J "place" H λe=>aJ (aA n) e J "place" [lO] H λv2 H=>gA J "items" H λv3=>Lv .Add v2 (.int 1) H λv4 H=>dU v3 v4 .none H λj H=>gD j (λb H a c=>gI b (.int 1) H λf=>cP .NotEq f (.str "unique") H λg=>iT g (kF a b H c) (c H a)) H [] (λH d=>nw (.list d) H λl H=>gA J "items" H λm=>Lv .Add v2 (.int 1) H λo H=>dU m .none o H λh H=>Lv .Add h l H λi H=>Ls J "items" i H λH=>k .none H):=by kernel_rfl
theorem BY:aA (n+1) (.aL "Stack" "write") [J,lO] H k=mO J "place" H λa=>aJ (aA n) a J "place" [lO] H λv2 H=>gA J "items" H λv3=>gI v3 v2 H λv4=>gI v4 (.int 1) H λc=>cP .Eq c (.str "shared") H λd=>iT d (.exc "MachineFault" "aliased" H) (gA J "items" H λe=>dU e .none v2 H λf H=>nw (.list [(.tup [lO,(.str "unique")])]) H λg H=>Lv .Add f g H λb H=>Ls J "items" b H λH=>k .none H):=by kernel_rfl
theorem xC:aA (n+1) (.aL "Memory" "is_live") [J,hV] H k=cP .LtE (.int 0) hV H λe=>iT e (gA J "allocations" H λv2=>aT (.bi "len") [v2] H λv3 H=>cP .Lt hV v3 H λd=>tV (.bool d) λf=>iT f (gA J "allocations" H λg=>gI g hV H λh=>gA h "is_live" H λi=>k i H) (k (.bool d) H)) (tV (.bool false) λj=>iT j (gA J "allocations" H λa=>gI a hV H λb=>gA b "is_live" H λc=>k c H) (k (.bool false) H)):=by kernel_rfl
theorem B9:aA (n+1) (.aL "Memory" "free") [J,hV] H k=mO J "is_live" H λa=>aJ (aA n) a J "is_live" [hV] H λv2 H=>tV v2 λb=>iT (!b) (.exc "MachineFault" "dropped" H) (gA J "allocations" H λv4=>gI v4 hV H λc=>Ls c "is_live" (.bool false) H λH=>k .none H):=by kernel_rfl
theorem wC{a:V}:aA (n+1) (.aL "Memory" "allocate") [J,a] H k=gA J "allocations" H λc=>mO c "append" H λb=>eL (aA n) "Allocation" [a] H λv3 H=>aJ (aA n) b c "append" [v3] H λv4 H=>gA J "allocations" H λd=>aT (.bi "len") [d] H λe H=>Lv .Sub e (.int 1) H λf H=>k f H:=by kernel_rfl
theorem TZ(n:Nat)(J lO:V)(H:VH)(k:Kv):f7 (.eF 0 (-1) (-1)) (λb a H k3=>gL "self" (aB "at" b a) λv4=>gA v4 "items" H λj=>gL "at" (aB "at" b a) λl=>gI j l H λm=>gI m (.int 0) H λo=>gL "tag" (aB "at" b a) λp=>cP .Eq o p H λc=>iT c (gL "at" (aB "at" b a) λd=>k3 (.ret d) (aB "at" b a) H) (k3 .next (aB "at" b a) H)) [("self",J),("tag",lO)] H (sq (λe H q=>.exc "MachineFault" "aliased" H) (fin k))=gA J "items" H λf=>gI f (.int 0) H λg=>gI g (.int 0) H λh=>cP .Eq h lO H λi=>iT i (k (.int 0) H) (.exc "MachineFault" "aliased" H):=by kernel_rfl
theorem CC{a:V}:aA (n+1) (.aL "Memory" "room") [J,(.tup [(.str "pointer"),(.int j0),(.int iW),(.int 0)]),a] H k=mO J "is_live" H λb=>aJ (aA n) b J "is_live" [(.int j0)] H λv2 H=>tV v2 λe=>iT (!e) (.exc "MachineFault" "dropped" H) (gA J "allocations" H λv4=>gI v4 (.int j0) H λd=>cP .Lt (.int iW) (.int 0) H λf=>iT f (.exc "MachineFault" "bounds" H) (Lv .Add (.int iW) a H λg H=>gA d "cells" H λh=>aT (.bi "len") [h] H λi H=>cP .Gt g i H λc=>iT c (.exc "MachineFault" "bounds" H) (k d H))):=by kernel_rfl
theorem BZ:aA (n+1) (.aL "Memory" "read") [J,(.tup [(.str "pointer"),(.int j0),(.int iW),(.int 0)])] H k=mO J "room" H λa=>aJ (aA n) a J "room" [(.tup [(.str "pointer"),(.int j0),(.int iW),(.int 0)]),(.int 1)] H λv2 H=>gA v2 "stacks" H λv3=>gI v3 (.int iW) H λv4=>mO v4 "read" H λb=>aJ (aA n) b v4 "read" [(.int 0)] H λe H=>gA v2 "cells" H λc=>gI c (.int iW) H λd=>k d H:=by kernel_rfl
theorem AO{a:V}:aA (n+1) (.aL "Memory" "write") [J,(.tup [(.str "pointer"),(.int j0),(.int iW),(.int 0)]),a] H k=mO J "room" H λb=>aJ (aA n) b J "room" [(.tup [(.str "pointer"),(.int j0),(.int iW),(.int 0)]),(.int 1)] H λv2 H=>gA v2 "stacks" H λv3=>gI v3 (.int iW) H λv4=>mO v4 "write" H λc=>aJ (aA n) c v4 "write" [(.int 0)] H λe H=>gA v2 "cells" H λd=>Mc d (.int iW) a H λH=>k .none H:=by kernel_rfl
theorem G4:aA (n+1) (.aL "Memory" "read_all") [J,(.tup [(.str "pointer"),(.int j0),(.int iW),(.int 0)]),(.int 1)] H k=mO J "read" H λa=>(aA n) (.top "moved") [(.tup [(.str "pointer"),(.int j0),(.int iW),(.int 0)]),(.int 0)] H λv2 H=>aJ (aA n) a J "read" [v2] H λv3 H=>nw (.list [v3]) H λv4 H=>k v4 H:=by kernel_rfl
theorem QW:aA (n+1) (.aL "Allocation" "__init__") [J,(.int 1)] H k=nw (.list [eB]) H λa H=>Lv .Mult a (.int 1) H λv2 H=>Ls J "cells" v2 H λH=>eL (aA n) "Stack" [(.int 0)] H λv3 H=>nw (.list [v3]) H λv4 H=>Ls J "stacks" v4 H λH=>Ls J "is_live" (.bool true) H λH=>k .none H:=by kernel_rfl
theorem EN:f7 (.eF 0 1 1) (λb a H k3=>gL "self" (aB "at" b a) λv4=>mO v4 "write" H λd=>gL "place" (aB "at" b a) λi=>gL "at" (aB "at" b a) λj=>(aA n) (.top "moved") [i,j] H λl H=>gL "values" (aB "at" b a) λm=>gL "at" (aB "at" b a) λe=>gI m e H λf=>aJ (aA n) d v4 "write" [l,f] H λo H=>k3 .next (aB "at" b a) H) [("self",J),("place",(.tup [(.str "pointer"),(.int j0),(.int iW),(.int 0)])),("values",hU)] H (sq (λloc H k=>k .next loc H) (fin k))=mO J "write" H λc=>(aA n) (.top "moved") [(.tup [(.str "pointer"),(.int j0),(.int iW),(.int 0)]),(.int 0)] H λg H=>gI hU (.int 0) H λh=>aJ (aA n) c J "write" [g,h] H λp H=>k .none H:=by kernel_rfl
theorem GA:aA (n+1) (.aL "Memory" "read_all") [J,(.tup [(.str "pointer"),(.int j0),(.int iW),(.int 0)]),(.int 2)] H k=mO J "read" H λa=>(aA n) (.top "moved") [(.tup [(.str "pointer"),(.int j0),(.int iW),(.int 0)]),(.int 0)] H λv2 H=>aJ (aA n) a J "read" [v2] H λv3 H=>mO J "read" H λb=>(aA n) (.top "moved") [(.tup [(.str "pointer"),(.int j0),(.int iW),(.int 0)]),(.int 1)] H λc H=>aJ (aA n) b J "read" [c] H λd H=>nw (.list [v3,d]) H λe H=>k e H:=by kernel_rfl
theorem QZ:aA (n+1) (.aL "Allocation" "__init__") [J,(.int 2)] H k=nw (.list [eB]) H λa H=>Lv .Mult a (.int 2) H λv2 H=>Ls J "cells" v2 H λH=>eL (aA n) "Stack" [(.int 0)] H λv3 H=>eL (aA n) "Stack" [(.int 0)] H λv4 H=>nw (.list [v3,v4]) H λb H=>Ls J "stacks" b H λH=>Ls J "is_live" (.bool true) H λH=>k .none H:=by kernel_rfl
theorem FJ:f7 (.eF 0 2 1) (λb a H k3=>gL "self" (aB "at" b a) λv4=>mO v4 "write" H λe=>gL "place" (aB "at" b a) λm=>gL "at" (aB "at" b a) λo=>(aA n) (.top "moved") [m,o] H λp H=>gL "values" (aB "at" b a) λq=>gL "at" (aB "at" b a) λf=>gI q f H λg=>aJ (aA n) e v4 "write" [p,g] H λr H=>k3 .next (aB "at" b a) H) [("self",J),("place",(.tup [(.str "pointer"),(.int j0),(.int iW),(.int 0)])),("values",hU)] H (sq (λloc H k=>k .next loc H) (fin k))=mO J "write" H λc=>(aA n) (.top "moved") [(.tup [(.str "pointer"),(.int j0),(.int iW),(.int 0)]),(.int 0)] H λh H=>gI hU (.int 0) H λi=>aJ (aA n) c J "write" [h,i] H λs H=>mO J "write" H λd=>(aA n) (.top "moved") [(.tup [(.str "pointer"),(.int j0),(.int iW),(.int 0)]),(.int 1)] H λj H=>gI hU (.int 1) H λl=>aJ (aA n) d J "write" [j,l] H λt H=>k .none H:=by kernel_rfl
theorem QY:aA (n+1) (.aL "Allocation" "__init__") [J,(.int 3)] H k=nw (.list [eB]) H λa H=>Lv .Mult a (.int 3) H λv2 H=>Ls J "cells" v2 H λH=>eL (aA n) "Stack" [(.int 0)] H λv3 H=>eL (aA n) "Stack" [(.int 0)] H λv4 H=>eL (aA n) "Stack" [(.int 0)] H λb H=>nw (.list [v3,v4,b]) H λc H=>Ls J "stacks" c H λH=>Ls J "is_live" (.bool true) H λH=>k .none H:=by kernel_rfl
theorem DA:f7 (.eF 0 3 1) (λb a H k3=>gL "self" (aB "at" b a) λv4=>mO v4 "write" H λf=>gL "place" (aB "at" b a) λq=>gL "at" (aB "at" b a) λr=>(aA n) (.top "moved") [q,r] H λs H=>gL "values" (aB "at" b a) λt=>gL "at" (aB "at" b a) λg=>gI t g H λh=>aJ (aA n) f v4 "write" [s,h] H λu H=>k3 .next (aB "at" b a) H) [("self",J),("place",(.tup [(.str "pointer"),(.int j0),(.int iW),(.int 0)])),("values",hU)] H (sq (λloc H k=>k .next loc H) (fin k))=mO J "write" H λc=>(aA n) (.top "moved") [(.tup [(.str "pointer"),(.int j0),(.int iW),(.int 0)]),(.int 0)] H λi H=>gI hU (.int 0) H λj=>aJ (aA n) c J "write" [i,j] H λv H=>mO J "write" H λd=>(aA n) (.top "moved") [(.tup [(.str "pointer"),(.int j0),(.int iW),(.int 0)]),(.int 1)] H λl H=>gI hU (.int 1) H λm=>aJ (aA n) d J "write" [l,m] H λw H=>mO J "write" H λe=>(aA n) (.top "moved") [(.tup [(.str "pointer"),(.int j0),(.int iW),(.int 0)]),(.int 2)] H λo H=>gI hU (.int 2) H λp=>aJ (aA n) e J "write" [o,p] H λx H=>k .none H:=by kernel_rfl
theorem kU:aA (n+1) (.aL "Memory" "write_all") [J,(.tup [(.str "pointer"),(.int j0),(.int iW),(.int 0)]),hU] H k=aT (.bi "len") [hU] H λc H=>aT (.typ "range") [c] H λd H=>f7 d (λb a H k3=>gL "self" (aB "at" b a) λv4=>mO v4 "write" H λe=>gL "place" (aB "at" b a) λh=>gL "at" (aB "at" b a) λi=>(aA n) (.top "moved") [h,i] H λj H=>gL "values" (aB "at" b a) λl=>gL "at" (aB "at" b a) λf=>gI l f H λg=>aJ (aA n) e v4 "write" [j,g] H λm H=>k3 .next (aB "at" b a) H) [("self",J),("place",(.tup [(.str "pointer"),(.int j0),(.int iW),(.int 0)])),("values",hU)] H (sq (λloc H k=>k .next loc H) (fin k)):=by kernel_rfl
theorem GK:aA (n+1) (.aL "Stack" "__init__") [J,lO] H k=nw (.list [(.tup [lO,(.str "unique")])]) H λa H=>Ls J "items" a H λH=>k .none H:=by kernel_rfl
theorem pR:aA (n+1) (.aL "Places" "home_of") [J,O,(.int iC)] H k=gA O "homes" H λd=>cP .NotIn (.int iC) d H λe=>iT e (aT (.typ "str") [(.int iC)] H λv3 H=>Lv .Add (.str "local ") v3 H λv4 H=>Lv .Add v4 (.str " has no cells now") H λf H=>rs "MachineFault" "dropped" f H) (gA J "memory" H λc=>mO c "base" H λa=>gA O "homes" H λg=>gI g (.int iC) H λh=>aJ (aA n) a c "base" [h] H λb H=>k b H):=by kernel_rfl
theorem yN:aA (n+1) (.aL "Places" "spot_of") [J,O,(.tup [(.int iC),(.tup [])])] H k=mO J "home_of" H λa=>aJ (aA n) a J "home_of" [O,(.int iC)] H λv2 H=>gA O "body" H λv3=>gA v3 "locals" H λv4=>gI v4 (.int iC) H λb=>gI b (.int 0) H λc=>k (.tup [v2,c]) H:=by kernel_rfl
theorem KD:aA (n+1) (.aL "Places" "spot_of") [J,O,(.tup [(.int iC),(.tup [(.tup [(.str "field"),(.int wW)])])])] H k=mO J "home_of" H λa=>aJ (aA n) a J "home_of" [O,(.int iC)] H λv2 H=>gA O "body" H λv3=>gA v3 "locals" H λv4=>gI v4 (.int iC) H λf=>gI f (.int 0) H λe=>gA J "world" H λg=>(aA n) (.top "offset_of_field") [e,.none,(.int wW),g] H λh H=>(aA n) (.top "moved") [v2,h] H λi H=>gA J "world" H λb=>(aA n) (.top "parts_told") [e,.none,b] H λc H=>gI c (.int wW) H λd=>k (.tup [i,d]) H:=by kernel_rfl
theorem KG:aA (n+1) (.aL "Places" "spot_of") [J,O,(.tup [(.int iC),(.tup [(.tup [(.str "index"),(.int wW)])])])] H k=mO J "home_of" H λa=>aJ (aA n) a J "home_of" [O,(.int iC)] H λv2 H=>gA O "body" H λv3=>gA v3 "locals" H λv4=>gI v4 (.int iC) H λd=>gI d (.int 0) H λc=>mO J "element_of" H λb=>aJ (aA n) b J "element_of" [O,v2,c,(.int wW)] H λe H=>gI c (.int 1) H λf=>k (.tup [e,f]) H:=by kernel_rfl
theorem t_:aA (n+1) (.aL "Places" "element_of") [J,O,(.tup [(.str "pointer"),(.int j0),(.int iW),(.int 0)]),KQ,(.int iC)] H k=mO J "read" H λa=>mO J "home_of" H λb=>aJ (aA n) b J "home_of" [O,(.int iC)] H λv3 H=>gA O "body" H λv4=>gA v4 "locals" H λj=>gI j (.int iC) H λl=>gI l (.int 0) H λm=>aJ (aA n) a J "read" [v3,m] H λo H=>gI o (.int 0) H λc=>cP .LtE (.int 0) c H λd=>iT d (cP .Lt c (.int 3) H λe=>iT (!e) (.exc "MachineFault" "bounds" H) (gA J "world" H λf=>(aA n) (.top "size_of") [bH,f] H λg H=>Lv .Mult c g H λh H=>(aA n) (.top "moved") [(.tup [(.str "pointer"),(.int j0),(.int iW),(.int 0)]),h] H λi H=>k i H)) (.exc "MachineFault" "bounds" H):=by kernel_rfl
theorem KE:aA (n+1) (.aL "Places" "read") [J,iE,bH] H k=gA J "memory" H λb=>mO b "read_all" H λa=>gA J "world" H λv3=>(aA n) (.top "size_of") [bH,v3] H λv4 H=>aJ (aA n) a b "read_all" [iE,v4] H λc H=>gA J "world" H λd=>(aA n) (.top "want_whole") [bH,c,d] H λe H=>k c H:=by kernel_rfl
theorem J4:aA (n+1) (.aL "Places" "leave") [J,iE,bH] H k=gA J "memory" H λb=>mO b "write_all" H λa=>nw (.list [eB]) H λv3 H=>gA J "world" H λv4=>(aA n) (.top "size_of") [bH,v4] H λc H=>Lv .Mult v3 c H λd H=>aJ (aA n) a b "write_all" [iE,d] H λe H=>k .none H:=by kernel_rfl
theorem PB:aA (n+1) (.aL "Places" "read") [J,iE,Mh] H k=gA J "memory" H λb=>mO b "read_all" H λa=>gA J "world" H λv3=>(aA n) (.top "size_of") [Mh,v3] H λv4 H=>aJ (aA n) a b "read_all" [iE,v4] H λc H=>gA J "world" H λd=>(aA n) (.top "want_whole") [Mh,c,d] H λe H=>k c H:=by kernel_rfl
theorem JI:aA (n+1) (.aL "Places" "read") [J,iE,mT] H k=gA J "memory" H λb=>mO b "read_all" H λa=>gA J "world" H λv3=>(aA n) (.top "size_of") [mT,v3] H λv4 H=>aJ (aA n) a b "read_all" [iE,v4] H λc H=>gA J "world" H λd=>(aA n) (.top "want_whole") [mT,c,d] H λe H=>k c H:=by kernel_rfl
theorem J7:aA (n+1) (.aL "Places" "read") [J,iE,fU] H k=gA J "memory" H λb=>mO b "read_all" H λa=>gA J "world" H λv3=>(aA n) (.top "size_of") [fU,v3] H λv4 H=>aJ (aA n) a b "read_all" [iE,v4] H λc H=>gA J "world" H λd=>(aA n) (.top "want_whole") [fU,c,d] H λe H=>k c H:=by kernel_rfl
theorem JS:aA (n+2) (.top "want_whole") [fU,U,cD] H k=(aA (n+1)) (.top "parts_of_cells") [fU,U,cD] H λq H=>gC q H λo p=>(aA (n+1)) (.top "parts_told") [fU,o,cD] H λr H=>aT (.bi "len") [p] H λc H=>aT (.typ "range") [c] H λd H=>f7 d (λb a H e=>gL "types_now" (aB "k" b a) λf=>gL "k" (aB "k" b a) λg=>gI f g H λh=>gL "rows" (aB "k" b a) λi=>gL "k" (aB "k" b a) λj=>gI i j H λl=>gL "world" (aB "k" b a) λm=>(aA (n+1)) (.top "want_whole") [h,l,m] H λs H=>e .next (aB "k" b a) H) [("t",fU),("cells",U),("world",cD),("variant",o),("rows",p),("types_now",r)] H (sq (λloc H k=>k .next loc H) (fin k)):=by kernel_rfl
theorem OU{a:V}:aA (n+2) (.top "told_value") [fU,U,cD,a] H k=(aA (n+1)) (.top "parts_of_cells") [fU,U,cD] H λv3 H=>gC v3 H λv4 l=>(aA (n+1)) (.top "parts_told") [fU,v4,cD] H λm H=>aT (.bi "len") [l] H λo H=>aT (.typ "range") [o] H λp H=>gD p (λd H b e=>gI m d H λf=>gI l d H λg=>(aA (n+1)) (.top "told_value") [f,g,cD,a] H λh H=>kF b h H e) H [] (λH c=>nw (.list c) H λi H=>aT (.typ "tuple") [i] H λj H=>k j H):=by kernel_rfl
theorem J6:aA (n+2) (.top "parts_of_cells") [fU,U,cD] H k=nw (.list []) H λv3 H=>(aA (n+1)) (.top "parts_told") [fU,.none,cD] H λf H=>f7 f (λv4 a H u=>gL "each" (aB "each" v4 a) λv=>gL "world" (aB "each" v4 a) λw=>(aA (n+1)) (.top "size_of") [v,w] H λc H=>gL "found" (aB "many" c (aB "each" v4 a)) λd=>mO d "append" H λe=>gL "cells" (aB "many" c (aB "each" v4 a)) λg=>gL "at" (aB "many" c (aB "each" v4 a)) λh=>gL "at" (aB "many" c (aB "each" v4 a)) λi=>gL "many" (aB "many" c (aB "each" v4 a)) λj=>Lv .Add i j H λl H=>dU g h l H λm H=>aJ (aA (n+1)) e d "append" [m] H λx H=>gL "at" (aB "many" c (aB "each" v4 a)) λo=>gL "many" (aB "many" c (aB "each" v4 a)) λp=>iZ .Add o p λq=>u .next (aB "at" q (aB "many" c (aB "each" v4 a))) H) [("t",fU),("cells",U),("world",cD),("variant",.none),("at",(.int 0)),("found",v3)] H (sq (λb H r=>gL "variant" b λs=>gL "found" b λt=>r (.ret (.tup [s,t])) b H) (fin k)):=by kernel_rfl
theorem wF:aA (n+1) (.top "offset_of_field") [fU,.none,hV,cD] H k=(aA n) (.top "part_types") [fU,.none,cD] H λa H=>(aA n) (.top "first_place") [fU,cD] H λv2 H=>dU a .none hV H λv3 H=>(aA n) (.top "sum_of") [v3,cD,(.int 0)] H λv4 H=>Lv .Add v2 v4 H λb H=>k b H:=by kernel_rfl
theorem DD:aA (n+1) (.top "sum_of") [sB,cD,uA] H k=f7 sB (λc a H k3=>gL "total" (aB "told" c a) λv4=>gL "told" (aB "told" c a) λf=>gL "world" (aB "told" c a) λg=>gL "deep" (aB "told" c a) λh=>(aA n) (.top "size_within") [f,g,h] H λi H=>Lv .Add v4 i H λj H=>k3 .next (aB "total" j (aB "told" c a)) H) [("types",sB),("world",cD),("deep",uA),("total",(.int 0))] H (sq (λb H d=>gL "total" b λe=>d (.ret e) b H) (fin k)):=by kernel_rfl
theorem tK:aA (n+1) (.aL "Places" "taken") [J,O,(.tup [(.str "const"),qR,tS])] H k=gA J "world" H λa=>(aA n) (.top "cells_of") [qR,tS,a] H λv2 H=>k (.tup [v2,qR]) H:=by kernel_rfl
theorem FK:aA (n+1) (.aL "Places" "taken") [J,O,(.tup [(.str "copy"),oM])] H k=mO J "spot_of" H λa=>aJ (aA n) a J "spot_of" [O,oM] H λv2 H=>gC v2 H λv3 v4=>mO J "read" H λb=>aJ (aA n) b J "read" [v3,v4] H λc H=>k (.tup [c,v4]) H:=by kernel_rfl
theorem E1:aA (n+1) (.aL "Places" "taken") [J,O,(.tup [(.str "move"),oM])] H k=mO J "spot_of" H λa=>aJ (aA n) a J "spot_of" [O,oM] H λv2 H=>gC v2 H λv3 v4=>mO J "read" H λb=>aJ (aA n) b J "read" [v3,v4] H λd H=>mO J "leave" H λc=>aJ (aA n) c J "leave" [v3,v4] H λe H=>k (.tup [d,v4]) H:=by kernel_rfl
theorem NS:c9 src (λc a H k3=>gL "total" (aB "told" c a) λv4=>gL "told" (aB "told" c a) λh=>gL "world" (aB "told" c a) λi=>gL "deep" (aB "told" c a) λj=>(aA n) (.top "size_within") [h,i,j] H λl H=>Lv .Add v4 l H λm H=>k3 .next (aB "total" m (aB "told" c a)) H) [bH] [("types",sB),("world",cD),("deep",uA),("total",(.int 0))] H (sq (λb H d=>gL "total" b λe=>d (.ret e) b H) (fin k))=sI src H ((aA n) (.top "size_within") [bH,cD,uA] H λf H=>Lv .Add (.int 0) f H λg H=>sI src H (k g H)):=by kernel_rfl
theorem O6:c9 src (λc a H k3=>gL "total" (aB "told" c a) λv4=>gL "told" (aB "told" c a) λf=>gL "world" (aB "told" c a) λg=>gL "deep" (aB "told" c a) λh=>(aA n) (.top "size_within") [f,g,h] H λi H=>Lv .Add v4 i H λj H=>k3 .next (aB "total" j (aB "told" c a)) H) [] [("types",sB),("world",cD),("deep",uA),("total",(.int 0))] H (sq (λb H d=>gL "total" b λe=>d (.ret e) b H) (fin k))=sI src H (k (.int 0) H):=by kernel_rfl
theorem KY:c9 src (λv4 a H C=>gL "each" (aB "each" v4 a) λD=>gL "world" (aB "each" v4 a) λE=>(aA (n+1)) (.top "size_of") [D,E] H λc H=>gL "found" (aB "many" c (aB "each" v4 a)) λe=>mO e "append" H λf=>gL "cells" (aB "many" c (aB "each" v4 a)) λl=>gL "at" (aB "many" c (aB "each" v4 a)) λm=>gL "at" (aB "many" c (aB "each" v4 a)) λo=>gL "many" (aB "many" c (aB "each" v4 a)) λp=>Lv .Add o p H λq H=>dU l m q H λr H=>aJ (aA (n+1)) f e "append" [r] H λF H=>gL "at" (aB "many" c (aB "each" v4 a)) λs=>gL "many" (aB "many" c (aB "each" v4 a)) λt=>iZ .Add s t λu=>C .next (aB "at" u (aB "many" c (aB "each" v4 a))) H) [bH,Mh] [("t",fU),("cells",U),("world",cD),("variant",.none),("at",(.int 0)),("found",v3)] H (sq (λb H v=>gL "variant" b λw=>gL "found" b λx=>v (.ret (.tup [w,x])) b H) (fin k))=sI src H ((aA (n+1)) (.top "size_of") [bH,cD] H λg H=>mO v3 "append" H λh=>Lv .Add (.int 0) g H λy H=>dU U (.int 0) y H λz H=>aJ (aA (n+1)) h v3 "append" [z] H λG H=>iZ .Add (.int 0) g λd=>sI src H ((aA (n+1)) (.top "size_of") [Mh,cD] H λi H=>mO v3 "append" H λj=>Lv .Add d i H λA H=>dU U d A H λB H=>aJ (aA (n+1)) j v3 "append" [B] H λI H=>iZ .Add d i λJ=>sI src H (k (.tup [.none,v3]) H))):=by kernel_rfl
theorem KF{s c d:V}:f7 (.eF 0 2 1) (λb a H e=>gL "types_now" (aB "k" b a) λf=>gL "k" (aB "k" b a) λg=>gI f g H λh=>gL "rows" (aB "k" b a) λi=>gL "k" (aB "k" b a) λj=>gI i j H λl=>gL "world" (aB "k" b a) λm=>(aA (n+1)) (.top "want_whole") [h,l,m] H λt H=>e .next (aB "k" b a) H) [("t",fU),("cells",U),("world",cD),("variant",s),("rows",c),("types_now",d)] H (sq (λloc H k=>k .next loc H) (fin k))=gI d (.int 0) H λo=>gI c (.int 0) H λp=>(aA (n+1)) (.top "want_whole") [o,p,cD] H λu H=>gI d (.int 1) H λq=>gI c (.int 1) H λr=>(aA (n+1)) (.top "want_whole") [q,r,cD] H λv H=>k .none H:=by kernel_rfl
theorem O2(n:Nat)(U cD a e f:V)(H:VH)(k:Kv):gD (.eF 0 2 1) (λd H b g=>gI f d H λh=>gI e d H λi=>(aA (n+1)) (.top "told_value") [h,i,cD,a] H λj H=>kF b j H g) H [] (λH c=>nw (.list c) H λl H=>aT (.typ "tuple") [l] H λm H=>k m H)=gI f (.int 0) H λo=>gI e (.int 0) H λp=>(aA (n+1)) (.top "told_value") [o,p,cD,a] H λq H=>gI f (.int 1) H λr=>gI e (.int 1) H λs=>(aA (n+1)) (.top "told_value") [r,s,cD,a] H λt H=>nw (.list [q,t]) H λu H=>aT (.typ "tuple") [u] H λv H=>k v H:=by kernel_rfl
theorem n8(a:5<=n){w:V}:aA n (.top "size_of") [bH,w] H k=k (.int 1) H:=by refine oE (su 5 a) λm aG=>?_;clear a;subst aG;kernel_rfl
theorem w6(a:5<=n){w:V}:aA n (.top "size_of") [Mh,w] H k=k (.int 1) H:=by refine oE (su 5 a) λm aG=>?_;clear a;subst aG;kernel_rfl
theorem BE(a:5<=n){w:V}:aA n (.top "size_of") [mT,w] H k=k (.int 1) H:=by refine oE (su 5 a) λm aG=>?_;clear a;subst aG;kernel_rfl
theorem A4(a:5<=n){w:V}:aA n (.top "size_of") [fU,w] H k=k (.int 2) H:=by refine oE (su 5 a) λm aG=>?_;clear a;subst aG;kernel_rfl
theorem OM(a:5<=n){w:V}:aA n (.top "size_of") [KQ,w] H k=k (.int 3) H:=by refine oE (su 5 a) λm aG=>?_;clear a;subst aG;kernel_rfl
theorem vU(b:2<=n){a c:V}{i j:Int}:aA n (.top "moved") [.tup [.str "pointer",a,.int i,c],.int j] H k=k (.tup [.str "pointer",a,.int (i+j),c]) H:=by refine oE (su 2 b) λm aG=>?_;clear b;subst aG;kernel_rfl
theorem YV(b:2<=n){s a:V}:aA n (.aL "Memory" "base") [s,a] H k=k (.tup [.str "pointer",a,.int 0,.int 0]) H:=by refine oE (su 2 b) λm aG=>?_;clear b;subst aG;kernel_rfl
theorem YR(a:2<=n){c w:V}:aA n (.top "want_whole") [bH,c,w] H k=gI c (.int 0) H λv=>cP .Eq v eB H λt=>iT t (.exc "MachineFault" "uninitialised" H) (k .none H):=by refine oE (su 2 a) λm aG=>?_;clear a;subst aG;kernel_rfl
theorem RD(a:2<=n){w:V}:aA n (.top "cells_of") [bH,v,w] H k=k (.ref H.length) (H++[.list [v]]):=by refine oE (su 2 a) λm aG=>?_;clear a;subst aG;kernel_rfl
theorem Hg(a:2<=n){c w q:V}:aA n (.top "told_value") [bH,c,w,q] H k=gI c (.int 0) H λv=>k v H:=by refine oE (su 2 a) λm aG=>?_;clear a;subst aG;kernel_rfl
theorem Fs(a:2<=n){c w:V}:aA n (.top "want_whole") [Mh,c,w] H k=gI c (.int 0) H λv=>cP .Eq v eB H λt=>iT t (.exc "MachineFault" "uninitialised" H) (k .none H):=by refine oE (su 2 a) λm aG=>?_;clear a;subst aG;kernel_rfl
theorem Lo(a:2<=n){w:V}:aA n (.top "cells_of") [Mh,v,w] H k=k (.ref H.length) (H++[.list [v]]):=by refine oE (su 2 a) λm aG=>?_;clear a;subst aG;kernel_rfl
theorem Ko(a:2<=n){c w q:V}:aA n (.top "told_value") [Mh,c,w,q] H k=gI c (.int 0) H λv=>k v H:=by refine oE (su 2 a) λm aG=>?_;clear a;subst aG;kernel_rfl
theorem XX(a:2<=n){c w:V}:aA n (.top "want_whole") [mT,c,w] H k=gI c (.int 0) H λv=>cP .Eq v eB H λt=>iT t (.exc "MachineFault" "uninitialised" H) (k .none H):=by refine oE (su 2 a) λm aG=>?_;clear a;subst aG;kernel_rfl
theorem Hi(a:2<=n){w:V}:aA n (.top "cells_of") [mT,v,w] H k=k (.ref H.length) (H++[.list [v]]):=by refine oE (su 2 a) λm aG=>?_;clear a;subst aG;kernel_rfl
theorem Jl(a:2<=n){c w q:V}:aA n (.top "told_value") [mT,c,w,q] H k=gI c (.int 0) H λv=>k v H:=by refine oE (su 2 a) λm aG=>?_;clear a;subst aG;kernel_rfl
section
variable{a:Int}{x y:Res}
theorem aK{c m:Str}{o:V}:aJ cf (.inst c) o m vs H k=cf (.aL c m) (o::vs) H k:=rfl
theorem add_int:Lv .Add (.int a) (.int b) H k=k (.int (a+b)) H:=rfl
theorem sub_int:Lv .Sub (.int a) (.int b) H k=k (.int (a-b)) H:=rfl
theorem i4:aT (.typ "range") [.int a] H k=k (.eF 0 a 1) H:=rfl
theorem Y3:aT (.typ "range") [.int a,.int b,.int (-1)] H k=k (.eF a b (-1)) H:=rfl
theorem JU(h:a<=b):cP .LtE (.int a) (.int b) H kb=kb true:=by show kb (decide (a<=b))=_;rwa[cC h];rfl
theorem yQ(h:a<b):cP .Lt (.int a) (.int b) H kb=kb true:=by show kb (decide (a<b))=_;rwa[cC h];rfl
theorem vC(h:¬a<b):cP .Lt (.int a) (.int b) H kb=kb false:=by show kb (decide (a<b))=_;rwa[cU h];rfl
theorem YK(h:¬a>b):cP .Gt (.int a) (.int b) H kb=kb false:=by show kb (decide (a>b))=_;rwa[cU h];rfl
theorem uX{a b:Str}{t:Bool}(h:decide (a=b)=t):cP .Eq (.str a) (.str b) H kb=kb t:=by subst h;rfl
theorem U_{a b:Str}{t:Bool}(h:(!decide (a=b))=t):cP .NotEq (.str a) (.str b) H kb=kb t:=by subst h;rfl
theorem dB{l:List V}{i:Int}{v:V}{k:V->Res}(h:eT l i=some v):gI (.tup l) (.int i) H k=k v:=by show(match eT l i with|some v=>k v|none=>.stuck)=_;rwa[h];rfl
theorem sX{w:List V}{a b:V}(h:H[n]?=some (.list l))(c:(cut l a b).map (Mt l)=some w)(d:l.length<=1000):dU (.ref n) a b H k=k (.ref H.length) (H++[.list w]):=by refine aW (Option.map_eq_some_iff.mp c) λp hp aG=>?_;clear c;subst aG;exact vA h hp d
theorem bZ:iT true x y=x:=rfl
theorem bC:iT false x y=y:=rfl
theorem iB{t:Bool}:tV (.bool t) kb=kb t:=rfl
theorem nw_eq{o:VO}:nw o H k=k (.ref H.length) (H++[o]):=rfl
theorem fB{v:V}(h:l[i]?=some v)(a:l.length<=1000):eT l i=some v:=by have:=(dN.mp h).1;unfold eT;rwa[aI (by(first|with_reducible assumption|lia))];rwa[aI (by(first|with_reducible assumption|lia))];rw[fT];exact h
theorem QE{k:VH->List V->Res}(h:H[n]?=some (.list [])):gD (.ref n) turn H acc k=k H acc:=by unfold gD;rwa[nQ h];show(if(match H[n]? with|some (.list l')=>Ly.m4 [] l'|_=>false)=true then k H acc else .stuck)=_;rwa[h];exact aI w9
end
section
variable{S:List Nat}{s:Nat}
theorem FY(a:1<=n)(hs:H[s]?=some (tU it))(hi:H[it]?=some MI):aA n (.aL "Stack" "place") [.ref s,.int 0] H k=k (.int 0) H:=by refine oE (su 1 a) λm aG=>?_;clear a;subst aG;rw[BR];rwa[jK hs];rwa[eU hi (by decide)];rwa[sub_int];rwa[Y3];rwa[show((([(.tup [.int 0,.str "unique"])]:List V).length:Int)-1)=0 from rfl];rw[TZ m];rwa[jK hs];rwa[aY hi rfl];kernel_rfl
theorem Q7(e:2<=n)(c:bN Y H S L)(hs:s∈S)(q:∀f,bN Y f S L->P (k .none f)):P (aA n (.aL "Stack" "read") [.ref s,.int 0] H k):=by refine oE (su 1 e) λm cB=>?_;subst cB;refine oA (c.st s hs) λ_ a=>?_;refine cY a ?_;clear a;intro it b d _;erw[DI];erw[u4 b];erw[aK];erw[FY (n3 e) b d];erw[jK b];erw[add_int];erw[sX d (w:=[]) rfl (by decide)];erw[QE cW];erw[nw_eq];erw[jK (b6 (b6 b))];erw[add_int];erw[sX (b6 (b6 d)) (w:=[.tup [.int 0,.str "unique"]]) rfl (by decide)];erw[v0 cW (b6 cW) (by decide)];erw[uF (b6 (b6 (b6 (b6 b))))];exact q _ (((c.app.app).app).Fw hs cW (Nat.le_refl _))
theorem LP(e:2<=n)(c:bN Y H S L)(hs:s∈S)(q:∀f,bN Y f S L->P (k .none f)):P (aA n (.aL "Stack" "write") [.ref s,.int 0] H k):=by refine oE (su 1 e) λm cB=>?_;subst cB;refine oA (c.st s hs) λ_ a=>?_;refine cY a ?_;clear a;intro it b d _;erw[BY];erw[u4 b];erw[aK];erw[FY (n3 e) b d];erw[jK b];erw[aY d rfl];erw[dB rfl];erw[uX (t:=false) (by kernel_rfl)];erw[bC];erw[jK b];erw[sX d (w:=[]) rfl (by decide)];erw[nw_eq];erw[v0 (b6 cW) cW (by decide)];erw[uF (b6 (b6 (b6 b)))];exact q _ (((c.app).app).Fw hs cW (Nat.le_refl _))
end
structure AL where
 a:Nat
 c:Nat
 s:Nat
 st:List Nat
 cells:List V
 live:Bool
noncomputable def AL.objs(x:AL):List (Nat×VO):=[(x.a,tW x.c x.s x.live),(x.c,.list x.cells),(x.s,.list (x.st.map .ref))]
noncomputable def Mp(m al:Nat)(cE:List AL):List (Nat×VO):=(m,lG al 0)::(al,.list (cE.map λx=>.ref x.a))::cE.flatMap AL.objs
noncomputable abbrev Mi(a o:Nat):V:=.tup [.str "pointer",.int a,.int o,.int 0]
def bT(Y:VH)(m al:Nat)(σ:List (List V×Bool))(F:List (Nat×VO))(H:VH):Prop:=∃cE S,cE.map (λx=>(x.cells,x.live))=σ/\(∀x∈cE,x.st.length=x.cells.length/\∀s∈x.st,s∈S)/\bN Y H S (Mp m al cE++F)
theorem Nb{l:List α}{x:α}(h:l[i]?=some x):l.set i x=l:=by refine oE (dN.mp h) λa aG=>?_;clear h;subst aG;exact List.set_getElem_self a
theorem IT{cE:List AL}{x y:AL}(h:cE[i]?=some x):cE.set i y=cE.take i++y::cE.drop (i+1):=List.set_eq_take_append_cons_drop ..|>.trans (by rwa[aI (dN.mp h).1];rfl)
section
variable{S:List Nat}{F:List (Nat×VO)}{cE:List AL}{x:AL}
theorem w7(h:cE[i]?=some x):(x.a,tW x.c x.s x.live)∈Mp m al cE++F:=bY _ (aC (aC (List.mem_flatMap.mpr ⟨x,eE h,aE⟩)))
theorem PN(h:cE[i]?=some x):(x.c,.list x.cells)∈Mp m al cE++F:=bY _ (aC (aC (List.mem_flatMap.mpr ⟨x,eE h,aC (aE)⟩)))
theorem YJ(h:cE[i]?=some x):(x.s,.list (x.st.map V.ref))∈Mp m al cE++F:=bY _ (aC (aC (List.mem_flatMap.mpr ⟨x,eE h,aC (aC (aE))⟩)))
theorem pW:(m,lG al 0)∈Mp m al cE++F:=aE
theorem sV:(al,.list (cE.map λx=>V.ref x.a))∈Mp m al cE++F:=aC (aE)
theorem D4(h:cE[i]?=some x)(b:cE.length<=900):eT (cE.map λx=>V.ref x.a) (i:Int)=some (.ref x.a):=fB (by rwa[e_];rwa[h];rfl) (by rw[bO];exact fS b (by decide))
theorem IQ(b:1<=n)(c:bN Y H S (Mp m al cE++F))(a:cE[i]?=some x)(d:cE.length<=900):aA n (.aL "Memory" "is_live") [.ref m,.int i] H k=k (.bool x.live) H:=by refine oE (su 1 b) λn aG=>?_;clear b;subst aG;have lt:=(dN.mp a).1;rw[xC];rwa[JU (by lia)];rwa[bZ];rwa[fK (c.get pW)];rwa[eU (c.get sV) (by rw[bO];exact fS d (by decide))];rwa[yQ (by rw[bO];lia)];rwa[iB];rwa[bZ];rwa[fK (c.get pW)];rwa[aY (c.get sV) (D4 a d)];rwa[zZ (c.get (w7 a))];rfl
theorem IX(d:2<=n)(c:bN Y H S (Mp m al cE++F))(b:cE[i]?=some x)(f:x.live=true)(hb:o+1<=x.cells.length)(e:cE.length<=900)(g:x.cells.length<=900):aA n (.aL "Memory" "room") [.ref m,Mi i o,.int 1] H k=k (.ref x.a) H:=by refine oE (su 1 d) λn aG=>?_;subst aG;rw[CC];rwa[rY (c.get pW)];rwa[aK];rwa[IQ (n3 d) c b e];rwa[iB];rwa[f];rwa[show(!true)=false from rfl];rwa[bC];rwa[fK (c.get pW)];rwa[aY (c.get sV) (D4 b e)];rwa[vC (by lia)];rwa[bC];rwa[add_int];rwa[pC (c.get (w7 b))];rwa[eU (c.get (PN b)) (by lia)];rwa[YK (by lia)];rwa[bC];rfl
theorem bT.drop{p:Nat×VO}(M:bT Y m al σ (p::F) H):bT Y m al σ F H:=by refine b_ M ?_;clear M;intro cE S a b c;exact⟨cE,S,a,b,c.sub (List.Sublist.append_left (List.sublist_cons_self _ _) _)⟩
theorem bT.new(M:bT Y m al σ F H):bT Y m al σ ((H.length,ob)::F) (H++[ob]):=by refine b_ M ?_;clear M;intro cE S a b c;exact⟨cE,S,a,b,c.new.perm gR.symm⟩
theorem bT.app{G:VH}(M:bT Y m al σ F H):bT Y m al σ F (H++G):=by refine b_ M ?_;clear M;intro cE S a b c;exact⟨cE,S,a,b,c.app⟩
theorem bT.get(M:bT Y m al σ F H)(h:(a,ob)∈F):H[a]?=some ob:=by refine b_ M ?_;clear M;intro cE S _ _ c;exact c.get (cG _ h)
theorem bT.gm(M:bT Y m al σ F H):H[m]?=some (lG al 0):=by refine b_ M ?_;clear M;intro cE S _ _ c;exact c.get pW
theorem bT.perm{d:List (Nat×VO)}(M:bT Y m al σ F H)(p:F.Perm d):bT Y m al σ d H:=by refine b_ M ?_;clear M;intro cE S a b c;exact⟨cE,S,a,b,c.perm (List.Perm.append_left _ p)⟩
theorem bT.base(M:bT Y m al σ F H)(h:Y[a]?=some ob):H[a]?=some ob:=by refine b_ M ?_;clear M;intro cE S _ _ c;exact c.base _ _ h
theorem bT.set{A:List (Nat×VO)}(M:bT Y m al σ (A++(a,ob)::B) H):bT Y m al σ (A++(a,ob')::B) (H.set a ob'):=by refine b_ M ?_;clear M;intro cE S a b c;refine⟨cE,S,a,b,?_⟩;rw[<-List.append_assoc]at c⊢;exact c.set
theorem AP{cs:List V}{b:Bool}(e:cE.map (λx=>(x.cells,x.live))=σ)(h:σ[i]?=some (cs,b)):∃x,cE[i]?=some x/\x.cells=cs/\x.live=b:=by subst e;rw[e_]at h;refine aW (Option.map_eq_some_iff.mp h) λx a e=>?_;simp only[Prod.mk.injEq]at e;exact⟨x,a,e.1,e.2⟩
theorem xE{cs:List V}(h:3<=n)(M:bT Y m al σ F H)(d:σ[i]?=some (cs,true))(t:cs[o]?=some v)(u:σ.length<=900)(y:cs.length<=900)(q:∀g,bT Y m al σ F g->P (k v g)):P (aA n (.aL "Memory" "read") [.ref m,Mi i o] H k):=by
 refine oE (su 1 h) λn j=>?_;subst j;refine b_ M ?_;clear M;intro cE S e b c;refine cY (AP e d) λx a cB z=>?_;clear d;subst cB;have l:cE.length<=900:=by rw[<-e,bO]at u;exact u
 have lo:=(dN.mp t).1;have A:=b x (eE a);have hs:∃s,x.st[o]?=some s:=⟨_,List.getElem?_eq_getElem (by lia)⟩;refine oE hs ?_;clear hs;intro s hs;have w:=A.2 s (eE hs);refine oA (c.st s w) λ_ f=>?_;refine aW f ?_;clear f;intro it p _;erw[BZ];erw[wV (c.get pW)];erw[aK];erw[IX (n3 h) c a z (by lia) l y];erw[tM (c.get (w7 a))];rwa[aY (c.get (YJ a)) (fB (by rwa[e_];rwa[hs];rfl) (by rw[bO];lia))];erw[HD p];erw[aK];refine Q7 (n3 h) c w λg r=>?_;erw[pC (r.get (w7 a))];erw[aY (r.get (PN a)) (fB t (by lia))];exact q g ⟨cE,S,e,b,r⟩
theorem yU{v:List V}(b:cE[i]?=some x):Mp m al (cE.set i {x with cells:=v})++F=((m,lG al 0)::(al,.list (cE.map λx=>.ref x.a))::((cE.take i).flatMap AL.objs++[(x.a,tW x.c x.s x.live)]))++(x.c,.list v)::(x.s,.list (x.st.map .ref))::((cE.drop (i+1)).flatMap AL.objs++F):=by
 have d:(cE.set i {x with cells:=v}).map (λx=>V.ref x.a)=cE.map λx=>V.ref x.a:=by rwa[List.map_set];exact Nb (by rwa[e_];rwa[b];rfl)
 unfold Mp;rwa[d];rwa[IT b];rwa[List.flatMap_append];rwa[List.flatMap_cons];simp[AL.objs]
theorem mP{cs:List V}(h:3<=n)(M:bT Y m al σ F H)(d:σ[i]?=some (cs,true))(E:o<cs.length)(w:σ.length<=900)(C:cs.length<=900)(q:∀j,bT Y m al (σ.set i (cs.set o v,true)) F j->P (k .none j)):P (aA n (.aL "Memory" "write") [.ref m,Mi i o,v] H k):=by
 refine oE (su 1 h) λn l=>?_;subst l;refine b_ M ?_;clear M;intro cE S e b c;refine cY (AP e d) λx a cB z=>?_;clear d;subst cB;have p:cE.length<=900:=by rw[<-e,bO]at w;exact w
 have r:=b x (eE a);have hs:∃s,x.st[o]?=some s:=⟨_,List.getElem?_eq_getElem (by lia)⟩;refine oE hs ?_;clear hs;intro s hs;have A:=r.2 s (eE hs);refine oA (c.st s A) λ_ f=>?_;refine aW f ?_;clear f;intro it t _;erw[AO];erw[wV (c.get pW)];erw[aK];erw[IX (n3 h) c a z (by lia) p C];erw[tM (c.get (w7 a))];rwa[aY (c.get (YJ a)) (fB (by rwa[e_];rwa[hs];rfl) (by rw[bO];lia))];erw[E7 t];erw[aK];refine LP (n3 h) c A λj g=>?_;erw[pC (g.get (w7 a))];erw[mU (g.get (PN a)) (by lia)];rw[fT];refine q _ ⟨cE.set i {x with cells:=x.cells.set o v},S,?_,λy u=>?_,?_⟩;·rwa[List.map_set];rwa[e];rwa[z];rfl
 ·rcases List.mem_or_eq_of_mem_set u with u|rfl;·exact b y u
  ·exact⟨by rwa[List.length_set];exact r.1,r.2⟩
 ·have B:=yU (m:=m) (al:=al) (F:=F) (v:=x.cells) a;have D:cE.set i {x with cells:=x.cells}=cE:=Nb a;rw[D]at B;rw[B]at g;rwa[yU a];exact g.set
end
section
theorem uP(a:2<=n):aA n (.top "moved") [Mi i o,.int 0] H k=k (Mi i o) H:=by rwa[vU a];simp
theorem FM(a:2<=n):aA n (.top "moved") [Mi i o,.int 1] H k=k (Mi i (o+1)) H:=by rwa[vU a];rfl
theorem YU(a:2<=n):aA n (.top "moved") [Mi i o,.int 2] H k=k (Mi i (o+2)) H:=by rwa[vU a];rfl
theorem ZD{c:Nat}{k:VH->Res}(h:H[a]?=some (.inst "Allocation" [])):Ls (.ref a) "cells" (.ref c) H k=k (H.set a (.inst "Allocation" [("cells",.ref c)])):=by rwa[bE h];kernel_rfl
theorem Ak{c s:Nat}{k:VH->Res}(h:H[a]?=some (.inst "Allocation" [("cells",.ref c)])):Ls (.ref a) "stacks" (.ref s) H k=k (H.set a (.inst "Allocation" [("cells",.ref c),("stacks",.ref s)])):=by rwa[bE h];kernel_rfl
theorem YB{c s:Nat}{b:Bool}{k:VH->Res}(h:H[a]?=some (.inst "Allocation" [("cells",.ref c),("stacks",.ref s)])):Ls (.ref a) "is_live" (.bool b) H k=k (H.set a (tW c s b)):=by rwa[bE h];kernel_rfl
theorem ZB{c:Nat}{k:VH->Res}(h:H[a]?=some (.inst "Stack" [])):Ls (.ref a) "items" (.ref c) H k=k (H.set a (tU c)):=by rwa[bE h];kernel_rfl
end
section
variable{S:List Nat}{F:List (Nat×VO)}
theorem bN.toS{s:Nat}(c:bN Y H S ((s,tU it)::L))(h:H[it]?=some MI)(k:it≠s)(l:it∉S)(m:∀p∈L,p.1≠it):bN Y H (s::S) L:=by
 have hs:=c.at_ _ (aE);have nd:=c.nd;rw[bX,dF]at nd;refine⟨c.base,nd.2,λp hp=>?_,λs' g=>?_⟩
 ·have q:=c.at_ p (aC hp);refine⟨q.1,q.2.1,λz=>?_⟩;rcases bV.mp z with z|z;·exact nd.1 (c7.mpr ⟨p,hp,z⟩)
  ·exact q.2.2 z
 ·clear nd;rcases bV.mp g with rfl|g;·exact⟨hs.1,it,hs.2.1,h,λz=>(bV.mp z).elim k l,m⟩
  ·refine oA (c.st s' g) λa i=>?_;refine fN i ?_;clear i;intro j b d e f;exact⟨a,j,b,d,λz=>(bV.mp z).elim (λy=>f _ (aE) y.symm) e,λp hp=>f p (aC hp)⟩
theorem mR(b:1<=n)(c:bN Y H S L)(q:∀d s,bN Y d (s::S) L->P (k (.ref s) d)):P (eL (aA n) "Stack" [.int 0] H k):=by
 refine oE (su 1 b) λn aG=>?_;clear b;subst aG;unfold eL;erw[GK];erw[nw_eq];erw[ZB (b6 cW)];have e:=(c.new (o:=.inst "Stack" [])).app (G:=[MI]);have f:∀s'∈S,s'<H.length:=λs' h=>let⟨_,_,a,_⟩:=c.st s' h;fZ a;have hit:(H++[VO.inst "Stack" []]).length∉S:=λz=>by have:=f _ z;rw[List.length_append]at this;simp at this;lia
 refine q _ H.length ((bN.set (A:=[]) (o':=tU (H++[VO.inst "Stack" []]).length) e).toS (gW cW (by simp)) (by simp) hit λp hp=>?_);have:=fZ (c.at_ p hp).2.1;simp;lia
theorem O9{cs:List V}(a:4<=n)(M:bT Y m al σ F H)(b:σ[i]?=some (cs,true))(d:cs[o]?=some v)(e:σ.length<=900)(f:cs.length<=900)(q:∀c r,bT Y m al σ ((r,.list [v])::F) c->P (k (.ref r) c)):P (aA n (.aL "Memory" "read_all") [.ref m,Mi i o,.int 1] H k):=by refine oE (su 1 a) λn aG=>?_;subst aG;erw[G4];erw[rH M.gm];erw[uP (n3 a)];erw[aK];refine xE (n3 a) M b d e f λh g=>?_;erw[nw_eq];exact q _ _ g.new
theorem MD{w:V}(a:4<=n)(M:bT Y m al σ F H)(b:σ[i]?=some ([v,w],true))(c:σ.length<=900)(q:∀d r,bT Y m al σ ((r,.list [v,w])::F) d->P (k (.ref r) d)):P (aA n (.aL "Memory" "read_all") [.ref m,Mi i 0,.int 2] H k):=by refine oE (su 1 a) λn aG=>?_;subst aG;erw[GA];erw[rH M.gm];erw[uP (n3 a)];erw[aK];refine xE (n3 a) M b rfl c (by simp) λg e=>?_;erw[rH e.gm];erw[FM (n3 a)];erw[aK];refine xE (n3 a) e b rfl c (by simp) λh f=>?_;erw[nw_eq];exact q _ _ f.new
theorem yA{cs:List V}(a:4<=n)(M:bT Y m al σ F H)(hr:(r,.list [v])∈F)(b:σ[i]?=some (cs,true))(d:o<cs.length)(e:σ.length<=900)(f:cs.length<=900)(q:∀c,bT Y m al (σ.set i (cs.set o v,true)) F c->P (k .none c)):P (aA n (.aL "Memory" "write_all") [.ref m,Mi i o,.ref r] H k):=by refine oE (su 1 a) λn aG=>?_;subst aG;erw[kU];erw[eU (M.get hr) (by simp)];erw[i4];rwa[show((([v]:List V).length:Nat):Int)=1 from rfl];erw[EN];erw[jB M.gm];erw[uP (n3 a)];erw[aY (M.get hr) rfl];erw[aK];exact mP (n3 a) M b d e f q
theorem QT{a b:List V×Bool}:(σ.set i a).set i b=σ.set i b:=List.set_set ..
theorem Nh{a b:List V×Bool}(h:σ[i]?=some a):(σ.set i b)[i]?=some b:=List.getElem?_set_self (dN.mp h).1
theorem KW{x y w:V}(a:4<=n)(M:bT Y m al σ F H)(hr:(r,.list [v,w])∈F)(b:σ[i]?=some ([x,y],true))(d:σ.length<=900)(q:∀e,bT Y m al (σ.set i ([v,w],true)) F e->P (k .none e)):P (aA n (.aL "Memory" "write_all") [.ref m,Mi i 0,.ref r] H k):=by refine oE (su 1 a) λn aG=>?_;subst aG;erw[kU];erw[eU (M.get hr) (by simp)];erw[i4];rwa[show((([v,w]:List V).length:Nat):Int)=2 from rfl];erw[FJ];erw[jB M.gm];erw[uP (n3 a)];erw[aY (M.get hr) rfl];erw[aK];refine mP (n3 a) M b (by simp) d (by simp) λg c=>?_;erw[jB c.gm];erw[FM (n3 a)];erw[aY (c.get hr) rfl];erw[aK];refine mP (n3 a) c (Nh b) (by simp) (by rwa[List.length_set];exact d) (by simp) λh f=>q _ ?_;rw[QT]at f;exact f
theorem LF{x y z w u:V}(a:4<=n)(M:bT Y m al σ F H)(hr:(r,.list [v,w,u])∈F)(b:σ[i]?=some ([x,y,z],true))(d:σ.length<=900)(q:∀f,bT Y m al (σ.set i ([v,w,u],true)) F f->P (k .none f)):P (aA n (.aL "Memory" "write_all") [.ref m,Mi i 0,.ref r] H k):=by refine oE (su 1 a) λn aG=>?_;subst aG;erw[kU];erw[eU (M.get hr) (by simp)];erw[i4];rwa[show((([v,w,u]:List V).length:Nat):Int)=3 from rfl];erw[DA];erw[jB M.gm];erw[uP (n3 a)];erw[aY (M.get hr) rfl];erw[aK];refine mP (n3 a) M b (by simp) d (by simp) λh e=>?_;erw[jB e.gm];erw[FM (n3 a)];erw[aY (e.get hr) rfl];erw[aK];refine mP (n3 a) e (Nh b) (by simp) (by rwa[List.length_set];exact d) (by simp) λj c=>?_;rw[QT]at c;erw[jB c.gm];erw[YU (n3 a)];erw[aY (c.get hr) rfl];erw[aK];refine mP (n3 a) c (Nh b) (by simp) (by rwa[List.length_set];exact d) (by simp) λl g=>q _ ?_;rw[QT]at g;exact g
theorem LC(e:2<=n)(r:z=1\/z=2\/z=3)(c:bN Y H S ((a,.inst "Allocation" [])::L))(q:∀(g:VH)(S':List Nat)(d s':Nat)(st:List Nat),st.length=z->(∀s∈st,s∈S')->(∀s∈S,s∈S')->bN Y g S' ((a,tW d s' true)::(d,.list (List.replicate z eB))::(s',.list (st.map .ref))::L)->P (k .none g)):P (aA n (.aL "Allocation" "__init__") [.ref a,.int z] H k):=by
 refine oE (su 1 e) λn aG=>?_;subst aG;have pre:∀{b:VH}{z:Nat},z<=3->b=H++[.list [eB]]->∀{K:VH->Res},(∀g d,bN Y g S ((a,.inst "Allocation" [("cells",.ref d)])::(d,.list (List.replicate z eB))::L)->P (K g))->P (Lv .Mult (.ref H.length) (.int z) b λv2 H=>Ls (.ref a) "cells" v2 H λH=>K H):=by rintro b z r rfl K v;erw[vS cW (by lia)];rwa[ZD (b6 (b6 (c.get (aE))))];rw[fT];have f:=(c.app (G:=[.list [eB]])).new (o:=.list (List.replicate z eB));exact v _ _ ((bN.set (A:=[_]) (o':=.inst "Allocation" [("cells",.ref (H++[VO.list [eB]]).length)]) f).perm (List.Perm.swap _ _ _))
 have post:∀{b:VH}{d:Nat}{S' st:List Nat},(∀s∈st,s∈S')->(∀s∈S,s∈S')->st.length=z->bN Y b S' ((a,.inst "Allocation" [("cells",.ref d)])::(d,.list (List.replicate z eB))::L)->P (nw (.list (st.map .ref)) b λw H=>Ls (.ref a) "stacks" w H λH=>Ls (.ref a) "is_live" (.bool true) H λH=>k .none H):=by intro b d S' st x y B f;have C:=f.new (o:=.list (st.map .ref));erw[nw_eq];rwa[Ak (b6 (f.get (aE)))];have t:=bN.set (A:=[_]) (o':=.inst "Allocation" [("cells",.ref d),("stacks",.ref b.length)]) C;rwa[YB (t.get (aC (aE)))];have D:=bN.set (A:=[_]) (o':=tW d b.length true) t;exact q _ S' d b.length st B x y (D.perm ((List.Perm.swap _ _ _).trans (List.Perm.cons _ (List.Perm.swap _ _ _))))
 clear q;rcases r with rfl|rfl|rfl;·rwa[show((1:Nat):Int)=1 from rfl];erw[QW];erw[nw_eq];refine pre (z:=1) (by decide) rfl λb f i=>?_;refine mR (n3 e) i λu j l=>?_;exact post (st:=[j]) (by simp) (λs h=>aC h) rfl l
 ·rwa[show((2:Nat):Int)=2 from rfl];erw[QZ];erw[nw_eq];refine pre (z:=2) (by decide) rfl λb f i=>?_;refine mR (n3 e) i λu j l=>?_;refine mR (n3 e) l λE m p=>?_;exact post (st:=[j,m]) (by simp) (λs h=>aC (aC h)) rfl p
 ·rwa[show((3:Nat):Int)=3 from rfl];erw[QY];erw[nw_eq];refine pre (z:=3) (by decide) rfl λb f i=>?_;refine mR (n3 e) i λu j l=>?_;refine mR (n3 e) l λE m p=>?_;refine mR (n3 e) p λJ F I=>?_;exact post (st:=[j,m,F]) (by simp) (λs h=>aC (aC (aC h))) rfl I
theorem NC(j:3<=n)(u:z=1\/z=2\/z=3)(M:bT Y m al σ F H)(l:σ.length<=800)(q:∀p,bT Y m al (σ++[(List.replicate z eB,true)]) F p->P (k (.int σ.length) p)):P (aA n (.aL "Memory" "allocate") [.ref m,.int z] H k):=by
 refine oE (su 1 j) λn aG=>?_;subst aG;refine b_ M ?_;clear M;intro cE S e b c;have v:cE.length<=800:=by rw[<-e,bO]at l;exact l
 erw[wC];erw[fK (c.get pW)];erw[gP (c.get sV) (by decide+kernel)];unfold eL;refine LC (n3 j) u (c.new (o:=.inst "Allocation" [])) λw r A B st e1 C D t=>?_;dsimp only;have f:=t.get (aC (aC (aC sV)));erw[gU f (by rw[bO];lia)];let x:AL:=⟨H.length,A,B,st,List.replicate z eB,true⟩
 have g:bN Y (w.set al (.list (cE.map (λx=>V.ref x.a)++[.ref H.length]))) r (Mp m al (cE++[x])++F):=by
  have i:=t.perm (L':=[(m,lG al 0)]++(al,.list (cE.map λx=>V.ref x.a))::(cE.flatMap AL.objs++(x.objs++F))) (by show((x.objs++(Mp m al cE++F))).Perm _;unfold Mp;refine List.Perm.trans List.perm_append_comm ?_;simp only[List.cons_append,List.append_assoc,List.nil_append];exact List.Perm.cons _ (List.Perm.cons _ (List.Perm.append_left _ List.perm_append_comm)));have E:=bN.set (o':=.list (cE.map (λx=>V.ref x.a)++[.ref H.length])) i;have G:Mp m al (cE++[x])++F=[(m,lG al 0)]++(al,.list (cE.map (λx=>V.ref x.a)++[.ref H.length]))::(cE.flatMap AL.objs++(x.objs++F)):=by unfold Mp;simp[x]
  rwa[G];exact E
 erw[fK (g.get pW)];erw[eU (g.get sV) (by simp;lia)];erw[sub_int];have el:((((cE++[x]).map λx=>V.ref x.a).length:Nat):Int)-1=(σ.length:Int):=by refine cM e ?_;simp
 rwa[el];refine q _ ⟨cE++[x],r,?_,λy d=>?_,g⟩;·rwa[eZ];rwa[e];rfl
 ·rcases fL.mp d with d|d;·exact⟨(b y d).1,λs h=>D s ((b y d).2 s h)⟩
  ·rw[List.mem_singleton]at d;subst d;exact⟨by show st.length=(List.replicate z eB).length;rwa[List.length_replicate];exact e1,C⟩
theorem R_{cs:List V}(l:2<=n)(M:bT Y m al σ F H)(g:σ[i]?=some (cs,true))(o:σ.length<=900)(q:∀p,bT Y m al (σ.set i (cs,false)) F p->P (k .none p)):P (aA n (.aL "Memory" "free") [.ref m,.int i] H k):=by
 refine oE (su 1 l) λn cB=>?_;subst cB;refine b_ M ?_;clear M;intro cE S e b c;refine cY (AP e g) λx f aG t=>?_;clear g;subst aG;have h:cE.length<=900:=by rw[<-e,bO]at o;exact o
 erw[B9];erw[rY (c.get pW)];erw[aK];erw[IQ (n3 l) c f h];erw[iB];rwa[t];rwa[show(!true)=false from rfl];erw[bC];erw[fK (c.get pW)];erw[aY (c.get sV) (D4 f h)];erw[AN (c.get (w7 f))];refine q _ ⟨cE.set i {x with live:=false},S,?_,λy j=>?_,?_⟩;·rwa[List.map_set];rwa[e];rfl
 ·rcases List.mem_or_eq_of_mem_set j with j|rfl;·exact b y j
  ·exact b x (eE f)
 ·have d:∀w:Bool,Mp m al (cE.set i {x with live:=w})++F=((m,lG al 0)::(al,.list (cE.map λx=>.ref x.a))::((cE.take i).flatMap AL.objs))++(x.a,tW x.c x.s w)::(x.c,.list x.cells)::(x.s,.list (x.st.map .ref))::((cE.drop (i+1)).flatMap AL.objs++F):=by
   intro w;have u:(cE.set i {x with live:=w}).map (λx=>V.ref x.a)=cE.map λx=>V.ref x.a:=by rwa[List.map_set];exact Nb (by rwa[e_];rwa[f];rfl)
   unfold Mp;rwa[u];rwa[IT f];rwa[List.flatMap_append];rwa[List.flatMap_cons];simp[AL.objs]
  have r:=d x.live;have v:cE.set i {x with live:=x.live}=cE:=Nb f;rw[v]at r;rw[r]at c;rw[d];exact c.set
end
theorem Ni:∀{l:Nat},l<9->l=0\/l=1\/l=2\/l=3\/l=4\/l=5\/l=6\/l=7\/l=8
 |0,_=>.inl rfl
 |1,_=>.inr (.inl rfl)
 |2,_=>.inr (.inr (.inl rfl))
 |3,_=>.inr (.inr (.inr (.inl rfl)))
 |4,_=>.inr (.inr (.inr (.inr (.inl rfl))))
 |5,_=>.inr (.inr (.inr (.inr (.inr (.inl rfl)))))
 |6,_=>.inr (.inr (.inr (.inr (.inr (.inr (.inl rfl))))))
 |7,_=>.inr (.inr (.inr (.inr (.inr (.inr (.inr (.inl rfl)))))))
 |8,_=>.inr (.inr (.inr (.inr (.inr (.inr (.inr (.inr rfl)))))))
 |n+9,h=>aV h (Nat.not_lt_of_le (Nat.le_add_left 9 n))
theorem CT{l:Nat}(h:l<9)(a:l≠6)(b:l≠7):l=0\/l=1\/l=2\/l=3\/l=4\/l=5\/l=8:=by
 rcases Ni h with h|h|h|h|h|h|h|h|h;·exact .inl h
 ·exact .inr (.inl h)
 ·exact .inr (.inr (.inl h))
 ·exact .inr (.inr (.inr (.inl h)))
 ·exact .inr (.inr (.inr (.inr (.inl h))))
 ·exact .inr (.inr (.inr (.inr (.inr (.inl h)))))
 ·exact aV h a
 ·exact aV h b
 ·exact .inr (.inr (.inr (.inr (.inr (.inr h)))))
theorem wB:∀{j:Nat},j<2->j=0\/j=1
 |0,_=>.inl rfl
 |1,_=>.inr rfl
 |n+2,h=>aV h (Nat.not_lt_of_le (Nat.le_add_left 2 n))
structure wK where
 (m al pl rv fr ho jo ma frs pr w b lo bl pg gl la:Nat)
 giv:List V
structure Ms where
 ho:List (Nat×Nat)
 σ:List (List V×Bool)
 blk:Int
 idx:Int
 prints:List V
 fuel:Int
 out:V
 fs:List V
noncomputable def lF(l:List (Nat×Nat)):List (V×V):=l.map λp=>(.int p.1,.int p.2)
noncomputable def FX(A:wK)(s:Ms):List (Nat×VO):=[(A.ho,.dict (lF s.ho)),(A.fr,l_ A.b A.ho s.blk s.idx A.jo),(A.ma,eH A.pg A.w A.giv s.fuel A.m A.pl A.rv A.gl A.la A.frs A.pr s.out),(A.pr,.list s.prints),(A.pl,nW A.m A.w),(A.rv,uR A.pl A.w),(A.jo,.list []),(A.frs,.list s.fs)]
noncomputable abbrev kO:Nat->V
 |5=>Mh
 |6=>fU
 |7=>KQ
 |8=>mT
 |_=>bH
noncomputable def kK:List V:=(List.range 9).map λl=>.tup [kO l,.bool true,.none]
structure Md(A:wK)(Y:VH):Prop where
 body:∃nm ac sp,Y[A.b]?=some (qC nm ac A.lo A.bl sp)
 locs:Y[A.lo]?=some (.list kK)
def MR(A:wK)(s:Ms)(T:List (Nat×VO))(Y H:VH):Prop:=bT Y A.m A.al s.σ (T++FX A s) H
section
variable{l:Nat}
theorem MR.ho(M:MR A s T Y H):H[A.ho]?=some (.dict (lF s.ho)):=M.get (cG _ (aE))
theorem MR.fr(M:MR A s T Y H):H[A.fr]?=some (l_ A.b A.ho s.blk s.idx A.jo):=M.get (cG _ (aC (aE)))
theorem MR.ma(M:MR A s T Y H):H[A.ma]?=some (eH A.pg A.w A.giv s.fuel A.m A.pl A.rv A.gl A.la A.frs A.pr s.out):=M.get (cG _ (aC (aC (aE))))
theorem MR.pr(M:MR A s T Y H):H[A.pr]?=some (.list s.prints):=M.get (cG _ (aC (aC (aC (aE)))))
theorem MR.pl(M:MR A s T Y H):H[A.pl]?=some (nW A.m A.w):=M.get (cG _ (aC (aC (aC (aC (aE))))))
theorem MR.rv(M:MR A s T Y H):H[A.rv]?=some (uR A.pl A.w):=M.get (cG _ (aC (aC (aC (aC (aC (aE)))))))
theorem MR.jo(M:MR A s T Y H):H[A.jo]?=some (.list []):=M.get (cG _ (aC (aC (aC (aC (aC (aC (aE))))))))
theorem MR.frs(M:MR A s T Y H):H[A.frs]?=some (.list s.fs):=M.get (cG _ (aC (aC (aC (aC (aC (aC (aC (aE)))))))))
theorem MR.kR{p:Nat×VO}(M:MR A s (p::T) Y H):H[p.1]?=some p.2:=M.get (aE)
theorem MR.gm(M:MR A s T Y H):H[A.m]?=some (lG A.al 0):=bT.gm M
theorem MR.new(M:MR A s T Y H):MR A s ((H.length,ob)::T) Y (H++[ob]):=bT.new M
theorem MR.app{G:VH}(M:MR A s T Y H):MR A s T Y (H++G):=bT.app M
theorem MR.drop{p:Nat×VO}(M:MR A s (p::T) Y H):MR A s T Y H:=bT.drop M
theorem MR.body(M:MR A s T Y H)(B:Md A Y):∃nm ac sp,H[A.b]?=some (qC nm ac A.lo A.bl sp):=let⟨x,y,z,h⟩:=B.body;⟨x,y,z,bT.base M h⟩
theorem MR.locs(M:MR A s T Y H)(B:Md A Y):H[A.lo]?=some (.list kK):=bT.base M B.locs
theorem rN(ho:List (Nat×Nat))(l:Nat):d8 (.int l) (lF ho)=(ho.lookup l).map λa=>V.int a:=by
 induction ho with
 |nil=>rfl
 |cons p r b=>
  obtain⟨x,y⟩:=p;show(if hZ (.int x) (.int l)=true then some (V.int y)else d8 (.int l) (lF r))=_;rwa[fA];by_cases h:l=x;·subst h;rwa[aI (by simp[jF])];simp
  ·rwa[aH (by simp[jF];lia)];rwa[b];have:(l==x)=false:=by simpa using h
   rwa[this];rfl
theorem rW(ho:List (Nat×Nat))(l:Int):dR (.int l) (lF ho)=true:=by show(lF ho).all _=true;rw[List.all_eq_true];intro p hp;refine aW (c7.mp hp) λq _ aG=>?_;clear hp;subst aG;rfl
theorem oZ(b:3<=n)(M:MR A s T Y H)(h:s.ho.lookup l=some a):aA n (.aL "Places" "home_of") [.ref A.pl,.ref A.fr,.int l] H k=k (Mi a 0) H:=by refine oE (su 1 b) λn aG=>?_;subst aG;rw[pR];rwa[iJ M.fr];rwa[kW M.ho (rW _ _)];rw[rN];rwa[h];show iT false _ _=_;rwa[bC];rwa[lP M.pl];rwa[GU M.gm];rwa[iJ M.fr];rwa[nB M.ho (rW _ _) (by rw[rN];rwa[h];rfl)];rwa[aK];rwa[YV (n3 b)];rfl
theorem V2(a:1<=n)(M:MR A s T Y H)(h:s.ho.lookup 4=none):aA n (.aL "Places" "home_of") [.ref A.pl,.ref A.fr,.int 4] H k=.exc "MachineFault" "dropped" H:=by refine oE (su 1 a) λn aG=>?_;clear a;subst aG;rw[pR];rwa[iJ M.fr];rwa[kW M.ho (rW _ _)];rwa[show(4:Int)=((4:Nat):Int)from rfl];rw[rN];rwa[h];kernel_rfl
theorem yT(a:l<9):eT kK (l:Int)=some (.tup [kO l,.bool true,.none]):=by refine fB ?_ (by simp[kK]);rw[kK];rwa[e_];rwa[List.getElem?_range a];rfl
theorem RN(b:4<=n)(M:MR A s T Y H)(B:Md A Y)(c:l<9)(h:s.ho.lookup l=some a):aA n (.aL "Places" "spot_of") [.ref A.pl,.ref A.fr,.tup [.int l,.tup []]] H k=k (.tup [Mi a 0,kO l]) H:=by refine oE (su 1 b) λn aG=>?_;subst aG;refine i7 (M.body B) λ_ _ _ hb=>?_;rw[yN];rwa[gN M.pl];rwa[aK];rwa[oZ (n3 b) M h];rwa[fO M.fr];rwa[fC hb];rwa[aY (M.locs B) (yT c)];rwa[dB rfl];rfl
theorem UC(a:2<=n)(M:MR A s T Y H)(h:s.ho.lookup 4=none):aA n (.aL "Places" "spot_of") [.ref A.pl,.ref A.fr,.tup [.int 4,.tup []]] H k=.exc "MachineFault" "dropped" H:=by refine oE (su 1 a) λn aG=>?_;subst aG;rw[yN];rwa[gN M.pl];rwa[aK];rwa[V2 (n3 a) M h];rfl
end
abbrev jC(n:Nat)(l:List V):VH->Bool:=λa=>match a[n]? with|some (.list l')=>Ly.m4 l l'|_=>false
section
variable{x:Res}
theorem l0{turn:V->Loc->VH->Kf->Res}{k:Kf}(h:H[n]?=some (.list l)):f7 (.ref n) turn loc H k=c9 (jC n l) turn l loc H k:=by unfold f7;(rwa[nQ h];rfl)<;>rfl
theorem s7{k:VH->List V->Res}(h:H[n]?=some (.list l)):gD (.ref n) turn H acc k=fP (jC n l) turn l H acc k:=by unfold gD;(rwa[nQ h];rfl)<;>rfl
theorem fM(h:H[n]?=some (.list l)):sI (jC n l) H x=x:=by unfold sI jC;rwa[h];exact aI w9
theorem zN{a:Int}{kk:V->Res}:iZ .Add (.int a) (.int b) kk=kk (.int (a+b)):=rfl
theorem jG{a b:V}{k:V->V->Res}:gC (.tup [a,b]) H k=k a b:=rfl
theorem U7{i:Int}{k:Bool->Res}:cP .Eq (.int i) eB H k=k false:=by kernel_rfl
theorem QN{i:Bool}{k:Bool->Res}:cP .Eq (.bool i) eB H k=k false:=by kernel_rfl
theorem AA{k:Bool->Res}:cP .Eq eB eB H k=k true:=by kernel_rfl
end
def hW(v:V):Prop:=(∃i,v=.int i)\/∃b,v=.bool b
theorem hW.eB{k:Bool->Res}(h:hW v):cP .Eq v eB H k=k false:=by
 rcases h with⟨i,rfl⟩|⟨b,rfl⟩;·exact U7
 ·exact QN
section
variable{F:List (Nat×VO)}{u w:V}
theorem rB(M:bT Y m al σ F H)(q:∀a r,bT Y m al σ ((r,ob)::F) a->P (k (.ref r) a)):P (nw ob H k):=q _ _ M.new
theorem vZ{x:List V}{a b:V}(M:bT Y m al σ F H)(h:(r,.list l)∈F)(d:(cut l a b).map (Mt l)=some x)(e:l.length<=1000)(q:∀c r,bT Y m al σ ((r,.list x)::F) c->P (k (.ref r) c)):P (dU (.ref r) a b H k):=by erw[sX (M.get h) d e];exact q _ _ M.new
theorem FQ{A:List (Nat×VO)}{x:V}(M:bT Y m al σ (A++(r,.list l)::B) H)(b:l.length<=1000)(q:∀a,bT Y m al σ (A++(r,.list (l++[x]))::B) a->P (k .none a)):P (aJ cf .list (.ref r) "append" [x] H k):=by rwa[gU (M.get (cG _ (aE))) b];exact q _ M.set
theorem sO(a:1<=n)(M:bT Y m al σ F H)(q:∀b r,bT Y m al σ ((r,.list [bH,Mh])::F) b->P (k (.ref r) b)):P (aA n (.top "parts_told") [fU,.none,w0] H k):=by refine oE (su 1 a) λn aG=>?_;clear a;subst aG;erw[show aA (n+1) (.top "parts_told") [fU,.none,w0] H k=k (.ref H.length) (H++[.list [bH,Mh]])by kernel_rfl];exact q _ _ M.new
theorem D8(a:7<=n)(M:bT Y m al σ F H)(hr:(r,.list [v,w])∈F)(q:∀d f r1 r2 t,bT Y m al σ ((r2,.list [w])::(r1,.list [v])::(t,.list [bH,Mh])::(f,.list [.ref r1,.ref r2])::F) d->P (k (.tup [.none,.ref f]) d)):P (aA n (.top "parts_of_cells") [fU,.ref r,w0] H k):=by refine oE (su 2 a) λn aG=>?_;subst aG;erw[J6];refine rB M λj f g=>sO (n3 a) g λl t b=>?_;rwa[l0 (b.get (aE))];erw[KY];rwa[fM (b.get (aE))];erw[n8 (n3 a)];rwa[gP (b.get (aC (aE))) (by decide+kernel)];erw[add_int];refine vZ b (aC (aC hr)) (x:=[v]) rfl (by simp) λo r1 h=>FQ (A:=[_,_]) h (by simp) λp c=>?_;erw[zN];rwa[fM (c.get (aC (aE)))];erw[w6 (n3 a)];rwa[gP (c.get (aC (aC (aE)))) (by decide+kernel)];erw[add_int];refine vZ c (aC (aC (aC hr))) (x:=[w]) rfl (by simp) λs r2 i=>FQ (A:=[_,_,_]) i (by simp) λu e=>?_;erw[zN];rwa[fM (e.get (aC (aC (aE))))];exact q _ _ _ _ _ e
end
noncomputable abbrev EA(H:VH):Res:=.exc "MachineFault" "uninitialised" H
def x_(t:V):Prop:=t=bH\/t=Mh\/t=mT
section
variable{F:List (Nat×VO)}{u w t:V}
theorem xD(a:2<=n)(c:x_ t)(h:H[r]?=some (.list [v]))(b:hW v):aA n (.top "want_whole") [t,.ref r,w0] H k=k .none H:=by
 rcases c with rfl|rfl|rfl;·rwa[YR a];rwa[aY h rfl];rwa[b.eB];rwa[bC];rfl
 ·rwa[Fs a];rwa[aY h rfl];rwa[b.eB];rwa[bC];rfl
 ·rwa[XX a];rwa[aY h rfl];rwa[b.eB];rwa[bC];rfl
theorem rD(a:2<=n)(b:x_ t)(h:H[r]?=some (.list [eB])):aA n (.top "want_whole") [t,.ref r,w0] H k=EA H:=by
 rcases b with rfl|rfl|rfl;·rwa[YR a];rwa[aY h rfl];rwa[AA];rwa[bZ];rfl
 ·rwa[Fs a];rwa[aY h rfl];rwa[AA];rwa[bZ];rfl
 ·rwa[XX a];rwa[aY h rfl];rwa[AA];rwa[bZ];rfl
theorem rQ(a:2<=n)(b:x_ t)(h:H[r]?=some (.list [v])){q:V}:aA n (.top "told_value") [t,.ref r,w0,q] H k=k v H:=by
 rcases b with rfl|rfl|rfl;·rwa[Hg a];rwa[aY h rfl];rfl
 ·rwa[Ko a];rwa[aY h rfl];rfl
 ·rwa[Jl a];rwa[aY h rfl];rfl
theorem C_(a:2<=n)(c:x_ t)(M:bT Y m al σ F H)(q:∀b r,bT Y m al σ ((r,.list [v])::F) b->P (k (.ref r) b)):P (aA n (.top "cells_of") [t,v,w0] H k):=by
 rcases c with rfl|rfl|rfl;·erw[RD a];exact q _ _ M.new
 ·erw[Lo a];exact q _ _ M.new
 ·erw[Hi a];exact q _ _ M.new
theorem VY(a:5<=n)(b:x_ t):aA n (.top "size_of") [t,w0] H k=k (.int 1) H:=by
 rcases b with rfl|rfl|rfl;·exact n8 a
 ·exact w6 a
 ·exact BE a
theorem bT.drops{T:List (Nat×VO)}(M:bT Y m al σ (T++F) H):bT Y m al σ F H:=by
 induction T with
 |nil=>exact M
 |cons p T a=>exact a M.drop
theorem QG(a:9<=n)(M:bT Y m al σ F H)(hr:(r,.list [v,w])∈F)(d:hW v\/v=eB)(e:hW w\/w=eB)(q:hW v->hW w->∀c,bT Y m al σ F c->P (k .none c))(h:(v=eB\/w=eB)->∀c,bT Y m al σ F c->P (EA c)):P (aA n (.top "want_whole") [fU,.ref r,w0] H k):=by
 refine oE (su 2 a) λn aG=>?_;subst aG;erw[JS];refine D8 (n3 a) M hr λl f r1 r2 t i=>?_;erw[jG];refine sO (n3 a) i λo p b=>?_;have hf:=b.get (aC (aC (aC (aC (aE)))));erw[eU hf (by simp)];erw[i4];rwa[show((([V.ref r1,V.ref r2]:List V).length:Nat):Int)=2 from rfl];erw[KF];rwa[aY (b.get (aE)) rfl];erw[aY hf rfl];have g1:=b.get (aC (aC (aE)));have j:=b.get (aC (aE));have g:=bT.drops (T:=[_,_,_,_,_]) b;clear hr i;rcases d with d|rfl
 ·rwa[xD (n3 a) (.inl rfl) g1 d];rwa[aY (b.get (aE)) rfl];erw[aY hf rfl];clear b;rcases e with e|rfl;·rwa[xD (n3 a) (.inr (.inl rfl)) j e];exact q d e _ g
  ·rwa[rD (n3 a) (.inr (.inl rfl)) j];exact h (.inr rfl) _ g
 ·rwa[rD (n3 a) (.inl rfl) g1];exact h (.inl rfl) _ g
theorem UT(b:9<=n)(M:bT Y m al σ F H)(hr:(r,.list [v,w])∈F){e:V}(q:∀c,bT Y m al σ F c->P (k (.tup [v,w]) c)):P (aA n (.top "told_value") [fU,.ref r,w0,e] H k):=by refine oE (su 2 b) λn aG=>?_;subst aG;erw[OU];refine D8 (n3 b) M hr λh f r1 r2 t g=>?_;erw[jG];refine sO (n3 b) g λi j a=>?_;have hf:=a.get (aC (aC (aC (aC (aE)))));erw[eU hf (by simp)];erw[i4];rwa[show((([V.ref r1,V.ref r2]:List V).length:Nat):Int)=2 from rfl];rw[O2 _ .none];rwa[aY (a.get (aE)) rfl];erw[aY hf rfl];rwa[rQ (n3 b) (.inl rfl) (a.get (aC (aC (aE))))];rwa[aY (a.get (aE)) rfl];erw[aY hf rfl];rwa[rQ (n3 b) (.inr (.inl rfl)) (a.get (aC (aE)))];refine rB a λl r3 d=>?_;rwa[BL (d.get (aE)) (by simp)];exact q _ (bT.drops (T:=[_,_,_,_,_,_]) d)
end
section
variable{l:Nat}{t w:V}{cs:List V}
theorem SX(c:6<=n)(e:x_ t)(M:MR A s T Y H)(g:s.σ[a]?=some (cs,true))(i:cs[o]?=some v)(p:s.σ.length<=900)(u:cs.length<=900)(f:hW v\/v=eB)(q:hW v->∀d r,MR A s ((r,.list [v])::T) Y d->P (k (.ref r) d))(w:v=eB->∀d,MR A s T Y d->P (EA d)):P (aA n (.aL "Places" "read") [.ref A.pl,Mi a o,t] H k):=by
 refine oE (su 1 c) λn aG=>?_;subst aG
 have tail:P (gA (.ref A.pl) "memory" H λj=>mO j "read_all" H λh=>gA (.ref A.pl) "world" H λv3=>aA n (.top "size_of") [t,v3] H λv4 H=>aJ (aA n) h j "read_all" [Mi a o,v4] H λl H=>gA (.ref A.pl) "world" H λx=>aA n (.top "want_whole") [t,l,x] H λz H=>k l H):=by
  erw[lP M.pl];erw[qE M.gm];erw[d9 M.pl];erw[VY (n3 c) e];erw[aK];refine O9 (n3 c) M g i p u λy r m=>?_;have b:MR A s ((r,.list [v])::T) Y y:=m;erw[d9 b.pl];clear i m;rcases f with f|rfl;·erw[xD (n3 c) e b.kR f];exact q f _ _ b
  ·erw[rD (n3 c) e b.kR];exact w rfl _ b.drop
 rcases e with rfl|rfl|rfl;·erw[KE];exact tail
 ·erw[PB];exact tail
 ·erw[JI];exact tail
theorem Cq(d:10<=n)(M:MR A s T Y H)(e:s.σ[a]?=some ([v,w],true))(j:s.σ.length<=900)(l:hW v\/v=eB)(m:hW w\/w=eB)(q:hW v->hW w->∀c r,MR A s ((r,.list [v,w])::T) Y c->P (k (.ref r) c))(o:(v=eB\/w=eB)->∀c,MR A s T Y c->P (EA c)):P (aA n (.aL "Places" "read") [.ref A.pl,Mi a 0,fU] H k):=by refine oE (su 1 d) λn aG=>?_;subst aG;erw[J7];erw[lP M.pl];erw[qE M.gm];erw[d9 M.pl];erw[A4 (n3 d)];erw[aK];refine MD (n3 d) M e j λp r i=>?_;have f:MR A s ((r,.list [v,w])::T) Y p:=i;erw[d9 f.pl];exact QG (n3 d) i (aE) l m (λa b t g=>q a b _ _ g) λh t g=>o h _ (MR.drop g)
theorem Q6(c:6<=n)(M:MR A s T Y H)(d:s.σ[a]?=some ([v],true))(f:s.σ.length<=900)(q:∀e,MR A {s with σ:=s.σ.set a ([eB],true)} T Y e->P (k .none e)):P (aA n (.aL "Places" "leave") [.ref A.pl,Mi a 0,bH] H k):=by refine oE (su 1 c) λn aG=>?_;subst aG;erw[J4];erw[lP M.pl];erw[lW M.gm];refine rB M λg r1 h=>?_;have b:MR A s ((r1,.list [eB])::T) Y g:=h;erw[d9 b.pl];erw[n8 (n3 c)];erw[vS b.kR (by decide)];have i:=b.new (ob:=.list (List.replicate (1:Int).toNat eB));erw[aK];refine yA (n3 c) i (aE) d (by simp) f (by simp) λl j=>q _ ?_;exact bT.drops (T:=[_,_]) j
end
abbrev Cell:=Option V
abbrev St:=Nat->Option (List Cell)
noncomputable def encM:Cell->V
 |none=>eB
 |some v=>v
def jO(c:Cell):Prop:=c=none\/∃i:Int,c=some (.int i)/\-128<=i/\i<=127
def j_(c:Cell):Prop:=c=none\/∃b:Bool,c=some (.bool b)
def y0(c:Cell):Prop:=c=none\/∃i:Nat,c=some (.int i)/\i<=3
def DU:Nat->List Cell->Prop
 |5,cs=>∃c,cs=[c]/\j_ c
 |6,cs=>∃c d,cs=[c,d]/\jO c/\j_ d
 |7,cs=>∃c d e,cs=[c,d,e]/\jO c/\jO d/\jO e
 |8,cs=>∃c,cs=[c]/\y0 c
 |_,cs=>∃c,cs=[c]/\jO c
structure WT(S:St):Prop where
 ok:∀l,l<9->∀cs,S l=some cs->DU l cs
 dead:∀l,l<9->S l=none->l=4
set_option genInjectivity true in
set_option genCtorIdx false in
inductive cO where
 |loc(l:Nat)
 |fld(k:Nat)
 |idx
noncomputable def cO.enc:cO->V
 |.loc l=>.tup [.int l,.tup []]
 |.fld k=>.tup [.int 6,.tup [.tup [.str "field",.int k]]]
 |.idx=>.tup [.int 7,.tup [.tup [.str "index",.int 8]]]
def cO.Ok:cO->Prop
 |.loc l=>l<9
 |.fld k=>k<2
 |.idx=>True
noncomputable def cO.ty:cO->V
 |.loc l=>kO l
 |.fld 0=>bH
 |.fld _=>Mh
 |.idx=>bH
inductive Sp where
 |ok(l o n:Nat)
 |no(f:Str)
noncomputable def bF(S:St):cO->Sp
 |.loc l=>match S l with
  |none=>.no "dropped"
  |some cs=>.ok l 0 cs.length
 |.fld k=>.ok 6 k 1
 |.idx=>match S 8 with
  |some [some (.int i)]=>if i<3 then .ok 7 i.toNat 1 else .no "bounds"
  |_=>.no "uninitialised"
structure dK(s:Ms)(S:St):Prop where
 has:∀l,l<9->∀cs,S l=some cs->∃a,s.ho.lookup l=some a/\s.σ[a]?=some (cs.map encM,true)
 yJ:∀l,l<9->S l=none->s.ho.lookup l=none
 inj:∀l l' a,s.ho.lookup l=some a->s.ho.lookup l'=some a->l=l'
 low:∀l a,s.ho.lookup l=some a->l<9
theorem jO.hW(h:jO c):Lw.hW (encM c)\/encM c=eB:=by
 rcases h with rfl|⟨i,rfl,_⟩;·exact .inr rfl
 ·exact .inl (.inl ⟨i,rfl⟩)
theorem j_.hW(h:j_ c):Lw.hW (encM c)\/encM c=eB:=by
 rcases h with rfl|⟨i,rfl⟩;·exact .inr rfl
 ·exact .inl (.inr ⟨i,rfl⟩)
theorem y0.hW(h:y0 c):Lw.hW (encM c)\/encM c=eB:=by
 rcases h with rfl|⟨i,rfl,_⟩;·exact .inr rfl
 ·exact .inl (.inl ⟨i,rfl⟩)
theorem r_:¬hW eB:=by rintro(⟨i,h⟩|⟨b,h⟩)<;>cases h
section
variable{F:List (Nat×VO)}{l:Nat}{t w:V}
theorem Js(a:1<=n)(h:H[r]?=some (.list [])):aA n (.top "sum_of") [.ref r,w0,.int 0] H k=k (.int 0) H:=by refine oE (su 1 a) λn aG=>?_;clear a;subst aG;rw[DD];rwa[l0 h];rw[O6];rwa[fM h];rfl
theorem Ih(c:2<=n)(h:H[r]?=some (.list [bH])):aA n (.top "sum_of") [.ref r,w0,.int 0] H k=k (.int 1) H:=by refine oE (su 2 c) λn aG=>?_;clear c;subst aG;rw[DD];rwa[l0 h];rw[NS];rwa[fM h];rwa[show aA (n+1) (.top "size_within") [bH,w0,.int 0] H (λa H=>Lv .Add (.int 0) a H λb H=>sI (jC r [bH]) H (k b H))=sI (jC r [bH]) H (k (.int 1) H)by kernel_rfl];rwa[fM h];rfl
theorem UK(b:3<=n)(f:j<2)(M:bT Y m al σ F H)(q:∀c,bT Y m al σ F c->P (k (.int j) c)):P (aA n (.top "offset_of_field") [fU,.none,.int j,w0] H k):=by
 refine oE (su 2 b) λn aG=>?_;subst aG;erw[wF];erw[show∀{K:Kv},aA (n+1) (.top "part_types") [fU,.none,w0] H K=K (.ref H.length) (H++[.list [bH,Mh]])from by intro K;kernel_rfl];erw[show∀{H:VH}{K:Kv},aA (n+1) (.top "first_place") [fU,w0] H K=K (.int 0) H from by intro H K;kernel_rfl];have d:=M.new (ob:=.list [bH,Mh]);rcases(wB (j:=j) (by assumption))with rfl|rfl;·refine vZ d (aE) (x:=[]) rfl (by simp) λe r a=>?_;rwa[Js (n3 b) (a.get (aE))];erw[add_int];exact q _ (bT.drops (T:=[_,_]) a)
 ·refine vZ d (aE) (x:=[bH]) rfl (by simp) λe r a=>?_;rwa[Ih (n3 b) (a.get (aE))];erw[add_int];exact q _ (bT.drops (T:=[_,_]) a)
theorem BM(b:2<=n):aA n (.top "moved") [Mi a o,.int j] H k=k (Mi a (o+j)) H:=by rwa[vU b];rfl
theorem Bh(b:5<=n)(M:MR A s T Y H)(B:Md A Y)(h:s.ho.lookup 6=some a)(i:j<2)(q:∀f,MR A s T Y f->P (k (.tup [Mi a j,(cO.fld j).ty]) f)):P (aA n (.aL "Places" "spot_of") [.ref A.pl,.ref A.fr,(cO.fld j).enc] H k):=by
 refine oE (su 1 b) λn aG=>?_;subst aG;refine i7 (M.body B) λ_ _ _ hb=>?_;unfold cO.enc;erw[KD];erw[gN M.pl];erw[aK];rwa[show((6:Int))=((6:Nat):Int)from rfl];erw[oZ (n3 b) M h];erw[fO M.fr];erw[fC hb];erw[aY (M.locs B) (yT (l:=6) (by decide))];erw[dB rfl];erw[d9 M.pl];refine UK (n3 b) i M λm g=>?_;have d:MR A s T Y m:=g;erw[BM (n3 b)];erw[d9 d.pl];refine sO (n3 b) g λo r c=>?_;have e:Mi a (0+j)=Mi a j:=by rewrite[Nat.zero_add];rfl
 rwa[e];clear e;rcases(wB (j:=j) (by assumption))with rfl|rfl;·rwa[aY (c.get (aE)) (v:=bH) rfl];exact q _ c.drop
 ·rwa[aY (c.get (aE)) (v:=Mh) rfl];exact q _ c.drop
end
noncomputable abbrev eD(f:Str)(H:VH):Res:=.exc "MachineFault" f H
section
variable{F:List (Nat×VO)}{l:Nat}{t w:V}
theorem nO{i:Int}(a:-1000000<=i)(b:i<=1000000):Mf i=true:=by unfold Mf;rwa[cC (by(first|with_reducible assumption|lia))];rwa[cC (by(first|with_reducible assumption|lia))];rfl
theorem mul_int{x:Int}(a:Mf x=true)(b:Mf y=true):Lv .Mult (.int x) (.int y) H k=k (.int (x*y)) H:=by show(if(Mf x&&Mf y)=true then k (.int (x*y)) H else .stuck)=_;rwa[a];rwa[b];rfl
theorem XI{h:Nat}(f:8<=n)(M:MR A s T Y H)(B:Md A Y)(o:s.ho.lookup 8=some h)(d:s.σ[h]?=some ([encM c],true))(g:y0 c)(p:s.σ.length<=900)(q:∀i:Nat,c=some (.int i)->i<3->∀b,MR A s T Y b->P (k (Mi a i) b))(j:∀i:Nat,c=some (.int i)->¬i<3->∀b,MR A s T Y b->P (eD "bounds" b))(m:c=none->∀b,MR A s T Y b->P (EA b)):P (aA n (.aL "Places" "element_of") [.ref A.pl,.ref A.fr,Mi a 0,KQ,.int 8] H k):=by
 refine oE (su 1 f) λn aG=>?_;subst aG;refine i7 (M.body B) λ_ _ _ hb=>?_;erw[t_];erw[nR M.pl];erw[gN M.pl];erw[aK];rwa[show((8:Int))=((8:Nat):Int)from rfl];erw[oZ (n3 f) M o];erw[fO M.fr];erw[fC hb];erw[aY (M.locs B) (yT (l:=8) (by decide))];erw[dB rfl];erw[aK];refine SX (n3 f) (.inr (.inr rfl)) M d rfl p (by simp) g.hW (λhi t r e=>?_) λu t e=>?_
 ·clear d m;rcases g with rfl|⟨i,rfl,w⟩;·exact aV hi r_
  ·erw[aY e.kR (v:=.int i) rfl];erw[JU (by lia)];erw[bZ];by_cases q3:i<3;·erw[yQ (by lia)];rwa[show(!true)=false from rfl];erw[bC];erw[d9 e.pl];erw[n8 (n3 f)];erw[mul_int (nO (by lia) (by lia)) (by decide)];rw[Int.mul_one];erw[BM (n3 f)];rw[Nat.zero_add];exact q i rfl q3 _ e.drop
   ·erw[vC (by lia)];rwa[show(!false)=true from rfl];erw[bZ];exact j i rfl q3 _ e.drop
 ·clear d q j;rcases g with rfl|⟨i,rfl,w⟩;·exact m rfl _ e
  ·cases u
theorem Bu{g:Nat}(d:9<=n)(M:MR A s T Y H)(B:Md A Y)(h:s.ho.lookup 7=some a)(j:s.ho.lookup 8=some g)(f:s.σ[g]?=some ([encM c],true))(m:y0 c)(o:s.σ.length<=900)(q:∀i:Nat,c=some (.int i)->i<3->∀b,MR A s T Y b->P (k (.tup [Mi a i,bH]) b))(p:∀i:Nat,c=some (.int i)->¬i<3->∀b,MR A s T Y b->P (eD "bounds" b))(r:c=none->∀b,MR A s T Y b->P (EA b)):P (aA n (.aL "Places" "spot_of") [.ref A.pl,.ref A.fr,cO.idx.enc] H k):=by refine oE (su 1 d) λn aG=>?_;subst aG;refine i7 (M.body B) λ_ _ _ hb=>?_;unfold cO.enc;erw[KG];erw[gN M.pl];erw[aK];rwa[show((7:Int))=((7:Nat):Int)from rfl];erw[oZ (n3 d) M h];erw[fO M.fr];erw[fC hb];erw[aY (M.locs B) (yT (l:=7) (by decide))];erw[dB rfl];erw[wD M.pl];erw[aK];refine XI (n3 d) M B j f m o (λi e t v u=>?_) p r;rwa[show kO 7=V.tup [.str "array",bH,.int 3]from rfl];erw[dB (l:=[.str "array",bH,.int 3]) rfl];exact q i e t _ u
theorem FO(u:9<=n)(W:WT S)(R:dK s S)(M:MR A s T Y H)(B:Md A Y)(hp:p.Ok)(E:s.σ.length<=900)(q:∀l o z a t,bF S p=.ok l o z->s.ho.lookup l=some a->MR A s T Y t->P (k (.tup [Mi a o,p.ty]) t))(w:∀f t,bF S p=.no f->MR A s T Y t->P (eD f t)):P (aA n (.aL "Places" "spot_of") [.ref A.pl,.ref A.fr,p.enc] H k):=by
 have here:∀l,l<9->l≠4->∃cs a,S l=some cs/\s.ho.lookup l=some a/\s.σ[a]?=some (cs.map encM,true):=λl y x=>by
  cases g:S l with
  |none=>exact aV (W.dead l y g) x
  |some cs=>refine aW (R.has l y cs g) λa h C=>?_;exact⟨cs,a,rfl,h,C⟩
 induction p using Lw.cO.casesOn with
 |loc l=>
  cases g:S l with
  |none=>have x:=W.dead l hp g;clear q;subst x;rwa[show cO.enc (.loc 4)=.tup [.int 4,.tup []]from rfl];rwa[UC (n4 u) M (R.yJ 4 hp g)];exact w _ _ (by delta bF;simp only[g]) M
  |some cs=>refine aW (R.has l hp cs g) λa h C=>?_;rwa[show cO.enc (.loc l)=.tup [.int l,.tup []]from rfl];rwa[RN (n4 u) M B hp h];exact q l 0 cs.length a H (by delta bF;simp only[g]) h M
 |fld j=>refine b_ (here 6 (by decide) (by decide)) λcs a _ h _=>?_;exact Bh (n4 u) M B h hp λm r=>q 6 j 1 a m rfl h r
 |idx=>
  refine b_ (here 7 (by decide) (by decide)) λ_ a _ D _=>?_;refine b_ (here 8 (by decide) (by decide)) λcs I b F d=>?_;refine aW (W.ok 8 (by decide) cs b) λc aG v=>?_;subst aG;refine Bu u M B D F d v E (λi e G m r=>?_) (λi e G m r=>?_) λe m r=>?_;·clear v d;subst e;exact q 7 i 1 a m (by delta bF;simp only[b];show(if((i:Nat):Int)<3 then Sp.ok 7 ((i:Nat):Int).toNat 1 else .no "bounds")=_;rwa[aI (by(first|with_reducible assumption|lia))];rewrite[fT];rfl) D r
  ·clear v d;subst e;exact w _ m (by delta bF;simp only[b];show(if((i:Nat):Int)<3 then Sp.ok 7 ((i:Nat):Int).toNat 1 else .no "bounds")=_;rwa[aH (by(first|with_reducible assumption|lia))];rfl) r
  ·clear v d;subst e;exact w _ m (by delta bF;simp only[b]) r
end
inductive Rd where
 |ok(vs:List V)
 |no(f:Str)
noncomputable def i8:List Cell->Option (List V)
 |[]=>some []
 |none::_=>none
 |some v::r=>(i8 r).map (v::·)
noncomputable def nV(S:St)(l o z:Nat):List Cell:=(((S l).getD []).drop o).take z
noncomputable def cF(S:St)(p:cO):Rd:=match bF S p with
 |.no f=>.no f
 |.ok l o z=>match i8 (nV S l o z)with
  |none=>.no "uninitialised"
  |some vs=>.ok vs
noncomputable def bS(S:St)(l:Nat)(cs:List Cell):St:=λx=>if x=l then some cs else S x
def cO.Sc:cO->Prop
 |.loc l=>l<9/\l≠6/\l≠7
 |.fld k=>k<2
 |.idx=>True
theorem cO.Sc.Ok(h:p.Sc):p.Ok:=by
 induction p using Lw.cO.casesOn with
 |loc l=>exact h.1
 |fld j=>exact h
 |idx=>trivial
theorem cO.Sc.ty(h:p.Sc):x_ p.ty:=by
 induction p using Lw.cO.casesOn with
 |loc l=>refine gB h ?_;clear h;intro a b c;rcases(CT (l:=l) a b c)with rfl|rfl|rfl|rfl|rfl|rfl|rfl;all_goals first|exact .inl rfl|exact .inr (.inl rfl)|exact .inr (.inr rfl)
 |fld j=>rcases(show j=0\/j=1 by have:j<2:=h;lia)with rfl|rfl<;>first|exact .inl rfl|exact .inr (.inl rfl)
 |idx=>exact .inl rfl
def cO.tQ:cO->Cell->Prop
 |.loc 5,c=>j_ c
 |.loc 8,c=>y0 c
 |.loc _,c=>jO c
 |.fld 0,c=>jO c
 |.fld _,c=>j_ c
 |.idx,c=>jO c
theorem cO.Sc.hW(h:p.Sc)(a:p.tQ c):Lw.hW (encM c)\/encM c=eB:=by
 induction p using Lw.cO.casesOn with
 |loc l=>refine gB h ?_;clear h;intro b d e;rcases(CT (l:=l) b d e)with rfl|rfl|rfl|rfl|rfl|rfl|rfl;all_goals first|exact jO.hW a|exact j_.hW a|exact y0.hW a
 |fld j=>rcases(show j=0\/j=1 by have:j<2:=h;lia)with rfl|rfl<;>first|exact jO.hW a|exact j_.hW a
 |idx=>exact jO.hW a
theorem vW{l:Nat}(W:WT S)(hp:p.Sc)(e:bF S p=.ok l o z):l<9/\z=1/\∃cs c,S l=some cs/\cs[o]?=some c/\cs.length<=3/\p.tQ c/\∀d,p.tQ d->DU l (cs.set o d):=by
 induction p using Lw.cO.casesOn with
 |loc x=>
  refine gB hp ?_;clear hp;intro r y s
  cases f:S x with
  |none=>delta bF at e;simp only[f]at e;cases e
  |some cs=>delta bF at e;simp only[f]at e;injection e with e1 m n;subst e1 m;have ok:=W.ok x r cs f;refine⟨r,?_⟩;rcases(CT (l:=x) r y s)with rfl|rfl|rfl|rfl|rfl|rfl|rfl;all_goals refine aW ok ?_;clear ok;intro c t k;subst t;exact⟨n.symm,_,c,f,rfl,by simp,k,λd q=>⟨d,rfl,q⟩⟩
 |fld j=>
  have B:j<2:=hp;clear hp;injection e with e1 m n;subst e1 m n
  cases f:S 6 with
  |none=>exact aV (W.dead 6 (by decide) f) (by decide)
  |some cs=>
   refine b_ (W.ok 6 (by decide) cs f) λc d u k q=>?_;clear f;subst u;refine⟨by decide,rfl,?_⟩;rcases(wB (j:=j) (by assumption))with rfl|rfl;·exact⟨_,c,rfl,rfl,by simp,k,λx h=>⟨x,d,rfl,h,q⟩⟩
   ·exact⟨_,d,rfl,rfl,by simp,q,λx h=>⟨c,x,rfl,k,h⟩⟩
 |idx=>
  cases g:S 8 with
  |none=>exact aV (W.dead 8 (by decide) g) (by decide)
  |some v=>
   refine aW (W.ok 8 (by decide) v g) λC cB A=>?_;subst cB;rcases A with rfl|⟨i,rfl,s⟩;·delta bF at e;simp only[g]at e;cases e
   ·delta bF at e;simp only[g]at e;by_cases q3:i<3
    ·rw[aI (by lia)]at e;injection e with e1 m n;rw[fT]at m;clear s g;subst e1 m n
     cases f:S 7 with
     |none=>exact aV (W.dead 7 (by decide) f) (by decide)
     |some cs=>
      refine lE (W.ok 7 (by decide) cs f) λa b c aG w hb k=>?_;clear f;subst aG;refine⟨by decide,rfl,?_⟩;rcases(show i=0\/i=1\/i=2 by lia)with rfl|rfl|rfl;·exact⟨_,a,rfl,rfl,by simp,w,λx h=>⟨x,b,c,rfl,h,hb,k⟩⟩
      ·exact⟨_,b,rfl,rfl,by simp,hb,λx h=>⟨a,x,c,rfl,w,h,k⟩⟩
      ·exact⟨_,c,rfl,rfl,by simp,k,λx h=>⟨a,b,x,rfl,w,hb,h⟩⟩
    ·rw[aH (by lia)]at e;cases e
theorem J1{l:List α}{c:α}(h:l[o]?=some c):(l.drop o).take 1=[c]:=by rwa[List.take_one];rwa[List.head?_drop];rwa[h];rfl
theorem IR{l:Nat}(e:bF S p=.ok l o z)(a:z=1)(b:S l=some cs)(d:cs[o]?=some c):cF S p=match c with|none=>.no "uninitialised"|some v=>.ok [v]:=by subst a;delta cF nV;simp only[e,b,Option.getD_some,J1 d];induction c using Option.casesOn<;>rfl
theorem dK.upd{l:Nat}(R:dK s S)(g:l<9)(h:s.ho.lookup l=some a)(d:a<s.σ.length):dK {s with σ:=s.σ.set a (cs.map encM,true)} (bS S l cs):=by
 refine⟨λx e ds c=>?_,λx e c=>?_,R.inj,R.low⟩
 ·unfold bS at c;by_cases q:x=l;·clear g;subst q;rw[aI rfl]at c;injection c with c;subst c;exact⟨a,h,by rwa[List.getElem?_set_self d];rfl⟩
  ·rw[aH q]at c;refine aW (R.has x e ds c) λb hb f=>?_;refine⟨b,hb,?_⟩;have:a≠b:=λi=>q (R.inj x l a (i▸hb) h);show(s.σ.set a _)[b]?=_;rwa[List.getElem?_set_ne this];exact f
 ·unfold bS at c;by_cases q:x=l;·rw[aI q]at c;exact wR c
  ·rw[aH q]at c;exact R.yJ x e c
theorem WT.upd{l:Nat}(W:WT S)(h:DU l cs):WT (bS S l cs):=by
 refine⟨λx b ds a=>?_,λx b a=>?_⟩
 ·unfold bS at a;by_cases q:x=l;·subst q;rw[aI rfl]at a;injection a with a;subst a;exact h
  ·rw[aH q]at a;exact W.ok x b ds a
 ·unfold bS at a;by_cases q:x=l;·rw[aI q]at a;exact wR a
  ·rw[aH q]at a;exact W.dead x b a
section
variable{F:List (Nat×VO)}{l:Nat}{t w:V}
theorem dK.room(R:dK s S)(d:l<9)(e:S l=some cs)(f:s.ho.lookup l=some a):s.σ[a]?=some (cs.map encM,true):=by refine aW (R.has l d cs e) λb c g=>?_;rw[f]at c;injection c with c;subst c;exact g
theorem Kz(h:j<2):j=0\/j=1:=by lia
theorem z8{p:cO}(I:10<=n)(W:WT S)(R:dK s S)(M:MR A s T Y H)(hp:p.Sc\/p=.loc 6)(J:s.σ.length<=900)(e:bF S p=.ok l o z)(K:s.ho.lookup l=some a)(q:∀vs t r,cF S p=.ok vs->MR A s ((r,.list vs)::T) Y t->P (k (.ref r) t))(B:∀t,cF S p=.no "uninitialised"->MR A s T Y t->P (EA t)):P (aA n (.aL "Places" "read") [.ref A.pl,Mi a o,p.ty] H k):=by
 rcases hp with hp|rfl
 ·refine gB (vW W hp e) λN O u=>?_;refine gX u ?_;clear u;intro cs c f m L w;refine oA w ?_;clear w;intro ok _;have hr:=IR e O f m;refine SX (n4 I) hp.ty M (R.room N f K) (v:=encM c) (by rwa[e_];rwa[m];rfl) J (by rw[bO];omega) (hp.hW ok) (λhi C r g=>?_) λy C g=>?_
  ·clear ok;induction c using Option.casesOn with
   |none=>exact aV hi r_
   |some v=>exact q _ _ _ hr g
  ·clear e q a_1;induction c using Option.casesOn with
   |none=>exact B _ hr g
   |some v=>clear B m hr;induction hp.hW ok using Or.casesOn with
    |inl h=>exact aV (y▸h) r_
    |inr h=>
     exfalso;have D:v=eB:=y;clear y h;subst D
     induction p using Lw.cO.casesOn with
     |loc x=>refine gB hp ?_;clear hp;intro E F L;rcases(CT (l:=x) E F L)with rfl|rfl|rfl|rfl|rfl|rfl|rfl;all_goals rcases ok with h|⟨i,h,_⟩<;>cases h
     |fld j=>rcases Kz hp with rfl|rfl<;>rcases ok with h|⟨i,h,_⟩<;>cases h
     |idx=>rcases ok with h|⟨i,h,_⟩<;>cases h
 ·cases f:S 6 with
  |none=>exact aV (W.dead 6 (by decide) f) (by decide)
  |some cs=>
   delta bF at e;simp only[f]at e;injection e with e1 Q U;subst e1 Q U;refine b_ (W.ok 6 (by decide) cs f) λc d aG m G=>?_;subst aG;have hr:cF S (.loc 6)=match i8 [c,d]with|none=>.no "uninitialised"|some vs=>.ok vs:=by delta cF bF nV;simp only[f];rfl
   refine Cq I M (R.room (by decide) f K) J m.hW G.hW (λE F C r g=>?_) λy C g=>?_
   ·clear f;rcases m with rfl|⟨i,rfl,_⟩;·exact aV E r_
    ·rcases G with rfl|⟨b,rfl⟩;·exact aV F r_
     ·exact q _ _ _ hr g
   ·clear f;rcases m with rfl|⟨i,rfl,_⟩;·exact B _ hr g
    ·rcases G with rfl|⟨b,rfl⟩;·exact B _ hr g
     ·rcases y with h|h<;>cases h
end
set_option genInjectivity true in
inductive Op where
 |ci(i:Int)
 |cb(b:Bool)
 |cu(j:Nat)
 |cp(p:cO)
 |mv(l:Nat)
noncomputable def Op.enc:Op->V
 |.ci i=>.tup [.str "const",bH,.int i]
 |.cb b=>.tup [.str "const",Mh,.bool b]
 |.cu j=>.tup [.str "const",mT,.int j]
 |.cp p=>.tup [.str "copy",p.enc]
 |.mv l=>.tup [.str "move",cO.enc (.loc l)]
noncomputable def Op.ty:Op->V
 |.ci _=>bH
 |.cb _=>Mh
 |.cu _=>mT
 |.cp p=>p.ty
 |.mv l=>kO l
def Op.Ok:Op->Prop
 |.ci i=>-128<=i/\i<=127
 |.cb _=>True
 |.cu j=>j<=3
 |.cp p=>p.Sc\/p=.loc 6
 |.mv l=>l=1\/l=3\/l=4
noncomputable def bI(S:St):Op->Rd×St
 |.ci i=>(.ok [.int i],S)
 |.cb b=>(.ok [.bool b],S)
 |.cu j=>(.ok [.int j],S)
 |.cp p=>(cF S p,S)
 |.mv l=>match cF S (.loc l)with
  |.ok vs=>(.ok vs,bS S l [none])
  |.no f=>(.no f,S)
noncomputable abbrev Ms.w(s:Ms)(σ:List (List V×Bool)):Ms:={s with σ:=σ}
section
variable{F:List (Nat×VO)}{l:Nat}{t w:V}
theorem pL{f:Str}(e:bF S p=.no f):cF S p=.no f:=by delta cF;simp only[e]
theorem OA(d:11<=n)(W:WT S)(R:dK s S)(M:MR A s T Y H)(B:Md A Y)(hp:p.Sc\/p=.loc 6)(j:s.σ.length<=900)(q:∀vs b r,cF S p=.ok vs->MR A s ((r,.list vs)::T) Y b->P (k (.tup [.ref r,p.ty]) b))(g:∀f b,cF S p=.no f->MR A s T Y b->P (eD f b)):P (aA n (.aL "Places" "taken") [.ref A.pl,.ref A.fr,.tup [.str "copy",p.enc]] H k):=by
 refine oE (su 1 d) λn aG=>?_;subst aG
 have h:p.Ok:=by
  clear q g;rcases hp with hp|rfl;·exact hp.Ok
  ·exact(by decide:6<9)
 erw[FK];erw[nE M.pl];erw[aK];refine FO (n3 d) W R M B h j (λl o z a m e t c=>?_) λf m e c=>g f _ (pL e) c;erw[jG];erw[nR c.pl];erw[aK];exact z8 (n3 d) W R c hp j e t (λvs u r hr i=>q vs _ r hr i) λu hr i=>g _ _ hr i
theorem KN(a:l=1\/l=3\/l=4):(cO.loc l).Sc/\l<9:=by rcases a with rfl|rfl|rfl<;>exact⟨⟨by decide,by decide,by decide⟩,by decide⟩
theorem ZO(u:11<=n)(W:WT S)(R:dK s S)(M:MR A s T Y H)(B:Md A Y)(g:l=1\/l=3\/l=4)(C:s.σ.length<=900)(q:∀vs h p r,cF S (.loc l)=.ok vs->h.length=s.σ.length->WT (bS S l [none])->dK (s.w h) (bS S l [none])->MR A (s.w h) ((r,.list vs)::T) Y p->P (k (.tup [.ref r,kO l]) p))(D:∀f p,cF S (.loc l)=.no f->MR A s T Y p->P (eD f p)):P (aA n (.aL "Places" "taken") [.ref A.pl,.ref A.fr,.tup [.str "move",cO.enc (.loc l)]] H k):=by
 refine oE (su 1 u) λn cB=>?_;subst cB;have i:(cO.loc l).Sc:=(KN g).1;erw[E1];erw[nE M.pl];erw[aK];refine FO (n3 u) W R M B i.Ok C (λx o z a G e m v=>?_) λf G e v=>D f _ (pL e) v;erw[jG];erw[nR v.pl];erw[aK];refine z8 (n3 u) W R v (.inl i) C e m (λvs F r hr y=>?_) λF hr y=>D _ _ hr y;erw[DV y.pl];erw[aK];clear D i;change bF S (.loc l)=_ at e;cases j:S l with
 |none=>delta bF at e;simp only[j]at e;cases e
 |some cs=>
  delta bF at e;simp only[j]at e;injection e with e1 I J;clear J;subst e1 I;have ok:=W.ok l (KN g).2 cs j;have t:∃c,cs=[c]/\jO c:=by clear q hr j m;rcases g with rfl|rfl|rfl<;>exact ok
  have d:(cO.loc l).ty=bH:=by clear q hr j m ok;rcases g with rfl|rfl|rfl<;>rfl
  have E:DU l [none]:=by clear q hr j m ok d;rcases g with rfl|rfl|rfl<;>exact⟨none,rfl,.inl rfl⟩
  refine aW t ?_;clear t;intro c aG O;clear ok;subst aG;have b:=R.room (KN g).2 j m;show P (aA n (.aL "Places" "leave") [.ref A.pl,Mi a 0,(cO.loc l).ty] F _);rwa[d];refine Q6 (n3 u) y b C λK L=>?_;have N:kO l=bH:=d;refine cM d ?_;exact q vs _ K r hr (by rwa[List.length_set];rfl) (W.upd E) (R.upd (cs:=[none]) (KN g).2 m (dN.mp b).1) L
theorem VT(h:11<=n)(W:WT S)(R:dK s S)(M:MR A s T Y H)(B:Md A Y)(hp:op.Ok)(m:s.σ.length<=900)(q:∀vs S' a g r,bI S op=(.ok vs,S')->a.length=s.σ.length->WT S'->dK (s.w a) S'->MR A (s.w a) ((r,.list vs)::T) Y g->P (k (.tup [.ref r,op.ty]) g))(o:∀f g,(bI S op).1=.no f->MR A s T Y g->P (eD f g)):P (aA n (.aL "Places" "taken") [.ref A.pl,.ref A.fr,op.enc] H k):=by
 have cst:∀t v,x_ t->bI S op=(.ok [v],S)->op.enc=.tup [.str "const",t,v]->op.ty=t->P (aA n (.aL "Places" "taken") [.ref A.pl,.ref A.fr,op.enc] H k):=λt v u e he x=>by refine oE (su 1 h) λn aG=>?_;subst aG;rwa[he];erw[tK];erw[d9 M.pl];refine C_ (n3 h) u M λc r d=>?_;refine cM x ?_;exact q [v] S s.σ c r e rfl W R d
 induction op using Lw.Op.casesOn with
 |ci i=>exact cst bH _ (.inl rfl) rfl rfl rfl
 |cb b=>exact cst Mh _ (.inr (.inl rfl)) rfl rfl rfl
 |cu j=>exact cst mT _ (.inr (.inr rfl)) rfl rfl rfl
 |cp p=>exact OA h W R M B hp m (λvs c r hr d=>q vs S s.σ c r (by show(cF S p,S)=_;rwa[hr];rfl) rfl W R d) λf c hr d=>o f c hr d
 |mv l=>exact ZO h W R M B hp m (λvs a c r hr y z C d=>q vs _ a c r (by show(match cF S (.loc l)with|.ok vs=>(Rd.ok vs,bS S l [none])|.no f=>(.no f,S))=_;rwa[hr];rfl) y z C d) λf c hr d=>o f c (by show(match cF S (.loc l)with|.ok vs=>(Rd.ok vs,bS S l [none])|.no f=>(.no f,S)).1=_;rwa[hr];rfl) d
end
theorem QM:aA (n+1) (.aL "Rvalues" "cells") [J,O,(.tup [(.str "use"),jM])] H k=gA J "places" H λb=>mO b "taken" H λa=>aJ (aA n) a b "taken" [O,jM] H λv3 H=>gI v3 (.int 0) H λv4=>k v4 H:=by kernel_rfl
theorem DO:aA (n+1) (.aL "Rvalues" "cells") [J,O,(.tup [(.str "binary"),zK,fE,eA])] H k=mO J "of_two" H λa=>aJ (aA n) a J "of_two" [O,(.tup [(.str "binary"),zK,fE,eA])] H λv2 H=>k v2 H:=by kernel_rfl
theorem P7:aA (n+1) (.aL "Rvalues" "cells") [J,O,(.tup [(.str "checked"),zK,fE,eA])] H k=mO J "of_two" H λa=>aJ (aA n) a J "of_two" [O,(.tup [(.str "checked"),zK,fE,eA])] H λv2 H=>k v2 H:=by kernel_rfl
theorem RI{a:V}:aA (n+1) (.aL "Rvalues" "cells") [J,O,(.tup [(.str "array"),a])] H k=mO J "made" H λb=>aJ (aA n) b J "made" [O,(.tup [(.str "array"),a])] H λv2 H=>k v2 H:=by kernel_rfl
theorem XG:aA (n+1) (.aL "Rvalues" "made") [J,O,(.tup [(.str "array"),(.tup [fE,eA,tL])])] H k=gD (.tup [fE,eA,tL]) (λv4 H a f=>gA J "places" H λe=>mO e "taken" H λc=>aJ (aA n) c e "taken" [O,v4] H λg H=>gI g (.int 0) H λd=>kF a d H f) H [] (λH b=>nw (.list b) H λh H=>(aA n) (.top "joined") [h] H λv3 H=>k v3 H):=by kernel_rfl
theorem BX:aA (n+1) (.aL "Rvalues" "of_two") [J,O,(.tup [(.str "binary"),(.str "+"),fE,eA])] H k=gA J "places" H λh=>mO h "taken" H λa=>aJ (aA n) a h "taken" [O,fE] H λv3 H=>gC v3 H λv4 j=>gA J "places" H λi=>mO i "taken" H λb=>aJ (aA n) b i "taken" [O,eA] H λl H=>gI l (.int 0) H λm=>gI v4 (.int 0) H λc=>gI m (.int 0) H λd=>(aA n) (.top "reckoned") [j,(.str "+"),c,d] H λe H=>gC e H λf o=>nw (.list [f]) H λg H=>k g H:=by kernel_rfl
theorem B_:aA (n+1) (.aL "Rvalues" "of_two") [J,O,(.tup [(.str "binary"),(.str "-"),fE,eA])] H k=gA J "places" H λh=>mO h "taken" H λa=>aJ (aA n) a h "taken" [O,fE] H λv3 H=>gC v3 H λv4 j=>gA J "places" H λi=>mO i "taken" H λb=>aJ (aA n) b i "taken" [O,eA] H λl H=>gI l (.int 0) H λm=>gI v4 (.int 0) H λc=>gI m (.int 0) H λd=>(aA n) (.top "reckoned") [j,(.str "-"),c,d] H λe H=>gC e H λf o=>nw (.list [f]) H λg H=>k g H:=by kernel_rfl
theorem CB:aA (n+1) (.aL "Rvalues" "of_two") [J,O,(.tup [(.str "binary"),(.str "*"),fE,eA])] H k=gA J "places" H λh=>mO h "taken" H λa=>aJ (aA n) a h "taken" [O,fE] H λv3 H=>gC v3 H λv4 j=>gA J "places" H λi=>mO i "taken" H λb=>aJ (aA n) b i "taken" [O,eA] H λl H=>gI l (.int 0) H λm=>gI v4 (.int 0) H λc=>gI m (.int 0) H λd=>(aA n) (.top "reckoned") [j,(.str "*"),c,d] H λe H=>gC e H λf o=>nw (.list [f]) H λg H=>k g H:=by kernel_rfl
theorem B8:aA (n+1) (.aL "Rvalues" "of_two") [J,O,(.tup [(.str "checked"),(.str "+"),fE,eA])] H k=gA J "places" H λi=>mO i "taken" H λa=>aJ (aA n) a i "taken" [O,fE] H λv3 H=>gC v3 H λv4 l=>gA J "places" H λj=>mO j "taken" H λb=>aJ (aA n) b j "taken" [O,eA] H λm H=>gI m (.int 0) H λo=>gI v4 (.int 0) H λc=>gI o (.int 0) H λd=>(aA n) (.top "reckoned") [l,(.str "+"),c,d] H λe H=>gC e H λf g=>nw (.list [f,g]) H λh H=>k h H:=by kernel_rfl
theorem B0:aA (n+1) (.aL "Rvalues" "of_two") [J,O,(.tup [(.str "checked"),(.str "-"),fE,eA])] H k=gA J "places" H λi=>mO i "taken" H λa=>aJ (aA n) a i "taken" [O,fE] H λv3 H=>gC v3 H λv4 l=>gA J "places" H λj=>mO j "taken" H λb=>aJ (aA n) b j "taken" [O,eA] H λm H=>gI m (.int 0) H λo=>gI v4 (.int 0) H λc=>gI o (.int 0) H λd=>(aA n) (.top "reckoned") [l,(.str "-"),c,d] H λe H=>gC e H λf g=>nw (.list [f,g]) H λh H=>k h H:=by kernel_rfl
theorem BV:aA (n+1) (.aL "Rvalues" "of_two") [J,O,(.tup [(.str "checked"),(.str "*"),fE,eA])] H k=gA J "places" H λi=>mO i "taken" H λa=>aJ (aA n) a i "taken" [O,fE] H λv3 H=>gC v3 H λv4 l=>gA J "places" H λj=>mO j "taken" H λb=>aJ (aA n) b j "taken" [O,eA] H λm H=>gI m (.int 0) H λo=>gI v4 (.int 0) H λc=>gI o (.int 0) H λd=>(aA n) (.top "reckoned") [l,(.str "*"),c,d] H λe H=>gC e H λf g=>nw (.list [f,g]) H λh H=>k h H:=by kernel_rfl
theorem R9:aA (n+1) (.aL "Rvalues" "of_two") [J,O,(.tup [(.str "binary"),(.str "<"),fE,eA])] H k=gA J "places" H λg=>mO g "taken" H λa=>aJ (aA n) a g "taken" [O,fE] H λv3 H=>gC v3 H λv4 l=>gA J "places" H λh=>mO h "taken" H λb=>aJ (aA n) b h "taken" [O,eA] H λi H=>gI i (.int 0) H λj=>gI v4 (.int 0) H λc=>gI j (.int 0) H λd=>(aA n) (.top "compared") [(.str "<"),c,d] H λe H=>nw (.list [e]) H λf H=>k f H:=by kernel_rfl
theorem F_two_eq:aA (n+1) (.aL "Rvalues" "of_two") [J,O,(.tup [(.str "binary"),(.str "=="),fE,eA])] H k=gA J "places" H λg=>mO g "taken" H λa=>aJ (aA n) a g "taken" [O,fE] H λv3 H=>gC v3 H λv4 l=>gA J "places" H λh=>mO h "taken" H λb=>aJ (aA n) b h "taken" [O,eA] H λi H=>gI i (.int 0) H λj=>gI v4 (.int 0) H λc=>gI j (.int 0) H λd=>(aA n) (.top "compared") [(.str "=="),c,d] H λe H=>nw (.list [e]) H λf H=>k f H:=by kernel_rfl
theorem P_:aA (n+1) (.aL "Rvalues" "of_two") [J,O,(.tup [(.str "binary"),(.str ">="),fE,eA])] H k=gA J "places" H λg=>mO g "taken" H λa=>aJ (aA n) a g "taken" [O,fE] H λv3 H=>gC v3 H λv4 l=>gA J "places" H λh=>mO h "taken" H λb=>aJ (aA n) b h "taken" [O,eA] H λi H=>gI i (.int 0) H λj=>gI v4 (.int 0) H λc=>gI j (.int 0) H λd=>(aA n) (.top "compared") [(.str ">="),c,d] H λe H=>nw (.list [e]) H λf H=>k f H:=by kernel_rfl
theorem JF:aA (n+1) (.top "reckoned") [bH,zK,fE,eA] H k=(aA n) (.top "checked") [(.str "i8"),zK,fE,eA] H λa H=>gC a H λv2 v3=>cP .Is v2 .none H λb=>iT b (.exc "MachineFault" "division" H) (k (.tup [v2,v3]) H):=by kernel_rfl
theorem RQ:aA (n+1) (.top "joined") [mW] H k=nw (.list []) H λg H=>f7 mW (λv2 a H h=>gL "found" (aB "row" v2 a) λf=>mO f "extend" H λc=>gL "row" (aB "row" v2 a) λi=>aJ (aA n) c f "extend" [i] H λj H=>h .next (aB "row" v2 a) H) [("rows",mW),("found",g)] H (sq (λb H d=>gL "found" b λe=>d (.ret e) b H) (fin k)):=by kernel_rfl
theorem QX{b c d e:V}:c9 src (λv2 a H p=>gL "found" (aB "row" v2 a) λo=>mO o "extend" H λj=>gL "row" (aB "row" v2 a) λq=>aJ (aA n) j o "extend" [q] H λu H=>p .next (aB "row" v2 a) H) [c,d,e] [("rows",mW),("found",b)] H (sq (λf H l=>gL "found" f λm=>l (.ret m) f H) (fin k))=sI src H (mO b "extend" H λg=>aJ (aA n) g b "extend" [c] H λr H=>sI src H (mO b "extend" H λh=>aJ (aA n) h b "extend" [d] H λs H=>sI src H (mO b "extend" H λi=>aJ (aA n) i b "extend" [e] H λt H=>sI src H (k b H)))):=by kernel_rfl
abbrev Ll(n:Nat)(a:Kd)(d O eA:V)(H:VH)(J tL e:V)(k:Kv):Res:=aJ (aA n) a d "taken" [O,eA] H λf H=>gI f (.int 0) H λg=>gA J "places" H λb=>mO b "taken" H λc=>aJ (aA n) c b "taken" [O,tL] H λh H=>gI h (.int 0) H λi=>nw (.list [e,g,i]) H λj H=>(aA n) (.top "joined") [j] H λl H=>k l H
theorem YM:gD (.tup [fE,eA,tL]) (λl H a k3=>gA J "places" H λv4=>mO v4 "taken" H λg=>aJ (aA n) g v4 "taken" [O,l] H λm H=>gI m (.int 0) H λo=>kF a o H k3) H [] (λH b=>nw (.list b) H λp H=>(aA n) (.top "joined") [p] H λh H=>k h H)=gA J "places" H λc=>mO c "taken" H λd=>aJ (aA n) d c "taken" [O,fE] H λi H=>gI i (.int 0) H λj=>gA J "places" H λe=>mO e "taken" H λf=>Ll n f e O eA H J tL j k:=by kernel_rfl
theorem B5:aA (n+1) (.top "checked") [(.str "i8"),(.str "+"),fE,eA] H k=(aA n) (.top "exact") [(.str "+"),fE,eA] H λa H=>cP .Is a .none H λb=>iT b (k (.tup [.none,(.bool false)]) H) ((aA n) (.top "wrapped") [(.str "i8"),a] H λv3 H=>(aA n) (.top "fits") [(.str "i8"),a] H λv4 H=>tV v4 λc=>k (.tup [v3,(.bool (!c))]) H):=by kernel_rfl
theorem BP:aA (n+1) (.top "checked") [(.str "i8"),(.str "-"),fE,eA] H k=(aA n) (.top "exact") [(.str "-"),fE,eA] H λa H=>cP .Is a .none H λb=>iT b (k (.tup [.none,(.bool false)]) H) ((aA n) (.top "wrapped") [(.str "i8"),a] H λv3 H=>(aA n) (.top "fits") [(.str "i8"),a] H λv4 H=>tV v4 λc=>k (.tup [v3,(.bool (!c))]) H):=by kernel_rfl
theorem B6:aA (n+1) (.top "checked") [(.str "i8"),(.str "*"),fE,eA] H k=(aA n) (.top "exact") [(.str "*"),fE,eA] H λa H=>cP .Is a .none H λb=>iT b (k (.tup [.none,(.bool false)]) H) ((aA n) (.top "wrapped") [(.str "i8"),a] H λv3 H=>(aA n) (.top "fits") [(.str "i8"),a] H λv4 H=>tV v4 λc=>k (.tup [v3,(.bool (!c))]) H):=by kernel_rfl
theorem GW:aA (n+1) (.aL "Machine" "do_statement") [J,O,(.tup [(.str "assign"),oM,AU])] H k=gA J "rvalues" H λd=>mO d "cells" H λb=>aJ (aA n) b d "cells" [O,AU] H λv3 H=>gA J "places" H λv4=>mO v4 "spot_of" H λc=>aJ (aA n) c v4 "spot_of" [O,oM] H λf H=>gC f H λg i=>gA J "memory" H λe=>mO e "write_all" H λa=>aJ (aA n) a e "write_all" [g,v3] H λh H=>k .none H:=by kernel_rfl
theorem OY:aA (n+1) (.aL "Machine" "do_statement") [J,O,(.tup [(.str "live"),m8])] H k=mO J "make_home" H λa=>aJ (aA n) a J "make_home" [O,m8] H λv2 H=>k .none H:=by kernel_rfl
theorem LY:aA (n+1) (.aL "Machine" "do_statement") [J,O,(.tup [(.str "dead"),m8])] H k=mO J "give_back" H λa=>aJ (aA n) a J "give_back" [O,m8] H λv2 H=>k .none H:=by kernel_rfl
theorem KS:aA (n+1) (.aL "Machine" "do_statement") [J,O,(.tup [(.str "print"),jM])] H k=gA J "places" H λd=>mO d "taken" H λa=>aJ (aA n) a d "taken" [O,jM] H λv3 H=>gC v3 H λv4 f=>gA J "prints" H λe=>mO e "append" H λb=>gA J "world" H λg=>gA J "memory" H λh=>(aA n) (.top "told_value") [f,v4,g,h] H λc H=>aJ (aA n) b e "append" [c] H λi H=>k .none H:=by kernel_rfl
theorem JW:aA (n+1) (.aL "Machine" "do_terminator") [J,O,(.tup [(.str "goto"),j9])] H k=mO O "go" H λa=>aJ (aA n) a O "go" [j9] H λv2 H=>k .none H:=by kernel_rfl
theorem u0:aA (n+1) (.aL "Machine" "do_terminator") [J,O,(.tup [(.str "switch"),jM,AU,j9])] H k=mO J "do_switch" H λa=>aJ (aA n) a J "do_switch" [O,(.tup [(.str "switch"),jM,AU,j9])] H λv2 H=>k .none H:=by kernel_rfl
theorem E0:aA (n+1) (.aL "Machine" "do_terminator") [J,O,(.tup [(.str "return")])] H k=mO J "leave" H λa=>aJ (aA n) a J "leave" [O] H λv2 H=>k .none H:=by kernel_rfl
theorem EG:aA (n+1) (.aL "Machine" "do_terminator") [J,O,(.tup [(.str "assert"),jM,IS,qR,j9])] H k=mO J "do_assert" H λa=>aJ (aA n) a J "do_assert" [O,(.tup [(.str "assert"),jM,IS,qR,j9])] H λv2 H=>k .none H:=by kernel_rfl
theorem HC:aA (n+1) (.aL "Machine" "do_terminator") [J,O,(.tup [(.str "panic"),qR])] H k=Ls J "outcome" (.tup [(.str "panic"),qR]) H λH=>k .none H:=by kernel_rfl
theorem CH:aA (n+1) (.aL "Machine" "do_terminator") [J,O,(.tup [(.str "unreachable")])] H k=
 .exc "MachineFault" "unreachable" H:=by kernel_rfl
theorem OG:aA (n+1) (.aL "Machine" "do_switch") [J,O,(.tup [(.str "switch"),jM,(.tup [(.tup [tS,j9])]),qP])] H k=gA J "places" H λe=>mO e "taken" H λb=>aJ (aA n) b e "taken" [O,jM] H λv3 H=>gI v3 (.int 0) H λv4=>gI v4 (.int 0) H λf=>cP .Eq tS f H λg=>iT g (cP .Is j9 .none H λh=>iT h (.exc "MachineFault" "unreachable" H) (mO O "go" H λc=>aJ (aA n) c O "go" [j9] H λj H=>k .none H)) (cP .Is qP .none H λd=>iT d (.exc "MachineFault" "unreachable" H) (mO O "go" H λa=>aJ (aA n) a O "go" [qP] H λi H=>k .none H)):=by kernel_rfl
abbrev Kt(i:Bool)(j9:V)(H:VH)(O:V)(n:Nat)(k:Kv)(d j a qP:V):Res:=iT i (cP .Is j9 .none H λl=>iT l (.exc "MachineFault" "unreachable" H) (mO O "go" H λe=>aJ (aA n) e O "go" [j9] H λp H=>k .none H)) (cP .Eq d j H λf=>iT f (cP .Is a .none H λg=>iT g (.exc "MachineFault" "unreachable" H) (mO O "go" H λb=>aJ (aA n) b O "go" [a] H λm H=>k .none H)) (cP .Is qP .none H λh=>iT h (.exc "MachineFault" "unreachable" H) (mO O "go" H λc=>aJ (aA n) c O "go" [qP] H λo H=>k .none H)))
theorem NE{a b:V}:aA (n+1) (.aL "Machine" "do_switch") [J,O,(.tup [(.str "switch"),jM,(.tup [(.tup [tS,j9]),(.tup [a,b])]),qP])] H k=gA J "places" H λd=>mO d "taken" H λc=>aJ (aA n) c d "taken" [O,jM] H λv3 H=>gI v3 (.int 0) H λv4=>gI v4 (.int 0) H λe=>cP .Eq tS e H λf=>Kt f j9 H O n k a e b qP:=by kernel_rfl
theorem Q2:aA (n+1) (.aL "Machine" "do_assert") [J,O,(.tup [(.str "assert"),jM,IS,qR,j9])] H k=gA J "places" H λc=>mO c "taken" H λa=>aJ (aA n) a c "taken" [O,jM] H λv3 H=>gI v3 (.int 0) H λv4=>gI v4 (.int 0) H λd=>cP .Eq d IS H λe=>iT e (mO O "go" H λb=>aJ (aA n) b O "go" [j9] H λf H=>k .none H) (Ls J "outcome" (.tup [(.str "panic"),qR]) H λH=>k .none H):=by kernel_rfl
theorem tZ{a:V}:aA (n+1) (.aL "Machine" "make_home") [J,O,a] H k=mO J "give_back" H λb=>aJ (aA n) b J "give_back" [O,a] H λv2 H=>gA J "memory" H λv3=>mO v3 "allocate" H λc=>gA O "body" H λg=>gA g "locals" H λh=>gI h a H λi=>gI i (.int 0) H λj=>gA J "world" H λl=>(aA n) (.top "size_of") [j,l] H λd H=>aJ (aA n) c v3 "allocate" [d] H λe H=>gA O "homes" H λf=>Mc f a e H λH=>k .none H:=by kernel_rfl
theorem tY{a:V}:aA (n+1) (.aL "Machine" "give_back") [J,O,a] H k=gA O "homes" H λe=>cP .In a e H λf=>iT f (gA J "memory" H λv3=>mO v3 "free" H λb=>gA O "homes" H λd=>mO d "pop" H λc=>aJ (aA n) c d "pop" [a] H λg H=>aJ (aA n) b v3 "free" [g] H λh H=>k .none H) (k .none H):=by kernel_rfl
theorem KP{a:V}:aA (n+1) (.aL "Frame" "go") [J,a] H k=Ls J "block" a H λH=>Ls J "index" (.int 0) H λH=>k .none H:=by kernel_rfl
abbrev Kc(J:V)(H:VH)(f:V)(n:Nat)(k:Kv):Res:=mO J "enter" H λa=>gI f (.int 0) H λb=>gI f (.int 1) H λc=>nw (.list [c]) H λd H=>nw (.list [d]) H λe H=>aJ (aA n) a J "enter" [b,e,.none,.none] H λg H=>k .none H
abbrev Kw(J:V)(H:VH)(O:V)(n:Nat)(k:Kv):Res:=gA J "glue" H λv4=>mO v4 "step" H λa=>gA O "jobs" H λc=>aJ (aA n) a v4 "step" [c] H λb H=>cP .IsNot b .none H λd=>iT d (Kc J H b n k) (k .none H)
abbrev Ki(O:V)(H:VH)(J b:V)(n:Nat)(k:Kv):Res:=gA O "index" H λc=>iZ .Add c (.int 1) λd=>Ls O "index" d H λH=>mO J "do_statement" H λa=>gA O "index" H λe=>Lv .Sub e (.int 1) H λf H=>gI b f H λg=>aJ (aA n) a J "do_statement" [O,g] H λh H=>k .none H
abbrev Le(c d:V)(H:VH)(O J:V)(n:Nat)(k:Kv):Res:=gI c d H λe=>gC e H λa f=>gA O "index" H λg=>aT (.bi "len") [a] H λh H=>cP .Lt g h H λi=>iT i (Ki O H J a n k) (mO J "do_terminator" H λb=>aJ (aA n) b J "do_terminator" [O,f] H λj H=>k .none H)
abbrev Ln(O:V)(H:VH)(J:V)(n:Nat)(k:Kv):Res:=gA O "body" H λa=>gA a "blocks" H λb=>gA O "block" H λc=>Le b c H O J n k
theorem sE:aA (n+1) (.aL "Machine" "step") [J,O] H k=gA O "jobs" H λa=>nw (.list []) H λv2 H=>cP .NotEq a v2 H λb=>iT b (Kw J H O n k) (Ln O H J n k):=by kernel_rfl
abbrev Kh(a:Loc)(H:VH)(n:Nat)(b:V)(c:Kf):Res:=gL "cells" a λd=>gL "self" a λe=>gA e "world" H λf=>gL "self" a λg=>gA g "memory" H λh=>(aA n) (.top "told_value") [b,d,f,h] H λi H=>gL "self" a λj=>Ls j "outcome" (.tup [(.str "done"),i]) H λH=>c (.ret .none) a H
abbrev Kr(a:Loc)(H:VH)(n:Nat)(d:Kf):Res:=gL "self" a λe=>gA e "frames" H λf=>gI f (.int (-1)) H λb=>mO b "go" H λc=>gL "frame" a λg=>gA g "after" H λh=>aJ (aA n) c b "go" [h] H λi H=>d .next a H
abbrev It(c:V)(H:VH)(a:Loc)(n:Nat)(b:Kd)(d:V)(e:Kf):Res:=gA c "target" H λf=>gI f (.int 0) H λg=>gL "cells" a λh=>aJ (aA n) b d "write_all" [g,h] H λl H=>gL "frame" a λi=>gA i "after" H λj=>cP .Is j .none H λk=>iT k (.exc "MachineFault" "unreachable" H) (Kr a H n e)
abbrev Gz(a:Loc)(H:VH)(n:Nat)(d:Kf):Res:=gL "self" a λe=>gA e "memory" H λb=>mO b "write_all" H λc=>gL "frame" a λf=>It f H a n c b d
abbrev Hb(a:Loc)(H:VH)(n:Nat)(b:Kf):Res:=gL "frame" a λc=>gA c "target" H λd=>cP .IsNot d .none H λe=>iT e (Gz a H n b) (b .next a H)
abbrev Iq(n:Nat)(b:Kd)(d:V)(H:VH)(a:Loc)(c:Kf):Res:=aJ (aA n) b d "pop" [] H λj H=>gL "self" a λe=>gA e "frames" H λf=>nw (.list []) H λg H=>cP .Eq f g H λh=>iT h (gL "t" a λi=>Kh a H n i c) (Hb a H n c)
abbrev Jb(h:V)(n:Nat)(J O v4 i:V)(H:VH)(k:Kv):Res:=f7 h (λc a H j=>gL "self" (aB "local" c a) λd=>mO d "give_back" H λe=>gL "frame" (aB "local" c a) λl=>gL "local" (aB "local" c a) λm=>aJ (aA n) e d "give_back" [l,m] H λq H=>j .next (aB "local" c a) H) [("self",J),("frame",O),("t",v4),("cells",i)] H (sq (λb H o=>gL "self" b λp=>gA p "frames" H λf=>mO f "pop" H λg=>Iq n g f H b o) (fin k))
abbrev Gv(f:V)(H:VH)(J:V)(n:Nat)(O v4:V)(k:Kv):Res:=mO f "read" H λa=>gA J "places" H λg=>mO g "home_of" H λb=>aJ (aA n) b g "home_of" [O,(.int 0)] H λh H=>aJ (aA n) a f "read" [h,v4] H λc H=>gA O "homes" H λd=>aT (.bi "sorted") [d] H λe H=>Jb e n J O v4 c H k
theorem zF:aA (n+1) (.aL "Machine" "leave") [J,O] H k=gA O "body" H λa=>gA a "locals" H λv2=>gI v2 (.int 0) H λv3=>gI v3 (.int 0) H λv4=>gA J "places" H λb=>Gv b H J n O v4 k:=by kernel_rfl
theorem oN:aA (n+1) (.aL "Machine" "body_of") [J,hJ] H k=gA J "program" H λa=>cP .NotIn hJ a H λb=>iT b (Lv .Add (.str "nothing is called ") hJ H λv3 H=>rs "MachineFault" "missing" v3 H) (gA J "program" H λv4=>gI v4 hJ H λc=>k c H):=by kernel_rfl
abbrev Fz(b:V)(a:Loc)(H:VH)(f:Kf):Res:=gL "found" (aB "statement" b a) λc=>gL "statement" (aB "statement" b a) λd=>gI d (.int 1) H λe=>Mc c e (.bool true) H λH=>f .next (aB "statement" b a) H
abbrev Ge(v2:V)(H:VH)(b:Loc)(l:Kf):Res:=gC v2 H λh i=>gL "statements" (aB "terminator" i (aB "statements" h b)) λc=>f7 c (λd a H j=>gL "statement" (aB "statement" d a) λe=>gI e (.int 0) H λf=>cP .Eq f (.str "live") H λg=>iT g (Fz d a H j) (j .next (aB "statement" d a) H)) (aB "terminator" i (aB "statements" h b)) H (sq (λloc H k=>k .next loc H) (l))
theorem GZ:aA (n+1) (.top "told_live") [fJ] H k=nw (.dict []) H λf H=>gA fJ "blocks" H λc=>f7 c (λv2 b H g=>Ge v2 H b g) [("body",fJ),("found",f)] H (sq (λa H d=>gL "found" a λe=>d (.ret e) a H) (fin k)):=by kernel_rfl
abbrev Ji(b:V)(a:Loc)(H:VH)(n:Nat)(e:Kf):Res:=gL "self" (aB "local" b a) λc=>mO c "make_home" H λd=>gL "frame" (aB "local" b a) λf=>gL "local" (aB "local" b a) λg=>aJ (aA n) d c "make_home" [f,g] H λh H=>e .next (aB "local" b a) H
abbrev Hl(b:V)(a:Loc)(H:VH)(n:Nat)(c:Kd)(e:V)(d:Kd)(f:V)(g:Kf):Res:=gL "frame" (aB "k" b a) λh=>gL "k" (aB "k" b a) λi=>Lv .Add i (.int 1) H λj H=>aJ (aA n) c e "home_of" [h,j] H λk H=>gL "rows" (aB "k" b a) λl=>gL "k" (aB "k" b a) λm=>gI l m H λo=>aJ (aA n) d f "write_all" [k,o] H λp H=>g .next (aB "k" b a) H
abbrev Jx(k:V)(n:Nat)(c:Loc)(H:VH)(l:Kf):Res:=f7 k (λd a H m=>gL "self" (aB "k" d a) λo=>gA o "memory" H λe=>mO e "write_all" H λf=>gL "self" (aB "k" d a) λp=>gA p "places" H λg=>mO g "home_of" H λh=>Hl d a H n h g f e m) c H (sq (λb H q=>gL "self" b λr=>gA r "frames" H λi=>mO i "append" H λj=>gL "frame" b λs=>aJ (aA n) j i "append" [s] H λt H=>q .next b H) (l))
abbrev Hw(f:V)(n:Nat)(d:Loc)(H:VH)(g:Kf):Res:=f7 f (λb a H e=>gL "local" (aB "local" b a) λh=>gL "self" (aB "local" b a) λi=>gA i "late" H λj=>gL "key" (aB "local" b a) λk=>gI j k H λl=>cP .NotIn h l H λm=>iT m (Ji b a H n e) (e .next (aB "local" b a) H)) d H (sq (λc H o=>gL "rows" c λp=>aT (.bi "len") [p] H λq H=>aT (.typ "range") [q] H λr H=>Jx r n c H o) (g))
abbrev Ig(J:V)(H:VH)(hJ v3:V)(n:Nat)(mW a b:V)(k:Kv):Res:=(λj:Kf=>gA J "late" H λl=>cP .NotIn hJ l H λm=>iT m (gA v3 "body" H λo=>(aA n) (.top "told_live") [o] H λp H=>gA J "late" H λq=>Mc q hJ p H λH=>j .next [("self",J),("key",hJ),("rows",mW),("target",a),("after",b),("frame",v3)] H) (j .next [("self",J),("key",hJ),("rows",mW),("target",a),("after",b),("frame",v3)] H)) (sq (λc H d=>gL "frame" c λe=>gA e "body" H λf=>gA f "locals" H λg=>aT (.bi "len") [g] H λh H=>aT (.typ "range") [h] H λi H=>Hw i n c H d) (fin k))
theorem yI{a b:V}:aA (n+1) (.aL "Machine" "enter") [J,hJ,mW,a,b] H k=mO J "body_of" H λc=>aJ (aA n) c J "body_of" [hJ] H λv2 H=>eL (aA n) "Frame" [v2,a,b] H λv3 H=>Ig J H hJ v3 n mW a b k:=by kernel_rfl
abbrev Gx(v2:V)(H:VH)(b J:V)(n:Nat)(a:List V)(c:VH->List V->Res):Res:=gA v2 "locals" H λd=>Lv .Add b (.int 1) H λe H=>gI d e H λf=>gI f (.int 0) H λg=>gA J "inputs" H λh=>gI h b H λi=>gA J "world" H λj=>(aA n) (.top "cells_of") [g,i,j] H λk H=>kF a k H c
abbrev Iv(d e:V)(H:VH)(a:Loc)(n:Nat)(f:Kf):Res:=iZ .Sub d (.int 1) λg=>Ls e "fuel" g H λH=>gL "self" a λb=>mO b "step" H λc=>gL "self" a λh=>gA h "frames" H λi=>gI i (.int (-1)) H λj=>aJ (aA n) c b "step" [j] H λk H=>f .next a H
abbrev Gp(n:Nat)(J hJ v2 u:V)(H:VH)(k:Kv):Res:=kG (λc H e=>gL "self" c λf=>gA f "outcome" H λg=>cP .Is g .none H λh=>e h H) (λa H i=>gL "self" a λj=>gA j "fuel" H λl=>cP .LtE l (.int 0) H λm=>iT m (.exc "FuelFault" "" H) (gL "self" a λd=>gA d "fuel" H λo=>Iv o d H a n i)) 100 [("self",J),("key",hJ),("body",v2),("rows",u)] H (sq (λb H p=>gL "self" b λq=>gA q "outcome" H λr=>gL "self" b λs=>gA s "prints" H λt=>p (.ret (.tup [r,t])) b H) (fin k))
abbrev Hk(v4:V)(H:VH)(v2 J:V)(n:Nat)(hJ:V)(k:Kv):Res:=aT (.typ "range") [v4] H λg H=>gD g (λc H a d=>Gx v2 H c J n a d) H [] (λH b=>nw (.list b) H λf H=>mO J "enter" H λe=>aJ (aA n) e J "enter" [hJ,f,.none,.none] H λh H=>Gp n J hJ v2 f H k)
theorem CA:aA (n+1) (.aL "Machine" "run") [J,hJ] H k=mO J "body_of" H λa=>aJ (aA n) a J "body_of" [hJ] H λv2 H=>gA v2 "arg_count" H λv4=>Hk v4 H v2 J n hJ k:=by kernel_rfl
abbrev Gu(J b:V)(H:VH)(k:Kv):Res:=Ls J "glue" b H λH=>nw (.dict []) H λc H=>Ls J "late" c H λH=>nw (.list []) H λd H=>Ls J "frames" d H λH=>nw (.list []) H λa H=>Ls J "prints" a H λH=>Ls J "outcome" .none H λH=>k .none H
abbrev Gq(n:Nat)(v2 cD:V)(H:VH)(J:V)(k:Kv):Res:=eL (aA n) "Places" [v2,cD] H λv3 H=>Ls J "places" v3 H λH=>gA J "places" H λv4=>eL (aA n) "Rvalues" [v4] H λa H=>Ls J "rvalues" a H λH=>gA J "places" H λb=>eL (aA n) "DropGlue" [b] H λc H=>Gu J c H k
theorem BQ{a b:V}:aA (n+1) (.aL "Machine" "__init__") [J,a,cD,b,hH] H k=Ls J "program" a H λH=>Ls J "world" cD H λH=>Ls J "inputs" b H λH=>Ls J "fuel" hH H λH=>eL (aA n) "Memory" [] H λc H=>Ls J "memory" c H λH=>gA J "memory" H λv2=>Gq n v2 cD H J k:=by kernel_rfl
theorem GV{a b:V}:aA (n+1) (.aL "Frame" "__init__") [J,fJ,a,b] H k=Ls J "body" fJ H λH=>Ls J "target" a H λH=>Ls J "after" b H λH=>nw (.dict []) H λc H=>Ls J "homes" c H λH=>Ls J "block" (.int 0) H λH=>Ls J "index" (.int 0) H λH=>nw (.list []) H λv2 H=>Ls J "jobs" v2 H λH=>k .none H:=by kernel_rfl
theorem FP:aA (n+1) (.aL "Memory" "__init__") [J] H k=nw (.list []) H λa H=>Ls J "allocations" a H λH=>Ls J "tags" (.int 0) H λH=>k .none H:=by kernel_rfl
theorem E4{a:V}:aA (n+1) (.aL "Places" "__init__") [J,a,cD] H k=Ls J "memory" a H λH=>Ls J "world" cD H λH=>k .none H:=by kernel_rfl
theorem BS{a:V}:aA (n+1) (.aL "Rvalues" "__init__") [J,a] H k=Ls J "places" a H λH=>gA a "world" H λb=>Ls J "world" b H λH=>k .none H:=by kernel_rfl
theorem AF{a:V}:aA (n+1) (.aL "DropGlue" "__init__") [J,a] H k=Ls J "places" a H λH=>gA a "world" H λb=>Ls J "world" b H λH=>k .none H:=by kernel_rfl
abbrev Ia(H:VH)(J:V)(k:Kv):Res:=nw (.dict []) H λv4 H=>Ls J "traits" v4 H λH=>nw (.list []) H λa H=>Ls J "impls" a H λH=>nw (.dict []) H λb H=>Ls J "consts" b H λH=>nw (.dict []) H λc H=>Ls J "bodies" c H λH=>k .none H
theorem G9{a:V}:aA (n+1) (.aL "World" "__init__") [J,a] H k=Ls J "modules" a H λH=>nw (.dict []) H λb H=>Ls J "adts" b H λH=>nw (.dict []) H λv2 H=>Ls J "variants" v2 H λH=>nw (.dict []) H λv3 H=>Ls J "sigs" v3 H λH=>Ia H J k:=by kernel_rfl
theorem Dm(c:1<=n){a:Int}:aA n (.top "exact") [.str "+",.int a,.int b] H k=k (.int (a+b)) H:=by refine oE (su 1 c) λm aG=>?_;clear c;subst aG;kernel_rfl
theorem Cj(c:1<=n){a:Int}:aA n (.top "exact") [.str "-",.int a,.int b] H k=k (.int (a-b)) H:=by refine oE (su 1 c) λm aG=>?_;clear c;subst aG;kernel_rfl
theorem Cb(c:1<=n){a:Int}:aA n (.top "exact") [.str "*",.int a,.int b] H k=Lv .Mult (.int a) (.int b) H k:=by refine oE (su 1 c) λm aG=>?_;clear c;subst aG;kernel_rfl
theorem OK(a:3<=n){x:Int}:aA n (.top "wrapped") [.str "i8",.int x] H k=k (.int (-128+(x- -128)%256)) H:=by refine oE (su 3 a) λm aG=>?_;clear a;subst aG;kernel_rfl
theorem Aq(a:3<=n){x:Int}:aA n (.top "fits") [.str "i8",.int x] H k=iT (decide ((-128:Int)<=x)) (k (.bool (decide (x<=127))) H) (k (.bool false) H):=by refine oE (su 3 a) λm aG=>?_;clear a;subst aG;kernel_rfl
theorem Hz(c:1<=n){a:Int}:aA n (.top "compared") [.str "<",.int a,.int b] H k=k (.bool (decide (a<b))) H:=by refine oE (su 1 c) λm aG=>?_;clear c;subst aG;kernel_rfl
theorem x_eq(c:1<=n){a:Int}:aA n (.top "compared") [.str "==",.int a,.int b] H k=k (.bool (decide (a=b))) H:=by refine oE (su 1 c) λm aG=>?_;clear c;subst aG;kernel_rfl
theorem Ii(c:1<=n){a:Int}:aA n (.top "compared") [.str ">=",.int a,.int b] H k=k (.bool (decide (a>=b))) H:=by refine oE (su 1 c) λm aG=>?_;clear c;subst aG;kernel_rfl
def Op.Num:Op->Prop
 |.ci i=>-128<=i/\i<=127
 |.cp (.loc l)=>1<=l/\l<=4
 |.cp (.fld 0)=>True
 |.cp .idx=>True
 |_=>False
def Op.pI:Op->Prop
 |.cb _=>True
 |.cp (.loc 5)=>True
 |.cp (.fld 1)=>True
 |_=>False
@[elab_as_elim]theorem Op.Num.el{o:Op}(h:o.Num)(d:∀i:Int,-128<=i/\i<=127->C (.ci i))(a:∀p:cO,p.Sc->p.ty=bH->(∀c,p.tQ c->jO c)->C (.cp p)):C o:=by
 induction o using Lw.Op.casesOn with
 |ci i=>exact d i h
 |cb b=>cases h
 |cu j=>cases h
 |mv l=>cases h
 |cp p=>induction p using Lw.cO.casesOn with
  |loc l=>have h':1<=l/\l<=4:=h;refine a _ ⟨by lia,by lia,by lia⟩ ?_ ?_<;>(clear h;rcases(show l=1\/l=2\/l=3\/l=4 by lia)with rfl|rfl|rfl|rfl)<;>first|rfl|exactλz9 h=>h
  |fld j=>induction j using Nat.casesOn with
   |zero=>exact a _ (show 0<2 by decide) rfl λz9 h=>h
   |succ j=>cases h
  |idx=>exact a _ trivial rfl λz9 h=>h
@[elab_as_elim]theorem Op.pI.el{o:Op}(h:o.pI)(d:∀b:Bool,C (.cb b))(a:∀p:cO,p.Sc->(∀c,p.tQ c->j_ c)->C (.cp p)):C o:=by
 induction o using Lw.Op.casesOn with
 |ci i=>cases h
 |cb b=>exact d b
 |cu j=>cases h
 |mv l=>cases h
 |cp p=>induction p using Lw.cO.casesOn with
  |loc l=>rcases l with _|_|_|_|_|_|l;all_goals first|exact h.elim|exact a _ ⟨by decide,by decide,by decide⟩ λz9 h=>h
  |fld j=>rcases j with _|_|j;all_goals first|exact h.elim|exact a _ (show 1<2 by decide) λz9 h=>h
  |idx=>cases h
theorem Op.Num.Ok{o:Op}(h:o.Num):o.Ok:=h.el (λi h=>h) λp h z9 z9=>.inl h
theorem Op.Num.ty{o:Op}(h:o.Num):o.ty=bH:=h.el (λi z9=>rfl) λp z9 h z9=>h
theorem Op.pI.Ok{o:Op}(h:o.pI):o.Ok:=h.el (λb=>trivial) λp h z9=>.inl h
theorem nX(W:WT S)(hp:p.Sc)(e:cF S p=.ok vs):∃v,vs=[v]/\p.tQ (some v):=by
 cases a:bF S p with
 |no f=>rw[pL a]at e;cases e
 |ok l o z=>
  refine gB (vW W hp a) λj g b=>?_;refine gX b ?_;clear b;intro cs c h i k d;refine oA d ?_;clear d;intro ok _;rw[IR a g h i]at e
  induction c using Option.casesOn with
  |none=>cases e
  |some v=>injection e with e;exact⟨v,e.symm,ok⟩
theorem Op.Num.val{o:Op}(W:WT S)(h:o.Num):(bI S o).1=.ok vs->∃i:Int,vs=[.int i]/\-128<=i/\i<=127:=h.el (λi h e=>by injection e with e;exact⟨i,e.symm,h⟩) λp hs z9 b e=>by
 refine aW (nX W hs e) λv aG a=>?_;clear e;subst aG;rcases b _ a with h|⟨i,h,c⟩;·exact wR h
 ·clear a;have d:=aM h;subst d;exact⟨i,rfl,c⟩
theorem Op.pI.val{o:Op}(W:WT S)(h:o.pI):(bI S o).1=.ok vs->∃b:Bool,vs=[.bool b]:=h.el (λb e=>by injection e with e;exact⟨b,e.symm⟩) λp hs c e=>by
 refine aW (nX W hs e) λv aG a=>?_;clear e;subst aG;rcases c _ a with h|⟨b,h⟩;·exact wR h
 ·clear a;have d:=aM h;subst d;exact⟨b,rfl⟩
theorem sL{o:Op}{S:St}(h:o.Num\/o.pI):(bI S o).2=S:=by
 cases o with
 |mv l=>rcases h with h|h<;>cases h
 |_=>rfl
def Op.NT(o:Op):Prop:=∀l,o≠.mv l
theorem Op.Num.nt{o:Op}(h:o.Num):o.NT:=by intro l e;subst e;cases h
theorem Op.pI.nt{o:Op}(h:o.pI):o.NT:=by intro l e;subst e;cases h
section
variable{F:List (Nat×VO)}{l:Nat}{t w:V}{o:Op}
theorem FH(g:11<=n)(W:WT S)(R:dK s S)(M:MR A s T Y H)(B:Md A Y)(hp:o.Ok)(hm:o.NT)(h:s.σ.length<=900)(q:∀vs a r,(bI S o).1=.ok vs->MR A s ((r,.list vs)::T) Y a->P (k (.tup [.ref r,o.ty]) a))(m:∀f a,(bI S o).1=.no f->MR A s T Y a->P (eD f a)):P (aA n (.aL "Places" "taken") [.ref A.pl,.ref A.fr,o.enc] H k):=by
 have cst:∀t v,x_ t->(bI S o).1=.ok [v]->o.enc=.tup [.str "const",t,v]->o.ty=t->P (aA n (.aL "Places" "taken") [.ref A.pl,.ref A.fr,o.enc] H k):=λt v u e he w=>by refine oE (su 1 g) λn aG=>?_;subst aG;rwa[he];erw[tK];erw[d9 M.pl];refine C_ (n3 g) u M λc r d=>?_;refine cM w ?_;exact q [v] c r e d
 induction o using Lw.Op.casesOn with
 |ci i=>exact cst bH _ (.inl rfl) rfl rfl rfl
 |cb b=>exact cst Mh _ (.inr (.inl rfl)) rfl rfl rfl
 |cu j=>exact cst mT _ (.inr (.inr rfl)) rfl rfl rfl
 |cp p=>exact OA g W R M B hp h (λvs c r hr d=>q vs c r hr d) λf c hr d=>m f c hr d
 |mv l=>exact aV rfl (hm l)
theorem vY(b:11<=n)(W:WT S)(R:dK s S)(M:MR A s T Y H)(B:Md A Y)(hp:o.Num)(c:s.σ.length<=900)(q:∀i:Int,∀a r,(bI S o).1=.ok [.int i]->-128<=i->i<=127->MR A s ((r,.list [.int i])::T) Y a->P (k (.tup [.ref r,bH]) a))(d:∀f a,(bI S o).1=.no f->MR A s T Y a->P (eD f a)):P (aA n (.aL "Places" "taken") [.ref A.pl,.ref A.fr,o.enc] H k):=by refine FH b W R M B hp.Ok hp.nt c (λvs g r e h=>?_) d;refine cY (hp.val W e) λi aG j l=>?_;subst aG;rwa[hp.ty];exact q i g r e j l h
noncomputable def i9(x:Int):Int:=(x+128)%256-128
theorem wr_eq(x:Int):-128+(x- -128)%256=i9 x:=by unfold i9;lia
theorem zA(x:Int):-128<=i9 x/\i9 x<=127:=⟨Int.sub_le_sub_right (Int.emod_nonneg (x+128) (by decide)) 128,Int.sub_le_sub_right (Int.le_of_lt_add_one (Int.emod_lt_of_pos (x+128) (by decide:(0:Int)<255+1))) 128⟩
theorem Ec{x:Int}(a:-128<=x)(b:x<=127):i9 x=x:=by show(x+128)%256-128=x;rwa[Int.emod_eq_of_lt (by(first|lia|omega)) (by lia)];rewrite[Int.add_sub_cancel];rfl
theorem k_{i:Int}:cP .Is (.int i) .none H kk=kk false:=rfl
theorem xO{x:Int}(c:3<=n):(cP .Is (.int x) .none H λd=>iT d (k (.tup [.none,(.bool false)]) H) ((aA n) (.top "wrapped") [(.str "i8"),.int x] H λv3 H=>(aA n) (.top "fits") [(.str "i8"),.int x] H λv4 H=>tV v4 λf=>k (.tup [v3,(.bool (!f))]) H))=k (.tup [.int (i9 x),.bool (decide (i9 x≠x))]) H:=by
 rwa[k_];rwa[bC];rwa[OK c];rwa[Aq c];rw[wr_eq];by_cases a:(-128:Int)<=x
 ·rwa[cC a];rwa[bZ];show k (.tup [.int (i9 x),.bool (!decide (x<=127))]) H=_;by_cases b:x<=127;·rwa[cC b];rwa[cU (not_not_intro (Ec a b))];rfl
  ·rwa[cU b];rwa[cC (p:=i9 x≠x) λe=>b (e▸(zA x).2)];rfl
 ·rwa[cU a];rwa[bC];rwa[cC (p:=i9 x≠x) λe=>a (e▸(zA x).1)];rfl
inductive Ar where
 |add|sub|mul
noncomputable def Ar.str:Ar->Str
 |.add=>"+"
 |.sub=>"-"
 |.mul=>"*"
noncomputable def Ar.val:Ar->Int->Int->Int
 |.add,x,y=>x+y
 |.sub,x,y=>x-y
 |.mul,x,y=>x*y
theorem qM{m:Ar}{x:Int}(a:4<=n)(b:-128<=x/\x<=127)(c:-128<=y/\y<=127):aA n (.top "checked") [.str "i8",.str m.str,.int x,.int y] H k=k (.tup [.int (i9 (m.val x y)),.bool (decide (i9 (m.val x y)≠m.val x y))]) H:=by
 refine oE (su 1 a) λn aG=>?_;subst aG
 induction m using Lw.Ar.casesOn with
 |add=>rwa[show Ar.str .add="+"from rfl];rw[B5];rwa[Dm (n3 a)];exact xO (n3 a)
 |sub=>rwa[show Ar.str .sub="-"from rfl];rw[BP];rwa[Cj (n3 a)];exact xO (n3 a)
 |mul=>rwa[show Ar.str .mul="*"from rfl];rw[B6];rwa[Cb (n3 a)];rwa[mul_int (nO (by lia) (by lia)) (nO (by lia) (by lia))];exact xO (n3 a)
theorem ZT{m:Ar}{x:Int}(a:5<=n)(b:-128<=x/\x<=127)(c:-128<=y/\y<=127):aA n (.top "reckoned") [bH,.str m.str,.int x,.int y] H k=k (.tup [.int (i9 (m.val x y)),.bool (decide (i9 (m.val x y)≠m.val x y))]) H:=by refine oE (su 1 a) λn aG=>?_;subst aG;rw[JF];rwa[qM (n3 a) b c];rwa[jG];rwa[k_];rwa[bC];rfl
end
inductive Cm where
 |lt|eq|ge
noncomputable def Cm.str:Cm->Str
 |.lt=>"<"
 |.eq=>"=="
 |.ge=>">="
noncomputable def Cm.val:Cm->Int->Int->Bool
 |.lt,x,y=>decide (x<y)
 |.eq,x,y=>decide (x=y)
 |.ge,x,y=>decide (x>=y)
set_option genCtorIdx false in
inductive kE where
 |use(o:Op)
 |bin(m:Ar)(a b:Op)
 |qM(m:Ar)(a b:Op)
 |cmp(c:Cm)(a b:Op)
 |arr(a b:Op)
noncomputable def kE.enc:kE->V
 |.use o=>.tup [.str "use",o.enc]
 |.bin m a b=>.tup [.str "binary",.str m.str,a.enc,b.enc]
 |.qM m a b=>.tup [.str "checked",.str m.str,a.enc,b.enc]
 |.cmp c a b=>.tup [.str "binary",.str c.str,a.enc,b.enc]
 |.arr a b=>.tup [.str "array",.tup [a.enc,b.enc,a.enc]]
def kE.Ok:kE->Prop
 |.use o=>o.Ok
 |.bin _ a b=>a.Num/\b.Num
 |.qM _ a b=>a.Num/\b.Num
 |.cmp _ a b=>a.Num/\b.Num
 |.arr a b=>a.Num/\b.Num
noncomputable def eG(S:St)(a b:Op)(f:Int->Int->List V):Rd:=match(bI S a).1 with
 |.no e=>.no e
 |.ok va=>match(bI S b).1 with
  |.no e=>.no e
  |.ok vb=>match va,vb with
   |[.int x],[.int y]=>.ok (f x y)
   |_,_=>.no "?"
noncomputable def eR(S:St):kE->Rd×St
 |.use o=>bI S o
 |.bin m a b=>(eG S a b λx y=>[.int (i9 (m.val x y))],S)
 |.qM m a b=>(eG S a b λx y=>[.int (i9 (m.val x y)),.bool (decide (i9 (m.val x y)≠m.val x y))],S)
 |.cmp c a b=>(eG S a b λx y=>[.bool (c.val x y)],S)
 |.arr a b=>(eG S a b λx y=>[.int x,.int y,.int x],S)
theorem pA{a b:Op}{x:Int}(c:(bI S a).1=.ok [.int x])(d:(bI S b).1=.ok [.int y]):eG S a b f=.ok (f x y):=by simp only[eG,c,d]
theorem nH{a b:Op}(c:(bI S a).1=.no e):eG S a b f=.no e:=by simp only[eG,c]
theorem nA{a b:Op}{x:Int}(c:(bI S a).1=.ok [.int x])(d:(bI S b).1=.no e):eG S a b f=.no e:=by simp only[eG,c,d]
theorem oX{a b:Op}{f:Int->Int->List V}(W:WT S)(h:a.Num)(hb:b.Num):(∃e,∀f,eG S a b f=.no e)\/∃x y:Int,(∀f,eG S a b f=.ok (f x y))/\-128<=x/\x<=127/\-128<=y/\y<=127:=by
 cases e1:(bI S a).1 with
 |no e=>exact .inl ⟨e,λf=>nH e1⟩
 |ok va=>
  refine aW (h.val W e1) λx cB d=>?_;subst cB
  cases c:(bI S b).1 with
  |no e=>exact .inl ⟨e,λf=>nA e1 c⟩
  |ok vb=>refine aW (hb.val W c) λy aG g=>?_;subst aG;exact .inr ⟨x,y,λf=>pA e1 c,d.1,d.2,g.1,g.2⟩
section
variable{F:List (Nat×VO)}{l:Nat}{t w:V}{o:Op}
theorem bN.ne{S:List Nat}{A:List (Nat×VO)}{y:Nat}{b oy:VO}(c:bN Y H S (A++(x,b)::B))(h:(y,oy)∈A++B):x≠y:=by
 intro e;subst e;have nd:=c.nd;rw[eZ,bX,List.nodup_append]at nd;refine gB nd ?_;clear nd;intro _ a n3;rw[dF]at a;rcases fL.mp h with h|h;·exact n3 _ (iY h) _ (aE) rfl
 ·exact a.1 (iY (f:=(·.1)) h)
theorem bT.ne{A:List (Nat×VO)}{y:Nat}{a oy:VO}(M:bT Y m al σ (A++(x,a)::B) H)(h:(y,oy)∈A++B):x≠y:=by refine b_ M ?_;clear M;intro cE S _ _ c;rw[<-List.append_assoc]at c;refine c.ne (oy:=oy) ?_;rw[List.append_assoc];exact cG _ h
theorem xI{A:List (Nat×VO)}{l w:List V}(M:bT Y m al σ (A++(r,.list l)::B) H)(a:(r2,.list w)∈A++B)(c:l.length<=1000)(d:w.length<=1000)(q:∀b,bT Y m al σ (A++(r,.list (l++w))::B) b->P (k .none b)):P (aJ cf .list (.ref r) "extend" [.ref r2] H k):=by
 have hm:(r2,.list w)∈A++(r,.list l)::B:=by
  rcases fL.mp a with h|h;·exact bY _ h
  ·exact cG _ (aC h)
 rwa[I7 (M.get (cG _ (aE))) (M.get hm) ⟨M.ne a,c,d⟩];exact q _ M.set
theorem WJ{r1 r3:Nat}(d:1<=n)(M:bT Y m al σ F H)(h:(r,.list [.ref r1,.ref r2,.ref r3])∈F)(i:(r1,.list [v])∈F)(j:(r2,.list [w])∈F)(l:(r3,.list [t])∈F)(q:∀e f,bT Y m al σ ((f,.list [v,w,t])::F) e->P (k (.ref f) e)):P (aA n (.top "joined") [.ref r] H k):=by refine oE (su 1 d) λn aG=>?_;clear d;subst aG;erw[RQ];refine rB M λo f a=>?_;have g1:=a.get (aC h);erw[l0 g1];erw[QX];erw[fM g1];rwa[gP (a.get (aE)) (.inr (.inl rfl))];refine xI (A:=[]) a i (by simp) (by simp) λp b=>?_;rwa[fM (b.get (aC h))];rwa[gP (b.get (aE)) (.inr (.inl rfl))];refine xI (A:=[]) b j (by simp) (by simp) λs c=>?_;rwa[fM (c.get (aC h))];rwa[gP (c.get (aE)) (.inr (.inl rfl))];refine xI (A:=[]) c l (by simp) (by simp) λu g=>?_;rwa[fM (g.get (aC h))];exact q _ _ g
theorem oP{KK:V->V->V->VH->Res}(m:11<=n)(W:WT S)(R:dK s S)(M:MR A s T Y H)(B:Md A Y)(C:o.Num)(hb:o2.Num)(r:s.σ.length<=900)(q:∀x y:Int,∀a,(∀f,eG S o o2 f=.ok (f x y))->-128<=x/\x<=127->-128<=y/\y<=127->MR A s T Y a->P (KK bH (.int x) (.int y) a))(t:∀e a,(∀f,eG S o o2 f=.no e)->MR A s T Y a->P (eD e a)):P (gA (.ref A.rv) "places" H λu=>mO u "taken" H λd=>aJ (aA n) d u "taken" [.ref A.fr,o.enc] H λv3 H=>gC v3 H λv4 D=>gA (.ref A.rv) "places" H λw=>mO w "taken" H λg=>aJ (aA n) g w "taken" [.ref A.fr,o2.enc] H λE H=>gI E (.int 0) H λF=>gI v4 (.int 0) H λi=>gI F (.int 0) H λj=>KK D i j H):=by erw[iU M.rv];erw[eV M.pl];erw[aK];refine vY m W R M B C r (λx z r1 e1 G I b=>?_) λe z h b=>t e z (λf=>nH h) b;erw[jG];erw[iU b.rv];erw[eV b.pl];erw[aK];refine vY m W R b B hb r (λy k r2 J K L c=>?_) λe k h c=>t e k (λf=>nA e1 h) c.drop;erw[dB (l:=[.ref r2,bH]) rfl];erw[aY (c.drop.kR (p:=(r1,_))) (v:=.int x) rfl];erw[aY c.kR (v:=.int y) rfl];exact q x y k (λf=>pA e1 J) ⟨G,I⟩ ⟨K,L⟩ c.drop.drop
theorem Du{m:Ar}(b:12<=n)(W:WT S)(R:dK s S)(M:MR A s T Y H)(B:Md A Y)(c:o.Num)(hb:o2.Num)(d:s.σ.length<=900)(q:∀vs a r,eG S o o2 (λx y=>[.int (i9 (m.val x y))])=.ok vs->MR A s ((r,.list vs)::T) Y a->P (k (.ref r) a))(g:∀e a,(∀f,eG S o o2 f=.no e)->MR A s T Y a->P (eD e a)):P (aA n (.aL "Rvalues" "of_two") [.ref A.rv,.ref A.fr,.tup [.str "binary",.str m.str,o.enc,o2.enc]] H k):=by
 refine oE (su 1 b) λn aG=>?_;subst aG;have fin:∀x y:Int,∀a,(∀f,eG S o o2 f=.ok (f x y))->-128<=x/\x<=127->-128<=y/\y<=127->MR A s T Y a->P (aA n (.top "reckoned") [bH,.str m.str,.int x,.int y] a λh H=>gC h H λi l=>nw (.list [i]) H λj H=>k j H):=λx y z e p t u=>by erw[ZT (n3 b) p t];erw[jG];exact rB u λv r w=>q _ v r (e _) w
 clear q;induction m using Lw.Ar.casesOn with
 |add=>rwa[show Ar.str .add="+"from rfl];erw[BX];exact oP (n3 b) W R M B c hb d fin g
 |sub=>rwa[show Ar.str .sub="-"from rfl];erw[B_];exact oP (n3 b) W R M B c hb d fin g
 |mul=>rwa[show Ar.str .mul="*"from rfl];erw[CB];exact oP (n3 b) W R M B c hb d fin g
theorem Dn{m:Ar}(b:12<=n)(W:WT S)(R:dK s S)(M:MR A s T Y H)(B:Md A Y)(c:o.Num)(hb:o2.Num)(d:s.σ.length<=900)(q:∀vs a r,eG S o o2 (λx y=>[.int (i9 (m.val x y)),.bool (decide (i9 (m.val x y)≠m.val x y))])=.ok vs->MR A s ((r,.list vs)::T) Y a->P (k (.ref r) a))(g:∀e a,(∀f,eG S o o2 f=.no e)->MR A s T Y a->P (eD e a)):P (aA n (.aL "Rvalues" "of_two") [.ref A.rv,.ref A.fr,.tup [.str "checked",.str m.str,o.enc,o2.enc]] H k):=by
 refine oE (su 1 b) λn aG=>?_;subst aG;have fin:∀x y:Int,∀a,(∀f,eG S o o2 f=.ok (f x y))->-128<=x/\x<=127->-128<=y/\y<=127->MR A s T Y a->P (aA n (.top "reckoned") [bH,.str m.str,.int x,.int y] a λh H=>gC h H λi j=>nw (.list [i,j]) H λl H=>k l H):=λx y z e p t u=>by erw[ZT (n3 b) p t];erw[jG];exact rB u λv r w=>q _ v r (e _) w
 clear q;induction m using Lw.Ar.casesOn with
 |add=>rwa[show Ar.str .add="+"from rfl];erw[B8];exact oP (n3 b) W R M B c hb d fin g
 |sub=>rwa[show Ar.str .sub="-"from rfl];erw[B0];exact oP (n3 b) W R M B c hb d fin g
 |mul=>rwa[show Ar.str .mul="*"from rfl];erw[BV];exact oP (n3 b) W R M B c hb d fin g
theorem Bl{c:Cm}(d:12<=n)(W:WT S)(R:dK s S)(M:MR A s T Y H)(B:Md A Y)(h:o.Num)(hb:o2.Num)(i:s.σ.length<=900)(q:∀vs b r,eG S o o2 (λx y=>[.bool (c.val x y)])=.ok vs->MR A s ((r,.list vs)::T) Y b->P (k (.ref r) b))(j:∀e b,(∀f,eG S o o2 f=.no e)->MR A s T Y b->P (eD e b)):P (aA n (.aL "Rvalues" "of_two") [.ref A.rv,.ref A.fr,.tup [.str "binary",.str c.str,o.enc,o2.enc]] H k):=by
 refine oE (su 1 d) λn aG=>?_;subst aG
 have fin:∀x y:Int,∀b,(∀f,eG S o o2 f=.ok (f x y))->-128<=x/\x<=127->-128<=y/\y<=127->MR A s T Y b->P (aA n (.top "compared") [.str c.str,.int x,.int y] b λg H=>nw (.list [g]) H λa H=>k a H):=λx y l e u v m=>by
  have:aA n (.top "compared") [.str c.str,.int x,.int y] l (λg H=>nw (.list [g]) H λa H=>k a H)=nw (.list [.bool (c.val x y)]) l λa H=>k a H:=by
   clear q;cases c with
   |lt=>exact Hz (n3 d)
   |eq=>exact x_eq (n3 d)
   |ge=>exact Ii (n3 d)
  erw[this];exact rB m λp r t=>q _ p r (e _) t
 clear q;cases c with
 |lt=>rwa[show Cm.str .lt="<"from rfl];erw[R9];exact oP (n3 d) W R M B h hb i fin j
 |eq=>rwa[show Cm.str .eq="=="from rfl];erw[F_two_eq];exact oP (n3 d) W R M B h hb i fin j
 |ge=>rwa[show Cm.str .ge=">="from rfl];erw[P_];exact oP (n3 d) W R M B h hb i fin j
theorem Dh(b:12<=n)(W:WT S)(R:dK s S)(M:MR A s T Y H)(B:Md A Y)(m:o.Num)(hb:o2.Num)(j:s.σ.length<=900)(q:∀vs d r,eG S o o2 (λx y=>[.int x,.int y,.int x])=.ok vs->MR A s ((r,.list vs)::T) Y d->P (k (.ref r) d))(p:∀e d,(∀f,eG S o o2 f=.no e)->MR A s T Y d->P (eD e d)):P (aA n (.aL "Rvalues" "made") [.ref A.rv,.ref A.fr,.tup [.str "array",.tup [o.enc,o2.enc,o.enc]]] H k):=by
 refine oE (su 1 b) λn aG=>?_;subst aG;erw[XG];erw[YM];erw[iU M.rv];erw[eV M.pl];erw[aK];refine vY (n3 b) W R M B m j (λx t r1 e1 N O g=>?_) λe t h g=>p e t (λf=>nH h) g;erw[dB (l:=[.ref r1,bH]) rfl];erw[iU g.rv];erw[eV g.pl];erw[aK];refine vY (n3 b) W R g B hb j (λy u r2 D Q U i=>?_) λe u h i=>p e u (λf=>nA e1 h) i.drop;erw[dB (l:=[.ref r2,bH]) rfl];erw[iU i.rv];erw[eV i.pl];erw[aK];refine vY (n3 b) W R i B m j (λz E r3 a F G v=>?_) λe E h v=>by rw[h]at e1;cases e1
 rw[e1]at a;clear F G;injection a with a;injection a with a;injection a with a;subst a;erw[dB (l:=[.ref r3,bH]) rfl];refine rB v λV r I=>?_;refine WJ (n3 b) I (aE) (aC (aC (aC (aE)))) (aC (aC (aE))) (aC (aE)) λw f J=>?_;refine q _ w f (pA e1 D) ?_;exact(bT.perm J (.refl _)).perm (.refl _)|>λC=>(show MR A s ((f,.list [.int x,.int y,.int x])::T) Y w from by refine b_ C ?_;clear C;intro cE SS K L c;exact⟨cE,SS,K,L,c.sub (List.Sublist.append_left (.cons₂ _ (.cons _ (.cons _ (.cons _ (.cons _ (.refl _)))))) _)⟩)
theorem WH{rv:kE}(j:13<=n)(W:WT S)(R:dK s S)(M:MR A s T Y H)(B:Md A Y)(hr:rv.Ok)(p:s.σ.length<=900)(q:∀vs S' i t r,eR S rv=(.ok vs,S')->i.length=s.σ.length->WT S'->dK (s.w i) S'->MR A (s.w i) ((r,.list vs)::T) Y t->P (k (.ref r) t))(u:∀f t,(eR S rv).1=.no f->MR A s T Y t->P (eD f t)):P (aA n (.aL "Rvalues" "cells") [.ref A.rv,.ref A.fr,rv.enc] H k):=by
 refine oE (su 1 j) λn aG=>?_;subst aG
 induction rv using Lw.kE.casesOn with
 |use o=>show P (aA (n+1) (.aL "Rvalues" "cells") [.ref A.rv,.ref A.fr,.tup [.str "use",o.enc]] H k);erw[QM];erw[iU M.rv];erw[eV M.pl];erw[aK];refine VT (n3 j) W R M B hr p (λvs S' i d r e v x y g=>?_) u;erw[dB (l:=[.ref r,o.ty]) rfl];exact q vs S' i d r e v x y g
 |bin m a b=>show P (aA (n+1) (.aL "Rvalues" "cells") [.ref A.rv,.ref A.fr,.tup [.str "binary",.str m.str,a.enc,b.enc]] H k);erw[DO];erw[oD M.rv];erw[aK];exact Du (n3 j) W R M B hr.1 hr.2 p (λvs d r e g=>q vs S s.σ d r (by delta eR;simp only[e]) rfl W R g) λe d h g=>u e d (h _) g
 |qM m a b=>show P (aA (n+1) (.aL "Rvalues" "cells") [.ref A.rv,.ref A.fr,.tup [.str "checked",.str m.str,a.enc,b.enc]] H k);erw[P7];erw[oD M.rv];erw[aK];exact Dn (n3 j) W R M B hr.1 hr.2 p (λvs d r e g=>q vs S s.σ d r (by delta eR;simp only[e]) rfl W R g) λe d h g=>u e d (h _) g
 |cmp c a b=>show P (aA (n+1) (.aL "Rvalues" "cells") [.ref A.rv,.ref A.fr,.tup [.str "binary",.str c.str,a.enc,b.enc]] H k);erw[DO];erw[oD M.rv];erw[aK];exact Bl (n3 j) W R M B hr.1 hr.2 p (λvs d r e g=>q vs S s.σ d r (by delta eR;simp only[e]) rfl W R g) λe d h g=>u e d (h _) g
 |arr a b=>show P (aA (n+1) (.aL "Rvalues" "cells") [.ref A.rv,.ref A.fr,.tup [.str "array",.tup [a.enc,b.enc,a.enc]]] H k);erw[RI];erw[GJ M.rv];erw[aK];exact Dh (n3 j) W R M B hr.1 hr.2 p (λvs d r e g=>q vs S s.σ d r (by delta eR;simp only[e]) rfl W R g) λe d h g=>u e d (h _) g
end
noncomputable def oC(cs:List Cell)(o z:Nat)(vs:List V):List Cell:=cs.take o++vs.map some++cs.drop (o+z)
noncomputable def gK(S:St)(l o z:Nat)(vs:List V):St:=bS S l (oC ((S l).getD []) o z vs)
def D_(p:cO)(vs:List V):Prop:=(p.Sc/\∃v,vs=[v]/\p.tQ (some v))\/(p=.loc 6/\∃v w,vs=[v,w]/\jO (some v)/\j_ (some w))\/(p=.loc 7/\∃u v w,vs=[u,v,w]/\jO (some u)/\jO (some v)/\jO (some w))
theorem TP(h:o<cs.length):oC cs o 1 [v]=cs.set o (some v):=by rwa[List.set_eq_take_append_cons_drop];rwa[aI h];show cs.take o++[some v]++cs.drop (o+1)=_;rewrite[List.append_assoc];rfl
section
variable{F:List (Nat×VO)}{l:Nat}{t w:V}
theorem TJ(F:4<=n)(W:WT S)(R:dK s S)(M:MR A s T Y H)(hf:D_ p vs)(hr:(r,.list vs)∈T)(G:s.σ.length<=900)(e:bF S p=.ok l o z)(t:s.ho.lookup l=some a)(q:∀i L,i.length=s.σ.length->WT (gK S l o z vs)->dK (s.w i) (gK S l o z vs)->MR A (s.w i) T Y L->P (k .none L)):P (aA n (.aL "Memory" "write_all") [.ref A.m,Mi a o,.ref r] H k):=by
 have j:(r,VO.list vs)∈T++FX A s:=bY _ hr;clear hr;rcases hf with⟨hp,v,rfl,y⟩|⟨rfl,v,w,rfl,y,I⟩|⟨rfl,u,v,w,rfl,O,y,I⟩
 ·refine gB (vW W hp e) λN J B=>?_;refine gX B ?_;clear B;intro cs c g K V C;refine oA C ?_;clear C;intro ok Q;clear e;subst J;have b:=R.room N g t;have ho:o<cs.length:=(dN.mp K).1;refine yA F M j b (by rw[bO];exact ho) G (by rw[bO];lia) λD x=>?_;have h:gK S l o 1 [v]=bS S l (cs.set o (some v)):=by unfold gK;rwa[g];show bS S l (oC cs o 1 [v])=_;rwa[TP ho];rfl
  have E:(cs.map encM).set o v=(cs.set o (some v)).map encM:=by rwa[List.map_set];rfl
  rw[E]at x;rw[h]at q;exact q _ D (by rwa[List.length_set];rfl) (W.upd (Q _ y)) (R.upd N t (dN.mp b).1) x
 ·cases g:S 6 with
  |none=>exact aV (W.dead 6 (by decide) g) (by decide)
  |some cs=>
   delta bF at e;simp only[g]at e;injection e with e1 h E;subst e1 h E;refine b_ (W.ok 6 (by decide) cs g) λc d cB K U=>?_;subst cB;have b:=R.room (by decide) g t;refine KW F M j b G λD x=>?_;have h:gK S 6 0 [c,d].length [v,w]=bS S 6 [some v,some w]:=by unfold gK;rwa[g];rfl
   rw[h]at q;exact q _ D (by rwa[List.length_set];rfl) (W.upd ⟨_,_,rfl,y,I⟩) (R.upd (cs:=[some v,some w]) (by decide) t (dN.mp b).1) x
 ·cases g:S 7 with
  |none=>exact aV (W.dead 7 (by decide) g) (by decide)
  |some cs=>
   delta bF at e;simp only[g]at e;injection e with e1 h E;subst e1 h E;refine lE (W.ok 7 (by decide) cs g) λc d f aG K U hf=>?_;subst aG;have b:=R.room (by decide) g t;refine LF F M j b G λD x=>?_;have h:gK S 7 0 [c,d,f].length [u,v,w]=bS S 7 [some u,some v,some w]:=by unfold gK;rwa[g];rfl
   rw[h]at q;exact q _ D (by rwa[List.length_set];rfl) (W.upd ⟨_,_,_,rfl,O,y,I⟩) (R.upd (cs:=[some u,some v,some w]) (by decide) t (dN.mp b).1) x
end
def cO.I8:cO->Prop
 |.loc l=>l=0\/l=3\/l=4
 |.fld j=>j=0
 |.idx=>True
def f_(p:cO):kE->Prop
 |.use o=>(p.I8/\(o.Num\/∃l,o=.mv l/\(l=1\/l=3\/l=4)))\/(p=.loc 5/\∃b,o=.cb b)\/(p=.loc 8/\∃j,o=.cu j/\j<=3)\/(p.I8/\∃i:Int,o=.ci i/\-128<=i/\i<=127)
 |.bin _ a b=>p.I8/\a.Num/\b.Num
 |.qM _ a b=>p=.loc 6/\a.Num/\b.Num
 |.cmp _ a b=>p=.loc 5/\a.Num/\b.Num
 |.arr a b=>p=.loc 7/\a.Num/\b.Num
theorem cO.I8.Sc(h:p.I8):p.Sc:=by
 induction p using Lw.cO.casesOn with
 |loc l=>have h':l=0\/l=3\/l=4:=h;exact⟨by lia,by lia,by lia⟩
 |fld j=>have h':j=0:=h;show j<2;lia
 |idx=>trivial
theorem cO.I8.MG(h:p.I8)(a:jO c):p.tQ c:=by
 induction p using Lw.cO.casesOn with
 |loc l=>have h':l=0\/l=3\/l=4:=h;clear h;rcases h' with rfl|rfl|rfl<;>exact a
 |fld j=>have h':j=0:=h;clear h;subst h';exact a
 |idx=>exact a
theorem cO.I8.fit{i:Int}(h:p.I8)(a:-128<=i)(b:i<=127):D_ p [.int i]:=.inl ⟨h.Sc,_,rfl,h.MG (.inr ⟨i,rfl,a,b⟩)⟩
theorem f_.place{rv:kE}(h:f_ p rv):p.Ok:=by
 have d:cO.Ok (.loc 6):=(by decide:6<9);have e:cO.Ok (.loc 5):=(by decide:5<9);have f:cO.Ok (.loc 7):=(by decide:7<9);have g:cO.Ok (.loc 8):=(by decide:8<9)
 induction rv using Lw.kE.casesOn with
 |use o=>rcases h with⟨h,_⟩|⟨rfl,_⟩|⟨rfl,_⟩|⟨h,_⟩<;>first|exact h.Sc.Ok|assumption
 |bin m a b=>exact h.1.Sc.Ok
 |qM m a b=>refine oA h ?_;clear h;intro c _;subst c;exact d
 |cmp m a b=>refine oA h ?_;clear h;intro cB _;subst cB;exact e
 |arr a b=>refine oA h ?_;clear h;intro aG _;subst aG;exact f
theorem f_.right{rv:kE}(h:f_ p rv):rv.Ok:=by
 induction rv using Lw.kE.casesOn with
 |use o=>
  rcases h with⟨_,h|⟨l,rfl,h⟩⟩|⟨_,b,rfl⟩|⟨_,j,rfl,h⟩|⟨_,i,rfl,h⟩;·exact h.Ok
  ·exact h
  ·trivial
  ·exact h
  ·exact h
 |bin m a b=>exact h.2
 |qM m a b=>exact h.2
 |cmp m a b=>exact h.2
 |arr a b=>exact h.2
theorem f_.fit{rv:kE}{S':St}(h:f_ p rv)(W:WT S)(e:eR S rv=(.ok vs,S')):D_ p vs:=by
 induction rv using Lw.kE.casesOn with
 |use o=>
  rcases h with⟨hp,h|⟨l,rfl,h⟩⟩|⟨rfl,b,rfl⟩|⟨rfl,j,rfl,h⟩|⟨hp,i,rfl,h⟩
  ·have t:(bI S o).1=.ok vs:=by rwa[show bI S o=(.ok vs,S')from e];rfl
   refine cY (h.val W t) λi q k n=>?_;clear e t;subst q;exact hp.fit k n
  ·have g:(cO.loc l).Sc:=⟨by lia,by lia,by lia⟩;have e1:(match cF S (.loc l)with|.ok vs=>(Rd.ok vs,bS S l [none])|.no f=>(.no f,S))=(.ok vs,S'):=e;clear e;cases d:cF S (.loc l)with
   |no f=>rw[d]at e1;cases e1
   |ok A=>
    rw[d]at e1;injection e1 with e1 _;clear snd_eq;injection e1 with e1;subst e1;refine aW (nX W g d) λv r u=>?_;clear g d;subst r;have hi:jO (some v):=by rcases h with rfl|rfl|rfl<;>exact u
    exact .inl ⟨hp.Sc,_,rfl,hp.MG hi⟩
  ·injection e with e _;injection e with e;subst e;exact .inl ⟨⟨by decide,by decide,by decide⟩,_,rfl,.inr ⟨b,rfl⟩⟩
  ·injection e with e _;injection e with e;subst e;exact .inl ⟨⟨by decide,by decide,by decide⟩,_,rfl,.inr ⟨j,rfl,h⟩⟩
  ·injection e with e _;injection e with e;subst e;exact hp.fit h.1 h.2
 |bin m a b=>
  injection e with e _;rcases oX (f:=λx y=>[.int (i9 (m.val x y))]) W h.2.1 h.2.2 with⟨f,hf⟩|⟨x,y,hf,_⟩;·rw[hf]at e;cases e
  ·rw[hf]at e;injection e with e;subst e;exact h.1.fit (zA _).1 (zA _).2
 |qM m a b=>
  refine oA h ?_;clear h;intro s h;subst s;injection e with e _;rcases oX (f:=λx y=>[.int (i9 (m.val x y))]) W h.1 h.2 with⟨f,hf⟩|⟨x,y,hf,_⟩;·rw[hf]at e;cases e
  ·rw[hf]at e;injection e with e;subst e;exact .inr (.inl ⟨rfl,_,_,rfl,.inr ⟨_,rfl,zA _⟩,.inr ⟨_,rfl⟩⟩)
 |cmp c a b=>
  refine oA h ?_;clear h;intro cB h;subst cB;injection e with e _;rcases oX (f:=λx y=>[.bool (c.val x y)]) W h.1 h.2 with⟨f,hf⟩|⟨x,y,hf,_⟩;·rw[hf]at e;cases e
  ·rw[hf]at e;injection e with e;subst e;exact .inl ⟨⟨by decide,by decide,by decide⟩,_,rfl,.inr ⟨_,rfl⟩⟩
 |arr a b=>
  refine oA h ?_;clear h;intro aG h;subst aG;injection e with e _;rcases oX (f:=λx y=>[.int x]) W h.1 h.2 with⟨f,hf⟩|⟨x,y,hf,k,n,w,z⟩;·rw[hf]at e;cases e
  ·rw[hf]at e;injection e with e;subst e;exact .inr (.inr ⟨rfl,_,_,_,rfl,.inr ⟨_,rfl,k,n⟩,.inr ⟨_,rfl,w,z⟩,.inr ⟨_,rfl,k,n⟩⟩)
set_option genCtorIdx false in
inductive bM where
 |asg(p:cO)(rv:kE)
 |live
 |dead
 |i_(o:Op)
noncomputable def bM.enc:bM->V
 |.asg p rv=>.tup [.str "assign",p.enc,rv.enc]
 |.live=>.tup [.str "live",.int 4]
 |.dead=>.tup [.str "dead",.int 4]
 |.i_ o=>.tup [.str "print",o.enc]
def bM.Ok:bM->Prop
 |.asg p rv=>f_ p rv
 |.live=>True
 |.dead=>True
 |.i_ o=>o.Num\/o=.cp (.loc 6)\/o=.cp (.loc 5)
noncomputable def gZ(S:St)(l:Nat):St:=λx=>if x=l then none else S x
noncomputable def shown:List V->V
 |[v]=>v
 |vs=>.tup vs
noncomputable def dA(S:St):bM->Option Str×St×List V
 |.asg p rv=>match eR S rv with
  |(.no f,S')=>(some f,S',[])
  |(.ok vs,S')=>match bF S' p with
   |.no f=>(some f,S',[])
   |.ok l o z=>(none,gK S' l o z vs,[])
 |.live=>(none,bS S 4 [none],[])
 |.dead=>(none,gZ S 4,[])
 |.i_ o=>match(bI S o).1 with
  |.no f=>(some f,S,[])
  |.ok vs=>(none,S,[shown vs])
section
variable{F:List (Nat×VO)}{l:Nat}{t w:V}{rv:kE}
theorem P6(j:14<=n)(W:WT S)(R:dK s S)(M:MR A s T Y H)(B:Md A Y)(hp:f_ p rv)(F:s.σ.length<=900)(q:∀S' c g,dA S (.asg p rv)=(none,S',[])->c.length=s.σ.length->WT S'->dK (s.w c) S'->MR A (s.w c) T Y g->P (k .none g))(v:∀f c g,(dA S (.asg p rv)).1=some f->MR A (s.w c) T Y g->P (eD f g)):P (aA n (.aL "Machine" "do_statement") [.ref A.ma,.ref A.fr,(bM.asg p rv).enc] H k):=by
 refine oE (su 1 j) λn aG=>?_;subst aG;unfold bM.enc;erw[GW];erw[AM M.ma];erw[E8 M.rv];erw[aK];refine WH (n3 j) W R M B hp.right F (λvs Q d x r e G y C h=>?_) λf x e h=>v f s.σ x ?_ h;·erw[fY h.ma];erw[nE h.pl];erw[aK];refine FO (n3 j) y C h B hp.place (by show d.length<=900;lia) (λl o z a D m I i=>?_) λf D m i=>v f d D (by delta dA;simp only[e,m]) (MR.drop i);erw[jG];erw[iS i.ma];erw[lW i.gm];erw[aK];refine TJ (n3 j) y C i (hp.fit W e) (aE) (by show d.length<=900;lia) m I λt J u K L N=>q _ t J (by delta dA;simp only[e,m]) (u.trans G) K L (MR.drop N)
 ·cases E:eR S rv with
  |mk a b=>rw[E]at e;have O:a=.no f:=e;clear e;subst O;delta dA;simp only[E]
end
structure g_(ho:List (Nat×Nat)):Prop where
 nd:(ho.map (·.1)).Nodup
 low:∀p∈ho,p.1<9
theorem IG:∀(n:Nat)(l:List Nat),l.Nodup->(∀x∈l,x<n)->l.length<=n
 |0,l,_,h=>by
  induction l using List.casesOn with
  |nil=>simp
  |cons a r=>exact aV (h a (aE)) (by lia)
 |n+1,l,nd,h=>by
  have b:(l.erase n).length<=n:=IG n (l.erase n) (nd.erase n) λx c=>by
   have d:=h x (List.mem_of_mem_erase c);have f:x≠n:=λe=>by clear h d;subst e;exact nd.not_mem_erase c
   lia
  by_cases hm:n∈l;·rw[List.length_erase_of_mem hm]at b;lia
  ·rw[List.erase_of_not_mem hm]at b;lia
theorem g_.len{ho:List (Nat×Nat)}(h:g_ ho):ho.length<=9:=by
 have:=IG 9 (ho.map (·.1)) h.nd λx a=>by refine aW (c7.mp a) λp hp aG=>?_;clear a;subst aG;exact h.low p hp
 rwa[bO]at this
noncomputable def fH(l:Nat):List (Nat×Nat)->List (Nat×Nat)
 |[]=>[]
 |(y,w)::r=>if y=l then r else(y,w)::fH l r
noncomputable def dY(l a:Nat):List (Nat×Nat)->List (Nat×Nat)
 |[]=>[(l,a)]
 |(y,w)::r=>if y=l then(y,a)::r else(y,w)::dY l a r
theorem iX{l y w:Nat}{r:List (Nat×Nat)}:fH l ((y,w)::r)=if y=l then r else(y,w)::fH l r:=rfl
theorem jL{l y w:Nat}{r:List (Nat×Nat)}:dY l a ((y,w)::r)=if y=l then(y,a)::r else(y,w)::dY l a r:=rfl
theorem V3(l:Nat)(ho:List (Nat×Nat)):j5 (.int l) (lF ho)=lF (fH l ho):=by
 induction ho with
 |nil=>rfl
 |cons p r a=>
  obtain⟨y,w⟩:=p;show(if hZ (.int y) (.int l)=true then lF r else((.int y,.int w):V×V)::j5 (.int l) (lF r))=_;by_cases h:y=l;·rwa[aI (by simp[jF,h])];rwa[iX];rwa[aI h];rfl
  ·rwa[aH (by simp[jF];lia)];rwa[iX];rwa[aH h];rwa[a];rfl
theorem WR(l a:Nat)(ho:List (Nat×Nat)):iQ (.int l) (.int a) (lF ho)=lF (dY l a ho):=by
 induction ho with
 |nil=>rfl
 |cons p r b=>
  obtain⟨y,w⟩:=p;show(if hZ (.int y) (.int l)=true then((.int y,.int a):V×V)::lF r else((.int y,.int w):V×V)::iQ (.int l) (.int a) (lF r))=_;by_cases h:y=l;·rwa[aI (by simp[jF,h])];rwa[jL];rwa[aI h];rfl
  ·rwa[aH (by simp[jF];lia)];rwa[jL];rwa[aH h];rwa[b];rfl
theorem E_{l:Nat}{ho:List (Nat×Nat)}{p:Nat×Nat}(h:p∈fH l ho):p∈ho:=by
 induction ho with
 |nil=>exact h
 |cons q r a=>
  obtain⟨y,w⟩:=q;rw[iX]at h;by_cases e:y=l;·rw[aI e]at h;exact aC h
  ·rw[aH e]at h;rcases bV.mp h with rfl|h;·exact aE
   ·exact aC (a h)
theorem F1{l:Nat}{ho:List (Nat×Nat)}{p:Nat×Nat}(h:p∈dY l a ho):p∈ho\/p.1=l:=by
 induction ho with
 |nil=>rcases bV.mp h with rfl|h;exact .inr rfl;cases h
 |cons q r b=>
  obtain⟨y,w⟩:=q;rw[jL]at h;by_cases e:y=l
  ·rw[aI e]at h;clear b;rcases bV.mp h with rfl|h;·exact .inr e
   ·exact .inl (aC h)
  ·rw[aH e]at h;rcases bV.mp h with rfl|h;·exact .inl (aE)
   ·exact(b h).imp (.tail _) id
theorem g_.tail{p:Nat×Nat}{r:List (Nat×Nat)}(h:g_ (p::r)):g_ r:=⟨(dF.mp h.nd).2,λq a=>h.low q (aC a)⟩
theorem g_.del{l:Nat}{ho:List (Nat×Nat)}(h:g_ ho):g_ (fH l ho):=by
 refine⟨?_,λp hp=>h.low p (E_ hp)⟩
 induction ho with
 |nil=>exact h.nd
 |cons q r a=>
  obtain⟨y,w⟩:=q;rwa[iX];by_cases e:y=l;·rwa[aI e];exact h.tail.nd
  ·rwa[aH e];rwa[bX];rw[dF];refine⟨λhm=>?_,a h.tail⟩;refine aW (c7.mp hm) λp hp b=>?_;exact(dF.mp h.nd).1 (c7.mpr ⟨p,E_ hp,b⟩)
theorem g_.set{l:Nat}{ho:List (Nat×Nat)}(h:g_ ho)(d:l<9):g_ (dY l a ho):=by
 refine⟨?_,λp hp=>?_⟩
 ·induction ho with
  |nil=>exact dF.mpr ⟨by simp,.nil⟩
  |cons q r c=>
   obtain⟨y,w⟩:=q;rwa[jL];by_cases e:y=l;·rwa[aI e];exact h.nd
   ·rwa[aH e];rwa[bX];rw[dF];refine⟨λhm=>?_,c h.tail⟩;refine aW (c7.mp hm) λp hp b=>?_;rcases F1 hp with hp|hp;·exact(dF.mp h.nd).1 (c7.mpr ⟨p,hp,b⟩)
    ·exact e (b.symm.trans hp)
 ·rcases F1 hp with hp|hp;·exact h.low p hp
  ·lia
theorem mG{y w:Nat}{r:List (Nat×Nat)}:List.lookup x ((y,w)::r)=if x=y then some w else List.lookup x r:=by
 rwa[fA];by_cases q:x=y;·rwa[aI q];rwa[q];rewrite[beq_self_eq_true];rfl
 ·rwa[aH q];rwa[beq_eq_false_iff_ne.mpr q];rfl
theorem lU{l:Nat}{ho:List (Nat×Nat)}(h:g_ ho):(fH l ho).lookup x=if x=l then none else ho.lookup x:=by
 induction ho with
 |nil=>
  by_cases q:x=l;·rwa[aI q];rfl
  ·rwa[aH q];rfl
 |cons p r a=>
  obtain⟨y,w⟩:=p;rwa[iX];rwa[mG];by_cases e:y=l
  ·rwa[aI e];by_cases q:x=l;·rwa[aI q];rw[List.lookup_eq_none_iff];intro p hp;rw[bne_iff_ne];exactλb=>(dF.mp h.nd).1 (c7.mpr ⟨p,hp,b.symm.trans (q.trans e.symm)⟩)
   ·rwa[aH q];rwa[aH λh=>q (h.trans e)];rfl
  ·rwa[aH e];rwa[mG];rwa[a h.tail];by_cases q:x=l;·rwa[aI q];rwa[aI q];rwa[aH λh=>e (h.symm.trans q)];rfl
   ·rwa[aH q];rwa[aH q];rfl
theorem pP{l:Nat}{ho:List (Nat×Nat)}:(dY l a ho).lookup x=if x=l then some a else ho.lookup x:=by
 induction ho with
 |nil=>exact mG
 |cons p r b=>
  obtain⟨y,w⟩:=p;rwa[jL];rwa[mG];by_cases e:y=l
  ·rwa[aI e];rwa[mG];rwa[e];by_cases q:x=l;·rwa[aI q];rwa[aI q];rfl
   ·rwa[aH q];rwa[aH q];rwa[aH q];rfl
  ·rwa[aH e];rwa[mG];rwa[b];by_cases q:x=l;·rwa[aI q];rwa[aI q];rwa[aH λh=>e (h.symm.trans q)];rfl
   ·rwa[aH q];rwa[aH q];rfl
noncomputable abbrev Ms.h(s:Ms)(ho:List (Nat×Nat))(σ:List (List V×Bool)):Ms:={s with ho:=ho,σ:=σ}
section
variable{F:List (Nat×VO)}{l:Nat}{t w:V}
theorem dK.HU(R:dK s S)(h:s.ho.lookup l=some a):∃cs,S l=some cs/\s.σ[a]?=some (cs.map encM,true):=by
 have b:=R.low l a h
 cases c:S l with
 |none=>rw[R.yJ l b c]at h;exact dW h
 |some cs=>exact⟨cs,rfl,R.room b c h⟩
theorem dK.lt(R:dK s S)(h:s.ho.lookup l=some a):a<s.σ.length:=by refine aW (R.HU h) λcs _ b=>?_;exact(dN.mp b).1
theorem dK.del(R:dK s S)(hk:g_ s.ho)(h:s.ho.lookup l=some a){b:List V×Bool}:dK (s.h (fH l s.ho) (s.σ.set a b)) (gZ S l):=by
 refine⟨λx i ds f=>?_,λx i f=>?_,λx y c d g=>?_,λx c d=>?_⟩
 ·unfold gZ at f;by_cases q:x=l;·rw[aI q]at f;exact dW f
  ·rw[aH q]at f;refine aW (R.has x i ds f) λc d g=>?_;refine⟨c,?_,?_⟩;·show(fH l s.ho).lookup x=_;rwa[lU hk];rwa[aH q];exact d
   ·show(s.σ.set a b)[c]?=_;rwa[List.getElem?_set_ne (λe:a=c=>q (R.inj x l a (e▸d) h))];exact g
 ·unfold gZ at f;show(fH l s.ho).lookup x=_;rwa[lU hk];by_cases q:x=l;·rwa[aI q];rfl
  ·rw[aH q]at f⊢;exact R.yJ x i f
 ·rw[show(s.h (fH l s.ho) (s.σ.set a b)).ho=fH l s.ho from rfl,lU hk]at d g;by_cases q1:x=l;·rw[aI q1]at d;exact dW d
  ·by_cases q2:y=l;·rw[aI q2]at g;exact dW g
   ·rw[aH q1]at d;rw[aH q2]at g;exact R.inj x y c d g
 ·rw[show(s.h (fH l s.ho) (s.σ.set a b)).ho=fH l s.ho from rfl,lU hk]at d;by_cases q1:x=l;·rw[aI q1]at d;exact dW d
  ·rw[aH q1]at d;exact R.low x c d
theorem dK.add(R:dK s S)(g:l<9)(h:s.ho.lookup l=none):dK (s.h (dY l s.σ.length s.ho) (s.σ++[(cs.map encM,true)])) (bS S l cs):=by
 have e:(s.h (dY l s.σ.length s.ho) (s.σ++[(cs.map encM,true)])).ho=dY l s.σ.length s.ho:=rfl;refine⟨λx f ds b=>?_,λx f b=>?_,λx y c a d=>?_,λx c a=>?_⟩
 ·unfold bS at b;rwa[e];rwa[pP];by_cases q:x=l;·rw[aI q]at b⊢;injection b with b;subst b;refine⟨_,rfl,?_⟩;show(s.σ++[(cs.map encM,true)])[s.σ.length]?=_;simp
  ·rw[aH q]at b⊢;refine aW (R.has x f ds b) λc a d=>?_;refine⟨c,a,?_⟩;show(s.σ++[(cs.map encM,true)])[c]?=_;rwa[List.getElem?_append_left (R.lt a)];exact d
 ·unfold bS at b;rwa[e];rwa[pP];by_cases q:x=l;·rw[aI q]at b;exact wR b
  ·rw[aH q]at b⊢;exact R.yJ x f b
 ·rw[e,pP]at a d;by_cases q1:x=l
  ·by_cases q2:y=l;·rwa[q1];rwa[q2];rfl
   ·rw[aI q1]at a;rw[aH q2]at d;injection a with a;have:=R.lt d;lia
  ·by_cases q2:y=l;·rw[aI q2]at d;rw[aH q1]at a;injection d with d;have:=R.lt a;lia
   ·rw[aH q1]at a;rw[aH q2]at d;exact R.inj x y c a d
 ·rw[e,pP]at a;by_cases q:x=l;·lia
  ·rw[aH q]at a;exact R.low x c a
theorem A_(h:S l=none):gZ S l=S:=by
 funext x;unfold gZ;by_cases q:x=l;·rwa[aI q];rwa[q];rwa[h];rfl
 ·rwa[aH q];rfl
theorem HH:bS (gZ S l) l cs=bS S l cs:=by
 funext x;unfold bS gZ;by_cases q:x=l;·rwa[aI q];rwa[aI q];rfl
 ·rwa[aH q];rwa[aH q];rwa[aH q];rfl
theorem EU(f:3<=n)(R:dK s S)(hk:g_ s.ho)(M:MR A s T Y H)(j:l<9)(m:s.σ.length<=900)(q:∀b c g,c.length=s.σ.length->g_ b->b.lookup l=none->dK (s.h b c) (gZ S l)->MR A (s.h b c) T Y g->P (k .none g)):P (aA n (.aL "Machine" "give_back") [.ref A.ma,.ref A.fr,.int l] H k):=by
 refine oE (su 1 f) λn aG=>?_;subst aG;erw[tY];erw[iJ M.fr];erw[VN M.ho (rW _ _)];rw[rN]
 cases h:s.ho.lookup l with
 |none=>
  show P (iT false _ _);erw[bC]
  have e:S l=none:=by
   cases e:S l with
   |none=>rfl
   |some cs=>refine aW (R.has l j cs e) λa i _=>?_;rw[h]at i;exact dW i
  exact q s.ho s.σ H rfl hk h (by rwa[A_ e];exact R) M
 |some a=>show P (iT true _ _);refine aW (R.HU h) λcs e d=>?_;erw[bZ];erw[iS M.ma];erw[G7 M.gm];erw[iJ M.fr];erw[z_ M.ho];rwa[Cp M.ho (by rw[rW,Bool.true_and,decide_eq_true_iff];unfold lF;rw[bO];have:=hk.len;lia) (by rw[rN];rwa[h];rfl)];rw[V3];erw[aK];have o:MR A (s.h (fH l s.ho) s.σ) T Y (H.set A.ho (.dict (lF (fH l s.ho)))):=bT.set M;refine R_ (n3 f) o d m λp r=>?_;exact q _ _ p (by rwa[List.length_set];rfl) hk.del (by rwa[lU hk];rwa[aI rfl];rfl) (R.del hk h) r
noncomputable def mB(l:Nat):Nat:=if l=6 then 2 else if l=7 then 3 else 1
theorem LN:mB l=1\/mB l=2\/mB l=3:=by
 unfold mB;by_cases a:l=6;·exact .inr (.inl (aI a))
 ·rwa[aH a];by_cases b:l=7;·exact .inr (.inr (aI b))
  ·exact .inl (aH b)
theorem T_(a:5<=n)(b:l<9):aA n (.top "size_of") [kO l,w0] H k=k (.int (mB l)) H:=by rcases(Ni (l:=l) (by assumption))with rfl|rfl|rfl|rfl|rfl|rfl|rfl|rfl|rfl;all_goals first|exact n8 a|exact w6 a|exact A4 a|exact OM a|exact BE a
theorem WO:(List.replicate z (none:Cell)).map encM=List.replicate z eB:=by rwa[List.map_replicate];rfl
theorem PI(j:6<=n)(R:dK s S)(hk:g_ s.ho)(M:MR A s T Y H)(B:Md A Y)(g:l<9)(t:s.σ.length<=800)(q:∀c d o,d.length=s.σ.length+1->g_ c->dK (s.h c d) (bS S l (List.replicate (mB l) none))->MR A (s.h c d) T Y o->P (k .none o)):P (aA n (.aL "Machine" "make_home") [.ref A.ma,.ref A.fr,.int l] H k):=by
 refine oE (su 1 j) λn aG=>?_;subst aG;erw[tZ];erw[lX M.ma];erw[aK];refine EU (n3 j) R hk M g (by exact fS t (by decide)) λb a y u i m v e=>?_;refine i7 (e.body B) λ_ _ _ hb=>?_;erw[iS e.ma];erw[yV e.gm];erw[fO e.fr];erw[fC hb];erw[aY (e.locs B) (yT g)];erw[dB rfl];erw[kY e.ma];erw[T_ (n3 j) g];erw[aK];refine NC (n3 j) LN e (by show a.length<=800;lia) λp w=>?_;have f:MR A (s.h b (a++[(List.replicate (mB l) eB,true)])) T Y p:=w;erw[iJ f.fr];erw[jI f.ho (by rw[rW,Bool.true_and,decide_eq_true_iff];unfold lF;rw[bO];have:b.length<=9:=i.len;show b.length<=100;lia)];have r:=v.add (cs:=List.replicate (mB l) none) g m;rw[HH,WO]at r;refine q (dY l a.length b) _ _ (by rwa[List.length_append];show a.length+1=_;lia) (i.set g) r ?_;have x:MR A (s.h (dY l a.length b) (a++[(List.replicate (mB l) eB,true)])) T Y (p.set A.ho (.dict (iQ (.int l) (.int a.length) (lF b)))):=by rw[WR];exact bT.set f
 exact x
end
section
variable{s':Ms}{F:List (Nat×VO)}{l:Nat}{t w:V}{o:Op}
theorem bT.tC(M:bT Y m al σ (T++L) H)(h:L[i]?=some (a,ob)):bT Y m al σ (T++L.set i (a,ob')) (H.set a ob'):=by
 have e1:L=L.take i++(a,ob)::L.drop (i+1):=by refine oE (dN.mp h) λc e=>?_;refine cM e ?_;refine cM (List.drop_eq_getElem_cons c) ?_;rewrite[List.take_append_drop];rfl
 have d:L.set i (a,ob')=L.take i++(a,ob')::L.drop (i+1):=by rwa[List.set_eq_take_append_cons_drop];rwa[aI (dN.mp h).1];rfl
 rwa[d];rw[<-List.append_assoc];have b:bT Y m al σ (T++(L.take i++(a,ob)::L.drop (i+1))) H:=e1▸M;rw[<-List.append_assoc]at b;exact b.set
theorem MR.set(M:MR A s T Y H)(h:(FX A s)[i]?=some (a,ob))(e:(FX A s).set i (a,ob')=FX A s')(b:s'.σ=s.σ):MR A s' T Y (H.set a ob'):=by have c:=bT.tC (ob':=ob') M h;rw[e,<-b]at c;exact c
theorem dK.to(R:dK s S)(e:s'.ho=s.ho)(f:s'.σ=s.σ):dK s' S:=by obtain⟨a,b,c,d⟩:=R;exact⟨by rwa[e];rwa[f];exact a,by rwa[e];exact b,by rwa[e];exact c,by rwa[e];exact d⟩
theorem w8{g:Int}(a:1<=n)(M:MR A s T Y H)(q:∀c,MR A {s with blk:=g,idx:=0} T Y c->P (k .none c)):P (aA n (.aL "Frame" "go") [.ref A.fr,.int g] H k):=by refine oE (su 1 a) λn aG=>?_;clear a;subst aG;erw[KP];erw[E3 M.fr];have d:MR A {s with blk:=g} T Y (H.set A.fr (l_ A.b A.ho g s.idx A.jo)):=M.set (i:=1) rfl rfl rfl;erw[u8 d.fr];have e:MR A {s with blk:=g,idx:=0} T Y ((H.set A.fr (l_ A.b A.ho g s.idx A.jo)).set A.fr (l_ A.b A.ho g 0 A.jo)):=d.set (i:=1) rfl rfl rfl;exact q _ e
theorem VI(m:9<=n)(M:MR A s T Y H)(W:WT S)(hp:o.Num\/o=.cp (.loc 6)\/o=.cp (.loc 5))(e:(bI S o).1=.ok vs)(hr:(r,.list vs)∈T){p:V}(q:∀t,MR A s T Y t->P (k (shown vs) t)):P (aA n (.top "told_value") [o.ty,.ref r,w0,p] H k):=by
 have g:H[r]?=some (.list vs):=M.get (bY _ hr);rcases hp with h|rfl|rfl;·refine aW (h.val W e) λi j _=>?_;clear e hr;subst j;rwa[h.ty];rwa[rQ (n4 m) (.inl rfl) g];exact q _ M
 ·have a:cF S (.loc 6)=.ok vs:=e;clear g e;cases f:S 6 with
  |none=>exact aV (W.dead 6 (by decide) f) (by decide)
  |some cs=>
   refine b_ (W.ok 6 (by decide) cs f) λc d cB u w=>?_;clear u w;subst cB;have b:cF S (.loc 6)=match i8 [c,d]with|none=>.no "uninitialised"|some vs=>.ok vs:=by delta cF bF nV;simp only[f];rfl
   rw[b]at a;clear f;induction c using Option.casesOn with
   |none=>cases a
   |some x=>
    clear b;induction d using Option.casesOn with
    |none=>cases a
    |some y=>injection a with a;subst a;exact UT (by with_reducible assumption) M (bY _ hr) λz B=>q z B
 ·have l:(cO.loc 5).Sc:=⟨by decide,by decide,by decide⟩;refine aW (nX W l e) λv aG _=>?_;clear hr e;subst aG;show P (aA n (.top "told_value") [Mh,.ref r,w0,p] H k);rwa[rQ (n4 m) (.inr (.inl rfl)) g];exact q _ M
theorem UI(d:12<=n)(W:WT S)(R:dK s S)(M:MR A s T Y H)(B:Md A Y)(hp:o.Num\/o=.cp (.loc 6)\/o=.cp (.loc 5))(m:s.σ.length<=900)(p:s.prints.length<=1000)(q:∀vs a,(bI S o).1=.ok vs->MR A {s with prints:=s.prints++[shown vs]} T Y a->P (k .none a))(g:∀f a,(bI S o).1=.no f->MR A s T Y a->P (eD f a)):P (aA n (.aL "Machine" "do_statement") [.ref A.ma,.ref A.fr,(bM.i_ o).enc] H k):=by
 refine oE (su 1 d) λn aG=>?_;subst aG
 have b:o.Ok/\o.NT:=by
  clear q g;rcases hp with h|rfl|rfl;·exact⟨h.Ok,h.nt⟩
  ·exact⟨.inr rfl,λl e=>by cases e⟩
  ·exact⟨.inl ⟨by decide,by decide,by decide⟩,λl e=>by cases e⟩
 unfold bM.enc;erw[KS];erw[fY M.ma];erw[eV M.pl];erw[aK];refine FH (n3 d) W R M B b.1 b.2 m (λvs v r e c=>?_) g;erw[jG];erw[oB c.ma];erw[gP c.pr (.inl rfl)];erw[kY c.ma];erw[iS c.ma];refine VI (n3 d) c W hp e (aE) λt j=>?_;erw[gU j.pr p];refine q vs _ e ?_;have u:MR A {s with prints:=s.prints++[shown vs]} ((r,.list vs)::T) Y (t.set A.pr (.list (s.prints++[shown vs]))):=j.set (i:=3) rfl rfl rfl;exact u.drop
structure Keeps(s s':Ms):Prop where
 blk:s'.blk=s.blk
 idx:s'.idx=s.idx
 fuel:s'.fuel=s.fuel
 out:s'.out=s.out
 fs:s'.fs=s.fs
theorem WT.live(W:WT S):WT (bS S 4 (List.replicate (mB 4) none)):=W.upd (l:=4) ⟨none,rfl,.inl rfl⟩
theorem WT.del(W:WT S):WT (gZ S 4):=by
 refine⟨λx b ds a=>?_,λx b a=>?_⟩
 ·unfold gZ at a;by_cases q:x=4;·rw[aI q]at a;exact dW a
  ·rw[aH q]at a;exact W.ok x b ds a
 ·unfold gZ at a;by_cases q:x=4;·exact q
  ·rw[aH q]at a;exact W.dead x b a
theorem Cu(i:14<=n)(W:WT S)(R:dK s S)(hk:g_ s.ho)(M:MR A s T Y H)(B:Md A Y)(hs:st.Ok)(m:s.σ.length<=800)(u:s.prints.length<=1000)(q:∀S' s' vs j,dA S st=(none,S',vs)->s'.σ.length<=s.σ.length+1->g_ s'.ho->WT S'->dK s' S'->Keeps s s'->s'.prints=s.prints++vs->vs.length<=1->MR A s' T Y j->P (k .none j))(r:∀f s' j,(dA S st).1=some f->s'.prints=s.prints->MR A s' T Y j->P (eD f j)):P (aA n (.aL "Machine" "do_statement") [.ref A.ma,.ref A.fr,st.enc] H k):=by
 induction st using Lw.bM.casesOn with
 |asg p rv=>exact P6 i W R M B hs (by exact fS m (by decide)) (λv a b e t x l c=>q v (s.w a) [] b e (by show a.length<=_;lia) hk x l ⟨rfl,rfl,rfl,rfl,rfl⟩ (by simp) (by simp) c) λf a b e c=>r f (s.w a) b e rfl c
 |live=>refine oE (su 1 i) λn cB=>?_;subst cB;unfold bM.enc;erw[OY];erw[pG M.ma];erw[aK];rwa[show(4:Int)=((4:Nat):Int)from rfl];exact PI (n3 i) R hk M B (by decide) m λd a b t g l c=>q _ (s.h d a) [] b rfl (by show a.length<=_;lia) g W.live l ⟨rfl,rfl,rfl,rfl,rfl⟩ (by simp) (by simp) c
 |dead=>refine oE (su 1 i) λn aG=>?_;subst aG;unfold bM.enc;erw[LY];erw[lX M.ma];erw[aK];rwa[show(4:Int)=((4:Nat):Int)from rfl];exact EU (n3 i) R hk M (by decide) (by exact fS m (by decide)) λd a b t g z9 l c=>q _ (s.h d a) [] b rfl (by show a.length<=_;lia) g W.del l ⟨rfl,rfl,rfl,rfl,rfl⟩ (by simp) (by simp) c
 |i_ o=>refine UI (n4 i) W R M B hs (by exact fS m (by decide)) u (λvs b e c=>q S {s with prints:=s.prints++[shown vs]} [shown vs] b (by delta dA;simp only[e]) (by show s.σ.length<=_;lia) hk W (R.to rfl rfl) ⟨rfl,rfl,rfl,rfl,rfl⟩ rfl (by simp) c) λf b e c=>r f s b (by delta dA;simp only[e]) rfl c
end
theorem bK{x:Str}(l:Loc):aU x (aB x v l)=some v:=by
 induction l with
 |nil=>show(if x=x then some v else none)=_;rwa[aI rfl];rfl
 |cons p r a=>
  obtain⟨y,w⟩:=p;show aU x (if y=x then(y,v)::r else(y,w)::aB x v r)=_;by_cases q:y=x;·rwa[aI q];show(if y=x then some v else aU x r)=_;rwa[aI q];rfl
  ·rwa[aH q];show(if y=x then some w else aU x (aB x v r))=_;rwa[aH q];rwa[a];rfl
theorem aR{x y:Str}(h:y≠x)(l:Loc):aU x (aB y v l)=aU x l:=by
 induction l with
 |nil=>show(if y=x then some v else none)=_;rwa[aH h];rfl
 |cons p r a=>
  obtain⟨z,w⟩:=p;show aU x (if z=y then(z,v)::r else(z,w)::aB y v r)=(if z=x then some w else aU x r);by_cases q:z=y;·rwa[aI q];show(if z=x then some v else aU x r)=_;rwa[aH (q▸h)];rwa[aH (q▸h)];rfl
  ·rwa[aH q];show(if z=x then some w else aU x (aB y v r))=_;rwa[a];rfl
theorem aX{x:Str}{l:Loc}{v:V}{kk:V->Res}(h:aU x l=some v):gL x l kk=kk v:=by unfold gL;rwa[h];rfl
theorem FW{x:Int}:∀{l:List Int},y∈Mw x l->y=x\/y∈l
 |[],h=>by rcases bV.mp h with h|h;exact .inl h;cases h
 |z::r,h=>by
  rw[vH]at h;by_cases q:x<=z
  ·rw[aI q]at h;rcases bV.mp h with h|h;·exact .inl h
   ·exact .inr h
  ·rw[aH q]at h;rcases bV.mp h with h|h;·exact .inr (h▸aE)
   ·exact(FW h).imp id (.tail _)
def l9(ho:List (Nat×Nat)):List Int:=(ho.map λp=>(p.1:Int)).foldr Mw []
theorem KO{ho:List (Nat×Nat)}(hk:∀p∈ho,p.1<9):∀x∈l9 ho,∃i:Nat,x=i/\i<9:=by
 induction ho with
 |nil=>intro x a;cases a
 |cons p r b=>
  intro x a;rcases FW (l:=l9 r) a with h|h;·exact⟨p.1,h,hk p (aE)⟩
  ·exact b (λq c=>hk q (aC c)) x h
theorem WK(ho:List (Nat×Nat)):My ((lF ho).map (·.1))=some (ho.map λp=>(p.1:Int)):=by
 induction ho with
 |nil=>rfl
 |cons p r a=>show(My ((lF r).map (·.1))).map ((p.1:Int)::·)=_;rwa[a];rfl
theorem J_{ho:List (Nat×Nat)}(h:H[n]?=some (.dict (lF ho)))(b:ho.length<64):aT (.bi "sorted") [.ref n] H k=k (.ref H.length) (H++[.list ((l9 ho).map .int)]):=by
 have e:aT (.bi "sorted") [.ref n] H k=(λo:Option VO=>match o with
  |some (VO.dict l)=>(match My (l.map (·.1))with
   |some a=>if a.length<64 then k (.ref H.length) (H++[VO.list ((a.foldr Mw []).map V.int)])else Res.stuck
   |none=>.stuck)
  |_=>.stuck) (H[n]?):=by kernel_rfl
 rwa[e];rwa[h]
 show(match My ((lF ho).map (·.1))with
  |some a=>if a.length<64 then k (.ref H.length) (H++[VO.list ((a.foldr Mw []).map V.int)])else Res.stuck
  |none=>.stuck)=_;rw[WK];show(if(ho.map λp=>(p.1:Int)).length<64 then _ else _)=_;rw[bO];rwa[aI b];rfl
def SV(H:VH)(x:Option VO):Option PyData:=lD none x λl=>(jA (Mb H 7) l).map .list
noncomputable def Ew(x y:Option PyData):Option Bool:=x.bind λd=>y.bind λe=>if PySem.SeqAt.shaped d&&PySem.SeqAt.shaped e then some (PyData.eqv d e)else none
theorem Nu{b:Nat}(c:H[a]?=some (.list []))(d:H[b]?=some (.list [])):cP .Eq (.ref a) (.ref b) H kk=kk true:=by
 have e:cP .Eq (.ref a) (.ref b) H kk=(match Ew (SV H (H[a]?)) (SV H (H[b]?))with|some t=>kk t|none=>.stuck):=by kernel_rfl
 rwa[e];rwa[c];rwa[d];kernel_rfl
theorem Nn{b:Nat}(c:H[a]?=some (.list []))(d:H[b]?=some (.list [])):cP .NotEq (.ref a) (.ref b) H kk=kk false:=by
 have e:cP .NotEq (.ref a) (.ref b) H kk=(match(Ew (SV H (H[a]?)) (SV H (H[b]?))).map (!·)with|some t=>kk t|none=>.stuck):=by kernel_rfl
 rwa[e];rwa[c];rwa[d];kernel_rfl
structure uS(A:wK)(fuel:Int)(prints:List V)(v:V)(Y H:VH):Prop where
 ma:H[A.ma]?=some (eH A.pg A.w A.giv fuel A.m A.pl A.rv A.gl A.la A.frs A.pr v)
 pr:H[A.pr]?=some (.list prints)
 base:∀(a:Nat)(o:VO),Y[a]?=some o->H[a]?=some o
section
variable{s':Ms}{F:List (Nat×VO)}{l:Nat}{t w:V}{o:Op}
abbrev s_(n:Nat):V->Loc->VH->Kf->Res:=λb a H e=>gL "self" (aB "local" b a) λc=>mO c "give_back" H λd=>gL "frame" (aB "local" b a) λf=>gL "local" (aB "local" b a) λg=>aJ (aA n) d c "give_back" [f,g] H λh H=>e .next (aB "local" b a) H
structure L_(A:wK)(r:Nat)(loc:Loc):Prop where
 self:aU "self" loc=some (.ref A.ma)
 frame:aU "frame" loc=some (.ref A.fr)
 t:aU "t" loc=some bH
 cells:aU "cells" loc=some (.ref r)
theorem L_.step(h:L_ A r loc){v:V}:L_ A r (aB "local" v loc):=⟨by rw[aR (by decide+kernel)];exact h.self,by rw[aR (by decide+kernel)];exact h.frame,by rw[aR (by decide+kernel)];exact h.t,by rw[aR (by decide+kernel)];exact h.cells⟩
theorem AY{K:Kf}{b:List Int}(k:3<=n)(hr:(r2,.list (b.map .int))∈T)(q:∀s' bL l,L_ A r bL->s'.prints=s.prints->Keeps s s'->MR A s' T Y l->P (K .next bL l)):∀(L:List Int)(a:Ms)(S:St)(loc:Loc)(H:VH),(∀x∈L,∃i:Nat,x=i/\i<9)->dK a S->g_ a.ho->a.prints=s.prints->Keeps s a->a.σ.length<=900->L_ A r loc->MR A a T Y H->P (c9 (jC r2 (b.map .int)) (s_ n) (L.map .int) loc H K)
 |[],a,S,loc,H,_,R,hk,hp,c,f,g,M=>by have e:c9 (jC r2 (b.map .int)) (s_ n) (([]:List Int).map .int) loc H K=sI (jC r2 (b.map .int)) H (K .next loc H):=rfl;erw[e];rwa[fM (M.get (bY _ hr))];exact q a loc H g hp c M
 |x::L,a,S,loc,H,m,R,hk,hp,c,f,g,M=>by
  refine aW (m x (aE)) λi aG hi=>?_;subst aG
  have e:c9 (jC r2 (b.map .int)) (s_ n) ((((i:Nat):Int)::L).map .int) loc H K=sI (jC r2 (b.map .int)) H (s_ n (.int i) loc H λo loc H=>match o with
   |.next=>c9 (jC r2 (b.map .int)) (s_ n) (L.map .int) loc H K
   |.cont=>c9 (jC r2 (b.map .int)) (s_ n) (L.map .int) loc H K
   |.brk=>K .next loc H
   |.ret v=>K (.ret v) loc H):=rfl;erw[e];rwa[fM (M.get (bY _ hr))];have d:=g.step (v:=.int i);unfold s_;erw[aX d.self];erw[lX M.ma];erw[aX d.frame];erw[aX (bK loc)];erw[aK];refine EU k R hk M hi f λp t B h j z9 u w=>?_;exact AY k hr q L _ _ _ _ (λy z=>m y (aC z)) u j hp ⟨c.blk,c.idx,c.fuel,c.out,c.fs⟩ (fS (Nat.le_of_eq h) f) d w
theorem VC(g:11<=n)(W:WT S)(R:dK s S)(hk:g_ s.ho)(M:MR A s T Y H)(B:Md A Y)(z:s.fs=[.ref A.fr])(L:s.σ.length<=900)(q:∀v j,cF S (.loc 0)=.ok [v]->uS A s.fuel s.prints (.tup [.str "done",v]) Y j->P (k .none j))(Z:∀f j,cF S (.loc 0)=.no f->MR A s T Y j->P (eD f j)):P (aA n (.aL "Machine" "leave") [.ref A.ma,.ref A.fr] H k):=by
 refine oE (su 1 g) λn cB=>?_;subst cB;refine i7 (M.body B) λ_ _ _ hb=>?_;have u:(cO.loc 0).Sc:=⟨by decide,by decide,by decide⟩
 cases C:S 0 with
 |none=>exact aV (W.dead 0 (by decide) C) (by decide)
 |some cs=>
  refine aW (R.has 0 (by decide) cs C) λa N D=>?_;have E:bF S (.loc 0)=.ok 0 0 cs.length:=by delta bF;simp only[C]
  have h0:∀{K:Kv},aA n (.aL "Places" "home_of") [.ref A.pl,.ref A.fr,.int 0] H K=K (Mi a 0) H:=λ{K}=>oZ (l:=0) (n3 g) M N;erw[zF];erw[fO M.fr];erw[fC hb];erw[aY (M.locs B) (i:=0) (v:=.tup [kO 0,.bool true,.none]) (by kernel_rfl)];erw[dB (l:=[kO 0,.bool true,.none]) rfl];erw[fY M.ma];erw[nR M.pl];erw[fY M.ma];erw[gN M.pl];erw[aK];erw[h0];erw[aK];refine z8 (p:=.loc 0) (n3 g) W R M (.inl u) L E N (λvs y r e x=>?_) λy e x=>Z _ _ e x;refine aW (nX W u e) λv aG _=>?_;subst aG;erw[iJ x.fr];erw[J_ x.ho (by have:=hk.len;lia)];have O:=x.new (ob:=.list ((l9 s.ho).map .int));erw[l0 O.kR];refine AY (s:=s) (r:=r) (n3 g) (aE) (λs' bL c d hp Q F=>?_) (l9 s.ho) s S _ _ (KO hk.low) R hk rfl ⟨rfl,rfl,rfl,rfl,rfl⟩ L ⟨by kernel_rfl,by kernel_rfl,by kernel_rfl,by kernel_rfl⟩ O;show P (gL "self" bL _);have f3:=F.frs;rw[Q.fs,z]at f3;erw[aX d.self];erw[lM F.ma];erw[gP f3 (.inr (.inr rfl))];erw[UW f3 rfl (by simp)];erw[aX d.self];have G:bT Y A.m A.al s'.σ (((y.length,.list ((l9 s.ho).map .int))::(r,.list [v])::T)++(FX A s').set 7 (A.frs,.list [])) (c.set A.frs (.list [])):=bT.tC (i:=7) F rfl;have b:(c.set A.frs (VO.list []))[A.ma]?=some (eH A.pg A.w A.giv s'.fuel A.m A.pl A.rv A.gl A.la A.frs A.pr s'.out):=G.get (cG _ (aC (aC (aE))));have I:(c.set A.frs (VO.list []))[A.frs]?=some (.list []):=G.get (cG _ (aC (aC (aC (aC (aC (aC (aC (aE)))))))));rwa[show([V.ref A.fr]:List V).dropLast=[]from rfl];erw[lM b];erw[nw_eq];erw[Nu (b6 I) cW];erw[bZ];erw[aX d.t];erw[aX d.cells];erw[aX d.self];erw[kY (b6 b)];erw[aX d.self];erw[iS (b6 b)];have U:=G.new (ob:=.list []);have gr:(c.set A.frs (VO.list [])++[VO.list []])[r]?=some (.list [v]):=U.get (aC (bY _ (aC (aE))));rwa[rQ (n3 g) (.inl rfl) gr];erw[aX d.self];erw[nF (b6 b)];have X:(A.ma,eH A.pg A.w A.giv s'.fuel A.m A.pl A.rv A.gl A.la A.frs A.pr s'.out)∈((c.set A.frs (VO.list [])).length,VO.list [])::(((y.length,VO.list ((l9 s.ho).map .int))::(r,.list [v])::T)++(FX A s').set 7 (A.frs,.list [])):=aC (cG _ (aC (aC (aE))));have J:bT Y A.m A.al s'.σ ((((c.set A.frs (VO.list [])).length,VO.list [])::((y.length,VO.list ((l9 s.ho).map .int))::(r,.list [v])::T))++((FX A s').set 7 (A.frs,.list [])).set 2 (A.ma,eH A.pg A.w A.giv s'.fuel A.m A.pl A.rv A.gl A.la A.frs A.pr (.tup [.str "done",v]))) ((c.set A.frs (VO.list [])++[VO.list []]).set A.ma (eH A.pg A.w A.giv s'.fuel A.m A.pl A.rv A.gl A.la A.frs A.pr (.tup [.str "done",v]))):=bT.tC (i:=2) U rfl;refine q v _ e ⟨?_,?_,λa o h=>J.base h⟩;·refine cM Q.fuel ?_;exact J.get (cG _ (aC (aC (aE))))
  ·refine cM hp ?_;exact J.get (cG _ (aC (aC (aC (aE)))))
end
set_option genCtorIdx false in
inductive dT where
 |goto(g:Nat)
 |wX(o:Op)(g d:Nat)
 |qA(o:Op)(g h:Nat)(d:Option Nat)
 |tO(o:Op)(e:Bool)(g:Nat)
 |ret
 |panic
 |ED
noncomputable def encD:Option Nat->V
 |none=>.none
 |some d=>.int d
noncomputable def dT.enc:dT->V
 |.goto g=>.tup [.str "goto",.int g]
 |.wX o g d=>.tup [.str "switch",o.enc,.tup [.tup [.bool false,.int g]],.int d]
 |.qA o g h d=>.tup [.str "switch",o.enc,.tup [.tup [.int 0,.int g],.tup [.int 1,.int h]],encD d]
 |.tO o e g=>.tup [.str "assert",o.enc,.bool e,.str "not so",.int g]
 |.ret=>.tup [.str "return"]
 |.panic=>.tup [.str "panic",.str "stop"]
 |.ED=>.tup [.str "unreachable"]
set_option genCtorIdx false in
inductive Gl where
 |at_(g:Nat)
 |out(v:V)
 |no(f:Str)
def dT.Ok(many:Nat):dT->Prop
 |.goto g=>g<many
 |.wX o g d=>o.pI/\g<many/\d<many
 |.qA o g h d=>o.Num/\g<many/\h<many/\∀x,d=some x->x<many
 |.tO o _ g=>o.pI/\g<many
 |_=>True
noncomputable def nK(g h:Nat)(d:Option Nat)(i:Int):Gl:=if i=0 then .at_ g else if i=1 then .at_ h else match d with
 |none=>.no "unreachable"
 |some d=>.at_ d
noncomputable def sM(e:Bool)(g:Nat)(b:Bool):Gl:=if b=e then .at_ g else .out (.tup [.str "panic",.str "not so"])
noncomputable def bW(S:St):dT->Gl
 |.goto g=>.at_ g
 |.wX o g d=>match(bI S o).1 with
  |.no f=>.no f
  |.ok vs=>match vs with
   |[.bool b]=>if b=false then .at_ g else .at_ d
   |_=>.no "?"
 |.qA o g h d=>match(bI S o).1 with
  |.no f=>.no f
  |.ok vs=>match vs with
   |[.int i]=>nK g h d i
   |_=>.no "?"
 |.tO o e g=>match(bI S o).1 with
  |.no f=>.no f
  |.ok vs=>match vs with
   |[.bool b]=>sM e g b
   |_=>.no "?"
 |.ret=>match cF S (.loc 0)with
  |.no f=>.no f
  |.ok vs=>match vs with
   |[v]=>.out (.tup [.str "done",v])
   |_=>.no "?"
 |.panic=>.out (.tup [.str "panic",.str "stop"])
 |.ED=>.no "unreachable"
noncomputable def DK:List Str:=["dropped","bounds","uninitialised","unreachable","fuel","?"]
def EV(v:V):Prop:=(∃e,e∈DK/\v=.str e)\/(∃i:Int,v=.tup [.str "done",.int i]/\-128<=i/\i<=127)\/v=.tup [.str "panic",.str "stop"]\/v=.tup [.str "panic",.str "not so"]
def fF(f:Str):Prop:=f∈DK
theorem f1:fF "dropped":=aE
theorem f2:fF "bounds":=aC (aE)
theorem f3:fF "uninitialised":=aC (aC (aE))
theorem f4:fF "unreachable":=aC (aC (aC (aE)))
theorem f5:fF "fuel":=aC (aC (aC (aC (aE))))
theorem f6:fF "?":=aC (aC (aC (aC (aC (aE)))))
def Sp.F:Sp->Prop
 |.ok _ _ _=>True
 |.no f=>fF f
def Rd.F:Rd->Prop
 |.ok _=>True
 |.no f=>fF f
def Gl.F(many:Nat):Gl->Prop
 |.at_ g=>g<many
 |.out v=>(∃l,v=.tup l)/\EV v
 |.no f=>fF f
section
variable{a b:Op}{rv:kE}{g:Nat}
theorem NU(W:WT S):(bF S p).F:=by
 induction p using Lw.cO.casesOn with
 |loc l=>cases a:S l with
  |none=>rwa[show bF S (.loc l)=.no "dropped"by delta bF;simp only[a]];exact f1
  |some cs=>rwa[show bF S (.loc l)=.ok l 0 cs.length by delta bF;simp only[a]];trivial
 |fld k=>trivial
 |idx=>cases a:S 8 with
  |none=>rwa[show bF S .idx=.no "uninitialised"by delta bF;simp only[a]];exact f3
  |some cs=>
   refine aW (W.ok 8 (by decide) cs a) λc aG h=>?_;subst aG;rcases h with rfl|⟨i,rfl,_⟩;·rwa[show bF S .idx=.no "uninitialised"by delta bF;simp only[a]];exact f3
   ·rwa[show bF S .idx=if(i:Int)<3 then .ok 7 (i:Int).toNat 1 else .no "bounds"by delta bF;simp only[a]];by_cases q:(i:Int)<3;·rwa[aI q];trivial
    ·rwa[aH q];exact f2
theorem C0(W:WT S):(cF S p).F:=by
 have h:=NU (p:=p) W
 cases e:bF S p with
 |no f=>rwa[pL e];rw[e]at h;exact h
 |ok l o z=>cases a:i8 (nV S l o z)with
  |none=>rwa[show cF S p=.no "uninitialised"by delta cF;simp only[e,a]];exact f3
  |some vs=>rwa[show cF S p=.ok vs by delta cF;simp only[e,a]];trivial
theorem m_(W:WT S):(bI S a).1.F:=by
 induction a using Lw.Op.casesOn with
 |cp p=>exact C0 W
 |mv l=>
  have h:=C0 (p:=.loc l) W
  cases e:cF S (.loc l)with
  |no f=>rwa[show bI S (.mv l)=(.no f,S)by delta bI;simp only[e]];rw[e]at h;exact h
  |ok vs=>rwa[show bI S (.mv l)=(.ok vs,bS S l [none])by delta bI;simp only[e]];trivial
 |ci i=>trivial
 |cb i=>trivial
 |cu i=>trivial
theorem CR(W:WT S)(h:a.Num)(hb:b.Num):(eG S a b f).F:=by
 have d:=m_ (a:=a) W;have g:=m_ (a:=b) W
 cases e1:(bI S a).1 with
 |no e=>rwa[nH e1];rw[e1]at d;exact d
 |ok va=>
  refine aW (h.val W e1) λx cB _=>?_;subst cB
  cases c:(bI S b).1 with
  |no e=>rwa[nA e1 c];rw[c]at g;exact g
  |ok vb=>refine aW (hb.val W c) λy aG _=>?_;subst aG;rwa[pA e1 c];trivial
theorem Q0(W:WT S)(h:rv.Ok):(eR S rv).1.F:=by
 induction rv using Lw.kE.casesOn with
 |use o=>exact m_ W
 |bin m a b=>exact CR W h.1 h.2
 |qM m a b=>exact CR W h.1 h.2
 |cmp m a b=>exact CR W h.1 h.2
 |arr a b=>exact CR W h.1 h.2
theorem CY(W:WT S)(c:t.Ok many):(bW S t).F many:=by
 induction t using Lw.dT.casesOn with
 |goto g=>exact c
 |wX o g d=>
  have h:=m_ (a:=o) W
  cases e:(bI S o).1 with
  |no f=>rwa[show bW S (.wX o g d)=.no f by delta bW;simp only[e]];rw[e]at h;exact h
  |ok vs=>
   refine oE (c.1.val W e) λb k=>?_;subst k;rwa[show bW S (.wX o g d)=if b=false then .at_ g else .at_ d by delta bW;simp only[e]];clear e;cases b;·exact c.2.1
   ·exact c.2.2
 |qA o g x d=>
  have h:=m_ (a:=o) W
  cases e:(bI S o).1 with
  |no f=>rwa[show bW S (.qA o g x d)=.no f by delta bW;simp only[e]];rw[e]at h;exact h
  |ok vs=>
   refine aW (c.1.val W e) λi l _=>?_;subst l;rwa[show bW S (.qA o g x d)=nK g x d i by delta bW;simp only[e]];unfold nK;by_cases q1:i=0;·rwa[aI q1];exact c.2.1
   ·rwa[aH q1];by_cases q2:i=1;·rwa[aI q2];exact c.2.2.1
    ·rwa[aH q2]
     induction d using Option.casesOn with
     |none=>exact f4
     |some d=>exact c.2.2.2 d rfl
 |tO o e g=>
  have h:=m_ (a:=o) W
  cases e1:(bI S o).1 with
  |no f=>rwa[show bW S (.tO o e g)=.no f by delta bW;simp only[e1]];rw[e1]at h;exact h
  |ok vs=>
   refine oE (c.1.val W e1) λb cB=>?_;subst cB;rwa[show bW S (.tO o e g)=sM e g b by delta bW;simp only[e1]];unfold sM;by_cases q1:b=e;·rwa[aI q1];exact c.2
   ·rwa[aH q1];exact⟨⟨_,rfl⟩,.inr (.inr (.inr rfl))⟩
 |ret=>
  have h:=C0 (p:=.loc 0) W
  cases e:cF S (.loc 0)with
  |no f=>rwa[show bW S .ret=.no f by delta bW;simp only[e]];rw[e]at h;exact h
  |ok vs=>
   refine aW (nX W (show(cO.loc 0).Sc from⟨by decide,by decide,by decide⟩) e) λw aG j=>?_;subst aG;rwa[show bW S .ret=.out (.tup [.str "done",w])by delta bW;simp only[e]];refine⟨⟨_,rfl⟩,.inr (.inl ?_)⟩;have j:jO (some w):=j;clear e;rcases j with j|⟨i,j,m⟩;·exact wR j
   ·have n:=aM j;subst n;exact⟨i,rfl,m⟩
 |panic=>exact⟨⟨_,rfl⟩,.inr (.inr (.inl rfl))⟩
 |ED=>exact f4
theorem H_(W:WT S)(hm:t.Ok many)(h:bW S t=.at_ g):g<many:=by have q:=CY W hm;rw[h]at q;exact q
theorem DS(W:WT S)(hm:t.Ok many)(h:bW S t=.out v):∃l,v=.tup l:=by have q:=CY W hm;rw[h]at q;exact q.1
end
section
variable{s':Ms}{F:List (Nat×VO)}{l:Nat}{t w:V}{o:Op}
theorem eK{a:Int}:cP .Eq (.int a) (.int b) H kk=kk (decide (a=b)):=rfl
theorem yP{a b:Bool}:cP .Eq (.bool a) (.bool b) H kk=kk (a==b):=rfl
theorem is_none:cP .Is .none .none H kk=kk true:=rfl
theorem WU(M:MR A {s with out:=v} T Y H):uS A s.fuel s.prints v Y H:=⟨M.ma,M.pr,λa o h=>bT.base M h⟩
theorem SG(M:MR A s T Y H):uS A s.fuel s.prints v Y (H.set A.ma (eH A.pg A.w A.giv s.fuel A.m A.pl A.rv A.gl A.la A.frs A.pr v)):=by have a:MR A {s with out:=v} T Y (H.set A.ma (eH A.pg A.w A.giv s.fuel A.m A.pl A.rv A.gl A.la A.frs A.pr v)):=M.set (i:=2) rfl rfl rfl;exact WU a
theorem TT(c:11<=n)(W:WT S)(R:dK s S)(M:MR A s T Y H)(B:Md A Y)(hp:o.pI)(d:s.σ.length<=900)(q:∀b:Bool,∀a r,(bI S o).1=.ok [.bool b]->MR A s ((r,.list [.bool b])::T) Y a->P (k (.tup [.ref r,o.ty]) a))(g:∀f a,(bI S o).1=.no f->MR A s T Y a->P (eD f a)):P (aA n (.aL "Places" "taken") [.ref A.pl,.ref A.fr,o.enc] H k):=by refine FH c W R M B hp.Ok hp.nt d (λvs h r e i=>?_) g;refine oE (hp.val W e) λb aG=>?_;subst aG;exact q b h r e i
theorem Bw{t:dT}(j:13<=n)(W:WT S)(R:dK s S)(hk:g_ s.ho)(M:MR A s T Y H)(B:Md A Y)(F:s.fs=[.ref A.fr])(z:t.Ok many)(C:s.σ.length<=900)(q:∀g w,bW S t=.at_ g->MR A {s with blk:=g,idx:=0} T Y w->P (k .none w))(E:∀v w,bW S t=.out v->uS A s.fuel s.prints v Y w->P (k .none w))(y:∀f w,bW S t=.no f->MR A s T Y w->P (eD f w)):P (aA n (.aL "Machine" "do_terminator") [.ref A.ma,.ref A.fr,t.enc] H k):=by
 refine oE (su 2 j) λn aG=>?_;subst aG
 induction t using Lw.dT.casesOn with
 |goto g=>unfold dT.enc;erw[JW];erw[kX M.fr];erw[aK];exact w8 (n3 j) M λc a=>q g c rfl a
 |wX o g d=>
  unfold dT.enc;erw[u0];erw[pU M.ma];erw[aK];erw[OG];erw[fY M.ma];erw[eV M.pl];erw[aK];refine TT (n5 j) W R M B z.1 C (λb c r e a=>?_) λf c e a=>y f c (by delta bW;simp only[e]) a;erw[dB (l:=[.ref r,o.ty]) rfl];erw[aY a.kR (v:=.bool b) rfl];erw[yP]
  induction b using Bool.casesOn with
  |false=>rwa[show(false==false)=true from rfl];erw[bZ];erw[k_];erw[bC];erw[kX a.fr];erw[aK];exact w8 (n5 j) a.drop λm p=>q g m (by delta bW;simp only[e];rfl) p
  |true=>rwa[show(false==true)=false from rfl];erw[bC];erw[k_];erw[bC];erw[kX a.fr];erw[aK];exact w8 (n5 j) a.drop λm p=>q d m (by delta bW;simp only[e];rfl) p
 |qA o g h d=>
  unfold dT.enc;erw[u0];erw[pU M.ma];erw[aK];erw[NE];erw[fY M.ma];erw[eV M.pl];erw[aK];refine vY (n5 j) W R M B z.1 C (λi c r e G I a=>?_) λf c e a=>y f c (by delta bW;simp only[e]) a;have x:bW S (.qA o g h d)=nK g h d i:=by delta bW;simp only[e]
  erw[dB (l:=[.ref r,bH]) rfl];erw[aY a.kR (v:=.int i) rfl];erw[eK];by_cases u:i=0;·rwa[cC u.symm];erw[bZ];erw[k_];erw[bC];erw[kX a.fr];erw[aK];exact w8 (n5 j) a.drop λm p=>q g m (by rwa[x];unfold nK;rwa[aI u];rfl) p
  ·rwa[cU (λe=>u e.symm)];erw[bC];erw[eK];by_cases q1:i=1;·rwa[cC q1.symm];erw[bZ];erw[k_];erw[bC];erw[kX a.fr];erw[aK];exact w8 (n5 j) a.drop λm p=>q h m (by rwa[x];unfold nK;rwa[aH u];rwa[aI q1];rfl) p
   ·rwa[cU (λe=>q1 e.symm)];erw[bC];clear z E;induction d using Option.casesOn with
    |none=>rwa[show encD none=V.none from rfl];erw[is_none];erw[bZ];exact y _ c (by rwa[x];unfold nK;rwa[aH u];rwa[aH q1];rfl) a.drop
    |some d=>rwa[show encD (some d)=V.int d from rfl];erw[k_];erw[bC];erw[kX a.fr];erw[aK];exact w8 (n5 j) a.drop λm p=>q d m (by rwa[x];unfold nK;rwa[aH u];rwa[aH q1];rfl) p
 |tO o e g=>
  unfold dT.enc;erw[EG];erw[xB M.ma];erw[aK];erw[Q2];erw[fY M.ma];erw[eV M.pl];erw[aK];refine TT (n5 j) W R M B z.1 C (λb c r h a=>?_) λf c h a=>y f c (by delta bW;simp only[h]) a;have x:bW S (.tO o e g)=sM e g b:=by delta bW;simp only[h]
  erw[dB (l:=[.ref r,o.ty]) rfl];erw[aY a.kR (v:=.bool b) rfl];erw[yP];by_cases u:b=e;·rwa[show(b==e)=true by simpa using u];erw[bZ];erw[kX a.fr];erw[aK];exact w8 (n5 j) a.drop λm p=>q g m (by rwa[x];unfold sM;rwa[aI u];rfl) p
  ·rwa[show(b==e)=false by simpa using u];erw[bC];erw[nF a.ma];exact E _ _ (by rwa[x];unfold sM;rwa[aH u];rfl) (SG a)
 |ret=>unfold dT.enc;erw[E0];erw[DB M.ma];erw[aK];exact VC (n3 j) W R hk M B F C (λv c e D=>E _ c (by delta bW;simp only[e]) D) λf c e a=>y f c (by delta bW;simp only[e]) a
 |panic=>unfold dT.enc;erw[HC];erw[nF M.ma];exact E _ _ rfl (SG M)
 |ED=>unfold dT.enc;erw[CH];exact y _ H rfl M
structure TC(A:wK)(Y:VH)(bs:List (List bM×dT)):Prop where
 bl:∃rs:List Nat,Y[A.bl]?=some (VO.list (rs.map V.ref))/\rs.length<=900/\∀(i:Nat)(b:List bM×dT),bs[i]?=some b->∃r rr,rs[i]?=some r/\Y[r]?=some (VO.list [V.ref rr,b.2.enc])/\Y[rr]?=some (VO.list (b.1.map bM.enc))
 ok:∀b∈bs,b.1.length<=900/\(∀st∈b.1,st.Ok)/\b.2.Ok bs.length
theorem sA{a b:V}{K:V->V->Res}(h:H[x]?=some (.list [a,b])):gC (.ref x) H K=K a b:=by unfold gC;rwa[nQ h];rfl
theorem K_{b:Nat}{t:dT}(J:15<=n)(W:WT S)(R:dK s S)(hk:g_ s.ho)(M:MR A s T Y H)(B:Md A Y)(C:TC A Y bs)(N:s.σ.length<=800)(O:s.prints.length<=1000)(hb:s.blk=b)(hi:s.idx=i)(o:bs[b]?=some (rows,t))(m:rows[i]?=some st)(q:∀S' s' vs p,dA S st=(none,S',vs)->s'.σ.length<=s.σ.length+1->g_ s'.ho->WT S'->dK s' S'->Keeps {s with idx:=(i:Int)+1} s'->s'.prints=s.prints++vs->vs.length<=1->MR A s' T Y p->P (k .none p))(Q:∀f s' p,(dA S st).1=some f->s'.prints=s.prints->MR A s' T Y p->P (eD f p)):P (aA n (.aL "Machine" "step") [.ref A.ma,.ref A.fr] H k):=by refine oE (su 1 J) λn aG=>?_;subst aG;refine i7 (B.body) λ_ _ _ x=>?_;refine cY (C.bl) λrs y U V=>?_;refine b_ (V b _ o) λr rr X Z K=>?_;refine gB (C.ok _ (eE o)) λu z _=>?_;have D:=(dN.mp m).1;have L:i<rows.length:=D;have E:rows.length<=900:=u;have l:MR A s T Y (H++[VO.list []]):=M.app;have gl:∀{H:VH},MR A s T Y H->H[rr]?=some (.list (rows.map bM.enc)):=λM=>bT.base M K;have j:=l.fr;rw[hb,hi]at j;erw[sE];erw[wM M.fr];erw[nw_eq];erw[Nn (b6 M.jo) cW];erw[bC];erw[fO l.fr];rwa[j1 (bT.base l x)];erw[uM j];refine rw1 (aY (bT.base l y) (fB (v:=.ref r) (by rwa[e_];rwa[X];rfl) (by rw[bO];lia)) ..) ?_;rwa[sA (bT.base l Z)];erw[mY j];erw[eU (gl l) (by rw[bO];lia)];erw[yQ (by rw[bO];lia)];erw[bZ];erw[mY j];erw[zN];erw[u8 l.fr];have w:MR A {s with idx:=(i:Int)+1} T Y ((H++[VO.list []]).set A.fr (l_ A.b A.ho s.blk ((i:Int)+1) A.jo)):=l.set (i:=1) rfl rfl rfl;erw[tX w.ma];erw[mY w.fr];erw[sub_int];rwa[show(i:Int)+1-1=((i:Nat):Int)by lia];rwa[aY (bT.base w K) (fB (v:=st.enc) (by rwa[e_];rwa[m];rfl) (by rw[bO];lia))];erw[aK];exact Cu (s:={s with idx:=(i:Int)+1}) (n3 J) W (R.to rfl rfl) hk w B (z st (eE m)) N O (λS1 F vs G a b c d e f g h I=>q S1 F vs G a b c d e f g h I) λf F G a b I=>Q f F G a b I
theorem KC{b:Nat}{t:dT}(u:15<=n)(W:WT S)(R:dK s S)(hk:g_ s.ho)(M:MR A s T Y H)(B:Md A Y)(C:TC A Y bs)(j:s.fs=[.ref A.fr])(w:s.σ.length<=800)(hb:s.blk=b)(hi:s.idx=i)(e:bs[b]?=some (rows,t))(x:rows.length<=i)(q:∀g a,bW S t=.at_ g->MR A {s with blk:=g,idx:=0} T Y a->P (k .none a))(y:∀v a,bW S t=.out v->uS A s.fuel s.prints v Y a->P (k .none a))(z:∀f a,bW S t=.no f->MR A s T Y a->P (eD f a)):P (aA n (.aL "Machine" "step") [.ref A.ma,.ref A.fr] H k):=by refine oE (su 1 u) λn aG=>?_;subst aG;refine i7 (B.body) λ_ _ _ l=>?_;refine cY (C.bl) λrs m D E=>?_;refine b_ (E b _ e) λr rr F G I=>?_;refine gB (C.ok _ (eE e)) λh _ o=>?_;have p:rows.length<=900:=h;have c:MR A s T Y (H++[VO.list []]):=M.app;have gl:∀{H:VH},MR A s T Y H->H[rr]?=some (.list (rows.map bM.enc)):=λM=>bT.base M I;have d:=c.fr;rw[hb,hi]at d;erw[sE];erw[wM M.fr];erw[nw_eq];erw[Nn (b6 M.jo) cW];erw[bC];erw[fO c.fr];rwa[j1 (bT.base c l)];erw[uM d];refine rw1 (aY (bT.base c m) (fB (v:=.ref r) (by rwa[e_];rwa[F];rfl) (by rw[bO];lia)) ..) ?_;rwa[sA (bT.base c G)];erw[mY d];erw[eU (gl c) (by rw[bO];lia)];erw[vC (by rw[bO];lia)];erw[bC];erw[sZ c.ma];erw[aK];exact Bw (n3 u) W R hk c B j o (by exact fS w (by decide)) q y z
end
noncomputable def eW(bs:List (List bM×dT)):Nat->St->Nat->Nat->List V->V×List V
 |0,_,_,_,pr=>(.str "fuel",pr)
 |f+1,S,b,i,pr=>match bs[b]? with
  |none=>(.str "?",pr)
  |some (rows,t)=>match rows[i]? with
   |some st=>match dA S st with
    |(some e,_,_)=>(.str e,pr)
    |(none,S',vs)=>eW bs f S' b (i+1) (pr++vs)
   |none=>match bW S t with
    |.at_ g=>eW bs f S g 0 pr
    |.out v=>(v,pr)
    |.no e=>(.str e,pr)
abbrev EJ:Loc->VH->(Bool->VH->Res)->Res:=λa H b=>gL "self" a λc=>gA c "outcome" H λd=>cP .Is d .none H λe=>b e H
abbrev JH(n:Nat):Loc->VH->Kf->Res:=λa H e=>gL "self" a λf=>gA f "fuel" H λg=>cP .LtE g (.int 0) H λh=>iT h (.exc "FuelFault" "" H) (gL "self" a λb=>gA b "fuel" H λi=>iZ .Sub i (.int 1) λj=>Ls b "fuel" j H λH=>gL "self" a λc=>mO c "step" H λd=>gL "self" a λk=>gA k "frames" H λl=>gI l (.int (-1)) H λm=>aJ (aA n) d c "step" [m] H λo H=>e .next a H)
def Kk(test:Loc->VH->(Bool->VH->Res)->Res)(body:Loc->VH->Kf->Res)(w:Nat)(k:Kf):Kf:=λa loc H=>match a with
 |.next=>kG test body w loc H k
 |.cont=>kG test body w loc H k
 |.brk=>k .next loc H
 |.ret v=>k (.ret v) loc H
def Km(test:Loc->VH->(Bool->VH->Res)->Res)(body:Loc->VH->Kf->Res)(w:Nat)(loc:Loc)(k:Kf)(b:Bool)(H:VH):Res:=match b with
 |true=>body loc H (Kk test body w k)
 |false=>k .next loc H
theorem sG{test:Loc->VH->(Bool->VH->Res)->Res}{body:Loc->VH->Kf->Res}{w:Nat}{k:Kf}:kG test body (w+1) loc H k=test loc H (Km test body w loc k):=rfl
theorem VE{a:Int}{kk:V->Res}:iZ .Sub (.int a) (.int b) kk=kk (.int (a-b)):=rfl
theorem ZF{a:Int}(h:¬a<=b):cP .LtE (.int a) (.int b) H kb=kb false:=by show kb (decide (a<=b))=_;rwa[cU h];rfl
def SO(A:wK)(pr:List V)(Y H:VH):Prop:=∃a o,uS A a pr o Y H
section
theorem MR.fin{pr:List V}(M:MR A s T Y H)(h:s.prints=pr):SO A pr Y H:=⟨s.fuel,s.out,M.ma,h▸M.pr,λa o h=>bT.base M h⟩
theorem NG{pl:List V}{f b:Nat}(hb:bs[b]?=none):eW bs (f+1) S b i pl=(V.str "?",pl):=by
 show(match bs[b]? with
  |none=>(V.str "?",pl)
  |some (rows,t)=>match rows[i]? with
   |some st=>match dA S st with
    |(some e,_,_)=>(V.str e,pl)
    |(none,S',vs)=>eW bs f S' b (i+1) (pl++vs)
   |none=>match bW S t with
    |.at_ g=>eW bs f S g 0 pl
    |.out v=>(v,pl)
    |.no e=>(V.str e,pl))=_;rwa[hb];rfl
theorem HI{pl:List V}{f b:Nat}(hb:bs[b]?=some (rows,t)):eW bs (f+1) S b i pl=match rows[i]? with
 |some st=>match dA S st with
  |(some e,_,_)=>(V.str e,pl)
  |(none,S',vs)=>eW bs f S' b (i+1) (pl++vs)
 |none=>match bW S t with
  |.at_ g=>eW bs f S g 0 pl
  |.out v=>(v,pl)
  |.no e=>(V.str e,pl):=by
 show(match bs[b]? with
  |none=>(V.str "?",pl)
  |some (rows,t)=>match rows[i]? with
   |some st=>match dA S st with
    |(some e,_,_)=>(V.str e,pl)
    |(none,S',vs)=>eW bs f S' b (i+1) (pl++vs)
   |none=>match bW S t with
    |.at_ g=>eW bs f S g 0 pl
    |.out v=>(v,pl)
    |.no e=>(V.str e,pl))=_;rwa[hb];rfl
theorem w_{S:St}{pl:List V}{f b:Nat}(hb:bs[b]?=some (rows,t))(hs:rows[i]?=some st):eW bs (f+1) S b i pl=match dA S st with
 |(some e,_,_)=>(.str e,pl)
 |(none,S',vs)=>eW bs f S' b (i+1) (pl++vs):=by rwa[HI hb];rwa[hs];rfl
theorem wY{S:St}{pl:List V}{f b:Nat}(hb:bs[b]?=some (rows,t))(hs:rows[i]?=none):eW bs (f+1) S b i pl=match bW S t with
 |.at_ g=>eW bs f S g 0 pl
 |.out v=>(v,pl)
 |.no e=>(.str e,pl):=by rwa[HI hb];rwa[hs];rfl
theorem ZJ{loc:Loc}{K:Kf}(O:15<=n)(B:Md A Y)(C:TC A Y bs)(k:aU "self" loc=some (.ref A.ma)):∀(f w:Nat)(S:St)(s:Ms)(H:VH)(b i:Nat),f<w->WT S->dK s S->g_ s.ho->MR A s T Y H->s.σ.length+f<=800->s.prints.length+f<=1000->s.blk=b->s.idx=i->s.fuel=f->s.out=.none->s.fs=[.ref A.fr]->b<bs.length->(∀e o pr,eW bs f S b i s.prints=(.str e,pr)->SO A pr Y o->P (eD e o))->(∀o pr,eW bs f S b i s.prints=(.str "fuel",pr)->SO A pr Y o->P (.exc "FuelFault" "" o))->(∀l o pr,eW bs f S b i s.prints=(V.tup l,pr)->(∃Z,uS A Z pr (.tup l) Y o)->P (K .next loc o))->P (kG EJ (JH n) w loc H K):=by
 intro f
 induction f with
 |zero=>intro w S s H b i hw W R hk M h9 h8 hb hi hf ho d u p qF r;refine oE (⟨w-1,by lia⟩:∃m,w=m+1) λw G=>?_;subst G;have ma:=M.ma;rw[ho,hf]at ma;erw[sG];unfold EJ JH;erw[aX k];erw[m9 ma];erw[is_none];show P (gL "self" loc _);erw[aX k];erw[rK ma];erw[JU (by decide)];erw[bZ];exact qF H _ rfl (M.fin rfl)
 |succ f Q=>
  intro w S s H b i hw W R hk M h9 h8 hb hi hf ho d u p qF r;refine oE (⟨w-1,by lia⟩:∃m,w=m+1) λw I=>?_;subst I;have ma:=M.ma;rw[ho,hf]at ma;erw[sG];unfold EJ JH;erw[aX k];erw[m9 ma];erw[is_none];show P (gL "self" loc _);erw[aX k];erw[rK ma];erw[ZF (by lia)];erw[bC];erw[aX k];erw[rK ma];erw[VE];erw[G6 M.ma];have x:MR A {s with fuel:=((f+1:Nat):Int)-1} T Y (H.set A.ma (eH A.pg A.w A.giv (((f+1:Nat):Int)-1) A.m A.pl A.rv A.gl A.la A.frs A.pr s.out)):=M.set (i:=2) rfl rfl rfl;erw[aX k];erw[GS x.ma];erw[aX k];erw[lM x.ma];erw[aY (show _=some (VO.list [.ref A.fr])from d▸x.frs) (i:=-1) (v:=.ref A.fr) (by kernel_rfl)];erw[aK];have y:((f+1:Nat):Int)-1=(f:Int):=by lia
  cases c:bs[b]? with
  |none=>rw[List.getElem?_eq_none_iff]at c;lia
  |some blk=>
   obtain⟨rows,t⟩:=blk
   cases h:rows[i]? with
   |some st=>
    have run:=w_ (S:=S) (pl:=s.prints) (f:=f) c h;refine K_ (s:={s with fuel:=((f+1:Nat):Int)-1}) O W (R.to rfl rfl) hk x B C (by show s.σ.length<=800;lia) (by show s.prints.length<=1000;lia) hb hi c h (λU z vs j e hl J W1 R1 E hp b6 q=>?_) λe z j he hp q=>?_
    ·rw[e]at run;have run':eW bs (f+1) S b i s.prints=eW bs f U b (i+1) z.prints:=by rwa[run];rwa[hp];rfl
     rw[run']at p qF r;have b7:z.σ.length<=s.σ.length+1:=hl;have b8:z.prints.length<=s.prints.length+1:=by rwa[hp];rwa[List.length_append];show s.prints.length+_<=_;lia
     exact Q w U z j b (i+1) (by lia) W1 R1 J q (by lia) (by lia) (E.blk.trans hb) (E.idx.trans (by show(i:Int)+1=_;lia)) (E.fuel.trans y) (E.out.trans ho) (E.fs.trans d) u p qF r
    ·cases X:dA S st with
     |mk a bc=>rw[X]at he;have L:a=some e:=he;subst L;rw[X]at run;exact p e j _ run (q.fin hp)
   |none=>
    have N:rows.length<=i:=by rw[List.getElem?_eq_none_iff]at h;exact h
    refine gB (C.ok _ (eE c)) λ_ _ F=>?_;have run:=wY (S:=S) (pl:=s.prints) (f:=f) c h;refine KC (s:={s with fuel:=((f+1:Nat):Int)-1}) O W (R.to rfl rfl) hk x B C d (by show s.σ.length<=800;lia) hb hi c N (λg j e q=>?_) (λv j e D=>?_) λe j he q=>?_;·rw[e]at run;have run':eW bs (f+1) S b i s.prints=eW bs f S g 0 s.prints:=run;rw[run']at p qF r;exact Q w S {s with fuel:=((f+1:Nat):Int)-1,blk:=(g:Int),idx:=0} j g 0 (by lia) W (R.to rfl rfl) hk q (by show s.σ.length+f<=800;lia) (by show s.prints.length+f<=1000;lia) rfl rfl y ho d (H_ W F e) p qF r
    ·refine oE (DS W F e) λl cB=>?_;subst cB;rw[e]at run;refine oE (⟨w-1,by lia⟩:∃m,w=m+1) λw aG=>?_;subst aG;show P (kG EJ (JH n) (w+1) loc j K);erw[sG];unfold EJ;erw[aX k];erw[n_ D.ma];exact r _ j s.prints run ⟨_,D⟩
    ·rw[he]at run;exact p e j s.prints run (MR.fin q rfl)
end
theorem KA{k:VH->Res}(h:H[r]?=some (.inst "Memory" [])):Ls (.ref r) "allocations" x0 H k=k (H.set r (.inst "Memory" [("allocations",x0)])):=by rwa[bE h];kernel_rfl
theorem KR{k:VH->Res}(h:H[r]?=some (.inst "Memory" [("allocations",x0)])):Ls (.ref r) "tags" x1 H k=k (H.set r (.inst "Memory" [("allocations",x0),("tags",x1)])):=by rwa[bE h];kernel_rfl
theorem J5{k:VH->Res}(h:H[r]?=some (.inst "Places" [])):Ls (.ref r) "memory" x0 H k=k (H.set r (.inst "Places" [("memory",x0)])):=by rwa[bE h];kernel_rfl
theorem JM{k:VH->Res}(h:H[r]?=some (.inst "Places" [("memory",x0)])):Ls (.ref r) "world" x1 H k=k (H.set r (.inst "Places" [("memory",x0),("world",x1)])):=by rwa[bE h];kernel_rfl
theorem GH{k:VH->Res}(h:H[r]?=some (.inst "Rvalues" [])):Ls (.ref r) "places" x0 H k=k (H.set r (.inst "Rvalues" [("places",x0)])):=by rwa[bE h];kernel_rfl
theorem GI{k:VH->Res}(h:H[r]?=some (.inst "Rvalues" [("places",x0)])):Ls (.ref r) "world" x1 H k=k (H.set r (.inst "Rvalues" [("places",x0),("world",x1)])):=by rwa[bE h];kernel_rfl
theorem CW{k:VH->Res}(h:H[r]?=some (.inst "DropGlue" [])):Ls (.ref r) "places" x0 H k=k (H.set r (.inst "DropGlue" [("places",x0)])):=by rwa[bE h];kernel_rfl
theorem E6{k:VH->Res}(h:H[r]?=some (.inst "DropGlue" [("places",x0)])):Ls (.ref r) "world" x1 H k=k (H.set r (.inst "DropGlue" [("places",x0),("world",x1)])):=by rwa[bE h];kernel_rfl
theorem LS{k:VH->Res}(h:H[r]?=some (.inst "Frame" [])):Ls (.ref r) "body" x0 H k=k (H.set r (.inst "Frame" [("body",x0)])):=by rwa[bE h];kernel_rfl
theorem MH{k:VH->Res}(h:H[r]?=some (.inst "Frame" [("body",x0)])):Ls (.ref r) "target" x1 H k=k (H.set r (.inst "Frame" [("body",x0),("target",x1)])):=by rwa[bE h];kernel_rfl
theorem PM{k:VH->Res}(h:H[r]?=some (.inst "Frame" [("body",x0),("target",x1)])):Ls (.ref r) "after" x2 H k=k (H.set r (.inst "Frame" [("body",x0),("target",x1),("after",x2)])):=by rwa[bE h];kernel_rfl
theorem MK{k:VH->Res}(h:H[r]?=some (.inst "Frame" [("body",x0),("target",x1),("after",x2)])):Ls (.ref r) "homes" x3 H k=k (H.set r (.inst "Frame" [("body",x0),("target",x1),("after",x2),("homes",x3)])):=by rwa[bE h];kernel_rfl
theorem OL{k:VH->Res}(h:H[r]?=some (.inst "Frame" [("body",x0),("target",x1),("after",x2),("homes",x3)])):Ls (.ref r) "block" x4 H k=k (H.set r (.inst "Frame" [("body",x0),("target",x1),("after",x2),("homes",x3),("block",x4)])):=by rwa[bE h];kernel_rfl
theorem MF{k:VH->Res}(h:H[r]?=some (.inst "Frame" [("body",x0),("target",x1),("after",x2),("homes",x3),("block",x4)])):Ls (.ref r) "index" x5 H k=k (H.set r (.inst "Frame" [("body",x0),("target",x1),("after",x2),("homes",x3),("block",x4),("index",x5)])):=by rwa[bE h];kernel_rfl
theorem PA{k:VH->Res}(h:H[r]?=some (.inst "Frame" [("body",x0),("target",x1),("after",x2),("homes",x3),("block",x4),("index",x5)])):Ls (.ref r) "jobs" x6 H k=k (H.set r (.inst "Frame" [("body",x0),("target",x1),("after",x2),("homes",x3),("block",x4),("index",x5),("jobs",x6)])):=by rwa[bE h];kernel_rfl
theorem GP{k:VH->Res}(h:H[r]?=some (.inst "Machine" [])):Ls (.ref r) "program" x0 H k=k (H.set r (.inst "Machine" [("program",x0)])):=by rwa[bE h];kernel_rfl
theorem GN{k:VH->Res}(h:H[r]?=some (.inst "Machine" [("program",x0)])):Ls (.ref r) "world" x1 H k=k (H.set r (.inst "Machine" [("program",x0),("world",x1)])):=by rwa[bE h];kernel_rfl
theorem GL{k:VH->Res}(h:H[r]?=some (.inst "Machine" [("program",x0),("world",x1)])):Ls (.ref r) "inputs" x2 H k=k (H.set r (.inst "Machine" [("program",x0),("world",x1),("inputs",x2)])):=by rwa[bE h];kernel_rfl
theorem G1{k:VH->Res}(h:H[r]?=some (.inst "Machine" [("program",x0),("world",x1),("inputs",x2)])):Ls (.ref r) "fuel" x3 H k=k (H.set r (.inst "Machine" [("program",x0),("world",x1),("inputs",x2),("fuel",x3)])):=by rwa[bE h];kernel_rfl
theorem F_{k:VH->Res}(h:H[r]?=some (.inst "Machine" [("program",x0),("world",x1),("inputs",x2),("fuel",x3)])):Ls (.ref r) "memory" x4 H k=k (H.set r (.inst "Machine" [("program",x0),("world",x1),("inputs",x2),("fuel",x3),("memory",x4)])):=by rwa[bE h];kernel_rfl
theorem G3{k:VH->Res}(h:H[r]?=some (.inst "Machine" [("program",x0),("world",x1),("inputs",x2),("fuel",x3),("memory",x4)])):Ls (.ref r) "places" x5 H k=k (H.set r (.inst "Machine" [("program",x0),("world",x1),("inputs",x2),("fuel",x3),("memory",x4),("places",x5)])):=by rwa[bE h];kernel_rfl
theorem GF{k:VH->Res}(h:H[r]?=some (.inst "Machine" [("program",x0),("world",x1),("inputs",x2),("fuel",x3),("memory",x4),("places",x5)])):Ls (.ref r) "rvalues" x6 H k=k (H.set r (.inst "Machine" [("program",x0),("world",x1),("inputs",x2),("fuel",x3),("memory",x4),("places",x5),("rvalues",x6)])):=by rwa[bE h];kernel_rfl
theorem GO{k:VH->Res}(h:H[r]?=some (.inst "Machine" [("program",x0),("world",x1),("inputs",x2),("fuel",x3),("memory",x4),("places",x5),("rvalues",x6)])):Ls (.ref r) "glue" x7 H k=k (H.set r (.inst "Machine" [("program",x0),("world",x1),("inputs",x2),("fuel",x3),("memory",x4),("places",x5),("rvalues",x6),("glue",x7)])):=by rwa[bE h];kernel_rfl
theorem G5{a:V}{k:VH->Res}(h:H[r]?=some (.inst "Machine" [("program",x0),("world",x1),("inputs",x2),("fuel",x3),("memory",x4),("places",x5),("rvalues",x6),("glue",x7)])):Ls (.ref r) "late" a H k=k (H.set r (.inst "Machine" [("program",x0),("world",x1),("inputs",x2),("fuel",x3),("memory",x4),("places",x5),("rvalues",x6),("glue",x7),("late",a)])):=by rwa[bE h];kernel_rfl
theorem GM{a b:V}{k:VH->Res}(h:H[r]?=some (.inst "Machine" [("program",x0),("world",x1),("inputs",x2),("fuel",x3),("memory",x4),("places",x5),("rvalues",x6),("glue",x7),("late",a)])):Ls (.ref r) "frames" b H k=k (H.set r (.inst "Machine" [("program",x0),("world",x1),("inputs",x2),("fuel",x3),("memory",x4),("places",x5),("rvalues",x6),("glue",x7),("late",a),("frames",b)])):=by rwa[bE h];kernel_rfl
theorem ES{b c a:V}{k:VH->Res}(h:H[r]?=some (.inst "Machine" [("program",x0),("world",x1),("inputs",x2),("fuel",x3),("memory",x4),("places",x5),("rvalues",x6),("glue",x7),("late",b),("frames",c)])):Ls (.ref r) "prints" a H k=k (H.set r (.inst "Machine" [("program",x0),("world",x1),("inputs",x2),("fuel",x3),("memory",x4),("places",x5),("rvalues",x6),("glue",x7),("late",b),("frames",c),("prints",a)])):=by rwa[bE h];kernel_rfl
theorem ER{c d a b:V}{k:VH->Res}(h:H[r]?=some (.inst "Machine" [("program",x0),("world",x1),("inputs",x2),("fuel",x3),("memory",x4),("places",x5),("rvalues",x6),("glue",x7),("late",c),("frames",d),("prints",a)])):Ls (.ref r) "outcome" b H k=k (H.set r (.inst "Machine" [("program",x0),("world",x1),("inputs",x2),("fuel",x3),("memory",x4),("places",x5),("rvalues",x6),("glue",x7),("late",c),("frames",d),("prints",a),("outcome",b)])):=by rwa[bE h];kernel_rfl
theorem MO{k:VH->Res}(h:H[r]?=some (.inst "World" [])):Ls (.ref r) "modules" x0 H k=k (H.set r (.inst "World" [("modules",x0)])):=by rwa[bE h];kernel_rfl
theorem NQ{k:VH->Res}(h:H[r]?=some (.inst "World" [("modules",x0)])):Ls (.ref r) "adts" x1 H k=k (H.set r (.inst "World" [("modules",x0),("adts",x1)])):=by rwa[bE h];kernel_rfl
theorem MP{k:VH->Res}(h:H[r]?=some (.inst "World" [("modules",x0),("adts",x1)])):Ls (.ref r) "variants" x2 H k=k (H.set r (.inst "World" [("modules",x0),("adts",x1),("variants",x2)])):=by rwa[bE h];kernel_rfl
theorem PE{k:VH->Res}(h:H[r]?=some (.inst "World" [("modules",x0),("adts",x1),("variants",x2)])):Ls (.ref r) "sigs" x3 H k=k (H.set r (.inst "World" [("modules",x0),("adts",x1),("variants",x2),("sigs",x3)])):=by rwa[bE h];kernel_rfl
theorem MY{k:VH->Res}(h:H[r]?=some (.inst "World" [("modules",x0),("adts",x1),("variants",x2),("sigs",x3)])):Ls (.ref r) "traits" x4 H k=k (H.set r (.inst "World" [("modules",x0),("adts",x1),("variants",x2),("sigs",x3),("traits",x4)])):=by rwa[bE h];kernel_rfl
theorem L4{k:VH->Res}(h:H[r]?=some (.inst "World" [("modules",x0),("adts",x1),("variants",x2),("sigs",x3),("traits",x4)])):Ls (.ref r) "impls" x5 H k=k (H.set r (.inst "World" [("modules",x0),("adts",x1),("variants",x2),("sigs",x3),("traits",x4),("impls",x5)])):=by rwa[bE h];kernel_rfl
theorem PG{k:VH->Res}(h:H[r]?=some (.inst "World" [("modules",x0),("adts",x1),("variants",x2),("sigs",x3),("traits",x4),("impls",x5)])):Ls (.ref r) "consts" x6 H k=k (H.set r (.inst "World" [("modules",x0),("adts",x1),("variants",x2),("sigs",x3),("traits",x4),("impls",x5),("consts",x6)])):=by rwa[bE h];kernel_rfl
theorem ND{k:VH->Res}(h:H[r]?=some (.inst "World" [("modules",x0),("adts",x1),("variants",x2),("sigs",x3),("traits",x4),("impls",x5),("consts",x6)])):Ls (.ref r) "bodies" x7 H k=k (H.set r (.inst "World" [("modules",x0),("adts",x1),("variants",x2),("sigs",x3),("traits",x4),("impls",x5),("consts",x6),("bodies",x7)])):=by rwa[bE h];kernel_rfl
theorem Q5{k:VH->Res}(h:H[r]?=some (.inst "Body" [])):Ls (.ref r) "name" x0 H k=k (H.set r (.inst "Body" [("name",x0)])):=by rwa[bE h];kernel_rfl
theorem QJ{k:VH->Res}(h:H[r]?=some (.inst "Body" [("name",x0)])):Ls (.ref r) "arg_count" x1 H k=k (H.set r (.inst "Body" [("name",x0),("arg_count",x1)])):=by rwa[bE h];kernel_rfl
theorem QV{k:VH->Res}(h:H[r]?=some (.inst "Body" [("name",x0),("arg_count",x1)])):Ls (.ref r) "locals" x2 H k=k (H.set r (.inst "Body" [("name",x0),("arg_count",x1),("locals",x2)])):=by rwa[bE h];kernel_rfl
theorem QU{k:VH->Res}(h:H[r]?=some (.inst "Body" [("name",x0),("arg_count",x1),("locals",x2)])):Ls (.ref r) "blocks" x3 H k=k (H.set r (.inst "Body" [("name",x0),("arg_count",x1),("locals",x2),("blocks",x3)])):=by rwa[bE h];kernel_rfl
theorem QR{k:VH->Res}(h:H[r]?=some (.inst "Body" [("name",x0),("arg_count",x1),("locals",x2),("blocks",x3)])):Ls (.ref r) "spots" x4 H k=k (H.set r (.inst "Body" [("name",x0),("arg_count",x1),("locals",x2),("blocks",x3),("spots",x4)])):=by rwa[bE h];kernel_rfl
section
variable{S:List Nat}{A:List (Nat×VO)}{b w pl:Nat}{X:Res}{kh:VH->Res}
theorem dZ{x:Str}(C:bN Y H S (A++(r,ob)::B))(e:∀{k:VH->Res},H[r]?=some ob->Ls (.ref r) x v H k=k (H.set r ob'))(q:∀a,bN Y a S (A++(r,ob')::B)->P (kh a)):P (Ls (.ref r) x v H kh):=by rwa[e (C.get (cG _ (aE)))];exact q _ C.set
theorem fW(C:bN Y H S L)(q:∀a r,bN Y a S ((r,ob)::L)->P (k (.ref r) a)):P (nw ob H k):=q _ _ C.new
theorem UU(a:1<=n)(C:bN Y H S L)(q:∀b al m,bN Y b S ((al,.list [])::(m,lG al 0)::L)->P (k (.ref m) b)):P (eL (aA n) "Memory" [] H k):=by refine oE (su 1 a) λn aG=>?_;clear a;subst aG;unfold eL;erw[FP];refine fW C.new λf al c=>?_;refine dZ (A:=[_]) c KA λg d=>?_;refine dZ (A:=[_]) d KR λh e=>?_;exact q _ al _ e
theorem Z5(a:1<=n)(C:bN Y H S L)(q:∀b pl,bN Y b S ((pl,nW m w)::L)->P (k (.ref pl) b)):P (eL (aA n) "Places" [.ref m,.ref w] H k):=by refine oE (su 1 a) λn aG=>?_;clear a;subst aG;unfold eL;erw[E4];refine dZ (A:=[]) C.new J5 λe c=>?_;refine dZ (A:=[]) c JM λf d=>?_;exact q _ _ d
theorem ZW(a:1<=n)(C:bN Y H S L)(h:(pl,nW m w)∈L)(q:∀b rv,bN Y b S ((rv,uR pl w)::L)->P (k (.ref rv) b)):P (eL (aA n) "Rvalues" [.ref pl] H k):=by refine oE (su 1 a) λn aG=>?_;clear a;subst aG;unfold eL;erw[BS];refine dZ (A:=[]) C.new GH λe c=>?_;rwa[d9 (c.get (aC h))];refine dZ (A:=[]) c GI λf d=>?_;exact q _ _ d
theorem Al(a:1<=n)(C:bN Y H S L)(h:(pl,nW m w)∈L)(q:∀b gl,bN Y b S ((gl,IP pl w)::L)->P (k (.ref gl) b)):P (eL (aA n) "DropGlue" [.ref pl] H k):=by refine oE (su 1 a) λn aG=>?_;clear a;subst aG;unfold eL;erw[AF];refine dZ (A:=[]) C.new CW λe c=>?_;rwa[d9 (c.get (aC h))];refine dZ (A:=[]) c E6 λf d=>?_;exact q _ _ d
theorem W0(a:1<=n)(C:bN Y H S L)(q:∀c jo ho fr,bN Y c S ((jo,.list [])::(ho,.dict [])::(fr,l_ b ho 0 0 jo)::L)->P (k (.ref fr) c)):P (eL (aA n) "Frame" [.ref b,.none,.none] H k):=by refine oE (su 1 a) λn aG=>?_;clear a;subst aG;unfold eL;erw[GV];refine dZ (A:=[]) C.new LS λo d=>?_;refine dZ (A:=[]) d MH λp e=>?_;refine dZ (A:=[]) e PM λr f=>?_;refine fW f λs ho g=>?_;refine dZ (A:=[_]) g MK λt h=>?_;refine dZ (A:=[_]) h OL λu i=>?_;refine dZ (A:=[_]) i MF λv j=>?_;refine fW j λw jo l=>?_;refine dZ (A:=[_,_]) l PA λx m=>?_;exact q _ jo ho _ m
theorem Y8{pg:Nat}{giv:List V}{fuel:Int}(a:2<=n)(C:bN Y H S L)(q:∀c pr frs la gl rv pl al m ma,bN Y c S ((pr,.list [])::(frs,.list [])::(la,.dict [])::(gl,IP pl w)::(rv,uR pl w)::(pl,nW m w)::(al,.list [])::(m,lG al 0)::(ma,eH pg w giv fuel m pl rv gl la frs pr .none)::L)->P (k (.ref ma) c)):P (eL (aA n) "Machine" [.ref pg,.ref w,.tup giv,.int fuel] H k):=by refine oE (su 1 a) λn aG=>?_;subst aG;unfold eL;erw[BQ];refine dZ (A:=[]) C.new GP λs C=>?_;refine dZ (A:=[]) C GN λt C=>?_;refine dZ (A:=[]) C GL λu C=>?_;refine dZ (A:=[]) C G1 λv C=>?_;refine UU (n3 a) C λx al m C=>?_;refine dZ (A:=[_,_]) C F_ λd C=>?_;show P (gA _ _ _ _);rwa[show∀{K:V->Res},gA (.ref H.length) "memory" d K=K (.ref m)fromλ{K}=>by rwa[cQ (C.get (aC (aC (aE))))];kernel_rfl];refine Z5 (n3 a) C λy pl C=>?_;refine dZ (A:=[_,_,_]) C G3 λe C=>?_;show P (gA _ _ _ _);rwa[show∀{K:V->Res},gA (.ref H.length) "places" e K=K (.ref pl)fromλ{K}=>by rwa[cQ (C.get (aC (aC (aC (aE)))))];kernel_rfl];refine ZW (n3 a) C (aE) λz rv C=>?_;refine dZ (A:=[_,_,_,_]) C GF λb C=>?_;show P (gA _ _ _ _);rwa[show∀{K:V->Res},gA (.ref H.length) "places" b K=K (.ref pl)fromλ{K}=>by rwa[cQ (C.get (aC (aC (aC (aC (aE))))))];kernel_rfl];refine Al (n3 a) C (aC (aE)) λf gl C=>?_;refine dZ (A:=[_,_,_,_,_]) C GO λg C=>?_;refine fW C λh la C=>?_;refine dZ (A:=[_,_,_,_,_,_]) C G5 λi C=>?_;refine fW C λj frs C=>?_;refine dZ (A:=[_,_,_,_,_,_,_]) C GM λl C=>?_;refine fW C λo pr C=>?_;refine dZ (A:=[_,_,_,_,_,_,_,_]) C ES λp C=>?_;refine dZ (A:=[_,_,_,_,_,_,_,_]) C ER λr C=>?_;exact q _ pr frs la gl rv pl al m _ C
end
noncomputable def bM.isLive:bM->Bool
 |.live=>true
 |_=>false
noncomputable def bM.word:bM->Str
 |.asg _ _=>"assign"
 |.live=>"live"
 |.dead=>"dead"
 |.i_ _=>"print"
theorem DX{kk:V->Res}:gI st.enc (.int 0) H kk=kk (.str st.word):=by
 induction st using Lw.bM.casesOn with
 |asg p rv=>exact dB (l:=[.str "assign",p.enc,rv.enc]) rfl
 |live=>exact dB (l:=[.str "live",.int 4]) rfl
 |dead=>exact dB (l:=[.str "dead",.int 4]) rfl
 |i_ o=>exact dB (l:=[.str "print",o.enc]) rfl
theorem A3:cP .Eq (.str st.word) (.str "live") H kk=kk st.isLive:=by
 induction st using Lw.bM.casesOn with
 |asg p rv=>exact uX (a:="assign") (t:=false) (by decide+kernel)
 |live=>exact uX (a:="live") (t:=true) (by decide+kernel)
 |dead=>exact uX (a:="dead") (t:=false) (by decide+kernel)
 |i_ o=>exact uX (a:="print") (t:=false) (by decide+kernel)
noncomputable def pF(b:Bool):List (V×V):=if b then[(.int 4,.bool true)]else[]
noncomputable def fG(bs:List (List bM×dT)):Bool:=bs.any λb=>b.1.any bM.isLive
section
variable{S:List Nat}{A:List (Nat×VO)}{fd rr:Nat}{X:Res}{K:Kf}
abbrev Ap:V->Loc->VH->Kf->Res:=λb a H i=>gL "statement" (aB "statement" b a) λc=>gI c (.int 0) H λd=>cP .Eq d (.str "live") H λe=>iT e (gL "found" (aB "statement" b a) λf=>gL "statement" (aB "statement" b a) λg=>gI g (.int 1) H λh=>Mc f h (.bool true) H λH=>i .next (aB "statement" b a) H) (i .next (aB "statement" b a) H)
theorem lZ{turn:V->Loc->VH->Kf->Res}:c9 src turn [] loc H K=sI src H (K .next loc H):=rfl
def Kq(src:VH->Bool)(turn:V->Loc->VH->Kf->Res)(l:List V)(K:Kf):Kf:=λa loc H=>match a with
 |.next=>c9 src turn l loc H K
 |.cont=>c9 src turn l loc H K
 |.brk=>K .next loc H
 |.ret v=>K (.ret v) loc H
theorem iF{turn:V->Loc->VH->Kf->Res}:c9 src turn (v::l) loc H K=sI src H (turn v loc H (Kq src turn l K)):=rfl
theorem xV(hr:Y[rr]?=some (.list (rows.map bM.enc))):∀(rest:List bM)(b:Bool)(loc:Loc)(H:VH)(K:Kf),aU "found" loc=some (.ref fd)->bN Y H S ((fd,.dict (pF b))::L)->(∀bL c,aU "found" bL=some (.ref fd)->bN Y c S ((fd,.dict (pF (b||rest.any bM.isLive)))::L)->P (K .next bL c))->P (c9 (jC rr (rows.map bM.enc)) Ap (rest.map bM.enc) loc H K)
 |[],b,loc,H,K,hf,C,q=>by rwa[List.map_nil];erw[lZ];erw[fM (C.base _ _ hr)];exact q loc H hf (by rwa[List.any_nil];rw[Bool.or_false];exact C)
 |st::rest,b,loc,H,K,hf,C,q=>by
  rwa[bX];erw[iF];erw[fM (C.base _ _ hr)];have a:aU "found" (aB "statement" st.enc loc)=some (.ref fd):=by rw[aR (by decide+kernel)];exact hf
  unfold Ap;erw[aX (bK loc)];erw[DX];erw[A3]
  cases e:st.isLive with
  |false=>erw[bC];refine xV hr rest b _ H K a C λbL c f d=>q bL c f ?_;rwa[List.any_cons];rwa[e];rw[Bool.false_or];exact d
  |true=>
   have he:st=.live:=by induction st using Lw.bM.casesOn<;>first|rfl|cases e
   subst he;erw[bZ];erw[aX a];erw[aX (bK loc)];rwa[show bM.enc .live=V.tup [.str "live",.int 4]from rfl];erw[dB (l:=[.str "live",.int 4]) rfl];rwa[jI (C.get (aE)) (by induction b using Bool.casesOn<;>rfl)];have d:bN Y (H.set fd (.dict (iQ (.int 4) (.bool true) (pF b)))) S ((fd,.dict (iQ (.int 4) (.bool true) (pF b)))::L):=C.set (A:=[]);rw[show iQ (.int 4) (.bool true) (pF b)=pF true by induction b using Bool.casesOn<;>rfl]at d⊢;refine xV hr rest true _ _ K a d λbL c f g=>q bL c f ?_;rwa[List.any_cons];rwa[e];have:(b||(true||rest.any bM.isLive))=(true||rest.any bM.isLive):=by induction b using Bool.casesOn<;>rfl
   rwa[this];exact g
abbrev XU:V->Loc->VH->Kf->Res:=λv2 a H e=>gC v2 H λc d=>gL "statements" (aB "terminator" d (aB "statements" c a)) λb=>f7 b Ap (aB "terminator" d (aB "statements" c a)) H (sq (λloc H k=>k .next loc H) (e))
structure pS(Y:VH)(rs:List Nat)(bs:List (List bM×dT)):Prop where
 len:rs.length=bs.length
 at_:∀(i:Nat)(b:List bM×dT),bs[i]?=some b->∃r rr,rs[i]?=some r/\Y[r]?=some (VO.list [V.ref rr,b.2.enc])/\Y[rr]?=some (VO.list (b.1.map bM.enc))
theorem pS.tail{rs:List Nat}{b:List bM×dT}(h:pS Y (x::rs) (b::bs)):pS Y rs bs:=⟨by have:=h.len;simpa using this,λi b hb=>h.at_ (i+1) b hb⟩
theorem FS(hr:Y[bl]?=some (VO.list (lst.map V.ref))):∀(rs:List Nat)(bs:List (List bM×dT))(b:Bool)(loc:Loc)(H:VH)(K:Kf),pS Y rs bs->aU "found" loc=some (.ref fd)->bN Y H S ((fd,.dict (pF b))::L)->(∀bL c,aU "found" bL=some (.ref fd)->bN Y c S ((fd,.dict (pF (b||fG bs)))::L)->P (K .next bL c))->P (c9 (jC bl (lst.map V.ref)) XU (rs.map V.ref) loc H K)
 |[],bs,b,loc,H,K,hb,hf,C,q=>by
  have:bs=[]:=by have:=hb.len;induction bs using List.casesOn with|nil=>rfl|cons a r=>simp at this
  subst this;rwa[List.map_nil];erw[lZ];erw[fM (C.base _ _ hr)];exact q loc H hf (by rwa[show fG []=false from rfl];rw[Bool.or_false];exact C)
 |x::rs,[],b,loc,H,K,hb,hf,C,q=>by have:=hb.len;simp at this
 |x::rs,(rows,t)::bs,b,loc,H,K,hb,hf,C,q=>by
  refine b_ (hb.at_ 0 (rows,t) rfl) λr rr h i g=>?_;have j:x=r:=by simpa using h
  subst j;rwa[bX];erw[iF];erw[fM (C.base _ _ hr)];unfold XU;have g1:aU "statements" (aB "terminator" t.enc (aB "statements" (.ref rr) loc))=some (.ref rr):=by rw[aR (by decide+kernel)];exact bK _
  have k:aU "found" (aB "terminator" t.enc (aB "statements" (.ref rr) loc))=some (.ref fd):=by rw[aR (by decide+kernel),aR (by decide+kernel)];exact hf
  erw[sA (C.base _ _ i)];erw[aX g1];erw[l0 (C.base _ _ g)];refine xV g rows b _ H _ k C λbL c e l=>?_;show P (c9 (jC bl (lst.map V.ref)) XU (rs.map V.ref) bL c K);refine FS hr rs bs _ bL c K hb.tail e l λd m f n=>q d m f ?_;have:(b||fG ((rows,t)::bs))=(b||rows.any bM.isLive||fG bs):=by show(b||(rows.any bM.isLive||fG bs))=_;rewrite[Bool.or_assoc];rfl
  rwa[this];exact n
theorem CZ{b:Nat}{ac:Int}(d:1<=n)(C:bN Y H S L)(hb:Y[b]?=some (qC nm ac lo bl sp))(hr:Y[bl]?=some (VO.list (lst.map V.ref)))(hB:pS Y lst bs)(q:∀a fd,bN Y a S ((fd,.dict (pF (fG bs)))::L)->P (k (.ref fd) a)):P (aA n (.top "told_live") [.ref b] H k):=by refine oE (su 1 d) λn aG=>?_;clear d;subst aG;erw[GZ];refine fW C λe fd c=>?_;erw[j1 (c.base _ _ hb)];erw[l0 (c.base _ _ hr)];refine FS hr lst bs false _ e _ hB (by kernel_rfl) c λbL a hf f=>?_;show P (gL "found" bL _);erw[aX hf];exact q a fd f
end
noncomputable def dQ(lv:Bool)(j:Nat):St:=λx=>if x<j/\¬(lv=true/\x=4)then some (List.replicate (mB x) none)else none
theorem uE(h:¬(lv=true/\j=4)):bS (dQ lv j) j (List.replicate (mB j) none)=dQ lv (j+1):=by
 funext x;unfold bS dQ;by_cases q:x=j;·subst q;rwa[aI rfl];rwa[aI ⟨by lia,h⟩];rfl
 ·rwa[aH q];by_cases q2:x<j/\¬(lv=true/\x=4);·rwa[aI q2];rwa[aI ⟨by lia,q2.2⟩];rfl
  ·rwa[aH q2];rwa[aH (λh=>q2 ⟨by lia,h.2⟩)];rfl
theorem zD(h:lv=true/\j=4):dQ lv j=dQ lv (j+1):=by
 funext x;unfold dQ;by_cases q2:x<j/\¬(lv=true/\x=4);·rwa[aI q2];rwa[aI ⟨by lia,q2.2⟩];rfl
 ·rwa[aH q2];rwa[aH (λa=>q2 ⟨by have:x≠j:=λe=>a.2 ⟨h.1,e.trans h.2⟩;lia,a.2⟩)];rfl
theorem F5:WT (dQ lv 9):=by
 refine⟨λl b cs a=>?_,λl b a=>?_⟩
 ·unfold dQ at a;by_cases q:l<9/\¬(lv=true/\l=4);·rw[aI q]at a;injection a with a;clear q;subst a;rcases(Ni (l:=l) (by assumption))with rfl|rfl|rfl|rfl|rfl|rfl|rfl|rfl|rfl;all_goals first|exact⟨none,rfl,.inl rfl⟩|exact⟨none,none,rfl,.inl rfl,.inl rfl⟩|exact⟨none,none,none,rfl,.inl rfl,.inl rfl,.inl rfl⟩
  ·rw[aH q]at a;exact dW a
 ·unfold dQ at a;by_cases q:l<9/\¬(lv=true/\l=4);·rw[aI q]at a;exact wR a
  ·by_cases q4:l=4;·exact q4
   ·exact aV ⟨b,λh=>q4 h.2⟩ q
section
variable{fd:Nat}{K:Kf}
theorem U6(h:H[fd]?=some (.dict (pF lv))):cP .NotIn (.int j) (.ref fd) H kk=kk (!(lv&&decide (j=4))):=by
 have hk:dR (.int j) (pF lv)=true:=by clear h;induction lv using Bool.casesOn<;>rfl
 rwa[kW h hk];clear h hk;induction lv using Bool.casesOn with
 |false=>rfl
 |true=>
  show kk (!(if hZ (.int 4) (.int j)=true then some (V.bool true)else none).isSome)=_;by_cases q:j=4;·subst q;rfl
  ·rwa[aH (by simp[jF];lia)];rwa[cU q];rfl
abbrev XO(n:Nat):V->Loc->VH->Kf->Res:=λb a H c=>gL "local" (aB "local" b a) λf=>gL "self" (aB "local" b a) λg=>gA g "late" H λh=>gL "key" (aB "local" b a) λi=>gI h i H λj=>cP .NotIn f j H λk=>iT k (gL "self" (aB "local" b a) λd=>mO d "make_home" H λe=>gL "frame" (aB "local" b a) λl=>gL "local" (aB "local" b a) λm=>aJ (aA n) e d "make_home" [l,m] H λo H=>c .next (aB "local" b a) H) (c .next (aB "local" b a) H)
structure wP(A:wK)(r:Nat)(loc:Loc):Prop where
 self:aU "self" loc=some (.ref A.ma)
 key:aU "key" loc=some (.str "f")
 frame:aU "frame" loc=some (.ref A.fr)
 rows:aU "rows" loc=some (.ref r)
theorem wP.step(h:wP A r loc){v:V}:wP A r (aB "local" v loc):=⟨by rw[aR (by decide+kernel)];exact h.self,by rw[aR (by decide+kernel)];exact h.key,by rw[aR (by decide+kernel)];exact h.frame,by rw[aR (by decide+kernel)];exact h.rows⟩
theorem wP.CU(h:wP A r loc){v:V}:wP A r (aB "k" v loc):=⟨by rw[aR (by decide+kernel)];exact h.self,by rw[aR (by decide+kernel)];exact h.key,by rw[aR (by decide+kernel)];exact h.frame,by rw[aR (by decide+kernel)];exact h.rows⟩
theorem Nm{s0:Ms}(o:6<=n)(B:Md A Y)(b:(A.la,.dict [(.str "f",.ref fd)])∈T)(c:(fd,.dict (pF lv))∈T)(q:∀d f bL y,wP A r bL->g_ d->f.length<=9->dK (s0.h d f) (dQ lv 9)->MR A (s0.h d f) T Y y->P (K .next bL y)):∀(m j:Nat)(ho:List (Nat×Nat))(σ:List (List V×Bool))(loc:Loc)(H:VH),j+m=9->wP A r loc->g_ ho->σ.length<=j->dK (s0.h ho σ) (dQ lv j)->MR A (s0.h ho σ) T Y H->P (c9 (λz9=>true) (XO n) (((List.range m).map λi=>V.int ((j+i:Nat):Int))) loc H K)
 |0,j,ho,σ,loc,H,C,p,hk,g,R,M=>by
  have:j=9:=by lia
  subst this;exact q ho σ loc H p hk g R M
 |m+1,j,ho,σ,loc,H,C,p,hk,g,R,M=>by
  have e:((List.range (m+1)).map λi=>V.int ((j+i:Nat):Int))=V.int (j:Int)::((List.range m).map λi=>V.int ((j+1+i:Nat):Int)):=by rwa[List.range_succ_eq_map];rwa[bX];rwa[List.map_map];congr 1;apply List.map_congr_left;intro i _;show V.int ((j+(i+1):Nat):Int)=V.int ((j+1+i:Nat):Int);rwa[show j+(i+1)=j+1+i by lia];rfl
  rwa[e];erw[iF];rw[show∀x:Res,sI (λz9=>true) H x=x fromλx=>rfl];have a:=p.step (v:=.int (j:Int));have t:H[A.la]?=some (.dict [(.str "f",.ref fd)]):=M.get (bY _ b);unfold XO;erw[aX (bK loc)];erw[aX a.self];erw[rC M.ma];erw[aX a.key];rwa[nB t (by rfl) (v:=.ref fd) (by kernel_rfl)];rwa[U6 (M.get (bY _ c))];by_cases k:lv=true/\j=4
  ·have:(!(lv&&decide (j=4)))=false:=by rwa[k.1];rwa[cC k.2];rfl
   rwa[this];erw[bC];refine Nm o B b c q m (j+1) ho σ _ H (by lia) a hk (by lia) ?_ M;refine cM (zD k) ?_;exact R
  ·have:(!(lv&&decide (j=4)))=true:=by
    induction lv using Bool.casesOn with
    |false=>rfl
    |true=>rwa[cU (λh=>k ⟨rfl,h⟩)];rfl
   rwa[this];erw[bZ];erw[aX a.self];erw[pG M.ma];erw[aX a.frame];erw[aX (bK loc)];erw[aK];refine PI (s:=s0.h ho σ) o R hk M B (by lia) (by show σ.length<=800;lia) λu l D E w z F=>?_;rw[uE k]at z;have G:l.length=σ.length+1:=E;exact Nm o B b c q m (j+1) u l _ D (by lia) a w (by lia) z F
end
noncomputable def iM(lv:Bool)(g0 g1:Int):St:=gK (gK (dQ lv 9) 1 0 1 [.int g0]) 2 0 1 [.int g1]
def D3(ma pr:Nat)(p:List V)(Y H:VH):Prop:=(∀K:V->Res,gA (.ref ma) "prints" H K=K (.ref pr))/\H[pr]?=some (.list p)/\∀(a:Nat)(o:VO),Y[a]?=some o->H[a]?=some o
theorem Cr:gD (.eF 0 2 1) turn H [] K=turn (.int 0) H [] λH a=>turn (.int 1) H a λH a=>K H a:=by kernel_rfl
theorem Cy{turn:V->Loc->VH->Kf->Res}{K:Kf}:f7 (.eF 0 2 1) turn loc H K=c9 (λz9=>true) turn [.int 0,.int 1] loc H K:=by kernel_rfl
theorem Bx{turn:V->Loc->VH->Kf->Res}{K:Kf}:f7 (.eF 0 9 1) turn loc H K=c9 (λz9=>true) turn ((List.range 9).map λi=>V.int ((0+i:Nat):Int)) loc H K:=by kernel_rfl
theorem gH{x:Res}:sI (λz9=>true) H x=x:=rfl
theorem mA{rest:Loc->VH->Kf->Res}{k:Kf}:sq rest k .next loc H=rest loc H k:=rfl
theorem Hu:kF [] v H K=K H [v]:=rfl
theorem Jo{w:V}:kF [v] w H K=K H [v,w]:=rfl
section
variable{fd r1:Nat}{K:Kf}
abbrev ON(n:Nat):V->Loc->VH->Kf->Res:=λb a H g=>gL "self" (aB "k" b a) λh=>gA h "memory" H λc=>mO c "write_all" H λd=>gL "self" (aB "k" b a) λi=>gA i "places" H λe=>mO e "home_of" H λf=>gL "frame" (aB "k" b a) λj=>gL "k" (aB "k" b a) λk=>Lv .Add k (.int 1) H λl H=>aJ (aA n) f e "home_of" [j,l] H λm H=>gL "rows" (aB "k" b a) λo=>gL "k" (aB "k" b a) λp=>gI o p H λq=>aJ (aA n) d c "write_all" [m,q] H λr H=>g .next (aB "k" b a) H
theorem OB{j:Nat}{g:Int}{o:Kf}(p:4<=n)(J:j<2)(x:wP A r loc)(W:WT S)(R:dK s S)(M:MR A s T Y H)(y:s.σ.length<=900)(hr:(r,.list [.ref r1,.ref r2])∈T)(z:((if j=0 then r1 else r2),.list [.int g])∈T)(h:-128<=g/\g<=127)(q:∀d t,d.length=s.σ.length->WT (gK S (j+1) 0 1 [.int g])->dK (s.w d) (gK S (j+1) 0 1 [.int g])->MR A (s.w d) T Y t->P (o .next (aB "k" (.int j) loc) t)):P (ON n (.int j) loc H o):=by
 have b:=x.CU (v:=.int (j:Int));have i:(cO.loc (j+1)).Sc:=⟨by lia,by lia,by lia⟩
 cases f:S (j+1)with
 |none=>exact aV (W.dead (j+1) (by lia) f) (by lia)
 |some cs=>
  refine aW (R.has (j+1) (by lia) cs f) λa u _=>?_;have e:∃c,cs=[c]/\jO c:=by have:=W.ok (j+1) (by lia) cs f;rcases(wB (j:=j) (by assumption))with rfl|rfl<;>exact this
  refine aW e ?_;clear e;intro c aG _;subst aG;have k:bF S (.loc (j+1))=.ok (j+1) 0 1:=by delta bF;simp only[f];rfl
  have B:∀{K:Kv},aA n (.aL "Places" "home_of") [.ref A.pl,.ref A.fr,.int ((j:Int)+1)] H K=K (Mi a 0) H:=λ{K}=>oZ (l:=j+1) (n4 p) M u;have grow:H[r]?=some (.list [.ref r1,.ref r2]):=M.get (bY _ hr);unfold ON;have C:eT [.ref r1,.ref r2] (j:Int)=some (.ref (if j=0 then r1 else r2)):=by rcases wB (j:=j) (by assumption)with rfl|rfl<;>rfl
  erw[aX b.self];erw[iS M.ma];erw[lW M.gm];erw[aX b.self];erw[fY M.ma];erw[gN M.pl];erw[aX b.frame];erw[aX (bK loc)];erw[add_int];erw[aK];erw[B];erw[aX b.rows];erw[aX (bK loc)];erw[aY grow C];erw[aK];refine TJ p W R M (.inl ⟨i,_,rfl,?_⟩) z y k u λm D E F G I=>q m D E F G I;rcases(wB (j:=j) (by assumption))with rfl|rfl<;>exact .inr ⟨g,rfl,h⟩
theorem Hx(b:s0.ho=[]):dK s0 (dQ lv 0):=⟨λl z9 cs h=>(by unfold dQ at h;rw[aH (by lia)]at h;exact dW h),λl z9 z9=>(by rwa[b];rfl),λl l' a h z9=>(by rw[b]at h;cases h),λl a h=>(by rw[b]at h;cases h)⟩
abbrev K3(n:Nat):Kf->Kf:=λd=>sq (λa H e=>gL "self" a λf=>gA f "frames" H λb=>mO b "append" H λc=>gL "frame" a λg=>aJ (aA n) c b "append" [g] H λh H=>e .next a H) (d)
abbrev K2(n:Nat):Kf->Kf:=λb=>sq (λa H c=>gL "rows" a λd=>aT (.bi "len") [d] H λe H=>aT (.typ "range") [e] H λf H=>f7 f (ON n) a H (K3 n c)) (b)
theorem P9{bs:List (List bM×dT)}{g0 g1:Int}{s0:Ms}(m:6<=n)(B:Md A Y)(o:(A.la,.dict [(.str "f",.ref fd)])∈T)(t:(fd,.dict (pF (fG bs)))∈T)(c:(r,.list [.ref r1,.ref r2])∈T)(u:(r1,.list [.int g0])∈T)(x:(r2,.list [.int g1])∈T)(h0:-128<=g0/\g0<=127)(K:-128<=g1/\g1<=127)(f:wP A r loc)(y:s0.fs=[])(L:MR A (s0.h [] []) T Y H)(q:∀s F,s.σ.length<=9->g_ s.ho->WT (iM (fG bs) g0 g1)->dK s (iM (fG bs) g0 g1)->s.prints=s0.prints->Keeps {s0 with fs:=[.ref A.fr]} s->MR A s T Y F->P (k .none F)):P (c9 (λz9=>true) (XO n) ((List.range 9).map λi=>V.int ((0+i:Nat):Int)) loc H (K2 n (fin k))):=by
 refine Nm (A:=A) (s0:=s0) (r:=r) m B o t (λd e G N f hk O R M=>?_) 9 0 [] [] _ _ rfl f ⟨.nil,λp h=>by cases h⟩ (by simp) (Hx rfl) L;have grow:N[r]?=some (.list [.ref r1,.ref r2]):=M.get (bY _ c);unfold K2;erw[mA];erw[aX f.rows];erw[eU grow (by simp)];erw[i4];rwa[show((([V.ref r1,V.ref r2]:List V).length:Nat):Int)=2 from rfl];erw[Cy];erw[iF];erw[gH];refine OB (j:=0) (g:=g0) (r1:=r1) (r2:=r2) (n4 m) (by decide) f F5 R M (by show e.length<=900;lia) c (by rwa[aI rfl];exact u) h0 λb Q z S U W=>?_;show P (c9 (λz9=>true) (ON n) [V.int 1] _ Q _);erw[iF];erw[gH];have I:b.length=e.length:=z;refine OB (j:=1) (g:=g1) (r1:=r1) (r2:=r2) (n4 m) (by decide) f.CU S U W (by show b.length<=900;lia) c (by rwa[aH (by(first|decide|omega))];exact x) K λa C D X Z E=>?_;have J:a.length=b.length:=D;have l:=(f.CU (v:=.int (0:Nat))).CU (v:=.int (1:Nat));show P (c9 (λz9=>true) (ON n) [] _ C _);have f6:C[A.frs]?=some (.list []):=by have:=E.frs;rw[show((((s0.h d e).w b).w a)).fs=s0.fs from rfl,y]at this;exact this
 erw[lZ];erw[gH];unfold K3;erw[mA];erw[aX l.self];erw[lM E.ma];erw[gP f6 (.inl rfl)];erw[aX l.frame];rwa[gU f6 (by show 0<=1000;decide)];have M7:MR A {(s0.h d a)with fs:=[.ref A.fr]} T Y (C.set A.frs (.list [.ref A.fr])):=E.set (i:=7) rfl rfl rfl;exact q {(s0.h d a)with fs:=[.ref A.fr]} _ (by show a.length<=9;lia) hk X (Z.to rfl rfl) rfl ⟨rfl,rfl,rfl,rfl,rfl⟩ M7
theorem UY{b w pg pr frs la gl rv pl ma fuel:Nat}{giv:List V}(d:8<=n)(hb:Y[b]?=some (qC nm 2 lo bl sp))(lK:Y[lo]?=some (.list kK))(e:Y[pg]?=some (.dict [(.str "f",.ref b)]))(hr:Y[bl]?=some (VO.list (lst.map V.ref)))(hB:pS Y lst bs)(h0:-128<=g0/\g0<=127)(I:-128<=g1/\g1<=127)(C:bN Y H [] ((r,.list [.ref r1,.ref r2])::(r2,.list [.int g1])::(r1,.list [.int g0])::(pr,.list [])::(frs,.list [])::(la,.dict [])::(gl,IP pl w)::(rv,uR pl w)::(pl,nW m w)::(al,.list [])::(m,lG al 0)::(ma,eH pg w giv fuel m pl rv gl la frs pr .none)::[]))(q:∀A s T F,A.ma=ma->A.pr=pr->A.b=b->A.lo=lo->A.bl=bl->s.σ.length<=9->g_ s.ho->WT (iM (fG bs) g0 g1)->dK s (iM (fG bs) g0 g1)->s.prints=[]->s.blk=0->s.idx=0->s.fuel=fuel->s.out=.none->s.fs=[.ref A.fr]->MR A s T Y F->P (k .none F)):P (aA n (.aL "Machine" "enter") [.ref ma,.str "f",.ref r,.none,.none] H k):=by
 refine oE (su 1 d) λn cB=>?_;subst cB;have a:H[ma]?=some (eH pg w giv fuel m pl rv gl la frs pr .none):=C.get (eE (i:=11) rfl);have c:∀{K:Kv},aA n (.aL "Machine" "body_of") [.ref ma,.str "f"] H K=K (.ref b) H:=by intro K;refine oE (⟨n-1,by lia⟩:∃m,n=m+1) λn aG=>?_;clear d;subst aG;rw[oN];rwa[lC a];rwa[kW (C.base _ _ e) (by kernel_rfl)];rwa[show(!(d8 (.str "f") [((.str "f":V),(.ref b:V))]).isSome)=false by kernel_rfl];rwa[bC];rwa[lC a];rwa[nB (C.base _ _ e) (by kernel_rfl) (v:=.ref b) (by kernel_rfl)];rfl
 erw[yI];erw[rS a];erw[aK];erw[c];refine W0 (n3 d) C λy jo ho fr z=>?_;have f:y[ma]?=some (eH pg w giv fuel m pl rv gl la frs pr .none):=z.get (eE (i:=14) rfl);have g:y[la]?=some (.dict []):=z.get (eE (i:=8) rfl);have j:y[fr]?=some (l_ b ho 0 0 jo):=z.get (eE (i:=2) rfl);show P (gA (.ref ma) "late" y _);erw[rC f];erw[kW g (by kernel_rfl)];rwa[show(!(d8 (.str "f") ([]:List (V×V))).isSome)=true by kernel_rfl];erw[bZ];erw[fO j];refine CZ (n3 d) z hb hr hB λD fd G=>?_;have l:D[ma]?=some (eH pg w giv fuel m pl rv gl la frs pr .none):=G.get (eE (i:=15) rfl);have p:D[la]?=some (.dict []):=G.get (eE (i:=9) rfl);erw[rC l];erw[jI p (by kernel_rfl)];rwa[show iQ (.str "f") (.ref fd) ([]:List (V×V))=[(.str "f",.ref fd)]by kernel_rfl];have E:=bN.set (A:=[_,_,_,_,_,_,_,_,_]) (o':=VO.dict [(.str "f",.ref fd)]) G;have t:=E.get (x:=fr) (o:=l_ b ho 0 0 jo) (eE (i:=3) rfl);erw[mA];erw[aX (v:=.ref fr) (by kernel_rfl)];erw[fO t];erw[fC (E.base _ _ hb)];erw[eU (E.base _ _ lK) (by decide+kernel)];erw[i4];rwa[show((kK.length:Nat):Int)=9 from rfl];erw[Bx];have Mem:bT Y m al [] ([(la,VO.dict [(.str "f",.ref fd)]),(fd,.dict (pF (fG bs))),(r,.list [.ref r1,.ref r2]),(r2,.list [.int g1]),(r1,.list [.int g0]),(gl,IP pl w)]++[(ho,VO.dict []),(fr,l_ b ho 0 0 jo),(ma,eH pg w giv fuel m pl rv gl la frs pr .none),(pr,.list []),(pl,nW m w),(rv,uR pl w),(jo,.list []),(frs,.list [])]) (D.set la (.dict [(.str "f",.ref fd)])):=⟨[],[],rfl,λx J=>(by cases J),E.perm ((gR (l₁:=[_,_,_,_,_,_,_,_,_,_,_,_,_,_])).trans (.cons _ ((gR (l₁:=[_,_,_,_,_,_,_,_,_,_,_,_,_])).trans (.cons _ ((gR (l₁:=[_,_,_,_,_,_,_,_,_])).trans (.cons _ (.cons _ ((gR (l₁:=[_,_,_])).trans (.cons _ ((gR (l₁:=[_,_,_])).trans (.cons _ ((gR (l₁:=[_,_,_])).trans (.cons _ ((gR (l₁:=[_,_,_,_,_])).trans (.cons _ ((gR (l₁:=[_])).trans (.cons _ ((gR (l₁:=[_])).trans (.cons _ ((gR (l₁:=[_,_,_,_,_])).trans (.cons _ ((gR (l₁:=[_])).trans (.cons _ ((gR (l₁:=[_,_,_])).trans (.cons _ ((gR (l₁:=[_,_])).trans (.cons _ (.cons _ (.cons _ (.refl _))))))))))))))))))))))))))))))⟩;let A:wK:={m:=m,al:=al,pl:=pl,rv:=rv,fr:=fr,ho:=ho,jo:=jo,ma:=ma,frs:=frs,pr:=pr,w:=w,b:=b,lo:=lo,bl:=bl,pg:=pg,gl:=gl,la:=la,giv:=giv};let s0:Ms:={ho:=[],σ:=[],blk:=0,idx:=0,prints:=[],fuel:=fuel,out:=.none,fs:=[]};have L:MR A (s0.h [] []) [(la,VO.dict [(.str "f",.ref fd)]),(fd,.dict (pF (fG bs))),(r,.list [.ref r1,.ref r2]),(r2,.list [.int g1]),(r1,.list [.int g0]),(gl,IP pl w)] Y (D.set la (.dict [(.str "f",.ref fd)])):=Mem;have B:Md A Y:=⟨⟨nm,2,sp,hb⟩,lK⟩;refine P9 (A:=A) (s0:=s0) (r:=r) (fd:=fd) (r1:=r1) (r2:=r2) (g0:=g0) (g1:=g1) (bs:=bs) (n3 d) B (aE) (aC (aE)) (aC (aC (aE))) (aC (aC (aC (aC (aE))))) (aC (aC (aC (aE)))) h0 I ⟨by kernel_rfl,by kernel_rfl,by kernel_rfl,by kernel_rfl⟩ rfl L λs F N hk W R hp u M=>?_;exact q A s _ _ rfl rfl rfl rfl rfl N hk W R hp u.blk u.idx u.fuel u.out u.fs M
end
section
theorem U9{a:Int}{p:List V}(D:uS A a p v Y H):D3 A.ma A.pr p Y H:=⟨λK=>by rwa[oB D.ma];rfl,D.pr,D.base⟩
theorem Bq{b w pg pr frs la gl rv pl ma fuel:Nat}(t:17<=n)(hb:Y[b]?=some (qC nm 2 lo bl sp))(lK:Y[lo]?=some (.list kK))(f:Y[pg]?=some (.dict [(.str "f",.ref b)]))(hr:Y[bl]?=some (VO.list (lst.map V.ref)))(hB:pS Y lst bs)(I:0<bs.length)(X:bs.length<=900)(ok:∀b∈bs,b.1.length<=900/\(∀st∈b.1,st.Ok)/\b.2.Ok bs.length)(h0:-128<=g0/\g0<=127)(Z:-128<=g1/\g1<=127)(b7:fuel<=90)(C:bN Y H [] [(pr,.list []),(frs,.list []),(la,.dict []),(gl,IP pl w),(rv,uR pl w),(pl,nW m w),(al,.list []),(m,lG al 0),(ma,eH pg w [.int g0,.int g1] fuel m pl rv gl la frs pr .none)])(qf:∀e a p,eW bs fuel (iM (fG bs) g0 g1) 0 0 []=(.str e,p)->D3 ma pr p Y a->P (eD e a))(qF:∀a p,eW bs fuel (iM (fG bs) g0 g1) 0 0 []=(.str "fuel",p)->D3 ma pr p Y a->P (.exc "FuelFault" "" a))(qo:∀l a p,eW bs fuel (iM (fG bs) g0 g1) 0 0 []=(.tup l,p)->D3 ma pr p Y a->P (k (.tup [.tup l,.ref pr]) a)):P (aA n (.aL "Machine" "run") [.ref ma,.str "f"] H k):=by
 refine oE (su 1 t) λn cB=>?_;subst cB;have c:H[ma]?=some (eH pg w [.int g0,.int g1] fuel m pl rv gl la frs pr .none):=C.get (eE (i:=8) rfl);have g:∀{K:Kv},aA n (.aL "Machine" "body_of") [.ref ma,.str "f"] H K=K (.ref b) H:=by intro K;refine oE (⟨n-1,by lia⟩:∃m,n=m+1) λn aG=>?_;clear t;subst aG;rw[oN];rwa[lC c];rwa[kW (C.base _ _ f) (by kernel_rfl)];rwa[show(!(d8 (.str "f") [((.str "f":V),(.ref b:V))]).isSome)=false by kernel_rfl];rwa[bC];rwa[lC c];rwa[nB (C.base _ _ f) (by kernel_rfl) (v:=.ref b) (by kernel_rfl)];rfl
 erw[CA];erw[rS c];erw[aK];erw[g];erw[xQ (C.base _ _ hb)];erw[i4];erw[Cr];erw[fC (C.base _ _ hb)];erw[add_int];erw[aY (C.base _ _ lK) (v:=.tup [kO 1,.bool true,.none]) (by kernel_rfl)];erw[dB (l:=[kO 1,.bool true,.none]) rfl];erw[tJ c];erw[dB (l:=[.int g0,.int g1]) (i:=0) rfl];erw[kY c];rwa[show kO 1=bH from rfl];erw[RD (n3 t)];erw[Hu];have J:=C.new (o:=.list [.int g0]);have d:(H++[VO.list [V.int g0]])[ma]?=some (eH pg w [.int g0,.int g1] fuel m pl rv gl la frs pr .none):=b6 c;erw[fC (J.base _ _ hb)];erw[add_int];erw[aY (J.base _ _ lK) (v:=.tup [kO 2,.bool true,.none]) (by kernel_rfl)];erw[dB (l:=[kO 2,.bool true,.none]) rfl];erw[tJ d];erw[dB (l:=[.int g0,.int g1]) (i:=1) rfl];erw[kY d];rwa[show kO 2=bH from rfl];erw[RD (n3 t)];erw[Jo];have C2:=J.new (o:=.list [.int g1]);refine fW C2 λH3 r Q=>?_;have u:H3[ma]?=some (eH pg w [.int g0,.int g1] fuel m pl rv gl la frs pr .none):=Q.get (eE (i:=11) rfl);erw[EE u];erw[aK];refine UY (giv:=[.int g0,.int g1]) (n3 t) hb lK f hr hB h0 Z Q λA s T H4 h x eb y z b8 hk W R hp E F j G L M=>?_;have B:Md A Y:=⟨⟨nm,2,sp,by rwa[eb];rwa[y];rwa[z];exact hb⟩,by rwa[y];exact lK⟩;have Cd:TC A Y bs:=⟨⟨lst,by rwa[z];exact hr,by have:=hB.len;lia,hB.at_⟩,ok⟩;have N:∀{p a},SO A p Y a->D3 ma pr p Y a:=λ⟨S,o,D⟩=>by have:=U9 D;rw[h,x]at this;exact this
 refine ZJ (A:=A) (n:=n) (n3 t) B Cd (loc:=[("self",.ref ma),("key",.str "f"),("body",.ref b),("rows",.ref r)]) (by rwa[h];kernel_rfl) fuel 100 (iM (fG bs) g0 g1) s H4 0 0 (by lia) W R hk M (by lia) (by rwa[hp];show 0+fuel<=1000;lia) E F j G L I ?_ ?_ ?_;·intro e a p he O;rw[hp]at he;exact qf e a p he (N O)
 ·intro a p he O;rw[hp]at he;exact qF a p he (N O)
 ·intro l a p he U;refine oE U ?_;clear U;intro S D;rw[hp]at he;have q:=D.ma;rw[h,x]at q;erw[mA];erw[aX (v:=.ref ma) (by kernel_rfl)];erw[n_ q];erw[aX (v:=.ref ma) (by kernel_rfl)];erw[oB q];exact qo l a p he (N ⟨S,_,D⟩)
end
def TM(v:V)(H:VH)(k:V->V->V->Res):Res:=oR (Ly v H) λq=>S3 v (if q.1.length=3/\false=false then(match q.1[0]? with|some v=>(match q.1[1]? with|some w=>(match q.1[2]? with|some u=>k v w u|none=>.stuck)|none=>.stuck)|none=>.stuck)else .stuck)
noncomputable def pK(ns:Sc)(loc:Loc):Loc:=loc.filter λp=>ns.lookup p.1==some .free
def aN(x:Str)(loc:Loc)(r:Res):Res:=match aU x loc with
 |none=>r
 |_=>.stuck
def Fc:List Stmt:=match Lx (.top "_law_body")with
 |some D=>D.body
 |none=>[]
def names_law_body_1:Sc:=match Fc with
 |_::.For _ _ (.Assign _ (.ListComp _ _ s _) _::_) _ _::_=>s.names
 |_=>[]
def names_law_body_2:Sc:=match Fc.getLast? with
 |some (.Return (some (.Call _ [_,_,.ListComp _ _ s _,_] _ _)) _)=>s.names
 |_=>[]
theorem yR:aA (n+1) (.top "_law_spot") [U,(.tup [(.int iC),(.tup [])])] H k=cP .NotIn (.int iC) U H λm=>iT m (k (.str "dropped") H) (cP .Eq (.tup []) (.tup []) H λo=>iT o (gI U (.int iC) H λv3=>gI U (.int iC) H λv4=>aT (.bi "len") [v4] H λp H=>k (.tup [v3,(.int 0),p]) H) (gI (.tup []) (.int 0) H λq=>gI q (.int 0) H λr=>cP .Eq r (.str "field") H λs=>iT s (gI U (.int iC) H λt=>gI (.tup []) (.int 0) H λa=>gI a (.int 1) H λb=>k (.tup [t,b,(.int 1)]) H) (gI U (.int 8) H λc=>gI c (.int 0) H λd=>cP .Is d .none H λe=>iT e (k (.str "uninitialised") H) (gI U (.int 8) H λf=>gI f (.int 0) H λg=>cP .Lt g (.int 3) H λh=>iT h (gI U (.int iC) H λi=>gI U (.int 8) H λj=>gI j (.int 0) H λl=>k (.tup [i,l,(.int 1)]) H) (k (.str "bounds") H))))):=by kernel_rfl
theorem J2:aA (n+1) (.top "_law_spot") [U,(.tup [(.int iC),(.tup [(.tup [(.str "field"),(.int wW)])])])] H k=cP .NotIn (.int iC) U H λa=>iT a (k (.str "dropped") H) (cP .Eq (.tup [(.tup [(.str "field"),(.int wW)])]) (.tup []) H λb=>iT b (gI U (.int iC) H λv3=>gI U (.int iC) H λv4=>aT (.bi "len") [v4] H λc H=>k (.tup [v3,(.int 0),c]) H) (gI U (.int iC) H λd=>k (.tup [d,(.int wW),(.int 1)]) H)):=by kernel_rfl
theorem zG:aA (n+1) (.top "_law_spot") [U,(.tup [(.int iC),(.tup [(.tup [(.str "index"),(.int wW)])])])] H k=cP .NotIn (.int iC) U H λf=>iT f (k (.str "dropped") H) (cP .Eq (.tup [(.tup [(.str "index"),(.int wW)])]) (.tup []) H λg=>iT g (gI U (.int iC) H λv3=>gI U (.int iC) H λv4=>aT (.bi "len") [v4] H λh H=>k (.tup [v3,(.int 0),h]) H) (gI U (.int 8) H λi=>gI i (.int 0) H λj=>cP .Is j .none H λl=>iT l (k (.str "uninitialised") H) (gI U (.int 8) H λm=>gI m (.int 0) H λa=>cP .Lt a (.int 3) H λb=>iT b (gI U (.int iC) H λc=>gI U (.int 8) H λd=>gI d (.int 0) H λe=>k (.tup [c,e,(.int 1)]) H) (k (.str "bounds") H)))):=by kernel_rfl
theorem pM:aA (n+1) (.top "_law_read") [U,(.tup [(.str "const"),qR,tS])] H k=nw (.list [tS]) H λa H=>k a H:=by kernel_rfl
theorem GB:aA (n+1) (.top "_law_read") [U,(.tup [(.str "copy"),oM])] H k=(aA n) (.top "_law_spot") [U,oM] H λa H=>aT (.bi "isinstance") [a,(.typ "str")] H λv2 H=>tV v2 λd=>iT d (k a H) (TM a H λv4 b e=>Lv .Add b e H λf H=>dU v4 b f H λc H=>cP .In .none c H λg=>iT g (k (.str "uninitialised") H) (k c H)):=by kernel_rfl
theorem G_:aA (n+1) (.top "_law_read") [U,(.tup [(.str "move"),oM])] H k=(aA n) (.top "_law_spot") [U,oM] H λb H=>aT (.bi "isinstance") [b,(.typ "str")] H λv2 H=>tV v2 λh=>iT h (k b H) (TM b H λv4 a c=>Lv .Add a c H λi H=>dU v4 a i H λg H=>cP .In .none g H λj=>iT j (k (.str "uninitialised") H) (nw (.list [.none]) H λd H=>Lv .Mult d c H λe H=>Lv .Add a c H λf H=>gF v4 a f e H λH=>k g H)):=by kernel_rfl
theorem JX:aA (n+1) (.top "_law_worked") [(.tup [(.str "use"),jM]),U] H k=(aA n) (.top "_law_read") [U,jM] H λa H=>k a H:=by kernel_rfl
abbrev Fm(a b:V)(H:VH)(c:Str)(k:Kv):Res:=cP .Lt a b H λd=>cP .Eq a b H λe=>cP .GtE a b H λf=>nw (.dict [((.str "<"),(.bool d)),((.str "=="),(.bool e)),((.str ">="),(.bool f))]) H λg H=>gI g (.str c) H λh=>nw (.list [h]) H λi H=>k i H
abbrev Kl(b c:V)(H:VH)(d e:V)(f:Str)(n:Nat)(k:Kv):Res:=Lv .Mult b c H λg H=>nw (.dict [((.str "+"),d),((.str "-"),e),((.str "*"),g)]) H λh H=>gI h (.str f) H λa=>(aA n) (.top "_law_wrapped") [a] H λi H=>(aA n) (.top "_law_wrapped") [a] H λj H=>cP .NotEq j a H λl=>nw (.list [i,(.bool l)]) H λm H=>dU m .none (.int 1) H λo H=>k o H
abbrev Kj(i:V)(H:VH)(c:Str)(a:V)(k:Kv)(n:Nat):Res:=gI i (.int 1) H λd=>gI d (.int 0) H λb=>nw (.list [(.str "<"),(.str "=="),(.str ">=")]) H λe H=>cP .In (.str c) e H λf=>iT f (Fm a b H c k) (Lv .Add a b H λg H=>Lv .Sub a b H λh H=>Kl a b H g h c n k)
abbrev Ky(n:Nat)(b:Kd)(a c:V)(H:VH)(k:Kv)(d:Str):Res:=aJ (aA n) b a "append" [c] H λl H=>gI a (.int (-1)) H λe=>aT (.bi "isinstance") [e,(.typ "str")] H λf H=>tV f λg=>iT g (gI a (.int (-1)) H λh=>k h H) (gI a (.int 0) H λi=>gI i (.int 0) H λj=>Kj a H d j k n)
abbrev Li(n:Nat)(b:Kd)(a v3:V)(H:VH)(k:Kv)(U eA:V)(c:Str):Res:=aJ (aA n) b a "append" [v3] H λv4 H=>gI a (.int (-1)) H λf=>aT (.bi "isinstance") [f,(.typ "str")] H λg H=>tV g λh=>iT h (gI a (.int (-1)) H λi=>k i H) (mO a "append" H λd=>(aA n) (.top "_law_read") [U,eA] H λe H=>Ky n d a e H k c)
theorem zH{a:Str}:aA (n+1) (.top "_law_worked") [(.tup [(.str "binary"),(.str a),fE,eA]),U] H k=nw (.list []) H λc H=>mO c "append" H λb=>(aA n) (.top "_law_read") [U,fE] H λv3 H=>Li n b c v3 H k U eA a:=by kernel_rfl
abbrev Kg(b c:V)(H:VH)(d:V)(e:Str)(n:Nat)(k:Kv):Res:=Lv .Sub b c H λf H=>Lv .Mult b c H λg H=>nw (.dict [((.str "+"),d),((.str "-"),f),((.str "*"),g)]) H λh H=>gI h (.str e) H λa=>(aA n) (.top "_law_wrapped") [a] H λi H=>(aA n) (.top "_law_wrapped") [a] H λj H=>cP .NotEq j a H λl=>nw (.list [i,(.bool l)]) H λm H=>k m H
abbrev Lp(d:V)(H:VH)(i:V)(a:Str)(k:Kv)(n:Nat):Res:=gI d (.int 0) H λb=>gI i (.int 1) H λe=>gI e (.int 0) H λc=>nw (.list [(.str "<"),(.str "=="),(.str ">=")]) H λf H=>cP .In (.str a) f H λg=>iT g (Fm b c H a k) (Lv .Add b c H λh H=>Kg b c H h a n k)
abbrev Ke(n:Nat)(U eA:V)(H:VH)(b:Kd)(a:V)(k:Kv)(c:Str):Res:=(aA n) (.top "_law_read") [U,eA] H λd H=>aJ (aA n) b a "append" [d] H λj H=>gI a (.int (-1)) H λe=>aT (.bi "isinstance") [e,(.typ "str")] H λf H=>tV f λg=>iT g (gI a (.int (-1)) H λh=>k h H) (gI a (.int 0) H λi=>Lp i H a c k n)
abbrev Lc(n:Nat)(U fE:V)(H:VH)(b:Kd)(a:V)(k:Kv)(eA:V)(c:Str):Res:=(aA n) (.top "_law_read") [U,fE] H λv3 H=>aJ (aA n) b a "append" [v3] H λv4 H=>gI a (.int (-1)) H λe=>aT (.bi "isinstance") [e,(.typ "str")] H λf H=>tV f λg=>iT g (gI a (.int (-1)) H λh=>k h H) (mO a "append" H λd=>Ke n U eA H d a k c)
theorem JY{a:Str}:aA (n+1) (.top "_law_worked") [(.tup [(.str "checked"),(.str a),fE,eA]),U] H k=nw (.list []) H λc H=>mO c "append" H λb=>Lc n U fE H b c k eA a:=by kernel_rfl
abbrev Jn(c:V)(H:VH)(k:Kv):Res:=gI c (.int (-1)) H λd=>aT (.bi "isinstance") [d,(.typ "str")] H λe H=>tV e λf=>iT f (gI c (.int (-1)) H λg=>k g H) (gD c (λh H a i=>gI h (.int 0) H λj=>kF a j H i) H [] (λH b=>nw (.list b) H λl H=>k l H))
abbrev Jw(a:V)(H:VH)(k:Kv)(n:Nat)(U tL:V):Res:=gI a (.int (-1)) H λc=>aT (.bi "isinstance") [c,(.typ "str")] H λd H=>tV d λe=>iT e (gI a (.int (-1)) H λf=>k f H) (mO a "append" H λb=>(aA n) (.top "_law_read") [U,tL] H λg H=>aJ (aA n) b a "append" [g] H λh H=>Jn a H k)
abbrev Gw(a:V)(H:VH)(k:Kv)(n:Nat)(U eA tL:V):Res:=gI a (.int (-1)) H λd=>aT (.bi "isinstance") [d,(.typ "str")] H λe H=>tV e λf=>iT f (gI a (.int (-1)) H λg=>k g H) (mO a "append" H λb=>(aA n) (.top "_law_read") [U,eA] H λc H=>aJ (aA n) b a "append" [c] H λh H=>Jw a H k n U tL)
theorem KM:aA (n+1) (.top "_law_worked") [(.tup [(.str "array"),(.tup [fE,eA,tL])]),U] H k=nw (.list []) H λa H=>mO a "append" H λb=>(aA n) (.top "_law_read") [U,fE] H λv3 H=>aJ (aA n) b a "append" [v3] H λv4 H=>Gw a H k n U eA tL:=by kernel_rfl
abbrev Iu(a:V)(H:VH)(k:Kv):Res:=gI a (.int 0) H λb=>gI a (.int 1) H λc=>gI a (.int 1) H λd=>gI a (.int 2) H λe=>Lv .Add d e H λf H=>gF b c f a H λH=>k .none H
abbrev Gd(a:V)(H:VH)(g:V)(k:Kv):Res:=gI a (.int 0) H λb=>gI a (.int 1) H λc=>gI a (.int 1) H λd=>gI a (.int 2) H λe=>Lv .Add d e H λf H=>gF b c f g H λH=>k .none H
abbrev Je(n:Nat)(U oM:V)(H:VH)(k:Kv)(d:V):Res:=(aA n) (.top "_law_spot") [U,oM] H λa H=>aT (.bi "isinstance") [a,(.typ "str")] H λb H=>tV b λc=>iT c (k a H) (Gd a H d k)
abbrev Hs(n:Nat)(AU U:V)(H:VH)(k:Kv)(oM:V):Res:=(aA n) (.top "_law_worked") [AU,U] H λa H=>aT (.bi "isinstance") [a,(.typ "str")] H λb H=>tV b λc=>iT c (aT (.bi "isinstance") [a,(.typ "str")] H λd H=>tV d λe=>iT e (k a H) (Iu a H k)) (Je n U oM H k a)
theorem B7:aA (n+1) (.top "_law_done") [(.tup [(.str "assign"),oM,AU]),U,iL] H k=nw (.list [(.str "live"),(.str "dead")]) H λb H=>cP .In (.str "assign") b H λc=>iT c (mO U "pop" H λa=>aJ (aA n) a U "pop" [(.int 4),.none] H λv4 H=>k .none H) (Hs n AU U H k oM):=by kernel_rfl
abbrev Ja(U:V)(H:VH)(n:Nat)(k:Kv):Res:=mO U "pop" H λa=>aJ (aA n) a U "pop" [(.int 4),.none] H λv4 H=>nw (.list [.none]) H λb H=>Mc U (.int 4) b H λH=>k .none H
abbrev Hh(a:V)(H:VH)(k:Kv):Res:=gI a (.int 0) H λb=>gI a (.int 1) H λc=>gI a (.int 1) H λd=>gI a (.int 2) H λe=>Lv .Add d e H λf H=>gF b c f a H λH=>k .none H
abbrev Ga(a:V)(H:VH)(g:V)(k:Kv):Res:=gI a (.int 0) H λb=>gI a (.int 1) H λc=>gI a (.int 1) H λd=>gI a (.int 2) H λe=>Lv .Add d e H λf H=>gF b c f g H λH=>k .none H
abbrev He(n:Nat)(U m8:V)(H:VH)(k:Kv)(d:V):Res:=(aA n) (.top "_law_spot") [U,m8] H λa H=>aT (.bi "isinstance") [a,(.typ "str")] H λb H=>tV b λc=>iT c (k a H) (Ga a H d k)
abbrev Iz(m8:V)(H:VH)(n:Nat)(U:V)(k:Kv):Res:=gI (.tup [(.str "live"),m8]) (.int 2) H λd=>(aA n) (.top "_law_worked") [d,U] H λa H=>aT (.bi "isinstance") [a,(.typ "str")] H λe H=>tV e λf=>iT f (aT (.bi "isinstance") [a,(.typ "str")] H λb H=>tV b λc=>iT c (k a H) (Hh a H k)) (He n U m8 H k a)
theorem HA:aA (n+1) (.top "_law_done") [(.tup [(.str "live"),m8]),U,iL] H k=nw (.list [(.str "live"),(.str "dead")]) H λa H=>cP .In (.str "live") a H λb=>iT b (Ja U H n k) (Iz m8 H n U k):=by kernel_rfl
abbrev Ir(a:V)(H:VH)(k:Kv):Res:=gI a (.int 0) H λb=>gI a (.int 1) H λc=>gI a (.int 1) H λd=>gI a (.int 2) H λe=>Lv .Add d e H λf H=>gF b c f a H λH=>k .none H
abbrev Iy(a:V)(H:VH)(g:V)(k:Kv):Res:=gI a (.int 0) H λb=>gI a (.int 1) H λc=>gI a (.int 1) H λd=>gI a (.int 2) H λe=>Lv .Add d e H λf H=>gF b c f g H λH=>k .none H
abbrev Jc(n:Nat)(U m8:V)(H:VH)(k:Kv)(d:V):Res:=(aA n) (.top "_law_spot") [U,m8] H λa H=>aT (.bi "isinstance") [a,(.typ "str")] H λb H=>tV b λc=>iT c (k a H) (Iy a H d k)
abbrev Gg(m8:V)(H:VH)(n:Nat)(U:V)(k:Kv):Res:=gI (.tup [(.str "dead"),m8]) (.int 2) H λc=>(aA n) (.top "_law_worked") [c,U] H λa H=>aT (.bi "isinstance") [a,(.typ "str")] H λd H=>tV d λe=>iT e (aT (.bi "isinstance") [a,(.typ "str")] H λf H=>tV f λb=>iT b (k a H) (Ir a H k)) (Jc n U m8 H k a)
theorem GC:aA (n+1) (.top "_law_done") [(.tup [(.str "dead"),m8]),U,iL] H k=nw (.list [(.str "live"),(.str "dead")]) H λb H=>cP .In (.str "dead") b H λc=>iT c (mO U "pop" H λa=>aJ (aA n) a U "pop" [(.int 4),.none] H λv4 H=>k .none H) (Gg m8 H n U k):=by kernel_rfl
abbrev Gy(iL:V)(H:VH)(b:V)(n:Nat)(k:Kv):Res:=mO iL "append" H λa=>aT (.bi "len") [b] H λf H=>cP .Eq f (.int 1) H λc=>iT c (gI b (.int 0) H λd=>aJ (aA n) a iL "append" [d] H λg H=>k .none H) (aT (.typ "tuple") [b] H λe H=>aJ (aA n) a iL "append" [e] H λh H=>k .none H)
abbrev Gk(n:Nat)(U jM:V)(H:VH)(k:Kv)(iL:V):Res:=(aA n) (.top "_law_read") [U,jM] H λa H=>aT (.bi "isinstance") [a,(.typ "str")] H λb H=>tV b λc=>iT c (k a H) (Gy iL H a n k)
theorem CX:aA (n+1) (.top "_law_done") [(.tup [(.str "print"),jM]),U,iL] H k=nw (.list [(.str "live"),(.str "dead")]) H λb H=>cP .In (.str "print") b H λc=>iT c (mO U "pop" H λa=>aJ (aA n) a U "pop" [(.int 4),.none] H λv4 H=>k .none H) (Gk n U jM H k iL):=by kernel_rfl
theorem G8:aA (n+1) (.top "_law_goal") [(.tup [(.str "goto"),j9]),U] H k=k j9 H:=by kernel_rfl
theorem I6:aA (n+1) (.top "_law_goal") [(.tup [(.str "switch"),jM,(.tup [(.tup [tS,j9])]),qP]),U] H k=(aA n) (.top "_law_read") [U,jM] H λa H=>aT (.bi "isinstance") [a,(.typ "str")] H λv2 H=>tV v2 λb=>iT b (k a H) (gI a (.int 0) H λv4=>cP .Eq tS v4 H λc=>iT c (k j9 H) (cP .Is qP .none H λd=>iT d (k (.str "unreachable") H) (k qP H))):=by kernel_rfl
theorem JV{a b:V}:aA (n+1) (.top "_law_goal") [(.tup [(.str "switch"),jM,(.tup [(.tup [tS,j9]),(.tup [a,b])]),qP]),U] H k=(aA n) (.top "_law_read") [U,jM] H λc H=>aT (.bi "isinstance") [c,(.typ "str")] H λv2 H=>tV v2 λd=>iT d (k c H) (gI c (.int 0) H λv4=>cP .Eq tS v4 H λe=>iT e (k j9 H) (gI c (.int 0) H λf=>cP .Eq a f H λg=>iT g (k b H) (cP .Is qP .none H λh=>iT h (k (.str "unreachable") H) (k qP H)))):=by kernel_rfl
theorem CD:aA (n+1) (.top "_law_goal") [(.tup [(.str "return")]),U] H k=(aA n) (.top "_law_read") [U,(.tup [(.str "copy"),(.tup [(.int 0),(.tup [])])])] H λa H=>aT (.bi "isinstance") [a,(.typ "str")] H λv2 H=>tV v2 λb=>iT b (k a H) (gI a (.int 0) H λv4=>k (.tup [(.str "done"),v4]) H):=by kernel_rfl
theorem CJ:aA (n+1) (.top "_law_goal") [(.tup [(.str "assert"),jM,IS,qR,j9]),U] H k=(aA n) (.top "_law_read") [U,jM] H λa H=>aT (.bi "isinstance") [a,(.typ "str")] H λv2 H=>tV v2 λb=>iT b (k a H) (gI a (.int 0) H λv4=>cP .Eq v4 IS H λc=>iT c (k j9 H) (k (.tup [(.str "panic"),qR]) H)):=by kernel_rfl
theorem F4:aA (n+1) (.top "_law_goal") [(.tup [(.str "panic"),qR]),U] H k=k (.tup [(.str "panic"),qR]) H:=by kernel_rfl
theorem zQ:aA (n+1) (.top "_law_goal") [(.tup [(.str "unreachable")]),U] H k=k (.str "unreachable") H:=by kernel_rfl
theorem BW:aA (n+1) (.top "_law_wrapped") [hV] H k=Lv .Add hV (.int 128) H λa H=>Lv .Mod a (.int 256) H λv2 H=>Lv .Sub v2 (.int 128) H λv3 H=>k v3 H:=by kernel_rfl
abbrev Hy(b c d:V)(a:Loc)(n:Nat)(h i:V)(H:VH)(g:Kf):Res:=gL "prints" (aB "end" b (aB "rows" c (aB "turn" d a))) λj=>(aA n) (.top "_law_done") [h,i,j] H λe H=>gL "spot" (aB "fault" e (aB "end" b (aB "rows" c (aB "turn" d a)))) λk=>Lv .Add k (.int 1) H λf H=>gL "fault" (aB "spot" f (aB "fault" e (aB "end" b (aB "rows" c (aB "turn" d a))))) λl=>cP .IsNot l .none H λm=>iT m (gL "fault" (aB "spot" f (aB "fault" e (aB "end" b (aB "rows" c (aB "turn" d a))))) λo=>gL "prints" (aB "spot" f (aB "fault" e (aB "end" b (aB "rows" c (aB "turn" d a))))) λp=>g (.ret (.tup [o,p])) (aB "spot" f (aB "fault" e (aB "end" b (aB "rows" c (aB "turn" d a))))) H) (g .next (aB "spot" f (aB "fault" e (aB "end" b (aB "rows" c (aB "turn" d a))))) H)
abbrev Gm(b c d:V)(a:Loc)(H:VH)(n:Nat)(e:Kf):Res:=gL "rows" (aB "end" b (aB "rows" c (aB "turn" d a))) λf=>gL "spot" (aB "end" b (aB "rows" c (aB "turn" d a))) λg=>gI f g H λh=>gL "cells" (aB "end" b (aB "rows" c (aB "turn" d a))) λi=>Hy b c d a n h i H e
abbrev Gr(b c d:V)(a:Loc)(n:Nat)(g:V)(H:VH)(f:Kf):Res:=gL "cells" (aB "end" b (aB "rows" c (aB "turn" d a))) λh=>(aA n) (.top "_law_goal") [g,h] H λe H=>gL "goal" (aB "goal" e (aB "end" b (aB "rows" c (aB "turn" d a)))) λi=>aT (.bi "isinstance") [i,(.typ "int")] H λj H=>tV j λk=>iT (!k) (gL "goal" (aB "goal" e (aB "end" b (aB "rows" c (aB "turn" d a)))) λl=>gL "prints" (aB "goal" e (aB "end" b (aB "rows" c (aB "turn" d a)))) λm=>f (.ret (.tup [l,m])) (aB "goal" e (aB "end" b (aB "rows" c (aB "turn" d a)))) H) (gL "goal" (aB "goal" e (aB "end" b (aB "rows" c (aB "turn" d a)))) λo=>f .next (aB "spot" (.int 0) (aB "block" o (aB "goal" e (aB "end" b (aB "rows" c (aB "turn" d a)))))) H)
abbrev Ju(f:V)(H:VH)(b:V)(a:Loc)(n:Nat)(e:Kf):Res:=gC f H λc d=>gL "spot" (aB "end" d (aB "rows" c (aB "turn" b a))) λg=>gL "rows" (aB "end" d (aB "rows" c (aB "turn" b a))) λh=>aT (.bi "len") [h] H λi H=>cP .Lt g i H λj=>iT j (Gm d c b a H n e) (gL "end" (aB "end" d (aB "rows" c (aB "turn" b a))) λk=>Gr d c b a n k H e)
abbrev Gn(e:V)(n:Nat)(fJ b hH v2 v4 p f:V)(H:VH)(k:Kv):Res:=f7 e (λd a H g=>gL "body" (aB "turn" d a) λh=>gA h "blocks" H λi=>gL "block" (aB "turn" d a) λj=>gI i j H λl=>Ju l H d a n g) [("body",fJ),("given",b),("fuel",hH),("late",v2),("sizes",v4),("cells",p),("prints",f),("block",(.int 0)),("spot",(.int 0))] H (sq (λc H m=>gL "prints" c λo=>m (.ret (.tup [(.str "fuel"),o])) c H) (fin k))
abbrev Gc(h:V)(H:VH)(a b hH:V)(n:Nat)(fJ v2 v4:V)(k:Kv):Res:=nw (.list [h]) H λc H=>gI a (.int 1) H λd=>nw (.list [d]) H λe H=>nw (.list []) H λf H=>Mc b (.int 1) c H λH=>Mc b (.int 2) e H λH=>aT (.typ "range") [hH] H λg H=>Gn g n fJ a hH v2 v4 b f H k
abbrev Hp(j v2 v4:V)(H:VH)(a hH:V)(n:Nat)(fJ:V)(k:Kv):Res:=gD j (λc H b d=>cP .NotIn c v2 H λf=>iT f (nw (.list [.none]) H λg H=>gI v4 c H λh=>Lv .Mult g h H λi H=>kF b (.tup [c,i]) H d) (d H b)) H [] (λH e=>nw (.list e) H λl H=>aT (.typ "dict") [l] H λm H=>gI a (.int 0) H λo=>Gc o H a m hH n fJ v2 v4 k)
abbrev Io(o:V)(H:VH)(a hH:V)(n:Nat)(fJ:V)(k:Kv):Res:=gD o (λg H c h=>gC g H λi p=>gD i (λd H b e=>gI d (.int 0) H λj=>cP .Eq j (.str "live") H λl=>iT l (gI d (.int 1) H λm=>kF b m H e) (e H b)) H c (h)) H [] (λH f=>nw (.list f) H λv2 H=>nw (.list [(.int 1),(.int 1),(.int 1),(.int 1),(.int 1),(.int 1),(.int 2),(.int 3),(.int 1)]) H λv4 H=>aT (.typ "range") [(.int 9)] H λq H=>Hp q v2 v4 H a hH n fJ k)
theorem MV{a:V}:aA (n+1) (.top "_law_run") [fJ,a,hH] H k=gA fJ "blocks" H λb=>Io b H a hH n fJ k:=by kernel_rfl
def Ka:List Stmt:=match Lx (.top "_law_pool")with
 |some D=>D.body
 |none=>[]
def Lf:Sc:=match Lx (.top "_law_pool")with
 |some D=>D.sc
 |none=>[]
def RP(n i:Nat)(loc:Loc)(H:VH)(k:Kf):Res:=gJ (ex (aA n) 30 Lf) (Ka.drop i) loc H k
theorem UX{a:V}:aA (n+1) (.top "_law_pool") [a] H k=aT (.bi "len") [a] H λv2 H=>cP .Gt v2 (.int 0) H λb=>iT b (gI a (.int 0) H λv4=>RP n 2 [("script",a),("cell",v4)] H (fin k)) (RP n 2 [("script",a),("cell",(.int 0))] H (fin k)):=by kernel_rfl
theorem VA{k:Kf}:RP n 2 loc H k=gL "cell" loc λa=>gL "big" (aB "big" a loc) λf=>cP .Lt f (.int 0) H λb=>iT b (gL "big" (aB "big" a loc) λc=>Lv .Sub (.int 0) c H λd H=>Lv .Sub d (.int 1) H λe H=>RP n 4 (aB "big" e (aB "big" a loc)) H k) (RP n 4 (aB "big" a loc) H k):=by kernel_rfl
abbrev TQ:V->Loc->VH->Kf->Res:=λb a H c=>gL "mixed" (aB "k" b a) λd=>Lv .Mult d (.int 48271) H λe H=>gL "script" (aB "k" b a) λf=>gL "k" (aB "k" b a) λg=>gI f g H λh=>Lv .Mod h (.int 2147483647) H λi H=>Lv .Add e i H λj H=>gL "k" (aB "k" b a) λk=>Lv .Mult (.int 31) k H λl H=>Lv .Add j l H λm H=>Lv .Add m (.int 17) H λn H=>Lv .Mod n (.int 2147483647) H λo H=>c .next (aB "mixed" o (aB "k" b a)) H
theorem UM{k:Kf}:RP n 4 loc H k=gL "big" loc λb=>Lv .Mod b (.int 2147483629) H λa H=>gL "script" (aB "mixed" a loc) λc=>aT (.bi "len") [c] H λd H=>aT (.bi "min") [d,(.int 40)] H λe H=>aT (.typ "range") [e] H λf H=>f7 f TQ (aB "mixed" a loc) H (sq (RP n 6) k):=by kernel_rfl
theorem U2{k:Kf}:RP n 6 loc H k=gL "big" loc λa=>Lv .Pow (.int 10) (.int 18) H λb H=>cP .Lt a b H λc=>iT c (RP n 7 (aB "big" (.int 0) loc) H k) (RP n 7 loc H k):=by kernel_rfl
theorem UQ{k:Kf}:RP n 7 loc H k=gL "big" loc λa=>gL "mixed" loc λb=>nw (.list [a,b]) H λc H=>k (.ret c) loc H:=by kernel_rfl
abbrev Hm(W:V)(H:VH)(a:V)(k:Kv):Res:=gI W (.int 0) H λv3=>Lv .Mod v3 a H λv4 H=>gI W (.int 0) H λb=>Lv .FloorDiv b a H λc H=>Mc W (.int 0) c H λH=>k v4 H
abbrev Gb(i:V)(H:VH)(W a:V)(k:Kv):Res:=Lv .Mod i (.int 2147483647) H λb H=>Mc W (.int 1) b H λH=>gI W (.int 1) H λc=>gI W (.int 1) H λd=>Lv .Mult c d H λe H=>Lv .Mod e (.int 2147483629) H λf H=>Lv .FloorDiv f (.int 32) H λg H=>Lv .Mod g a H λh H=>k h H
abbrev Jh(W:V)(H:VH)(a:V)(k:Kv):Res:=gI W (.int 1) H λb=>Lv .Mult b (.int 39373) H λc H=>Lv .Add c (.int 7) H λd H=>Gb d H W a k
theorem LA{a:V}:aA (n+1) (.top "_law_take") [W,a] H k=gI W (.int 0) H λb=>cP .Gt b (.int 0) H λc=>iT c (Hm W H a k) (Jh W H a k):=by kernel_rfl
theorem LQ{a:V}:aA (n+1) (.top "_law_one") [W,a] H k=aT (.bi "len") [a] H λb H=>(aA n) (.top "_law_take") [W,b] H λv2 H=>gI a v2 H λv3=>k v3 H:=by kernel_rfl
theorem wQ:aA (n+1) (.top "_law_kinds") [] H k=nw (.list [bH,bH,bH,bH,bH,Mh,(.tup [(.str "tuple"),(.tup [bH,Mh])]),(.tup [(.str "array"),bH,(.int 3)]),(.tup [(.str "int"),(.str "usize")])]) H λa H=>k a H:=by kernel_rfl
theorem E9:aA (n+1) (.top "_law_number") [W] H k=(aA n) (.top "_law_take") [W,(.int 8)] H λa H=>cP .Lt a (.int 2) H λb=>iT b (nw (.list [(.int 0),(.int 1),(.int 100),(.int (-128)),(.int 7)]) H λv3 H=>(aA n) (.top "_law_one") [W,v3] H λv4 H=>k (.tup [(.str "const"),bH,v4]) H) (cP .Lt a (.int 6) H λc=>iT c (Lv .Sub a (.int 1) H λd H=>k (.tup [(.str "copy"),(.tup [d,(.tup [])])]) H) (cP .Eq a (.int 6) H λe=>iT e (k (.tup [(.str "copy"),(.tup [(.int 6),(.tup [(.tup [(.str "field"),(.int 0)])])])]) H) (k (.tup [(.str "copy"),(.tup [(.int 7),(.tup [(.tup [(.str "index"),(.int 8)])])])]) H))):=by kernel_rfl
theorem GR:aA (n+1) (.top "_law_truth") [W] H k=nw (.list [(.tup [(.str "copy"),(.tup [(.int 5),(.tup [])])]),(.tup [(.str "copy"),(.tup [(.int 5),(.tup [])])]),(.tup [(.str "copy"),(.tup [(.int 6),(.tup [(.tup [(.str "field"),(.int 1)])])])]),(.tup [(.str "const"),Mh,(.bool true)])]) H λa H=>(aA n) (.top "_law_one") [W,a] H λv2 H=>k v2 H:=by kernel_rfl
abbrev Hr(a:Bool)(k:Kv)(v4:V)(H:VH)(j:V)(n:Nat)(W v3:V):Res:=iT a (k (.tup [(.str "assign"),(.tup [(.int 6),(.tup [(.tup [(.str "field"),(.int 0)])])]),(.tup [(.str "use"),v4])]) H) (cP .Eq j (.int 8) H λb=>iT b (nw (.list [(.int 1),(.int 3),(.int 4)]) H λc H=>(aA n) (.top "_law_one") [W,c] H λd H=>k (.tup [(.str "assign"),(.tup [v3,(.tup [])]),(.tup [(.str "use"),(.tup [(.str "move"),(.tup [d,(.tup [])])])])]) H) (cP .Eq j (.int 9) H λe=>iT e (nw (.list [(.str "live"),(.str "dead"),(.str "live")]) H λf H=>(aA n) (.top "_law_one") [W,f] H λg H=>k (.tup [g,(.int 4)]) H) (nw (.list [v4,(.tup [(.str "copy"),(.tup [(.int 6),(.tup [])])]),(.tup [(.str "copy"),(.tup [(.int 5),(.tup [])])])]) H λh H=>(aA n) (.top "_law_one") [W,h] H λi H=>k (.tup [(.str "print"),i]) H)))
abbrev Ht(b:Bool)(H:VH)(n:Nat)(W:V)(k:Kv)(v4 j a v3:V):Res:=iT b (nw (.list [(.str "<"),(.str "=="),(.str ">=")]) H λc H=>(aA n) (.top "_law_one") [W,c] H λd H=>k (.tup [(.str "assign"),(.tup [(.int 5),(.tup [])]),(.tup [(.str "binary"),d,v4,j])]) H) (cP .Eq a (.int 4) H λe=>iT e (k (.tup [(.str "assign"),(.tup [(.int 7),(.tup [])]),(.tup [(.str "array"),(.tup [v4,j,v4])])]) H) (cP .Eq a (.int 5) H λf=>iT f (k (.tup [(.str "assign"),(.tup [(.int 7),(.tup [(.tup [(.str "index"),(.int 8)])])]),(.tup [(.str "use"),v4])]) H) (cP .Eq a (.int 6) H λg=>iT g ((aA n) (.top "_law_take") [W,(.int 4)] H λh H=>k (.tup [(.str "assign"),(.tup [(.int 8),(.tup [])]),(.tup [(.str "use"),(.tup [(.str "const"),(.tup [(.str "int"),(.str "usize")]),h])])]) H) (cP .Eq a (.int 7) H λi=>Hr i k v4 H a n W v3))))
abbrev Gj(g:Bool)(k:Kv)(v3 v4:V)(H:VH)(a:V)(n:Nat)(W b:V):Res:=iT g (k (.tup [(.str "assign"),(.tup [v3,(.tup [])]),(.tup [(.str "use"),v4])]) H) (cP .Eq a (.int 1) H λh=>iT h (nw (.list [(.str "+"),(.str "-"),(.str "*")]) H λi H=>(aA n) (.top "_law_one") [W,i] H λj H=>k (.tup [(.str "assign"),(.tup [v3,(.tup [])]),(.tup [(.str "binary"),j,v4,b])]) H) (cP .Eq a (.int 2) H λc=>iT c (nw (.list [(.str "+"),(.str "-"),(.str "*")]) H λd H=>(aA n) (.top "_law_one") [W,d] H λe H=>k (.tup [(.str "assign"),(.tup [(.int 6),(.tup [])]),(.tup [(.str "checked"),e,v4,b])]) H) (cP .Eq a (.int 3) H λf=>Ht f H n W k v4 b a v3)))
theorem yC:aA (n+1) (.top "_law_statement") [W] H k=(aA n) (.top "_law_take") [W,(.int 12)] H λa H=>nw (.list [(.int 0),(.int 3),(.int 3),(.int 4),(.int 4)]) H λv2 H=>(aA n) (.top "_law_one") [W,v2] H λv3 H=>(aA n) (.top "_law_number") [W] H λv4 H=>(aA n) (.top "_law_number") [W] H λb H=>cP .Eq a (.int 0) H λc=>Gj c k v3 v4 H a n W b:=by kernel_rfl
abbrev Ie(n:Nat)(W:V)(H:VH)(a:V)(k:Kv)(v2 v3:V):Res:=(aA n) (.top "_law_number") [W] H λe H=>Lv .Sub a (.int 1) H λb H=>nw (.list [.none,(.int 0),b]) H λc H=>(aA n) (.top "_law_one") [W,c] H λd H=>k (.tup [(.str "switch"),e,(.tup [(.tup [(.int 0),v2]),(.tup [(.int 1),v3])]),d]) H
abbrev Gf(g:V)(H:VH)(n:Nat)(W:V)(k:Kv)(v2:V):Res:=cP .Eq g (.int 6) H λa=>iT a ((aA n) (.top "_law_truth") [W] H λb H=>(aA n) (.top "_law_take") [W,(.int 2)] H λc H=>cP .Eq c (.int 0) H λd=>k (.tup [(.str "assert"),b,(.bool d),(.str "not so"),v2]) H) (nw (.list [(.tup [(.str "panic"),(.str "stop")]),(.tup [(.str "unreachable")])]) H λe H=>(aA n) (.top "_law_one") [W,e] H λf H=>k f H)
abbrev Hv(n:Nat)(W a:V)(H:VH)(b:V)(k:Kv)(v2:V):Res:=(aA n) (.top "_law_take") [W,a] H λv3 H=>cP .Lt b (.int 2) H λc=>iT c (k (.tup [(.str "return")]) H) (cP .Eq b (.int 2) H λd=>iT d (k (.tup [(.str "goto"),v2]) H) (cP .Lt b (.int 5) H λe=>iT e ((aA n) (.top "_law_truth") [W] H λf H=>k (.tup [(.str "switch"),f,(.tup [(.tup [(.bool false),v2])]),v3]) H) (cP .Eq b (.int 5) H λg=>iT g (Ie n W H a k v2 v3) (Gf b H n W k v2))))
theorem L7{a:V}:aA (n+1) (.top "_law_end") [W,a] H k=(aA n) (.top "_law_take") [W,(.int 8)] H λb H=>(aA n) (.top "_law_take") [W,a] H λv2 H=>Hv n W a H b k v2:=by kernel_rfl
abbrev Il(b v4:V)(a:Loc)(H:VH)(n:Nat)(j:Kf):Res:=gL "blocks" (aB "rows" b (aB "block" v4 a)) λc=>mO c "append" H λd=>gL "rows" (aB "rows" b (aB "block" v4 a)) λe=>gL "source" (aB "rows" b (aB "block" v4 a)) λf=>gL "many" (aB "rows" b (aB "block" v4 a)) λg=>(aA n) (.top "_law_end") [f,g] H λh H=>nw (.list [e,h]) H λi H=>aJ (aA n) d c "append" [i] H λk H=>j .next (aB "rows" b (aB "block" v4 a)) H
abbrev Hj(n:Nat)(i:V)(H:VH)(v4:V)(a:Loc)(j:Kf):Res:=(aA n) (.top "_law_take") [i,(.int 5)] H λk H=>aT (.typ "range") [k] H λl H=>gD l (λd H b e=>aN "turn" (pK names_law_body_1 (aB "block" v4 a)) (gL "source" (aB "turn" d (pK names_law_body_1 (aB "block" v4 a))) λf=>(aA n) (.top "_law_statement") [f] H λg H=>kF b g H e)) H [] (λH c=>nw (.list c) H λh H=>Il h v4 a H n j)
abbrev Hf(e f:V)(H:VH)(n:Nat)(b:V)(a:Loc)(g:Kf):Res:=Mc e (.int 0) f H λH=>(aA n) (.top "_law_kinds") [] H λh H=>gD h (λi H c j=>aN "kind" (pK names_law_body_2 (aB "ahead_now" b a)) (gL "kind" (aB "kind" i (pK names_law_body_2 (aB "ahead_now" b a))) λk=>kF c (.tup [k,(.bool true),.none]) H j)) H [] (λH d=>nw (.list d) H λl H=>gL "blocks" (aB "ahead_now" b a) λm=>eL (aA n) "Body" [(.str "f"),(.int 2),l,m] H λo H=>g (.ret o) (aB "ahead_now" b a) H)
abbrev Hc(b:V)(a:Loc)(H:VH)(n:Nat)(c:Kf):Res:=gL "ahead_now" (aB "ahead_now" b a) λd=>gL "blocks" (aB "ahead_now" b a) λe=>gI e (.int 0) H λf=>gI f (.int 0) H λg=>Lv .Add d g H λh H=>gL "blocks" (aB "ahead_now" b a) λi=>gI i (.int 0) H λj=>Hf j h H n b a c
abbrev Ix(b:V)(a:Loc)(n:Nat)(H:VH)(c:Kd)(f:V)(g:Kf):Res:=gL "source" (aB "ahead_now" b a) λh=>(aA n) (.top "_law_take") [h,(.int 2)] H λi H=>cP .Eq i (.int 0) H λj=>aJ (aA n) c f "append" [(.tup [(.str "assign"),(.tup [(.int 5),(.tup [])]),(.tup [(.str "use"),(.tup [(.str "const"),Mh,(.bool j)])])])] H λk H=>gL "ahead_now" (aB "ahead_now" b a) λd=>mO d "append" H λe=>aJ (aA n) e d "append" [(.tup [(.str "assign"),(.tup [(.int 8),(.tup [])]),(.tup [(.str "use"),(.tup [(.str "const"),(.tup [(.str "int"),(.str "usize")]),(.int 1)])])])] H λl H=>Hc b a H n g
abbrev Gi(h:V)(n:Nat)(W v2 v3:V)(H:VH)(k:Kv):Res:=f7 h (λv4 b H j=>gL "source" (aB "block" v4 b) λl=>Hj n l H v4 b j) [("source",W),("many",v2),("blocks",v3)] H (sq (λa H i=>nw (.list [(.tup [(.str "assign"),(.tup [(.int 0),(.tup [])]),(.tup [(.str "use"),(.tup [(.str "const"),bH,(.int 5)])])])]) H λc H=>gL "ahead_now" (aB "ahead_now" c a) λd=>mO d "append" H λe=>aJ (aA n) e d "append" [(.tup [(.str "assign"),(.tup [(.int 3),(.tup [])]),(.tup [(.str "use"),(.tup [(.str "const"),bH,(.int 9)])])])] H λm H=>gL "ahead_now" (aB "ahead_now" c a) λf=>mO f "append" H λg=>Ix c a n H g f i) (fin k))
theorem I9:aA (n+1) (.top "_law_body") [W] H k=(aA n) (.top "_law_take") [W,(.int 3)] H λb H=>Lv .Add (.int 2) b H λv2 H=>nw (.list []) H λv3 H=>aT (.typ "range") [v2] H λa H=>Gi a n W v2 v3 H k:=by kernel_rfl
theorem wE:aA (n+1) (.top "_law_fixed_right") [] H k=nw (.list [(.tup [(.str "live"),(.int 4)]),(.tup [(.str "assign"),(.tup [(.int 4),(.tup [])]),(.tup [(.str "use"),(.tup [(.str "const"),bH,(.int 6)])])]),(.tup [(.str "print"),(.tup [(.str "copy"),(.tup [(.int 4),(.tup [])])])])]) H λh H=>nw (.list [(.tup [(.str "live"),(.int 4)]),(.tup [(.str "print"),(.tup [(.str "copy"),(.tup [(.int 4),(.tup [])])])])]) H λv2 H=>Lv .Add h v2 H λv3 H=>(aA n) (.top "_law_kinds") [] H λv4 H=>gD v4 (λc H a d=>kF a (.tup [c,(.bool true),.none]) H d) H [] (λH b=>nw (.list b) H λi H=>nw (.list [v3,(.tup [(.str "return")])]) H λj H=>nw (.list [j]) H λl H=>eL (aA n) "Body" [(.str "f"),(.int 2),i,l] H λm H=>(aA n) (.top "_law_told") [m,(.tup [(.int 0),(.int 0)]),(.int 9)] H λe H=>nw (.list [(.int 6)]) H λf H=>cP .Eq e (.tup [(.str "uninitialised"),f]) H λg=>k (.bool g) H):=by kernel_rfl
abbrev Ha(n:Nat)(h i j:V)(H:VH)(b c d g e v3:V)(a:Loc)(k5:Kf):Res:=(aA n) (.top "_law_run") [h,i,j] H λf H=>gL "ending" (aB "due" f (aB "prints" b (aB "ending" c (aB "fuel" d (aB "given" (.tup [g,e]) (aB "turn" v3 a)))))) λk=>gL "prints" (aB "due" f (aB "prints" b (aB "ending" c (aB "fuel" d (aB "given" (.tup [g,e]) (aB "turn" v3 a)))))) λl=>aT (.typ "list") [l] H λm H=>aT (.bi "repr") [(.tup [k,m])] H λo H=>gL "due" (aB "due" f (aB "prints" b (aB "ending" c (aB "fuel" d (aB "given" (.tup [g,e]) (aB "turn" v3 a)))))) λp=>aT (.bi "repr") [p] H λq H=>cP .NotEq o q H λr=>iT r (k5 (.ret (.bool false)) (aB "due" f (aB "prints" b (aB "ending" c (aB "fuel" d (aB "given" (.tup [g,e]) (aB "turn" v3 a)))))) H) (k5 .next (aB "due" f (aB "prints" b (aB "ending" c (aB "fuel" d (aB "given" (.tup [g,e]) (aB "turn" v3 a)))))) H)
abbrev Ik(b f c v3:V)(a:Loc)(n:Nat)(g:V)(H:VH)(k5:Kf):Res:=gL "given" (aB "fuel" b (aB "given" (.tup [f,c]) (aB "turn" v3 a))) λh=>gL "fuel" (aB "fuel" b (aB "given" (.tup [f,c]) (aB "turn" v3 a))) λi=>(aA n) (.top "_law_told") [g,h,i] H λj H=>gC j H λd e=>gL "body" (aB "prints" e (aB "ending" d (aB "fuel" b (aB "given" (.tup [f,c]) (aB "turn" v3 a))))) λk=>gL "given" (aB "prints" e (aB "ending" d (aB "fuel" b (aB "given" (.tup [f,c]) (aB "turn" v3 a))))) λl=>gL "fuel" (aB "prints" e (aB "ending" d (aB "fuel" b (aB "given" (.tup [f,c]) (aB "turn" v3 a))))) λm=>Ha n k l m H e d b f c v3 a k5
abbrev Hd(v3:V)(a:Loc)(H:VH)(n:Nat)(d:V)(k5:Kf):Res:=gL "source" (aB "turn" v3 a) λi=>nw (.list [(.int 0),(.int 1),(.int 7),(.int 127)]) H λe H=>(aA n) (.top "_law_one") [i,e] H λb H=>gL "source" (aB "given" (.tup [d,b]) (aB "turn" v3 a)) λf=>nw (.list [(.int 40),(.int 12),(.int 25)]) H λg H=>(aA n) (.top "_law_one") [f,g] H λc H=>gL "body" (aB "fuel" c (aB "given" (.tup [d,b]) (aB "turn" v3 a))) λh=>Ik c d b v3 a n h H k5
abbrev Im(H:VH)(n:Nat)(a g v2:V)(k:Kv):Res:=aT (.typ "range") [(.int 2)] H λd H=>f7 d (λv3 b H k5=>gL "source" (aB "turn" v3 b) λh=>nw (.list [(.int 0),(.int 1),(.int (-1)),(.int 100),(.int (-128))]) H λi H=>(aA n) (.top "_law_one") [h,i] H λj H=>Hd v3 b H n j k5) [("script",a),("source",g),("body",v2)] H (sq (λc H e=>(aA n) (.top "_law_fixed_right") [] H λf H=>e (.ret f) c H) (fin k))
theorem Da{a:V}:aA (n+1) (.top "law") [a] H k=(aA n) (.top "_law_pool") [a] H λb H=>(aA n) (.top "_law_body") [b] H λv2 H=>Im H n a b v2 k:=by kernel_rfl
def F3(sc:Sc)(hs:List ExceptHandler)(loc:Loc)(k:Kf)(r:Res):Res:=match r with
 |.done a loc H=>k a loc H
 |.exc c s H=>oR (Mm sc c hs) (handled sc k loc c s H)
 |.stuck=>.stuck
def DG:Sc:=match Lx (.top "_law_told")with
 |some D=>D.sc
 |none=>[]
def MS:List ExceptHandler:=match Lx (.top "_law_told")with
 |some D=>(match D.body with
  |[_,.Try _ hs _ _ _]=>hs
  |_=>[])
 |none=>[]
set_option tactic.hygienic true in
theorem KB{a:V}:aA (n+1) (.top "_law_told") [fJ,a,hH] H k=
 nw (.dict [((.str "f"),fJ)]) H λc H=>eL (aA n) "World" [.none] H λv2 H=>eL (aA n) "Machine" [c,v2,a,hH] H λv3 H=>
  F3 DG MS [("body",fJ),("given",a),("fuel",hH),("machine",v3)] (sq (λloc H k=>k .next loc H) (fin k)) (mO v3 "run" H λb=>aJ (aA n) b v3 "run" [(.str "f")] H λd H=>.done (.ret d) [("body",fJ),("given",a),("fuel",hH),("machine",v3)] H):=by kernel_rfl
set_option tactic.hygienic true in
theorem Dg{a b c:V}{s:Str}:F3 DG MS [("body",a),("given",b),("fuel",c),("machine",v3)] (sq (λloc H k=>k .next loc H) (fin k)) (.exc "MachineFault" s H)=gA v3 "prints" H λv=>k (.tup [.str s,v]) H:=by kernel_rfl
set_option tactic.hygienic true in
theorem Dp{a b c:V}{s:Str}:F3 DG MS [("body",a),("given",b),("fuel",c),("machine",v3)] (sq (λloc H k=>k .next loc H) (fin k)) (.exc "FuelFault" s H)=gA v3 "prints" H λv=>k (.tup [.str "fuel",v]) H:=by kernel_rfl
theorem Cz{v3:V}{a:Loc}:F3 DG MS loc (sq (λloc H k=>k .next loc H) (fin k)) (.done (.ret v) a H)=k v H:=by kernel_rfl
section
variable{S:List Nat}
theorem Aw(c:1<=n)(C:bN Y H S L)(q:∀b w,(∀(a:Nat)(o:VO),Y[a]?=some o->b[a]?=some o)->(∀p∈L,b[p.1]?=some p.2)->P (k (.ref w) b)):P (eL (aA n) "World" [.none] H k):=by refine oE (su 1 c) λn aG=>?_;clear c;subst aG;unfold eL;erw[G9];refine dZ (A:=[]) C.new MO λj C=>?_;refine fW C λl x C=>?_;refine dZ (A:=[_]) C NQ λm C=>?_;refine fW C λr x C=>?_;refine dZ (A:=[_,_]) C MP λs C=>?_;refine fW C λt x C=>?_;refine dZ (A:=[_,_,_]) C PE λu C=>?_;refine fW C λv x C=>?_;refine dZ (A:=[_,_,_,_]) C MY λy C=>?_;refine fW C λd x C=>?_;refine dZ (A:=[_,_,_,_,_]) C L4 λe C=>?_;refine fW C λf x C=>?_;refine dZ (A:=[_,_,_,_,_,_]) C PG λg C=>?_;refine fW C λh x C=>?_;refine dZ (A:=[_,_,_,_,_,_,_]) C ND λi C=>?_;exact q _ _ C.base λp hp=>C.get (by simp[hp])
theorem pN:bN H H [] []:=⟨λz9 z9 h=>h,.nil,λp h=>(by cases h),λp h=>(by cases h)⟩
theorem IB{lst:List Nat}{g0 g1:Int}{b lo bl sp fuel:Nat}{nm:Str}(g:18<=n)(hb:H[b]?=some (qC nm 2 lo bl sp))(lK:H[lo]?=some (.list kK))(hr:H[bl]?=some (VO.list (lst.map V.ref)))(hB:pS H lst bs)(j:0<bs.length)(s:bs.length<=900)(ok:∀b∈bs,b.1.length<=900/\(∀st∈b.1,st.Ok)/\b.2.Ok bs.length)(h0:-128<=g0/\g0<=127)(E:-128<=g1/\g1<=127)(t:fuel<=90)(q:∀v d pr p,eW bs fuel (iM (fG bs) g0 g1) 0 0 []=(v,p)->d[pr]?=some (.list p)->(∀(a:Nat)(o:VO),H[a]?=some o->d[a]?=some o)->P (k (.tup [v,.ref pr]) d)):P (aA n (.top "_law_told") [.ref b,.tup [.int g0,.int g1],.int fuel] H k):=by
 refine oE (su 1 g) λn aG=>?_;subst aG;erw[KB];refine fW pN λJ pg F=>?_;refine Aw (n3 g) F λu w f G=>?_;have A:u[pg]?=some (VO.dict [(.str "f",.ref b)]):=G (pg,VO.dict [(.str "f",.ref b)]) (aE);refine Y8 (n:=n) (pg:=pg) (w:=w) (giv:=[.int g0,.int g1]) (fuel:=fuel) (n3 g) (pN (H:=u)) λI pr frs la gl rv pl al m ma D=>?_;have B:I[ma]?=some (eH pg w [.int g0,.int g1] fuel m pl rv gl la frs pr .none):=D.get (eE (i:=8) rfl);rwa[JE B];rwa[aK];have C:pS u lst bs:=⟨hB.len,λi b hb=>by refine b_ (hB.at_ i b hb) λr rr x y z=>?_;exact⟨r,rr,x,f _ _ y,f _ _ z⟩⟩;refine Bq (P:=λr=>P (F3 DG MS [("body",.ref b),("given",.tup [.int g0,.int g1]),("fuel",.int fuel),("machine",.ref ma)] (sq (λloc H k=>k .next loc H) (fin k)) r)) (n:=n) (n3 g) (f _ _ hb) (f _ _ lK) A (f _ _ hr) C j s ok h0 E t D ?_ ?_ ?_;·intro e d p he c;erw[Dg];refine rw1 (c.1 ..) ?_;exact q _ d pr p he c.2.1 λa o h=>c.2.2 _ _ (f _ _ h)
 ·intro d p he c;erw[Dp];refine rw1 (c.1 ..) ?_;exact q _ d pr p he c.2.1 λa o h=>c.2.2 _ _ (f _ _ h)
 ·intro l d p he c;erw[Cz (v3:=.none)];exact q _ d pr p he c.2.1 λa o h=>c.2.2 _ _ (f _ _ h)
end
noncomputable def Lz:Cell->V
 |none=>.none
 |some v=>v
noncomputable def d6(ho:List (Nat×Nat)):List (V×V):=ho.map λp=>(.int p.1,.ref p.2)
noncomputable def Ma(ho:List (Nat×Nat))(S:St):List (Nat×VO):=ho.map λp=>(p.2,.list (((S p.1).getD []).map Lz))
structure LR(ho:List (Nat×Nat))(S:St):Prop where
 hk:g_ ho
 iff:∀l,S l=none↔ho.lookup l=none
abbrev LW(cd pr:Nat)(ho:List (Nat×Nat))(S:St)(pl:List V)(T:List (Nat×VO))(Y H:VH):Prop:=bN Y H [] (T++((pr,.list pl)::(cd,.dict (d6 ho))::Ma ho S))
theorem zM(ho:List (Nat×Nat))(l:Nat):d8 (.int l) (d6 ho)=(ho.lookup l).map λa=>V.ref a:=by
 induction ho with
 |nil=>rfl
 |cons p r b=>
  obtain⟨x,y⟩:=p;show(if hZ (.int x) (.int l)=true then some (V.ref y)else d8 (.int l) (d6 r))=_;rwa[fA];by_cases h:x=l;·clear b;subst h;rwa[aI (by simp[jF])];simp
  ·have c:(l==x)=false:=by simp;lia
   rwa[aH (by simp[jF];lia)];rwa[b];rwa[c];rfl
theorem uJ(ho:List (Nat×Nat))(l:Int):dR (.int l) (d6 ho)=true:=by show(d6 ho).all _=true;unfold d6;rwa[List.all_map];rw[List.all_eq_true];intro p _;rfl
theorem UR(l:Nat)(ho:List (Nat×Nat)):j5 (.int l) (d6 ho)=d6 (fH l ho):=by
 induction ho with
 |nil=>rfl
 |cons p r a=>
  obtain⟨y,w⟩:=p;show(if hZ (.int y) (.int l)=true then d6 r else((.int y,.ref w):V×V)::j5 (.int l) (d6 r))=_;by_cases h:y=l;·rwa[aI (by simp[jF,h])];rwa[iX];rwa[aI h];rfl
  ·rwa[aH (by simp[jF];lia)];rwa[iX];rwa[aH h];rwa[a];rfl
theorem vO(l a:Nat)(ho:List (Nat×Nat)):iQ (.int l) (.ref a) (d6 ho)=d6 (dY l a ho):=by
 induction ho with
 |nil=>rfl
 |cons p r b=>
  obtain⟨y,w⟩:=p;show(if hZ (.int y) (.int l)=true then((.int y,.ref a):V×V)::d6 r else((.int y,.ref w):V×V)::iQ (.int l) (.ref a) (d6 r))=_;by_cases h:y=l;·rwa[aI (by simp[jF,h])];rwa[jL];rwa[aI h];rfl
  ·rwa[aH (by simp[jF];lia)];rwa[jL];rwa[aH h];rwa[b];rfl
theorem pH{l:Nat}:∀{ho:List (Nat×Nat)},ho.lookup l=some a->(l,a)∈ho
 |[],h=>by cases h
 |(x,y)::r,h=>by
  rw[fA]at h;by_cases q:l=x;·subst q;simp at h;subst h;exact aE
  ·have:(l==x)=false:=by simpa using q
   rw[this]at h;exact aC (pH h)
def HE(c:Cell):Prop:=c=none\/(∃i:Int,c=some (.int i))\/∃b:Bool,c=some (.bool b)
theorem jO.rX(h:jO c):HE c:=by
 rcases h with rfl|⟨i,rfl,_⟩;·exact .inl rfl
 ·exact .inr (.inl ⟨i,rfl⟩)
theorem j_.rX(h:j_ c):HE c:=by
 rcases h with rfl|⟨b,rfl⟩;·exact .inl rfl
 ·exact .inr (.inr ⟨b,rfl⟩)
theorem y0.rX(h:y0 c):HE c:=by
 rcases h with rfl|⟨i,rfl,_⟩;·exact .inl rfl
 ·exact .inr (.inl ⟨i,rfl⟩)
theorem WT.rX{l:Nat}(W:WT S)(g:l<9)(h:S l=some cs):(∀c∈cs,HE c)/\cs.length<=3/\cs.length=mB l:=by
 have ok:=W.ok l g cs h;clear h;rcases(Ni (l:=l) (by assumption))with rfl|rfl|rfl|rfl|rfl|rfl|rfl|rfl|rfl;case inr.inr.inr.inr.inr.inr.inl=>refine b_ ok ?_;clear ok;intro c d b a f;subst b;exact⟨by simp[a.rX,f.rX],by simp,rfl⟩
 case inr.inr.inr.inr.inr.inr.inr.inl=>refine lE ok ?_;clear ok;intro c d e cB a f he;subst cB;exact⟨by simp[a.rX,f.rX,he.rX],by simp,rfl⟩
 all_goals refine aW ok ?_;clear ok;intro c aG a;subst aG;exact⟨by simp[a.rX],by simp,rfl⟩
theorem S8{H:VH}:∀cs:List Cell,(∀c∈cs,HE c)->∃q,jA (Mb H 8) (cs.map Lz)=some q/\PyData.canLayAll0 q=true/\(q.any λy=>PyData.eqv y .none)=(i8 cs).isNone
 |[],_=>⟨[],rfl,rfl,rfl⟩
 |c::cs,h=>by
  refine cY (S8 (H:=H) cs λd g=>h d (aC g)) λq j a f=>?_;have step:∀v d,Mb H 8 v=some d->jA (Mb H 8) (v::cs.map Lz)=some (d::q):=λv d e=>by show((Mb H 8 v).bind λb=>(jA (Mb H 8) (cs.map Lz)).map (b::·))=_;rwa[e];rwa[j];rfl
  rcases h c (aE)with rfl|⟨i,rfl⟩|⟨b,rfl⟩;·exact⟨_,step .none .none rfl,by simp[PyData.canLayAll0,PyData.canLay0,a],rfl⟩
  ·refine⟨_,step (.int i) (.int i) rfl,by simp[PyData.canLayAll0,PyData.canLay0,a],?_⟩;rwa[List.any_cons];rwa[f];rwa[show PyData.eqv (.int i) .none=false from rfl];show(i8 cs).isNone=((i8 cs).map _).isNone;induction i8 cs using Option.casesOn<;>rfl
  ·refine⟨_,step (.bool b) (.bool b) rfl,by simp[PyData.canLayAll0,PyData.canLay0,a],?_⟩;rwa[List.any_cons];rwa[f];rwa[show PyData.eqv (.bool b) .none=false by clear h;induction b using Bool.casesOn<;>rfl];show(i8 cs).isNone=((i8 cs).map _).isNone;induction i8 cs using Option.casesOn<;>rfl
theorem U1(h:∀c∈cs,HE c):jW H .none (cs.map Lz)=some (i8 cs).isNone:=by refine cY (S8 (H:=H) cs h) λq a b d=>?_;show((jA (Mb H 8) (cs.map Lz)).bind λq=>if PySem.SeqAt.shaped PyData.none&&PyData.canLayAll0 q then some (q.any λy=>PyData.eqv y PyData.none)else none)=_;rwa[a];show(if(PySem.SeqAt.shaped PyData.none&&PyData.canLayAll0 q)=true then some (q.any λy=>PyData.eqv y PyData.none)else none)=_;rwa[b];rwa[show PySem.SeqAt.shaped PyData.none=true from rfl];show some _=_;rwa[d];rfl
theorem EQ:∀{cs:List Cell}{vs:List V},i8 cs=some vs->cs.map Lz=vs
 |[],vs,h=>by injection h
 |none::r,vs,h=>by cases h
 |some v::r,vs,h=>by
  have h':(i8 r).map (v::·)=some vs:=h;clear h;cases e:i8 r with
  |none=>rw[e]at h';cases h'
  |some a=>rw[e]at h';injection h' with h';subst h';show v::r.map Lz=_;rwa[EQ e];rfl
theorem zJ{l:Nat}(W:WT S)(hp:p.Ok)(e:bF S p=.ok l o z):l<9/\∃cs,S l=some cs/\o+z<=cs.length:=by
 have len:∀x,x<9->x≠4->∃cs,S x=some cs/\cs.length=mB x:=λx k m=>by
  cases b:S x with
  |none=>exact aV (W.dead x k b) m
  |some cs=>exact⟨cs,rfl,(W.rX k b).2.2⟩
 induction p using Lw.cO.casesOn with
 |loc x=>
  cases b:S x with
  |none=>delta bF at e;simp only[b]at e;cases e
  |some cs=>delta bF at e;simp only[b]at e;injection e with e1 c d;subst e1 c d;exact⟨hp,cs,b,by lia⟩
 |fld j=>injection e with e1 c d;subst e1 c d;refine aW (len 6 (by decide) (by decide)) λcs f g=>?_;have q:j<2:=hp;exact⟨by decide,cs,f,by rwa[g];show j+1<=2;lia⟩
 |idx=>
  refine aW (len 7 (by decide) (by decide)) λcs f g=>?_
  cases a:S 8 with
  |none=>exact aV (W.dead 8 (by decide) a) (by decide)
  |some h=>
   refine aW (W.ok 8 (by decide) h a) λr aG n=>?_;subst aG;rcases n with rfl|⟨i,rfl,s⟩;·delta bF at e;simp only[a]at e;cases e
   ·delta bF at e;simp only[a]at e;by_cases q3:i<3;·rw[aI (by lia)]at e;injection e with e1 c d;rw[fT]at c;subst e1 c d;exact⟨by decide,cs,f,by rwa[g];show i+1<=3;lia⟩
    ·rw[aH (by lia)]at e;cases e
section
variable{ho:List (Nat×Nat)}{pl:List V}{pr l:Nat}{w:VO}
theorem bN.tC(C:bN Y H SS (T++L))(h:L[i]?=some (a,ob)):bN Y (H.set a ob') SS (T++L.set i (a,ob')):=by
 have e1:L=L.take i++(a,ob)::L.drop (i+1):=by refine oE (dN.mp h) λb e=>?_;refine cM e ?_;refine cM (List.drop_eq_getElem_cons b) ?_;rewrite[List.take_append_drop];rfl
 have c:L.set i (a,ob')=L.take i++(a,ob')::L.drop (i+1):=by rwa[List.set_eq_take_append_cons_drop];rwa[aI (dN.mp h).1];rfl
 rwa[c];rw[<-List.append_assoc];have C':bN Y H SS (T++(L.take i++(a,ob)::L.drop (i+1))):=e1▸C;rw[<-List.append_assoc]at C';exact C'.set
theorem LW.dc(M:LW cd pr ho S pl T Y H):H[cd]?=some (.dict (d6 ho)):=bN.get M (cG _ (aC (aE)))
theorem LW.S6(M:LW cd pr ho S pl T Y H):H[pr]?=some (.list pl):=bN.get M (cG _ (aE))
theorem LW.row(M:LW cd pr ho S pl T Y H)(h:ho.lookup l=some a):H[a]?=some (.list (((S l).getD []).map Lz)):=bN.get M (cG _ (aC (aC (c7.mpr ⟨(l,a),pH h,rfl⟩))))
theorem LW.new(M:LW cd pr ho S pl T Y H):LW cd pr ho S pl ((H.length,w)::T) Y (H++[w]):=bN.new M
theorem LW.app{G:VH}(M:LW cd pr ho S pl T Y H):LW cd pr ho S pl T Y (H++G):=bN.app M
theorem LW.drop(M:LW cd pr ho S pl (q::T) Y H):LW cd pr ho S pl T Y H:=bN.sub M (List.sublist_cons_self _ _)
theorem LW.kR(M:LW cd pr ho S pl (q::T) Y H):H[q.1]?=some q.2:=bN.get M (aE)
theorem LW.mem(M:LW cd pr ho S pl T Y H)(h:q∈T):H[q.1]?=some q.2:=bN.get M (bY _ h)
theorem VK(hk:g_ ho)(h:ho[i]?=some (l,a)):(Ma ho S).set i (a,.list (cs.map Lz))=Ma ho (bS S l cs):=by
 apply List.ext_getElem?;intro j;have hi:=(dN.mp h).1;unfold Ma;by_cases q:i=j;·subst q;rwa[List.getElem?_set_self (by rw[bO];exact hi)];rwa[e_];rwa[h];show _=some (a,VO.list (((bS S l cs l).getD []).map Lz));unfold bS;rwa[aI rfl];rfl
 ·rwa[List.getElem?_set_ne q];rwa[e_];rwa[e_]
  cases e:ho[j]? with
  |none=>rfl
  |some x=>
   have d:=(dN.mp e).1
   have ne:x.1≠l:=λf=>by
    have nd:=hk.nd;rw[List.nodup_iff_pairwise_ne,List.pairwise_iff_getElem]at nd;have b:(ho.map (·.1))[i]'(by rw[bO];exact hi)=l:=by rw[List.getElem_map];rwa[(dN.mp h).2];rfl
    have c:(ho.map (·.1))[j]'(by rw[bO];exact d)=l:=by rw[List.getElem_map];rwa[(dN.mp e).2];exact f
    rcases Nat.lt_or_gt_of_ne q with q|q;·exact nd i j _ _ q (b.trans c.symm)
    ·exact nd j i _ _ q (c.trans b.symm)
   show some (x.2,VO.list (((S x.1).getD []).map Lz))=some (x.2,VO.list (((bS S l cs x.1).getD []).map Lz));unfold bS;rwa[aH ne];rfl
theorem LW.upd(R:LR ho S)(M:LW cd pr ho S pl T Y H)(h:ho.lookup l=some a):LW cd pr ho (bS S l cs) pl T Y (H.set a (.list (cs.map Lz))):=by
 refine oE (List.getElem?_of_mem (pH h)) λi hi=>?_;have:=bN.tC (i:=i+2) (ob':=.list (cs.map Lz)) M (show((pr,VO.list pl)::(cd,VO.dict (d6 ho))::Ma ho S)[i+2]?=some (a,_)from by show(Ma ho S)[i]?=_;unfold Ma;rwa[e_];rwa[hi];rfl);have e:((pr,VO.list pl)::(cd,VO.dict (d6 ho))::Ma ho S).set (i+2) (a,.list (cs.map Lz))=(pr,VO.list pl)::(cd,VO.dict (d6 ho))::Ma ho (bS S l cs):=by refine cM (VK R.hk hi) ?_;rfl
 rw[e]at this;exact this
theorem LR.upd(R:LR ho S)(h:ho.lookup l=some a):LR ho (bS S l cs):=by
 refine⟨R.hk,λx=>?_⟩;unfold bS;by_cases q:x=l;·rwa[aI q];rwa[q];rwa[h];simp
 ·rwa[aH q];exact R.iff x
theorem LR.has(R:LR ho S)(h:S l=some cs):∃a,ho.lookup l=some a:=by
 cases e:ho.lookup l with
 |none=>rw[(R.iff l).mpr e]at h;exact dW h
 |some a=>exact⟨a,rfl⟩
theorem EZ(M:LW cd pr ho S pl T Y H):cP .NotIn (.int l) (.ref cd) H kk=kk (ho.lookup l).isNone:=by rwa[kW M.dc (uJ _ _)];rw[zM];induction ho.lookup l using Option.casesOn<;>rfl
theorem tA{kk:V->Res}(M:LW cd pr ho S pl T Y H)(h:ho.lookup l=some a):gI (.ref cd) (.int l) H kk=kk (.ref a):=by exact nB M.dc (uJ _ _) (by rw[zM];rwa[h];rfl)
theorem AR(B:1<=n)(W:WT S)(R:LR ho S)(M:LW cd pr ho S pl T Y H)(hp:p.Ok)(e:bF S p=.ok l o z):∃a,ho.lookup l=some a/\∀k:Kv,aA n (.top "_law_spot") [.ref cd,p.enc] H k=k (.tup [.ref a,.int o,.int z]) H:=by
 refine oE (su 1 B) λn t=>?_;clear B;subst t;refine oA (zJ W hp e) λu r=>?_;refine aW r ?_;clear r;intro cs m v;refine oE (R.has m) λa d=>?_;refine⟨a,d,λk=>?_⟩;have no:∀x y,ho.lookup x=some y->(ho.lookup x).isNone=false:=λx y h=>by rwa[h];rfl
 clear hp v;induction p using Lw.cO.casesOn with
 |loc x=>
  delta bF at e;dsimp only at e
  cases b:S x with
  |none=>rw[b]at e;cases e
  |some C=>rw[b]at e;injection e with e1 q s;subst e1 q s;rw[m]at b;injection b with b;subst b;rwa[show cO.enc (.loc x)=.tup [.int x,.tup []]from rfl];rw[yR];rwa[EZ M];rwa[no _ _ d];rwa[bC];rw[show∀kk:Bool->Res,cP .Eq (.tup []) (.tup []) H kk=kk true fromλkk=>rfl];rwa[bZ];rwa[tA M d];rwa[tA M d];rwa[eU (M.row d) (by rwa[m];rw[bO];have:=(W.rX u m).2.1;simp;lia)];rwa[m];rewrite[bO];rfl
 |fld j=>clear u m;injection e with e1 q s;subst e1 q s;rwa[show cO.enc (.fld j)=.tup [.int (6:Nat),.tup [.tup [.str "field",.int j]]]from rfl];rw[J2];rwa[EZ M];rwa[no _ _ d];rwa[bC];rw[show∀kk:Bool->Res,cP .Eq (.tup [(.tup [(.str "field"),(.int (j:Int))])]) (.tup []) H kk=kk false fromλkk=>(by kernel_rfl)];rwa[bC];rwa[tA M d];rfl
 |idx=>
  clear u m;cases c:S 8 with
  |none=>exact aV (W.dead 8 (by decide) c) (by decide)
  |some w=>
   refine aW (W.ok 8 (by decide) w c) λF aG D=>?_;subst aG;rcases D with rfl|⟨i,rfl,G⟩;·delta bF at e;simp only[c]at e;cases e
   ·delta bF at e;simp only[c]at e;by_cases q3:i<3;·rw[aI (by lia)]at e;injection e with e1 q s;rw[fT]at q;subst e1 q s;refine oE (R.has c) λE f=>?_;have g:=M.row f;rw[c]at g;have A:∀kk:V->Res,gI (.ref E) (.int 0) H kk=kk (.int i):=λkk=>aY g rfl;rwa[show cO.enc .idx=.tup [.int (7:Nat),.tup [.tup [.str "index",.int 8]]]from rfl];rw[zG];rwa[EZ M];rwa[no _ _ d];rwa[bC];rw[show∀kk:Bool->Res,cP .Eq (.tup [(.tup [(.str "index"),(.int 8)])]) (.tup []) H kk=kk false fromλkk=>(by kernel_rfl)];rwa[bC];rwa[show(8:Int)=((8:Nat):Int)from rfl];rwa[tA M f];rw[A];rwa[k_];rwa[bC];rwa[tA M f];rw[A];rwa[yQ (by lia)];rwa[bZ];rwa[tA M d];rwa[tA M f];rewrite[A];rfl
    ·rw[aH (by lia)]at e;cases e
theorem AV{f:Str}(m:1<=n)(W:WT S)(R:LR ho S)(M:LW cd pr ho S pl T Y H)(hp:p.Ok)(e:bF S p=.no f):aA n (.top "_law_spot") [.ref cd,p.enc] H k=k (.str f) H:=by
 refine oE (su 1 m) λn cB=>?_;clear m hp;subst cB
 induction p using Lw.cO.casesOn with
 |loc x=>
  delta bF at e;dsimp only at e
  cases g:S x with
  |some cs=>rw[g]at e;cases e
  |none=>rw[g]at e;injection e with e;subst e;rwa[show cO.enc (.loc x)=.tup [.int x,.tup []]from rfl];rw[yR];rwa[EZ M];rwa[(R.iff x).mp g];rfl
 |fld j=>cases e
 |idx=>
  cases b:S 8 with
  |none=>exact aV (W.dead 8 (by decide) b) (by decide)
  |some h=>
   refine aW (W.ok 8 (by decide) h b) λu aG r=>?_;subst aG;refine oE (R.has b) λs d=>?_
   have o:∃a,ho.lookup 7=some a:=by
    cases g:S 7 with
    |none=>exact aV (W.dead 7 (by decide) g) (by decide)
    |some cs=>exact R.has g
   refine oE o ?_;clear o;intro t l;have c:=M.row d;rw[b]at c;rwa[show cO.enc .idx=.tup [.int (7:Nat),.tup [.tup [.str "index",.int 8]]]from rfl];rw[zG];rwa[EZ M];rwa[l];rwa[show(some t).isNone=false from rfl];rwa[bC];rw[show∀kk:Bool->Res,cP .Eq (.tup [(.tup [(.str "index"),(.int 8)])]) (.tup []) H kk=kk false fromλkk=>(by kernel_rfl)];rwa[bC];rwa[show(8:Int)=((8:Nat):Int)from rfl];rwa[tA M d];rcases r with rfl|⟨i,rfl,w⟩;·delta bF at e;simp only[b]at e;injection e with e;subst e;rwa[aY c (v:=.none) rfl];rfl
   ·delta bF at e;simp only[b]at e;by_cases q3:i<3;·rw[aI (by lia)]at e;cases e
    ·rw[aH (by lia)]at e;injection e with e;subst e;have q:∀kk:V->Res,gI (.ref s) (.int 0) H kk=kk (.int i):=λkk=>aY c rfl;rw[q];rwa[k_];rwa[bC];rwa[tA M d];rw[q];rwa[vC (by lia)];rwa[bC];rfl
end
section
variable{ho:List (Nat×Nat)}{pl:List V}{pr l:Nat}{w:VO}
theorem WD{a b c:V}{K:V->V->V->Res}:TM (.tup [a,b,c]) H K=K a b c:=rfl
theorem BD{l:List V}:aT (.bi "isinstance") [.tup l,.typ "str"] H k=k (.bool false) H:=rfl
theorem iG{s:Str}:aT (.bi "isinstance") [.str s,.typ "str"] H k=k (.bool true) H:=rfl
theorem OW:Mt (cs.map Lz) (o,o+z)=((cs.drop o).take z).map Lz:=by unfold Mt;rwa[show(o,o+z).2-(o,o+z).1=z from Nat.add_sub_cancel_left _ _];rwa[List.map_take];rwa[List.map_drop];rfl
theorem LM(u:2<=n)(W:WT S)(R:LR ho S)(M:LW cd pr ho S pl T Y H)(hp:p.Ok){KK:V->V->V->V->VH->Res}(q:∀a l o z vs d,ho.lookup l=some a->bF S p=.ok l o z->cF S p=.ok vs->LW cd pr ho S pl ((H.length,.list vs)::T) Y d->P (KK (.ref a) (.int o) (.int z) (.ref H.length) d))(v:∀f d,cF S p=.no f->LW cd pr ho S pl T Y d->P (k (.str f) d)):P (aA n (.top "_law_spot") [.ref cd,p.enc] H λi H=>aT (.bi "isinstance") [i,(.typ "str")] H λv2 H=>tV v2 λA=>iT A (k i H) (TM i H λv4 j w=>Lv .Add j w H λB H=>dU v4 j B H λx H=>cP .In .none x H λC=>iT C (k (.str "uninitialised") H) (KK v4 j w x H))):=by
 cases e:bF S p with
 |no f=>erw[AV (n4 u) W R M hp e];erw[iG];erw[iB];erw[bZ];exact v f H (pL e) M
 |ok l o z=>
  refine aW (AR (n:=n) (n4 u) W R M hp e) λa y hs=>?_;refine oA (zJ W hp e) λD g=>?_;refine aW g ?_;clear g;intro cs m E;refine gB (W.rX D m) λr F _=>?_;have row:=M.row y;rw[m]at row;have h:H[a]?=some (.list (cs.map Lz)):=row;have s:cut (cs.map Lz) (.int o) (.int ((o:Int)+z))=some (o,o+z):=by show(if(0:Int)<=(o:Int)/\(o:Int)<=(o:Int)+z/\(o:Int)+z<=((cs.map Lz).length:Nat)then some ((o:Int).toNat,((o:Int)+z).toNat)else none)=_;rw[bO];rwa[aI ⟨by lia,by lia,by lia⟩];rw[fT];rwa[show(((o:Int)+z).toNat)=o+z from rfl];rfl
  erw[hs];erw[BD];erw[iB];erw[bC];erw[WD];erw[add_int];erw[vA h s (by rw[bO];lia)];rwa[OW];have b:cF S p=match i8 ((cs.drop o).take z)with|none=>.no "uninitialised"|some vs=>.ok vs:=by delta cF nV;simp only[e,m,Option.getD_some]<;>cases i8 ((cs.drop o).take z)<;>rfl
  erw[nG cW (U1 λc s=>r c (List.mem_of_mem_drop (List.mem_of_mem_take s)))]
  cases t:i8 ((cs.drop o).take z)with
  |none=>rwa[show(none:Option (List V)).isNone=true from rfl];erw[bZ];rw[t]at b;exact v _ _ b M.app
  |some vs=>rwa[show(some vs:Option (List V)).isNone=false from rfl];erw[bC];rwa[EQ t];rw[t]at b;exact q a l o z vs _ y e b M.new
theorem uO(B:3<=n)(W:WT S)(R:LR ho S)(M:LW cd pr ho S pl T Y H)(hp:op.Ok)(q:∀vs S' u r,bI S op=(.ok vs,S')->WT S'->LR ho S'->LW cd pr ho S' pl ((r,.list vs)::T) Y u->P (k (.ref r) u))(A:∀f u,(bI S op).1=.no f->LW cd pr ho S pl T Y u->P (k (.str f) u)):P (aA n (.top "_law_read") [.ref cd,op.enc] H k):=by
 refine oE (su 1 B) λn cB=>?_;subst cB
 induction op using Lw.Op.casesOn with
 |ci i=>rwa[show Op.enc (.ci i)=.tup [.str "const",bH,.int i]from rfl];erw[pM];exact q _ S _ _ rfl W R M.new
 |cb b=>rwa[show Op.enc (.cb b)=.tup [.str "const",Mh,.bool b]from rfl];erw[pM];exact q _ S _ _ rfl W R M.new
 |cu j=>rwa[show Op.enc (.cu j)=.tup [.str "const",mT,.int j]from rfl];erw[pM];exact q _ S _ _ rfl W R M.new
 |cp p=>
  have d:p.Ok:=by
   clear q A;rcases hp with hp|rfl;·exact hp.Ok
   ·exact(by decide:6<9)
  rwa[show Op.enc (.cp p)=.tup [.str "copy",p.enc]from rfl];erw[GB];exact LM (n:=n) (k:=k) (KK:=λv4 C D E H=>k E H) (n3 B) W R M d (λa l o z vs g s e hr h=>q vs S g _ (by show(cF S p,S)=_;rwa[hr];rfl) W R h) (λf g e h=>A f g e h)
 |mv l=>
  have K:l=1\/l=3\/l=4:=hp;have w:(cO.loc l).Sc:=⟨by lia,by lia,by lia⟩;have m:∀vs,cF S (.loc l)=.ok vs->bI S (.mv l)=(.ok vs,bS S l [none]):=λvs hr=>by show(match cF S (.loc l)with|.ok vs=>(Rd.ok vs,bS S l [none])|.no f=>(.no f,S))=_;rwa[hr];rfl
  rwa[show Op.enc (.mv l)=.tup [.str "move",cO.enc (.loc l)]from rfl];erw[G_];refine LM (n:=n) (k:=k) (KK:=λv4 C D E H=>nw (.list [.none]) H λF H=>Lv .Mult F D H λG H=>Lv .Add C D H λI H=>gF v4 C I G H λH=>k E H) (n3 B) W R M w.Ok (λa x o z vs g s e hr h=>?_) λf g e h=>A f g (by show(match cF S (.loc l)with|.ok vs=>(Rd.ok vs,bS S l [none])|.no f=>(.no f,S)).1=_;rwa[e];rfl) h;clear hp A w;change bF S (.loc l)=_ at e;cases t:S l with
  |none=>delta bF at e;simp only[t]at e;cases e
  |some cs=>
   delta bF at e;simp only[t]at e;injection e with e1 L N;subst e1 L N;have ok:=W.ok l (by lia) cs t;have d:∃c,cs=[c]/\jO c:=by clear q m hr t s;rcases K with rfl|rfl|rfl<;>exact ok
   have J:DU l [none]:=by clear q m hr t s ok;rcases K with rfl|rfl|rfl<;>exact⟨none,rfl,.inl rfl⟩
   refine aW d ?_;clear d;intro c aG Q;clear ok;subst aG;have row:=h.row s;rw[t]at row;have lt:=fZ row;show P (nw (.list [.none]) g _);erw[nw_eq];rwa[show(([c]:List Cell).length:Int)=1 from rfl];erw[vS (v:=.none) (y:=1) cW (by decide)];rwa[show((0:Nat):Int)=0 from rfl];erw[add_int];rwa[u5 (p:=(0,1)) (b6 (b6 row)) cW rfl ⟨by rwa[List.length_append];show a≠g.length+1;lia,by decide,by show 1<=1000;decide⟩];have O:LW cd pr ho (bS S l [none]) pl ((H.length,.list vs)::T) Y (((g++[VO.list [.none]])++[VO.list (List.replicate (1:Int).toNat .none)]).set a (.list (([none]:List Cell).map Lz))):=LW.upd R (h.app.app) s;exact q vs _ _ _ (m vs hr) (W.upd J) (R.upd s) O
end
section
variable{ho:List (Nat×Nat)}{pl:List V}{pr:Nat}{A:List (Nat×VO)}{l:Nat}{o1:Op}{w:VO}
theorem LW.set(M:LW cd pr ho S pl (A++(x,ob)::B) Y H):LW cd pr ho S pl (A++(x,ob')::B) Y (H.set x ob'):=by have a:bN Y H [] ((A++(x,ob)::B)++_):=M;rw[List.append_assoc]at a;show bN Y _ [] ((A++(x,ob')::B)++_);rw[List.append_assoc];exact bN.set a
theorem O4{l:List V}(M:LW cd pr ho S pl (A++(x,.list l)::B) Y H)(b:l.length<=1000)(q:∀a,LW cd pr ho S pl (A++(x,.list (l++[v]))::B) Y a->P (k .none a)):P (aJ cf .list (.ref x) "append" [v] H k):=by rwa[gU (M.mem (cG _ (aE))) b];exact q _ M.set
theorem TK(d:3<=n)(W:WT S)(R:LR ho S)(M:LW cd pr ho S pl T Y H)(hp:op.Num)(q:∀i:Int,∀a r,(bI S op).1=.ok [.int i]->-128<=i->i<=127->LW cd pr ho S pl ((r,.list [.int i])::T) Y a->P (k (.ref r) a))(c:∀f a,(bI S op).1=.no f->LW cd pr ho S pl T Y a->P (k (.str f) a)):P (aA n (.top "_law_read") [.ref cd,op.enc] H k):=by
 refine uO d W R M hp.Ok (λvs S' g r e m o h=>?_) c;have b:=sL (S:=S) (.inl hp);rw[e]at b;have b:S'=S:=b;clear R M c;subst b;have e1:(bI S' op).1=.ok vs:=by rwa[e];rfl
 refine cY (hp.val W e1) λi aG j l=>?_;clear e b;subst aG;exact q i g r e1 j l h
theorem TA(g:3<=n)(W:WT S)(R:LR ho S)(M:LW cd pr ho S pl T Y H)(hp:op.pI)(q:∀b:Bool,∀a r,(bI S op).1=.ok [.bool b]->LW cd pr ho S pl ((r,.list [.bool b])::T) Y a->P (k (.ref r) a))(d:∀f a,(bI S op).1=.no f->LW cd pr ho S pl T Y a->P (k (.str f) a)):P (aA n (.top "_law_read") [.ref cd,op.enc] H k):=by
 refine uO g W R M hp.Ok (λvs S' h r e j l i=>?_) d;have c:=sL (S:=S) (.inr hp);rw[e]at c;have c:S'=S:=c;clear R M d;subst c;have e1:(bI S' op).1=.ok vs:=by rwa[e];rfl
 refine oE (hp.val W e1) λb aG=>?_;clear e c;subst aG;exact q b h r e1 i
theorem UD{l:List V}(e:l.length<=3)(v:V):eT (l++[v]) (-1)=some v:=by rcases l with _|⟨a,_|⟨b,_|⟨c,_|⟨d,l⟩⟩⟩⟩<;>first|rfl|exact aV e λh=>Nat.not_succ_le_zero _ (Nat.le_of_succ_le_succ (Nat.le_of_succ_le_succ (Nat.le_of_succ_le_succ h)))
theorem yH{l:List V}{KK:VH->Res}(j:3<=n)(W:WT S)(R:LR ho S)(M:LW cd pr ho S pl (A++(x,.list l)::B) Y H)(hp:op.Num)(m:l.length<=3)(q:∀i:Int,∀b r,(bI S op).1=.ok [.int i]->-128<=i->i<=127->LW cd pr ho S pl ((r,.list [.int i])::A++(x,.list (l++[.ref r]))::B) Y b->P (KK b))(o:∀f b,(bI S op).1=.no f->LW cd pr ho S pl (A++(x,.list (l++[.str f]))::B) Y b->P (k (.str f) b)):P (mO (.ref x) "append" H λc=>(aA n) (.top "_law_read") [.ref cd,op.enc] H λv3 H=>aJ cf c (.ref x) "append" [v3] H λv4 H=>gI (.ref x) (.int (-1)) H λp=>aT (.bi "isinstance") [p,(.typ "str")] H λs H=>tV s λt=>iT t (gI (.ref x) (.int (-1)) H λu=>k u H) (KK H)):=by
 have lst:∀v:V,eT (l++[v]) (-1)=some v:=λv=>by exact UD m v
 rwa[gP (M.mem (cG _ (aE))) (.inl rfl)];refine TK j W R M hp (λi w r e y z d=>?_) λf w e d=>?_;·refine O4 (A:=(r,.list [.int i])::A) d (by lia) λh a=>?_;have g:=a.mem (cG _ (aE));erw[aY g (lst _)];rwa[k8 (a.mem (aE))];erw[iB];erw[bC];exact q i h r e y z a
 ·refine O4 d (by lia) λh a=>?_;have g:=a.mem (cG _ (aE));erw[aY g (lst _)];erw[iG];erw[iB];erw[bZ];erw[aY g (lst _)];exact o f h e a
theorem LW.cut(M:LW cd pr ho S pl (A++T) Y H):LW cd pr ho S pl T Y H:=by have a:bN Y H [] ((A++T)++_):=M;rw[List.append_assoc]at a;exact a.sub (List.sublist_append_right _ _)
theorem KJ(z:3<=n)(W:WT S)(R:LR ho S)(M:LW cd pr ho S pl T Y H)(D:o1.Num)(hb:o2.Num)(q:∀x y:Int,∀c,(∀f,eG S o1 o2 f=.ok (f x y))->-128<=x/\x<=127->-128<=y/\y<=127->LW cd pr ho S pl T Y c->P (KK (.int x) (.int y) c))(B:∀e c,(∀f,eG S o1 o2 f=.no e)->LW cd pr ho S pl T Y c->P (k (.str e) c)):P (nw (.list []) H λa H=>mO a "append" H λd=>(aA n) (.top "_law_read") [.ref cd,o1.enc] H λv3 H=>aJ (aA n) d a "append" [v3] H λv4 H=>gI a (.int (-1)) H λE=>aT (.bi "isinstance") [E,(.typ "str")] H λF H=>tV F λG=>iT G (gI a (.int (-1)) H λI=>k I H) (mO a "append" H λh=>(aA n) (.top "_law_read") [.ref cd,o2.enc] H λi H=>aJ (aA n) h a "append" [i] H λJ H=>gI a (.int (-1)) H λj=>aT (.bi "isinstance") [j,(.typ "str")] H λl H=>tV l λm=>iT m (gI a (.int (-1)) H λo=>k o H) (gI a (.int 0) H λp=>gI p (.int 0) H λr=>gI a (.int 1) H λs=>gI s (.int 0) H λt=>KK r t H))):=by have K:LW cd pr ho S pl ((H.length,.list [])::T) Y (H++[.list []]):=M.new;erw[nw_eq];refine yH (A:=[]) z W R K D (by simp) (λx C r1 e1 L N u=>?_) λf C e u=>B f C (λg=>nH e) u.drop;refine yH (A:=[_]) z W R u hb (by simp) (λy w r2 O Q U b=>?_) λf w e b=>B f w (λg=>nA e1 e) (LW.cut (A:=[_,_]) b);have g:=b.mem (aC (aC (aE)));erw[aY g (v:=.ref r1) rfl];rwa[aY (b.mem (aC (aE))) (v:=.int x) rfl];erw[aY g (v:=.ref r2) rfl];rwa[aY (b.mem (aE)) (v:=.int y) rfl];exact q x y w (λf=>pA e1 O) ⟨L,N⟩ ⟨Q,U⟩ (LW.cut (A:=[_,_,_]) b)
theorem SL{x:Int}(a:1<=n):aA n (.top "_law_wrapped") [.int x] H k=k (.int (i9 x)) H:=by refine oE (su 1 a) λn aG=>?_;clear a;subst aG;rw[BW];kernel_rfl
theorem YQ{a:Int}:cP .NotEq (.int a) (.int b) H kk=kk (decide (a≠b)):=by show kk (!decide (a=b))=_;rwa[decide_not];rfl
theorem TL{m:Ar}{x:Int}{KK:V->V->VH->Res}{kc:V->VH->Res}(l:1<=n)(r:-128<=x/\x<=127)(s:-128<=y/\y<=127)(M:LW cd pr ho S pl T Y H)(q:∀o,LW cd pr ho S pl T Y o->P (KK (.int (i9 (m.val x y))) (.bool (decide (i9 (m.val x y)≠m.val x y))) o)):P (nw (.list [(.str "<"),(.str "=="),(.str ">=")]) H λb H=>cP .In (.str m.str) b H λc=>iT c (kc b H) (Lv .Add (.int x) (.int y) H λd H=>Lv .Sub (.int x) (.int y) H λf H=>Lv .Mult (.int x) (.int y) H λg H=>nw (.dict [((.str "+"),d),((.str "-"),f),((.str "*"),g)]) H λh H=>gI h (.str m.str) H λa=>(aA n) (.top "_law_wrapped") [a] H λi H=>(aA n) (.top "_law_wrapped") [a] H λj H=>cP .NotEq j a H λk=>KK i (.bool k) H)):=by
 have e:jW (H++[VO.list [(.str "<"),(.str "=="),(.str ">=")]]) (.str m.str) [(.str "<"),(.str "=="),(.str ">=")]=some false:=by clear q;induction m using Lw.Ar.casesOn<;>kernel_rfl
 have p:d8 (.str m.str) [((.str "+":V),(.int (x+y):V)),((.str "-"),.int (x-y)),((.str "*"),.int (x*y))]=some (.int (m.val x y)):=by clear q e;induction m using Lw.Ar.casesOn<;>kernel_rfl
 erw[nw_eq];erw[nG cW e];erw[bC];erw[add_int];erw[sub_int];erw[mul_int (nO (by lia) (by lia)) (nO (by lia) (by lia))];erw[nw_eq];rwa[nB cW (by rfl) p];erw[SL l];erw[SL l];erw[YQ];exact q _ M.app.app
theorem pE{a:Int}:cP .Lt (.int a) (.int b) H kk=kk (decide (a<b)):=rfl
theorem Ai{a:Int}:cP .GtE (.int a) (.int b) H kk=kk (decide (a>=b)):=rfl
theorem Dx{m:Ar}(b:4<=n)(W:WT S)(R:LR ho S)(M:LW cd pr ho S pl T Y H)(u:o1.Num)(hb:o2.Num)(q:∀vs a r,eG S o1 o2 (λx y=>[.int (i9 (m.val x y))])=.ok vs->LW cd pr ho S pl ((r,.list vs)::T) Y a->P (k (.ref r) a))(v:∀e a,(∀f,eG S o1 o2 f=.no e)->LW cd pr ho S pl T Y a->P (k (.str e) a)):P (aA n (.top "_law_worked") [.tup [.str "binary",.str m.str,o1.enc,o2.enc],.ref cd] H k):=by refine oE (su 1 b) λn aG=>?_;subst aG;erw[zH];refine KJ (n3 b) W R M u hb (λx y D e w z A=>?_) v;refine TL (KK:=λc d H=>nw (.list [c,d]) H λg H=>dU g .none (.int 1) H λh H=>k h H) (kc:=λB H=>cP .Lt (.int x) (.int y) H λi=>cP .Eq (.int x) (.int y) H λj=>cP .GtE (.int x) (.int y) H λl=>nw (.dict [((.str "<"),(.bool i)),((.str "=="),(.bool j)),((.str ">="),(.bool l))]) H λo H=>gI o (.str m.str) H λs=>nw (.list [s]) H λt H=>k t H) (n3 b) w z A λE C=>?_;erw[nw_eq];rwa[vA (p:=(0,1)) cW rfl (by show 2<=1000;decide)];exact q _ _ _ (e _) (LW.new (LW.app C))
theorem Ca{m:Ar}(b:4<=n)(W:WT S)(R:LR ho S)(M:LW cd pr ho S pl T Y H)(s:o1.Num)(hb:o2.Num)(q:∀vs a r,eG S o1 o2 (λx y=>[.int (i9 (m.val x y)),.bool (decide (i9 (m.val x y)≠m.val x y))])=.ok vs->LW cd pr ho S pl ((r,.list vs)::T) Y a->P (k (.ref r) a))(t:∀e a,(∀f,eG S o1 o2 f=.no e)->LW cd pr ho S pl T Y a->P (k (.str e) a)):P (aA n (.top "_law_worked") [.tup [.str "checked",.str m.str,o1.enc,o2.enc],.ref cd] H k):=by refine oE (su 1 b) λn aG=>?_;subst aG;erw[JY];refine KJ (n3 b) W R M s hb (λx y B e u v w=>?_) t;refine TL (KK:=λc d H=>nw (.list [c,d]) H λg H=>k g H) (kc:=λz H=>cP .Lt (.int x) (.int y) H λh=>cP .Eq (.int x) (.int y) H λi=>cP .GtE (.int x) (.int y) H λj=>nw (.dict [((.str "<"),(.bool h)),((.str "=="),(.bool i)),((.str ">="),(.bool j))]) H λl H=>gI l (.str m.str) H λo=>nw (.list [o]) H λp H=>k p H) (n3 b) u v w λC A=>?_;erw[nw_eq];exact q _ _ _ (e _) A.new
theorem Df{m:Cm}(b:4<=n)(W:WT S)(R:LR ho S)(M:LW cd pr ho S pl T Y H)(c:o1.Num)(hb:o2.Num)(q:∀vs a r,eG S o1 o2 (λx y=>[.bool (m.val x y)])=.ok vs->LW cd pr ho S pl ((r,.list vs)::T) Y a->P (k (.ref r) a))(d:∀e a,(∀f,eG S o1 o2 f=.no e)->LW cd pr ho S pl T Y a->P (k (.str e) a)):P (aA n (.top "_law_worked") [.tup [.str "binary",.str m.str,o1.enc,o2.enc],.ref cd] H k):=by
 refine oE (su 1 b) λn aG=>?_;subst aG;erw[zH];refine KJ (n3 b) W R M c hb (λx y g e j l h=>?_) d;have e1:jW (g++[VO.list [(.str "<"),(.str "=="),(.str ">=")]]) (.str m.str) [(.str "<"),(.str "=="),(.str ">=")]=some true:=by clear q;induction m using Lw.Cm.casesOn<;>kernel_rfl
 have i:d8 (.str m.str) [((.str "<":V),(.bool (decide (x<y)):V)),((.str "=="),.bool (decide (x=y))),((.str ">="),.bool (decide (x>=y)))]=some (.bool (m.val x y)):=by clear q e1;induction m using Lw.Cm.casesOn<;>kernel_rfl
 erw[nw_eq];erw[nG cW e1];erw[bZ];erw[pE];erw[eK];erw[Ai];erw[nw_eq];rwa[nB cW (by rfl) i];erw[nw_eq];exact q _ _ _ (e _) (LW.new (LW.app (LW.app h)))
theorem jS{l:List V}:fP src turn (v::l) H acc K=sI src H (turn v H acc λH acc=>fP src turn l H acc K):=rfl
theorem mJ:fP src turn [] H acc K=sI src H (K H acc):=rfl
theorem xS(h:acc.length<=1000):kF acc v H K=K H (acc++[v]):=by unfold kF;rwa[aI h];rfl
theorem Ea(h:4<=n)(W:WT S)(R:LR ho S)(M:LW cd pr ho S pl T Y H)(l:o1.Num)(hb:o2.Num)(q:∀vs c r,eG S o1 o2 (λx y=>[.int x,.int y,.int x])=.ok vs->LW cd pr ho S pl ((r,.list vs)::T) Y c->P (k (.ref r) c))(m:∀e c,(∀f,eG S o1 o2 f=.no e)->LW cd pr ho S pl T Y c->P (k (.str e) c)):P (aA n (.top "_law_worked") [.tup [.str "array",.tup [o1.enc,o2.enc,o1.enc]],.ref cd] H k):=by
 refine oE (su 1 h) λn aG=>?_;subst aG;erw[KM];erw[nw_eq];have s:LW cd pr ho S pl ((H.length,.list [])::T) Y (H++[.list []]):=M.new;refine yH (A:=[]) (n3 h) W R s l (by simp) (λx o r1 e1 D E i=>?_) λf o e i=>m f o (λg=>nH e) i.drop;refine yH (A:=[_]) (n3 h) W R i hb (by simp) (λy p r2 t F G j=>?_) λf p e j=>m f p (λg=>nA e1 e) (LW.cut (A:=[_,_]) j);refine yH (A:=[_,_]) (n3 h) W R j l (by simp) (λz d r3 a u w b=>?_) λf d e b=>by rw[e]at e1;cases e1
 rw[e1]at a;clear u w;injection a with a;injection a with a;injection a with a;subst a;have g:d[H.length]?=some (.list [.ref r1,.ref r2,.ref r3]):=b.mem (aC (aC (aC (aE))));have g1:d[r1]?=some (.list [.int x]):=b.mem (aC (aC (aE)));have B:d[r2]?=some (.list [.int y]):=b.mem (aC (aE));have C:d[r3]?=some (.list [.int x]):=b.mem (aE);erw[s7 g];erw[jS];erw[fM g];erw[aY g1 (v:=.int x) rfl];erw[xS (by simp)];erw[jS];erw[fM g];erw[aY B (v:=.int y) rfl];erw[xS (by simp)];erw[jS];erw[fM g];erw[aY C (v:=.int x) rfl];erw[xS (by simp)];erw[mJ];erw[fM g];erw[nw_eq];exact q _ _ _ (pA e1 t) (LW.new (LW.cut (A:=[_,_,_,_]) b))
theorem RA{rv:kE}(g:4<=n)(W:WT S)(R:LR ho S)(M:LW cd pr ho S pl T Y H)(hr:rv.Ok)(q:∀vs S' i r,eR S rv=(.ok vs,S')->WT S'->LR ho S'->LW cd pr ho S' pl ((r,.list vs)::T) Y i->P (k (.ref r) i))(j:∀f i,(eR S rv).1=.no f->LW cd pr ho S pl T Y i->P (k (.str f) i)):P (aA n (.top "_law_worked") [rv.enc,.ref cd] H k):=by
 induction rv using Lw.kE.casesOn with
 |use o=>refine oE (su 1 g) λn aG=>?_;subst aG;rwa[show kE.enc (.use o)=.tup [.str "use",o.enc]from rfl];erw[JX];exact uO (k:=k) (n3 g) W R M hr q j
 |bin m a b=>exact Dx g W R M hr.1 hr.2 (λvs c r e d=>q vs S c r (by delta eR;simp only[e]) W R d) λe c h d=>j e c (h _) d
 |qM m a b=>exact Ca g W R M hr.1 hr.2 (λvs c r e d=>q vs S c r (by delta eR;simp only[e]) W R d) λe c h d=>j e c (h _) d
 |cmp m a b=>exact Df g W R M hr.1 hr.2 (λvs c r e d=>q vs S c r (by delta eR;simp only[e]) W R d) λe c h d=>j e c (h _) d
 |arr a b=>exact Ea g W R M hr.1 hr.2 (λvs c r e d=>q vs S c r (by delta eR;simp only[e]) W R d) λe c h d=>j e c (h _) d
end
theorem WT.put{l:Nat}(W:WT S)(hf:D_ p vs)(e:bF S p=.ok l o z):WT (gK S l o z vs):=by
 rcases hf with⟨hp,v,rfl,g⟩|⟨rfl,v,w,rfl,g,j⟩|⟨rfl,u,v,w,rfl,q,g,j⟩
 ·refine gB (vW W hp e) λt k h=>?_;refine gX h ?_;clear h;intro cs c a m x i;refine oA i ?_;clear i;intro ok r;clear e;subst k;have ho:o<cs.length:=(dN.mp m).1;have b:gK S l o 1 [v]=bS S l (cs.set o (some v)):=by unfold gK;rwa[a];show bS S l (oC cs o 1 [v])=_;rwa[TP ho];rfl
  rwa[b];exact W.upd (r _ g)
 ·cases a:S 6 with
  |none=>exact aV (W.dead 6 (by decide) a) (by decide)
  |some cs=>
   delta bF at e;simp only[a]at e;injection e with e1 b n;subst e1 b n;refine b_ (W.ok 6 (by decide) cs a) λc d cB m s=>?_;subst cB;have b:gK S 6 0 [c,d].length [v,w]=bS S 6 [some v,some w]:=by unfold gK;rwa[a];rfl
   rwa[b];exact W.upd ⟨_,_,rfl,g,j⟩
 ·cases a:S 7 with
  |none=>exact aV (W.dead 7 (by decide) a) (by decide)
  |some cs=>
   delta bF at e;simp only[a]at e;injection e with e1 b n;subst e1 b n;refine lE (W.ok 7 (by decide) cs a) λc d f aG m s hf=>?_;subst aG;have b:gK S 7 0 [c,d,f].length [u,v,w]=bS S 7 [some u,some v,some w]:=by unfold gK;rwa[a];rfl
   rwa[b];exact W.upd ⟨_,_,_,rfl,q,g,j⟩
theorem D_.len(h:D_ p vs):vs.length<=3:=by rcases h with⟨_,v,rfl,_⟩|⟨_,v,w,rfl,_⟩|⟨_,u,v,w,rfl,_⟩<;>simp
theorem VW:(oC cs o z vs).map Lz=(cs.map Lz).take o++vs++(cs.map Lz).drop (o+z):=by unfold oC;rwa[eZ];rwa[eZ];rwa[List.map_take];rwa[List.map_drop];rwa[List.map_map];rwa[show(Lz∘some:V->V)=id from rfl];rewrite[List.map_id];rfl
theorem IU{ho:List (Nat×Nat)}{S':St}(h:∀p∈ho,S p.1=S' p.1):Ma ho S=Ma ho S':=by unfold Ma;apply List.map_congr_left;intro p hp;rwa[h p hp];rfl
theorem HL{l:Nat}:∀{ho:List (Nat×Nat)},g_ ho->(Ma (fH l ho) (gZ S l)).Sublist (Ma ho S)
 |[],_=>.slnil
 |(y,w)::r,h=>by
  rwa[iX];by_cases e:y=l
  ·rwa[aI e];have:Ma r (gZ S l)=Ma r S:=IU λp hp=>by unfold gZ;rewrite[aH];rfl;intro a;exact(dF.mp h.nd).1 (c7.mpr ⟨p,hp,a.trans e.symm⟩)
   rwa[this];exact .cons _ (.refl _)
  ·rwa[aH e];have a:gZ S l y=S y:=by unfold gZ;rwa[aH e];rfl
   show((w,VO.list (((gZ S l y).getD []).map Lz))::Ma (fH l r) (gZ S l)).Sublist ((w,VO.list (((S y).getD []).map Lz))::Ma r S);rwa[a];exact .cons_cons _ (HL h.tail)
theorem sK{l:Nat}:∀{ho:List (Nat×Nat)},ho.lookup l=none->dY l a ho=ho++[(l,a)]
 |[],_=>rfl
 |(y,w)::r,h=>by
  rw[fA]at h;have e:y≠l:=λe=>by subst e;simp at h
  have b:(l==y)=false:=beq_eq_false_iff_ne.mpr λz=>e z.symm;rw[b]at h;rwa[jL];rwa[aH e];rwa[sK h];rfl
section
variable{ho:List (Nat×Nat)}{pl:List V}{pr:Nat}{A:List (Nat×VO)}{l:Nat}{o1:Op}{w:VO}
theorem LR.del(R:LR ho S):LR (fH l ho) (gZ S l):=by
 refine⟨R.hk.del,λx=>?_⟩;rwa[lU R.hk];unfold gZ;by_cases q:x=l;·rwa[aI q];rwa[aI q];simp
 ·rwa[aH q];rwa[aH q];exact R.iff x
theorem LR.add(R:LR ho S)(b:l<9):LR (dY l a ho) (bS S l cs):=by
 refine⟨R.hk.set b,λx=>?_⟩;rwa[pP];unfold bS;by_cases q:x=l;·rwa[aI q];rwa[aI q];simp
 ·rwa[aH q];rwa[aH q];exact R.iff x
theorem LW.del(R:LR ho S)(M:LW cd pr ho S pl T Y H):LW cd pr (fH l ho) (gZ S l) pl T Y (H.set cd (.dict (d6 (fH l ho)))):=by have:=bN.tC (i:=1) (ob':=.dict (d6 (fH l ho))) M rfl;exact this.sub (List.Sublist.append_left (.cons_cons _ (.cons_cons _ (HL R.hk))) _)
theorem LW.add(R:LR ho S)(M:LW cd pr ho S pl ((a,.list (cs.map Lz))::T) Y H)(h:ho.lookup l=none):LW cd pr (dY l a ho) (bS S l cs) pl T Y (H.set cd (.dict (d6 (dY l a ho)))):=by
 have C:=bN.tC (i:=1) (ob':=.dict (d6 (dY l a ho))) M rfl;refine C.perm ?_
 have e:Ma (dY l a ho) (bS S l cs)=Ma ho S++[(a,.list (cs.map Lz))]:=by
  rwa[sK h];unfold Ma;rwa[eZ];congr 1
  ·apply List.map_congr_left;intro p hp;have:p.1≠l:=λe=>by have:=List.lookup_eq_none_iff.mp h p hp;simp[e]at this
   unfold bS;rwa[aH this];rfl
  ·show[(a,VO.list (((bS S l cs l).getD []).map Lz))]=_;unfold bS;rwa[aI rfl];rfl
 rwa[e];show((a,VO.list (cs.map Lz))::(T++((pr,VO.list pl)::(cd,VO.dict (d6 (dY l a ho)))::Ma ho S))).Perm (T++((pr,VO.list pl)::(cd,VO.dict (d6 (dY l a ho)))::(Ma ho S++[(a,VO.list (cs.map Lz))])));have b:T++((pr,VO.list pl)::(cd,VO.dict (d6 (dY l a ho)))::(Ma ho S++[(a,VO.list (cs.map Lz))]))=(T++((pr,VO.list pl)::(cd,VO.dict (d6 (dY l a ho)))::Ma ho S))++[(a,VO.list (cs.map Lz))]:=by simp
 rwa[b];exact(List.perm_append_singleton _ _).symm
theorem LW.push(M:LW cd pr ho S pl T Y H):LW cd pr ho S (pl++[v]) T Y (H.set pr (.list (pl++[v]))):=bN.tC (i:=0) (ob':=.list (pl++[v])) M rfl
theorem LW.ne{y:Nat}(M:LW cd pr ho S pl ((x,ob)::T) Y H)(h:ho.lookup l=some y):y≠x:=by have C:bN Y H [] ([]++(x,ob)::(T++((pr,.list pl)::(cd,.dict (d6 ho))::Ma ho S))):=M;exact(C.ne (y:=y) (cG _ (cG _ (aC (aC (c7.mpr ⟨(l,y),pH h,rfl⟩)))))).symm
theorem Cw(A:1<=n)(W:WT S)(R:LR ho S)(M:LW cd pr ho S pl ((r,.list vs)::T) Y H)(hp:p.Ok)(hf:D_ p vs)(q:∀l o z c,bF S p=.ok l o z->WT (gK S l o z vs)->LR ho (gK S l o z vs)->LW cd pr ho (gK S l o z vs) pl T Y c->P (k .none c))(D:∀f c,bF S p=.no f->LW cd pr ho S pl T Y c->P (k (.str f) c)):P (aA n (.top "_law_spot") [.ref cd,p.enc] H λb H=>aT (.bi "isinstance") [b,(.typ "str")] H λm H=>tV m λs=>iT s (k b H) (gI b (.int 0) H λt=>gI b (.int 1) H λu=>gI b (.int 1) H λv=>gI b (.int 2) H λw=>Lv .Add v w H λx H=>gF t u x (.ref r) H λH=>k .none H)):=by
 cases e:bF S p with
 |no f=>erw[AV A W R M hp e];erw[iG];erw[iB];erw[bZ];exact D f H e M.drop
 |ok l o z=>
  refine aW (AR A W R M hp e) λa h hs=>?_;refine oA (zJ W hp e) λE d=>?_;refine aW d ?_;clear d;intro cs y F;refine gB (W.rX E y) λG J _=>?_;have row:=M.row h;rw[y]at row;have g:H[a]?=some (.list (cs.map Lz)):=row;have I:cut (cs.map Lz) (.int o) (.int ((o:Int)+z))=some (o,o+z):=by show(if(0:Int)<=(o:Int)/\(o:Int)<=(o:Int)+z/\(o:Int)+z<=((cs.map Lz).length:Nat)then some ((o:Int).toNat,((o:Int)+z).toNat)else none)=_;rw[bO];rwa[aI ⟨by lia,by lia,by lia⟩];rw[fT];rwa[show(((o:Int)+z).toNat)=o+z by lia];rfl
  have K:=hf.len;erw[hs];erw[BD];erw[iB];erw[bC];erw[dB (l:=[.ref a,.int o,.int z]) (i:=0) rfl];erw[dB (l:=[.ref a,.int o,.int z]) (i:=1) rfl];erw[dB (l:=[.ref a,.int o,.int z]) (i:=1) rfl];erw[dB (l:=[.ref a,.int o,.int z]) (i:=2) rfl];erw[add_int];erw[u5 g M.kR I ⟨M.ne h,by lia,by rw[bO];lia⟩];have B:=LW.upd (cs:=oC cs o z vs) R M h;rw[VW]at B;have j:gK S l o z vs=bS S l (oC cs o z vs):=by unfold gK;rwa[y];rfl
  have C:=W.put hf e;rw[j]at C;refine q l o z _ e (j▸C) (j▸R.upd h) ?_;rwa[j];exact B.drop
theorem Bm{rv:kE}(g:5<=n)(W:WT S)(R:LR ho S)(M:LW cd pr ho S pl T Y H)(hp:f_ p rv)(q:∀S' c,dA S (.asg p rv)=(none,S',[])->WT S'->LR ho S'->LW cd pr ho S' pl T Y c->P (k .none c))(m:∀f S' c,(dA S (.asg p rv)).1=some f->LW cd pr ho S' pl T Y c->P (k (.str f) c)):P (aA n (.top "_law_done") [(bM.asg p rv).enc,.ref cd,.ref pr] H k):=by
 refine oE (su 1 g) λn aG=>?_;subst aG;rwa[show bM.enc (.asg p rv)=.tup [.str "assign",p.enc,rv.enc]from rfl];erw[B7];erw[nw_eq];erw[nG cW (t:=false) (by kernel_rfl)];erw[bC];refine RA (n3 g) W R M.app hp.right (λvs B s r e v w d=>?_) λf s e d=>?_;·erw[k8 d.kR];erw[iB];erw[bC];exact Cw (n3 g) v w d hp.place (hp.fit W e) (λl o z h i x y j=>q _ h (by delta dA;simp only[e,i]) x y j) λf h i j=>m f _ h (by delta dA;simp only[e,i]) j
 ·erw[iG];erw[iB];erw[bZ];erw[iG];erw[iB];erw[bZ];refine m f S s ?_ d
  cases u:eR S rv with
  |mk a b=>rw[u]at e;have A:a=.no f:=e;clear e;subst A;delta dA;simp only[u]
theorem SQ(R:LR ho S)(M:LW cd pr ho S pl T Y H)(q:∀d v,LR (fH 4 ho) (gZ S 4)->LW cd pr (fH 4 ho) (gZ S 4) pl T Y d->P (k v d)):P (aJ cf .dict (.ref cd) "pop" [(.int 4),.none] H k):=by
 have b:(dR (.int 4) (d6 ho)&&decide ((d6 ho).length<=100))=true:=by rw[uJ,Bool.true_and,decide_eq_true_iff];unfold d6;rw[bO];have:=R.hk.len;lia
 erw[Db M.dc b];rwa[show(4:Int)=((4:Nat):Int)from rfl];rw[zM,UR]
 cases h:ho.lookup 4 with
 |none=>
  show P (k .none H);have e1:gZ S 4=S:=A_ ((R.iff 4).mpr h)
  have c:fH 4 ho=ho:=by
   have:∀ho:List (Nat×Nat),ho.lookup 4=none->fH 4 ho=ho:=λho=>by
    induction ho with
    |nil=>intro _;rfl
    |cons p r f=>
     obtain⟨y,w⟩:=p;intro h;rw[fA]at h;have e:y≠4:=λe=>by subst e;simp at h
     have c:(4==y)=false:=by simp;lia
     rw[c]at h;rwa[iX];rwa[aH e];rwa[f h];rfl
   exact this ho h
  exact q H _ (by rwa[e1];rwa[c];exact R) (by rwa[e1];rwa[c];exact M)
 |some a=>exact q _ _ R.del (M.del R)
theorem Ad(z:5<=n)(W:WT S)(R:LR ho S)(M:LW cd pr ho S pl T Y H)(hs:st.Ok)(h8:pl.length<=1000)(q:∀S' C vs D,dA S st=(none,S',vs)->WT S'->LR C S'->LW cd pr C S' (pl++vs) T Y D->P (k .none D))(G:∀f S' D,(dA S st).1=some f->LW cd pr ho S' pl T Y D->P (k (.str f) D)):P (aA n (.top "_law_done") [st.enc,.ref cd,.ref pr] H k):=by
 induction st using Lw.bM.casesOn with
 |asg p rv=>exact Bm z W R M hs (λs m e Z u b=>q s ho [] m e Z u (by rw[List.append_nil];exact b)) G
 |live=>
  refine oE (su 1 z) λn J=>?_;clear z;subst J;rwa[show bM.enc .live=.tup [.str "live",.int 4]from rfl];erw[HA];erw[nw_eq];erw[nG cW (t:=true) (by kernel_rfl)];erw[bZ];erw[z_ M.app.dc];refine SQ R M.app λm v u b=>?_;have no:(fH 4 ho).lookup 4=none:=by rwa[lU R.hk];rwa[aI rfl];rfl
  have M2:LW cd pr (fH 4 ho) (gZ S 4) pl ((m.length,.list (([none]:List Cell).map Lz))::T) Y (m++[.list [.none]]):=LW.new b;have E:(dR (.int 4) (d6 (fH 4 ho))&&decide ((d6 (fH 4 ho)).length<=100))=true:=by rw[uJ,Bool.true_and,decide_eq_true_iff];unfold d6;rw[bO];have:=u.hk.len;lia
  erw[nw_eq];erw[jI M2.dc E];rwa[show(4:Int)=((4:Nat):Int)from rfl];rw[vO];have M3:=LW.add u M2 no;have R3:=u.add (l:=4) (a:=m.length) (cs:=[none]) (by decide);rw[HH]at M3 R3;exact q _ _ [] _ rfl W.live R3 (by rw[List.append_nil];exact M3)
 |dead=>refine oE (su 1 z) λn K=>?_;clear z;subst K;rwa[show bM.enc .dead=.tup [.str "dead",.int 4]from rfl];erw[GC];erw[nw_eq];erw[nG cW (t:=true) (by kernel_rfl)];erw[bZ];erw[z_ M.app.dc];exact SQ R M.app λm v u b=>q _ _ [] m rfl W.del u (by rw[List.append_nil];exact b)
 |i_ o=>
  refine oE (su 1 z) λn cB=>?_;subst cB
  have A:o.Ok/\(bI S o).2=S:=by
   clear q G;rcases hs with h|rfl|rfl;·exact⟨h.Ok,sL (.inl h)⟩
   ·exact⟨.inr rfl,rfl⟩
   ·exact⟨.inl ⟨by decide,by decide,by decide⟩,rfl⟩
  rwa[show bM.enc (.i_ o)=.tup [.str "print",o.enc]from rfl];erw[CX];erw[nw_eq];erw[nG cW (t:=false) (by kernel_rfl)];erw[bC];refine uO (n3 z) W R M.app A.1 (λvs s m r e Z u b=>?_) λf m e b=>?_
  ·have B:=A.2;rw[e]at B;have B:s=S:=B;clear M G A;subst B;have e1:(bI s o).1=.ok vs:=by rwa[e];rfl
   have g:=b.kR;erw[k8 g];erw[iB];erw[bC];erw[gP b.S6 (.inl rfl)];have fin:∀w,w=shown vs->P (aJ (aA n) .list (.ref pr) "append" [w] m λL H=>k .none H):=λw hw=>by erw[gU b.S6 h8];rwa[hw];exact q s ho [shown vs] _ (by delta dA;simp only[e1]) W R (LW.drop (LW.push b))
   have Mv:∀v,vs=[v]->P (aT (.bi "len") [.ref r] m λv9 H=>cP .Eq v9 (.int 1) H λN=>iT N (gI (.ref r) (.int 0) H λO=>aJ (aA n) .list (.ref pr) "append" [O] H λL H=>k .none H) (aT (.typ "tuple") [.ref r] H λQ H=>aJ (aA n) .list (.ref pr) "append" [Q] H λb6 H=>k .none H)):=λv U=>by clear b e B e1;subst U;erw[eU g (by simp)];erw[eK];rwa[show decide (((([v]:List V).length:Nat):Int)=1)=true from rfl];erw[bZ];erw[aY g (v:=v) rfl];exact fin v rfl
   clear b q e B;rcases hs with h|rfl|rfl;·refine aW (h.val W e1) λi hi _=>?_;exact Mv _ hi
   ·have j:cF s (.loc 6)=.ok vs:=e1;clear Mv e1;cases I:s 6 with
    |none=>exact aV (W.dead 6 (by decide) I) (by decide)
    |some cs=>
     refine b_ (W.ok 6 (by decide) cs I) λc d aG hc hd=>?_;clear hc hd;subst aG;have F:cF s (.loc 6)=match i8 [c,d]with|none=>.no "uninitialised"|some vs=>.ok vs:=by delta cF bF nV;simp only[I];rfl
     rw[F]at j;clear I;induction c using Option.casesOn with
     |none=>cases j
     |some x=>
      clear F;induction d using Option.casesOn with
      |none=>cases j
      |some y=>injection j with j;subst j;erw[eU g (by simp)];erw[eK];rwa[show decide (((([x,y]:List V).length:Nat):Int)=1)=false from rfl];erw[bC];erw[BL g (by simp)];exact fin _ rfl
   ·have X:(cO.loc 5).Sc:=⟨by decide,by decide,by decide⟩;refine aW (nX W X e1) λv U _=>?_;exact Mv _ U
  ·erw[iG];erw[iB];erw[bZ];exact G f S m (by delta dA;simp only[e]) b
end
def PV(v:V):Prop:=(∃i:Int,v=.int i/\-128<=i/\i<=127)\/(∃b:Bool,v=.bool b)\/∃(i:Int)(b:Bool),v=.tup [.int i,.bool b]/\-128<=i/\i<=127
section
variable{S':St}{f:Str}{o a b:Op}
theorem MC{rv:kE}(W:WT S)(hr:rv.Ok)(h:eR S rv=(.ok vs,S')):WT S':=by
 induction rv using Lw.kE.casesOn with
 |use o=>
  induction o using Lw.Op.casesOn with
  |mv l=>
   have d:l=1\/l=3\/l=4:=hr;have c:(match cF S (.loc l)with|.ok vs=>(Rd.ok vs,bS S l [none])|.no f=>(.no f,S))=(.ok vs,S'):=h;clear hr h;cases e:cF S (.loc l)with
   |no f=>rw[e]at c;cases c
   |ok g=>rw[e]at c;injection c with _ c;refine cM c ?_;refine W.upd (l:=l) ?_;clear e c;rcases d with rfl|rfl|rfl<;>exact⟨none,rfl,.inl rfl⟩
  |ci i=>injection h with _ h;refine cM h ?_;exact W
  |cb i=>injection h with _ h;refine cM h ?_;exact W
  |cu i=>injection h with _ h;refine cM h ?_;exact W
  |cp p=>injection h with _ h;refine cM h ?_;exact W
 |bin m a b=>injection h with _ h;refine cM h ?_;exact W
 |qM m a b=>injection h with _ h;refine cM h ?_;exact W
 |cmp m a b=>injection h with _ h;refine cM h ?_;exact W
 |arr a b=>injection h with _ h;refine cM h ?_;exact W
def DF:Option Str×St×List V->Prop
 |(some f,_,_)=>fF f
 |(none,S',vs)=>WT S'/\(∀v∈vs,PV v)/\vs.length<=1
theorem L6(W:WT S)(hs:st.Ok):DF (dA S st):=by
 induction st using Lw.bM.casesOn with
 |asg p rv=>
  have h:=Q0 W hs.right
  cases e:eR S rv with
  |mk r m=>
   rw[e]at h
   cases r with
   |no f=>rwa[show dA S (.asg p rv)=(some f,m,[])by delta dA;simp only[e]];exact h
   |ok n=>
    have u:=MC W hs.right e;have w:=NU (p:=p) u
    cases q:bF m p with
    |no f=>rwa[show dA S (.asg p rv)=(some f,m,[])by delta dA;simp only[e,q]];rw[q]at w;exact w
    |ok l o z=>rwa[show dA S (.asg p rv)=(none,gK m l o z n,[])by delta dA;simp only[e,q]];exact⟨u.put (hs.fit W e) q,(λv k=>by cases k),Nat.zero_le _⟩
 |live=>exact⟨W.live,(λv k=>by cases k),Nat.zero_le _⟩
 |dead=>exact⟨W.del,(λv k=>by cases k),Nat.zero_le _⟩
 |i_ o=>
  have h:=m_ (a:=o) W
  cases g:(bI S o).1 with
  |no f=>rwa[show dA S (.i_ o)=(some f,S,[])by delta dA;simp only[g]];rw[g]at h;exact h
  |ok n=>
   rwa[show dA S (.i_ o)=(none,S,[shown n])by delta dA;simp only[g]];refine⟨W,λv k=>?_,Nat.le_refl _⟩;clear h;cases List.mem_singleton.mp k;clear k;rcases hs with x|rfl|rfl;·refine aW (x.val W g) λi t y=>?_;clear g;subst t;exact .inl ⟨i,rfl,y⟩
   ·have j:cF S (.loc 6)=.ok n:=g;clear g;cases s:S 6 with
    |none=>exact aV (W.dead 6 (by decide) s) (by decide)
    |some cs=>
     refine b_ (W.ok 6 (by decide) cs s) λc d cB A B=>?_;subst cB;rw[show cF S (.loc 6)=match i8 [c,d]with|none=>.no "uninitialised"|some vs=>.ok vs by delta cF bF nV;simp only[s];rfl]at j;rcases A with rfl|⟨i,rfl,hi⟩;·cases j
     ·clear s;rcases B with rfl|⟨b,rfl⟩;·cases j
      ·cases j;exact .inr (.inr ⟨i,b,rfl,hi⟩)
   ·refine oE (Op.pI.val (o:=.cp (.loc 5)) W trivial g) λb aG=>?_;clear g;subst aG;exact .inr (.inl ⟨b,rfl⟩)
end
section
variable{ho:List (Nat×Nat)}{pl:List V}{pr bd:Nat}{A:List (Nat×VO)}{l:Nat}{w:VO}
theorem X3(s:4<=n)(W:WT S)(R:LR ho S)(M:LW cd pr ho S pl T Y H)(w:t.Ok many)(q:∀g l,bW S t=.at_ g->LW cd pr ho S pl T Y l->P (k (.int g) l))(x:∀v l,bW S t=.out v->LW cd pr ho S pl T Y l->P (k v l))(p:∀f l,bW S t=.no f->LW cd pr ho S pl T Y l->P (k (.str f) l)):P (aA n (.top "_law_goal") [t.enc,.ref cd] H k):=by
 refine oE (su 1 s) λn cB=>?_;subst cB
 induction t using Lw.dT.casesOn with
 |goto g=>rwa[show dT.enc (.goto g)=.tup [.str "goto",.int g]from rfl];erw[G8];exact q g H rfl M
 |wX o g d=>
  rwa[show dT.enc (.wX o g d)=.tup [.str "switch",o.enc,.tup [.tup [.bool false,.int g]],.int d]from rfl];erw[I6];refine TA (n3 s) W R M w.1 (λb c r e a=>?_) λf c e a=>by erw[iG];erw[iB];erw[bZ];exact p f c (by delta bW;simp only[e]) a
  erw[k8 a.kR];erw[iB];erw[bC];erw[aY a.kR (v:=.bool b) rfl];erw[yP]
  induction b using Bool.casesOn with
  |false=>rwa[show(false==false)=true from rfl];erw[bZ];exact q g c (by delta bW;simp only[e];rfl) a.drop
  |true=>rwa[show(false==true)=false from rfl];erw[bC];erw[k_];erw[bC];exact q d c (by delta bW;simp only[e];rfl) a.drop
 |qA o g h d=>
  rwa[show dT.enc (.qA o g h d)=.tup [.str "switch",o.enc,.tup [.tup [.int 0,.int g],.tup [.int 1,.int h]],encD d]from rfl];erw[JV];refine TK (n3 s) W R M w.1 (λi c r e D E a=>?_) λf c e a=>by erw[iG];erw[iB];erw[bZ];exact p f c (by delta bW;simp only[e]) a
  have m:bW S (.qA o g h d)=nK g h d i:=by delta bW;simp only[e]
  erw[k8 a.kR];erw[iB];erw[bC];erw[aY a.kR (v:=.int i) rfl];erw[eK];by_cases j:i=0;·rwa[cC j.symm];erw[bZ];exact q g c (by rwa[m];unfold nK;rwa[aI j];rfl) a.drop
  ·rwa[cU (λe=>j e.symm)];erw[bC];erw[aY a.kR (v:=.int i) rfl];erw[eK];by_cases q1:i=1;·rwa[cC q1.symm];erw[bZ];exact q h c (by rwa[m];unfold nK;rwa[aH j];rwa[aI q1];rfl) a.drop
   ·rwa[cU (λe=>q1 e.symm)];erw[bC];clear w x;induction d using Option.casesOn with
    |none=>rwa[show encD none=V.none from rfl];erw[is_none];erw[bZ];exact p _ c (by rwa[m];unfold nK;rwa[aH j];rwa[aH q1];rfl) a.drop
    |some d=>rwa[show encD (some d)=V.int d from rfl];erw[k_];erw[bC];exact q d c (by rwa[m];unfold nK;rwa[aH j];rwa[aH q1];rfl) a.drop
 |tO o e g=>
  rwa[show dT.enc (.tO o e g)=.tup [.str "assert",o.enc,.bool e,.str "not so",.int g]from rfl];erw[CJ];refine TA (n3 s) W R M w.1 (λb c r h a=>?_) λf c h a=>by erw[iG];erw[iB];erw[bZ];exact p f c (by delta bW;simp only[h]) a
  have m:bW S (.tO o e g)=sM e g b:=by delta bW;simp only[h]
  erw[k8 a.kR];erw[iB];erw[bC];erw[aY a.kR (v:=.bool b) rfl];erw[yP];by_cases j:b=e;·rwa[show(b==e)=true by simpa using j];erw[bZ];exact q g c (by rwa[m];unfold sM;rwa[aI j];rfl) a.drop
  ·rwa[show(b==e)=false by simpa using j];erw[bC];exact x _ _ (by rwa[m];unfold sM;rwa[aH j];rfl) a.drop
 |ret=>
  rwa[show dT.enc .ret=.tup [.str "return"]from rfl];erw[CD];have u:(cO.loc 0).Sc:=⟨by decide,by decide,by decide⟩;refine uO (op:=.cp (.loc 0)) (n3 s) W R M (.inl u) (λvs y c r e z A a=>?_) λf c e a=>by erw[iG];erw[iB];erw[bZ];exact p f c (by have e:cF S (.loc 0)=.no f:=e;delta bW;simp only[e]) a
  have B:(cF S (.loc 0),S)=(Rd.ok vs,y):=e;clear e z A;injection B with e1 C;subst C;refine aW (nX W u e1) λv aG _=>?_;subst aG;erw[k8 a.kR];erw[iB];erw[bC];erw[aY a.kR (v:=v) rfl];exact x _ c (by delta bW;simp only[e1]) a.drop
 |panic=>rwa[show dT.enc .panic=.tup [.str "panic",.str "stop"]from rfl];erw[F4];exact x _ H rfl M
 |ED=>rwa[show dT.enc .ED=.tup [.str "unreachable"]from rfl];erw[zQ];exact p _ H rfl M
theorem WP{x:Int}:aT (.bi "isinstance") [.int x,.typ "int"] H k=k (.bool true) H:=rfl
theorem V8{s:Str}:aT (.bi "isinstance") [.str s,.typ "int"] H k=k (.bool false) H:=rfl
theorem UE{l:List V}:aT (.bi "isinstance") [.tup l,.typ "int"] H k=k (.bool false) H:=rfl
theorem P4{s:Str}:cP .IsNot (.str s) .none H kk=kk true:=rfl
theorem NI:cP .IsNot .none .none H kk=kk false:=rfl
structure rR(bd cd pr:Nat)(b i:Nat)(loc:Loc):Prop where
 body:aU "body" loc=some (.ref bd)
 cells:aU "cells" loc=some (.ref cd)
 prints:aU "prints" loc=some (.ref pr)
 block:aU "block" loc=some (.int b)
 zY:aU "spot" loc=some (.int i)
noncomputable def outer:List Str:=["body","cells","prints","block","spot"]
theorem rR.set{b:Nat}(h:rR bd cd pr b i loc){x:Str}{v:V}(a:outer.contains x=false):rR bd cd pr b i (aB x v loc):=by
 have ne:∀y,outer.contains y=true->x≠y:=λy c e=>by rw[e,c]at a;exact Y0 a
 exact⟨by rw[aR (ne _ (by decide+kernel))];exact h.body,by rw[aR (ne _ (by decide+kernel))];exact h.cells,by rw[aR (ne _ (by decide+kernel))];exact h.prints,by rw[aR (ne _ (by decide+kernel))];exact h.block,by rw[aR (ne _ (by decide+kernel))];exact h.zY⟩
theorem rR.PW{b j:Nat}(h:rR bd cd pr b i loc):rR bd cd pr b j (aB "spot" (.int j) loc):=⟨by rw[aR (by decide+kernel)];exact h.body,by rw[aR (by decide+kernel)];exact h.cells,by rw[aR (by decide+kernel)];exact h.prints,by rw[aR (by decide+kernel)];exact h.block,bK _⟩
theorem rR.setB{b c:Nat}(h:rR bd cd pr b i loc):rR bd cd pr c i (aB "block" (.int c) loc):=⟨by rw[aR (by decide+kernel)];exact h.body,by rw[aR (by decide+kernel)];exact h.cells,by rw[aR (by decide+kernel)];exact h.prints,bK _,by rw[aR (by decide+kernel)];exact h.zY⟩
abbrev XN(n:Nat):V->Loc->VH->Kf->Res:=λb a H h=>gL "body" (aB "turn" b a) λi=>gA i "blocks" H λj=>gL "block" (aB "turn" b a) λk=>gI j k H λl=>gC l H λc d=>gL "spot" (aB "end" d (aB "rows" c (aB "turn" b a))) λm=>gL "rows" (aB "end" d (aB "rows" c (aB "turn" b a))) λo=>aT (.bi "len") [o] H λp H=>cP .Lt m p H λq=>iT q (gL "rows" (aB "end" d (aB "rows" c (aB "turn" b a))) λr=>gL "spot" (aB "end" d (aB "rows" c (aB "turn" b a))) λs=>gI r s H λt=>gL "cells" (aB "end" d (aB "rows" c (aB "turn" b a))) λu=>gL "prints" (aB "end" d (aB "rows" c (aB "turn" b a))) λv=>(aA n) (.top "_law_done") [t,u,v] H λe H=>gL "spot" (aB "fault" e (aB "end" d (aB "rows" c (aB "turn" b a)))) λw=>Lv .Add w (.int 1) H λg H=>gL "fault" (aB "spot" g (aB "fault" e (aB "end" d (aB "rows" c (aB "turn" b a))))) λx=>cP .IsNot x .none H λy=>iT y (gL "fault" (aB "spot" g (aB "fault" e (aB "end" d (aB "rows" c (aB "turn" b a))))) λz=>gL "prints" (aB "spot" g (aB "fault" e (aB "end" d (aB "rows" c (aB "turn" b a))))) λA=>h (.ret (.tup [z,A])) (aB "spot" g (aB "fault" e (aB "end" d (aB "rows" c (aB "turn" b a))))) H) (h .next (aB "spot" g (aB "fault" e (aB "end" d (aB "rows" c (aB "turn" b a))))) H)) (gL "end" (aB "end" d (aB "rows" c (aB "turn" b a))) λB=>gL "cells" (aB "end" d (aB "rows" c (aB "turn" b a))) λC=>(aA n) (.top "_law_goal") [B,C] H λf H=>gL "goal" (aB "goal" f (aB "end" d (aB "rows" c (aB "turn" b a)))) λD=>aT (.bi "isinstance") [D,(.typ "int")] H λE H=>tV E λF=>iT (!F) (gL "goal" (aB "goal" f (aB "end" d (aB "rows" c (aB "turn" b a)))) λG=>gL "prints" (aB "goal" f (aB "end" d (aB "rows" c (aB "turn" b a)))) λI=>h (.ret (.tup [G,I])) (aB "goal" f (aB "end" d (aB "rows" c (aB "turn" b a)))) H) (gL "goal" (aB "goal" f (aB "end" d (aB "rows" c (aB "turn" b a)))) λJ=>h .next (aB "spot" (.int 0) (aB "block" J (aB "goal" f (aB "end" d (aB "rows" c (aB "turn" b a)))))) H))
theorem Z2{K:Kf}(hn:5<=n)(hb:Y[bd]?=some (qC nm 2 lo bl sp))(hr:Y[bl]?=some (VO.list (lst.map V.ref)))(hB:pS Y lst bs)(b7:bs.length<=900)(ok:∀b∈bs,b.1.length<=900/\(∀st∈b.1,st.Ok)/\b.2.Ok bs.length):∀(xs:List V)(S:St)(ho:List (Nat×Nat))(pl:List V)(b i:Nat)(loc:Loc)(H:VH),WT S->LR ho S->LW cd pr ho S pl [] Y H->rR bd cd pr b i loc->b<bs.length->pl.length+xs.length<=1000->(∀v p d S' bL q,eW bs xs.length S b i pl=(v,p)->LW cd pr d S' p [] Y q->P (K (.ret (.tup [v,.ref pr])) bL q))->(∀p d S' bL q,eW bs xs.length S b i pl=(.str "fuel",p)->aU "prints" bL=some (.ref pr)->LW cd pr d S' p [] Y q->P (K .next bL q))->P (c9 (λz9=>true) (XN n) xs loc H K):=by
 intro xs
 induction xs with
 |nil=>intro S ho pl b i loc H W R M G A h8 B F;erw[lZ];erw[gH];exact F pl ho S loc H rfl G.prints M
 |cons x xs ih=>
  intro S ho pl b i loc H W R M G A h8 B F;have b8:pl.length+(xs.length+1)<=1000:=h8
  cases s:bs[b]? with
  |none=>rw[List.getElem?_eq_none_iff]at s;lia
  |some blk=>
   obtain⟨rows,t⟩:=blk;refine b_ (hB.at_ b _ s) λr rr h1 h2 h3=>?_;refine gB (ok _ (eE s)) λC D I=>?_;have J:rows.length<=900:=C;have b9:=hB.len;have y:=G.set (x:="turn") (v:=x) (by decide+kernel);have k:=(y.set (x:="rows") (v:=.ref rr) (by decide+kernel)).set (x:="end") (v:=t.enc) (by decide+kernel);have gr:aU "rows" (aB "end" t.enc (aB "rows" (.ref rr) (aB "turn" x loc)))=some (.ref rr):=by rw[aR (by decide+kernel)];exact bK _
   erw[iF];erw[gH];unfold XN;have g3:H[rr]?=some (.list (rows.map bM.enc)):=M.base _ _ h3;erw[aX y.body];erw[j1 (M.base _ _ hb)];erw[aX y.block];rwa[aY (M.base _ _ hr) (fB (v:=.ref r) (by rwa[e_];rwa[h1];rfl) (by rw[bO];lia))];erw[sA (M.base _ _ h2)];erw[aX k.zY];erw[aX gr];erw[eU g3 (by rw[bO];lia)]
   cases m:rows[i]? with
   |some st=>
    have c6:=(dN.mp m).1;erw[yQ (by rw[bO];lia)];erw[bZ];erw[aX gr];erw[aX k.zY];rwa[aY g3 (fB (v:=st.enc) (by rwa[e_];rwa[m];rfl) (by rw[bO];lia))];erw[aX k.cells];erw[aX k.prints];have run:=w_ (S:=S) (pl:=pl) (f:=xs.length) s m;refine Ad hn W R M (D st (eE m)) (by lia) (λL N vs o e W1 R1 u=>?_) λf L o e u=>?_;·have h:=k.set (x:="fault") (v:=.none) (by decide+kernel);have w:rR bd cd pr b (i+1) _:=h.PW (j:=i+1);erw[aX h.zY];erw[add_int];erw[aX (v:=.none) (by rw[aR (by decide+kernel)];exact bK _)];erw[NI];erw[bC];rw[e]at run;have E:DF (none,L,vs):=e▸L6 W (D st (eE m));have E:=E.2.2;refine ih L N (pl++vs) b (i+1) _ o W1 R1 u w A (by rwa[List.length_append];lia) (λv p d S' bL q e1 z=>B v p d S' bL q (run.trans e1) z) λp d S' bL q e1 hp z=>F p d S' bL q (run.trans e1) hp z
    ·have h:=k.set (x:="fault") (v:=.str f) (by decide+kernel);have w:rR bd cd pr b (i+1) _:=h.PW (j:=i+1);erw[aX h.zY];erw[add_int];erw[aX (v:=.str f) (by rw[aR (by decide+kernel)];exact bK _)];erw[P4];erw[bZ];erw[aX (v:=.str f) (by rw[aR (by decide+kernel)];exact bK _)];erw[aX (v:=.ref pr) (by rw[aR (by decide+kernel)];exact h.prints)];refine B _ pl _ _ _ o ?_ u;show eW bs (xs.length+1) S b i pl=_;rwa[run]
     cases e3:dA S st with
     |mk a bc=>rw[e3]at e;have e':a=some f:=e;subst e';rfl
   |none=>
    have b6:rows.length<=i:=by rw[List.getElem?_eq_none_iff]at m;exact m
    erw[vC (by rw[bO];lia)];erw[bC];erw[aX (bK _)];erw[aX k.cells];have run:=wY (S:=S) (pl:=pl) (f:=xs.length) s m;have stop:∀v o,(∀K:Kv,aT (.bi "isinstance") [v,.typ "int"] o K=K (.bool false) o)->eW bs (x::xs).length S b i pl=(v,pl)->LW cd pr ho S pl [] Y o->P (gL "goal" (aB "goal" v (aB "end" t.enc (aB "rows" (.ref rr) (aB "turn" x loc)))) λO=>aT (.bi "isinstance") [O,(.typ "int")] o λQ H=>tV Q λT=>iT (!T) (gL "goal" (aB "goal" v (aB "end" t.enc (aB "rows" (.ref rr) (aB "turn" x loc)))) λU=>gL "prints" (aB "goal" v (aB "end" t.enc (aB "rows" (.ref rr) (aB "turn" x loc)))) λX=>(K (.ret (.tup [U,X])) (aB "goal" v (aB "end" t.enc (aB "rows" (.ref rr) (aB "turn" x loc)))) H)) (gL "goal" (aB "goal" v (aB "end" t.enc (aB "rows" (.ref rr) (aB "turn" x loc)))) λZ=>c9 (λz9=>true) (XN n) xs (aB "spot" (.int 0) (aB "block" Z (aB "goal" v (aB "end" t.enc (aB "rows" (.ref rr) (aB "turn" x loc)))))) H K)):=λv o hi e u=>by have h:=k.set (x:="goal") (v:=v) (by decide+kernel);erw[aX (bK _)];erw[hi];erw[iB];rwa[show(!false)=true from rfl];erw[bZ];erw[aX (bK _)];erw[aX h.prints];exact B v pl ho S _ o e u
    refine X3 (n4 hn) W R M I (λg o e u=>?_) (λv o e u=>?_) λf o e u=>?_;·have h:=k.set (x:="goal") (v:=.int g) (by decide+kernel);have w:rR bd cd pr g 0 _:=(h.setB (c:=g)).PW (j:=0);erw[aX (bK _)];erw[WP];erw[iB];rwa[show(!true)=false from rfl];erw[bC];erw[aX (bK _)];rw[e]at run;refine ih S ho pl g 0 _ o W R u w (H_ W I e) (by lia) (λv p d S' bL q e1 z=>B v p d S' bL q (run.trans e1) z) λp d S' bL q e1 hp z=>F p d S' bL q (run.trans e1) hp z
    ·refine oE (DS W I e) λl aG=>?_;subst aG;rw[e]at run;exact stop _ o (λK=>UE) run u
    ·rw[e]at run;exact stop _ o (λK=>V8) run u
end
noncomputable def cnt:List bM->Nat
 |[]=>0
 |s::r=>(if s.isLive then 1 else 0)+cnt r
noncomputable def uW:List (List bM×dT)->Nat
 |[]=>0
 |b::r=>cnt b.1+uW r
theorem ID:∀l:List bM,decide (0<cnt l)=l.any bM.isLive
 |[]=>rfl
 |s::r=>by
  rwa[List.any_cons];refine cM (ID r) ?_;show decide (0<(if s.isLive then 1 else 0)+cnt r)=_
  induction s.isLive using Bool.casesOn with
  |true=>rwa[aI rfl];rwa[cC (by(first|lia|omega))];rfl
  |false=>rwa[aH (by decide)];rewrite[Bool.false_or,Nat.zero_add];rfl
theorem EI:∀l:List (List bM×dT),decide (0<uW l)=fG l
 |[]=>rfl
 |b::r=>by
  show decide (0<cnt b.1+uW r)=(b.1.any bM.isLive||fG r);rw[<-ID];refine cM (EI r) ?_;by_cases q:0<cnt b.1;·rwa[cC q];rwa[cC (by(first|with_reducible assumption|lia))];rfl
  ·rwa[cU q];rw[Bool.false_or];rwa[show cnt b.1=0 by lia];rewrite[Nat.zero_add];rfl
noncomputable def pZ(bs:List (List bM×dT)):Nat:=(bs.map λb=>b.1.length).sum
noncomputable abbrev gS(m:Nat):List V:=List.replicate m (.int 4)
section
variable{ho:List (Nat×Nat)}{pl:List V}{pr bd:Nat}{A:List (Nat×VO)}{l rr:Nat}{w:VO}
abbrev ZU:V->VH->List V->(VH->List V->Res)->Res:=λb H a c=>gI b (.int 0) H λd=>cP .Eq d (.str "live") H λe=>iT e (gI b (.int 1) H λf=>kF a f H c) (c H a)
theorem xZ(hr:H[rr]?=some (.list (rows.map bM.enc))){K:VH->List V->Res}:∀(rest:List bM)(m:Nat),m+rest.length<=1000->fP (jC rr (rows.map bM.enc)) ZU (rest.map bM.enc) H (gS m) K=K H (gS (m+cnt rest))
 |[],m,_=>by rwa[List.map_nil];rwa[mJ];rwa[fM hr];rfl
 |st::rest,m,h=>by
  have h':m+(rest.length+1)<=1000:=h;rwa[bX];rwa[jS];rwa[fM hr];unfold ZU;rwa[DX];rwa[A3];clear h;cases a:st.isLive with
  |false=>rwa[bC];refine(xZ hr (K:=K) rest m (by lia)).trans ?_;show K H (gS (m+cnt rest))=K H (gS (m+((if st.isLive=true then 1 else 0)+cnt rest)));rwa[a];rwa[aH (by decide)];rewrite[Nat.zero_add];rfl
  |true=>
   have he:st=.live:=by induction st using Lw.bM.casesOn<;>first|rfl|cases a
   clear a;subst he;rwa[bZ];rwa[show bM.enc .live=V.tup [.str "live",.int 4]from rfl];rwa[dB (l:=[.str "live",.int 4]) rfl];rwa[xS (by rwa[List.length_replicate];lia)];rwa[show gS m++[V.int 4]=gS (m+1)from List.replicate_succ'.symm];refine(xZ hr (K:=K) rest (m+1) (by lia)).trans ?_;show K H (gS (m+1+cnt rest))=K H (gS (m+(1+cnt rest)));rwa[show m+1+cnt rest=m+(1+cnt rest)by lia];rfl
abbrev ZC:V->VH->List V->(VH->List V->Res)->Res:=λb H a c=>gC b H λd e=>gD d ZU H a c
theorem EW(hr:H[bl]?=some (VO.list (lst.map V.ref))){K:VH->List V->Res}:∀(rs:List Nat)(bs:List (List bM×dT))(m:Nat),pS H rs bs->m+pZ bs<=1000->fP (jC bl (lst.map V.ref)) ZC (rs.map V.ref) H (gS m) K=K H (gS (m+uW bs))
 |[],bs,m,hb,_=>by
  have:bs=[]:=by have:=hb.len;clear hb;induction bs using List.casesOn with|nil=>rfl|cons a r=>simp at this
  clear hb;subst this;rwa[List.map_nil];rwa[mJ];rwa[fM hr];rfl
 |x::rs,[],m,hb,_=>by have:=hb.len;simp at this
 |x::rs,(rows,t)::bs,m,hb,h=>by
  refine b_ (hb.at_ 0 (rows,t) rfl) λr rr b d c=>?_;have f:x=r:=by simpa using b
  clear b;subst f
  have i:m+(rows.length+pZ bs)<=1000:=by
   have e:pZ ((rows,t)::bs)=rows.length+pZ bs:=by unfold pZ;rwa[bX];rwa[List.sum_cons];rfl
   rw[e]at h;exact h
  have g:∀l:List bM,cnt l<=l.length:=λl=>by
   induction l with
   |nil=>exact Nat.le_refl _
   |cons s r j=>show(if s.isLive then 1 else 0)+cnt r<=r.length+1;split<;>lia
  have:=g rows;rwa[bX];rwa[jS];rwa[fM hr];unfold ZC;rwa[sA d];rwa[s7 c];rwa[xZ c rows m (by lia)];refine(EW hr (K:=K) rs bs (m+cnt rows) hb.tail (by lia)).trans ?_;show K H (gS (m+cnt rows+uW bs))=K H (gS (m+(cnt rows+uW bs)));rewrite[Nat.add_assoc];rfl
theorem zB:∀m:Nat,jA (Mb H 8) (gS m)=some (List.replicate m (.int 4))
 |0=>rfl
 |m+1=>by
  have e:jA (Mb H 8) (V.int 4::gS m)=some (PyData.int 4::List.replicate m (.int 4)):=by show((some (PyData.int 4)).bind λb=>(jA (Mb H 8) (gS m)).map (b::·))=_;rwa[zB m];rfl
  exact e
theorem PY:jW H (.int j) (gS m)=some (decide (0<m)&&decide (j=4)):=by
 show((jA (Mb H 8) (gS m)).bind λq=>if PySem.SeqAt.shaped (PyData.int j)&&PyData.canLayAll0 q then some (q.any λy=>PyData.eqv y (.int j))else none)=_;rw[zB]
 have lay:∀m:Nat,PyData.canLayAll0 (List.replicate m (.int 4))=true:=λm=>by
  induction m with
  |zero=>rfl
  |succ m b=>rwa[List.replicate_succ];simp[PyData.canLayAll0,PyData.canLay0,b]
 have a:∀m:Nat,((List.replicate m (PyData.int 4)).any λy=>PyData.eqv y (.int j))=(decide (0<m)&&decide (j=4)):=λm=>by
  induction m with
  |zero=>rfl
  |succ m b=>
   rwa[List.replicate_succ];rwa[List.any_cons];rwa[b];rwa[cC (p:=0<m+1) (by lia)];rw[Bool.true_and]
   have:PyData.eqv (.int 4) (.int j)=decide (j=4):=by
    show decide ((4:Int)=(j:Int))=_;by_cases q:j=4;·clear b;subst q;rfl
    ·rwa[cU q];rwa[cU (by(first|with_reducible assumption|lia))];rfl
   rwa[this];by_cases q:j=4;·rwa[cC q];rfl
   ·rwa[cU q];rewrite[Bool.and_false];rfl
 show(if(PySem.SeqAt.shaped (PyData.int j)&&PyData.canLayAll0 (List.replicate m (.int 4)))=true then some ((List.replicate m (PyData.int 4)).any λy=>PyData.eqv y (.int j))else none)=_;rw[lay,a];rwa[show PySem.SeqAt.shaped (PyData.int j)=true from rfl];rfl
noncomputable abbrev SN:List V:=[(.int 1),(.int 1),(.int 1),(.int 1),(.int 1),(.int 1),(.int 2),(.int 3),(.int 1)]
theorem Ef(h:j<9):eT SN (j:Int)=some (.int (mB j)):=by rcases(Ni (l:=j) (by assumption))with rfl|rfl|rfl|rfl|rfl|rfl|rfl|rfl|rfl<;>rfl
noncomputable def rG(ho:List (Nat×Nat)):List V:=ho.map λp=>.tup [.int p.1,.ref p.2]
abbrev El(v2 v4:Nat):V->VH->List V->(VH->List V->Res)->Res:=λb H a c=>cP .NotIn b (.ref v2) H λd=>iT d (nw (.list [.none]) H λe H=>gI (.ref v4) b H λf=>Lv .Mult e f H λg H=>kF a (.tup [b,g]) H c) (c H a)
theorem KX{l:List V}{x:V}{t:Bool}(h:H[m]?=some (.list l))(ho:jW H x l=some t):cP .NotIn x (.ref m) H kk=kk (!t):=by
 have e:cP .NotIn x (.ref m) H kk=(λo:Option VO=>oR ((if qL o then lD none o λl=>jW H x l else dD none o λl=>if dR x l then some (d8 x l).isSome else none).map (!·)) kk) (H[m]?):=by kernel_rfl
 rwa[e];rwa[h];show oR ((jW H x l).map (!·)) kk=_;rwa[ho];rfl
theorem RE:(List.replicate z (none:Cell)).map Lz=List.replicate z .none:=by rwa[List.map_replicate];rfl
theorem AD{v2 v4 m:Nat}{lv:Bool}(b:decide (0<m)=lv)(q:∀ho f,LR ho (dQ lv 9)->bN Y f [] (Ma ho (dQ lv 9)++[(v4,.list SN),(v2,.list (gS m))])->P (K f (rG ho))):∀(d j:Nat)(ho:List (Nat×Nat))(H:VH),j+d=9->LR ho (dQ lv j)->(∀p∈ho,p.1<j)->bN Y H [] (Ma ho (dQ lv j)++[(v4,.list SN),(v2,.list (gS m))])->P (fP (λz9=>true) (El v2 v4) ((List.range d).map λi=>V.int ((j+i:Nat):Int)) H (rG ho) K)
 |0,j,ho,H,g,R,lK,C=>by
  have:j=9:=by lia
  clear g lK;subst this;exact q ho H R C
 |d+1,j,ho,H,g,R,lK,C=>by
  have e:((List.range (d+1)).map λi=>V.int ((j+i:Nat):Int))=V.int (j:Int)::((List.range d).map λi=>V.int ((j+1+i:Nat):Int)):=by rwa[List.range_succ_eq_map];rwa[bX];rwa[List.map_map];congr 1;apply List.map_congr_left;intro i _;show V.int ((j+(i+1):Nat):Int)=V.int ((j+1+i:Nat):Int);rwa[show j+(i+1)=j+1+i by lia];rfl
  have r:H[v2]?=some (.list (gS m)):=C.get (by simp);have s:H[v4]?=some (.list SN):=C.get (by simp);rwa[e];erw[jS];erw[gH];unfold El;erw[KX r PY];rwa[b];by_cases c:lv=true/\j=4;·rwa[c.1];rwa[cC c.2];rwa[show(!(true&&true))=false from rfl];erw[bC];have k:=zD c;refine AD b q d (j+1) ho H (by lia) (k▸R) (λp hp=>Nat.lt_succ_of_lt (lK p hp)) (k▸C)
  ·have:(!(lv&&decide (j=4)))=true:=by
    clear b q R C;induction lv using Bool.casesOn with
    |false=>rfl
    |true=>rwa[cU (λh=>c ⟨rfl,h⟩)];rfl
   have w:mB j<=1000:=by have:=LN (l:=j);lia
   have no:ho.lookup j=none:=by rw[List.lookup_eq_none_iff];intro p hp;have:=lK p hp;simp;lia
   rwa[this];erw[bZ];erw[nw_eq];erw[aY (b6 s) (Ef (by lia))];erw[vS cW (by lia)];rw[fT];erw[xS (by unfold rG;rw[bO];have:=R.hk.len;lia)];have t:=(C.app (G:=[.list [.none]])).new (o:=.list (List.replicate (mB j) .none));have n:=R.add (l:=j) (a:=(H++[VO.list [.none]]).length) (cs:=List.replicate (mB j) none) (by lia);rw[uE c,sK no]at n;have u:rG ho++[V.tup [V.int (j:Int),V.ref (H++[VO.list [.none]]).length]]=rG (ho++[(j,(H++[VO.list [.none]]).length)]):=by unfold rG;rwa[eZ];rfl
   rwa[u];refine AD b q d (j+1) _ _ (by lia) n (λp hp=>?_) ?_
   ·rcases fL.mp hp with hp|hp;·exact Nat.lt_succ_of_lt (lK p hp)
    ·rcases bV.mp hp with rfl|hp;·exact Nat.lt_succ_self _
     ·cases hp
   ·have v:Ma (ho++[(j,(H++[VO.list [.none]]).length)]) (dQ lv (j+1))=Ma ho (dQ lv j)++[((H++[VO.list [.none]]).length,.list (List.replicate (mB j) .none))]:=by
     refine cM (uE c) ?_;unfold Ma;rwa[eZ];congr 1
     ·apply List.map_congr_left;intro p hp;have:p.1≠j:=by have:=lK p hp;lia
      unfold bS;rwa[aH this];rfl
     ·show[(_,VO.list (((bS (dQ lv j) j (List.replicate (mB j) none) j).getD []).map Lz))]=_;unfold bS;rwa[aI rfl];rwa[Option.getD_some];rwa[RE];rfl
    rwa[v];rw[List.append_assoc (Ma ho (dQ lv j))];exact t.perm gR.symm
theorem LJ(ho:List (Nat×Nat)):Mx (rG ho)=some (ho.map λp=>((p.1:Int),V.ref p.2)):=by
 induction ho with
 |nil=>rfl
 |cons p r a=>show(Mx (rG r)).map (((p.1:Int),V.ref p.2)::·)=_;rwa[a];rfl
theorem HQ:∀(rest done:List (Nat×Nat)),((done++rest).map (·.1)).Nodup->(rest.map λp=>((p.1:Int),V.ref p.2)).foldl (λd p=>iQ (.int p.1) p.2 d) (d6 done)=d6 (done++rest)
 |[],done,_=>by rewrite[List.append_nil];rfl
 |(l,a)::rest,done,nd=>by
  have no:done.lookup l=none:=by rw[List.lookup_eq_none_iff];intro p hp;rw[eZ,List.nodup_append]at nd;have:=nd.2.2 _ (iY (f:=(·.1)) hp) l (by simp);simp;lia
  show(rest.map _).foldl _ (iQ (.int l) (.ref a) (d6 done))=_;rw[vO];rwa[sK no];rwa[HQ rest _ (by rw[List.append_assoc];exact nd)];rewrite[List.append_assoc];rfl
theorem PX(hk:g_ ho)(h:H[x]?=some (.list (rG ho))):aT (.typ "dict") [.ref x] H k=k (.ref H.length) (H++[VO.dict (d6 ho)]):=by
 have e:aT (.typ "dict") [.ref x] H k=(λo:Option VO=>match o with
  |some (VO.list l)=>(match Mx l with
   |some ps=>if ps.length<=100 then k (.ref H.length) (H++[VO.dict (ps.foldl (λ(d:List (V×V))(p:Int×V)=>iQ (.int p.1) p.2 d) [])])else Res.stuck
   |none=>.stuck)
  |_=>.stuck) (H[x]?):=by kernel_rfl
 rwa[e];rwa[h]
 show(match Mx (rG ho)with
  |some ps=>if ps.length<=100 then k (.ref H.length) (H++[VO.dict (ps.foldl (λ(d:List (V×V))(p:Int×V)=>iQ (.int p.1) p.2 d) [])])else Res.stuck
  |none=>.stuck)=_;rw[LJ];show(if(ho.map λp=>((p.1:Int),V.ref p.2)).length<=100 then _ else _)=_;rw[bO];rwa[aI (fS hk.len (by decide))];rwa[show([]:List (V×V))=d6 []from rfl];rwa[HQ ho [] hk.nd];rfl
theorem R0{A B:List (Nat×Nat)}(h:∀p∈A,p.1≠l):dY l a (A++(l,x)::B)=A++(l,a)::B:=by
 induction A with
 |nil=>show(if l=l then _ else _)=_;rwa[aI rfl];rfl
 |cons p r b=>obtain⟨y,w⟩:=p;show(if y=l then _ else(y,w)::dY l a (r++(l,x)::B))=_;rwa[aH (h (y,w) (aE))];rwa[b λp hp=>h p (aC hp)];rfl
theorem LW.rep(R:LR ho S)(g:l<9)(M:LW cd pr ho S pl ((a,.list (cs.map Lz))::T) Y H)(h:ho.lookup l=some x):LR (dY l a ho) (bS S l cs)/\LW cd pr (dY l a ho) (bS S l cs) pl T Y (H.set cd (.dict (d6 (dY l a ho)))):=by
 refine⟨R.add g,?_⟩;refine wU (List.append_of_mem (pH h)) λA B e=>?_;have nd:=R.hk.nd;rw[e,eZ,bX,List.nodup_append]at nd;refine gB nd ?_;clear nd;intro o c n3;rw[dF]at c;have d:∀p∈A,p.1≠l:=λp hp=>n3 _ (iY (f:=(·.1)) hp) l (aE);have hB:∀p∈B,p.1≠l:=λp hp b=>c.1 (c7.mpr ⟨p,hp,b⟩);have es:dY l a ho=A++(l,a)::B:=by rwa[e];exact R0 d
 have C:=bN.tC (i:=1) (ob':=.dict (d6 (dY l a ho))) M rfl;have o1:∀q:List (Nat×Nat),(∀p∈q,p.1≠l)->Ma q (bS S l cs)=Ma q S:=λq j=>IU λp hp=>by unfold bS;rwa[aH (j p hp)];rfl
 have e1:Ma (dY l a ho) (bS S l cs)=Ma A S++(a,.list (cs.map Lz))::Ma B S:=by rwa[es];show(A++(l,a)::B).map _=_;rwa[eZ];rwa[bX];show Ma A (bS S l cs)++(a,VO.list (((bS S l cs l).getD []).map Lz))::Ma B (bS S l cs)=_;rwa[o1 A d];rwa[o1 B hB];unfold bS;rwa[aI rfl];rfl
 have b:Ma ho S=Ma A S++(x,.list (((S l).getD []).map Lz))::Ma B S:=by rwa[e];show(A++(l,x)::B).map _=_;rwa[eZ];rwa[bX];rfl
 have C':bN Y (H.set cd (.dict (d6 (dY l a ho)))) [] ((a,VO.list (cs.map Lz))::(T++((pr,VO.list pl)::(cd,VO.dict (d6 (dY l a ho)))::Ma ho S))):=C;show bN Y _ [] (T++((pr,VO.list pl)::(cd,VO.dict (d6 (dY l a ho)))::Ma (dY l a ho) (bS S l cs)));rwa[e1];rw[b]at C';have k:=C'.sub (L':=(a,VO.list (cs.map Lz))::(T++((pr,VO.list pl)::(cd,VO.dict (d6 (dY l a ho)))::(Ma A S++Ma B S)))) (.cons_cons _ (List.Sublist.append_left (.cons_cons _ (.cons_cons _ (List.Sublist.append_left (List.sublist_cons_self _ _) _))) _));refine k.perm ?_;have m:T++((pr,VO.list pl)::(cd,VO.dict (d6 (dY l a ho)))::(Ma A S++(a,VO.list (cs.map Lz))::Ma B S))=(T++((pr,VO.list pl)::(cd,VO.dict (d6 (dY l a ho)))::Ma A S))++(a,VO.list (cs.map Lz))::Ma B S:=by simp
 have n:T++((pr,VO.list pl)::(cd,VO.dict (d6 (dY l a ho)))::(Ma A S++Ma B S))=(T++((pr,VO.list pl)::(cd,VO.dict (d6 (dY l a ho)))::Ma A S))++Ma B S:=by simp
 rwa[m];rwa[n];exact gR.symm
theorem Dd:gD (.eF 0 9 1) turn H acc K=fP (λz9=>true) turn ((List.range 9).map λi=>V.int ((0+i:Nat):Int)) H acc K:=by kernel_rfl
theorem NP(m:Nat):lV 0 m 1=some ((List.range m).map λi:Nat=>.int (0+(i:Int))):=by unfold lV;rwa[aI rfl];rwa[show((m:Int)-0).toNat=m by lia];rfl
theorem wG(h:m<=1000000):Ly (.eF 0 m 1) H=some ((List.range m).map λi:Nat=>V.int (0+(i:Int)),λz9=>true):=by show(if(Mf 0&&Mf m)=true then(lV 0 m 1).map λl=>(l,λz9=>true)else none)=_;rwa[show(Mf 0&&Mf (m:Int))=true by rwa[nO (i:=(m:Int)) (by lia) (by lia)];rfl];rwa[aI rfl];rewrite[NP];rfl
theorem s5{turn:V->Loc->VH->Kf->Res}{K:Kf}(h:m<=1000000):f7 (.eF 0 m 1) turn loc H K=c9 (λz9=>true) turn ((List.range m).map λi:Nat=>V.int (0+(i:Int))) loc H K:=by unfold f7;rwa[wG h];rfl
theorem PU(h:m<=1000000):gD (.eF 0 m 1) turn H acc K=fP (λz9=>true) turn ((List.range m).map λi:Nat=>V.int (0+(i:Int))) H acc K:=by unfold gD;rwa[wG h];rfl
theorem start_eq:bS (bS (dQ lv 9) 1 [some (.int g0)]) 2 [some (.int g1)]=iM lv g0 g1:=by
 have i1:dQ lv 9 1=some [none]:=by induction lv using Bool.casesOn<;>rfl
 have i2:dQ lv 9 2=some [none]:=by clear i1;induction lv using Bool.casesOn<;>rfl
 unfold iM gK;rwa[i1];show _=bS (bS (dQ lv 9) 1 (oC [none] 0 1 [.int g0])) 2 (oC ((bS (dQ lv 9) 1 (oC [none] 0 1 [.int g0]) 2).getD []) 0 1 [.int g1]);have i3:bS (dQ lv 9) 1 (oC [none] 0 1 [.int g0]) 2=some [none]:=by unfold bS;rwa[aH (by(first|decide|omega))];exact i2
 rwa[i3];rfl
theorem BJ(h0:-128<=g0/\g0<=127)(a:-128<=g1/\g1<=127):WT (iM lv g0 g1):=by refine cM start_eq ?_;exact(F5.upd (l:=1) (cs:=[some (.int g0)]) ⟨_,rfl,.inr ⟨g0,rfl,h0⟩⟩).upd (l:=2) (cs:=[some (.int g1)]) ⟨_,rfl,.inr ⟨g1,rfl,a⟩⟩
theorem Bf{fuel:Nat}(C:6<=n)(hb:H[bd]?=some (qC nm 2 lo bl sp))(hr:H[bl]?=some (VO.list (lst.map V.ref)))(hB:pS H lst bs)(t:0<bs.length)(u:bs.length<=900)(I:pZ bs<=1000)(ok:∀b∈bs,b.1.length<=900/\(∀st∈b.1,st.Ok)/\b.2.Ok bs.length)(h0:-128<=g0/\g0<=127)(J:-128<=g1/\g1<=127)(L:fuel<=90)(q:∀v p c pr,eW bs fuel (iM (fG bs) g0 g1) 0 0 []=(v,p)->c[pr]?=some (.list p)->(∀(a:Nat)(o:VO),H[a]?=some o->c[a]?=some o)->P (k (.tup [v,.ref pr]) c)):P (aA n (.top "_law_run") [.ref bd,.tup [.int g0,.int g1],.int fuel] H k):=by
 refine oE (su 1 C) λn aG=>?_;subst aG;erw[MV];erw[j1 hb];erw[s7 hr];have N:∀K:VH->List V->Res,fP (jC bl (lst.map V.ref)) ZC (lst.map V.ref) H [] K=K H (gS (uW bs)):=λK=>by have:=EW hr (K:=K) lst bs 0 hB (by lia);rw[Nat.zero_add]at this;exact this
 erw[N];refine fW (pN (H:=H)) λH1 v2 O=>?_;refine fW O λQ v4 S=>?_;erw[i4];rwa[show((9:Int))=((9:Nat):Int)from rfl];rwa[show(V.eF 0 ((9:Nat):Int) 1)=V.eF 0 9 1 from rfl];erw[Dd];refine AD (Y:=H) (v2:=v2) (v4:=v4) (m:=uW bs) (lv:=fG bs) (EI bs) (λho H3 R T=>?_) 9 0 [] Q rfl ?_ (λp hp=>by cases hp) ?_;rotate_left;·exact⟨⟨.nil,λp hp=>by cases hp⟩,λl=>by unfold dQ;rwa[aH (by(first|lia|omega))];simp⟩
 ·exact S
 refine fW T λw v6 D=>?_;rwa[PX R.hk (D.get (aE))];have U:=D.new (o:=.dict (d6 ho));erw[dB (l:=[.int g0,.int g1]) (i:=0) (v:=.int g0) rfl];refine fW U λH6 h W=>?_;erw[dB (l:=[.int g0,.int g1]) (i:=1) (v:=.int g1) rfl];refine fW W λH7 j X=>?_;refine fW X λZ f C8=>?_;have M:LW w.length f ho (dQ (fG bs) 9) [] [(h,.list (([some (.int g0)]:List Cell).map Lz)),(j,.list (([some (.int g1)]:List Cell).map Lz))] H Z:=by have s:=C8.sub (L':=(f,VO.list [])::(j,.list [.int g1])::(h,.list [.int g0])::(w.length,.dict (d6 ho))::Ma ho (dQ (fG bs) 9)) (.cons_cons _ (.cons_cons _ (.cons_cons _ (.cons_cons _ (.cons _ (List.sublist_append_left _ _))))));refine s.perm ?_;exact((List.Perm.cons _ (List.Perm.swap _ _ _)).trans (gR (l₁:=[_,_]) (l₂:=_)).symm)
 have i1:dQ (fG bs) 9 1=some [none]:=by induction fG bs using Bool.casesOn<;>rfl
 have i2:dQ (fG bs) 9 2=some [none]:=by induction fG bs using Bool.casesOn<;>rfl
 have d:∀{ho:List (Nat×Nat)}{x:Int},g_ ho->(dR (.int x) (d6 ho)&&decide ((d6 ho).length<=100))=true:=λhk=>by rw[uJ,Bool.true_and,decide_eq_true_iff];unfold d6;rw[bO];have:=hk.len;lia
 refine oE (R.has i1) λx1 y=>?_;refine oA (LW.rep (l:=1) R (by decide) M y) λz E=>?_;erw[jI M.dc (d R.hk)];rwa[show(1:Int)=((1:Nat):Int)from rfl];rw[vO];have i3:bS (dQ (fG bs) 9) 1 [some (.int g0)] 2=some [none]:=by unfold bS;rwa[aH (by(first|decide|omega))];exact i2
 refine oE (z.has i3) λx2 A=>?_;refine oA (LW.rep (l:=2) z (by decide) E A) λF G=>?_;erw[jI E.dc (d z.hk)];rwa[show(2:Int)=((2:Nat):Int)from rfl];rw[vO];rw[start_eq]at F G;erw[i4];erw[s5 (by lia)];have g:((List.range fuel).map λi:Nat=>V.int (0+(i:Int))).length=fuel:=by rw[bO];rwa[List.length_range];rfl
 refine Z2 (bd:=bd) (cd:=w.length) (pr:=f) (n3 C) hb hr hB u ok _ (iM (fG bs) g0 g1) _ [] 0 0 _ _ (BJ h0 J) F G ⟨by kernel_rfl,by kernel_rfl,by kernel_rfl,by kernel_rfl,by kernel_rfl⟩ t (by rwa[g];show 0+fuel<=1000;lia) (λv p B S' bL c e r=>?_) λp B S' bL c e hp r=>?_;·rw[g]at e;show P (k _ c);exact q v p c _ e r.S6 r.base
 ·rw[g]at e;erw[mA];erw[aX hp];show P (k _ c);exact q _ p c _ e r.S6 r.base
end
def SR(sr:Nat)(T:List (Nat×VO))(Y H:VH):Prop:=∃a b:Int,0<=a/\0<=b/\b<2147483647/\bN Y H [] ((sr,.list [.int a,.int b])::T)
theorem n9{i:Int}(a:0<=i)(b:i<4294967296):Mf i=true:=by unfold Mf;rwa[cC (by(first|with_reducible assumption|lia))];rwa[cC (by(first|with_reducible assumption|lia))];rfl
section
variable{A:List (Nat×VO)}{sr:Nat}{w:VO}
theorem mod_int{x:Int}(h:0<y):Lv .Mod (.int x) (.int y) H k=k (.int (x%y)) H:=by show(if 0<y then k (.int (x%y)) H else .stuck)=_;rwa[aI h];rfl
theorem FG{x:Int}(h:0<y/\y<1073741824):Lv .FloorDiv (.int x) (.int y) H k=k (.int (x/y)) H:=by show(if 0<y/\y<1073741824 then k (.int (x/y)) H else .stuck)=_;rwa[aI h];rfl
theorem O3{a:Int}:cP .Gt (.int a) (.int b) H kk=kk (decide (a>b)):=rfl
theorem SR.new(M:SR sr T Y H):SR sr ((H.length,w)::T) Y (H++[w]):=by refine gX M ?_;clear M;intro a b c d e C;exact⟨a,b,c,d,e,C.new.perm (.swap _ _ _)⟩
theorem SR.sub{T':List (Nat×VO)}(M:SR sr T Y H)(h:T'.Sublist T):SR sr T' Y H:=by refine gX M ?_;clear M;intro a b c d e C;exact⟨a,b,c,d,e,C.sub (.cons_cons _ h)⟩
theorem SR.perm{T':List (Nat×VO)}(M:SR sr T Y H)(h:T.Perm T'):SR sr T' Y H:=by refine gX M ?_;clear M;intro a b c d e C;exact⟨a,b,c,d,e,C.perm (.cons _ h)⟩
theorem SR.drop{p:Nat×VO}(M:SR sr (p::T) Y H):SR sr T Y H:=M.sub (List.sublist_cons_self _ _)
theorem SR.get{o:VO}(M:SR sr T Y H)(h:(x,o)∈T):H[x]?=some o:=by refine gX M ?_;clear M;intro a b c d e C;exact C.get (aC h)
theorem SR.set{o:VO}(M:SR sr (A++(x,o)::B) Y H):SR sr (A++(x,o')::B) Y (H.set x o'):=by refine gX M ?_;clear M;intro a b c d e C;exact⟨a,b,c,d,e,bN.set (A:=(sr,.list [.int a,.int b])::A) C⟩
theorem xR{o:VO}(M:SR sr T Y H)(q:∀a r,SR sr ((r,o)::T) Y a->P (k (.ref r) a)):P (nw o H k):=q _ _ M.new
theorem kH{top:Nat}(i:1<=n)(M:SR sr T Y H)(t:0<top)(p:top<=1000)(q:∀r:Nat,r<top->∀j,SR sr T Y j->P (k (.int r) j)):P (aA n (.top "_law_take") [.ref sr,.int top] H k):=by
 refine oE (su 1 i) λn aG=>?_;clear i;subst aG;refine gX M ?_;clear M;intro a b l m s C;have g:H[sr]?=some (.list [.int a,.int b]):=C.get (aE);erw[LA];erw[aY g (v:=.int a) rfl];erw[O3];by_cases o:a>0
 ·have e1:a%(top:Int)=((a%(top:Int)).toNat:Nat):=(Int.toNat_of_nonneg (Int.emod_nonneg _ (by lia))).symm;have f:(a%(top:Int)).toNat<top:=by have:=Int.emod_lt_of_pos a (b:=(top:Int)) (by lia);lia
  rwa[cC o];erw[bZ];erw[aY g (v:=.int a) rfl];erw[mod_int (by lia)];erw[aY g (v:=.int a) rfl];erw[FG ⟨by lia,by lia⟩];erw[mU g ⟨by decide,by simp,by simp⟩];rwa[e1];exact q _ f _ ⟨a/top,b,Int.ediv_nonneg l (by lia),m,s,bN.set (A:=[]) (o':=.list [.int (a/top),.int b]) C⟩
 ·have d:=Int.emod_nonneg (b*39373+7) (b:=2147483647) (by decide);have e:=Int.emod_lt_of_pos (b*39373+7) (b:=2147483647) (by decide);rwa[cU o];erw[bC];erw[aY g (v:=.int b) rfl];erw[mul_int (n9 m (by lia)) (by decide)];erw[add_int];erw[mod_int (by decide)];erw[mU g ⟨by decide,by simp,by simp⟩];have h:=bN.set (A:=[]) (o':=.list [.int a,.int ((b*39373+7)%2147483647)]) C;have g1:(H.set sr (.list [.int a,.int ((b*39373+7)%2147483647)]))[sr]?=some (.list [.int a,.int ((b*39373+7)%2147483647)]):=h.get (aE);generalize(b*39373+7)%2147483647=c at d e h g1⊢;have e1:c*c%2147483629/32%(top:Int)=((c*c%2147483629/32%(top:Int)).toNat:Nat):=(Int.toNat_of_nonneg (Int.emod_nonneg _ (by lia))).symm;have f:(c*c%2147483629/32%(top:Int)).toNat<top:=by have:=Int.emod_lt_of_pos (c*c%2147483629/32) (b:=(top:Int)) (by lia);lia
  rwa[show([V.int a,V.int b]:List V).set (Int.toNat 1) (V.int c)=[V.int a,V.int c]from rfl];erw[aY g1 (v:=.int c) rfl];erw[aY g1 (v:=.int c) rfl];erw[mul_int (n9 d (by lia)) (n9 d (by lia))];erw[mod_int (by decide)];erw[FG (by decide)];erw[mod_int (by lia)];rwa[e1];exact q _ f _ ⟨a,c,l,d,e,h⟩
theorem i6(b:2<=n)(M:SR sr T Y H)(f:0<l.length)(a:l.length<=1000)(q:∀v∈l,∀c,SR sr T Y c->P (k v c)):P (nw (.list l) H λv H=>aA n (.top "_law_one") [.ref sr,v] H k):=by refine oE (su 1 b) λn aG=>?_;subst aG;refine xR M λh r d=>?_;erw[LQ];rwa[eU (d.get (aE)) a];refine kH (n3 b) d f a λi hi g e=>?_;rwa[aY (e.get (aE)) (fB (List.getElem?_eq_getElem hi) a)];exact q _ (List.getElem_mem hi) g e.drop
@[elab_as_elim]theorem eX{p:α->Prop}{v a:α}{l:List α}(h:v∈a::l)(b:p a)(c:v∈l->p v):p v:=(bV.mp h).elim (λe=>e▸b) c
theorem wZ(c:3<=n)(M:SR sr T Y H)(q:∀o:Op,o.Num->∀e,SR sr T Y e->P (k o.enc e)):P (aA n (.top "_law_number") [.ref sr] H k):=by
 refine oE (su 1 c) λn cB=>?_;subst cB;erw[E9];rwa[show(8:Int)=((8:Nat):Int)from rfl];refine kH (n3 c) M (by decide) (by decide) λr hr d b=>?_;erw[pE];by_cases f:(r:Int)<2;·rwa[cC f];erw[bZ];refine i6 (n3 c) b (by simp) (by simp) λv a j l=>?_;have:∃i:Int,v=.int i/\-128<=i/\i<=127:=eX a ⟨_,rfl,by decide,by decide⟩ λa=>eX a ⟨_,rfl,by decide,by decide⟩ λa=>eX a ⟨_,rfl,by decide,by decide⟩ λa=>eX a ⟨_,rfl,by decide,by decide⟩ λa=>eX a ⟨_,rfl,by decide,by decide⟩ λa=>nomatch a;refine aW this ?_;clear this;intro i aG hi;clear a;subst aG;exact q (.ci i) hi j l
 ·rwa[cU f];erw[bC];erw[pE];by_cases g:(r:Int)<6;·rwa[cC g];erw[bZ];erw[sub_int];rwa[show(r:Int)-1=((r-1:Nat):Int)by lia];exact q (.cp (.loc (r-1))) (by show 1<=r-1/\r-1<=4;lia) d b
  ·rwa[cU g];erw[bC];erw[eK];by_cases h:(r:Int)=6;·rwa[cC h];erw[bZ];exact q (.cp (.fld 0)) trivial d b
   ·rwa[cU h];erw[bC];exact q (.cp .idx) trivial d b
theorem IA(b:3<=n)(M:SR sr T Y H)(q:∀o:Op,o.pI->∀c,SR sr T Y c->P (k o.enc c)):P (aA n (.top "_law_truth") [.ref sr] H k):=by refine oE (su 1 b) λn aG=>?_;subst aG;erw[GR];refine i6 (n3 b) M (by decide) (by decide) λv a=>eX a (q (.cp (.loc 5)) trivial) λa=>eX a (q (.cp (.loc 5)) trivial) λa=>eX a (q (.cp (.fld 1)) trivial) λa=>eX a (q (.cb true) trivial) λa=>nomatch a
theorem S2(h:v∈[V.str "+",.str "-",.str "*"]):∃m:Ar,v=.str m.str:=by
 simp only[bV,List.not_mem_nil,or_false]at h;rcases h with rfl|rfl|rfl;·exact⟨.add,rfl⟩
 ·exact⟨.sub,rfl⟩
 ·exact⟨.mul,rfl⟩
theorem Di(h:v∈[V.str "<",.str "==",.str ">="]):∃m:Cm,v=.str m.str:=by exact eX h ⟨.lt,rfl⟩ λh=>eX h ⟨.eq,rfl⟩ λh=>eX h ⟨.ge,rfl⟩ λh=>nomatch h
theorem F8(d:4<=n)(M:SR sr T Y H)(q:∀st:bM,st.Ok->∀t,SR sr T Y t->P (k st.enc t)):P (aA n (.top "_law_statement") [.ref sr] H k):=by
 refine oE (su 1 d) λn h=>?_;subst h;erw[yC];rwa[show(12:Int)=((12:Nat):Int)from rfl];refine kH (n3 d) M (by decide) (by decide) λr hr x M=>?_;refine i6 (n3 d) M (by decide) (by decide) λv c y M=>?_;have:∃g:Nat,v=.int g/\(g=0\/g=3\/g=4):=by exact eX c ⟨0,rfl,.inl rfl⟩ λc=>eX c ⟨3,rfl,.inr (.inl rfl)⟩ λc=>eX c ⟨3,rfl,.inr (.inl rfl)⟩ λc=>eX c ⟨4,rfl,.inr (.inr rfl)⟩ λc=>eX c ⟨4,rfl,.inr (.inr rfl)⟩ λc=>nomatch c
 refine aW this ?_;clear this;intro g i u;clear c;subst i;have o:cO.I8 (.loc g):=u;refine wZ (n3 d) M λa e z M=>?_;refine wZ (n3 d) M λb hb A M=>?_;erw[eK];by_cases h0:(r:Int)=0;·rwa[cC h0];erw[bZ];exact q (.asg (.loc g) (.use a)) (.inl ⟨o,.inl e⟩) _ M
 rwa[cU h0];erw[bC];erw[eK];by_cases h0:(r:Int)=1;·rwa[cC h0];erw[bZ];refine i6 (n3 d) M (by decide) (by decide) λv c f M=>?_;refine oE (S2 c) λm p=>?_;clear c;subst p;exact q (.asg (.loc g) (.bin m a b)) ⟨o,e,hb⟩ _ M
 rwa[cU h0];erw[bC];erw[eK];by_cases h0:(r:Int)=2;·rwa[cC h0];erw[bZ];refine i6 (n3 d) M (by decide) (by decide) λv c f M=>?_;refine oE (S2 c) λm s=>?_;clear c;subst s;exact q (.asg (.loc 6) (.qM m a b)) ⟨rfl,e,hb⟩ _ M
 rwa[cU h0];erw[bC];erw[eK];by_cases h0:(r:Int)=3;·rwa[cC h0];erw[bZ];refine i6 (n3 d) M (by decide) (by decide) λv c f M=>?_;refine oE (Di c) λm cB=>?_;clear c;subst cB;exact q (.asg (.loc 5) (.cmp m a b)) ⟨rfl,e,hb⟩ _ M
 rwa[cU h0];erw[bC];erw[eK];by_cases h0:(r:Int)=4;·rwa[cC h0];erw[bZ];exact q (.asg (.loc 7) (.arr a b)) ⟨rfl,e,hb⟩ _ M
 rwa[cU h0];erw[bC];erw[eK];by_cases h0:(r:Int)=5;·rwa[cC h0];erw[bZ];exact q (.asg .idx (.use a)) (.inl ⟨trivial,.inl e⟩) _ M
 rwa[cU h0];erw[bC];erw[eK];by_cases h0:(r:Int)=6;·rwa[cC h0];erw[bZ];rwa[show(4:Int)=((4:Nat):Int)from rfl];refine kH (n3 d) M (by decide) (by decide) λj B f M=>?_;exact q (.asg (.loc 8) (.use (.cu j))) (.inr (.inr (.inl ⟨rfl,j,rfl,by lia⟩))) _ M
 rwa[cU h0];erw[bC];erw[eK];by_cases h0:(r:Int)=7;·rwa[cC h0];erw[bZ];exact q (.asg (.fld 0) (.use a)) (.inl ⟨rfl,.inl e⟩) _ M
 rwa[cU h0];erw[bC];erw[eK];by_cases h0:(r:Int)=8
 ·rwa[cC h0];erw[bZ];refine i6 (n3 d) M (by decide) (by decide) λv c f M=>?_;have:∃l:Nat,v=.int l/\(l=1\/l=3\/l=4):=by exact eX c ⟨1,rfl,.inl rfl⟩ λc=>eX c ⟨3,rfl,.inr (.inl rfl)⟩ λc=>eX c ⟨4,rfl,.inr (.inr rfl)⟩ λc=>nomatch c
  refine aW this ?_;clear this;intro l aG w;clear c;subst aG;exact q (.asg (.loc g) (.use (.mv l))) (.inl ⟨o,.inr ⟨l,rfl,w⟩⟩) _ M
 rwa[cU h0];erw[bC];erw[eK];by_cases h0:(r:Int)=9;·rwa[cC h0];erw[bZ];refine i6 (n3 d) M (by decide) (by decide) λv c=>eX c (q .live trivial) λc=>eX c (q .dead trivial) λc=>eX c (q .live trivial) λc=>nomatch c
 rwa[cU h0];erw[bC];refine i6 (n3 d) M (Nat.succ_pos _) (show 3<=1000 by decide) λv c=>eX c (q (.i_ a) (.inl e)) λc=>eX c (q (.i_ (.cp (.loc 6))) (.inr (.inl rfl))) λc=>eX c (q (.i_ (.cp (.loc 5))) (.inr (.inr rfl))) λc=>nomatch c
theorem Ee(b:4<=n)(M:SR sr T Y H)(hm:0<many)(e:many<=1000)(q:∀t:dT,t.Ok many->∀i,SR sr T Y i->P (k t.enc i)):P (aA n (.top "_law_end") [.ref sr,.int many] H k):=by
 refine oE (su 1 b) λn aG=>?_;subst aG;erw[L7];rwa[show(8:Int)=((8:Nat):Int)from rfl];refine kH (n3 b) M (by decide) (by decide) λr hr p M=>?_;refine kH (n3 b) M hm e λg c s M=>?_;refine kH (n3 b) M hm e λd f u M=>?_;erw[pE];by_cases h0:(r:Int)<2;·rwa[cC h0];erw[bZ];exact q .ret trivial _ M
 rwa[cU h0];erw[bC];erw[eK];by_cases h0:(r:Int)=2;·rwa[cC h0];erw[bZ];exact q (.goto g) c _ M
 rwa[cU h0];erw[bC];erw[pE];by_cases h0:(r:Int)<5;·rwa[cC h0];erw[bZ];refine IA (n3 b) M λo ho l M=>?_;exact q (.wX o g d) ⟨ho,c,f⟩ _ M
 rwa[cU h0];erw[bC];erw[eK];by_cases h0:(r:Int)=5;·rwa[cC h0];erw[bZ];refine wZ (n3 b) M λo ho l M=>?_;erw[sub_int];refine i6 (n3 b) M (Nat.succ_pos _) (show 3<=1000 by decide) λv a=>eX a (q (.qA o g d none) ⟨ho,c,f,λx h=>by exact dW h⟩) λa=>eX a (q (.qA o g d (some 0)) ⟨ho,c,f,λx h=>by injection h with h;lia⟩) λa=>eX a (λm M=>?_) λa=>nomatch a;·rwa[show(many:Int)-1=((many-1:Nat):Int)by lia];exact q (.qA o g d (some (many-1))) ⟨ho,c,f,λx h=>by injection h with h;lia⟩ _ M
 rwa[cU h0];erw[bC];erw[eK];by_cases h0:(r:Int)=6;·rwa[cC h0];erw[bZ];refine IA (n3 b) M λo ho l M=>?_;rwa[show(2:Int)=((2:Nat):Int)from rfl];refine kH (n3 b) M (by decide) (by decide) λj w m M=>?_;erw[eK];exact q (.tO o (decide ((j:Int)=0)) g) ⟨ho,c⟩ _ M
 rwa[cU h0];erw[bC];refine i6 (n3 b) M (by decide) (by decide) λv a=>eX a (q .panic trivial) λa=>eX a (q .ED trivial) λa=>nomatch a
end
theorem UF{d b a c:V}:aA (n+1) (.aL "Body" "__init__") [J,d,b,a,c] H k=Ls J "name" d H λH=>Ls J "arg_count" b H λH=>aT (.typ "list") [a] H λe H=>Ls J "locals" e H λH=>cP .Is c .none H λf=>iT f (nw (.list []) H λv3 H=>Ls J "blocks" v3 H λH=>nw (.dict []) H λv4 H=>Ls J "spots" v4 H λH=>k .none H) (Ls J "blocks" c H λH=>nw (.dict []) H λg H=>Ls J "spots" g H λH=>k .none H):=by kernel_rfl
theorem tF{ns:Sc}{x:Str}:∀loc:Loc,aU x (pK ns loc)=if(ns.lookup x==some .free)=true then aU x loc else none
 |[]=>by split<;>rfl
 |(y,v)::r=>by
  have a:=tF (ns:=ns) (x:=x) r;show aU x (List.filter (λp=>ns.lookup p.1==some .free) ((y,v)::r))=_;rwa[List.filter_cons];by_cases h:(ns.lookup y==some .free)=true
  ·rwa[aI h];show(if y=x then some v else aU x (pK ns r))=_;by_cases q:y=x;·clear a;subst q;rwa[aI rfl];rwa[aI h];show _=(if y=y then some v else aU y r);rwa[aI rfl];rfl
   ·rwa[aH q];rwa[a];show _=if _ then(if y=x then some v else aU x r)else none;rwa[aH q];rfl
  ·rwa[aH h];show aU x (pK ns r)=_;rwa[a];show _=if _ then(if y=x then some v else aU x r)else none;by_cases q:y=x;·clear a;subst q;rwa[aH h];rwa[aH h];rfl
   ·rwa[aH q];rfl
noncomputable abbrev zC:List V:=[bH,bH,bH,bH,bH,Mh,(.tup [(.str "tuple"),(.tup [bH,Mh])]),(.tup [(.str "array"),bH,(.int 3)]),(.tup [(.str "int"),(.str "usize")])]
noncomputable abbrev vG(x:Nat×Nat×(List bM×dT)):List (Nat×VO):=[(x.1,VO.list [.ref x.2.1,x.2.2.2.enc]),(x.2.1,.list (x.2.2.1.map bM.enc))]
noncomputable abbrev s6(a:List (Nat×Nat×(List bM×dT))):List V:=a.map λx=>.ref x.1
noncomputable abbrev FT(v3:Nat)(a:List (Nat×Nat×(List bM×dT))):List (Nat×VO):=(v3,.list (s6 a))::a.flatMap vG
def QK(many:Nat)(x:Nat×Nat×(List bM×dT)):Prop:=x.2.2.1.length<=8/\(∀st∈x.2.2.1,st.Ok)/\x.2.2.2.Ok many
section
variable{A:List (Nat×VO)}{sr v3:Nat}{w:VO}
theorem BB{f:V->V}(hs:src H=true)(a:∀v acc k,turn v H acc k=kF acc (f v) H k):∀(l acc:List V),acc.length+l.length<=1000->fP src turn l H acc K=K H (acc++l.map f)
 |[],acc,_=>by rwa[List.map_nil];rw[List.append_nil];show(if src H=true then K H acc else .stuck)=_;rwa[aI hs];rfl
 |v::l,acc,h=>by have h':acc.length+(l.length+1)<=1000:=h;show(if src H=true then turn v H acc λH acc=>fP src turn l H acc K else .stuck)=_;rwa[aI hs];rw[a];rwa[xS (by lia)];refine(BB hs a l (acc++[f v]) (by rwa[List.length_append];show acc.length+1+l.length<=1000;lia)).trans ?_;rewrite[List.append_assoc];rfl
theorem yW(h:H[r]?=some (.list zC))(a:∀v acc k,turn v H acc k=kF acc (.tup [v,.bool true,.none]) H k):gD (.ref r) turn H [] K=K H kK:=by
 have hs:jC r zC H=true:=by show(match H[r]? with|some (.list l')=>Ly.m4 zC l'|_=>false)=true;rwa[h];exact w9
 rwa[s7 h];rwa[BB (f:=λv=>.tup [v,.bool true,.none]) hs a _ _ (by decide+kernel)];rfl
theorem MQ{lt bl:Nat}(c:1<=n)(C:bN Y H [] L)(a:(lt,.list kK)∈L)(q:∀d b lo sp,bN Y d [] ((sp,.dict [])::(lo,.list kK)::(b,qC "f" 2 lo bl sp)::L)->P (k (.ref b) d)):P (eL (aA n) "Body" [.str "f",.int 2,.ref lt,.ref bl] H k):=by refine oE (su 1 c) λn aG=>?_;clear c;subst aG;unfold eL;erw[UF];refine dZ (A:=[]) C.new Q5 λf C=>?_;refine dZ (A:=[]) C QJ λg C=>?_;rwa[DM (C.get (aC a)) (by decide+kernel)];refine dZ (A:=[_]) (C.new (o:=.list kK)) QV λe C=>?_;rw[show∀kk:Bool->Res,cP .Is (.ref bl) .none e kk=kk false fromλkk=>rfl];erw[bC];refine dZ (A:=[_]) C QU λh C=>?_;refine fW C λi sp C=>?_;refine dZ (A:=[_,_]) C QR λj C=>?_;exact q _ _ _ sp C
abbrev S4(n:Nat)(loc:Loc):V->VH->List V->(VH->List V->Res)->Res:=λb H a c=>aN "turn" (pK names_law_body_1 loc) (gL "source" (aB "turn" b (pK names_law_body_1 loc)) λd=>(aA n) (.top "_law_statement") [d] H λe H=>kF a e H c)
theorem QH{k:VH->List V->Res}(b:aU "source" loc=some (.ref sr)):S4 n loc v H acc k=(aA n) (.top "_law_statement") [.ref sr] H λa H=>kF acc a H k:=by
 have c:aU "turn" (pK names_law_body_1 loc)=none:=by rw[tF];rwa[aH (by decide+kernel)];rfl
 have d:aU "source" (aB "turn" v (pK names_law_body_1 loc))=some (.ref sr):=by rw[aR (by decide+kernel),tF];rwa[aI (by decide+kernel)];exact b
 unfold S4 aN;rwa[c];show gL "source" (aB "turn" v (pK names_law_body_1 loc)) _=_;rwa[aX d];rfl
theorem OV{m:Nat}(b:4<=n)(c:aU "source" loc=some (.ref sr))(q:∀(rows:List bM)d,rows.length=m->(∀st∈rows,st.Ok)->SR sr T Y d->P (K d (rows.map bM.enc)))(hm:m<=1000):∀(xs:List V)(rows:List bM)(H:VH),SR sr T Y H->(∀st∈rows,st.Ok)->rows.length+xs.length=m->P (fP (λz9=>true) (S4 n loc) xs H (rows.map bM.enc) K)
 |[],rows,H,M,ok,e=>by erw[mJ];erw[gH];exact q rows H (by simpa using e) ok M
 |x::xs,rows,H,M,ok,e=>by
  have h:rows.length+(xs.length+1)=m:=e;erw[jS];erw[gH];erw[QH c];refine F8 b M λst a f g=>?_;erw[xS (by rw[bO];lia)];rwa[show rows.map bM.enc++[st.enc]=(rows++[st]).map bM.enc by rwa[eZ];rfl];refine OV b c q hm xs (rows++[st]) f g (λs hs=>?_) (by rwa[List.length_append];show rows.length+1+xs.length=m;lia);rcases fL.mp hs with hs|hs;·exact ok s hs
  ·rcases bV.mp hs with rfl|hs;·exact a
   ·cases hs
structure OC(sr v3:Nat)(loc:Loc):Prop where
 source:aU "source" loc=some (.ref sr)
 blocks:aU "blocks" loc=some (.ref v3)
theorem OC.set{v:V}{y:Str}(h:OC sr v3 loc)(a:y≠"source")(b:y≠"blocks"):OC sr v3 (aB y v loc):=⟨by rw[aR a];exact h.source,by rw[aR b];exact h.blocks⟩
abbrev Ek(n:Nat):V->Loc->VH->Kf->Res:=λv4 a H k=>gL "source" (aB "block" v4 a) λl=>(aA n) (.top "_law_take") [l,(.int 5)] H λm H=>aT (.typ "range") [m] H λo H=>gD o (S4 n (aB "block" v4 a)) H [] (λH c=>nw (.list c) H λb H=>gL "blocks" (aB "rows" b (aB "block" v4 a)) λd=>mO d "append" H λe=>gL "rows" (aB "rows" b (aB "block" v4 a)) λf=>gL "source" (aB "rows" b (aB "block" v4 a)) λg=>gL "many" (aB "rows" b (aB "block" v4 a)) λh=>(aA n) (.top "_law_end") [g,h] H λi H=>nw (.list [f,i]) H λj H=>aJ (aA n) e d "append" [j] H λp H=>k .next (aB "rows" b (aB "block" v4 a)) H)
theorem D9{K:Kf}(h:4<=n)(hm:0<many)(i:many<=900)(q:∀(a:List (Nat×Nat×(List bM×dT)))bL l,a.length=many->(∀x∈a,QK many x/\x.2.2.1.length<=4)->OC sr v3 bL->SR sr (FT v3 a) Y l->P (K .next bL l)):∀(xs:List V)(a:List (Nat×Nat×(List bM×dT)))(loc:Loc)(H:VH),OC sr v3 loc->aU "many" loc=some (.int many)->SR sr (FT v3 a) Y H->(∀x∈a,QK many x/\x.2.2.1.length<=4)->a.length+xs.length=many->P (c9 (λz9=>true) (Ek n) xs loc H K)
 |[],a,loc,H,j,b,M,ok,e=>by erw[lZ];erw[gH];exact q a loc H (by simpa using e) ok j M
 |x::xs,a,loc,H,j,b,M,ok,e=>by
  have G:a.length+(xs.length+1)=many:=e;have d:=j.set (y:="block") (v:=x) (by decide+kernel) (by decide+kernel);erw[iF];erw[gH];unfold Ek;erw[aX d.source];rwa[show(5:Int)=((5:Nat):Int)from rfl];refine kH (n4 h) M (by decide) (by decide) λr hr z B=>?_;erw[i4];erw[PU (by lia)];refine OV (m:=r) (by with_reducible assumption) d.source (λrows I p k C=>?_) (by lia) _ [] z B (λs hs=>by cases hs) (by rw[bO];rwa[List.length_range];simp);refine xR C λJ rr u=>?_;have f:=d.set (y:="rows") (v:=.ref rr) (by decide+kernel) (by decide+kernel);have g:aU "many" (aB "rows" (.ref rr) (aB "block" x loc))=some (.int many):=by rw[aR (by decide+kernel),aR (by decide+kernel)];exact b
  erw[aX f.blocks];rwa[gP (u.get (x:=v3) (o:=.list (s6 a)) (aC (aE))) (.inl rfl)];erw[aX (bK _)];erw[aX f.source];erw[aX g];refine Ee h u hm (by lia) λt D L E=>?_;refine xR E λN c w=>?_;rwa[gU (w.get (x:=v3) (o:=.list (s6 a)) (aC (aC (aE)))) (by show(a.map _).length<=1000;rw[bO];lia)];have F:=SR.set (A:=[_,_]) (o':=.list (s6 a++[.ref c])) w;refine D9 h hm i q xs (a++[(c,rr,(rows,t))]) _ _ f g ?_ (λy b=>?_) (by rwa[List.length_append];show a.length+1+xs.length=many;lia)
  ·refine F.perm ?_;show([(c,VO.list [.ref rr,t.enc]),(rr,VO.list (rows.map bM.enc))]++((v3,VO.list (s6 a++[.ref c]))::a.flatMap vG)).Perm _;have e:FT v3 (a++[(c,rr,(rows,t))])=((v3,VO.list (s6 a++[.ref c]))::a.flatMap vG)++[(c,VO.list [.ref rr,t.enc]),(rr,VO.list (rows.map bM.enc))]:=by show(v3,VO.list ((a++[(c,rr,(rows,t))]).map λx=>.ref x.1))::(a++[(c,rr,(rows,t))]).flatMap vG=_;rwa[eZ];rwa[List.flatMap_append];rfl
   rwa[e];exact List.perm_append_comm
  ·rcases fL.mp b with b|b;·exact ok y b
   ·rcases bV.mp b with rfl|b;·exact⟨⟨by show rows.length<=8;lia,k,D⟩,by show rows.length<=4;lia⟩
    ·cases b
theorem Cg{k:VH->List V->Res}:(aN "kind" (pK names_law_body_2 loc) (gL "kind" (aB "kind" v (pK names_law_body_2 loc)) λa=>kF acc (.tup [a,(.bool true),.none]) H k))=kF acc (.tup [v,.bool true,.none]) H k:=by
 have b:aU "kind" (pK names_law_body_2 loc)=none:=by rw[tF];rwa[aH (by decide+kernel)];rfl
 unfold aN;rwa[b];show gL "kind" _ _=_;rwa[aX (bK _)];rfl
theorem ZZ{a:List (Nat×Nat×(List bM×dT))}(h:∀p∈a.flatMap vG,H[p.1]?=some p.2):pS H (a.map (·.1)) (a.map (·.2.2)):=by
 refine⟨by rw[bO,bO],λi b hb=>?_⟩;rw[e_]at hb;refine aW (Option.map_eq_some_iff.mp hb) λx c aG=>?_;clear hb;subst aG;have hm:=eE c;refine⟨x.1,x.2.1,by rwa[e_];rwa[c];rfl,?_,?_⟩;·exact h (x.1,VO.list [.ref x.2.1,x.2.2.2.enc]) (List.mem_flatMap.mpr ⟨x,hm,aE⟩)
 ·exact h (x.2.1,VO.list (x.2.2.1.map bM.enc)) (List.mem_flatMap.mpr ⟨x,hm,aC (aE)⟩)
structure Z_(H:VH)(b:Nat)(bs:List (List bM×dT))(lst:List Nat)(lo bl sp:Nat):Prop where
 hb:H[b]?=some (qC "f" 2 lo bl sp)
 lK:H[lo]?=some (.list kK)
 hr:H[bl]?=some (VO.list (lst.map V.ref))
 hB:pS H lst bs
structure Ao(bs:List (List bM×dT)):Prop where
 pos:0<bs.length
 le:bs.length<=10
 ok:∀b∈bs,b.1.length<=8/\(∀st∈b.1,st.Ok)/\b.2.Ok bs.length
theorem WY(o:6<=n)(M:SR sr [] Y H)(q:∀bs lst T H' b lo bl sp,(∀H,(∀p∈T,H[p.1]?=some p.2)->Z_ H b bs lst lo bl sp)->Ao bs->SR sr T Y H'->P (k (.ref b) H')):P (aA n (.top "_law_body") [.ref sr] H k):=by
 refine oE (su 2 o) λn cB=>?_;subst cB;erw[I9];refine kH (top:=3) (n3 o) M (by decide) (by decide) λr hr H1 M1=>?_;erw[add_int];rwa[show(2:Int)+r=((2+r:Nat):Int)by lia];refine xR M1 λH2 v3 M2=>?_;erw[i4];erw[s5 (by lia)];refine D9 (many:=2+r) (v3:=v3) (n3 o) (by lia) (by lia) (λf bL H3 g s hv M3=>?_) _ [] _ H2 ⟨by kernel_rfl,by kernel_rfl⟩ (by kernel_rfl) M2 (λx m=>by cases m) (by rw[bO];rwa[List.length_range];simp)
 induction f using List.casesOn with
 |nil=>have:0=2+r:=g;lia
 |cons x0 rest=>
  obtain⟨c,rr,rows,t⟩:=x0;have O:SR sr ((v3,.list (s6 ((c,rr,rows,t)::rest)))::(c,.list [.ref rr,t.enc])::(rr,.list (rows.map bM.enc))::rest.flatMap vG) Y H3:=M3;erw[mA];refine xR O λH4 u Q=>?_;have e:=hv.set (y:="ahead_now") (v:=.ref u) (by decide+kernel) (by decide+kernel);have K:aU "ahead_now" (aB "ahead_now" (.ref u) bL)=some (.ref u):=bK _;erw[aX K];show P (mO _ _ _ _);rwa[gP (Q.get (aE)) (.inl rfl)];rwa[gU (Q.get (aE)) (by simp)];have M5:=SR.set (A:=[]) (o':=.list ([(.tup [(.str "assign"),(.tup [(.int 0),(.tup [])]),(.tup [(.str "use"),(.tup [(.str "const"),bH,(.int 5)])])])]++[(.tup [(.str "assign"),(.tup [(.int 3),(.tup [])]),(.tup [(.str "use"),(.tup [(.str "const"),bH,(.int 9)])])])])) Q;erw[aX K];show P (mO _ _ _ _);rwa[gP (M5.get (aE)) (.inl rfl)];erw[aX e.source];refine kH (top:=2) (n3 o) M5 (by decide) (by decide) λj hj H6 M6=>?_;erw[eK];rwa[gU (M6.get (aE)) (by simp)];have R:=SR.set (A:=[]) (o':=.list (([(.tup [(.str "assign"),(.tup [(.int 0),(.tup [])]),(.tup [(.str "use"),(.tup [(.str "const"),bH,(.int 5)])])])]++[(.tup [(.str "assign"),(.tup [(.int 3),(.tup [])]),(.tup [(.str "use"),(.tup [(.str "const"),bH,(.int 9)])])])])++[(.tup [(.str "assign"),(.tup [(.int 5),(.tup [])]),(.tup [(.str "use"),(.tup [(.str "const"),Mh,(.bool (decide ((j:Int)=0)))])])])])) M6;erw[aX K];show P (mO _ _ _ _);rwa[gP (R.get (aE)) (.inl rfl)];show P (aJ _ _ _ _ _ _ _);rwa[gU (R.get (aE)) (by simp)];have d:=SR.set (A:=[]) (o':=.list ((([(.tup [(.str "assign"),(.tup [(.int 0),(.tup [])]),(.tup [(.str "use"),(.tup [(.str "const"),bH,(.int 5)])])])]++[(.tup [(.str "assign"),(.tup [(.int 3),(.tup [])]),(.tup [(.str "use"),(.tup [(.str "const"),bH,(.int 9)])])])])++[(.tup [(.str "assign"),(.tup [(.int 5),(.tup [])]),(.tup [(.str "use"),(.tup [(.str "const"),Mh,(.bool (decide ((j:Int)=0)))])])])])++[(.tup [(.str "assign"),(.tup [(.int 8),(.tup [])]),(.tup [(.str "use"),(.tup [(.str "const"),(.tup [(.str "int"),(.str "usize")]),(.int 1)])])])])) R;generalize H6.set u _=H7 at d⊢;generalize H7.set u _=i at d⊢;have z:((([(.tup [(.str "assign"),(.tup [(.int 0),(.tup [])]),(.tup [(.str "use"),(.tup [(.str "const"),bH,(.int 5)])])])]++[(.tup [(.str "assign"),(.tup [(.int 3),(.tup [])]),(.tup [(.str "use"),(.tup [(.str "const"),bH,(.int 9)])])])])++[(.tup [(.str "assign"),(.tup [(.int 5),(.tup [])]),(.tup [(.str "use"),(.tup [(.str "const"),Mh,(.bool (decide ((j:Int)=0)))])])])])++[(.tup [(.str "assign"),(.tup [(.int 8),(.tup [])]),(.tup [(.str "use"),(.tup [(.str "const"),(.tup [(.str "int"),(.str "usize")]),(.int 1)])])])])=[bM.asg (.loc 0) (.use (.ci 5)),.asg (.loc 3) (.use (.ci 9)),.asg (.loc 5) (.use (.cb (decide ((j:Int)=0)))),.asg (.loc 8) (.use (.cu 1))].map bM.enc:=rfl;rw[z]at d;generalize B:[bM.asg (.loc 0) (.use (.ci 5)),.asg (.loc 3) (.use (.ci 9)),.asg (.loc 5) (.use (.cb (decide ((j:Int)=0)))),.asg (.loc 8) (.use (.cu 1))]=a at d;have D:a.length=4/\∀st∈a,st.Ok:=by clear d z;subst B;refine⟨rfl,λst hs=>?_⟩;exact eX hs (.inl ⟨.inl rfl,.inl ⟨by decide,by decide⟩⟩) λh=>eX h (.inl ⟨.inr (.inl rfl),.inl ⟨by decide,by decide⟩⟩) λh=>eX h (.inr (.inl ⟨rfl,_,rfl⟩)) λh=>eX h (.inr (.inr (.inl ⟨rfl,1,rfl,by decide⟩))) λh=>nomatch h
  have h0:=s (c,rr,rows,t) (aE);have b7:rows.length<=4:=h0.2;have S:=d.get (x:=v3) (aC (aE));have U:=d.get (x:=c) (aC (aC (aE)));have W:=d.get (x:=rr) (aC (aC (aC (aE))));erw[aX K];erw[aX e.blocks];erw[aY S (v:=.ref c) rfl];erw[aY U (v:=.ref rr) rfl];show P (Lv _ _ _ _ _);rwa[v0 (d.get (aE)) W (by rw[bO,bO];lia)];refine cM eZ ?_;have X:=d.new (w:=.list ((a++rows).map bM.enc));erw[aX e.blocks];rwa[aY (X.get (x:=v3) (aC (aC (aE)))) (v:=.ref c) rfl];refine rw1 (mU (X.get (x:=c) (aC (aC (aC (aE))))) ⟨by decide,by show(0:Int)<2;decide,by show 2<=1000;decide⟩ ..) ?_;have Z:=SR.set (A:=[_,_,_]) (o':=.list [.ref i.length,t.enc]) X;rwa[show([V.ref rr,t.enc]:List V).set (Int.toNat 0) (.ref i.length)=[.ref i.length,t.enc]from rfl];have E:SR sr (FT v3 ((c,i.length,a++rows,t)::rest)) Y _:=(Z.sub (T':=(i.length,.list ((a++rows).map bM.enc))::(v3,.list (s6 ((c,rr,rows,t)::rest)))::(c,.list [.ref i.length,t.enc])::rest.flatMap vG) (.cons_cons _ (.cons _ (.cons_cons _ (.cons_cons _ (.cons _ (.refl _))))))).perm (gR (l₁:=[_,_]) (l₂:=rest.flatMap vG)).symm;generalize(i++[VO.list ((a++rows).map bM.enc)]).set c _=H9 at E⊢;erw[wQ];refine xR E λb8 kr F=>?_;show P (gD _ _ _ _ _);rwa[yW (F.get (aE)) λv acc k=>Cg];refine xR F λb9 lt G=>?_;erw[aX e.blocks];refine gX G ?_;clear G;intro sa sb s1 s2 s3 C;refine MQ (n3 o) C (aC (aE)) λI b lo sp L=>?_;show P (k (.ref b) I);generalize J:((c,i.length,a++rows,t)::rest:List (Nat×Nat×(List bM×dT)))=f at L
  have l:∀x∈f,QK (2+r) x:=λx m=>by
   clear L;subst J;rcases bV.mp m with rfl|m
   ·refine⟨by show(a++rows).length<=8;rwa[List.length_append];lia,λst hs=>?_,h0.1.2.2⟩;rcases fL.mp hs with hs|hs;·exact D.2 st hs
    ·exact h0.1.2.1 st hs
   ·exact(s x (aC m)).1
  have b6:f.length=2+r:=by clear L l;subst J;exact g
  refine q (f.map (·.2.2)) (f.map (·.1)) ([(sp,.dict []),(lo,.list kK),(b,qC "f" 2 lo v3 sp)]++((lt,.list kK)::(kr,.list zC)::FT v3 f)) I b lo v3 sp (λH N=>⟨N _ (aC (aC (aE))),N (lo,.list kK) (aC (aE)),?_,ZZ λp hp=>N p (aC (aC (aC (aC (aC (aC hp))))))⟩) ⟨by rw[bO];lia,by rw[bO];lia,λy hy=>?_⟩ ⟨sa,sb,s1,s2,s3,L.perm (gR (l₁:=[_,_,_]))⟩;·rwa[List.map_map];exact N (v3,.list (s6 f)) (aC (aC (aC (aC (aC (aE))))))
  ·refine aW (c7.mp hy) λx m aG=>?_;clear hy;subst aG;rw[bO];rwa[b6];exact l x m
end
def RF(n:Nat)(x:V×List V):Prop:=EV x.1/\(∀v∈x.2,PV v)/\x.2.length<=n
theorem RF.str{f:Str}{pr:List V}(h:fF f)(hp:∀x∈pr,PV x)(a:pr.length<=n):RF n (.str f,pr):=⟨.inl ⟨_,h,rfl⟩,hp,a⟩
theorem RF.le{x:V×List V}(h:RF n x)(q:n<=m):RF m x:=⟨h.1,h.2.1,fS h.2.2 q⟩
theorem WS{bs:List (List bM×dT)}(ok:∀b∈bs,(∀st∈b.1,st.Ok)/\b.2.Ok bs.length):∀(f:Nat)(S:St)(b i:Nat)(pr:List V),WT S->(∀x∈pr,PV x)->RF (pr.length+f) (eW bs f S b i pr):=by
 intro f
 induction f with
 |zero=>intro S b i pr W hp;exact RF.str f5 hp (Nat.le_refl _)
 |succ f k=>
  intro S b i pr W hp
  cases a:bs[b]? with
  |none=>rwa[NG a];exact RF.str f6 hp (Nat.le_add_right _ _)
  |some blk=>
   obtain⟨rows,t⟩:=blk;have d:=ok _ (eE a)
   cases c:rows[i]? with
   |some st=>
    rwa[w_ a c];have h:=L6 W (d.1 st (eE c))
    cases e:dA S st with
    |mk x y=>
     rw[e]at h
     induction x using Option.casesOn with
     |some l=>exact RF.str h hp (Nat.le_add_right _ _)
     |none=>
      refine(k y.1 b (i+1) (pr++y.2) h.1 λx j=>?_).le ?_
      ·rcases fL.mp j with j|j;·exact hp x j
       ·exact h.2.1 x j
      ·rwa[List.length_append];have:=h.2.2;lia
   |none=>
    rwa[wY a c];have h:=CY W d.2
    cases e:bW S t with
    |at_ g=>exact(k S g 0 _ W hp).le (by lia)
    |out w=>rw[e]at h;exact⟨h.2,hp,Nat.le_add_right _ _⟩
    |no l=>rw[e]at h;exact RF.str h hp (Nat.le_add_right _ _)
structure YC(n:Nat)(v:V)(d:PyData):Prop where
 py:∀(H:VH)m,n<m->Mb H m v=some d
 sh:PyData.showable d=true
 nd:PyData.hasDict d=false
 dp:PyData.depth d<=n
 ln:d.shown.length<=60
theorem AJ{i:Int}(b:-128<=i)(c:i<=127):(PyData.shown (.int i)).length<=5:=by have:=int_text_length_le10 (a:=i) (k:=3) (by decide) (by lia);rwa[show PyData.shown (.int i)=Str.ofString (toString i)from rfl];rw[PySem.ofString_length];lia
theorem z7{i:Int}(a:-128<=i)(b:i<=127):PyData.showable (.int i)=true:=by
 show decide (i.natAbs.log2<1920)=true;rw[decide_eq_true_iff];by_cases h:i.natAbs=0;·rwa[h];decide
 ·have:i.natAbs.log2<8:=(Nat.log2_lt h).mpr (by lia);lia
theorem EO{b:Bool}:(PyData.shown (.bool b)).length<=5:=by induction b using Bool.casesOn<;>decide+kernel
theorem zT{d e:PyData}{x y:Nat}(c:d.shown.length<=x)(f:e.shown.length<=y):(PyData.shown (.tuple [d,e])).length<=x+y+7:=by
 have:=tupleText_len_le (PyData.shownAll [d,e]);have e1:PyData.shown (.tuple [d,e])=tupleText (PyData.shownAll [d,e]):=by simp only[PyData.shown]
 rwa[e1];have a:((PyData.shownAll [d,e]).map (·.length)).sum=d.shown.length+e.shown.length:=by simp[PyData.shownAll]
 have b:(PyData.shownAll [d,e]).length=2:=by simp[PyData.shownAll]
 rw[a,b]at this;lia
theorem l4{w:V}{d e:PyData}(a:Mb H m v=some d)(f:Mb H m w=some e):Mb H (m+1) (.tup [v,w])=some (.tuple [d,e]):=by show(((Mb H m v).bind λb=>((Mb H m w).bind λc=>(some []).map (c::·)).map (b::·)).map PyData.tuple)=_;rwa[a];rwa[f];rfl
theorem vE{p:List V}{q:List PyData}(h:H[r]?=some (.list p))(a:jA (Mb H m) p=some q):Mb H (m+1) (.ref r)=some (.list q):=by show(lD none H[r]? λl=>(jA (Mb H m) l).map PyData.list)=_;rwa[h];show(jA (Mb H m) p).map PyData.list=_;rwa[a];rfl
theorem PV.Ay(h:PV v):∃d,YC 1 v d:=by
 rcases h with⟨i,rfl,a,c⟩|⟨b,rfl⟩|⟨i,b,rfl,a,c⟩;·exact⟨.int i,λH m hm=>by refine oE (⟨m-1,by lia⟩:∃k,m=k+1) λm e=>?_;clear hm;subst e;rfl,z7 a c,rfl,by show 0<=1;decide,by have:=AJ a c;lia⟩
 ·exact⟨.bool b,λH m hm=>by refine oE (⟨m-1,by lia⟩:∃k,m=k+1) λm cB=>?_;clear hm;subst cB;rfl,rfl,rfl,by show 0<=1;decide,by have:=EO (b:=b);lia⟩
 ·refine⟨.tuple [.int i,.bool b],λH m hm=>?_,?_,by rfl,by simp[PyData.depth,PyData.depthAll],?_⟩;·refine oE (⟨m-2,by lia⟩:∃k,m=k+2) λm aG=>?_;clear hm;subst aG;exact l4 rfl rfl
  ·have:=z7 a c;simp[PyData.showable,PyData.showableAll]at this⊢;exact this
  ·have:=zT (AJ a c) (EO (b:=b));lia
theorem UA{s:Str}(h:(PyData.shown (.str s)).length<=40):YC 1 (.str s) (.str s):=⟨λH m hm=>by refine oE (⟨m-1,by lia⟩:∃k,m=k+1) λm aG=>?_;clear hm;subst aG;rfl,rfl,rfl,by show 0<=1;decide,by lia⟩
theorem EV.Ay(h:EV v):∃d,YC 1 v d:=by
 rcases h with⟨e,he,rfl⟩|⟨i,rfl,b,c⟩|rfl|rfl
 ·refine⟨_,UA ?_⟩;have:∀e∈DK,(PyData.shown (.str e)).length<=40:=by decide+kernel
  exact this e he
 ·refine⟨.tuple [.str "done",.int i],λH m hm=>?_,?_,by rfl,by simp[PyData.depth,PyData.depthAll],?_⟩;·refine oE (⟨m-2,by lia⟩:∃k,m=k+2) λm a=>?_;clear hm;subst a;exact l4 rfl rfl
  ·have:=z7 b c;simp[PyData.showable,PyData.showableAll]at this⊢;exact this
  ·have:=zT (x:=10) (show(PyData.shown (.str "done")).length<=10 by decide+kernel) (AJ b c);lia
 ·exact⟨.tuple [.str "panic",.str "stop"],λH m hm=>by refine oE (⟨m-2,by lia⟩:∃k,m=k+2) λm cB=>?_;clear hm;subst cB;exact l4 rfl rfl,by rfl,by rfl,by simp[PyData.depth,PyData.depthAll],by decide+kernel⟩
 ·exact⟨.tuple [.str "panic",.str "not so"],λH m hm=>by refine oE (⟨m-2,by lia⟩:∃k,m=k+2) λm aG=>?_;clear hm;subst aG;exact l4 rfl rfl,by rfl,by rfl,by simp[PyData.depth,PyData.depthAll],by decide+kernel⟩
theorem D6:∀p:List V,(∀x∈p,PV x)->∃q:List PyData,(∀(H:VH)m,1<m->jA (Mb H m) p=some q)/\PyData.showableAll q=true/\PyData.hasDictAll q=false/\PyData.depthAll q<=1/\((PyData.shownAll q).map (·.length)).sum<=60*p.length/\(PyData.shownAll q).length=p.length
 |[],_=>⟨[],λH m z9=>rfl,rfl,rfl,by show 0<=1;decide,by simp[PyData.shownAll],rfl⟩
 |v::p,h=>by
  refine rZ (D6 p λx c=>h x (aC c)) λq q1 q2 q3 q4 a=>?_;refine oA a ?_;clear a;intro j e;obtain⟨d,f,g,i,k,l⟩:=(h v (aE)).Ay;refine⟨d::q,λH m hm=>by show((Mb H m v).bind λb=>(jA (Mb H m) p).map (b::·))=_;rwa[f H m hm];rwa[q1 H m hm];rfl,by simp only[PyData.showableAll,g,q2];rfl,by simp only[PyData.hasDictAll,i,q3];rfl,by simp only[PyData.depthAll];lia,?_,?_⟩;·simp only[PyData.shownAll,bX,List.sum_cons,List.length_cons];lia
  ·simp only[PyData.shownAll,List.length_cons,e]
theorem VU{p:List V}(b:EV v)(hp:∀x∈p,PV x)(u:p.length<=200):∃s:Str,∀(H:VH)(r:Nat)(k:Kv),H[r]?=some (.list p)->aT (.bi "repr") [.tup [v,.ref r]] H k=k (.str s) H:=by
 obtain⟨d,c,f,g,w,i⟩:=b.Ay;refine rZ (D6 p hp) λq q1 q2 q3 q4 a=>?_;refine oA a ?_;clear a;intro y z;refine⟨PyData.shown (.tuple [d,.list q]),λH r k h=>?_⟩;have e1:Mb H 7 (.ref r)=some (.list q):=vE h (q1 H 6 (by decide));have j:Mb H 8 (.tup [v,.ref r])=some (.tuple [d,.list q]):=l4 (c H 7 (by decide)) e1
 have l:(PyData.shown (.list q)).length<=13000:=by
  have:=listText_len_le (PyData.shownAll q);have e:PyData.shown (.list q)=listText (PyData.shownAll q):=by simp only[PyData.shown]
  rwa[e];lia
 have A:=zT i l
 have m:JN H (.tup [v,.ref r])=some (PyData.shown (.tuple [d,.list q])):=by
  show((Mb H 8 (.tup [v,.ref r])).bind λd=>if PyData.showable d&&!d.hasDict&&decide (d.depth<=64)&&decide (d.shown.length<=1000000)then some d.shown else none)=_;rwa[j];have n:PyData.showable (.tuple [d,.list q])=true:=by simp only[PyData.showable,PyData.showableAll,f,q2];rfl
  have o:PyData.hasDict (.tuple [d,.list q])=false:=by simp only[PyData.hasDict,PyData.hasDictAll,g,q3];rfl
  have t:PyData.depth (.tuple [d,.list q])<=64:=by simp only[PyData.depth,PyData.depthAll];lia
  show(if(PyData.showable (.tuple [d,.list q])&&!(PyData.tuple [d,.list q]).hasDict&&decide ((PyData.tuple [d,.list q]).depth<=64)&&decide ((PyData.shown (.tuple [d,.list q])).length<=1000000))=true then _ else _)=_;rwa[n];rwa[o];rwa[cC t];rwa[cC (by(first|with_reducible assumption|lia))];rfl
 show oR (JN H (.tup [v,.ref r])) (λs=>k (.str s) H)=_;rwa[m];rfl
section
variable{A:List (Nat×VO)}{sr:Nat}{ns:List Int}
theorem HJ(h:l.length<=1000):aT (.bi "len") [.qG l] H k=k (.int l.length) H:=by show(if l.length<=1000 then k (.int l.length) H else .stuck)=_;rwa[aI h];rfl
theorem LV{i:Int}{kk:V->Res}(h:eT l i=some v):gI (.qG l) (.int i) H kk=kk v:=by show(match eT l i with|some v=>kk v|none=>.stuck)=_;rwa[h];rfl
theorem WL{a:Int}:aT (.bi "min") [.int a,.int b] H k=k (.int (if b<a then b else a)) H:=rfl
noncomputable abbrev wI(ns:List Int):V:=.qG (ns.map .int)
theorem OD(h:j<ns.length)(a:ns.length<=1000):eT (ns.map V.int) (j:Int)=some (.int (ns[j]'h)):=fB (by rwa[e_];rwa[List.getElem?_eq_getElem h];rfl) (by rw[bO];exact a)
structure Ft(ns:List Int)(big:Int)(loc:Loc):Prop where
 Lm:aU "script" loc=some (wI ns)
 big:aU "big" loc=some (.int big)
 mixed:∃m:Int,aU "mixed" loc=some (.int m)/\0<=m/\m<2147483647
set_option tactic.hygienic true in
theorem HX{big:Int}{K:Kf}(a:ns.length<=63)(q:∀bL,Ft ns big bL->P (K .next bL H)):∀(d j:Nat)(loc:Loc),j+d<=ns.length->Ft ns big loc->P (c9 (λz9=>true) TQ ((List.range d).map λi=>V.int ((j+i:Nat):Int)) loc H K)
 |0,j,loc,f,b=>by show P (c9 (λz9=>true) TQ [] loc H K);erw[lZ];erw[gH];exact q loc b
 |d+1,j,loc,f,b=>by
  have e:((List.range (d+1)).map λi=>V.int ((j+i:Nat):Int))=V.int (j:Int)::((List.range d).map λi=>V.int ((j+1+i:Nat):Int)):=by rwa[List.range_succ_eq_map];rwa[bX];rwa[List.map_map];congr 1;apply List.map_congr_left;intro i _;show V.int ((j+(i+1):Nat):Int)=V.int ((j+1+i:Nat):Int);rwa[show j+(i+1)=j+1+i by lia];rfl
  obtain⟨g,h,m,k,l,p⟩:=b;have g1:aU "script" (aB "k" (.int (j:Int)) loc)=some (wI ns):=by rw[aR (by decide+kernel)];exact g
  have n:aU "big" (aB "k" (.int (j:Int)) loc)=some (.int big):=by rw[aR (by decide+kernel)];exact h
  have o:aU "mixed" (aB "k" (.int (j:Int)) loc)=some (.int m):=by rw[aR (by decide+kernel)];exact k
  have c:j<ns.length:=by lia
  rwa[e];erw[iF];erw[gH];unfold TQ;erw[aX o];erw[mul_int (n9 l (by lia)) (by decide)];erw[aX g1];erw[aX (bK _)];erw[LV (OD c (by lia))];erw[mod_int (by decide)];erw[add_int];erw[aX (bK _)];erw[mul_int (by decide) (n9 (by lia) (by lia))];erw[add_int];erw[add_int];erw[mod_int (by decide)];refine HX a q d (j+1) _ (by lia) ⟨by rw[aR (by decide+kernel)];exact g1,by rw[aR (by decide+kernel)];exact n,_,bK _,Int.emod_nonneg _ (by decide),Int.emod_lt_of_pos _ (by decide)⟩
theorem Dk:Lv .Pow (.int 10) (.int 18) H k=k (.int 1000000000000000000) H:=by kernel_rfl
theorem Y1(p:1<=n)(h:ns.length<=63)(q:∀sr r,SR sr [] H r->P (k (.ref sr) r)):P (aA n (.top "_law_pool") [wI ns] H k):=by
 refine oE (su 1 p) λn aG=>?_;clear p;subst aG;have s:(ns.map V.int).length<=1000:=by rw[bO];lia
 erw[UX];erw[HJ s];erw[O3];have d:∀(big m:Int)(loc:Loc),aU "big" loc=some (.int big)->aU "mixed" loc=some (.int m)->0<=big->0<=m->m<2147483647->P (RP n 7 loc H (fin k)):=λbig m loc j f l t g=>by erw[UQ];erw[aX j];erw[aX f];exact q H.length (H++[.list [.int big,.int m]]) ⟨big,m,l,t,g,pN.new⟩
 have a:∀(big:Int)(loc:Loc),0<=big->aU "big" loc=some (.int big)->aU "script" loc=some (wI ns)->P (RP n 4 loc H (fin k)):=λbig loc j f l=>by
  have g1:aU "script" (aB "mixed" (.int (big%2147483629)) loc)=some (wI ns):=by rw[aR (by decide+kernel)];exact l
  have z:aU "big" (aB "mixed" (.int (big%2147483629)) loc)=some (.int big):=by rw[aR (by decide+kernel)];exact f
  have hm:=Int.emod_lt_of_pos big (b:=2147483629) (by decide);erw[UM];erw[aX f];erw[mod_int (by decide)];erw[aX g1];erw[HJ s];erw[WL];rw[bO];have e:(if(40:Int)<(ns.length:Nat)then(40:Int)else(ns.length:Nat))=((min ns.length 40:Nat):Int):=by split<;>lia
  rwa[e];erw[i4];erw[s5 (by lia)];have A:((List.range (min ns.length 40)).map λi:Nat=>V.int (0+(i:Int)))=(List.range (min ns.length 40)).map λi=>V.int ((0+i:Nat):Int):=by apply List.map_congr_left;intro i _;show V.int (0+(i:Int))=V.int ((0+i:Nat):Int);rw[Int.zero_add,Nat.zero_add]
  rwa[A];refine HX h (λbL B=>?_) _ 0 _ (by lia) ⟨g1,z,_,bK _,Int.emod_nonneg _ (by decide),by lia⟩;obtain⟨t,g,m,u,w,x⟩:=B;erw[mA];erw[U2];erw[aX g];erw[Dk];erw[pE];by_cases hb:big<1000000000000000000;·rwa[cC hb];erw[bZ];exact d 0 m _ (bK _) (by rw[aR (by decide+kernel)];exact u) (by decide) w x
  ·rwa[cU hb];erw[bC];exact d big m _ g u j w x
 have main:∀c:Int,P (RP n 2 [("script",wI ns),("cell",.int c)] H (fin k)):=λc=>by
  have hs:aU "script" (aB "big" (.int c) [("script",wI ns),("cell",.int c)])=some (wI ns):=by kernel_rfl
  erw[VA];erw[aX (v:=.int c) (by kernel_rfl)];erw[aX (bK _)];erw[pE];by_cases y:c<0;·rwa[cC y];erw[bZ];erw[aX (bK _)];erw[sub_int];erw[sub_int];exact a _ _ (by lia) (bK _) (by rw[aR (by decide+kernel)];exact hs)
  ·rwa[cU y];erw[bC];exact a c _ (by lia) (bK _) hs
 by_cases h0:(((ns.map V.int).length:Nat):Int)>0
 ·have o:0<ns.length:=by rw[bO]at h0;lia
  rwa[cC h0];erw[bZ];rwa[show(0:Int)=((0:Nat):Int)from rfl];erw[LV (OD o (by lia))];exact main _
 ·rwa[cU h0];erw[bC];exact main 0
theorem SR.mono{c:VH}(M:SR sr T Y H)(h:∀(a:Nat)(o:VO),H[a]?=some o->c[a]?=some o):SR sr T Y c:=by refine gX M ?_;clear M;intro a b d e f C;exact⟨a,b,d,e,f,λa o q=>h _ _ (C.base a o q),C.nd,λp hp=>⟨(C.at_ p hp).1,h _ _ (C.at_ p hp).2.1,(C.at_ p hp).2.2⟩,λs hs=>by cases hs⟩
theorem VJ(f:20<=n)(q:∀s,P (k (.bool true) s)):P (aA n (.top "_law_fixed_right") [] H k):=by
 refine oE (su 2 f) λn aG=>?_;subst aG;erw[wE];refine fW (pN (H:=H)) λE r1 t=>?_;refine fW t λl r2 g=>?_;show P (Lv _ _ _ _ _);rwa[v0 (g.get (aC (aE))) (g.get (aE)) (by simp)];have m:=g.new (o:=.list ([bM.live,.asg (.loc 4) (.use (.ci 6)),.i_ (.cp (.loc 4)),.live,.i_ (.cp (.loc 4))].map bM.enc));rwa[show([(.tup [.str "live",.int 4]:V),.tup [.str "assign",.tup [.int 4,.tup []],.tup [.str "use",.tup [.str "const",bH,.int 6]]],.tup [.str "print",.tup [.str "copy",.tup [.int 4,.tup []]]]]++[.tup [.str "live",.int 4],.tup [.str "print",.tup [.str "copy",.tup [.int 4,.tup []]]]])=[bM.live,.asg (.loc 4) (.use (.ci 6)),.i_ (.cp (.loc 4)),.live,.i_ (.cp (.loc 4))].map bM.enc from by kernel_rfl];generalize l++[VO.list ([bM.live,.asg (.loc 4) (.use (.ci 6)),.i_ (.cp (.loc 4)),.live,.i_ (.cp (.loc 4))].map bM.enc)]=F at m⊢;erw[wQ];refine fW m λG I r=>?_;rwa[yW (r.get (aE)) λv acc k=>rfl];refine fW r λJ lt u=>?_;refine fW u λK j w=>?_;refine fW w λL bl x=>?_;refine MQ (bl:=bl) (n3 f) x (aC (aC (aE))) λy b lo sp c=>?_
 have hB:pS y [j] [([bM.live,.asg (.loc 4) (.use (.ci 6)),.i_ (.cp (.loc 4)),.live,.i_ (.cp (.loc 4))],dT.ret)]:=by
  refine⟨rfl,λi b hb=>?_⟩
  induction i using Nat.casesOn with
  |succ i=>cases hb
  |zero=>injection hb with hb;subst hb;exact⟨j,l.length,rfl,c.get (aC (aC (aC (aC (aE))))),c.get (aC (aC (aC (aC (aC (aC (aC (aE))))))))⟩
 refine IB (n:=n+1) (b:=b) (lo:=lo) (bl:=bl) (sp:=sp) (nm:="f") (lst:=[j]) (g0:=0) (g1:=0) (fuel:=9) (n3 f) (c.get (aC (aC (aE)))) (c.get (aC (aE))) (c.get (aC (aC (aC (aE))))) hB (by decide) (by decide) (λb hb=>?_) (by decide) (by decide) (by decide) λv a pr p e hp hm=>?_
 ·rcases bV.mp hb with rfl|hb;·refine⟨by decide,λst hs=>?_,trivial⟩;exact eX hs trivial λh=>eX h (.inl ⟨.inr (.inr rfl),.inl ⟨by decide,by decide⟩⟩) λh=>eX h (.inl ⟨by decide,by decide⟩) λh=>eX h trivial λh=>eX h (.inl ⟨by decide,by decide⟩) λh=>nomatch h
  ·cases hb
 ·have z:eW [([bM.live,.asg (.loc 4) (.use (.ci 6)),.i_ (.cp (.loc 4)),.live,.i_ (.cp (.loc 4))],dT.ret)] 9 (iM (fG [([bM.live,.asg (.loc 4) (.use (.ci 6)),.i_ (.cp (.loc 4)),.live,.i_ (.cp (.loc 4))],dT.ret)]) 0 0) 0 0 []=(.str "uninitialised",[.int 6]):=by kernel_rfl
  rw[z]at e;injection e with e1 A;subst e1 A;erw[nw_eq];have B:Mb (a++[.list [.int 6]]) 8 (.tup [.str "uninitialised",.ref pr])=some (.tuple [.str "uninitialised",.list [.int 6]]):=l4 rfl (vE (b6 hp) rfl);have C:Mb (a++[.list [.int 6]]) 8 (.tup [.str "uninitialised",.ref a.length])=some (.tuple [.str "uninitialised",.list [.int 6]]):=l4 rfl (vE cW rfl);have D:∀kk:Bool->Res,cP .Eq (.tup [.str "uninitialised",.ref pr]) (.tup [.str "uninitialised",.ref a.length]) (a++[.list [.int 6]]) kk=kk true:=λkk=>by rwa[show cP .Eq (.tup [.str "uninitialised",.ref pr]) (.tup [.str "uninitialised",.ref a.length]) (a++[.list [.int 6]]) kk=oR ((Mb (a++[.list [.int 6]]) 8 (.tup [.str "uninitialised",.ref pr])).bind λd=>(Mb (a++[.list [.int 6]]) 8 (.tup [.str "uninitialised",.ref a.length])).bind λe=>if PySem.SeqAt.shaped d&&PySem.SeqAt.shaped e then some (PyData.eqv d e)else none) kk from by kernel_rfl];rwa[B];rwa[C];kernel_rfl
  erw[D];exact q _
structure O1(ns:List Int)(sr b:Nat)(loc:Loc):Prop where
 source:aU "source" loc=some (.ref sr)
 body:aU "body" loc=some (.ref b)
theorem O1.set{v:V}{b:Nat}{y:Str}(h:O1 ns sr b loc)(a:y≠"source")(c:y≠"body"):O1 ns sr b (aB y v loc):=⟨by rw[aR a];exact h.source,by rw[aR c];exact h.body⟩
abbrev NL(n:Nat):V->Loc->VH->Kf->Res:=λv3 a H k5=>gL "source" (aB "turn" v3 a) λz=>nw (.list [(.int 0),(.int 1),(.int (-1)),(.int 100),(.int (-128))]) H λA H=>(aA n) (.top "_law_one") [z,A] H λf H=>gL "source" (aB "turn" v3 a) λB=>nw (.list [(.int 0),(.int 1),(.int 7),(.int 127)]) H λh H=>(aA n) (.top "_law_one") [B,h] H λb H=>gL "source" (aB "given" (.tup [f,b]) (aB "turn" v3 a)) λi=>nw (.list [(.int 40),(.int 12),(.int 25)]) H λj H=>(aA n) (.top "_law_one") [i,j] H λc H=>gL "body" (aB "fuel" c (aB "given" (.tup [f,b]) (aB "turn" v3 a))) λk=>gL "given" (aB "fuel" c (aB "given" (.tup [f,b]) (aB "turn" v3 a))) λl=>gL "fuel" (aB "fuel" c (aB "given" (.tup [f,b]) (aB "turn" v3 a))) λm=>(aA n) (.top "_law_told") [k,l,m] H λo H=>gC o H λd e=>gL "body" (aB "prints" e (aB "ending" d (aB "fuel" c (aB "given" (.tup [f,b]) (aB "turn" v3 a))))) λp=>gL "given" (aB "prints" e (aB "ending" d (aB "fuel" c (aB "given" (.tup [f,b]) (aB "turn" v3 a))))) λq=>gL "fuel" (aB "prints" e (aB "ending" d (aB "fuel" c (aB "given" (.tup [f,b]) (aB "turn" v3 a))))) λr=>(aA n) (.top "_law_run") [p,q,r] H λg H=>gL "ending" (aB "due" g (aB "prints" e (aB "ending" d (aB "fuel" c (aB "given" (.tup [f,b]) (aB "turn" v3 a)))))) λs=>gL "prints" (aB "due" g (aB "prints" e (aB "ending" d (aB "fuel" c (aB "given" (.tup [f,b]) (aB "turn" v3 a)))))) λt=>aT (.typ "list") [t] H λu H=>aT (.bi "repr") [(.tup [s,u])] H λv H=>gL "due" (aB "due" g (aB "prints" e (aB "ending" d (aB "fuel" c (aB "given" (.tup [f,b]) (aB "turn" v3 a)))))) λw=>aT (.bi "repr") [w] H λx H=>cP .NotEq v x H λy=>iT y (k5 (.ret (.bool false)) (aB "due" g (aB "prints" e (aB "ending" d (aB "fuel" c (aB "given" (.tup [f,b]) (aB "turn" v3 a)))))) H) (k5 .next (aB "due" g (aB "prints" e (aB "ending" d (aB "fuel" c (aB "given" (.tup [f,b]) (aB "turn" v3 a)))))) H)
theorem FR{l:List Int}(h:v∈l.map V.int)(ok:∀i∈l,-128<=i/\i<=127):∃i:Int,v=.int i/\-128<=i/\i<=127:=by refine aW (c7.mp h) λi hi aG=>?_;clear h;subst aG;exact⟨i,rfl,ok i hi⟩
theorem HY{b:Nat}{Q:Kf}(A:18<=n)(R:∀H,(∀p∈T,H[p.1]?=some p.2)->Z_ H b bs lst lo bl sp)(c:Ao bs)(hv:O1 ns sr b loc)(M:SR sr T Y H)(q:∀bL S,O1 ns sr b bL->SR sr T Y S->P (Q .next bL S)):P (NL n v loc H Q):=by
 have i:∀b∈bs,b.1.length<=900/\(∀st∈b.1,st.Ok)/\b.2.Ok bs.length:=λb hb=>by refine gB (c.ok b hb) λj U h3=>?_;exact⟨by lia,U,h3⟩
 have d:=hv.set (y:="turn") (v:=v) (by decide+kernel) (by decide+kernel);unfold NL;erw[aX d.source];refine i6 (n4 A) M (by simp) (by simp) λw0 B H1 M=>?_;refine aW (FR (l:=[0,1,-1,100,-128]) B (by decide)) λg0 C h0=>?_;subst C;erw[aX d.source];refine i6 (n4 A) M (by simp) (by simp) λw1 D H2 M=>?_;refine aW (FR (l:=[0,1,7,127]) D (by decide)) λg1 cB j=>?_;subst cB;have k:=d.set (y:="given") (v:=.tup [.int g0,.int g1]) (by decide+kernel) (by decide+kernel);erw[aX k.source];refine i6 (n4 A) M (by decide) (by decide) λw2 E H3 M=>?_;have:∃f:Nat,w2=.int f/\f<=90:=eX E ⟨40,rfl,by decide⟩ λh=>eX h ⟨12,rfl,by decide⟩ λh=>eX h ⟨25,rfl,by decide⟩ λh=>nomatch h;refine aW this ?_;clear this;intro f aG hf;subst aG;have m:=k.set (y:="fuel") (v:=.int f) (by decide+kernel) (by decide+kernel);have V:aU "fuel" (aB "fuel" (.int f) (aB "given" (.tup [.int g0,.int g1]) (aB "turn" v loc)))=some (.int f):=bK _;have W:aU "given" (aB "fuel" (.int f) (aB "given" (.tup [.int g0,.int g1]) (aB "turn" v loc)))=some (.tup [.int g0,.int g1]):=by rw[aR (by decide+kernel)];exact bK _
 obtain⟨F,X,G,I⟩:=R H3 λp hp=>M.get hp;erw[aX m.body];erw[aX W];erw[aX V];refine IB (n:=n) (by with_reducible assumption) F X G I c.pos (by have:=c.le;lia) i h0 j hf λe H4 pr p he hp hm=>?_;have Z:=M.mono hm;obtain⟨F,X,G,I⟩:=R H4 λp hp=>Z.get hp
 have J:pZ bs<=1000:=by
  have b7:=c.le
  have:∀l:List (List bM×dT),(∀b∈l,b.1.length<=8)->pZ l<=8*l.length:=λl=>by
   induction l with
   |nil=>intro _;exact Nat.le_refl _
   |cons a r ih=>
    intro h;have e:pZ (a::r)=a.1.length+pZ r:=by unfold pZ;rwa[bX];rwa[List.sum_cons];rfl
    have j:=h a (aE);have U:=ih λb hb=>h b (aC hb);rwa[e];rwa[List.length_cons];lia
  have:=this bs λb hb=>(c.ok b hb).1;lia
 erw[jG];have u:=(m.set (y:="ending") (v:=e) (by decide+kernel) (by decide+kernel)).set (y:="prints") (v:=.ref pr) (by decide+kernel) (by decide+kernel);have K:aU "given" (aB "prints" (.ref pr) (aB "ending" e (aB "fuel" (.int f) (aB "given" (.tup [.int g0,.int g1]) (aB "turn" v loc)))))=some (.tup [.int g0,.int g1]):=by rw[aR (by decide+kernel),aR (by decide+kernel)];exact W
 have L:aU "fuel" (aB "prints" (.ref pr) (aB "ending" e (aB "fuel" (.int f) (aB "given" (.tup [.int g0,.int g1]) (aB "turn" v loc)))))=some (.int f):=by rw[aR (by decide+kernel),aR (by decide+kernel)];exact V
 erw[aX u.body];erw[aX K];erw[aX L];refine Bf (n:=n) (n4 A) F G I c.pos (by have:=c.le;lia) J i h0 j hf λe' p' H5 g w N z=>?_;rw[he]at w;injection w with e1 e2;subst e1 e2;refine gB (he▸WS (bs:=bs) (λb hb=>(c.ok b hb).2) f _ 0 0 [] (BJ h0 j) (λx hx=>by cases hx):RF _ (e,p)) λr1 r2 r3=>?_;have r3:p.length<=0+f:=r3;refine oE (VU r1 r2 (by lia)) λs hs=>?_;have M5:=Z.mono z;have O:=u.set (y:="due") (v:=.tup [e,.ref g]) (by decide+kernel) (by decide+kernel);have ge:aU "ending" (aB "due" (.tup [e,.ref g]) (aB "prints" (.ref pr) (aB "ending" e (aB "fuel" (.int f) (aB "given" (.tup [.int g0,.int g1]) (aB "turn" v loc))))))=some e:=by rw[aR (by decide+kernel),aR (by decide+kernel)];exact bK _
 have gp:aU "prints" (aB "due" (.tup [e,.ref g]) (aB "prints" (.ref pr) (aB "ending" e (aB "fuel" (.int f) (aB "given" (.tup [.int g0,.int g1]) (aB "turn" v loc))))))=some (.ref pr):=by rw[aR (by decide+kernel)];exact bK _
 erw[aX ge];erw[aX gp];erw[DM (z _ _ hp) (by lia)];erw[hs _ _ _ cW];erw[aX (bK _)];erw[hs _ _ _ (b6 N)];rwa[U_ (t:=false) (by rwa[cC rfl];rfl)];erw[bC];exact q _ _ O (M5.mono λa o h=>b6 h)
theorem NZ(ns:List Int)(e:ns.length<=63):∃H,vD ns=.done (.ret (.bool true)) [] H:=by show(λr=>∃H,r=Res.done (.ret (.bool true)) [] H) (aA 30 (.top "law") [wI ns] [] λv H=>.done (.ret v) [] H);generalize h:(λr:Res=>∃H,r=Res.done (.ret (.bool true)) [] H)=P;erw[Da];refine Y1 (by decide) e λsr o M=>?_;refine WY (by decide) M λbs lst T i b lo bl sp g a M=>?_;show P (aT _ _ _ _);rwa[show((2:Int))=((2:Nat):Int)from rfl];erw[i4];erw[s5 (by decide)];show P (c9 (λz9=>true) (NL 29) [.int (0+((0:Nat):Int)),.int (0+((1:Nat):Int))] [("script",wI ns),("source",.ref sr),("body",.ref b)] i _);erw[iF];erw[gH];refine HY (ns:=ns) (by decide) g a ⟨by kernel_rfl,by kernel_rfl⟩ M λc j f k=>?_;show P (c9 (λz9=>true) (NL 29) [.int (0+((1:Nat):Int))] c j _);erw[iF];erw[gH];refine HY (ns:=ns) (by decide) g a f k λd l m p=>?_;show P (c9 (λz9=>true) (NL 29) [] d l _);erw[lZ];erw[gH];erw[mA];refine VJ (by decide) λn=>?_;refine cM h ?_;exact⟨n,rfl⟩
end
end
end Lw
end Mine.Internal
theorem PySem.Challenge.cw_ot0054_01_holds : PySem.Challenge.rw_ot0054_01.Holds :=
 Mine.Internal.holds_of Mine.Internal.Lw.NZ
