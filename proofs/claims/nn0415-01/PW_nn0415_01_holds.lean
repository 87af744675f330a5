import PyProof.Rows.All
import OpenK.AllK
import Wide.All
import KE.KRevSl
import KE.KSortTup
import KE.KDictSum
import KE.KRevIter
import PyProof.TupleOfGen
import PyProof.Rows.TupMore
import PyProof.SliceStr2
import OpenK.KCls
import OpenK.KMake
import Wide.FinOn
import Lean
import PySem.Challenge.RW_nn0415_01
set_option Elab.async false
set_option maxRecDepth 100000
set_option maxHeartbeats 8000000
set_option linter.unusedVariables false
set_option linter.unusedSimpArgs false
set_option genSizeOf false
set_option genInjectivity false
set_option exponentiation.threshold 2000
namespace Mine
open Nat renaming le_trans->WH,lt_of_le_of_lt->WM,le_of_eq->WO,le_refl->WQ,ne_of_lt->WT,lt_succ_of_lt->WV,lt_of_lt_of_le->WY,le_add_right->WZ,add_le_add_left->Xf,succ_le_succ->Xi,lt_succ_self->Xk,le_of_lt->Xl,add_le_add_right->Xw,lt_add_of_pos_right->Xx,add_lt_add_left->Xy,ne_of_gt->Xz,lt_of_succ_lt->XC,zero_add->XG,zero_le->XI,succ_pos->XK,add_le_add->XM,add_assoc->XO,le_succ_of_le->XS,succ_ne_self->XU,mul_le_mul_left->XW,le_of_lt_succ->XY,le_of_ble_eq_true->Yg,le_succ->Yj,le_of_succ_le->Yk,eq_of_beq_eq_true->Ym,lt_irrefl->Yq,not_lt->Yu,lt_trans->Yw,add_comm->Yx,decEq->Yy,le_of_not_lt->YB,lt_succ_iff_lt_or_eq->YC,succ_add_eq_add_succ->YE,mul_le_mul_right->YH,le_add_left->YK,add_left_cancel->YL,succ_ne_zero->YQ,lt_of_lt_of_eq->YT,testBit_or->Ze,or_lt_two_pow->Zl,div_add_mod->Zv,le_antisymm->Zw,lt_succ_of_le->Zz,sub_self->ZA,not_le->ZG,min_le_right->ZI,sub_succ_lt_self->ZN,pow_lt_pow_right->ZO,not_lt_zero->ZR,blt_eq->ZW,sub_add_cancel->ZY,mod_two_eq_zero_or_one->aab,lt_of_le_of_ne->aac,add_right_comm->aad,blt->aag,zero_testBit->aaq,sub_le->aav,sub_le_iff_le_add'->aaw,testBit_lt_two_pow->aax,min_eq_left->aay,two_pow_pos->aaB,le_of_sub_eq_zero->aaD,add_add_add_comm->aaE,one_mul->aaF,not_succ_le_self->aaN,decLt->aaP,add_sub_cancel'->aaR,testBit_two_pow->aaS,pos_of_ne_zero->aaW,beq_refl->aa2,mul_succ->aba,lt_asymm->abc,max_eq_right->abk,le_max_right->abl,sub_sub_self->abp,not_lt_of_le->abu,strongRecOn->abv,min_le_left->abx,sub_lt_self->abD
open PySem renaming wpAny_bind->WJ,wpAny_pure->WN,wpAny->WS,wpAny_holding->Xg,wpAny_standAt->Xu
open List renaming length_map->WK,getElem?_eq_some_iff->WL,getElem?_eq_getElem->WR,mem_singleton->WW,mem_append_right->Xa,length_range->Xb,mem_of_getElem? ->Xc,length_append->Xd,mem_append_left->Xh,getElem?_map->Xj,append_assoc->Xn,append_nil->Xo,mem_cons->Xp,range->Xq,map_append->Xr,mem_append->Xv,replicate->XA,getElem?_eq_none->XD,pairwise_cons->XE,mem_iff_getElem? ->XH,mem_map->XN,getElem?_append_left->XQ,getElem?_eq_none_iff->XR,length_cons->XT,length_reverse->Yc,map_map->Yd,getElem?_append_right->Ye,getElem_mem->Yh,nodup_append->Yi,pairwise_append->Yl,getElem?_cons_succ->Yo,findIdx?_eq_some_iff_getElem->Yp,nodup_cons->Yr,drop_eq_getElem_cons->Ys,filterMap_cons_none->Yv,mem_range->Yz,getElem?_toArray->YA,filterMap_cons_some->YD,getElem?_set_ne->YG,length_eq_zero_iff->YI,pairwise_map->YJ,getElem?_set_self->YM,length->YN,all_eq_true->YO,map_reverse->YR,mem_cons_self->YW,ext_getElem? ->YX,mem_cons_of_mem->YY,map_cons->Za,map_congr_left->Zb,lookup_cons->Zc,findIdx?_cons->Zf,take_of_length_le->Zg,flatMap_singleton->Zh,length_set->Zi,range_succ->Zj,take_append_drop->Zk,range_eq_range'->Zm,length_drop->Zo,cons_append->Zp,getElem?_range->Zt,reverse_append->Zu,filter_append->Zx,reverse_cons->Zy,length_replicate->ZC,contains_iff_mem->ZD,getElem?_reverse->ZE,drop_length->ZJ,any_eq_true->ZK,getElem_map->ZL,any_cons->ZM,reverse_reverse->ZP,mem_map_of_mem->ZT,flatMap_append->ZU,nodup_nil->aaa,findIdx?_eq_none_iff->aae,pairwise_iff_getElem->aaf,map_inj_left->aah,foldl_append->aai,take_nil->aaj,length_filterMap_le->aak,pairwise_singleton->aal,not_mem_nil->aan,length_take->aao,getElem?_cons_zero->aap,mapIdx_cons->aar,filter_cons_of_pos->aas,filter_cons_of_neg->aat,mem_reverse->aau,mem_filter->aaz,map_const'->aaA,length_filter_le->aaC,mem_of_mem_take->aaH,range'->aaI,getElem?_mapIdx->aaJ,filterMap->aaL,length_take_le'->aaM,map_eq_nil_iff->aaQ,length_flatMap->aaT,map_take->aaV,zip_cons_cons->aaX,mem_filterMap->aaY,getElem_range->aaZ,sum_singleton->aa0,findIdx?_map->aa4,size_toArray->aa5,push_toArray->aa6,getElem?_inj->abb,reverse_perm->abd,isEmpty_iff->abi,mem_toArray->abj,zip_toArray->abm,mem_flatMap->abq,ext_getElem->abt,forIn_cons->aby,of_mem_zip->abz,mem_mapIdx->abB,sum_append->abC,drop_zero->abI,drop_nil->abS,map_drop->abW,any_map->acd,reverse->acq
open Int renaming natCast_nonneg->WU,ofNat_lt->XJ,ofNat_le->XX,lt_of_le_of_lt->Yb,eq_ofNat_of_zero_le->Yn,add_sub_cancel->YS,not_lt->YU,ofNat->Zd,le_trans->Zn,max_eq_right->ZH,natCast_add->ZQ,toNat_of_nonneg->ZS,le_of_lt->ZV,sub_add_cancel->ZX,le_refl->aaO,add_assoc->aaU,toNat_natCast->aa3,sub_neg_of_lt->aa7,sub_zero->aa9,natCast_pow->abw,fdiv_nonneg->abA,decEq->abY
open Option renaming map_eq_some_iff->Xe,bind_eq_some_iff->XB,map->XF,isSome_iff_exists->YZ,elim->aaK,getD_none->abn,bind_some->abo
open Array renaming getElem?_toList->XZ,toList_append->Yt,mem_toList_iff->YF,getElem?_eq_none_iff->YV,getElem?_eq_getElem->Zq,length_toList->Zs,isEmpty_iff_size_eq_zero->ZF,getElem?_eq_some_iff->ZZ,any_toList->aam,toList_extract->aaG,toList_push->aa8,size_zip->abH
section
open PySem PySem.W PyProof.Rows PySem.W.Fast
theorem Ox:PySem.Challenge.rw_nn0415_01.wellSaid=true:=by
 rw[show @OpenLaw.wellSaid=_ from te9446332074065402090];kernel_rfl
end
section
inductive Key where
 |int (i:Int)|tup (is:List Int)
 deriving DecidableEq
inductive V where
 |none|bool (b:Bool)|int (i:Int)|str (s:List Nat)
 |tup (vs:List V)|kE (lo hi:Int)|ref (a:Nat)
 |lst (vs:List V)|bL (ks:List Key) (vs:List V)|obj (c:Nat) (fs:List Nat) (vs:List V)|uH (is:List Int)
inductive O where
 |list (vs:List V)|dict (ks:List Key) (vs:List V)|inst (c:Nat) (fs:List Nat) (vs:List V)
noncomputable def O.v:O->V
 |.list vs=>.lst vs|.dict ks vs=>.bL ks vs|.inst c fs vs=>.obj c fs vs
inductive Sl where
 |no|v (v:V)|o (o:O)
noncomputable abbrev Env:=List Sl
structure H where
 size:Nat
 f:Nat->Option O
noncomputable def H.nil:H:=⟨0,fun _=>.none⟩
noncomputable def H.get(h:H)(a:Nat):Option O:=match aag a h.size with|true=>h.f a|false=>.none
noncomputable def H.set(h:H)(a:Nat)(o:Option O):H:=⟨h.size,fun b=>match Nat.beq b a with|true=>o|false=>h.f b⟩
noncomputable def H.push(h:H)(o:O):H:=⟨h.size+1,fun b=>match Nat.beq b h.size with|true=>some o|false=>h.f b⟩
noncomputable def SZ:Nat:=16777216
inductive T where
 |one (i:Nat)|two (i j:Nat)
inductive B where
 |len|range|list|tuple|sorted|abs|max|sum|str|int
inductive vo where
 |add|sub|mul|fdiv|mod|pow|shl|shr|band|bor
inductive BF where
 |eq|ne|lt|gt|ge|is|pG|mem|cg
inductive E where
 |lit (v:V)|loc (i:Nat)|glob (n:Nat) (v:V)|af|aa (e es:E)|list (es:E)|bN|iD (k v:E)
 |aM (elt:E) (t:T) (iter:E)|je (elt:E) (t:T) (i:Nat)|bQ (elt:E) (t:T) (iter c:E)|kY (k v:E) (t:T) (iter c:E)
 |cell (e:E)|bP (e:E)|attr (e:E) (f:Nat)|gH (f:Nat)
 |aq (e:E) (m:Nat) (args:E)|call (f:Nat) (args:E)|new (c:Nat) (args:E)|qr (c:Nat) (args:E)
 |bi (b:B) (args:E)|cM (i:Nat)|isStr (e:E)|dK (e:E)
 |bin (op:vo) (a b:E)|neg (e:E)|not (e:E)|and (a b:E)|or (a b:E)|cmp (op:BF) (a b:E)
 |bX (neg:Bool) (a:E) (i:Nat)|zV (i:Nat)|Ju (i:Nat)|ite (c a b:E)
 |sub (e i:E)|aH (i:Nat) (e:E)|vM (i:Nat) (args:E)|dY (e hi:E)|aW (e lo:E)|fR (e:E)|iso (i:Nat) (e:E)
inductive S where
 |skip|seq (a b:S)|asg (i:Nat) (e:E)|aY (i:Nat) (e:E)|md (is:List Nat) (e:E)
 |eT (o:E) (f:Nat) (e:E)|aB (f:Nat) (e:E)|eS (o i e:E)|aP (i:Nat) (k e:E)
 |ex (e:E)|mO (i m:Nat) (args:E)|iY (j i m:Nat) (args:E)
 |ite (c:E) (a b:S)|loop (t:T) (it:E) (b:S)|dd (c:E) (b:S)|ret (e:E)|cont|stop
 |fz (i:Nat)|Bj (i:Nat)|uZ (e:E) (f:Nat)
structure Fn where
 np:Nat
 nZ:List V
 ns:Nat
 body:S
structure Prog where
 fn:Nat->Option Fn
 vR:Nat->Nat->Option Nat
 init:Nat->Option Nat
 ok:Nat->Nat->Bool
noncomputable def gt:Env->Nat->Sl
 |[],_=>.no
 |s::_,0=>s
 |_::r,i+1=>gt r i
noncomputable def st:Env->Nat->Sl->Env
 |[],_,_=>[]
 |_::r,0,x=>x::r
 |s::r,i+1,x=>s::st r i x
noncomputable def ints? :List V->Option (List Int)
 |[]=>some []
 |.int i::r=>(ints? r).map (i::·)
 |_=>.none
noncomputable def strs? :List V->Option (List (List Nat))
 |[]=>some []
 |.str s::r=>(strs? r).map (s::·)
 |_=>.none
noncomputable def V.key? :V->Option Key
 |.int i=>some (.int i)
 |.tup vs=>(ints? vs).map Key.tup
 |_=>.none
noncomputable def Key.v:Key->V
 |.int i=>.int i
 |.tup is=>.tup (is.map V.int)
noncomputable def Key.isInt:Key->Bool|.int _=>true|_=>false
noncomputable def aR(k:Key):List Key->Bool
 |[]=>true
 |k'::_=>k.isInt==k'.isInt
noncomputable def bC(k:Key):List Key->List V->Option V
 |k'::ks,v::vs=>match decide (k=k') with|true=>some v|false=>bC k ks vs
 |_,_=>.none
noncomputable def fT(k:Key)(v:V):List Key->List V->List V
 |k'::ks,v'::vs=>match decide (k=k') with|true=>v::vs|false=>v'::fT k v ks vs
 |_,_=>[v]
noncomputable def bB(k:Key):List Key->List Key
 |[]=>[k]
 |k'::ks=>match decide (k=k') with|true=>k'::ks|false=>k'::bB k ks
noncomputable def ae(f:Nat):List Nat->List V->Option V
 |g::fs,v::vs=>match Nat.beq f g with|true=>some v|false=>ae f fs vs
 |_,_=>.none
noncomputable def dQ(f:Nat)(v:V):List Nat->List V->List V
 |g::fs,u::vs=>match Nat.beq f g with|true=>v::vs|false=>u::dQ f v fs vs
 |_,_=>[v]
noncomputable def fC(f:Nat):List Nat->List Nat
 |[]=>[f]
 |g::fs=>match Nat.beq f g with|true=>g::fs|false=>g::fC f fs
noncomputable def nY(n:Int):Bool:=aag n.natAbs 1152921504606846976
noncomputable def Mx(n:Int):Bool:=decide (n.natAbs<2 ^ 1000)
noncomputable def ck(b:Bool)(v:V):Option V:=match b with|true=>some v|false=>.none
noncomputable def MF(vs:List V)(i:Int):Option V:=match i with
 |.ofNat n=>vs[n]?
 |.negSucc n=>vs.reverse[n]?
noncomputable def bI(op:vo)(x y:Int):Option V:=match op with
 |.add=>some (.int (x+y))
 |.sub=>some (.int (x-y))
 |.mul=>ck (nY x||nY y) (.int (x*y))
 |.fdiv=>ck (decide (0<y)&&decide (y<1024)) (.int (x.fdiv y))
 |.mod=>ck (decide (0<y)) (.int (x.fmod y))
 |.pow=>ck (decide (0<=y)&&decide (y<=1000)&&Mx x) (.int (x ^ y.toNat))
 |.shl=>ck (decide (0<=y)&&decide (y<=1000)&&decide (x=1)) (.int ((2 ^ y.toNat:Nat)))
 |.shr=>ck (decide (0<=x)&&decide (0<=y)&&decide (y<=1000)) (.int ((x.toNat>>>y.toNat:Nat)))
 |.band=>ck (decide (0<=x)&&decide (0<=y)) (.int ((x.toNat&&&y.toNat:Nat)))
 |.bor=>ck (decide (0<=x)&&decide (0<=y)) (.int ((x.toNat|||y.toNat:Nat)))
noncomputable def Hc(a b:V):Option V:=match a,b with
 |.int x,.int y=>some (.int (x+y))
 |.str x,.str y=>ck (decide (x.length+y.length<=SZ)) (.str (x++y))
 |.tup x,.tup y=>ck (decide (x.length+y.length<=SZ)) (.tup (x++y))
 |.lst x,.lst y=>ck (decide (x.length+y.length<=SZ)) (.lst (x++y))
 |_,_=>.none
noncomputable def Hx(a b:V):Option V:=match a,b with
 |.int x,.int y=>bI .mul x y
 |.lst [v],.int n=>ck (decide (0<=n)&&decide (n.toNat<=SZ)) (.lst (XA n.toNat v))
 |_,_=>.none
noncomputable def Jk(op:vo)(a b:V):Option V:=match a,b with|.int x,.int y=>bI op x y|_,_=>.none
noncomputable def pU(op:vo)(a b:V):Option V:=match op with
 |.add=>Hc a b
 |.mul=>Hx a b
 |op=>Jk op a b
noncomputable def eqB:V->V->Option Bool
 |.int x,.int y=>some (decide (x=y))
 |.str x,.str y=>some (decide (x=y))
 |_,_=>.none
noncomputable def lZ(v u:V):Bool:=match eqB u v with|some true=>true|_=>false
noncomputable def oV(v:V)(vs:List V):Option Bool:=match vs.all (fun u=>(eqB u v).isSome) with|true=>some (vs.any (lZ v))|false=>.none
noncomputable def KA(vs us:List V):Option Bool:=match strs? vs,strs? us with
 |some x,some y=>some (decide (x=y))
 |some _,.none=>if vs.isEmpty then some false else .none
 |.none,some _=>if us.isEmpty then some false else .none
 |_,_=>.none
noncomputable def isNone:V->Bool|.none=>true|_=>false
noncomputable def rd(v:V)(h:H):Option O:=match v with
 |.lst vs=>some (.list vs)
 |.bL ks vs=>some (.dict ks vs)
 |.obj c fs vs=>some (.inst c fs vs)
 |.ref a=>h.get a
 |_=>.none
noncomputable def bX(v:V):O->Option Bool
 |.list vs=>oV v vs
 |.dict ks _=>match v.key? with|some k=>(match aR k ks with|true=>some (ks.contains k)|false=>.none)|.none=>.none
 |_=>.none
noncomputable def GO(a b:V)(h:H):Option Bool:=match b with
 |.tup vs=>oV a vs
 |b=>(rd b h).bind (bX a)
noncomputable def eqv(a b:V):Option Bool:=match a,b with
 |.lst vs,.lst us=>KA vs us
 |a,b=>eqB a b
noncomputable def lt?(x y:V)(f:Int->Int->Bool):Option Bool:=match x,y with|.int a,.int b=>some (f a b)|_,_=>.none
noncomputable def zH(op:BF)(a b:V)(h:H):Option Bool:=match op with
 |.eq=>eqv a b
 |.ne=>(eqv a b).map (!·)
 |.lt=>lt? a b fun x y=>decide (x<y)
 |.gt=>lt? a b fun x y=>decide (y<x)
 |.ge=>lt? a b fun x y=>decide (y<=x)
 |.is=>match isNone b with|true=>some (isNone a)|false=>.none
 |.pG=>match isNone b with|true=>some (!isNone a)|false=>.none
 |.mem=>GO a b h
 |.cg=>(GO a b h).map (!·)
noncomputable def truth(v:V):Option Bool:=match v with
 |.bool b=>some b
 |.lst vs=>some (!vs.isEmpty)
 |_=>.none
noncomputable def digits(i:Int):List Nat:=(toString i).toList.map Char.toNat
noncomputable def vU(lo hi:Int):List V:=(Xq (hi-lo).toNat).map fun(j:Nat)=>.int (lo+j)
noncomputable def bZ(v:V):Option (List V):=match v with
 |.tup vs=>some vs
 |.lst vs=>some vs
 |.kE lo hi=>some (vU lo hi)
 |.bL ks _=>some (ks.map Key.v)
 |_=>.none
noncomputable def cM:O->Option Nat
 |.list vs=>some vs.length
 |.dict ks _=>some ks.length
 |_=>.none
noncomputable def keys? :List V->Option (List Key)
 |[]=>some []
 |v::r=>match v.key?,keys? r with|some k,some ks=>some (k::ks)|_,_=>.none
noncomputable def tups? :List Key->Option (List (List Int))
 |[]=>some []
 |.tup is::r=>(tups? r).map (is::·)
 |_=>.none
noncomputable def bW:List Int->List Int->Bool
 |[],[]=>false
 |[],_::_=>true
 |_::_,[]=>false
 |a::x,b::y=>if a=b then bW x y else decide (a<b)
noncomputable def pJ:List (List Int)->Bool
 |a::b::r=>bW a b&&pJ (b::r)
 |_=>true
noncomputable def oN:List (List Int)->Bool
 |a::b::r=>bW b a&&oN (b::r)
 |_=>true
noncomputable def insI(k:Int):List Int->List Int
 |[]=>[k]
 |x::r=>if k<=x then k::x::r else x::insI k r
noncomputable def sortI:List Int->List Int
 |[]=>[]
 |k::r=>insI k (sortI r)
noncomputable def iW(ks:List V):Option (List V):=match ints? ks with
 |some is=>if is.length<64 then some ((sortI is).map V.int) else .none
 |.none=>match keys? ks with
  |some ks'=>match tups? ks' with
   |some ts=>if ts.all (fun t=>!t.isEmpty) then(if pJ ts then some ks else if oN ts then some ks.reverse else .none) else .none
   |.none=>.none
  |.none=>.none
noncomputable def NK(v:V)(h:H):Option V:=match v with
 |.tup vs=>some (.int vs.length)
 |v=>(rd v h).bind fun o=>(cM o).map fun(n:Nat)=>V.int n
noncomputable def fA(vs:List V):Option V:=ck (decide (vs.length<=SZ)) (.lst vs)
noncomputable def yE(b:B)(v:V)(h:H):Option V:=match b with
 |.len=>NK v h
 |.range=>match v with|.int n=>ck (nY n) (.kE 0 n)|_=>.none
 |.list=>match v with|.tup vs=>fA vs|.lst vs=>fA vs|_=>.none
 |.tuple=>match v with|.lst vs=>some (.tup vs)|_=>.none
 |.sorted=>match v with
  |.lst vs=>(iW vs).bind fA
  |.tup vs=>(iW vs).bind fA
  |.bL ks _=>(iW (ks.map Key.v)).bind fA
  |_=>.none
 |.abs=>match v with|.int i=>some (.int (if i<0 then-i else i))|_=>.none
 |.sum=>match v with|.lst vs=>(ints? vs).map fun is=>.int is.sum|_=>.none
 |.str=>match v with|.int i=>ck (nY i) (.str (digits i))|_=>.none
 |.int=>match v with|.bool b=>some (.int (if b then 1 else 0))|_=>.none
 |.max=>.none
noncomputable def qT(b:B)(args:List V)(h:H):Option V:=match args with
 |[v]=>yE b v h
 |[u,v]=>match b with
  |.range=>(match u,v with|.int m,.int n=>ck (nY m&&nY n) (.kE m n)|_,_=>.none)
  |.max=>(match u,v with|.int i,.int j=>some (.int (if j>i then j else i))|_,_=>.none)
  |_=>.none
 |_=>.none
noncomputable def aH(o:O)(i:V):Option V:=match o with
 |.list vs=>match i with|.int k=>MF vs k|_=>.none
 |.dict ks vs=>match i.key? with|some k=>(match aR k ks with|true=>bC k ks vs|false=>.none)|.none=>.none
 |_=>.none
noncomputable def cL(o i:V)(h:H):Option V:=match o with
 |.tup vs=>match i with|.int k=>MF vs k|_=>.none
 |o=>(rd o h).bind fun o=>aH o i
noncomputable def fN(o:O)(i v:V):Option O:=match o with
 |.list vs=>match i with
  |.int k=>(match decide (0<=k)&&decide (k<vs.length) with|true=>some (.list (vs.set k.toNat v))|false=>.none)
  |_=>.none
 |.dict ks vs=>match i.key? with
  |some k=>(match aR k ks&&decide (ks.length<SZ) with|true=>some (.dict (bB k ks) (fT k v ks vs))|false=>.none)
  |.none=>.none
 |_=>.none
noncomputable def jR(ok:Nat->Nat->Bool)(o:O)(f:Nat)(v:V):Option O:=match o with
 |.inst c fs vs=>(match decide (fs.length<100)&&ok c f with|true=>some (.inst c (fC f fs) (dQ f v fs vs))|false=>.none)
 |_=>.none
noncomputable def dY(o:V)(n:Nat):Option V:=match o with
 |.str s=>ck (decide (s.length<=SZ)) (.str (s.take n))
 |.lst vs=>ck (decide (vs.length<=SZ)) (.lst (vs.take n))
 |.uH is=>ck (decide (is.length<=SZ)) (.lst ((is.take n).map V.int))
 |_=>.none
noncomputable def aW(o:V)(n:Nat):Option V:=match o with
 |.tup vs=>ck (decide (1<=n)&&decide (n<=vs.length)&&decide (vs.length<=SZ)) (.tup (vs.drop n))
 |.lst vs=>ck (decide (vs.length<=SZ)) (.lst (vs.drop n))
 |_=>.none
noncomputable def eI(sep:List Nat):List (List Nat)->List Nat
 |[]=>[]
 |[x]=>x
 |x::r=>x++sep++eI sep r
noncomputable def Ln(vs:List V)(m:Nat)(args:List V):Option (V×List V):=match m,args with
 |0,[v]=>(match decide (vs.length<SZ) with|true=>some (.none,vs++[v])|false=>.none)
 |1,[.int i,v]=>(match decide (0<=i)&&decide (i<=vs.length)&&decide (vs.length<SZ) with|true=>some (.none,vs.take i.toNat++v::vs.drop i.toNat)|false=>.none)
 |2,[.lst us]=>(match decide (vs.length+us.length<=SZ) with|true=>some (.none,vs++us)|false=>.none)
 |3,[]=>vs.getLast?.map fun v=>(v,vs.dropLast)
 |_,_=>.none
noncomputable def xl(ks:List Key)(vs:List V):List V->Option (V×O)
 |[i,dflt]=>(match i.key? with
  |some k=>(match aR k ks&&decide (ks.length<SZ) with
   |true=>(match bC k ks vs with
    |some v=>some (v,.dict ks vs)
    |.none=>some (dflt,.dict (bB k ks) (fT k dflt ks vs)))
   |false=>.none)
  |.none=>.none)
 |_=>.none
noncomputable def zy(ks:List Key)(vs:List V):List V->Option V
 |[i,dflt]=>i.key?.bind fun k=>(match aR k ks with|true=>some ((bC k ks vs).getD dflt)|false=>.none)
 |_=>.none
noncomputable def dh(o:O)(m:Nat)(args:List V):Option (V×O):=match o with
 |.list vs=>(Ln vs m args).map fun r=>(r.1,.list r.2)
 |.dict ks vs=>(match Nat.beq m 6 with|true=>xl ks vs args|false=>.none)
 |_=>.none
noncomputable def Ea(s:List Nat):List V->Option V
 |[.lst us]=>(strs? us).bind fun ss=>ck (decide ((ss.map YN).sum+ss.length*s.length<=SZ)) (.str (eI s ss))
 |_=>.none
noncomputable def sG(vs:List V):List V->Option V
 |[v]=>(match vs.all (fun u=>(eqB u v).isSome) with|true=>(vs.findIdx? (lZ v)).map fun(n:Nat)=>V.int n|false=>.none)
 |_=>.none
noncomputable def uF(o:V)(m:Nat)(args:List V):Option V:=match o with
 |.str s=>(match Nat.beq m 7 with|true=>Ea s args|false=>.none)
 |.lst vs=>(match Nat.beq m 4 with|true=>sG vs args|false=>.none)
 |.bL ks vs=>(match Nat.beq m 5 with|true=>zy ks vs args|false=>.none)
 |_=>.none
noncomputable def mw(o:O)(m:Nat)(args:List V):Option V:=match o with
 |.dict ks vs=>(match Nat.beq m 5 with|true=>zy ks vs args|false=>.none)
 |_=>.none
noncomputable def dF(t:T)(v:V)(ρ:Env):Option Env:=match t with
 |.one i=>some (st ρ i (.v v))
 |.two i j=>match v with|.tup [x,y]=>some (st (st ρ i (.v x)) j (.v y))|_=>.none
noncomputable def cu:List Nat->List V->Env->Option Env
 |[],[],ρ=>some ρ
 |i::is,v::vs,ρ=>cu is vs (st ρ i (.v v))
 |_,_,_=>.none
noncomputable def putAll:List Key->List V->List (List Int×V)->List Key×List V
 |ks,vs,[]=>(ks,vs)
 |ks,vs,(k,v)::r=>putAll (bB (.tup k) ks) (fT (.tup k) v ks vs) r
noncomputable def cls:V->H->Option Nat:=fun v h=>match rd v h with|some (.inst c _ _)=>some c|_=>.none
noncomputable def jj(g:V->H->Option (V×H)):List V->H->Option (List V×H)
 |[],h=>some ([],h)
 |v::r,h=>(g v h).bind fun x=>(jj g r x.2).map fun y=>(x.1::y.1,y.2)
noncomputable def yO(g:V->H->Option (V×H))(o:O)(h:H):Option (O×H):=match o with
 |.list vs=>(jj g vs h).map fun r=>(.list r.1,r.2)
 |.dict ks vs=>(jj g vs h).map fun r=>(.dict ks r.1,r.2)
 |.inst c fs vs=>(jj g vs h).map fun r=>(.inst c fs r.1,r.2)
noncomputable def gN(r:Option (O×H)):Option (V×H):=r.map fun r=>(r.1.v,r.2)
noncomputable def bP:Nat->V->H->Option (V×H)
 |0,_,_=>.none
 |n+1,v,h=>match v with
  |.ref a=>(h.get a).bind fun o=>gN (yO (bP n) o (h.set a .none))
  |.lst vs=>gN (yO (bP n) (.list vs) h)
  |.bL ks vs=>gN (yO (bP n) (.dict ks vs) h)
  |.obj c fs vs=>gN (yO (bP n) (.inst c fs vs) h)
  |v=>some (v,h)
noncomputable def nj:Nat->V->Bool
 |0,_=>false
 |n+1,v=>match v with
  |.ref _=>false
  |.tup vs=>vs.all (nj n)
  |.lst vs=>vs.all (nj n)
  |.bL _ vs=>vs.all (nj n)
  |.obj _ _ vs=>vs.all (nj n)
  |_=>true
section
variable{A:Type}
structure M(A:Type) where
 ff:A
 call:Nat->List V->H->(V->H->A)->A
 init:Nat->Nat->List V->H->(O->H->A)->A
 wh:(Env->H->(V->H->A)->A)->(Env->H->(Env->H->A)->(V->Env->H->A)->A)->Env->H->(Env->H->A)->(V->Env->H->A)->A
noncomputable def fJ(ff:A)(r:Option V)(k:V->A):A:=match r with|some v=>k v|.none=>ff
noncomputable def gk(ff:A)(v:V)(a b:A):A:=match truth v with|some true=>a|some false=>b|.none=>ff
noncomputable def iO(ff:A)(v:V)(k:List V->A):A:=match v with|.tup vs=>k vs|_=>ff
noncomputable def dy(ff:A)(s:Sl)(k:O->A):A:=match s with|.o o=>k o|_=>ff
noncomputable def tupK(ff:A)(v:V)(k:List Int->A):A:=match v with|.tup vs=>(match ints? vs with|some is=>k is|.none=>ff)|_=>ff
noncomputable def wI(ff:A)(vs:List V)(k:A):A:=match decide (vs.length<=SZ) with|true=>k|false=>ff
noncomputable def cJ(ff:A)(t:T)(ρ:Env){α:Type}(elt:Env->H->(Option α->H->A)->A):List V->H->(List α->H->A)->A
 |[],h,k=>k [] h
 |v::vs,h,k=>match dF t v ρ with
  |some ρ'=>elt ρ' h fun x h=>cJ ff t ρ elt vs h fun xs h=>k (match x with|some x=>x::xs|.none=>xs) h
  |.none=>ff
noncomputable def forL(ff:A)(t:T)(b:Env->H->(Env->H->A)->A)(kn:Env->H->A):List V->Env->H->A
 |[],ρ,h=>kn ρ h
 |v::vs,ρ,h=>match dF t v ρ with
  |some ρ'=>b ρ' h (forL ff t b kn vs)
  |.none=>ff
variable(P:Prog)(m:M A)
noncomputable def wb(o:O)(f:Nat):Bool:=match o with|.list _=>aag f 5|.dict _ _=>Nat.beq f 5||Nat.beq f 6|.inst _ _ _=>false
noncomputable def iN(v:V)(f:Nat)(h:H):Option (Option Nat):=match rd v h with
 |some (.inst c fs us)=>(match ae f fs us with|.none=>(P.vR c f).map some|some _=>.none)
 |some o=>(match wb o f with|true=>some .none|false=>.none)
 |.none=>(match v with|.str _=>(match Nat.beq f 7 with|true=>some .none|false=>.none)|_=>.none)
noncomputable def nB(e:V)(f:Nat)(vs:List V)(h:H)(k:V->H->A):A:=match e with
 |.ref a=>(match h.get a with
  |some o=>(match dh o f vs with|some r=>k r.1 (h.set a (some r.2))|.none=>fJ m.ff (mw o f vs) (k · h))
  |.none=>m.ff)
 |e=>fJ m.ff (uF e f vs) (k · h)
noncomputable def pA(e:V)(f:Nat)(g:Option Nat)(vs:List V)(h:H)(k:V->H->A):A:=match g with
 |some g=>m.call g (e::vs) h k
 |.none=>nB m e f vs h k
noncomputable def MQ(g:Option (Option Nat))(k:Option Nat->A):A:=match g with|some g=>k g|.none=>m.ff
noncomputable def zW(s:Sl)(f:Nat)(k:A):A:=dy m.ff s fun o=>match wb o f with|true=>k|false=>m.ff
noncomputable def ev:E->Env->H->(V->H->A)->A
 |.lit v,_,h,k=>k v h
 |.loc i,ρ,h,k=>match gt ρ i with|.v v=>k v h|_=>m.ff
 |.glob _ v,_,h,k=>k v h
 |.af,_,h,k=>k (.tup []) h
 |.aa a b,ρ,h,k=>ev a ρ h fun v h=>ev b ρ h fun w h=>iO m.ff w fun vs=>k (.tup (v::vs)) h
 |.list a,ρ,h,k=>ev a ρ h fun w h=>iO m.ff w fun vs=>fJ m.ff (fA vs) (k · h)
 |.bN,_,h,k=>k (.bL [] []) h
 |.iD a b,ρ,h,k=>ev a ρ h fun v h=>ev b ρ h fun w h=>match v.key? with|some q=>k (.bL [q] [w]) h|.none=>m.ff
 |.aM el t it,ρ,h,k=>ev it ρ h fun v h=>match bZ v with
  |some vs=>wI m.ff vs<|cJ m.ff t ρ (fun ρ h k=>ev el ρ h fun v h=>k (some v) h) vs h fun xs h=>k (.lst xs) h
  |.none=>m.ff
 |.je el t i,ρ,h,k=>dy m.ff (gt ρ i) fun o=>match o with
  |.list vs=>cJ m.ff t ρ (fun ρ h k=>ev el ρ h fun v h=>k (some v) h) vs h fun xs h=>k (.lst xs) h
  |_=>m.ff
 |.bQ el t it c,ρ,h,k=>ev it ρ h fun v h=>match bZ v with
  |some vs=>wI m.ff vs<|cJ m.ff t ρ (fun ρ h k=>ev c ρ h fun b h=>gk m.ff b (ev el ρ h fun v h=>k (some v) h) (k .none h)) vs h fun xs h=>k (.lst xs) h
  |.none=>m.ff
 |.kY a b t it c,ρ,h,k=>ev it ρ h fun v h=>match bZ v with
  |some vs=>wI m.ff vs<|cJ m.ff t ρ (fun ρ h k=>ev c ρ h fun d h=>gk m.ff d (ev a ρ h fun v h=>ev b ρ h fun w h=>tupK m.ff v fun q=>k (some (q,w)) h) (k .none h)) vs h fun xs h=>k (.bL (putAll [] [] xs).1 (putAll [] [] xs).2) h
  |.none=>m.ff
 |.cell e,ρ,h,k=>ev e ρ h fun v h=>match v with
  |.lst vs=>k (.ref h.size) (h.push (.list vs))
  |.bL ks vs=>k (.ref h.size) (h.push (.dict ks vs))
  |.obj c fs vs=>k (.ref h.size) (h.push (.inst c fs vs))
  |_=>m.ff
 |.bP e,ρ,h,k=>ev e ρ h fun v h=>match bP 8 v h with|some r=>k r.1 r.2|.none=>m.ff
 |.attr e f,ρ,h,k=>ev e ρ h fun v h=>match rd v h with|some (.inst _ fs vs)=>fJ m.ff (ae f fs vs) (k · h)|_=>m.ff
 |.gH f,ρ,h,k=>dy m.ff (gt ρ 0) fun o=>match o with|.inst _ fs vs=>fJ m.ff (ae f fs vs) (k · h)|_=>m.ff
 |.aq e f a,ρ,h,k=>ev e ρ h fun v h=>MQ m (iN P v f h) fun g=>ev a ρ h fun w h=>iO m.ff w fun vs=>pA m v f g vs h k
 |.call f a,ρ,h,k=>ev a ρ h fun w h=>iO m.ff w fun vs=>m.call f vs h k
 |.new c a,ρ,h,k=>ev a ρ h fun w h=>iO m.ff w fun vs=>match P.init c with|some f=>m.init f c vs h fun o h=>k o.v h|.none=>m.ff
 |.qr c a,ρ,h,k=>ev a ρ h fun w h=>iO m.ff w fun vs=>match P.init c with|some f=>m.call f (.ref h.size::vs) (h.push (.inst c [] [])) fun v h'=>(match v with|.none=>k (.ref h.size) h'|_=>m.ff)|.none=>m.ff
 |.bi b a,ρ,h,k=>ev a ρ h fun w h=>iO m.ff w fun vs=>fJ m.ff (qT b vs h) (k · h)
 |.cM i,ρ,h,k=>dy m.ff (gt ρ i) fun o=>match cM o with|some n=>k (.int n) h|.none=>m.ff
 |.isStr e,ρ,h,k=>ev e ρ h fun v h=>match v with|.str _=>k (.bool true) h|.tup _=>k (.bool false) h|_=>m.ff
 |.dK e,ρ,h,k=>ev e ρ h fun v h=>match v with|.lst vs=>k (.tup vs.reverse) h|_=>m.ff
 |.bin op a b,ρ,h,k=>ev a ρ h fun x h=>ev b ρ h fun y h=>fJ m.ff (pU op x y) (k · h)
 |.neg e,ρ,h,k=>ev e ρ h fun v h=>match v with|.int i=>k (.int (-i)) h|_=>m.ff
 |.not e,ρ,h,k=>ev e ρ h fun v h=>match truth v with|some b=>k (.bool (!b)) h|.none=>m.ff
 |.and a b,ρ,h,k=>ev a ρ h fun v h=>gk m.ff v (ev b ρ h k) (k v h)
 |.or a b,ρ,h,k=>ev a ρ h fun v h=>gk m.ff v (k v h) (ev b ρ h k)
 |.cmp op a b,ρ,h,k=>ev a ρ h fun x h=>ev b ρ h fun y h=>match zH op x y h with|some b=>k (.bool b) h|.none=>m.ff
 |.bX neg a i,ρ,h,k=>ev a ρ h fun x h=>dy m.ff (gt ρ i) fun o=>match bX x o with|some b=>k (.bool (xor neg b)) h|.none=>m.ff
 |.zV i,ρ,h,k=>dy m.ff (gt ρ i) fun o=>match o with|.list vs=>k (.bool (!vs.isEmpty)) h|_=>m.ff
 |.Ju i,ρ,h,k=>dy m.ff (gt ρ i) fun o=>match o with|.list vs=>k (.bool (!vs.isEmpty)) h|_=>m.ff
 |.ite c a b,ρ,h,k=>ev c ρ h fun v h=>gk m.ff v (ev a ρ h k) (ev b ρ h k)
 |.sub e i,ρ,h,k=>ev e ρ h fun x h=>ev i ρ h fun y h=>fJ m.ff (cL x y h) (k · h)
 |.aH i e,ρ,h,k=>dy m.ff (gt ρ i) fun _=>ev e ρ h fun y h=>dy m.ff (gt ρ i) fun o=>fJ m.ff (aH o y) (k · h)
 |.vM i e,ρ,h,k=>zW m (gt ρ i) 5<|ev e ρ h fun w h=>iO m.ff w fun vs=>dy m.ff (gt ρ i) fun o=>fJ m.ff (mw o 5 vs) (k · h)
 |.dY e i,ρ,h,k=>ev e ρ h fun x h=>ev i ρ h fun y h=>match y with|.int n=>(match decide (0<=n)&&decide (n.toNat<=SZ) with|true=>fJ m.ff (dY x n.toNat) (k · h)|false=>m.ff)|_=>m.ff
 |.aW e i,ρ,h,k=>ev e ρ h fun x h=>ev i ρ h fun y h=>match y with|.int n=>(match decide (0<=n)&&decide (n.toNat<=SZ) with|true=>fJ m.ff (aW x n.toNat) (k · h)|false=>m.ff)|_=>m.ff
 |.fR e,ρ,h,k=>ev e ρ h fun v h=>match v with|.lst vs=>fJ m.ff (fA vs.reverse) (k · h)|_=>m.ff
 |.iso i e,ρ,h,k=>match gt ρ i with
  |.v u=>(match nj 20 u with
   |true=>ev e (st (XA ρ.length .no) i (.v u)) H.nil fun v _=>(match nj 20 v with|true=>k v h|false=>m.ff)
   |false=>m.ff)
  |_=>m.ff
noncomputable def fresh:E->Bool
 |.list _|.bN|.iD .. |.aM .. |.bQ .. |.bi .list _|.bin .add .. |.bin .mul .. |.new .. =>true
 |_=>false
noncomputable def own(v:V):Option O:=match v with
 |.lst vs=>some (.list vs)
 |.bL ks vs=>some (.dict ks vs)
 |_=>.none
noncomputable def ex:S->Env->H->(Env->H->A)->(Env->H->A)->(V->Env->H->A)->A
 |.skip,ρ,h,k,_,_=>k ρ h
 |.seq a b,ρ,h,k,c,r=>ex a ρ h (fun ρ h=>ex b ρ h k c r) c r
 |.asg i e,ρ,h,k,_,_=>ev P m e ρ h fun v h=>k (st ρ i (.v v)) h
 |.aY i e,ρ,h,k,_,_=>ev P m e ρ h fun v h=>match own v with|some o=>k (st ρ i (.o o)) h|.none=>m.ff
 |.md is e,ρ,h,k,_,_=>ev P m e ρ h fun v h=>match v with
  |.tup vs=>(match cu is vs ρ with|some ρ'=>k ρ' h|.none=>m.ff)
  |.lst vs=>(match cu is vs ρ with|some ρ'=>k ρ' h|.none=>m.ff)
  |_=>m.ff
 |.eT o f e,ρ,h,k,_,_=>ev P m e ρ h fun v h=>ev P m o ρ h fun w h=>match w with
  |.ref a=>(match (h.get a).bind (jR P.ok · f v) with|some o=>k ρ (h.set a (some o))|.none=>m.ff)
  |_=>m.ff
 |.aB f e,ρ,h,k,_,_=>ev P m e ρ h fun v h=>dy m.ff (gt ρ 0) fun o=>match jR P.ok o f v with|some o=>k (st ρ 0 (.o o)) h|.none=>m.ff
 |.eS o i e,ρ,h,k,_,_=>ev P m e ρ h fun v h=>ev P m o ρ h fun w h=>ev P m i ρ h fun j h=>match w with
  |.ref a=>(match (h.get a).bind (fN · j v) with|some o=>k ρ (h.set a (some o))|.none=>m.ff)
  |_=>m.ff
 |.aP i j e,ρ,h,k,_,_=>ev P m e ρ h fun v h=>dy m.ff (gt ρ i) fun _=>ev P m j ρ h fun j h=>dy m.ff (gt ρ i) fun o=>match fN o j v with|some o=>k (st ρ i (.o o)) h|.none=>m.ff
 |.ex e,ρ,h,k,_,_=>ev P m e ρ h fun _ h=>k ρ h
 |.mO i f a,ρ,h,k,_,_=>zW m (gt ρ i) f<|ev P m a ρ h fun w h=>iO m.ff w fun vs=>dy m.ff (gt ρ i) fun o=>match dh o f vs with|some r=>k (st ρ i (.o r.2)) h|.none=>m.ff
 |.iY j i f a,ρ,h,k,_,_=>zW m (gt ρ i) f<|ev P m a ρ h fun w h=>iO m.ff w fun vs=>dy m.ff (gt ρ i) fun o=>match dh o f vs with|some r=>k (st (st ρ i (.o r.2)) j (.v r.1)) h|.none=>m.ff
 |.ite c a b,ρ,h,k,kc,r=>ev P m c ρ h fun v h=>gk m.ff v (ex a ρ h k kc r) (ex b ρ h k kc r)
 |.loop t it b,ρ,h,k,_,r=>ev P m it ρ h fun v h=>match bZ v with|some vs=>forL m.ff t (fun ρ h kn=>ex b ρ h kn kn r) k vs ρ h|.none=>m.ff
 |.dd c b,ρ,h,k,_,r=>m.wh (ev P m c) (fun ρ h kn kr=>ex b ρ h kn kn kr) ρ h k r
 |.ret e,ρ,h,_,_,r=>ev P m e ρ h fun v h=>r v ρ h
 |.cont,ρ,h,_,c,_=>c ρ h
 |.stop,_,_,_,_,_=>m.ff
 |.fz i,ρ,h,k,_,_=>match gt ρ i with|.o o=>k (st ρ i (.v o.v)) h|_=>m.ff
 |.Bj i,ρ,h,k,_,_=>match gt ρ i with
  |.o o=>(match bP 8 o.v h with|some r=>k (st ρ i (.v r.1)) r.2|.none=>m.ff)
  |.v v=>(match bP 8 v h with|some r=>k (st ρ i (.v r.1)) r.2|.none=>m.ff)
  |.no=>m.ff
 |.uZ e f,ρ,h,k,_,_=>ev P m e ρ h fun w h=>match w with
  |.ref a=>(match h.get a with
   |some (.inst c fs vs)=>(match ae f fs vs with
    |some v=>(match bP 8 v h with|some r=>(match r.2.get a with|some _=>k ρ (r.2.set a (some (.inst c fs (dQ f r.1 fs vs))))|.none=>m.ff)|.none=>m.ff)
    |.none=>m.ff)
   |_=>m.ff)
  |_=>m.ff
noncomputable def iI(F:Fn)(args:List V):Option Env:=
 if F.np<=args.length+F.nZ.length/\args.length<=F.np then
  some ((args++F.nZ.drop (F.nZ.length-(F.np-args.length))).map Sl.v++XA (F.ns-F.np) Sl.no)
 else .none
noncomputable def oy(F:Fn)(c:Nat)(args:List V):Option Env:=(iI F (.none::args)).map fun ρ=>st ρ 0 (.o (.inst c [] []))
noncomputable def Eg(F:Fn)(ρ:Env)(h:H)(k:V->H->A):A:=ex P m F.body ρ h (fun _ h=>k .none h) (fun _ _=>m.ff) fun v _ h=>k v h
noncomputable def Bi(F:Fn)(ρ:Env)(h:H)(k:O->H->A):A:=ex P m F.body ρ h (fun ρ h=>dy m.ff (gt ρ 0) fun o=>k o h) (fun _ _=>m.ff) fun _ _ _=>m.ff
end
end
section
noncomputable def sr:S:=
  (.seq (.aB 8 (.loc 1))
  (.seq (.aB 9 (.loc 2))
  (.seq (.aB 10 (.loc 3))
  (.aB 11 (.ite (.cmp .is (.loc 4) (.lit .none)) (.loc 2) (.loc 4))))))
noncomputable def lR:Fn:=⟨5,[.none],5,sr⟩
noncomputable def sR:S:=
  (.ret (.aa (.attr (.loc 0) 8) (.aa (.attr (.loc 0) 9) .af)))
noncomputable def kG:Fn:=⟨1,[],1,sR⟩
noncomputable def Ar:S:=
  (.seq (.aY 1 (.list .af))
  (.seq (.asg 2 (.lit (.int 0)))
  (.seq (.asg 3 (.loc 0))
  (.seq (.dd (.cmp .gt (.loc 3) (.lit (.int 0))) (.seq (.ite (.cmp .eq (.bin .band (.loc 3) (.lit (.int 1))) (.lit (.int 1))) (.mO 1 0 (.aa (.loc 2) .af)) S.skip)
  (.seq (.asg 3 (.bin .shr (.loc 3) (.lit (.int 1))))
  (.asg 2 (.bin .add (.loc 2) (.lit (.int 1)))))))
  (.seq (.fz 1)
  (.ret (.loc 1)))))))
noncomputable def vZ:Fn:=⟨1,[],4,Ar⟩
noncomputable def uJ:S:=
  (.seq (.aB 12 (.loc 1))
  (.seq (.aB 13 (.loc 2))
  (.seq (.aB 14 (.loc 3))
  (.seq (.aB 15 (.loc 4))
  (.seq (.aB 16 (.loc 5))
  (.seq (.aB 17 (.loc 6))
  (.aB 18 (.loc 7))))))))
noncomputable def mT:Fn:=⟨8,[(.int (-1)),.none,(.int 0),(.int 0)],8,uJ⟩
noncomputable def jt:S:=
  (.seq (.aB 19 (.loc 1))
  (.seq (.aB 20 (.loc 2))
  (.seq (.aB 21 (.loc 3))
  (.seq (.aB 22 (.loc 4))
  (.seq (.aB 23 (.loc 5))
  (.seq (.aB 24 (.loc 6))
  (.seq (.aB 25 (.aM (.cell (.list .af)) (.one 8) (.gH 19)))
  (.seq (.aB 26 (.cell (.list .af)))
  (.seq (.aB 27 (.cell (.list .af)))
  (.seq (.loop (.one 7) (.gH 21) (.seq (.ex (.aq (.sub (.gH 25) (.attr (.loc 7) 13)) 0 (.aa (.attr (.loc 7) 12) .af)))
  (.seq (.ex (.aq (.gH 26) 0 (.aa (.bi .len (.aa (.gH 27) .af)) .af)))
  (.ex (.aq (.gH 27) 2 (.aa (.bin .mul (.list (.aa (.attr (.loc 7) 12) .af)) (.bin .add (.bi .len (.aa (.attr (.loc 7) 14) .af)) (.lit (.int 1)))) .af))))))
  (.aB 28 (.bi .len (.aa (.gH 27) .af)))))))))))))
noncomputable def gc:Fn:=⟨7,[],9,jt⟩
noncomputable def ij:S:=
  (.ret (.bi .len (.aa (.attr (.loc 0) 19) .af)))
noncomputable def eo:Fn:=⟨1,[],1,ij⟩
noncomputable def iM:S:=
  (.ret (.cmp .lt (.loc 1) (.attr (.loc 0) 20)))
noncomputable def eG:Fn:=⟨2,[],2,iM⟩
noncomputable def gT:S:=
  (.ret (.ite (.cmp .mem (.loc 1) (.attr (.loc 0) 19)) (.aq (.attr (.loc 0) 19) 4 (.aa (.loc 1) .af)) (.neg (.lit (.int 1)))))
noncomputable def eO:Fn:=⟨2,[],2,gT⟩
noncomputable def kj:S:=
  (.ret (.bi .list (.aa (.sub (.attr (.loc 0) 25) (.loc 1)) .af)))
noncomputable def gh:Fn:=⟨2,[],2,kj⟩
noncomputable def pB:S:=
  (.ret (.bin .add (.sub (.attr (.loc 0) 26) (.loc 1)) (.loc 2)))
noncomputable def iQ:Fn:=⟨3,[],3,pB⟩
noncomputable def lq:S:=
  (.ret (.sub (.attr (.loc 0) 27) (.loc 1)))
noncomputable def gG:Fn:=⟨2,[],2,lq⟩
noncomputable def lY:S:=
  (.ret (.bin .sub (.loc 1) (.sub (.attr (.loc 0) 26) (.sub (.attr (.loc 0) 27) (.loc 1)))))
noncomputable def gR:Fn:=⟨2,[],2,lY⟩
noncomputable def iz:S:=
  (.seq (.asg 2 (.attr (.sub (.attr (.loc 0) 21) (.sub (.attr (.loc 0) 27) (.loc 1))) 14))
  (.seq (.asg 3 (.bin .sub (.loc 1) (.sub (.attr (.loc 0) 26) (.sub (.attr (.loc 0) 27) (.loc 1)))))
  (.ret (.ite (.cmp .lt (.loc 3) (.bi .len (.aa (.loc 2) .af))) (.sub (.loc 2) (.loc 3)) (.neg (.lit (.int 1)))))))
noncomputable def fc:Fn:=⟨2,[],4,iz⟩
noncomputable def mV:S:=
  (.seq (.asg 3 (.sub (.attr (.loc 0) 21) (.loc 1)))
  (.seq (.aY 4 (.aM (.sub (.attr (.loc 0) 19) (.loc 5)) (.one 5) (.attr (.loc 3) 14)))
  (.seq (.ite (.cmp .ge (.loc 2) (.lit (.int 0))) (.mO 4 1 (.aa (.loc 2) (.aa (.lit (.str [46])) .af))) S.skip)
  (.seq (.fz 4)
  (.ret (.bin .add (.bin .add (.sub (.attr (.loc 0) 19) (.attr (.loc 3) 13)) (.lit (.str [32,58,32]))) (.aq (.lit (.str [32])) 7 (.aa (.loc 4) .af))))))))
noncomputable def gF:Fn:=⟨3,[(.int (-1))],6,mV⟩
noncomputable def iH:S:=
  (.seq (.asg 2 (.neg (.lit (.int 1))))
  (.seq (.loop (.one 3) (.loc 0) (.ite (.cmp .lt (.loc 3) (.loc 1)) (.asg 2 (.loc 3)) S.skip))
  (.ret (.loc 2))))
noncomputable def fh:Fn:=⟨2,[],4,iH⟩
noncomputable def iG:S:=
  (.seq (.aY 2 (.list .af))
  (.seq (.loop (.two 3 4) (.loc 0) (.seq (.ite (.or (.cmp .eq (.loc 3) (.lit (.str [101,114,114,111,114]))) (.cmp .mem (.dY (.loc 3) (.lit (.int 1))) (.aa (.lit (.str [])) (.aa (.lit (.str [36])) (.aa (.lit (.str [39])) .af))))) S.stop S.skip)
  (.ite (.bX true (.loc 3) 2) (.mO 2 0 (.aa (.loc 3) .af)) S.skip)))
  (.seq (.fz 2)
  (.seq (.asg 5 (.ite (.or (.cmp .pG (.loc 1) (.lit .none)) (.cmp .eq (.loc 2) (.list .af))) (.loc 1) (.sub (.loc 2) (.lit (.int 0)))))
  (.seq (.ite (.cmp .cg (.loc 5) (.loc 2)) S.stop S.skip)
  (.seq (.aY 6 (.bi .list (.aa (.glob 2 (.tup [(.str [36,101,110,100]),(.str [101,114,114,111,114]),(.str [36,117,110,100,101,102,105,110,101,100])])) .af)))
  (.seq (.loop (.two 3 4) (.loc 0) (.loop (.one 7) (.loc 4) (.ite (.and (.cmp .cg (.loc 7) (.loc 2)) (.bX true (.loc 7) 6)) (.mO 6 0 (.aa (.loc 7) .af)) S.skip)))
  (.seq (.asg 8 (.cM 6))
  (.seq (.fz 6)
  (.seq (.asg 6 (.bin .add (.bin .add (.loc 6) (.list (.aa (.lit (.str [36,97,99,99,101,112,116])) .af))) (.loc 2)))
  (.seq (.aY 9 (.list (.aa (.new 1 (.aa (.lit (.int 0)) (.aa (.loc 8) (.aa (.aa (.aq (.loc 6) 4 (.aa (.loc 5) .af)) (.aa (.glob 0 (.int 0)) .af)) (.aa (.glob 0 (.int 0)) .af))))) .af)))
  (.seq (.loop (.two 3 4) (.loc 0) (.seq (.asg 10 (.bi .tuple (.aa (.aM (.aq (.loc 6) 4 (.aa (.loc 11) .af)) (.one 11) (.loc 4)) .af)))
  (.mO 9 0 (.aa (.new 1 (.aa (.cM 9) (.aa (.aq (.loc 6) 4 (.aa (.loc 3) .af)) (.aa (.loc 10) (.aa (.call 14 (.aa (.loc 10) (.aa (.loc 8) .af))) .af))))) .af))))
  (.seq (.fz 9)
  (.ret (.bP (.new 2 (.aa (.loc 6) (.aa (.loc 8) (.aa (.loc 9) (.aa .bN (.aa (.lit .none) (.aa (.aq (.loc 6) 4 (.aa (.loc 5) .af)) .af))))))))))))))))))))))
noncomputable def fw:Fn:=⟨2,[.none],12,iG⟩
noncomputable def uC:S:=
  (.seq (.aY 2 (.bi .list (.aa (.loc 1) .af)))
  (.seq (.aY 3 (.list .af))
  (.seq (.asg 4 (.je (.cell (.list .af)) (.one 12) 2))
  (.seq (.aY 5 (.list .af))
  (.seq (.loop (.one 6) (.attr (.loc 0) 21) (.seq (.asg 7 (.lit (.int 0)))
  (.seq (.loop (.one 8) (.attr (.loc 6) 14) (.ite (.not (.aH 2 (.loc 8))) (.seq (.asg 7 (.bin .add (.loc 7) (.lit (.int 1))))
  (.ex (.aq (.sub (.loc 4) (.loc 8)) 0 (.aa (.attr (.loc 6) 12) .af)))) S.skip))
  (.mO 3 0 (.aa (.loc 7) .af)))))
  (.seq (.Bj 4)
  (.seq (.loop (.one 6) (.attr (.loc 0) 21) (.ite (.and (.cmp .eq (.aH 3 (.attr (.loc 6) 12)) (.lit (.int 0))) (.not (.aH 2 (.attr (.loc 6) 13)))) (.seq (.aP 2 (.attr (.loc 6) 13) (.lit (.bool true)))
  (.mO 5 0 (.aa (.attr (.loc 6) 13) .af))) S.skip))
  (.seq (.asg 9 (.lit (.int 0)))
  (.seq (.dd (.cmp .lt (.loc 9) (.cM 5)) (.seq (.loop (.one 10) (.sub (.loc 4) (.aH 5 (.loc 9))) (.seq (.aP 3 (.loc 10) (.bin .sub (.aH 3 (.loc 10)) (.lit (.int 1))))
  (.seq (.asg 11 (.attr (.sub (.attr (.loc 0) 21) (.loc 10)) 13))
  (.ite (.and (.cmp .eq (.aH 3 (.loc 10)) (.lit (.int 0))) (.not (.aH 2 (.loc 11)))) (.seq (.aP 2 (.loc 11) (.lit (.bool true)))
  (.mO 5 0 (.aa (.loc 11) .af))) S.skip))))
  (.asg 9 (.bin .add (.loc 9) (.lit (.int 1))))))
  (.seq (.fz 2)
  (.ret (.loc 2))))))))))))
noncomputable def oB:Fn:=⟨2,[],13,uC⟩
noncomputable def pH:S:=
  (.ret (.call 16 (.aa (.loc 0) (.aa (.bin .mul (.list (.aa (.lit (.bool false)) .af)) (.aq (.loc 0) 29 .af)) .af))))
noncomputable def ku:Fn:=⟨1,[],1,pH⟩
noncomputable def kS:S:=
  (.seq (.aY 1 (.bi .list (.aa (.loc 0) .af)))
  (.seq (.loop (.one 2) (.bi .range (.aa (.cM 1) .af)) (.loop (.one 3) (.bi .range (.aa (.cM 1) .af)) (.ite (.cmp .eq (.bin .band (.bin .shr (.aH 1 (.loc 3)) (.loc 2)) (.lit (.int 1))) (.lit (.int 1))) (.aP 1 (.loc 3) (.bin .bor (.aH 1 (.loc 3)) (.aH 1 (.loc 2)))) S.skip)))
  (.seq (.fz 1)
  (.ret (.loc 1)))))
noncomputable def ia:Fn:=⟨1,[],4,kS⟩
noncomputable def qy:S:=
  (.seq (.aY 3 (.bi .list (.aa (.loc 2) .af)))
  (.seq (.aY 4 (.bin .mul (.list (.aa (.lit (.int 0)) .af)) (.loc 0)))
  (.seq (.asg 5 (.bin .add (.loc 0) (.lit (.int 1))))
  (.seq (.aY 6 (.list .af))
  (.seq (.loop (.one 7) (.bi .range (.aa (.loc 0) .af)) (.seq (.ite (.cmp .ne (.aH 4 (.loc 7)) (.lit (.int 0))) S.cont S.skip)
  (.seq (.mO 6 0 (.aa (.loc 7) .af))
  (.seq (.aP 4 (.loc 7) (.cM 6))
  (.seq (.aY 8 (.list (.aa (.cell (.list (.aa (.loc 7) (.aa (.cM 6) (.aa (.lit (.int 0)) .af))))) .af)))
  (.dd (.Ju 8) (.seq (.asg 9 (.aH 8 (.neg (.lit (.int 1)))))
  (.seq (.asg 10 (.sub (.loc 9) (.lit (.int 0))))
  (.seq (.ite (.cmp .lt (.sub (.loc 9) (.lit (.int 2))) (.bi .len (.aa (.sub (.loc 1) (.loc 10)) .af))) (.seq (.asg 11 (.sub (.sub (.loc 1) (.loc 10)) (.sub (.loc 9) (.lit (.int 2)))))
  (.seq (.ite (.cmp .eq (.aH 4 (.loc 11)) (.lit (.int 0))) (.seq (.mO 6 0 (.aa (.loc 11) .af))
  (.seq (.aP 4 (.loc 11) (.cM 6))
  (.seq (.mO 8 0 (.aa (.cell (.list (.aa (.loc 11) (.aa (.cM 6) (.aa (.lit (.int 0)) .af))))) .af))
  S.cont))) S.skip)
  (.seq (.eS (.loc 9) (.lit (.int 2)) (.bin .add (.sub (.loc 9) (.lit (.int 2))) (.lit (.int 1))))
  (.seq (.ite (.cmp .lt (.aH 4 (.loc 11)) (.aH 4 (.loc 10))) (.aP 4 (.loc 10) (.aH 4 (.loc 11))) S.skip)
  (.seq (.aP 3 (.loc 10) (.bin .bor (.aH 3 (.loc 10)) (.aH 3 (.loc 11))))
  S.cont))))) S.skip)
  (.seq (.mO 8 3 .af)
  (.ite (.cmp .eq (.aH 4 (.loc 10)) (.sub (.loc 9) (.lit (.int 1)))) (.seq (.asg 12 (.neg (.lit (.int 1))))
  (.dd (.cmp .ne (.loc 12) (.loc 10)) (.seq (.iY 12 6 3 .af)
  (.seq (.aP 4 (.loc 12) (.loc 5))
  (.aP 3 (.loc 12) (.aH 3 (.loc 10))))))) S.skip)))))))))))
  (.seq (.fz 3)
  (.ret (.loc 3))))))))
noncomputable def mH:Fn:=⟨3,[],13,qy⟩
noncomputable def gy:S:=
  (.seq (.eT (.loc 0) 30 (.loc 1))
  (.seq (.eT (.loc 0) 31 (.call 17 (.aa (.attr (.loc 1) 32) .af)))
  (.seq (.eT (.loc 0) 33 (.cell (.list .af)))
  (.seq (.eT (.loc 0) 4 (.cell .bN))
  (.seq (.ex (.aq (.loc 0) 34 .af))
  (.seq (.uZ (.loc 0) 33)
  (.seq (.uZ (.loc 0) 4)
  (.seq (.eT (.loc 0) 35 (.cell (.list .af)))
  (.seq (.eT (.loc 0) 36 (.cell (.list .af)))
  (.seq (.ex (.aq (.loc 0) 37 .af))
  (.seq (.uZ (.loc 0) 35)
  (.seq (.uZ (.loc 0) 36)
  (.seq (.eT (.loc 0) 38 (.aM (.cell (.list .af)) (.one 3) (.attr (.loc 0) 33)))
  (.seq (.eT (.loc 0) 39 (.aM (.cell (.list .af)) (.one 4) (.attr (.loc 0) 33)))
  (.seq (.eT (.loc 0) 40 (.cell .bN))
  (.seq (.ex (.aq (.loc 0) 41 .af))
  (.seq (.uZ (.loc 0) 38)
  (.seq (.uZ (.loc 0) 39)
  (.seq (.uZ (.loc 0) 40)
  (.seq (.asg 2 (.bi .len (.aa (.attr (.loc 0) 33) .af)))
  (.seq (.eT (.loc 0) 42 (.call 19 (.aa (.loc 2) (.aa (.attr (.loc 0) 36) (.aa (.attr (.loc 0) 35) .af)))))
  (.seq (.eT (.loc 0) 43 (.call 19 (.aa (.loc 2) (.aa (.attr (.loc 0) 38) (.aa (.attr (.loc 0) 42) .af)))))
  (.eT (.loc 0) 44 (.aq (.loc 0) 45 .af))))))))))))))))))))))))
noncomputable def ee:Fn:=⟨2,[],5,gy⟩
noncomputable def bM:S:=
  (.seq (.asg 1 (.attr (.attr (.loc 0) 30) 32))
  (.loop (.one 2) (.attr (.attr (.loc 0) 30) 46) (.loop (.one 3) (.bi .sorted (.aa (.attr (.loc 2) 47) .af)) (.ite (.not (.aq (.loc 1) 48 (.aa (.loc 3) .af))) (.seq (.eS (.attr (.loc 0) 4) (.aa (.attr (.loc 2) 12) (.aa (.loc 3) .af)) (.bi .len (.aa (.attr (.loc 0) 33) .af)))
  (.ex (.aq (.attr (.loc 0) 33) 0 (.aa (.aa (.attr (.loc 2) 12) (.aa (.loc 3) .af)) .af)))) S.skip))))
noncomputable def ba:Fn:=⟨1,[],4,bM⟩
noncomputable def dM:S:=
  (.seq (.asg 1 (.attr (.attr (.loc 0) 30) 32))
  (.loop (.two 2 3) (.attr (.loc 0) 33) (.seq (.asg 4 (.aq (.attr (.loc 0) 30) 49 (.aa (.loc 2) (.aa (.loc 3) .af))))
  (.seq (.asg 5 (.lit (.int 0)))
  (.seq (.aY 6 (.list .af))
  (.seq (.asg 7 (.attr (.sub (.attr (.attr (.loc 0) 30) 46) (.loc 4)) 47))
  (.seq (.loop (.one 8) (.bi .sorted (.aa (.loc 7) .af)) (.ite (.aq (.loc 1) 48 (.aa (.loc 8) .af)) (.asg 5 (.bin .bor (.loc 5) (.bin .shl (.lit (.int 1)) (.loc 8)))) (.ite (.sub (.attr (.loc 0) 31) (.loc 8)) (.mO 6 0 (.aa (.sub (.attr (.loc 0) 4) (.aa (.loc 4) (.aa (.loc 8) .af))) .af)) S.skip)))
  (.seq (.ex (.aq (.attr (.loc 0) 35) 0 (.aa (.loc 5) .af)))
  (.seq (.fz 6)
  (.ex (.aq (.attr (.loc 0) 36) 0 (.aa (.loc 6) .af))))))))))))
noncomputable def bU:Fn:=⟨1,[],9,dM⟩
noncomputable def cQ:S:=
  (.seq (.asg 1 (.attr (.attr (.loc 0) 30) 32))
  (.seq (.loop (.one 2) (.attr (.attr (.loc 0) 30) 46) (.loop (.one 3) (.attr (.loc 2) 50) (.eS (.attr (.loc 0) 40) (.aa (.attr (.loc 2) 12) (.aa (.loc 3) .af)) (.cell (.list .af)))))
  (.loop (.one 4) (.bi .range (.aa (.bi .len (.aa (.attr (.loc 0) 33) .af)) .af)) (.seq (.md [5,6] (.sub (.attr (.loc 0) 33) (.loc 4)))
  (.loop (.one 3) (.aq (.loc 1) 51 (.aa (.loc 6) .af)) (.seq (.asg 7 (.attr (.sub (.attr (.loc 1) 21) (.loc 3)) 14))
  (.seq (.asg 8 (.aq (.loc 0) 52 (.aa (.loc 7) .af)))
  (.seq (.asg 9 (.loc 5))
  (.seq (.loop (.one 10) (.bi .range (.aa (.bi .len (.aa (.loc 7) .af)) .af)) (.seq (.asg 11 (.sub (.loc 7) (.loc 10)))
  (.seq (.ite (.and (.cmp .ge (.loc 10) (.loc 8)) (.not (.aq (.loc 1) 48 (.aa (.loc 11) .af)))) (.seq (.asg 12 (.sub (.attr (.loc 0) 4) (.aa (.loc 9) (.aa (.loc 11) .af))))
  (.seq (.ex (.call 26 (.aa (.sub (.attr (.loc 0) 38) (.loc 12)) (.aa (.loc 4) .af))))
  (.ite (.cmp .eq (.loc 10) (.lit (.int 0))) (.ex (.call 26 (.aa (.sub (.attr (.loc 0) 39) (.loc 12)) (.aa (.loc 4) .af)))) S.skip))) S.skip)
  (.asg 9 (.aq (.attr (.loc 0) 30) 49 (.aa (.loc 9) (.aa (.loc 11) .af)))))))
  (.ex (.call 26 (.aa (.sub (.attr (.loc 0) 40) (.aa (.loc 9) (.aa (.loc 3) .af))) (.aa (.loc 4) .af)))))))))))))
noncomputable def bx:Fn:=⟨1,[],13,cQ⟩
noncomputable def dS:S:=
  (.seq (.asg 2 (.bi .len (.aa (.loc 1) .af)))
  (.seq (.dd (.and (.cmp .gt (.loc 2) (.lit (.int 0))) (.sub (.attr (.loc 0) 31) (.sub (.loc 1) (.bin .sub (.loc 2) (.lit (.int 1)))))) (.asg 2 (.bin .sub (.loc 2) (.lit (.int 1)))))
  (.ret (.bi .max (.aa (.bin .sub (.loc 2) (.lit (.int 1))) (.aa (.lit (.int 0)) .af))))))
noncomputable def cA:Fn:=⟨2,[],3,dS⟩
noncomputable def dj:S:=
  (.seq (.aY 1 .bN)
  (.seq (.loop (.one 2) (.attr (.loc 0) 40) (.seq (.asg 3 (.lit (.int 0)))
  (.seq (.loop (.one 4) (.sub (.attr (.loc 0) 40) (.loc 2)) (.asg 3 (.bin .bor (.loc 3) (.sub (.attr (.loc 0) 43) (.loc 4)))))
  (.aP 1 (.loc 2) (.loc 3)))))
  (.seq (.fz 1)
  (.ret (.loc 1)))))
noncomputable def bD:Fn:=⟨1,[],5,dj⟩
noncomputable def px:S:=
  (.ite (.cmp .cg (.loc 1) (.loc 0)) (.ex (.aq (.loc 0) 0 (.aa (.loc 1) .af))) S.skip)
noncomputable def jZ:Fn:=⟨2,[],2,px⟩
noncomputable def sT:S:=
  (.seq (.asg 4 (.sub (.attr (.loc 0) 40) (.aa (.loc 1) (.aa (.loc 2) .af))))
  (.seq (.asg 5 (.call 28 (.aa (.loc 4) (.aa (.attr (.loc 0) 38) (.aa (.attr (.loc 0) 42) (.aa (.loc 3) .af))))))
  (.seq (.ite (.cmp .is (.loc 5) (.lit .none)) (.ret (.lit .none)) S.skip)
  (.seq (.asg 6 (.call 28 (.aa (.list (.aa (.sub (.loc 5) (.neg (.lit (.int 1)))) .af)) (.aa (.attr (.loc 0) 36) (.aa (.attr (.loc 0) 35) (.aa (.loc 3) .af))))))
  (.ret (.aa (.loc 5) (.aa (.loc 6) .af)))))))
noncomputable def kZ:Fn:=⟨4,[],7,sT⟩
noncomputable def gX:S:=
  (.seq (.aY 4 .bN)
  (.seq (.aY 5 (.list .af))
  (.seq (.loop (.one 6) (.loc 0) (.ite (.bX true (.loc 6) 4) (.seq (.aP 4 (.loc 6) (.neg (.lit (.int 1))))
  (.mO 5 0 (.aa (.loc 6) .af))) S.skip))
  (.seq (.asg 7 (.lit (.int 0)))
  (.seq (.dd (.cmp .lt (.loc 7) (.cM 5)) (.seq (.asg 6 (.aH 5 (.loc 7)))
  (.seq (.asg 7 (.bin .add (.loc 7) (.lit (.int 1))))
  (.seq (.ite (.cmp .eq (.bin .band (.bin .shr (.sub (.loc 2) (.loc 6)) (.loc 3)) (.lit (.int 1))) (.lit (.int 1))) (.seq (.aY 8 (.list (.aa (.loc 6) .af)))
  (.seq (.dd (.cmp .ne (.aH 4 (.aH 8 (.neg (.lit (.int 1))))) (.neg (.lit (.int 1)))) (.mO 8 0 (.aa (.aH 4 (.aH 8 (.neg (.lit (.int 1))))) .af)))
  (.seq (.fz 8)
  (.ret (.dK (.loc 8)))))) S.skip)
  (.loop (.one 9) (.sub (.loc 1) (.loc 6)) (.ite (.bX true (.loc 9) 4) (.seq (.aP 4 (.loc 9) (.loc 6))
  (.mO 5 0 (.aa (.loc 9) .af))) S.skip))))))
  (.ret (.lit .none)))))))
noncomputable def eQ:Fn:=⟨4,[],10,gX⟩
noncomputable def ip:S:=
  (.seq (.asg 4 (.attr (.attr (.loc 0) 30) 32))
  (.seq (.asg 5 (.call 27 (.aa (.loc 0) (.aa (.loc 1) (.aa (.loc 2) (.aa (.loc 3) .af))))))
  (.seq (.ite (.cmp .is (.loc 5) (.lit .none)) (.ret (.list .af)) S.skip)
  (.seq (.md [6,7] (.loc 5))
  (.seq (.aY 8 (.list (.aa (.bin .add (.bin .add (.bin .add (.lit (.str [105,110,32,115,116,97,116,101,32])) (.bi .str (.aa (.loc 1) .af))) (.lit (.str [58,32]))) (.call 13 (.aa (.loc 4) (.aa (.loc 2) (.aa (.bi .len (.aa (.attr (.sub (.attr (.loc 4) 21) (.loc 2)) 14) .af)) .af))))) .af)))
  (.seq (.loop (.one 9) (.bi .range (.aa (.bi .len (.aa (.loc 6) .af)) .af)) (.seq (.asg 10 (.ite (.cmp .eq (.loc 9) (.lit (.int 0))) (.lit (.str [103,111,101,115,32,98,97,99,107,32,116,111])) (.lit (.str [101,110,100,115,32,116,104,101,32,114,117,108,101,32,111,102]))))
  (.mO 8 0 (.aa (.bin .add (.bin .add (.loc 10) (.lit (.str [32]))) (.call 30 (.aa (.loc 0) (.aa (.sub (.loc 6) (.loc 9)) .af)))) .af))))
  (.seq (.loop (.one 11) (.aW (.loc 7) (.lit (.int 1))) (.mO 8 0 (.aa (.bin .add (.lit (.str [112,97,115,115,101,115,32,116,104,101,32,101,109,112,116,121,32])) (.call 30 (.aa (.loc 0) (.aa (.loc 11) .af)))) .af)))
  (.seq (.mO 8 0 (.aa (.bin .add (.lit (.str [115,104,105,102,116,115,32])) (.sub (.attr (.loc 4) 19) (.loc 3))) .af))
  (.seq (.fz 8)
  (.ret (.loc 8)))))))))))
noncomputable def dX:Fn:=⟨4,[],12,ip⟩
noncomputable def gA:S:=
  (.seq (.md [2,3] (.sub (.attr (.loc 0) 33) (.loc 1)))
  (.ret (.bin .add (.bin .add (.sub (.attr (.attr (.attr (.loc 0) 30) 32) 19) (.loc 3)) (.lit (.str [32,105,110,32,115,116,97,116,101,32]))) (.bi .str (.aa (.loc 2) .af)))))
noncomputable def eg:Fn:=⟨2,[],4,gA⟩
noncomputable def lB:S:=
  (.seq (.asg 2 (.attr (.loc 0) 32))
  (.seq (.aY 3 (.list .af))
  (.seq (.loop (.two 4 5) (.bi .sorted (.aa (.loc 1) .af)) (.seq (.asg 6 (.aM (.sub (.attr (.loc 2) 19) (.loc 7)) (.one 7) (.call 2 (.aa (.sub (.loc 1) (.aa (.loc 4) (.aa (.loc 5) .af))) .af))))
  (.mO 3 0 (.aa (.bin .add (.bin .add (.bin .add (.bin .add (.bin .add (.bi .str (.aa (.loc 4) .af)) (.lit (.str [32]))) (.call 13 (.aa (.loc 2) (.aa (.loc 5) .af)))) (.lit (.str [32,91]))) (.aq (.lit (.str [44,32])) 7 (.aa (.loc 6) .af))) (.lit (.str [93]))) .af))))
  (.seq (.fz 3)
  (.ret (.loc 3))))))
noncomputable def iq:Fn:=⟨2,[],8,lB⟩
noncomputable def oG:S:=
  (.seq (.aB 53 (.loc 1))
  (.seq (.aB 54 (.loc 2))
  (.seq (.aB 55 (.loc 3))
  (.aB 56 (.loc 4)))))
noncomputable def jB:Fn:=⟨5,[],5,oG⟩
noncomputable def jg:S:=
  (.seq (.aY 2 (.bin .add (.aM (.sub (.attr (.loc 1) 19) (.loc 4)) (.one 4) (.attr (.loc 0) 53)) (.list (.aa (.lit (.str [46])) .af))))
  (.seq (.loop (.one 3) (.bin .add (.aa (.attr (.loc 0) 54) .af) (.attr (.loc 0) 55)) (.mO 2 0 (.aa (.sub (.attr (.loc 1) 19) (.loc 3)) .af)))
  (.seq (.fz 2)
  (.ret (.aq (.lit (.str [32])) 7 (.aa (.loc 2) .af))))))
noncomputable def fP:Fn:=⟨2,[],5,jg⟩
noncomputable def oH:S:=
  (.seq (.aB 12 (.loc 1))
  (.seq (.aB 57 (.loc 2))
  (.seq (.aB 58 (.loc 3))
  (.seq (.aB 59 (.list .af))
  (.seq (.aB 47 (.cell .bN))
  (.aB 50 (.list .af)))))))
noncomputable def jh:Fn:=⟨4,[],4,oH⟩
noncomputable def ju:S:=
  (.ret (.aq (.attr (.loc 0) 47) 5 (.aa (.loc 1) (.aa (.glob 3 (.int (-1))) .af))))
noncomputable def fX:Fn:=⟨2,[],2,ju⟩
noncomputable def jS:S:=
  (.seq (.aB 32 (.loc 1))
  (.seq (.aY 2 (.bin .mul (.list (.aa (.lit (.int 0)) .af)) (.aq (.loc 1) 29 .af)))
  (.seq (.loop (.one 3) (.attr (.loc 1) 21) (.ite (.cmp .gt (.bi .len (.aa (.attr (.loc 3) 14) .af)) (.lit (.int 0))) (.aP 2 (.attr (.loc 3) 13) (.bin .bor (.aH 2 (.attr (.loc 3) 13)) (.bin .shl (.lit (.int 1)) (.sub (.attr (.loc 3) 14) (.lit (.int 0)))))) S.skip))
  (.seq (.fz 2)
  (.aB 60 (.call 18 (.aa (.loc 2) .af)))))))
noncomputable def gM:Fn:=⟨2,[],4,jS⟩
noncomputable def iB:S:=
  (.seq (.asg 2 (.lit (.int 0)))
  (.seq (.loop (.one 3) (.loc 1) (.seq (.asg 4 (.aq (.attr (.loc 0) 32) 61 (.aa (.loc 3) .af)))
  (.ite (.cmp .ge (.loc 4) (.lit (.int 0))) (.asg 2 (.bin .bor (.bin .bor (.loc 2) (.bin .shl (.lit (.int 1)) (.loc 4))) (.sub (.attr (.loc 0) 60) (.loc 4)))) S.skip)))
  (.ret (.loc 2))))
noncomputable def ft:Fn:=⟨2,[],5,iB⟩
noncomputable def jy:S:=
  (.seq (.aY 2 (.list .af))
  (.seq (.loop (.one 3) (.call 2 (.aa (.aq (.loc 0) 62 (.aa (.loc 1) .af)) .af)) (.loop (.one 4) (.aq (.attr (.loc 0) 32) 51 (.aa (.loc 3) .af)) (.seq (.asg 5 (.aq (.attr (.loc 0) 32) 56 (.aa (.loc 4) (.aa (.lit (.int 0)) .af))))
  (.ite (.cmp .cg (.loc 5) (.loc 1)) (.mO 2 0 (.aa (.loc 5) .af)) S.skip))))
  (.seq (.fz 2)
  (.ret (.bi .sorted (.aa (.loc 2) .af))))))
noncomputable def gf:Fn:=⟨2,[],6,jy⟩
noncomputable def iZ:S:=
  (.ret (.bin .add (.bi .sorted (.aa (.loc 1) .af)) (.aq (.loc 0) 63 (.aa (.loc 1) .af))))
noncomputable def fZ:Fn:=⟨2,[],2,iZ⟩
noncomputable def pP:S:=
  (.ret (.aq (.loc 0) 56 (.aa (.aq (.loc 0) 65 (.aa (.loc 1) .af)) (.aa (.bin .add (.aq (.loc 0) 64 (.aa (.loc 1) .af)) (.lit (.int 1))) .af))))
noncomputable def kD:Fn:=⟨2,[],2,pP⟩
noncomputable def gQ:S:=
  (.seq (.aY 2 .bN)
  (.seq (.loop (.one 3) (.loc 1) (.seq (.asg 4 (.aq (.loc 0) 61 (.aa (.loc 3) .af)))
  (.ite (.cmp .ge (.loc 4) (.lit (.int 0))) (.seq (.ite (.bX true (.loc 4) 2) (.aP 2 (.loc 4) (.cell (.list .af))) S.skip)
  (.ex (.aq (.aH 2 (.loc 4)) 0 (.aa (.call 40 (.aa (.loc 0) (.aa (.loc 3) .af))) .af)))) S.skip)))
  (.seq (.aY 5 .bN)
  (.seq (.Bj 2)
  (.seq (.loop (.one 4) (.bi .sorted (.aa (.loc 2) .af)) (.aP 5 (.loc 4) (.bi .tuple (.aa (.bi .sorted (.aa (.sub (.loc 2) (.loc 4)) .af)) .af))))
  (.seq (.fz 5)
  (.ret (.loc 5))))))))
noncomputable def eP:Fn:=⟨2,[],6,gQ⟩
noncomputable def gY:S:=
  (.seq (.aY 2 (.list .af))
  (.seq (.loop (.one 3) (.loc 1) (.ite (.and (.cmp .lt (.aq (.loc 0) 61 (.aa (.loc 3) .af)) (.lit (.int 0))) (.cmp .ne (.aq (.loc 0) 65 (.aa (.loc 3) .af)) (.lit (.int 0)))) (.mO 2 0 (.aa (.aq (.loc 0) 65 (.aa (.loc 3) .af)) .af)) S.skip))
  (.seq (.fz 2)
  (.ret (.bi .sorted (.aa (.loc 2) .af))))))
noncomputable def eL:Fn:=⟨2,[],4,gY⟩
noncomputable def mM:S:=
  (.seq (.aB 32 (.loc 1))
  (.aB 46 (.loc 2)))
noncomputable def gV:Fn:=⟨3,[],3,mM⟩
noncomputable def hK:S:=
  (.ret (.aq (.sub (.attr (.loc 0) 46) (.loc 1)) 49 (.aa (.loc 2) .af)))
noncomputable def eJ:Fn:=⟨3,[],3,hK⟩
noncomputable def jr:S:=
  (.seq (.aB 32 (.loc 1))
  (.seq (.aB 66 (.new 6 (.aa (.loc 1) .af)))
  (.seq (.aB 46 (.cell (.list .af)))
  (.aB 67 (.cell .bN)))))
noncomputable def gi:Fn:=⟨2,[],2,jr⟩
noncomputable def fy:S:=
  (.seq (.ite (.cmp .cg (.loc 1) (.attr (.loc 0) 67)) (.seq (.eS (.attr (.loc 0) 67) (.loc 1) (.bi .len (.aa (.attr (.loc 0) 46) .af)))
  (.ex (.aq (.attr (.loc 0) 46) 0 (.aa (.cell (.new 5 (.aa (.bi .len (.aa (.attr (.loc 0) 46) .af)) (.aa (.loc 1) (.aa (.loc 2) .af))))) .af)))) S.skip)
  (.ret (.sub (.attr (.loc 0) 67) (.loc 1))))
noncomputable def du:Fn:=⟨3,[],3,fy⟩
noncomputable def gS:S:=
  (.seq (.eT (.loc 1) 59 (.aq (.attr (.loc 0) 66) 68 (.aa (.attr (.loc 1) 57) .af)))
  (.seq (.eT (.loc 1) 50 (.call 42 (.aa (.attr (.loc 0) 32) (.aa (.attr (.loc 1) 59) .af))))
  (.seq (.asg 2 (.call 41 (.aa (.attr (.loc 0) 32) (.aa (.attr (.loc 1) 59) .af))))
  (.loop (.one 3) (.loc 2) (.eS (.attr (.loc 1) 47) (.loc 3) (.aq (.loc 0) 69 (.aa (.sub (.loc 2) (.loc 3)) (.aa (.loc 3) .af))))))))
noncomputable def eN:Fn:=⟨2,[],4,gS⟩
noncomputable def iw:S:=
  (.seq (.ex (.aq (.loc 0) 69 (.aa (.aa (.aq (.attr (.loc 0) 32) 56 (.aa (.lit (.int 0)) (.aa (.lit (.int 0)) .af))) .af) (.aa (.glob 3 (.int (-1))) .af))))
  (.seq (.asg 1 (.lit (.int 0)))
  (.seq (.dd (.cmp .lt (.loc 1) (.bi .len (.aa (.attr (.loc 0) 46) .af))) (.seq (.ex (.aq (.loc 0) 70 (.aa (.sub (.attr (.loc 0) 46) (.loc 1)) .af)))
  (.asg 1 (.bin .add (.loc 1) (.lit (.int 1))))))
  (.ret (.bP (.new 7 (.aa (.attr (.loc 0) 32) (.aa (.attr (.loc 0) 46) .af))))))))
noncomputable def fe:Fn:=⟨1,[],2,iw⟩
noncomputable def xD:S:=
  (.ret (.aq (.cell (.new 8 (.aa (.loc 0) .af))) 71 .af))
noncomputable def rW:Fn:=⟨1,[],1,xD⟩
noncomputable def iA:S:=
  (.seq (.aY 2 (.list .af))
  (.seq (.loop (.two 3 4) (.loc 1) (.seq (.asg 5 (.bin .add (.bin .add (.bin .add (.bin .add (.lit (.str [83,116,97,116,101,32])) (.bi .str (.aa (.attr (.loc 3) 72) .af))) (.lit (.str [58,32]))) (.attr (.loc 3) 73)) (.lit (.str [32,99,111,110,102,108,105,99,116,32,111,110,32,116,111,107,101,110,32]))))
  (.seq (.mO 2 0 (.aa (.bin .add (.loc 5) (.sub (.attr (.loc 0) 19) (.attr (.loc 3) 54))) .af))
  (.loop (.one 6) (.loc 4) (.seq (.asg 7 (.aq (.loc 0) 65 (.aa (.attr (.loc 6) 56) .af)))
  (.seq (.mO 2 0 (.aa (.bin .add (.lit (.str [32,32,32,32])) (.aq (.loc 6) 74 (.aa (.loc 0) .af))) .af))
  (.mO 2 0 (.aa (.bin .add (.bin .add (.bin .add (.lit (.str [32,32,32,32,32,32])) (.bi .str (.aa (.loc 7) .af))) (.lit (.str [32]))) (.call 13 (.aa (.loc 0) (.aa (.loc 7) (.aa (.aq (.loc 0) 64 (.aa (.attr (.loc 6) 56) .af)) .af))))) .af))))))))
  (.seq (.fz 2)
  (.ret (.loc 2)))))
noncomputable def dH:Fn:=⟨2,[],8,iA⟩
noncomputable def mY:S:=
  (.seq (.aB 75 (.loc 1))
  (.seq (.aB 76 (.loc 2))
  (.aB 77 (.bi .list (.aa (.loc 3) .af)))))
noncomputable def iU:Fn:=⟨4,[],4,mY⟩
noncomputable def oq:S:=
  (.ret (.lit (.bool false)))
noncomputable def jx:Fn:=⟨1,[],1,oq⟩
noncomputable def nJ:S:=
  (.seq (.aY 1 (.list .af))
  (.seq (.loop (.one 2) (.call 56 (.aa (.loc 0) .af)) (.ite (.aq (.loc 2) 78 .af) (.mO 1 0 (.aa (.aq (.attr (.loc 2) 79) 80 .af) .af)) (.seq (.asg 3 (.bin .sub (.cM 1) (.bi .len (.aa (.attr (.loc 2) 77) .af))))
  (.seq (.fz 1)
  (.aY 1 (.bin .add (.dY (.loc 1) (.loc 3)) (.list (.aa (.bin .add (.aa (.attr (.loc 2) 75) .af) (.bi .tuple (.aa (.aW (.loc 1) (.loc 3)) .af))) .af))))))))
  (.ret (.aH 1 (.lit (.int 0))))))
noncomputable def jv:Fn:=⟨1,[],4,nJ⟩
noncomputable def ub:S:=
  (.seq (.aB 75 (.attr (.loc 1) 8))
  (.seq (.aB 76 (.lit (.int 0)))
  (.seq (.aB 77 (.list .af))
  (.aB 79 (.loc 1)))))
noncomputable def mU:Fn:=⟨2,[],2,ub⟩
noncomputable def pE:S:=
  (.ret (.lit (.bool true)))
noncomputable def jC:Fn:=⟨1,[],1,pE⟩
noncomputable def mW:S:=
  (.seq (.aY 1 (.list .af))
  (.seq (.aY 2 (.list (.aa (.loc 0) .af)))
  (.seq (.dd (.zV 2) (.seq (.iY 3 2 3 .af)
  (.seq (.mO 1 0 (.aa (.loc 3) .af))
  (.loop (.one 4) (.attr (.loc 3) 77) (.mO 2 0 (.aa (.loc 4) .af))))))
  (.seq (.fz 1)
  (.ret (.fR (.loc 1)))))))
noncomputable def jz:Fn:=⟨1,[],5,mW⟩
noncomputable def nR:S:=
  (.seq (.aB 72 (.loc 1))
  (.seq (.aB 54 (.loc 2))
  (.seq (.aB 73 (.loc 3))
  (.seq (.aB 21 (.loc 4))
  (.aB 81 (.loc 5))))))
noncomputable def iC:Fn:=⟨6,[],6,nR⟩
noncomputable def rj:S:=
  (.seq (.asg 1 (.call 17 (.aa (.loc 0) .af)))
  (.seq (.aY 2 .bN)
  (.seq (.loop (.one 3) (.bi .range (.aa (.attr (.loc 0) 20) (.aa (.aq (.loc 0) 29 .af) .af))) (.aP 2 (.loc 3) (.cell .bN)))
  (.seq (.loop (.one 4) (.attr (.loc 0) 21) (.seq (.asg 5 (.bQ (.loc 10) (.one 10) (.attr (.loc 4) 14) (.not (.sub (.loc 1) (.loc 10)))))
  (.loop (.one 3) (.attr (.loc 4) 14) (.seq (.asg 6 (.ite (.sub (.loc 1) (.loc 3)) (.bi .len (.aa (.loc 5) .af)) (.bin .sub (.bi .len (.aa (.loc 5) .af)) (.lit (.int 1)))))
  (.ite (.and (.cmp .eq (.loc 6) (.lit (.int 0))) (.not (.aq (.loc 0) 48 (.aa (.loc 3) .af)))) (.eS (.aH 2 (.attr (.loc 4) 13)) (.loc 3) (.lit (.bool true))) S.skip)))))
  (.seq (.aY 7 (.list .af))
  (.seq (.aY 8 .bN)
  (.seq (.Bj 2)
  (.seq (.dd (.cmp .lt (.cM 7) (.bi .len (.aa (.loc 2) .af))) (.seq (.asg 9 (.cM 7))
  (.seq (.loop (.one 3) (.loc 2) (.ite (.and (.bX true (.loc 3) 8) (.cmp .eq (.bQ (.loc 11) (.one 11) (.sub (.loc 2) (.loc 3)) (.bX true (.loc 11) 8)) (.list .af))) (.seq (.aP 8 (.loc 3) (.lit (.bool true)))
  (.mO 7 0 (.aa (.loc 3) .af))) S.skip))
  (.ite (.cmp .eq (.cM 7) (.loc 9)) S.stop S.skip))))
  (.seq (.fz 7)
  (.ret (.loc 7)))))))))))
noncomputable def sV:Fn:=⟨1,[],12,rj⟩
noncomputable def tK:S:=
  (.seq (.asg 7 (.iD (.loc 3) (.list (.aa .af .af))))
  (.seq (.loop (.one 8) (.loc 1) (.seq (.aY 9 .bN)
  (.seq (.loop (.one 10) (.bi .sorted (.aa (.loc 7) .af)) (.seq (.aY 11 (.list .af))
  (.seq (.ite (.and (.cmp .lt (.loc 10) (.loc 4)) (.cmp .eq (.sub (.loc 2) (.loc 10)) (.loc 8))) (.seq (.asg 12 (.sub (.attr (.loc 0) 19) (.loc 8)))
  (.mO 11 0 (.aa (.aa (.bin .add (.loc 10) (.lit (.int 1))) (.aa (.list (.aa (.new 10 (.aa (.new 0 (.aa (.loc 12) (.aa (.loc 12) (.aa (.lit .none) .af)))) .af)) .af)) .af)) .af))) S.skip)
  (.seq (.loop (.one 13) (.bi .range (.aa (.loc 10) (.aa (.bin .add (.loc 4) (.lit (.int 1))) .af))) (.ite (.cmp .mem (.aa (.loc 8) (.aa (.loc 10) (.aa (.loc 13) .af))) (.loc 5)) (.mO 11 0 (.aa (.aa (.loc 13) (.aa (.sub (.loc 5) (.aa (.loc 8) (.aa (.loc 10) (.aa (.loc 13) .af)))) .af)) .af)) S.skip))
  (.seq (.fz 11)
  (.loop (.two 13 14) (.loc 11) (.seq (.iY 15 9 6 (.aa (.loc 13) (.aa (.cell (.list .af)) .af)))
  (.loop (.one 16) (.sub (.loc 7) (.loc 10)) (.loop (.one 17) (.loc 14) (.ite (.cmp .lt (.bi .len (.aa (.loc 15) .af)) (.loc 6)) (.ex (.aq (.loc 15) 0 (.aa (.bin .add (.loc 16) (.aa (.loc 17) .af)) .af))) S.skip))))))))))
  (.seq (.Bj 9)
  (.asg 7 (.loc 9))))))
  (.ret (.aq (.loc 7) 5 (.aa (.loc 4) (.aa (.list .af) .af))))))
noncomputable def ug:Fn:=⟨7,[],18,tK⟩
noncomputable def wd:S:=
  (.seq (.asg 3 (.call 58 (.aa (.loc 0) .af)))
  (.seq (.asg 4 (.cell .bN))
  (.seq (.loop (.one 5) (.bi .range (.aa (.bin .add (.bi .len (.aa (.loc 1) .af)) (.lit (.int 1))) .af)) (.loop (.one 6) (.bi .range (.aa (.bin .sub (.bin .add (.bi .len (.aa (.loc 1) .af)) (.lit (.int 1))) (.loc 5)) .af)) (.loop (.one 7) (.loc 3) (.seq (.aY 8 (.list .af))
  (.seq (.loop (.one 9) (.aq (.loc 0) 51 (.aa (.loc 7) .af)) (.seq (.asg 10 (.attr (.sub (.attr (.loc 0) 21) (.loc 9)) 14))
  (.loop (.one 11) (.call 59 (.aa (.loc 0) (.aa (.loc 10) (.aa (.loc 1) (.aa (.loc 6) (.aa (.bin .add (.loc 6) (.loc 5)) (.aa (.loc 4) (.aa (.loc 2) .af)))))))) (.mO 8 0 (.aa (.new 9 (.aa (.sub (.attr (.loc 0) 19) (.loc 7)) (.aa (.loc 9) (.aa (.bi .list (.aa (.loc 11) .af)) .af)))) .af)))))
  (.seq (.fz 8)
  (.ite (.cmp .ne (.loc 8) (.list .af)) (.eS (.loc 4) (.aa (.loc 7) (.aa (.loc 6) (.aa (.bin .add (.loc 6) (.loc 5)) .af))) (.dY (.loc 8) (.loc 2))) S.skip)))))))
  (.ret (.aq (.loc 4) 5 (.aa (.aa (.sub (.attr (.sub (.attr (.loc 0) 21) (.lit (.int 0))) 14) (.lit (.int 0))) (.aa (.lit (.int 0)) (.aa (.bi .len (.aa (.loc 1) .af)) .af))) (.aa (.list .af) .af)))))))
noncomputable def vF:Fn:=⟨3,[(.int 2)],12,wd⟩
noncomputable def rM:S:=
  (.seq (.asg 4 (.iD .af (.lit (.int 1))))
  (.seq (.loop (.one 5) (.loc 1) (.seq (.aY 6 .bN)
  (.seq (.loop (.one 7) (.loc 4) (.seq (.asg 8 (.bin .sub (.loc 2) (.bi .len (.aa (.loc 7) .af))))
  (.seq (.ite (.aq (.loc 0) 48 (.aa (.loc 5) .af)) (.seq (.ite (.cmp .gt (.loc 8) (.lit (.int 0))) (.seq (.asg 9 (.bin .add (.loc 7) (.aa (.loc 5) .af)))
  (.aP 6 (.loc 9) (.bin .add (.vM 6 (.aa (.loc 9) (.aa (.lit (.int 0)) .af))) (.sub (.loc 4) (.loc 7))))) S.skip)
  S.cont) S.skip)
  (.loop (.one 10) (.bi .range (.aa (.bin .add (.loc 8) (.lit (.int 1))) .af)) (.seq (.asg 11 (.aq (.loc 3) 5 (.aa (.aa (.loc 5) (.aa (.loc 10) .af)) (.aa .bN .af))))
  (.loop (.one 12) (.loc 11) (.seq (.asg 9 (.bin .add (.loc 7) (.loc 12)))
  (.aP 6 (.loc 9) (.bin .add (.vM 6 (.aa (.loc 9) (.aa (.lit (.int 0)) .af))) (.bin .mul (.sub (.loc 4) (.loc 7)) (.sub (.loc 11) (.loc 12))))))))))))
  (.seq (.fz 6)
  (.asg 4 (.loc 6))))))
  (.ret (.kY (.loc 13) (.sub (.loc 4) (.loc 13)) (.one 13) (.loc 4) (.cmp .eq (.bi .len (.aa (.loc 13) .af)) (.loc 2))))))
noncomputable def sM:Fn:=⟨4,[],14,rM⟩
noncomputable def qm:S:=
  (.seq (.asg 2 (.call 58 (.aa (.loc 0) .af)))
  (.seq (.asg 3 (.cell .bN))
  (.seq (.loop (.one 4) (.bi .range (.aa (.bin .add (.loc 1) (.lit (.int 1))) .af)) (.loop (.one 5) (.loc 2) (.seq (.aY 6 .bN)
  (.seq (.loop (.one 7) (.aq (.loc 0) 51 (.aa (.loc 5) .af)) (.seq (.asg 8 (.call 61 (.aa (.loc 0) (.aa (.attr (.sub (.attr (.loc 0) 21) (.loc 7)) 14) (.aa (.loc 4) (.aa (.loc 3) .af))))))
  (.loop (.one 9) (.loc 8) (.aP 6 (.loc 9) (.bin .add (.vM 6 (.aa (.loc 9) (.aa (.lit (.int 0)) .af))) (.sub (.loc 8) (.loc 9)))))))
  (.seq (.fz 6)
  (.eS (.loc 3) (.aa (.loc 5) (.aa (.loc 4) .af)) (.loc 6)))))))
  (.seq (.asg 10 (.sub (.attr (.sub (.attr (.loc 0) 21) (.lit (.int 0))) 14) (.lit (.int 0))))
  (.ret (.aM (.sub (.loc 3) (.aa (.loc 10) (.aa (.loc 11) .af))) (.one 11) (.bi .range (.aa (.bin .add (.loc 1) (.lit (.int 1))) .af))))))))
noncomputable def qk:Fn:=⟨2,[],12,qm⟩
noncomputable def mn:S:=
  (.seq (.loop (.one 2) (.call 62 (.aa (.loc 0) (.aa (.loc 1) .af))) (.loop (.one 3) (.bi .sorted (.aa (.loc 2) .af)) (.ite (.cmp .gt (.sub (.loc 2) (.loc 3)) (.lit (.int 1))) (.seq (.md [4,5] (.call 60 (.aa (.loc 0) (.aa (.loc 3) (.aa (.lit (.int 2)) .af)))))
  (.ret (.aa (.loc 3) (.aa (.loc 4) (.aa (.loc 5) .af))))) S.skip)))
  (.ret (.lit .none)))
noncomputable def mA:Fn:=⟨2,[],6,mn⟩
noncomputable def iP:S:=
  (.seq (.ite (.and (.cmp .eq (.bi .len (.aa (.loc 0) .af)) (.lit (.int 2))) (.isStr (.sub (.loc 0) (.lit (.int 1))))) (.ret (.sub (.loc 0) (.lit (.int 1)))) S.skip)
  (.ret (.bin .add (.bin .add (.lit (.str [40])) (.aq (.lit (.str [32])) 7 (.aa (.bin .add (.list (.aa (.sub (.loc 0) (.lit (.int 0))) .af)) (.aM (.call 64 (.aa (.loc 1) .af)) (.one 1) (.aW (.loc 0) (.lit (.int 1))))) .af))) (.lit (.str [41])))))
noncomputable def eZ:Fn:=⟨1,[],2,iP⟩
noncomputable def mN:S:=
  (.seq (.asg 2 (.call 63 (.aa (.loc 0) (.aa (.loc 1) .af))))
  (.seq (.ite (.cmp .is (.loc 2) (.lit .none)) (.ret (.lit (.str []))) S.skip)
  (.seq (.md [3,4,5] (.loc 2))
  (.seq (.asg 6 (.aM (.sub (.attr (.loc 0) 19) (.loc 7)) (.one 7) (.loc 3)))
  (.ret (.aq (.lit (.str [10])) 7 (.aa (.list (.aa (.aq (.lit (.str [32])) 7 (.aa (.loc 6) .af)) (.aa (.bin .add (.lit (.str [32,32,32,32])) (.call 64 (.aa (.aq (.loc 4) 80 .af) .af))) (.aa (.bin .add (.lit (.str [32,32,32,32])) (.call 64 (.aa (.aq (.loc 5) 80 .af) .af))) .af)))) .af)))))))
noncomputable def mm:Fn:=⟨2,[],8,mN⟩
noncomputable def oM:S:=
  (.ret (.cell (.list (.aa (.bi .list (.aa (.dY (.loc 0) (.lit (.int 24))) .af)) (.aa (.lit (.int 0)) (.aa (.lit (.int 0)) .af))))))
noncomputable def kq:Fn:=⟨1,[],1,oM⟩
noncomputable def mX:S:=
  (.seq (.ite (.cmp .gt (.sub (.loc 0) (.lit (.int 2))) (.lit (.int 0))) (.seq (.asg 2 (.bin .mod (.sub (.loc 0) (.lit (.int 2))) (.loc 1)))
  (.seq (.eS (.loc 0) (.lit (.int 2)) (.bin .fdiv (.sub (.loc 0) (.lit (.int 2))) (.loc 1)))
  (.ret (.loc 2)))) S.skip)
  (.seq (.asg 3 (.sub (.loc 0) (.lit (.int 1))))
  (.seq (.eS (.loc 0) (.lit (.int 1)) (.bin .add (.loc 3) (.lit (.int 1))))
  (.seq (.asg 4 (.bin .add (.bin .mul (.lit (.int 8443)) (.loc 3)) (.lit (.int 3607))))
  (.seq (.ite (.cmp .gt (.bi .len (.aa (.sub (.loc 0) (.lit (.int 0))) .af)) (.lit (.int 0))) (.asg 4 (.sub (.sub (.loc 0) (.lit (.int 0))) (.bin .mod (.loc 3) (.bi .len (.aa (.sub (.loc 0) (.lit (.int 0))) .af))))) S.skip)
  (.seq (.ite (.and (.cmp .lt (.loc 3) (.bi .len (.aa (.sub (.loc 0) (.lit (.int 0))) .af))) (.cmp .ge (.bi .abs (.aa (.loc 4) .af)) (.bin .pow (.lit (.int 10)) (.lit (.int 18))))) (.seq (.eS (.loc 0) (.lit (.int 2)) (.bin .add (.bin .mul (.lit (.int 2)) (.bin .sub (.bi .abs (.aa (.loc 4) .af)) (.bin .pow (.lit (.int 10)) (.lit (.int 18))))) (.bi .int (.aa (.cmp .lt (.loc 4) (.lit (.int 0))) .af))))
  (.seq (.asg 2 (.bin .mod (.sub (.loc 0) (.lit (.int 2))) (.loc 1)))
  (.seq (.eS (.loc 0) (.lit (.int 2)) (.bin .fdiv (.sub (.loc 0) (.lit (.int 2))) (.loc 1)))
  (.ret (.loc 2))))) S.skip)
  (.seq (.asg 5 (.bin .mod (.bin .pow (.bin .add (.bin .add (.bin .mod (.loc 4) (.lit (.int 2147483579))) (.bin .mul (.lit (.int 91939)) (.loc 3))) (.lit (.int 5741))) (.lit (.int 3))) (.lit (.int 2147483647))))
  (.seq (.asg 5 (.bin .mod (.bin .pow (.bin .add (.bin .add (.bin .mul (.loc 5) (.bin .add (.bin .mul (.lit (.int 2)) (.loc 3)) (.lit (.int 373)))) (.bin .mul (.lit (.int 66877)) (.loc 3))) (.lit (.int 4931))) (.lit (.int 3))) (.lit (.int 2147483629))))
  (.ret (.bin .mod (.bin .fdiv (.loc 5) (.lit (.int 32))) (.loc 1)))))))))))
noncomputable def jm:Fn:=⟨2,[],6,mX⟩
noncomputable def lU:S:=
  (.seq (.aY 1 (.list (.aa (.aa (.lit (.str [115])) (.aa (.list (.aa (.lit (.str [97])) .af)) .af)) (.aa (.aa (.lit (.str [116])) (.aa (.sub (.list (.aa (.list (.aa (.lit (.str [98])) .af)) (.aa (.list .af) .af))) (.call 67 (.aa (.loc 0) (.aa (.lit (.int 2)) .af)))) .af)) .af))))
  (.seq (.loop (.one 2) (.bi .range (.aa (.call 67 (.aa (.loc 0) (.aa (.lit (.int 4)) .af))) .af)) (.seq (.asg 3 (.aM (.sub (.list (.aa (.lit (.str [97])) (.aa (.lit (.str [98])) (.aa (.lit (.str [115])) (.aa (.lit (.str [116])) .af))))) (.call 67 (.aa (.loc 0) (.aa (.lit (.int 4)) .af)))) (.one 4) (.bi .range (.aa (.bin .add (.lit (.int 2)) (.call 67 (.aa (.loc 0) (.aa (.lit (.int 2)) .af)))) .af))))
  (.mO 1 0 (.aa (.aa (.sub (.list (.aa (.lit (.str [115])) (.aa (.lit (.str [116])) .af))) (.call 67 (.aa (.loc 0) (.aa (.lit (.int 2)) .af)))) (.aa (.bin .add (.loc 3) (.dY (.list (.aa (.lit (.str [97])) .af)) (.call 67 (.aa (.loc 0) (.aa (.lit (.int 2)) .af))))) .af)) .af))))
  (.seq (.fz 1)
  (.ret (.loc 1)))))
noncomputable def iu:Fn:=⟨1,[],5,lU⟩
noncomputable def nh:S:=
  (.seq (.md [3,4] (.sub (.bin .add (.list (.aa (.aa (.lit (.str [36,97,99,99,101,112,116])) (.aa (.list (.aa (.lit (.str [115])) (.aa (.lit (.str [36,101,110,100])) .af))) .af)) .af)) (.loc 0)) (.loc 1)))
  (.seq (.asg 5 (.bi .list (.aa (.loc 4) .af)))
  (.seq (.ite (.cmp .ge (.loc 2) (.lit (.int 0))) (.asg 5 (.bin .add (.bin .add (.dY (.loc 5) (.loc 2)) (.list (.aa (.lit (.str [46])) .af))) (.aW (.loc 5) (.loc 2)))) S.skip)
  (.ret (.bin .add (.bin .add (.loc 3) (.lit (.str [32,58,32]))) (.aq (.lit (.str [32])) 7 (.aa (.loc 5) .af)))))))
noncomputable def jn:Fn:=⟨3,[],6,nh⟩
noncomputable def fO:S:=
  (.seq (.asg 3 (.attr (.attr (.loc 2) 32) 19))
  (.seq (.md [4,5] (.aa (.cell .bN) (.aa (.cell (.list .af)) .af)))
  (.seq (.loop (.one 6) (.attr (.loc 2) 46) (.loop (.one 7) (.attr (.loc 6) 50) (.seq (.asg 8 (.bQ (.loc 12) (.one 12) (.bi .range (.aa (.attr (.attr (.loc 2) 32) 20) .af)) (.cmp .gt (.call 67 (.aa (.loc 0) (.aa (.lit (.int 2)) .af))) (.lit (.int 0)))))
  (.seq (.eS (.loc 4) (.aa (.attr (.loc 6) 12) (.aa (.loc 7) .af)) (.bi .sum (.aa (.aM (.bin .shl (.lit (.int 1)) (.loc 13)) (.one 13) (.loc 8)) .af)))
  (.seq (.asg 9 (.aq (.lit (.str [44,32])) 7 (.aa (.aM (.sub (.loc 3) (.loc 14)) (.one 14) (.loc 8)) .af)))
  (.ex (.aq (.loc 5) 0 (.aa (.bin .add (.bin .add (.bin .add (.bin .add (.bin .add (.bi .str (.aa (.attr (.loc 6) 12) .af)) (.lit (.str [32]))) (.call 69 (.aa (.loc 1) (.aa (.loc 7) (.aa (.neg (.lit (.int 1))) .af))))) (.lit (.str [32,91]))) (.loc 9)) (.lit (.str [93]))) .af))))))))
  (.seq (.Bj 4)
  (.seq (.aY 10 .bN)
  (.seq (.loop (.one 11) (.fR (.bi .sorted (.aa (.loc 4) .af))) (.aP 10 (.loc 11) (.sub (.loc 4) (.loc 11))))
  (.seq (.Bj 5)
  (.seq (.fz 10)
  (.ret (.cmp .eq (.call 31 (.aa (.loc 2) (.aa (.loc 10) .af))) (.loc 5)))))))))))
noncomputable def dJ:Fn:=⟨3,[],15,fO⟩
noncomputable def fB:S:=
  (.seq (.asg 3 (.bP (.qr 3 (.aa (.loc 2) .af))))
  (.seq (.asg 4 (.attr (.attr (.loc 2) 32) 19))
  (.seq (.asg 5 (.aM (.bin .add (.bin .add (.sub (.loc 4) (.loc 13)) (.lit (.str [32,105,110,32,115,116,97,116,101,32]))) (.bi .str (.aa (.loc 12) .af))) (.two 12 13) (.attr (.loc 3) 33)))
  (.seq (.ite (.cmp .ne (.aM (.call 30 (.aa (.loc 3) (.aa (.loc 14) .af))) (.one 14) (.bi .range (.aa (.bi .len (.aa (.loc 5) .af)) .af))) (.loc 5)) (.ret (.lit (.bool false))) S.skip)
  (.seq (.loop (.one 6) (.attr (.loc 2) 46) (.loop (.one 7) (.attr (.loc 6) 50) (.seq (.asg 8 (.sub (.list (.aa (.lit (.int 0)) (.aa (.lit (.int 3)) (.aa (.bin .sub (.attr (.attr (.loc 2) 32) 20) (.lit (.int 1))) .af)))) (.call 67 (.aa (.loc 0) (.aa (.lit (.int 3)) .af)))))
  (.seq (.asg 9 (.call 27 (.aa (.loc 3) (.aa (.attr (.loc 6) 12) (.aa (.loc 7) (.aa (.loc 8) .af))))))
  (.seq (.aY 10 (.list .af))
  (.seq (.ite (.cmp .pG (.loc 9) (.lit .none)) (.seq (.asg 11 (.sub (.sub (.bin .add (.list (.aa (.aa (.lit (.str [36,97,99,99,101,112,116])) (.aa (.list (.aa (.lit (.str [115])) (.aa (.lit (.str [36,101,110,100])) .af))) .af)) .af)) (.loc 1)) (.loc 7)) (.lit (.int 1))))
  (.seq (.mO 10 0 (.aa (.bin .add (.bin .add (.bin .add (.lit (.str [105,110,32,115,116,97,116,101,32])) (.bi .str (.aa (.attr (.loc 6) 12) .af))) (.lit (.str [58,32]))) (.call 69 (.aa (.loc 1) (.aa (.loc 7) (.aa (.bi .len (.aa (.loc 11) .af)) .af))))) .af))
  (.seq (.mO 10 0 (.aa (.bin .add (.lit (.str [103,111,101,115,32,98,97,99,107,32,116,111,32])) (.sub (.loc 5) (.sub (.sub (.loc 9) (.lit (.int 0))) (.lit (.int 0))))) .af))
  (.seq (.mO 10 2 (.aa (.aM (.bin .add (.lit (.str [101,110,100,115,32,116,104,101,32,114,117,108,101,32,111,102,32])) (.sub (.loc 5) (.loc 15))) (.one 15) (.aW (.sub (.loc 9) (.lit (.int 0))) (.lit (.int 1)))) .af))
  (.seq (.mO 10 2 (.aa (.aM (.bin .add (.lit (.str [112,97,115,115,101,115,32,116,104,101,32,101,109,112,116,121,32])) (.sub (.loc 5) (.loc 16))) (.one 16) (.aW (.sub (.loc 9) (.lit (.int 1))) (.lit (.int 1)))) .af))
  (.mO 10 0 (.aa (.bin .add (.lit (.str [115,104,105,102,116,115,32])) (.sub (.loc 4) (.loc 8))) .af))))))) S.skip)
  (.seq (.fz 10)
  (.ite (.cmp .ne (.call 29 (.aa (.loc 3) (.aa (.attr (.loc 6) 12) (.aa (.loc 7) (.aa (.loc 8) .af))))) (.loc 10)) (.ret (.lit (.bool false))) S.skip))))))))
  (.ret (.lit (.bool true))))))))
noncomputable def dw:Fn:=⟨3,[],17,fB⟩
noncomputable def eH:S:=
  (.seq (.asg 3 (.attr (.loc 2) 19))
  (.seq (.asg 4 (.list (.aa (.lit (.int 3)) (.aa (.aq (.loc 2) 12 (.aa (.lit (.str [115])) .af)) (.aa (.aq (.loc 2) 12 (.aa (.lit (.str [116])) .af)) .af)))))
  (.seq (.asg 5 (.new 11 (.aa (.call 67 (.aa (.loc 0) (.aa (.lit (.int 9)) .af))) (.aa (.lit (.int 3)) (.aa (.sub (.list (.aa (.lit (.str [115,104,105,102,116,47,114,101,100,117,99,101])) (.aa (.lit (.str [114,101,100,117,99,101,47,114,101,100,117,99,101])) .af))) (.call 67 (.aa (.loc 0) (.aa (.lit (.int 2)) .af)))) (.aa (.aa (.lit (.int 1)) (.aa (.lit (.int 2)) .af)) (.aa (.neg (.lit (.int 1))) .af)))))))
  (.seq (.aY 6 (.list (.aa (.bin .add (.bin .add (.bin .add (.bin .add (.lit (.str [83,116,97,116,101,32])) (.bi .str (.aa (.attr (.loc 5) 72) .af))) (.lit (.str [58,32]))) (.attr (.loc 5) 73)) (.lit (.str [32,99,111,110,102,108,105,99,116,32,111,110,32,116,111,107,101,110,32,97]))) .af)))
  (.seq (.aY 7 (.list .af))
  (.seq (.loop (.one 8) (.bi .range (.aa (.call 67 (.aa (.loc 0) (.aa (.lit (.int 3)) .af))) .af)) (.seq (.asg 9 (.bi .tuple (.aa (.aM (.sub (.loc 4) (.call 67 (.aa (.loc 0) (.aa (.lit (.int 3)) .af)))) (.one 14) (.bi .range (.aa (.call 67 (.aa (.loc 0) (.aa (.lit (.int 3)) .af))) .af))) .af)))
  (.seq (.asg 10 (.bi .tuple (.aa (.aM (.sub (.loc 4) (.call 67 (.aa (.loc 0) (.aa (.lit (.int 3)) .af)))) (.one 15) (.bi .range (.aa (.call 67 (.aa (.loc 0) (.aa (.lit (.int 3)) .af))) .af))) .af)))
  (.seq (.asg 11 (.call 67 (.aa (.loc 0) (.aa (.attr (.loc 2) 28) .af))))
  (.seq (.mO 7 0 (.aa (.new 4 (.aa (.loc 9) (.aa (.lit (.int 3)) (.aa (.loc 10) (.aa (.loc 11) .af))))) .af))
  (.seq (.asg 12 (.bin .add (.bin .add (.aM (.sub (.loc 3) (.loc 16)) (.one 16) (.loc 9)) (.list (.aa (.lit (.str [46])) (.aa (.lit (.str [97])) .af)))) (.aM (.sub (.loc 3) (.loc 17)) (.one 17) (.loc 10))))
  (.seq (.asg 13 (.aq (.loc 2) 65 (.aa (.loc 11) .af)))
  (.mO 6 2 (.aa (.list (.aa (.bin .add (.lit (.str [32,32,32,32])) (.aq (.lit (.str [32])) 7 (.aa (.loc 12) .af))) (.aa (.bin .add (.bin .add (.bin .add (.lit (.str [32,32,32,32,32,32])) (.bi .str (.aa (.loc 13) .af))) (.lit (.str [32]))) (.call 69 (.aa (.loc 1) (.aa (.loc 13) (.aa (.aq (.loc 2) 64 (.aa (.loc 11) .af)) .af))))) .af))) .af)))))))))
  (.seq (.fz 6)
  (.seq (.fz 7)
  (.ret (.and (.cmp .eq (.call 50 (.aa (.loc 2) (.aa (.list (.aa (.aa (.loc 5) (.aa (.loc 7) .af)) .af)) .af))) (.loc 6)) (.cmp .eq (.call 50 (.aa (.loc 2) (.aa (.list .af) .af))) (.list .af))))))))))))
noncomputable def cD:Fn:=⟨3,[],18,eH⟩
noncomputable def jo:S:=
  (.seq (.ite (.or (.cmp .eq (.loc 1) (.lit (.int 0))) (.cmp .eq (.call 67 (.aa (.loc 0) (.aa (.lit (.int 3)) .af))) (.lit (.int 0)))) (.seq (.asg 2 (.sub (.list (.aa (.lit (.str [97])) (.aa (.lit (.str [43])) (.aa (.lit (.str [120,49])) .af)))) (.call 67 (.aa (.loc 0) (.aa (.lit (.int 3)) .af)))))
  (.ret (.aa (.new 10 (.aa (.new 0 (.aa (.sub (.list (.aa (.lit (.str [65])) (.aa (.lit (.str [97])) .af))) (.call 67 (.aa (.loc 0) (.aa (.lit (.int 2)) .af)))) (.aa (.loc 2) (.aa (.lit .none) .af)))) .af)) (.aa (.loc 2) .af)))) S.skip)
  (.seq (.asg 3 (.aM (.call 73 (.aa (.loc 0) (.aa (.bin .sub (.loc 1) (.lit (.int 1))) .af))) (.one 5) (.bi .range (.aa (.bin .add (.lit (.int 2)) (.call 67 (.aa (.loc 0) (.aa (.lit (.int 2)) .af)))) .af))))
  (.seq (.asg 4 (.new 9 (.aa (.lit (.str [101])) (.aa (.lit (.int 1)) (.aa (.aM (.loc 6) (.two 6 7) (.loc 3)) .af)))))
  (.ret (.aa (.loc 4) (.aa (.bin .add (.bin .add (.lit (.str [40,101,32])) (.aq (.lit (.str [32])) 7 (.aa (.aM (.loc 9) (.two 8 9) (.loc 3)) .af))) (.lit (.str [41]))) .af))))))
noncomputable def eW:Fn:=⟨2,[],10,jo⟩
noncomputable def IE:S:=
  (.seq (.asg 1 (.call 66 (.aa (.loc 0) .af)))
  (.seq (.asg 2 (.call 68 (.aa (.loc 1) .af)))
  (.seq (.asg 3 (.call 15 (.aa (.loc 2) .af)))
  (.seq (.asg 4 (.call 49 (.aa (.loc 3) .af)))
  (.seq (.ite (.or (.not (.call 70 (.aa (.loc 1) (.aa (.loc 2) (.aa (.loc 4) .af))))) (.not (.call 71 (.aa (.loc 1) (.aa (.loc 2) (.aa (.loc 4) .af)))))) (.ret (.lit (.bool false))) S.skip)
  (.seq (.md [5,6] (.call 73 (.aa (.loc 1) (.aa (.lit (.int 3)) .af))))
  (.seq (.ite (.or (.not (.call 72 (.aa (.loc 1) (.aa (.loc 2) (.aa (.loc 3) .af))))) (.cmp .ne (.call 64 (.aa (.aq (.loc 5) 80 .af) .af)) (.loc 6))) (.ret (.lit (.bool false))) S.skip)
  (.seq (.asg 7 (.list (.aa (.aa (.lit (.str [115])) (.aa (.list (.aa (.lit (.str [115])) (.aa (.lit (.str [115])) .af))) .af)) (.aa (.aa (.lit (.str [115])) (.aa (.list (.aa (.lit (.str [97])) .af)) .af)) .af))))
  (.seq (.ite (.cmp .ne (.iso 7 (.call 65 (.aa (.call 15 (.aa (.loc 7) .af)) (.aa (.lit (.int 3)) .af)))) (.lit (.str [97,32,97,32,97,10,32,32,32,32,40,115,32,40,115,32,40,115,32,97,41,32,40,115,32,97,41,41,32,40,115,32,97,41,41,10,32,32,32,32,40,115,32,40,115,32,97,41,32,40,115,32,40,115,32,97,41,32,40,115,32,97,41,41,41]))) (.ite (.cmp .ne (.iso 7 (.call 65 (.aa (.call 15 (.aa (.loc 7) .af)) (.aa (.lit (.int 3)) .af)))) (.lit (.str [97,32,97,32,97,10,32,32,32,32,40,115,32,40,115,32,97,41,32,40,115,32,40,115,32,97,41,32,40,115,32,97,41,41,41,10,32,32,32,32,40,115,32,40,115,32,40,115,32,97,41,32,40,115,32,97,41,41,32,40,115,32,97,41,41]))) (.ret (.lit (.bool false))) S.skip) S.skip)
  (.seq (.asg 8 (.iso 7 (.call 63 (.aa (.call 15 (.aa (.loc 7) .af)) (.aa (.lit (.int 3)) .af)))))
  (.ret (.and (.cmp .eq (.bi .len (.aa (.sub (.loc 8) (.lit (.int 0))) .af)) (.lit (.int 3))) (.cmp .eq (.iso 7 (.call 65 (.aa (.call 15 (.aa (.loc 7) .af)) (.aa (.lit (.int 2)) .af)))) (.lit (.str [])))))))))))))))
noncomputable def Ep:Fn:=⟨1,[],9,IE⟩
noncomputable def slotNames:List (List String):=[["self","kind","text","at","worth"],["self"],["mask","found","at","left"],["self","number","left","right","level_of","action","line","before"],["self","names","terminal_count","rules","levels","expect","start","rule"],["self"],["self","symbol"],["self","name"],["self","symbol"],["self","rule","dot"],["self","item"],["self","item"],["self","item","right","dot"],["grammar","number","dot","rule","words"],["right","terminal_count","found","symbol"],["pairs","start","lefts","left","parts","begin","names","name","count","rules","right"],["grammar","known","found","lacking","users","queue","rule","missing","symbol","at","number","left"],["grammar"],["rows","found","middle","one"],["count","relation","masks","result","heights","done","pile","start","frames","frame","x","y","last"],["self","automaton","count"],["self","grammar","state","symbol"],["self","grammar","state","symbol","goal","mask","row","moves","later"],["self","grammar","state","rule","x","first","left","right","ends","at","spot","symbol","inner"],["self","right","spot"],["self","masks","pair","mask","x"],["row","number"],["lookaheads","state","rule","terminal","begins","outward","inward"],["begins","relation","masks","terminal","parents","line","x","at","chain","y"],["lookaheads","state","rule","terminal","grammar","found","outward","inward","lines","spot","word","x"],["lookaheads","x","state","symbol"],["automaton","masks","grammar","lines","state","rule","names"],["self","prefix","terminal","suffix","item"],["self","grammar","names","symbol"],["self","number","kernel","symbol"],["self","symbol"],["self","grammar","rows","rule"],["self","kernel","mask","item","symbol"],["self","kernel","found","symbol","number","item"],["self","kernel"],["grammar","item"],["grammar","items","found","item","symbol","ordered"],["grammar","items","found","item"],["self","grammar","states"],["self","state","symbol"],["self","grammar"],["self","kernel","symbol"],["self","state","behind","symbol"],["self","at"],["grammar"],["grammar","pairs","lines","conflict","examples","head","one","rule"],["self","name","rule","children"],["self"],["self","done","node","start"],["self","token"],["self"],["tree","found","line","node","child"],["self","state","terminal","way","rules","chosen"],["grammar","nullables","needs","symbol","rule","solid","others","order","placed","many"],["grammar","right","word","begin","end","trees","most","reach","symbol","later","spot","ends","name","goal","some","row","ahead","one"],["grammar","word","most","order","trees","length","begin","symbol","found","rule","right","row"],["grammar","right","length","words","reach","symbol","later","ahead","left","longer","many","some","word"],["grammar","length","order","words","many","symbol","found","rule","some","word","start"],["grammar","length","some","word","one","other"],["told"],["grammar","length","found","word","one","other","names"],["script"],["pen","many","digit","spot","cell","mix"],["pen","found","lap","row"],["pairs","number","dot","left","right","words"],["pen","pairs","automaton","names","masks","due","state","number","some","words","behind","key"],["pen","pairs","automaton","looks","names","words","state","number","terminal","found","due","right"],["pen","pairs","ground","names","symbols","conflict","due","some","lap","prefix","suffix","item","words","number"],["pen","deep","text","parts","tree"],["script","pen","pairs","ground","automaton","tree","text","twice","found"]]
noncomputable def sO:List String:=["","","bits","","","","","","","","","","","show_rule","last_terminal","plain_grammar","spread","nullable","transitive","digraph","","","","","","","add_once","trace","shortest_chain","show_trace","show_transition","show_masks","","","","","","","","","advanced","kernels_behind","complete_rules","","","","","","","build","example_lines","","","","","","postorder","","unit_order","rows_over","trees_of","words_over","tree_counts","ambiguous_word","show_told","show_ambiguity","_law_pen","_law_draw","_law_pairs","_law_rule","_law_masks_right","_law_traces_right","_law_examples_right","_law_tree","law"]
noncomputable def wW:List Fn:=[lR,kG,vZ,mT,gc,eo,eG,eO,gh,iQ,gG,gR,fc,gF,fh,fw,oB,ku,ia,mH,ee,ba,bU,bx,cA,bD,jZ,kZ,eQ,dX,eg,iq,jB,fP,jh,fX,gM,ft,gf,fZ,kD,eP,eL,gV,eJ,gi,du,eN,fe,rW,dH,iU,jx,jv,mU,jC,jz,iC,sV,ug,vF,sM,qk,mA,eZ,mm,kq,jm,iu,jn,dJ,dw,cD,eW,Ep]
noncomputable def sg:List (Nat×Nat×Nat):=[(0,80,1),(2,29,5),(2,48,6),(2,12,7),(2,51,8),(2,56,9),(2,65,10),(2,64,11),(2,61,12),(3,34,21),(3,37,22),(3,41,23),(3,52,24),(3,45,25),(4,74,33),(5,49,35),(6,62,37),(6,63,38),(6,68,39),(7,49,44),(8,69,46),(8,70,47),(8,71,48),(9,78,52),(9,80,53),(10,78,55),(10,80,53)]
noncomputable def sC:List Nat:=[0,3,4,20,32,34,36,43,45,51,54,57]
noncomputable def zA:List String:=["append","insert","extend","pop","index","get","setdefault","join","kind","text","at","worth","number","left","right","level_of","action","line","before","names","terminal_count","rules","levels","expect","start","by_left","offsets","owners","item_count","symbol_count","automaton","nullables","grammar","transitions","number_transitions","direct","reads","find_reads","includes","turns","lookback","find_includes","read_masks","follow_masks","masks","joined_masks","states","moves","is_terminal","goto","reductions","rules_of","open_ends","prefix","terminal","suffix","item","kernel","symbol","items","firsts","after","wanted","added","dot_of","rule_of","closer","numbers","close","number_of","expand","built","state","way","show","name","rule","children","is_leaf","token","told","chosen"]
noncomputable def cG:Nat:=82
noncomputable def yx:List (List Nat):=[[80],[],[61,64,48,56,12,65,51,29],[41,37,45,34,52],[74,80],[49],[63,68,62],[49],[71,70,69],[78,50,74,80],[78,50,74,80],[80]]
noncomputable def lK:List V:=[(.int 0),(.int 1),(.tup [(.str [36,101,110,100]),(.str [101,114,114,111,114]),(.str [36,117,110,100,101,102,105,110,101,100])]),(.int (-1))]
noncomputable def jI:List String:=["END","ERROR","OWN_TERMINALS","NONE"]
noncomputable def fY:List String:=["Token","Rule","Grammar","Lookaheads","Example","LrState","Closer","Automaton","Builder","Tree","Leaf","Conflict"]
noncomputable def qV(c m:Nat):List (Nat×Nat×Nat)->Option Nat
 |[]=>none
 |(c',m',f)::r=>if c=c' then(if m=m' then some f else qV c m r) else qV c m r
noncomputable def zC(c f:Nat):Bool:=match yx[c]? with|some l=>aag f cG&&!l.contains f|none=>false
noncomputable def mp:Prog:={ fn:=fun n=>wW[n]?,vR:=fun c m=>qV c m sg,init:=fun c=>sC[c]?,ok:=zC}
end
section
variable{h:H}
theorem Nc{a b:Nat}(e:a<b):aag a b=true:=by rw[ZW];exact e
theorem aE{a:Nat}{o:O}(e:h.get a=some o):a<h.size:=by
 unfold H.get at e
 cases q:aag a h.size with
 |true=>exact ZW.mp q
 |false=>rw[q]at e;cases e
theorem tf{a:Nat}(e:a<h.size):h.get a=h.f a:=by unfold H.get;rw[Nc e]
theorem BE{a b:Nat}(e:a≠b):Nat.beq a b=false:=by
 cases q:Nat.beq a b with
 |true=>exact absurd (Ym q) e
 |false=>rfl
theorem aG{a:Nat}{o:Option O}(e:a<h.size):(h.set a o).get a=o:=by
 rw[tf (h:=h.set a o) e];unfold H.set;simp only[aa2]
theorem ah{a b:Nat}{o:Option O}(e:b≠a):(h.set a o).get b=h.get b:=by
 unfold H.get H.set;simp only[BE e]
theorem aL{o:O}:(h.push o).get h.size=some o:=by
 rw[tf (h:=h.push o) (Xk _)];unfold H.push;simp only[aa2]
theorem ay{a:Nat}{o:O}(e:a<h.size):(h.push o).get a=h.get a:=by
 rw[tf (h:=h.push o) (WV e),tf e];unfold H.push;simp only[BE (WT e)]
theorem ND{o:O}:(h.push o).size=h.size+1:=rfl
theorem UQ{a:Nat}{o:Option O}:(h.set a o).size=h.size:=rfl
end
section
noncomputable def PA(c:Env->H->(V->H->Prop)->Prop)(b:Env->H->(Env->H->Prop)->(V->Env->H->Prop)->Prop)(ρ:Env)(h:H)(kn:Env->H->Prop)(kr:V->Env->H->Prop):Prop:=
 ∃I:Nat->Env->H->Prop,(∃n,I n ρ h)/\∀n ρ h,I n ρ h->c ρ h fun v h=>gk False v (b ρ h (fun ρ h=>∃n',n'<n/\I n' ρ h) kr) (kn ρ h)
noncomputable def RP:Nat->(Nat->List V->H->(V->H->Prop)->Prop)×(Nat->Nat->List V->H->(O->H->Prop)->Prop)
 |0=>(fun _ _ _ _=>False,fun _ _ _ _ _=>False)
 |d+1=>(fun f vs h k=>∃F ρ,mp.fn f=some F/\iI F vs=some ρ/\Eg mp ⟨False,(RP d).1,(RP d).2,PA⟩ F ρ h k,
  fun f c vs h k=>∃F ρ,mp.fn f=some F/\oy F c vs=some ρ/\Bi mp ⟨False,(RP d).1,(RP d).2,PA⟩ F ρ h k)
noncomputable def mP(d:Nat):M Prop:=⟨False,(RP d).1,(RP d).2,PA⟩
inductive C where
 |e (e:E)|s (s:S)|cons|list|iD|aM (el:E) (t:T)|bQ (el:E) (t:T) (c:E)|cell|bP|attr (f:Nat)
 |iN (f:Nat) (b:E)|aq (f:Nat) (g:Option Nat)|call (f:Nat)|new (c:Nat)|qr (c:Nat)|bi (b:B)|isStr|dK|bin (op:vo)|neg|not|and (b:E)|or (b:E)|cmp (op:BF)
 |bX (neg:Bool) (i:Nat)|ite (a b:E)|sub|aH (i:Nat)|dY|aW|fR
 |asg (i:Nat)|aY (i:Nat)|md (is:List Nat)|eT (f:Nat)|aB (f:Nat)|eS|aP (i:Nat)|dy (i:Nat)|pop|mO (i f:Nat)|iY (j i f:Nat)|eU (a b:S)
 |loop (t:T) (b:S)|ret|uZ (f:Nat)
structure Qs where
 n:Env->H->Prop
 c:Env->H->Prop
 r:V->Env->H->Prop
section
variable(d:Nat)
noncomputable def WG(v:V)(k:Int->Prop):Prop:=match v with|.int i=>k i|_=>False
noncomputable def WD(v:V)(k:Bool->Prop):Prop:=match truth v with|some b=>k b|.none=>False
noncomputable def CX(c:C)(k:List V->Env->H->Prop)(sk:List V)(ρ:Env)(h:H)(Q:Qs):Prop:=match c,sk with
 |.e e,sk=>ev mp (mP d) e ρ h fun v h=>k (v::sk) ρ h
 |.s s,sk=>ex mp (mP d) s ρ h (k sk) Q.c Q.r
 |.cons,w::v::sk=>iO False w fun vs=>k (.tup (v::vs)::sk) ρ h
 |.list,w::sk=>iO False w fun vs=>fJ False (fA vs) fun v=>k (v::sk) ρ h
 |.iD,w::v::sk=>(match v.key? with|some q=>k (.bL [q] [w]::sk) ρ h|.none=>False)
 |.aM el t,v::sk=>(match bZ v with|some vs=>wI False vs<|cJ False t ρ (fun ρ h k=>ev mp (mP d) el ρ h fun v h=>k (some v) h) vs h fun xs h=>k (.lst xs::sk) ρ h|.none=>False)
 |.bQ el t c,v::sk=>(match bZ v with|some vs=>wI False vs<|cJ False t ρ (fun ρ h k=>ev mp (mP d) c ρ h fun b h=>gk False b (ev mp (mP d) el ρ h fun v h=>k (some v) h) (k .none h)) vs h fun xs h=>k (.lst xs::sk) ρ h|.none=>False)
 |.cell,v::sk=>(match v with
  |.lst vs=>k (.ref h.size::sk) ρ (h.push (.list vs))
  |.bL ks vs=>k (.ref h.size::sk) ρ (h.push (.dict ks vs))
  |.obj c fs vs=>k (.ref h.size::sk) ρ (h.push (.inst c fs vs))
  |_=>False)
 |.bP,v::sk=>(match Mine.bP 8 v h with|some r=>k (r.1::sk) ρ r.2|.none=>False)
 |.attr f,v::sk=>(match rd v h with|some (.inst _ fs vs)=>fJ False (ae f fs vs) fun v=>k (v::sk) ρ h|_=>False)
 |.iN f b,v::sk=>MQ (mP d) (iN mp v f h) fun g=>ev mp (mP d) b ρ h fun w h=>iO False w fun vs=>pA (mP d) v f g vs h fun v h=>k (v::sk) ρ h
 |.aq f g,w::v::sk=>iO False w fun vs=>pA (mP d) v f g vs h fun v h=>k (v::sk) ρ h
 |.call f,w::sk=>iO False w fun vs=>(mP d).call f vs h fun v h=>k (v::sk) ρ h
 |.new c,w::sk=>iO False w fun vs=>(match mp.init c with|some f=>(mP d).init f c vs h fun o h=>k (o.v::sk) ρ h|.none=>False)
 |.qr c,w::sk=>iO False w fun vs=>(match mp.init c with|some f=>(mP d).call f (.ref h.size::vs) (h.push (.inst c [] [])) fun v h'=>(match v with|.none=>k (.ref h.size::sk) ρ h'|_=>False)|.none=>False)
 |.bi b,w::sk=>iO False w fun vs=>fJ False (qT b vs h) fun v=>k (v::sk) ρ h
 |.isStr,v::sk=>(match v with|.str _=>k (.bool true::sk) ρ h|.tup _=>k (.bool false::sk) ρ h|_=>False)
 |.dK,v::sk=>(match v with|.lst vs=>k (.tup vs.reverse::sk) ρ h|_=>False)
 |.bin op,y::x::sk=>fJ False (pU op x y) fun v=>k (v::sk) ρ h
 |.neg,v::sk=>(match v with|.int i=>k (.int (-i)::sk) ρ h|_=>False)
 |.not,v::sk=>(match truth v with|some b=>k (.bool (!b)::sk) ρ h|.none=>False)
 |.and b,v::sk=>gk False v (ev mp (mP d) b ρ h fun v h=>k (v::sk) ρ h) (k (v::sk) ρ h)
 |.or b,v::sk=>gk False v (k (v::sk) ρ h) (ev mp (mP d) b ρ h fun v h=>k (v::sk) ρ h)
 |.cmp op,y::x::sk=>(match zH op x y h with|some b=>k (.bool b::sk) ρ h|.none=>False)
 |.bX neg i,x::sk=>dy False (gt ρ i) fun o=>(match Mine.bX x o with|some b=>k (.bool (xor neg b)::sk) ρ h|.none=>False)
 |.ite a b,v::sk=>gk False v (ev mp (mP d) a ρ h fun v h=>k (v::sk) ρ h) (ev mp (mP d) b ρ h fun v h=>k (v::sk) ρ h)
 |.sub,y::x::sk=>fJ False (cL x y h) fun v=>k (v::sk) ρ h
 |.aH i,y::sk=>dy False (gt ρ i) fun o=>fJ False (Mine.aH o y) fun v=>k (v::sk) ρ h
 |.dY,y::x::sk=>(match y with|.int n=>(match decide (0<=n)&&decide (n.toNat<=SZ) with|true=>fJ False (Mine.dY x n.toNat) fun v=>k (v::sk) ρ h|false=>False)|_=>False)
 |.aW,y::x::sk=>(match y with|.int n=>(match decide (0<=n)&&decide (n.toNat<=SZ) with|true=>fJ False (Mine.aW x n.toNat) fun v=>k (v::sk) ρ h|false=>False)|_=>False)
 |.fR,v::sk=>(match v with|.lst vs=>fJ False (fA vs.reverse) fun v=>k (v::sk) ρ h|_=>False)
 |.asg i,v::sk=>k sk (st ρ i (.v v)) h
 |.aY i,v::sk=>(match own v with|some o=>k sk (st ρ i (.o o)) h|.none=>False)
 |.md is,v::sk=>(match v with
  |.tup vs=>(match cu is vs ρ with|some ρ'=>k sk ρ' h|.none=>False)
  |.lst vs=>(match cu is vs ρ with|some ρ'=>k sk ρ' h|.none=>False)
  |_=>False)
 |.eT f,w::v::sk=>(match w with|.ref a=>(match (h.get a).bind (jR mp.ok · f v) with|some o=>k sk ρ (h.set a (some o))|.none=>False)|_=>False)
 |.aB f,v::sk=>dy False (gt ρ 0) fun o=>(match jR mp.ok o f v with|some o=>k sk (st ρ 0 (.o o)) h|.none=>False)
 |.eS,j::w::v::sk=>(match w with|.ref a=>(match (h.get a).bind (fN · j v) with|some o=>k sk ρ (h.set a (some o))|.none=>False)|_=>False)
 |.dy i,sk=>dy False (gt ρ i) fun _=>k sk ρ h
 |.aP i,j::v::sk=>dy False (gt ρ i) fun o=>(match fN o j v with|some o=>k sk (st ρ i (.o o)) h|.none=>False)
 |.pop,_::sk=>k sk ρ h
 |.mO i f,w::sk=>iO False w fun vs=>dy False (gt ρ i) fun o=>(match dh o f vs with|some r=>k sk (st ρ i (.o r.2)) h|.none=>False)
 |.iY j i f,w::sk=>iO False w fun vs=>dy False (gt ρ i) fun o=>(match dh o f vs with|some r=>k sk (st (st ρ i (.o r.2)) j (.v r.1)) h|.none=>False)
 |.eU a b,v::sk=>gk False v (ex mp (mP d) a ρ h (k sk) Q.c Q.r) (ex mp (mP d) b ρ h (k sk) Q.c Q.r)
 |.loop t b,v::sk=>(match bZ v with|some vs=>forL False t (fun ρ h kn=>ex mp (mP d) b ρ h kn kn Q.r) (k sk) vs ρ h|.none=>False)
 |.ret,v::_=>Q.r v ρ h
 |.uZ f,w::sk=>(match w with
  |.ref a=>(match h.get a with
   |some (.inst c fs vs)=>(match ae f fs vs with
    |some v=>(match Mine.bP 8 v h with|some r=>(match r.2.get a with|some _=>k sk ρ (r.2.set a (some (.inst c fs (dQ f r.1 fs vs))))|.none=>False)|.none=>False)
    |.none=>False)
   |_=>False)
  |_=>False)
 |_,_=>False
noncomputable def KX:List C->List V->Env->H->Qs->Prop
 |[],_,ρ,h,Q=>Q.n ρ h
 |c::K,sk,ρ,h,Q=>CX d c (fun sk ρ h=>KX K sk ρ h Q) sk ρ h Q
end
noncomputable def Rt(Q:V->H->Prop):Qs:=⟨fun _ h=>Q .none h,fun _ _=>False,fun v _ h=>Q v h⟩
noncomputable def RI(Q:O->H->Prop):Qs:=⟨fun ρ h=>dy False (gt ρ 0) fun o=>Q o h,fun _ _=>False,fun _ _ _=>False⟩
noncomputable def WC(d f:Nat)(vs:List V)(h:H)(Q:V->H->Prop):Prop:=(mP d).call f vs h Q
noncomputable def WI(d f c:Nat)(vs:List V)(h:H)(Q:O->H->Prop):Prop:=(mP d).init f c vs h Q
variable{d:Nat}{ρ:Env}{h:H}{Q:Qs}{K:List C}{sk:List V}
theorem aD{f:Nat}{vs:List V}{Q:V->H->Prop}(F:Fn)(ρ:Env)(hF:mp.fn f=some F)(hb:iI F vs=some ρ)(x:KX d [.s F.body] [] ρ h (Rt Q)):WC (d+1) f vs h Q:=⟨F,ρ,hF,hb,x⟩
theorem ji{f c:Nat}{vs:List V}{Q:O->H->Prop}(F:Fn)(ρ:Env)(hF:mp.fn f=some F)(hb:oy F c vs=some ρ)(x:KX d [.s F.body] [] ρ h (RI Q)):WI (d+1) f c vs h Q:=⟨F,ρ,hF,hb,x⟩
section
variable{a b e el it c:E}{v w u:V}{i j n f:Nat}{t:T}{op:vo}{cp:BF}{vs:List V}{ks:List Key}{fs:List Nat}{s1 s2:S}{bb:B}{ng:Bool}{x:Sl}{r:Env}
theorem gt_0:gt (x::r) 0=x:=rfl
theorem Wv:gt (x::r) (i+1)=gt r i:=rfl
theorem RG{y:Sl}:st (x::r) 0 y=y::r:=rfl
theorem Qm{y:Sl}:st (x::r) (i+1) y=x::st r i y:=rfl
theorem Uu:KX d [] sk ρ h Q=Q.n ρ h:=rfl
theorem Um:KX d (.ret::K) (v::sk) ρ h Q=Q.r v ρ h:=rfl
theorem Tg:KX d (.e (.lit v)::K) sk ρ h Q=KX d K (v::sk) ρ h Q:=rfl
theorem RQ:KX d (.e (.glob n v)::K) sk ρ h Q=KX d K (v::sk) ρ h Q:=rfl
noncomputable def lv(x:Sl)(k:V->Prop):Prop:=match x with|.v v=>k v|_=>False
theorem FA{k:V->Prop}:lv (.v v) k=k v:=rfl
theorem TF:KX d (.e (.loc i)::K) sk ρ h Q=lv (gt ρ i) fun v=>KX d K (v::sk) ρ h Q:=rfl
theorem Rf:KX d (.e .af::K) sk ρ h Q=KX d K (.tup []::sk) ρ h Q:=rfl
theorem PJ:KX d (.e (.aa a b)::K) sk ρ h Q=KX d (.e a::.e b::.cons::K) sk ρ h Q:=rfl
theorem QV:KX d (.cons::K) (.tup vs::v::sk) ρ h Q=KX d K (.tup (v::vs)::sk) ρ h Q:=rfl
theorem QQ:KX d (.e (.list a)::K) sk ρ h Q=KX d (.e a::.list::K) sk ρ h Q:=rfl
theorem Qb:KX d (.list::K) (.tup []::sk) ρ h Q=KX d K (.lst []::sk) ρ h Q:=rfl
theorem Qa:KX d (.list::K) (.tup [v]::sk) ρ h Q=KX d K (.lst [v]::sk) ρ h Q:=rfl
theorem PY:KX d (.list::K) (.tup [v,w]::sk) ρ h Q=KX d K (.lst [v,w]::sk) ρ h Q:=rfl
theorem PH:KX d (.list::K) (.tup [v,w,u]::sk) ρ h Q=KX d K (.lst [v,w,u]::sk) ρ h Q:=rfl
theorem Pz:KX d (.e .bN::K) sk ρ h Q=KX d K (.bL [] []::sk) ρ h Q:=rfl
theorem PM:KX d (.e (.aM el t it)::K) sk ρ h Q=KX d (.e it::.aM el t::K) sk ρ h Q:=rfl
theorem MT:KX d (.e (.bQ el t it c)::K) sk ρ h Q=KX d (.e it::.bQ el t c::K) sk ρ h Q:=rfl
theorem QA:KX d (.e (.cell a)::K) sk ρ h Q=KX d (.e a::.cell::K) sk ρ h Q:=rfl
theorem PW:KX d (.cell::K) (.lst vs::sk) ρ h Q=KX d K (.ref h.size::sk) ρ (h.push (.list vs)) Q:=rfl
theorem PZ:KX d (.cell::K) (.bL ks vs::sk) ρ h Q=KX d K (.ref h.size::sk) ρ (h.push (.dict ks vs)) Q:=rfl
theorem PV:KX d (.cell::K) (.obj n fs vs::sk) ρ h Q=KX d K (.ref h.size::sk) ρ (h.push (.inst n fs vs)) Q:=rfl
theorem TR:KX d (.e (.bP a)::K) sk ρ h Q=KX d (.e a::.bP::K) sk ρ h Q:=rfl
theorem RN:KX d (.e (.attr a f)::K) sk ρ h Q=KX d (.e a::.attr f::K) sk ρ h Q:=rfl
theorem PI:KX d (.attr f::K) (.obj n fs vs::sk) ρ h Q=fJ False (ae f fs vs) fun v=>KX d K (v::sk) ρ h Q:=rfl
theorem Vi{k:V->Prop}:fJ False (some v) k=k v:=rfl
noncomputable def ao(x:Sl)(f:Nat)(k:V->Prop):Prop:=dy False x fun o=>match o with|.inst _ fs vs=>fJ False (ae f fs vs) k|_=>False
theorem PD:KX d (.e (.gH f)::K) sk ρ h Q=ao (gt ρ 0) f fun v=>KX d K (v::sk) ρ h Q:=rfl
theorem VN{k:V->Prop}:ao (.o (.inst n fs vs)) f k=fJ False (ae f fs vs) k:=rfl
theorem Qi:KX d (.e (.aq a f b)::K) sk ρ h Q=KX d (.e a::.iN f b::K) sk ρ h Q:=rfl
theorem SN:KX d (.iN 4 b::K) (.lst vs::sk) ρ h Q=KX d (.e b::.aq 4 .none::K) (.lst vs::sk) ρ h Q:=rfl
theorem QW:KX d (.iN 5 b::K) (.bL ks vs::sk) ρ h Q=KX d (.e b::.aq 5 .none::K) (.bL ks vs::sk) ρ h Q:=rfl
theorem Rv{s:List Nat}:KX d (.iN 7 b::K) (.str s::sk) ρ h Q=KX d (.e b::.aq 7 .none::K) (.str s::sk) ρ h Q:=rfl
theorem fQ{g:Option Nat}(e:iN mp v f h=some g)(q:KX d (.e b::.aq f g::K) (v::sk) ρ h Q):KX d (.iN f b::K) (v::sk) ρ h Q:=by
 show MQ (mP d) (iN mp v f h) fun g=>KX d (.e b::.aq f g::K) (v::sk) ρ h Q
 rw[e];exact q
theorem Td{x:O}{k:O->Prop}:dy False (.o x) k=k x:=rfl
noncomputable def GU(x:Sl)(f:Nat)(k:Prop):Prop:=zW (mP 0) x f k
theorem NO{k:Prop}:GU (.o (.list vs)) 0 k=k:=rfl
theorem QH{k:Prop}:GU (.o (.list vs)) 1 k=k:=rfl
theorem QJ{k:Prop}:GU (.o (.list vs)) 2 k=k:=rfl
theorem SG{k:Prop}:GU (.o (.list vs)) 3 k=k:=rfl
theorem RK{k:Prop}:GU (.o (.dict ks vs)) 5 k=k:=rfl
theorem RF{k:Prop}:GU (.o (.dict ks vs)) 6 k=k:=rfl
theorem Sj:KX d (.e (.call f b)::K) sk ρ h Q=KX d (.e b::.call f::K) sk ρ h Q:=rfl
theorem Pu:KX d (.call f::K) (.tup vs::sk) ρ h Q=WC d f vs h fun v h=>KX d K (v::sk) ρ h Q:=rfl
theorem UK:KX d (.e (.new n b)::K) sk ρ h Q=KX d (.e b::.new n::K) sk ρ h Q:=rfl
theorem Sm:KX d (.e (.qr n b)::K) sk ρ h Q=KX d (.e b::.qr n::K) sk ρ h Q:=rfl
theorem Wz:KX d (.e (.bi bb b)::K) sk ρ h Q=KX d (.e b::.bi bb::K) sk ρ h Q:=rfl
theorem Ud:KX d (.bi bb::K) (.tup vs::sk) ρ h Q=fJ False (qT bb vs h) fun v=>KX d K (v::sk) ρ h Q:=rfl
theorem PT:KX d (.e (.isStr a)::K) sk ρ h Q=KX d (.e a::.isStr::K) sk ρ h Q:=rfl
theorem Nv:KX d (.e (.dK a)::K) sk ρ h Q=KX d (.e a::.dK::K) sk ρ h Q:=rfl
theorem MU:KX d (.dK::K) (.lst vs::sk) ρ h Q=KX d K (.tup vs.reverse::sk) ρ h Q:=rfl
theorem Vn:KX d (.e (.bin op a b)::K) sk ρ h Q=KX d (.e a::.e b::.bin op::K) sk ρ h Q:=rfl
theorem RJ:KX d (.bin op::K) (w::v::sk) ρ h Q=fJ False (pU op v w) fun v=>KX d K (v::sk) ρ h Q:=rfl
section
variable{x y:Int}
theorem UY:pU .add (.int x) (.int y)=some (.int (x+y)):=rfl
theorem TC:pU .sub (.int x) (.int y)=some (.int (x-y)):=rfl
theorem UC:KX d (.e (.neg a)::K) sk ρ h Q=KX d (.e a::.neg::K) sk ρ h Q:=rfl
theorem RS:KX d (.neg::K) (.int x::sk) ρ h Q=KX d K (.int (-x)::sk) ρ h Q:=rfl
theorem Vm:KX d (.e (.not a)::K) sk ρ h Q=KX d (.e a::.not::K) sk ρ h Q:=rfl
theorem Ru{b:Bool}:KX d (.not::K) (.bool b::sk) ρ h Q=KX d K (.bool (!b)::sk) ρ h Q:=rfl
theorem Un:KX d (.e (.and a b)::K) sk ρ h Q=KX d (.e a::.and b::K) sk ρ h Q:=rfl
theorem QE:KX d (.e (.or a b)::K) sk ρ h Q=KX d (.e a::.or b::K) sk ρ h Q:=rfl
theorem OO:KX d (.e (.cmp cp a b)::K) sk ρ h Q=KX d (.e a::.e b::.cmp cp::K) sk ρ h Q:=rfl
theorem VQ:KX d (.cmp .lt::K) (.int y::.int x::sk) ρ h Q=KX d K (.bool (decide (x<y))::sk) ρ h Q:=rfl
theorem Wb:KX d (.cmp .gt::K) (.int y::.int x::sk) ρ h Q=KX d K (.bool (decide (y<x))::sk) ρ h Q:=rfl
theorem VX:KX d (.cmp .ge::K) (.int y::.int x::sk) ρ h Q=KX d K (.bool (decide (y<=x))::sk) ρ h Q:=rfl
theorem Wk:KX d (.cmp .eq::K) (.int y::.int x::sk) ρ h Q=KX d K (.bool (decide (x=y))::sk) ρ h Q:=rfl
theorem WA:KX d (.cmp .ne::K) (.int y::.int x::sk) ρ h Q=KX d K (.bool (!decide (x=y))::sk) ρ h Q:=rfl
theorem Vz:KX d (.cmp .is::K) (.none::v::sk) ρ h Q=KX d K (.bool (isNone v)::sk) ρ h Q:=rfl
theorem Tj:KX d (.cmp .pG::K) (.none::v::sk) ρ h Q=KX d K (.bool (!isNone v)::sk) ρ h Q:=rfl
end
noncomputable def mo(x:Sl)(ng:Bool)(v:V)(k:V->Prop):Prop:=dy False x fun o=>match bX v o with|some b=>k (.bool (xor ng b))|.none=>False
theorem Qz:KX d (.e (.bX ng a i)::K) sk ρ h Q=KX d (.e a::.bX ng i::K) sk ρ h Q:=rfl
theorem Qc:KX d (.bX ng i::K) (v::sk) ρ h Q=mo (gt ρ i) ng v fun v=>KX d K (v::sk) ρ h Q:=rfl
noncomputable def UG(x:Sl)(k:V->Prop):Prop:=dy False x fun o=>match cM o with|some n=>k (.int n)|.none=>False
theorem QP:KX d (.e (.cM i)::K) sk ρ h Q=UG (gt ρ i) fun v=>KX d K (v::sk) ρ h Q:=rfl
theorem UT{k:V->Prop}:UG (.o (.list vs)) k=k (.int vs.length):=rfl
noncomputable def zV(x:Sl)(k:V->Prop):Prop:=dy False x fun o=>match o with|.list vs=>k (.bool (!vs.isEmpty))|_=>False
theorem UO:KX d (.e (.zV i)::K) sk ρ h Q=zV (gt ρ i) fun v=>KX d K (v::sk) ρ h Q:=rfl
theorem Ts:KX d (.e (.Ju i)::K) sk ρ h Q=zV (gt ρ i) fun v=>KX d K (v::sk) ρ h Q:=rfl
theorem Vh{k:V->Prop}:zV (.o (.list vs)) k=k (.bool (!vs.isEmpty)):=rfl
theorem Rw:KX d (.e (.ite c a b)::K) sk ρ h Q=KX d (.e c::.ite a b::K) sk ρ h Q:=rfl
theorem TL:KX d (.e (.sub a b)::K) sk ρ h Q=KX d (.e a::.e b::.sub::K) sk ρ h Q:=rfl
theorem Sq:KX d (.sub::K) (w::v::sk) ρ h Q=fJ False (cL v w h) fun v=>KX d K (v::sk) ρ h Q:=rfl
theorem Qy:KX d (.e (.aH i b)::K) sk ρ h Q=dy False (gt ρ i) fun _=>KX d (.e b::.aH i::K) sk ρ h Q:=rfl
noncomputable def so(x:Sl)(v:V)(k:V->Prop):Prop:=dy False x fun o=>fJ False (aH o v) k
theorem Qh:KX d (.aH i::K) (v::sk) ρ h Q=so (gt ρ i) v fun v=>KX d K (v::sk) ρ h Q:=rfl
theorem Qv:KX d (.e (.dY a b)::K) sk ρ h Q=KX d (.e a::.e b::.dY::K) sk ρ h Q:=rfl
theorem Nq:KX d (.e (.aW a b)::K) sk ρ h Q=KX d (.e a::.e b::.aW::K) sk ρ h Q:=rfl
theorem PE:KX d (.e (.fR a)::K) sk ρ h Q=KX d (.e a::.fR::K) sk ρ h Q:=rfl
theorem Rh:KX d (.s .skip::K) sk ρ h Q=KX d K sk ρ h Q:=rfl
theorem ym:KX d (.s (.seq s1 s2)::K) sk ρ h Q=KX d (.s s1::.s s2::K) sk ρ h Q:=rfl
theorem Ey:KX d (.s (.asg i e)::K) sk ρ h Q=KX d (.e e::.asg i::K) sk ρ h Q:=rfl
theorem LW:KX d (.asg i::K) (v::sk) ρ h Q=KX d K sk (st ρ i (.v v)) h Q:=rfl
theorem Sg:KX d (.s (.aY i e)::K) sk ρ h Q=KX d (.e e::.aY i::K) sk ρ h Q:=rfl
theorem PB:KX d (.aY i::K) (.lst vs::sk) ρ h Q=KX d K sk (st ρ i (.o (.list vs))) h Q:=rfl
theorem PX:KX d (.aY i::K) (.bL ks vs::sk) ρ h Q=KX d K sk (st ρ i (.o (.dict ks vs))) h Q:=rfl
theorem TH{is:List Nat}:KX d (.s (.md is e)::K) sk ρ h Q=KX d (.e e::.md is::K) sk ρ h Q:=rfl
theorem SJ:KX d (.md [i,j]::K) (.tup [v,w]::sk) ρ h Q=KX d K sk (st (st ρ i (.v v)) j (.v w)) h Q:=rfl
theorem Sf:KX d (.s (.eT a f e)::K) sk ρ h Q=KX d (.e e::.e a::.eT f::K) sk ρ h Q:=rfl
theorem Pt:KX d (.s (.aB f e)::K) sk ρ h Q=KX d (.e e::.aB f::K) sk ρ h Q:=rfl
noncomputable def Tw(x:Sl)(f:Nat)(v:V)(k:Sl->Prop):Prop:=dy False x fun o=>match jR mp.ok o f v with|some o=>k (.o o)|.none=>False
theorem NJ:KX d (.aB f::K) (v::sk) ρ h Q=Tw (gt ρ 0) f v fun x=>KX d K sk (st ρ 0 x) h Q:=rfl
theorem RV:KX d (.s (.eS a b e)::K) sk ρ h Q=KX d (.e e::.e a::.e b::.eS::K) sk ρ h Q:=rfl
theorem PS:KX d (.s (.aP i b e)::K) sk ρ h Q=KX d (.e e::.dy i::.e b::.aP i::K) sk ρ h Q:=rfl
theorem QO:KX d (.dy i::K) sk ρ h Q=dy False (gt ρ i) fun _=>KX d K sk ρ h Q:=rfl
noncomputable def Tb(x:Sl)(w v:V)(k:Sl->Prop):Prop:=dy False x fun o=>match fN o w v with|some o=>k (.o o)|.none=>False
theorem NZ:KX d (.aP i::K) (w::v::sk) ρ h Q=Tb (gt ρ i) w v fun x=>KX d K sk (st ρ i x) h Q:=rfl
theorem VC:KX d (.s (.ex e)::K) sk ρ h Q=KX d (.e e::.pop::K) sk ρ h Q:=rfl
theorem Ti:KX d (.pop::K) (v::sk) ρ h Q=KX d K sk ρ h Q:=rfl
theorem Vw:KX d (.s (.mO i f a)::K) sk ρ h Q=GU (gt ρ i) f (KX d (.e a::.mO i f::K) sk ρ h Q):=rfl
noncomputable def EU(x:Sl)(f:Nat)(vs:List V)(k:V->Sl->Prop):Prop:=dy False x fun o=>match dh o f vs with|some r=>k r.1 (.o r.2)|.none=>False
theorem Vo:KX d (.mO i f::K) (.tup vs::sk) ρ h Q=EU (gt ρ i) f vs fun _ x=>KX d K sk (st ρ i x) h Q:=rfl
theorem Qq:KX d (.s (.iY j i f a)::K) sk ρ h Q=GU (gt ρ i) f (KX d (.e a::.iY j i f::K) sk ρ h Q):=rfl
theorem PK:KX d (.iY j i f::K) (.tup vs::sk) ρ h Q=EU (gt ρ i) f vs fun v x=>KX d K sk (st (st ρ i x) j (.v v)) h Q:=rfl
theorem My:KX d (.s (.ite c s1 s2)::K) sk ρ h Q=KX d (.e c::.eU s1 s2::K) sk ρ h Q:=rfl
theorem Sb:KX d (.s (.loop t it s1)::K) sk ρ h Q=KX d (.e it::.loop t s1::K) sk ρ h Q:=rfl
theorem Qt:KX d (.s (.ret e)::K) sk ρ h Q=KX d (.e e::.ret::K) sk ρ h Q:=rfl
theorem QY:KX d (.s .cont::K) sk ρ h Q=Q.c ρ h:=rfl
noncomputable def Rk(x:Sl)(k:Sl->Prop):Prop:=match x with|.o o=>k (.v o.v)|_=>False
theorem VM:KX d (.s (.fz i)::K) sk ρ h Q=Rk (gt ρ i) fun x=>KX d K sk (st ρ i x) h Q:=rfl
theorem Tv{k:Sl->Prop}:Rk (.o (.list vs)) k=k (.v (.lst vs)):=rfl
theorem Uz{k:Sl->Prop}:Rk (.o (.dict ks vs)) k=k (.v (.bL ks vs)):=rfl
theorem Wg{Q:V->H->Prop}:(Rt Q).n ρ h=Q .none h:=rfl
theorem Wa{Q:V->H->Prop}:(Rt Q).r v ρ h=Q v h:=rfl
theorem UM:KX d (.eU s1 s2::K) (.bool true::sk) ρ h Q=KX d (.s s1::K) sk ρ h Q:=rfl
theorem Va:KX d (.eU s1 s2::K) (.bool false::sk) ρ h Q=KX d (.s s2::K) sk ρ h Q:=rfl
theorem TU:KX d (.ite a b::K) (.bool true::sk) ρ h Q=KX d (.e a::K) sk ρ h Q:=rfl
theorem TM:KX d (.ite a b::K) (.bool false::sk) ρ h Q=KX d (.e b::K) sk ρ h Q:=rfl
theorem Uj:KX d (.and a::K) (.bool true::sk) ρ h Q=KX d (.e a::K) sk ρ h Q:=rfl
theorem Ur:KX d (.and a::K) (.bool false::sk) ρ h Q=KX d K (.bool false::sk) ρ h Q:=rfl
theorem VS:KX d (.or a::K) (.bool true::sk) ρ h Q=KX d K (.bool true::sk) ρ h Q:=rfl
theorem VP:KX d (.or a::K) (.bool false::sk) ρ h Q=KX d (.e a::K) sk ρ h Q:=rfl
end
theorem dec{p:Prop}{_:Decidable p}{X:Bool->Prop}(a:p->X true)(b:¬ p->X false):X (decide p):=by
 by_cases q:p
 ·rw[decide_eq_true q];exact a q
 ·rw[decide_eq_false q];exact b q
end
section
open PySem PySem.W PyProof.Rows PySem.MeetsSeq PySem.SeqAt
section
section
noncomputable abbrev BA:=Addr×Addr
noncomputable abbrev oTup(items:Array Value)(n:Nat):Obj:={ cls:=.type "tuple",data:=.seq items n}
noncomputable abbrev dg(items:Array Value)(n:Nat):Obj:={ cls:=.type "list",data:=.seq items n}
noncomputable abbrev bk(es:Array DictEntry)(n:Nat):Obj:={ cls:=.type "dict",data:=.dict es n}
noncomputable abbrev qJ(C dx:Addr):Obj:={ cls:=.ref C,dict:=some dx,data:=.plain}
structure Gl where
 prog:Program
 w:World
 cl:Nat->Option Addr
 fa:Nat->Option Addr
 h0:Heap
 K:Frag
 mg:Str->Option Value
 mb:Str->Option Value
noncomputable def aw(f:Nat):Str:=((zA.map Str.ofString)[f]?).getD (Str.ofString "?")
noncomputable def keyHash(G:Gl):Key->Int
 |.int i=>hashInt i
 |.tup is=>tupleKeyHash (intKind G.prog G.w) is
structure DK(G:Gl)(ks:List Key)(es:List DictEntry):Prop where
 hs:es.map DictEntry.hash=ks.map (keyHash G)
 nd:ks.Nodup
 ho:∀a∈ks,∀b∈ks,a.isInt=b.isInt
 z:ks.length<=SZ
noncomputable def FK(c:Nat):List Nat->List DictEntry->Prop
 |[],[]=>True
 |f::fs,e::es=>zC c f=true/\(∃t,e.key=.str (aw f) t)/\FK c fs es
 |_,_=>False
inductive L2(R:V->Value->Prop):List V->List Value->Prop
 |nil:L2 R [] []
 |cons {v:V} {x:Value} {vs:List V} {xs:List Value}:R v x->L2 R vs xs->L2 R (v::vs) (x::xs)
inductive VR(G:Gl)(β:List BA)(F:Addr->Prop)(Hp:Heap):V->Value->Prop
 |none:VR G β F Hp .none .none
 |bool (b:Bool):VR G β F Hp (.bool b) (.bool b)
 |int (i:Int) (t:Tok):VR G β F Hp (.int i) (.int i t)
 |str {x:List Nat} {S:Str} {t:Tok} (e:S.cps.toList=x):VR G β F Hp (.str x) (.str S t)
 |tup {A:Addr} {items:Array Value} {n:Nat} {vs:List V}:Hp.get? A=some (oTup items n)->¬ F A->vs.length<=SZ->L2 (VR G β F Hp) vs items.toList->VR G β F Hp (.tup vs) (.ref A)
 |kE {lo hi:Int} {A:Addr} {t u v:Tok}:IsRange Hp A lo hi 1 t u v->¬ F A->VR G β F Hp (.kE lo hi) (.ref A)
 |ref {a:Nat} {p:BA}:β[a]? =some p->VR G β F Hp (.ref a) (.ref p.1)
 |lst {A:Addr} {items:Array Value} {n:Nat} {vs:List V}:Hp.get? A=some (dg items n)->¬ F A->vs.length<=SZ->L2 (VR G β F Hp) vs items.toList->VR G β F Hp (.lst vs) (.ref A)
 |bL {A:Addr} {ks:List Key} {vs:List V} {es:List DictEntry}:Hp.get? A=some (bk es.toArray ks.length)->¬ F A->(A==sysModules)=false->DK G ks es->L2 (VR G β F Hp) (ks.map Key.v) (es.map DictEntry.key)->L2 (VR G β F Hp) vs (es.map DictEntry.val)->VR G β F Hp (.bL ks vs) (.ref A)
 |obj {c:Nat} {fs:List Nat} {A D C:Addr} {es:List DictEntry} {n:Nat} {vs:List V}:G.cl c=some C->A≠D->Hp.get? A=some (qJ C D)->Hp.get? D=some (bk es.toArray n)->¬ F A->¬ F D->FK c fs es->fs.length<=100->
   L2 (VR G β F Hp) vs (es.map DictEntry.val)->VR G β F Hp (.obj c fs vs) (.ref A)
 |uH {A:Addr} {o:Obj} {items:Array Value} {n:Nat} {is:List Int}:Hp.get? A=some o->o.cls=.type "list"->o.data=.seq items n->¬ F A->IntsAre items.toList is->VR G β F Hp (.uH is) (.ref A)
noncomputable abbrev cY(G:Gl)(β:List BA)(F:Addr->Prop)(Hp:Heap):List V->List Value->Prop:=L2 (VR G β F Hp)
inductive OR(G:Gl)(β:List BA)(F:Addr->Prop)(Hp:Heap):O->BA->Prop
 |list {vs:List V} {A:Addr} {items:Array Value} {n:Nat}:Hp.get? A=some (dg items n)->vs.length<=SZ->cY G β F Hp vs items.toList->OR G β F Hp (.list vs) (A,A)
 |dict {ks:List Key} {vs:List V} {A:Addr} {es:List DictEntry}:Hp.get? A=some (bk es.toArray ks.length)->(A==sysModules)=false->DK G ks es->cY G β F Hp (ks.map Key.v) (es.map DictEntry.key)->cY G β F Hp vs (es.map DictEntry.val)->OR G β F Hp (.dict ks vs) (A,A)
 |inst {c:Nat} {fs:List Nat} {vs:List V} {A D C:Addr} {es:List DictEntry} {n:Nat}:G.cl c=some C->A≠D->Hp.get? A=some (qJ C D)->Hp.get? D=some (bk es.toArray n)->FK c fs es->fs.length<=100->
   cY G β F Hp vs (es.map DictEntry.val)->OR G β F Hp (.inst c fs vs) (A,D)
noncomputable def pW(F:Addr->Prop)(Hp:Heap)(F':Addr->Prop)(Hp':Heap):Prop:=∀b o,Hp.get? b=some o->¬ F b->Hp'.get? b=some o/\¬ F' b
noncomputable def Pre(β β':List BA):Prop:=∀(a:Nat) p,β[a]? =some p->β'[a]? =some p
section
variable{G:Gl}{β β':List BA}{F F':Addr->Prop}{Hp Hp':Heap}
theorem L2.imp{R R':V->Value->Prop}(k:∀{v X},R v X->R' v X){vs:List V}{Xs:List Value}(l:L2 R vs Xs):L2 R' vs Xs:=by
 induction l with
 |nil=>exact .nil
 |cons a _ ih=>exact .cons (k a) ih
theorem VR.mono(k:pW F Hp F' Hp')(e:Pre β β'){v:V}{X:Value}(h:VR G β F Hp v X):VR G β' F' Hp' v X:=
 VR.rec (motive_1:=fun v X _=>VR G β' F' Hp' v X) (motive_2:=fun vs Xs _=>cY G β' F' Hp' vs Xs) .none .bool .int .str (fun g n z _ l=>.tup (k _ _ g n).1 (k _ _ g n).2 z l) (fun g n=>.kE (k _ _ g n).1 (k _ _ g n).2) (fun q=>.ref (e _ _ q))
  (fun g n z _ l=>.lst (k _ _ g n).1 (k _ _ g n).2 z l) (fun g n d d' _ _ l m=>.bL (k _ _ g n).1 (k _ _ g n).2 d d' l m) (fun c d g g' n n' f z _ l=>.obj c d (k _ _ g n).1 (k _ _ g' n').1 (k _ _ g n).2 (k _ _ g' n').2 f z l) (fun g c d n i=>.uH (k _ _ g n).1 c d (k _ _ g n).2 i) .nil (fun _ _ a b=>.cons a b) h
theorem cY.mono(k:pW F Hp F' Hp')(e:Pre β β'){v:List V}{X:List Value}(h:cY G β F Hp v X):cY G β' F' Hp' v X:=L2.imp (fun q=>VR.mono k e q) h
theorem OR.mono(k:pW F Hp F' Hp')(e:Pre β β'){o:O}{p:BA}(k1:∀x,Hp.get? p.1=some x->Hp'.get? p.1=some x)(k2:∀x,Hp.get? p.2=some x->Hp'.get? p.2=some x)(h:OR G β F Hp o p):OR G β' F' Hp' o p:=by
 cases h with
 |list g z l=>exact .list (k1 _ g) z (cY.mono k e l)
 |dict g d d' l m=>exact .dict (k1 _ g) d d' (cY.mono k e l) (cY.mono k e m)
 |inst c d g g' f z l=>exact .inst c d (k1 _ g) (k2 _ g') f z (cY.mono k e l)
theorem OR.al{o:O}{p:BA}(h:OR G β F Hp o p):(∃x,Hp.get? p.1=some x)/\∃x,Hp.get? p.2=some x:=by
 cases h with
 |list g _ _=>exact⟨⟨_,g⟩,_,g⟩
 |dict g _ _ _ _=>exact⟨⟨_,g⟩,_,g⟩
 |inst _ _ g g' _ _ _=>exact⟨⟨_,g⟩,_,g'⟩
end
structure Sx where
 β:List BA
 F:Addr->Prop
 h:H
 s:Shared
noncomputable abbrev Sx.g(x:Sx)(a:Addr):Option Obj:=x.s.heap.get? a
noncomputable abbrev Vr(G:Gl)(x:Sx):V->Value->Prop:=VR G x.β x.F x.s.heap
noncomputable abbrev Vl(G:Gl)(x:Sx):List V->List Value->Prop:=cY G x.β x.F x.s.heap
noncomputable abbrev Or(G:Gl)(x:Sx):O->BA->Prop:=OR G x.β x.F x.s.heap
noncomputable def Own(x:Sx)(b:Addr):Prop:=∃a o p,x.h.get a=some o/\x.β[a]? =some p/\(b=p.1\/b=p.2)
noncomputable def Ap(p q:BA):Prop:=p.1≠q.1/\p.1≠q.2/\p.2≠q.1/\p.2≠q.2
structure bF(G:Gl)(x:Sx):Prop where
 len:x.β.length=x.h.size
 qc:∀b,x.F b->∃o,x.g b=some o
 sep:∀i j p q o o',x.h.get i=some o->x.h.get j=some o'->x.β[i]? =some p->x.β[j]? =some q->i≠j->Ap p q
 obj:∀a o p,x.h.get a=some o->x.β[a]? =some p->Or G x o p/\x.F p.1/\x.F p.2
 base:∀b o,G.h0.get? b=some o->x.g b=some o/\¬ x.F b
noncomputable def iL(s s':Shared):Prop:=∃h tk,s'={ s with heap:=h,toks:=tk}
theorem iL.refl(s:Shared):iL s s:=⟨_,_,rfl⟩
theorem iL.trans{s s' s'':Shared}(a:iL s s')(b:iL s' s''):iL s s'':=by
 obtain⟨_,_,rfl⟩:=a;obtain⟨h,t,rfl⟩:=b;exact⟨h,t,rfl⟩
structure Step(G:Gl)(x y:Sx):Prop where
 M:bF G y
 pre:Pre x.β y.β
 fr:pW x.F x.s.heap y.F y.s.heap
 ot:∀b o,x.g b=some o->x.F b->¬ Own x b->y.g b=some o/\y.F b/\¬ Own y b
 sm:iL x.s y.s
 al:∀b o,x.g b=some o->∃o',y.g b=some o'
structure Kp(s s':Shared):Prop where
 sm:iL s s'
 k:∀b o,s.heap.get? b=some o->s'.heap.get? b=some o
theorem Kp.refl(s:Shared):Kp s s:=⟨.refl s,fun _ _ e=>e⟩
theorem Kp.trans{s s' s'':Shared}(a:Kp s s')(b:Kp s' s''):Kp s s'':=⟨a.sm.trans b.sm,fun c o e=>b.k c o (a.k c o e)⟩
theorem Kp.tk(s:Shared)(tk:Nat):Kp s { s with toks:=tk}:=⟨⟨_,_,rfl⟩,fun _ _ e=>e⟩
theorem sn{α:Type}{a:α}{p:Prop}{o:Option α}(e:o=some a)(f:o=none):p:=nomatch e.symm.trans f
theorem aA(Hp:Heap)(o:Obj):∀b x,Hp.get? b=some x->(Hp.push o).get? b=some x:=fun _ _ e=>Heap.get?_push_of_some o e
theorem ax(Hp:Heap):Hp.get? Hp.objs.size=none:=by
 cases q:Hp.get? Hp.objs.size with
 |none=>rfl
 |some o=>exact absurd (Heap.lt_size q) (Yq _)
theorem none_of{Hp Hp':Heap}{b:Addr}(k:∀b o,Hp.get? b=some o->Hp'.get? b=some o)(e:Hp'.get? b=none):Hp.get? b=none:=by
 cases q:Hp.get? b with
 |none=>rfl
 |some o=>exact sn (k _ _ q) e
section
variable{G:Gl}{x y z:Sx}{s':Shared}{v:V}{X:Value}{vs:List V}{Xs:List Value}{o:O}{p:BA}{a:Nat}{b:Addr}
theorem bF.Om(M:bF G x)(h:Own x b):x.F b:=by
 obtain⟨_,_,_,e,f,rfl|rfl⟩:=h
 ·exact(M.obj _ _ _ e f).2.1
 ·exact(M.obj _ _ _ e f).2.2
theorem bF.nF(M:bF G x)(e:x.g b=none):¬ x.F b:=fun f=>(M.qc b f).elim fun _ q=>sn q e
theorem bF.n0(M:bF G x)(e:x.g b=none):G.h0.get? b=none:=none_of (fun b o q=>(M.base b o q).1) e
theorem Step.vr(S:Step G x y)(e:Vr G x v X):Vr G y v X:=VR.mono S.fr S.pre e
theorem Step.vl(S:Step G x y)(e:Vl G x vs Xs):Vl G y vs Xs:=cY.mono S.fr S.pre e
theorem Kp.Nr(K:Kp x.s s'):pW x.F x.s.heap x.F s'.heap:=fun b o q n=>⟨K.k b o q,n⟩
theorem Kp.vr(K:Kp x.s s')(e:Vr G x v X):VR G x.β x.F s'.heap v X:=VR.mono K.Nr (fun _ _ e=>e) e
theorem Kp.vl(K:Kp x.s s')(e:Vl G x vs Xs):cY G x.β x.F s'.heap vs Xs:=cY.mono K.Nr (fun _ _ e=>e) e
theorem Step.refl(M:bF G x):Step G x x:=⟨M,fun _ _ e=>e,fun _ _ e n=>⟨e,n⟩,fun _ _ e f n=>⟨e,f,n⟩,.refl _,fun _ o e=>⟨o,e⟩⟩
theorem Step.trans(S:Step G x y)(T:Step G y z):Step G x z:=
 ⟨T.M,fun a p e=>T.pre a p (S.pre a p e),fun b o e n=>T.fr b o (S.fr b o e n).1 (S.fr b o e n).2,fun b o e f n=>T.ot b o (S.ot b o e f n).1 (S.ot b o e f n).2.1 (S.ot b o e f n).2.2,S.sm.trans T.sm,fun b o e=>(S.al b o e).elim fun o e=>T.al b o e⟩
theorem Step.kp(M:bF G x)(K:Kp x.s s'):Step G x { x with s:=s'}:=
 ⟨⟨M.len,fun b f=>(M.qc b f).imp fun o e=>K.k b o e,M.sep,fun a o p e f=>⟨OR.mono K.Nr (fun _ _ e=>e) (fun _ e=>K.k _ _ e) (fun _ e=>K.k _ _ e) (M.obj a o p e f).1,(M.obj a o p e f).2⟩,fun b o e=>⟨K.k b o (M.base b o e).1,(M.base b o e).2⟩⟩,
  fun _ _ e=>e,K.Nr,fun b o e f n=>⟨K.k b o e,f,n⟩,K.sm,fun b o e=>⟨o,K.k b o e⟩⟩
end
end
end
section
section
variable{R:V->Value->Prop}{vs us:List V}{xs ys:List Value}{v:V}{x:Value}
theorem L2.len(h:L2 R vs xs):vs.length=xs.length:=by
 induction h with
 |nil=>rfl
 |cons _ _ ih=>exact congrArg Nat.succ ih
theorem L2.get(h:L2 R vs xs):∀{i:Nat}{v:V},vs[i]? =some v->∃x,xs[i]? =some x/\R v x:=by
 induction h with
 |nil=>intro i v e;cases e
 |cons a _ ih=>
  intro i v e
  cases i with
  |zero=>cases e;exact⟨_,rfl,a⟩
  |succ i=>exact ih (i:=i) e
theorem L2.app(h:L2 R vs xs)(g:L2 R us ys):L2 R (vs++us) (xs++ys):=by
 induction h with
 |nil=>exact g
 |cons a _ ih=>exact .cons a ih
theorem L2.snoc(h:L2 R vs xs)(g:R v x):L2 R (vs++[v]) (xs++[x]):=h.app (.cons g .nil)
theorem L2.take(h:L2 R vs xs):∀n:Nat,L2 R (vs.take n) (xs.take n):=by
 induction h with
 |nil=>intro n;rw[aaj,aaj];exact .nil
 |cons a _ ih=>intro n;cases n with|zero=>exact .nil|succ n=>exact .cons a (ih n)
theorem L2.drop(h:L2 R vs xs):∀n:Nat,L2 R (vs.drop n) (xs.drop n):=by
 induction h with
 |nil=>intro n;rw[abS,abS];exact .nil
 |cons a b ih=>intro n;cases n with|zero=>exact .cons a b|succ n=>exact ih n
theorem L2.rev(h:L2 R vs xs):L2 R vs.reverse xs.reverse:=by
 induction h with
 |nil=>exact .nil
 |cons a _ ih=>rw[Zy,Zy];exact ih.snoc a
theorem L2.set(h:L2 R vs xs)(g:R v x):∀i:Nat,L2 R (vs.set i v) (xs.set i x):=by
 induction h with
 |nil=>intro i;exact .nil
 |cons a b ih=>intro i;cases i with|zero=>exact .cons g b|succ i=>exact .cons a (ih i)
theorem L2.rep(g:R v x):∀n:Nat,L2 R (XA n v) (XA n x)
 |0=>.nil
 |n+1=>.cons g (L2.rep g n)
theorem L2.one(h:L2 R [v] xs):∃x,xs=[x]/\R v x:=by
 cases h with|cons a b=>cases b;exact⟨_,rfl,a⟩
theorem L2.two{u:V}(h:L2 R [v,u] xs):∃x y,xs=[x,y]/\R v x/\R u y:=by
 cases h with|cons a b=>cases b with|cons c b=>cases b;exact⟨_,_,rfl,a,c⟩
end
section
variable{G:Gl}{x x0:Sx}{s':Shared}{v:V}{X:Value}{o o':O}{p:BA}{a:Nat}{b q:Addr}
theorem read(M:bF G x)(hv:Vr G x v X)(e:rd v x.h=some o):∃p,X=.ref p.1/\Or G x o p:=by
 cases hv with
 |lst g n z l=>cases e;exact⟨(_,_),rfl,.list g z l⟩
 |bL g n d d' l m=>cases e;exact⟨(_,_),rfl,.dict g d d' l m⟩
 |obj c d g g' n n' f z l=>cases e;exact⟨(_,_),rfl,.inst c d g g' f z l⟩
 |ref f=>exact⟨_,rfl,(M.obj _ _ _ e f).1⟩
 |_=>cases e
theorem OR.vr(h:Or G x o p)(n1:¬ x.F p.1)(n2:¬ x.F p.2):Vr G x o.v (.ref p.1):=by
 cases h with
 |list g z l=>exact .lst g n1 z l
 |dict g d d' l m=>exact .bL g n1 d d' l m
 |inst c d g g' f z l=>exact .obj c d g g' n1 n2 f z l
theorem bO(f:x.F q)(hs:Heap.ExtBut q x.s.heap s'.heap):pW x.F x.s.heap x.F s'.heap:=fun b o e n=>⟨hs b o (fun z=>n (z▸f)) e,n⟩
theorem Step.cell(M:bF G x)(e:x.h.get a=some o)(f:x.β[a]? =some p)(hq:q=p.1\/q=p.2)(hs:Heap.ExtBut q x.s.heap s'.heap)(sm:iL x.s s')(hO:pW x.F x.s.heap x.F s'.heap->OR G x.β x.F s'.heap o' p):
  Step G x { x with h:=x.h.set a (some o'),s:=s'}:=by
 have own:Own x q:=⟨a,o,p,e,f,hq⟩
 have fF:=M.Om own
 have fr:=bO fF hs
 have lt:=aE e
 have O:=hO fr
 have iff:∀b:Nat,(∃u,x.h.get b=some u)↔ ∃u,(x.h.set a (some o')).get b=some u:=fun b=>by
  by_cases z:b=a
  ·rw[z,aG lt];exact⟨fun _=>⟨_,rfl⟩,fun _=>⟨_,e⟩⟩
  ·rw[ah z]
 have al:∀b u,x.g b=some u->∃u',s'.heap.get? b=some u':=fun b u g=>by
  by_cases z:b=q
  ·rcases hq with r|r
   ·rw[z,r];exact O.al.1
   ·rw[z,r];exact O.al.2
  ·exact⟨u,hs b u z g⟩
 refine⟨⟨M.len,fun b fb=>(M.qc b fb).elim (al b),fun i j p q u u' hi hj=>?_,fun b u r hb fb=>?_,fun b u g=>fr b u (M.base b u g).1 (M.base b u g).2⟩,fun _ _ e=>e,fr,fun b u g fb n=>⟨hs b u (fun z=>n (z▸own)) g,fb,fun z=>n ?_⟩,sm,al⟩
 ·obtain⟨_,hi⟩:=(iff i).mpr ⟨_,hi⟩
  obtain⟨_,hj⟩:=(iff j).mpr ⟨_,hj⟩
  exact M.sep i j p q _ _ hi hj
 ·by_cases z:b=a
  ·subst z
   replace hb:some o'=some u:=(aG lt).symm.trans hb
   cases hb
   cases f.symm.trans fb
   exact⟨O,(M.obj _ _ _ e f).2⟩
  ·replace hb:x.h.get b=some u:=(ah z).symm.trans hb
   have r1:=M.obj b u r hb fb
   have sp:=M.sep b a r p u o hb e fb f z
   have n1:r.1≠q:=by rcases hq with rfl|rfl;exact sp.1;exact sp.2.1
   have n2:r.2≠q:=by rcases hq with rfl|rfl;exact sp.2.2.1;exact sp.2.2.2
   exact⟨OR.mono fr (fun _ _ e=>e) (fun u g=>hs _ u n1 g) (fun u g=>hs _ u n2 g) r1.1,r1.2⟩
 ·obtain⟨c,u,r,g1,g2,g3⟩:=z
  obtain⟨u',g1⟩:=(iff c).mpr ⟨u,g1⟩
  exact⟨c,u',r,g1,g2,g3⟩
theorem bF.but(M:bF G x)(f:x.F q)(n:¬ Own x q)(hs:Heap.ExtBut q x.s.heap s'.heap)(al:∃o,s'.heap.get? q=some o):bF G { x with s:=s'}:=
 ⟨M.len,fun b fb=>by
  by_cases z:b=q
  ·rw[z];exact al
  ·obtain⟨u,g⟩:=M.qc b fb;exact⟨u,hs b u z g⟩,M.sep,fun a u r e g=>⟨OR.mono (bO f hs) (fun _ _ e=>e) (fun u h=>hs _ u (fun z=>n ⟨a,_,r,e,g,.inl z.symm⟩) h) (fun u h=>hs _ u (fun z=>n ⟨a,_,r,e,g,.inr z.symm⟩) h) (M.obj a u r e g).1,(M.obj a u r e g).2⟩,
  fun b u g=>bO f hs b u (M.base b u g).1 (M.base b u g).2⟩
theorem Step.but(S:Step G x0 x)(n0:x0.g q=none)(f:x.F q)(n:¬ Own x q)(hs:Heap.ExtBut q x.s.heap s'.heap)(al:∃o,s'.heap.get? q=some o)(sm:iL x.s s'):Step G x0 { x with s:=s'}:=
 have ne:∀{b o},x0.g b=some o->b≠q:=fun e z=>sn (z▸e) n0
 ⟨S.M.but f n hs al,S.pre,fun b o e m=>⟨hs b o (ne e) (S.fr b o e m).1,(S.fr b o e m).2⟩,fun b o e g m=>⟨hs b o (ne e) (S.ot b o e g m).1,(S.ot b o e g m).2⟩,S.sm.trans sm,fun b o e=>by
  by_cases z:b=q
  ·rw[z];exact al
  ·exact(S.al b o e).imp fun u e=>hs b u z e⟩
noncomputable def Sx.ad(x:Sx)(p:BA):Sx:={ x with F:=fun b=>x.F b\/b=p.1\/b=p.2}
theorem Jq(n1:x.g p.1=none)(n2:x.g p.2=none)(K:Kp x.s s'):pW x.F x.s.heap (x.ad p).F s'.heap:=fun b o e n=>⟨K.k b o e,fun z=>by
 rcases z with z|z|z
 ·exact n z
 ·exact sn (z▸e) n1
 ·exact sn (z▸e) n2⟩
theorem Step.TS{N:Addr->Prop}(M:bF G x)(K:Kp x.s s')(nw:∀b,N b->x.g b=none)(al:∀b,N b->∃o,s'.heap.get? b=some o):Step G x { x with F:=fun b=>x.F b\/N b,s:=s'}:=by
 have fr:pW x.F x.s.heap (fun b=>x.F b\/N b) s'.heap:=fun b o e n=>⟨K.k b o e,fun z=>z.elim n fun z=>sn e (nw b z)⟩
 refine⟨⟨M.len,fun b f=>f.elim (fun f=>(M.qc b f).imp fun o e=>K.k b o e) (al b),M.sep,fun a u r e f=>?_,fun b o e=>fr b o (M.base b o e).1 (M.base b o e).2⟩,fun _ _ e=>e,fr,fun b o e f n=>⟨K.k b o e,.inl f,n⟩,K.sm,fun b o e=>⟨o,K.k b o e⟩⟩
 have h:=M.obj a u r e f
 exact⟨OR.mono fr (fun _ _ e=>e) (fun _ e=>K.k _ _ e) (fun _ e=>K.k _ _ e) h.1,.inl h.2.1,.inl h.2.2⟩
theorem Step.ad(M:bF G x)(K:Kp x.s s')(n1:x.g p.1=none)(n2:x.g p.2=none)(a1:∃o,s'.heap.get? p.1=some o)(a2:∃o,s'.heap.get? p.2=some o):Step G x { x.ad p with s:=s'}:=
 Step.TS (N:=fun b=>b=p.1\/b=p.2) M K (fun b h=>h.elim (fun e=>e▸n1) fun e=>e▸n2) fun b h=>h.elim (fun e=>e▸a1) fun e=>e▸a2
theorem fK(M:bF G x)(n:x.g b=none):¬ Own x b:=fun z=>M.nF n (M.Om z)
structure Hd(x:Sx)(p:BA):Prop where
 f1:x.F p.1
 f2:x.F p.2
 n1:¬ Own x p.1
 n2:¬ Own x p.2
theorem Step.own(S:Step G x0 x)(Op:Or G x o p)(H:Hd x p)(m1:x0.g p.1=none)(m2:x0.g p.2=none):Step G x0 { x with β:=x.β++[p],h:=x.h.push o}/\(x.β++[p])[x.h.size]? =some p:=by
 have M:=S.M
 have fr:pW x.F x.s.heap x.F x.s.heap:=fun _ _ e n=>⟨e,n⟩
 have pre:Pre x.β (x.β++[p]):=fun i q e=>by rw[XQ (WL.mp e).1];exact e
 have at':(x.β++[p])[x.h.size]? =some p:=by rw[<-M.len];exact List.getElem?_concat_length
 have old:∀{i:Nat}{q:BA}{u:O},(x.h.push o).get i=some u->(x.β++[p])[i]? =some q->(x.h.get i=some u/\x.β[i]? =some q)\/(i=x.h.size/\u=o/\q=p):=fun{i q u} e f=>by
  rcases YC.mp (show i<x.h.size+1 from aE e) with l|l
  ·rw[XQ (M.len▸l)]at f
   rw[ay l]at e
   exact .inl ⟨e,f⟩
  ·subst l
   exact .inr ⟨rfl,(Option.some.inj (aL.symm.trans e)).symm,(Option.some.inj (at'.symm.trans f)).symm⟩
 have nw:∀{i:Nat}{q:BA}{u:O},x.h.get i=some u->x.β[i]? =some q->Ap q p:=fun{i q u} e f=>
  ⟨fun z=>H.n1 ⟨i,u,q,e,f,.inl z.symm⟩,fun z=>H.n2 ⟨i,u,q,e,f,.inl z.symm⟩,fun z=>H.n1 ⟨i,u,q,e,f,.inr z.symm⟩,fun z=>H.n2 ⟨i,u,q,e,f,.inr z.symm⟩⟩
 refine⟨⟨⟨by rw[Xd,M.len];rfl,M.qc,fun i j q r u u' hi hj fi fj ne=>?_,fun b u r e f=>?_,M.base⟩,fun i q e=>pre i q (S.pre i q e),S.fr,fun b u e f n=>⟨(S.ot b u e f n).1,(S.ot b u e f n).2.1,fun z=>?_⟩,S.sm,S.al⟩,at'⟩
 ·rcases old hi fi with ⟨h1,h2⟩|⟨h1,_,rfl⟩<;>rcases old hj fj with ⟨h3,h4⟩|⟨h3,_,rfl⟩
  ·exact M.sep i j q r u u' h1 h3 h2 h4 ne
  ·exact nw h1 h2
  ·have:=nw h3 h4
   exact⟨this.1.symm,this.2.2.1.symm,this.2.1.symm,this.2.2.2.symm⟩
  ·exact absurd (h1.trans h3.symm) ne
 ·rcases old e f with ⟨h1,h2⟩|⟨_,rfl,rfl⟩
  ·have h:=M.obj b u r h1 h2
   exact⟨OR.mono fr pre (fun _ e=>e) (fun _ e=>e) h.1,h.2⟩
  ·exact⟨OR.mono fr pre (fun _ e=>e) (fun _ e=>e) Op,H.f1,H.f2⟩
 ·obtain⟨c,u',r,g1,g2,g3⟩:=z
  rcases old g1 g2 with ⟨h1,h2⟩|⟨_,rfl,rfl⟩
  ·exact(S.ot b u e f n).2.2 ⟨c,u',r,h1,h2,g3⟩
  ·rcases g3 with z|z
   ·exact sn (z▸e) m1
   ·exact sn (z▸e) m2
noncomputable def Sx.rl(x:Sx)(p:BA):Sx:={ x with F:=fun b=>x.F b/\b≠p.1/\b≠p.2}
theorem kh:pW x.F x.s.heap (x.rl p).F x.s.heap:=fun b o e n=>⟨e,fun z=>n z.1⟩
theorem bF.rl(M:bF G x)(n1:¬ Own x p.1)(n2:¬ Own x p.2)(hb:∀b o,G.h0.get? b=some o->x.F b->False):bF G (x.rl p):=
 ⟨M.len,fun b f=>M.qc b f.1,M.sep,fun a u r e f=>⟨OR.mono kh (fun _ _ e=>e) (fun _ e=>e) (fun _ e=>e) (M.obj a u r e f).1,⟨(M.obj a u r e f).2.1,fun z=>n1 ⟨a,u,r,e,f,.inl z.symm⟩,fun z=>n2 ⟨a,u,r,e,f,.inl z.symm⟩⟩,(M.obj a u r e f).2.2,fun z=>n1 ⟨a,u,r,e,f,.inr z.symm⟩,fun z=>n2 ⟨a,u,r,e,f,.inr z.symm⟩⟩,
  fun b o e=>⟨(M.base b o e).1,fun z=>(M.base b o e).2 z.1⟩⟩
theorem Step.rl(S:Step G x0 x)(m1:x0.g p.1=none)(m2:x0.g p.2=none)(n1:¬ Own x p.1)(n2:¬ Own x p.2):Step G x0 (x.rl p):=
 ⟨S.M.rl n1 n2 fun b o e f=>(S.M.base b o e).2 f,S.pre,fun b o e n=>⟨(S.fr b o e n).1,fun z=>(S.fr b o e n).2 z.1⟩,fun b o e f n=>
  have h:=S.ot b o e f n
  ⟨h.1,⟨h.2.1,fun z=>sn (z▸e) m1,fun z=>sn (z▸e) m2⟩,h.2.2⟩,S.sm,S.al⟩
theorem Step.kill(M:bF G x)(e:x.h.get a=some o)(f:x.β[a]? =some p):Step G x { x.rl p with h:=x.h.set a none}:=by
 have lt:=aE e
 have old:∀{i:Nat}{u:O},(x.h.set a none).get i=some u->i≠a/\x.h.get i=some u:=fun{i u} g=>by
  by_cases z:i=a
  ·rw[z,aG lt]at g;cases g
  ·exact⟨z,(ah z).symm.trans g⟩
 have own:∀{b},Own { x.rl p with h:=x.h.set a none} b->Own x b:=fun{b} z=>by
  obtain⟨c,u,r,g1,g2,g3⟩:=z
  exact⟨c,u,r,(old g1).2,g2,g3⟩
 refine⟨⟨M.len,fun b g=>M.qc b g.1,fun i j q r u u' hi hj=>M.sep i j q r u u' (old hi).2 (old hj).2,fun b u r hb fb=>?_,fun b o e=>⟨(M.base b o e).1,fun z=>(M.base b o e).2 z.1⟩⟩,fun _ _ e=>e,kh,fun b u g fb n=>⟨g,⟨fb,fun z=>n ⟨a,o,p,e,f,.inl z⟩,fun z=>n ⟨a,o,p,e,f,.inr z⟩⟩,fun z=>n (own z)⟩,.refl _,fun _ o e=>⟨o,e⟩⟩
 obtain⟨ne,hb⟩:=old hb
 have h:=M.obj b u r hb fb
 have sp:=M.sep b a r p u o hb e fb f ne
 exact⟨OR.mono kh (fun _ _ e=>e) (fun _ e=>e) (fun _ e=>e) h.1,⟨h.2.1,sp.1,sp.2.1⟩,h.2.2,sp.2.2.1,sp.2.2.2⟩
end
end
section
noncomputable abbrev Gl.m(G:Gl):Model:=model G.prog G.w
noncomputable def Gv(G:Gl)(x:Sx)(r:V)(Q:Value->Shared->Prop):Prop:=∀Z s',Kp x.s s'->VR G x.β x.F s'.heap r Z->Q Z s'
section
variable{G:Gl}{β:List BA}{F:Addr->Prop}{Hp:Heap}{x y:Sx}{s s':Shared}{v r:V}{X:Value}{vs:List V}{o:O}{p:BA}{a:Nat}{b q:Addr}{Q:Value->Shared->Prop}
@[elab_as_elim] theorem VR.cT{P:Value->Prop}{i:Int}(h:VR G β F Hp (.int i) X)(k:∀t,P (.int i t)):P X:=by cases h;exact k _
theorem VR.RT{i:Int}(h:VR G β F Hp (.int i) X):∃t,X=.int i t:=h.cT fun _=>⟨_,rfl⟩
@[elab_as_elim] theorem VR.nT{P:Value->Prop}{l:List Nat}(h:VR G β F Hp (.str l) X)(k:∀S t,S.cps.toList=l->P (.str S t)):P X:=by cases h;exact k _ _ ‹_›
theorem VR.IG{c:Bool}(h:VR G β F Hp (.bool c) X):X=.bool c:=by cases h;rfl
theorem VR.CS(h:VR G β F Hp .none X):X=.none:=by cases h;rfl
@[elab_as_elim] theorem VR.jW{P:Value->Prop}(h:VR G β F Hp (.tup vs) X)(k:∀l items n,Hp.get? l=some (oTup items n)->¬ F l->vs.length=items.size->vs.length<=SZ->cY G β F Hp vs items.toList->P (.ref l)):P X:=by
 cases h with|tup g n z l=>exact k _ _ _ g n l.len z l
@[elab_as_elim] theorem VR.hH{P:Value->Prop}(h:VR G β F Hp (.lst vs) X)(k:∀l items n,Hp.get? l=some (dg items n)->¬ F l->vs.length=items.size->vs.length<=SZ->cY G β F Hp vs items.toList->P (.ref l)):P X:=by
 cases h with|lst g n z l=>exact k _ _ _ g n l.len z l
@[elab_as_elim] theorem OR.listE{P:BA->Prop}(h:OR G β F Hp (.list vs) p)(k:∀l items n,Hp.get? l=some (dg items n)->vs.length=items.size->vs.length<=SZ->cY G β F Hp vs items.toList->P (l,l)):P p:=by
 cases h with|list g z l=>exact k _ _ _ g l.len z l
theorem fG{c:Bool}(e:ck c v=some r):c=true:=by
 cases c with
 |true=>rfl
 |false=>cases e
theorem da{c:Bool}(e:ck c v=some r):r=v:=by
 cases c with
 |true=>cases e;rfl
 |false=>cases e
theorem Gv.of(q:Gv G x r Q)(e:r=v):Gv G x v Q:=e▸q
theorem Gv.int{i:Int}{t:Tok}{tk:Nat}(q:Gv G x (.int i) Q):Q (.int i t) { x.s with toks:=tk}:=q _ _ (.tk _ _) (.int _ _)
theorem Gv.str{l:List Nat}{S:Str}{t:Tok}{tk:Nat}(q:Gv G x (.str l) Q)(e:S.cps.toList=l):Q (.str S t) { x.s with toks:=tk}:=q _ _ (.tk _ _) (.str e)
theorem Kp.push(s:Shared)(o:Obj)(tk:Nat):Kp s { s with heap:=s.heap.push o,toks:=tk}:=⟨⟨_,_,rfl⟩,aA _ _⟩
theorem Gv.tup{items:Array Value}{l:Addr}{n:Nat}(q:Gv G x (.tup vs) Q)(M:bF G x)(K:Kp x.s s')(f:x.g l=none)(g:s'.heap.get? l=some (oTup items n))(z:vs.length<=SZ)(h:Vl G x vs items.toList):Q (.ref l) s':=
 q _ _ K (.tup g (M.nF f) z (K.vl h))
noncomputable def Gf(G:Gl)(x:Sx)(o:O)(Q:Value->Shared->Prop):Prop:=∀p s',Kp x.s s'->x.g p.1=none->x.g p.2=none->(∀β F,Pre x.β β->pW x.F x.s.heap F s'.heap->OR G β F s'.heap o p)->Q (.ref p.1) s'
theorem Gv.f(q:Gv G x o.v Q)(M:bF G x):Gf G x o Q:=fun p s' K n1 n2 O=>q _ _ K (OR.vr (x:={ x with s:=s'}) (O _ _ (fun _ _ e=>e) K.Nr) (M.nF n1) (M.nF n2))
theorem Gf.lst{items:Array Value}{l:Addr}{n:Nat}(q:Gf G x (.list vs) Q)(K:Kp x.s s')(f:x.g l=none)(g:s'.heap.get? l=some (dg items n))(z:vs.length<=SZ)(h:Vl G x vs items.toList):Q (.ref l) s':=
 q (l,l) _ K f f fun β F P k=>.list g z (cY.mono k P h)
theorem oS{k:Int}{n:Nat}(hk:k.natAbs<2 ^ n)(hn:0<n):Builtin.Int.intBits k<=n:=by
 unfold Builtin.Int.intBits
 split
 ·exact XI _
 ·rename_i hz
  exact(Nat.log2_lt (fun e=>hz (beq_iff_eq.mpr (Int.natAbs_eq_zero.mp e▸rfl)))).mpr hk
theorem xH{k:Int}(e:nY k=true):k.natAbs<2 ^ 60:=ZW.mp e
theorem qN{k:Int}(e:nY k=true):Builtin.Int.intBits k<=64:=WH (oS (xH e) (by decide)) (by decide)
theorem vK(a b:Nat):(a|||b)+(a&&&b)=a+b:=by
 induction a using abv generalizing b with
 |_ a ih=>
  by_cases ha:a=0
  ·rw[ha,Nat.zero_or,Nat.zero_and,XG];rfl
  ·have e:=ih (a/2) (Nat.div_lt_self (aaW ha) (by decide)) (b/2)
   have d:∀r,r<2->∀t,t<2->(r|||t)+(r&&&t)=r+t:=by decide
   have d:=d _ (Nat.mod_lt a (by decide)) _ (Nat.mod_lt b (by decide))
   rw[<-Zv (a|||b) 2, <-Zv (a&&&b) 2,Nat.or_div_two,Nat.and_div_two,Nat.or_mod_two_pow (n:=1),Nat.and_mod_two_pow (n:=1),aaE, <-Nat.mul_add,e]
   exact(congrArg _ d).trans (by rw[Nat.mul_add,aaE,Zv,Zv])
theorem CP{x y:Int}(hx:0<=x)(hy:0<=y):Builtin.bitOr x y=((x.toNat|||y.toNat:Nat):Int):=by
 obtain⟨a,rfl⟩:=Yn hx
 obtain⟨b,rfl⟩:=Yn hy
 rw[bitOr_and,bitAnd_pp hx hy]
 show((a:Int)+b-((a&&&b:Nat):Int))=((a|||b:Nat):Int)
 rw[<-ZQ, <-vK a b,ZQ];exact YS _ _
end
end
section
noncomputable def jU:vo->Operator
 |.add=>.Add|.sub=>.Sub|.mul=>.Mult|.fdiv=>.FloorDiv|.mod=>.Mod|.pow=>.Pow|.shl=>.LShift|.shr=>.RShift|.band=>.BitAnd|.bor=>.BitOr
section
variable{G:Gl}{F:Addr->Prop}{x:Sx}{s s':Shared}{u v r:V}{X Y:Value}{vs us:List V}{p:BA}{a:Nat}{b q:Addr}{A:Around}{Er:Value->Shared->Prop}{Q:Value->Shared->Prop}
theorem br{a b:Bool}(e:(a&&b)=true):a=true/\b=true:=(Bool.and_eq_true _ _)▸e
theorem dt{p:Prop}{_:Decidable p}(e:decide p=true):p:=of_decide_eq_true e
theorem ON(op:vo){i j:Int}{t k:Tok}(e:bI op i j=some r)(q:Gv G x r Q):WS G.m A (binaryOp (jU op) (.int i t) (.int j k)) Q Er x.s:=by
 cases op with
 |add=>exact add_int (q.of (Option.some.inj e).symm).int
 |sub=>exact sub_int (q.of (Option.some.inj e).symm).int
 |mul=>exact mul_int (q.of (da e)).int ((Bool.or_eq_true_iff.mp (fG e)).elim (fun z=>.of_left (qN z)) fun z=>.of_right (qN z))
 |fdiv=>
  have c:=br (fG e)
  have c1:0<j:=dt c.1
  exact floordiv_int (Int.ne_of_gt c1) (q.of (da e)).int (.inl (PyProof.noPylong_small (by have:j<1024:=dt c.2;omega)))
 |mod=>exact mod_int' (Int.ne_of_gt (dt (fG e))) (q.of (da e)).int
 |pow=>
  have c:=br (fG e)
  have c0:0<=j:=dt (br c.1).1
  exact pow_int c0 (Zn (Int.mul_le_mul (XX.mpr (oS (dt c.2) (by decide))) (dt (br c.1).2) c0 (by decide)) (by decide)) (q.of (da e)).int
 |shl=>
  have c:=br (fG e)
  obtain rfl:i=1:=dt c.2
  refine lshift_int_small (dt (br c.1).1) (Zn (dt (br c.1).2) (by decide)) (by decide) ?_
  rw[show(1:Int)*2 ^ j.toNat=((2 ^ j.toNat:Nat):Int) by rw[Int.one_mul,abw];rfl]
  exact(q.of (da e)).int
 |shr=>
  have c:=br (fG e)
  obtain⟨i,rfl⟩:=Yn (dt (br c.1).1)
  refine rshift_int (dt (br c.1).2) ?_
  rw[show(i:Int).fdiv (2 ^ j.toNat)=(((i:Int).toNat>>>j.toNat:Nat):Int) by
   rw[show((2:Int) ^ j.toNat)=((2 ^ j.toNat:Nat):Int) by rw[abw];rfl,Int.fdiv_eq_ediv_of_nonneg _ (WU _),aa3,Nat.shiftRight_eq_div_pow];rfl]
  exact(q.of (da e)).int
 |band=>
  refine and_int ?_
  rw[bitAnd_pp (dt (br (fG e)).1) (dt (br (fG e)).2)]
  exact(q.of (da e)).int
 |bor=>
  refine or_int ?_
  rw[CP (dt (br (fG e)).1) (dt (br (fG e)).2)]
  exact(q.of (da e)).int
theorem ka(S:Str):S.length=S.cps.toList.length:=Zs.symm
theorem Ig{items:Array Value}(e:items.isEmpty=true)(h:vs.length=items.size):vs=[]:=YI.mp (h.trans (ZF.mp e))
theorem qg{n:Nat}(h:n<=SZ):n<=sizeLine:=by rw[sizeLine_eq];exact h
@[elab_as_elim] theorem Oh{op:vo}{P:V->V->Prop}(e:Jk op u v=some r)(k:∀i j,P (.int i) (.int j)):P u v:=by
 cases u with
 |int i=>cases v with
  |int j=>exact k _ _
  |_=>exact sn e rfl
 |_=>exact sn e rfl
@[elab_as_elim] theorem Iw{P:V->V->Prop}(e:Hc u v=some r)(k1:∀i j,P (.int i) (.int j))(k2:∀i j,P (.str i) (.str j))(k3:∀i j,P (.tup i) (.tup j))(k4:∀i j,P (.lst i) (.lst j)):P u v:=by
 cases u with
 |int i=>cases v with
  |int j=>exact k1 _ _
  |_=>exact sn e rfl
 |str i=>cases v with
  |str j=>exact k2 _ _
  |_=>exact sn e rfl
 |tup i=>cases v with
  |tup j=>exact k3 _ _
  |_=>exact sn e rfl
 |lst i=>cases v with
  |lst j=>exact k4 _ _
  |_=>exact sn e rfl
 |_=>exact sn e rfl
@[elab_as_elim] theorem IJ{P:V->V->Prop}(e:Hx u v=some r)(k1:∀i j,P (.int i) (.int j))(k2:∀w j,P (.lst [w]) (.int j)):P u v:=by
 cases u with
 |int i=>cases v with
  |int j=>exact k1 _ _
  |_=>exact sn e rfl
 |lst i=>cases i with
  |nil=>exact sn e rfl
  |cons w t=>cases t with
   |nil=>cases v with
    |int j=>exact k2 _ _
    |_=>exact sn e rfl
   |cons _ _=>exact sn e rfl
 |_=>exact sn e rfl
theorem ry{op:vo}{i j:Int}(hx:Vr G x (.int i) X)(hy:Vr G x (.int j) Y)(e:bI op i j=some r)(q:Gv G x r Q):WS G.m A (binaryOp (jU op) X Y) Q Er x.s:=
 hx.cT fun t=>hy.cT fun k=>ON op e q
theorem FY(M:bF G x)(hx:Vr G x (.tup vs) X)(hy:Vr G x (.tup us) Y)(c:vs.length+us.length<=SZ)(q:Gv G x (.tup (vs++us)) Q):WS G.m A (binaryOp .Add X Y) Q Er x.s:=by
 have hx':=hx
 have hy':=hy
 revert hx' hy'
 refine hx.jW fun l items n g no s1 z1 h1=>hy.jW fun l' items' n' g' no' s2 z2 h2 hx' hy'=>?_
 by_cases e1:items.isEmpty=true
 ·refine concat_meets ⟨_,g,rfl⟩ ⟨_,g',rfl⟩ noFill_tuple_add seq_tuple_add PySem.F.slot_tuple_add PySem.F.entry_tuple_add (PySem.F.args_tuple_add_2 _ _) (tuple_addW0 l l' items items' n n' none none #[] #[] e1) ⟨g,g',?_⟩
  rw[Ig e1 s1]at q
  exact q _ _ (.tk _ _) hy'
 ·by_cases e2:items'.isEmpty=true
  ·refine concat_meets ⟨_,g,rfl⟩ ⟨_,g',rfl⟩ noFill_tuple_add seq_tuple_add PySem.F.slot_tuple_add PySem.F.entry_tuple_add (PySem.F.args_tuple_add_2 _ _) (tuple_addW1 l l' items items' n n' none none #[] #[] e1 e2) ⟨g,g',?_⟩
   rw[Ig e2 s2,Xo]at q
   exact q _ _ (.tk _ _) hx'
  ·exact P.add_tuple g g' e1 e2 (q.tup M (.push _ _ x.s.toks) (ax _) (Heap.get?_push_size _ rfl) (by rw[Xd];exact c) (by rw[Yt];exact h1.app h2)) (by rw[<-s1, <-s2];exact qg c)
theorem xX(hx:Vr G x (.lst vs) X)(hy:Vr G x (.lst us) Y)(c:vs.length+us.length<=SZ)(q:Gf G x (.list (vs++us)) Q):WS G.m A (binaryOp .Add X Y) Q Er x.s:=
 hx.hH fun l items n g no s1 z1 h1=>hy.hH fun l' items' n' g' no' s2 z2 h2=>
  P.add_list g g' (q.lst (.push _ _ x.s.toks) (ax _) (Heap.get?_push_size _ rfl) (by rw[Xd];exact c) (by rw[Yt];exact h1.app h2)) (by rw[<-s1, <-s2];exact qg c)
theorem Fo{i j:List Nat}(hx:Vr G x (.str i) X)(hy:Vr G x (.str j) Y)(c:i.length+j.length<=SZ)(q:Gv G x (.str (i++j)) Q):WS G.m A (binaryOp .Add X Y) Q Er x.s:=
 hx.nT fun S t e=>hy.nT fun S' t' e'=>add_str (fun u tk=>q.str (by rw[Str.cps_append,Yt,e,e'])) (by rw[ka,ka,e,e'];exact qg c)
theorem AW{w:V}{n:Int}(hx:Vr G x (.lst [w]) X)(hy:Vr G x (.int n) Y)(c1:0<=n)(c2:n.toNat<=SZ)(q:Gf G x (.list (XA n.toNat w)) Q):WS G.m A (binaryOp .Mult X Y) Q Er x.s:=by
 refine hy.cT fun t=>hx.hH fun l items k g no s1 z1 h1=>?_
 obtain⟨items⟩:=items
 obtain⟨x',q1,h2⟩:=L2.one h1
 obtain rfl:items=[x']:=q1
 have c3:n.toNat<=16777216:=c2
 refine wpAny_binaryOp_repeat_ref (T:="list") (U:="int") (by decide) ⟨_,g,rfl⟩ (fun s'=>typeIs_int s' n t) noFill_list_mul PySem.F.fills_int_mul PySem.F.slot_int_rmul repeat_list PySem.F.slot_int_index.lookup
  (call_meets PySem.F.slot_int_rmul (typeIs_int x.s n t) PySem.F.entry_int_rmul (PySem.F.args_int_rmul_2 _ _) (int___rmul___int_list n t l _ k)
   ⟨g,rfl,⟨_,g,rfl⟩,call_meets PySem.F.slot_list_mul ⟨_,g,rfl⟩ PySem.F.entry_list_mul (PySem.F.args_list_mul_2 _ _)
    (AutoListH.list___mul___list_int_3 l _ k n t (by simp[Builtin.List.listFitsIndex];omega) (by show ¬ 1*n.toNat>_;omega) (by show ¬ (decide (1*n.toNat>sizeLine)=true);rw[aaF,decide_eq_true_eq,sizeLine_eq];exact Yu.mpr c3)) ⟨g,?_⟩⟩)
 rw[listMul_foldl,lm_rep_flat_one]
 exact q.lst (.push _ _ x.s.toks) (ax _) (Heap.get?_push_size _ rfl) (by rw[ZC];exact c2) (L2.rep h2 _)
theorem Mw(op:vo)(M:bF G x)(hx:Vr G x u X)(hy:Vr G x v Y)(e:pU op u v=some r)(q:Gv G x r Q):WS G.m A (binaryOp (jU op) X Y) Q Er x.s:=by
 have num:∀op,Jk op u v=some r->WS G.m A (binaryOp (jU op) X Y) Q Er x.s:=fun op e=>by
  have e':=e
  revert hx hy e'
  exact Oh e fun i j hx hy e'=>ry hx hy e' q
 cases op with
 |add=>
  have e':Hc u v=some r:=e
  revert hx hy e'
  exact Iw e (fun i j hx hy e=>ry (op:=.add) hx hy e q) (fun i j hx hy e=>Fo hx hy (dt (fG e)) (q.of (da e))) (fun i j hx hy e=>FY M hx hy (dt (fG e)) (q.of (da e))) fun i j hx hy e=>xX hx hy (dt (fG e)) ((q.of (da e)).f M)
 |mul=>
  have e':Hx u v=some r:=e
  revert hx hy e'
  exact IJ e (fun i j hx hy e=>ry (op:=.mul) hx hy e q) fun w n hx hy e=>AW hx hy (dt (br (fG e)).1) (dt (br (fG e)).2) ((q.of (da e)).f M)
 |_=>exact num _ e
end
end
section
noncomputable def posK(k:Key)(ks:List Key):Option Nat:=ks.findIdx? fun k'=>decide (k=k')
structure vc(G:Gl)(β:List BA)(F:Addr->Prop)(Hp:Heap)(dA:Addr)(ks:List Key)(vs:List V)(es:List DictEntry):Prop where
 g:Hp.get? dA=some (bk es.toArray ks.length)
 m:(dA==sysModules)=false
 d:DK G ks es
 k:cY G β F Hp (ks.map Key.v) (es.map DictEntry.key)
 v:cY G β F Hp vs (es.map DictEntry.val)
section
variable{G:Gl}{β:List BA}{F:Addr->Prop}{Hp:Heap}{x:Sx}{s:Shared}{v r:V}{X:Value}{vs:List V}{p:BA}{a n:Nat}{b q:Addr}{A:Around}{Er:Value->Shared->Prop}
 {k:Key}{ks:List Key}{es:List DictEntry}{dA:Addr}
@[elab_as_elim] theorem OR.lM{P:BA->Prop}(h:OR G β F Hp (.dict ks vs) p)(k:∀l es,vc G β F Hp l ks vs es->P (l,l)):P p:=by
 cases h with|dict g m d k' v=>exact k _ _ ⟨g,m,d,k',v⟩
@[elab_as_elim] theorem VR.Ff{P:Value->Prop}(h:VR G β F Hp (.bL ks vs) X)(k:∀l es,vc G β F Hp l ks vs es->¬ F l->P (.ref l)):P X:=by
 cases h with|bL g n m d k' v=>exact k _ _ ⟨g,m,d,k',v⟩ n
theorem vc.len(D:vc G β F Hp dA ks vs es):ks.length=es.length/\vs.length=es.length:=⟨by have:=D.k.len;rwa [WK,WK]at this,by have:=D.v.len;rwa [WK]at this⟩
theorem Ht{is:List Int}:∀{items:List Value},cY G β F Hp (is.map V.int) items->ItemsAre (intKind G.prog G.w) is items:=by
 induction is with
 |nil=>intro _ h;cases h;exact .nil
 |cons i is ih=>intro _ h;cases h with|cons a b=>exact a.cT fun t=>.cons (beq_self_eq_true i) (ih b)
theorem wa{P:Value->Prop}{is:List Int}(hv:VR G β F Hp (Key.tup is).v X)(k:∀a,IsTupleKey (intKind G.prog G.w) Hp is a->P (.ref a)):P X:=
 VR.jW hv fun l items n g _ _ _ hl=>k l ⟨_,items,n,g,rfl,rfl,Ht hl⟩
@[elab_as_elim] theorem uu{P:List Key->List DictEntry->Prop}(h0:P [] [])(h1:∀k ks e es,VR G β F Hp k.v e.key->e.hash=keyHash G k->P ks es->P (k::ks) (e::es)):
  ∀{ks:List Key}{es:List DictEntry},cY G β F Hp (ks.map Key.v) (es.map DictEntry.key)->es.map DictEntry.hash=ks.map (keyHash G)->P ks es:=by
 intro ks
 induction ks with
 |nil=>intro es _ hh;rw[aaQ.mp hh];exact h0
 |cons k ks ih=>
  intro es h hh
  cases es with
  |nil=>cases hh
  |cons e es=>cases h with|cons a b=>exact h1 k ks e es a (List.cons.inj hh).1 (ih b (List.cons.inj hh).2)
theorem ai{k:Key}{ks:List Key}{b:Bool}(h:∀p∈k::ks,p.isInt=b):k.isInt=b/\∀p∈ks,p.isInt=b:=⟨h k (.head _),fun p hp=>h p (.tail _ hp)⟩
@[elab_as_elim] theorem Key.cT{P:Key->Prop}{k:Key}(h:k.isInt=true)(q:∀i,P (.int i)):P k:=by
 cases k with|int i=>exact q i|tup _=>cases h
@[elab_as_elim] theorem Key.jW{P:Key->Prop}{k:Key}(h:k.isInt=false)(q:∀i,P (.tup i)):P k:=by
 cases k with|tup i=>exact q i|int _=>cases h
theorem FU(h:cY G β F Hp (ks.map Key.v) (es.map DictEntry.key))(hh:es.map DictEntry.hash=ks.map (keyHash G)):(∀p∈ks,p.isInt=true)->
  (∀i,es.findIdx? (fun e=>(intKind G.prog G.w).is i e.key)=posK (.int i) ks)/\∀e∈es,∃k,(intKind G.prog G.w).is k e.key=true/\e.hash=(intKind G.prog G.w).hash k:=by
 refine uu (fun _=>⟨fun _=>rfl,fun _ h=>nomatch h⟩) (fun k ks e es a b ih hk=>?_) h hh
 have hk:=ai hk
 obtain⟨i1,i2⟩:=ih hk.2
 revert a b
 refine Key.cT hk.1 fun j a b=>?_
 obtain⟨t,ht⟩:=VR.RT a
 refine⟨fun i=>?_,fun e' he=>?_⟩
 ·have hb:(intKind G.prog G.w).is i e.key=decide (Key.int i=Key.int j):=by
   rw[ht]
   show(j==i)=_
   rw[Bool.eq_iff_iff,beq_iff_eq,decide_eq_true_eq];exact⟨fun q=>q▸rfl,fun q=>by cases q;rfl⟩
  have i1:=i1 i
  unfold posK at i1 ⊢
  rw[Zf,Zf,hb,i1]
 ·rcases Xp.mp he with he|he
  ·rw[he];exact⟨j,by rw[ht];exact beq_self_eq_true j,b⟩
  ·exact i2 e' he
theorem Gn(h:cY G β F Hp (ks.map Key.v) (es.map DictEntry.key))(hh:es.map DictEntry.hash=ks.map (keyHash G)):(∀p∈ks,p.isInt=false)->
  ∃xs:List (List Int×Addr×Value),es=xs.map (entryOfKey (tupleKind (intKind G.prog G.w)))/\(∀x∈xs,(tupleKind (intKind G.prog G.w)).is Hp x.1 x.2.1)/\ks=xs.map fun x=>Key.tup x.1:=by
 refine uu (fun _=>⟨[],rfl,(fun x hx=>nomatch hx),rfl⟩) (fun k ks e es a b ih hk=>?_) h hh
 have hk:=ai hk
 obtain⟨xs,e1,e2,e3⟩:=ih hk.2
 revert a b
 refine Key.jW hk.1 fun is a b=>?_
 obtain⟨eh,ek,ev⟩:=e
 obtain⟨ad,rfl,hT⟩:∃ad,ek=.ref ad/\IsTupleKey (intKind G.prog G.w) Hp is ad:=wa (P:=fun X=>∃ad,X=.ref ad/\IsTupleKey (intKind G.prog G.w) Hp is ad) a fun l q=>⟨l,rfl,q⟩
 refine⟨(is,ad,ev)::xs,?_,fun x hx=>?_,congrArg _ e3⟩
 ·rw[show eh=_ from b,e1];rfl
 ·rcases Xp.mp hx with hx|hx
  ·rw[hx];exact hT
  ·exact e2 x hx
theorem IU(hk:aR k ks=true)(ho:∀a∈ks,∀b∈ks,a.isInt=b.isInt):∀p∈ks,p.isInt=k.isInt:=by
 cases ks with
 |nil=>intro p hp;cases hp
 |cons q r=>
  intro p hp
  rw[eq_of_beq (show(k.isInt==q.isInt)=true from hk)]
  exact ho _ hp _ (.head _)
theorem kg{Q:Int->Shared->Prop}(hu:A.units<cLine)(hX:VR G β F s.heap k.v X)(hq:∀tk,Q (keyHash G k) { s with toks:=tk}):WS G.m A (pyHash X) Q Er s:=by
 cases k with
 |int i=>exact VR.cT hX fun t=>(intKind G.prog G.w).pyHash (k:=i) (beq_self_eq_true i) (hq _)
 |tup is=>exact wa (P:=fun X=>WS G.m A (pyHash X) Q Er s) hX fun a hT=>wpAny_pyHash_tuple hu hT (hq _)
theorem hW{Q:Option Nat->Shared->Prop}(hu:A.units<cLine)(D:vc G β F s.heap dA ks vs es)(hk:aR k ks=true)(hX:VR G β F s.heap k.v X)(hq:Q (posK k ks) s):
  WS G.m A (dictFind dA X (keyHash G k)) Q Er s:=by
 have hh:=IU hk D.d.ho
 cases k with
 |int i=>
  obtain⟨h1,h2⟩:=FU D.k D.d.hs hh
  refine VR.cT hX fun t=>wpAny_dictFind_of (knd:=intKind G.prog G.w) (k:=i) (beq_self_eq_true i) D.g rfl (fun e he=>h2 e (YF.mpr he)) ?_
  rw[List.findIdx?_toArray,h1];exact hq
 |tup is=>
  refine wa (P:=fun X=>WS G.m A (dictFind dA X (keyHash G (.tup is))) Q Er s) hX fun a hT=>?_
  obtain⟨xs,e1,e2,e3⟩:=Gn D.k D.d.hs hh
  have nd':(xs.map (·.1)).Nodup:=YJ.mpr ((YJ.mp (e3▸D.d.nd)).imp fun h e=>h (congrArg Key.tup e))
  have pk:posK (.tup is) ks=xs.findIdx? fun x=>decide (is=x.1):=by
   unfold posK
   rw[e3,aa4]
   congr 1;funext x
   exact decide_eq_decide.mpr ⟨fun q=>by cases q;rfl,fun q=>q▸rfl⟩
  refine wpAny_dictFind_heap (knd:=tupleKind (intKind G.prog G.w)) (k:=is) hu hT D.g rfl (by rw[List.toList_toArray];exact e1) e2 nd' (fun hno=>?_) fun j p hj=>?_
  ·rw[pk,aae.mpr fun x hx=>?_]at hq
   ·exact hq
   ·obtain⟨j,hj⟩:=XH.mp hx
    exact decide_eq_false fun q=>hno j x.2 (by rw[hj,q])
  ·obtain⟨hlt,hget⟩:=WL.mp hj
   rw[pk,Yp.mpr ⟨hlt,decide_eq_true (by rw[hget]),fun i hi=>?_⟩]at hq
   ·exact hq
   ·have hi':=Yw hi hlt
    refine fun q=>WT hi (idxH_unique nd' (p:=xs[i].2) (q:=p) ?_ hj)
    rw[WR hi',of_decide_eq_true q]
theorem ma:∀{vs:List V},ks.length=vs.length->bC k ks vs=(posK k ks).bind fun i=>vs[i]? :=by
 induction ks with
 |nil=>intro vs _;rfl
 |cons k' ks ih=>
  intro vs h
  cases vs with
  |nil=>cases h
  |cons v vs=>
   have ih:=ih (vs:=vs) (Nat.succ.inj h)
   unfold posK at ih ⊢
   rw[Zf]
   show(match decide (k=k') with|true=>some v|false=>bC k ks vs)=_
   cases q:decide (k=k') with
   |true=>rfl
   |false=>
    show bC k ks vs=_
    rw[ih]
    cases List.findIdx? (fun p=>decide (k=p)) ks<;>rfl
end
end
section
variable{G:Gl}{β:List BA}{F:Addr->Prop}{Hp:Heap}{s:Shared}{v:V}{X Y:Value}{vs:List V}{p:BA}{a:Nat}{b q:Addr}{A:Around}{Er:Value->Shared->Prop}
 {k:Key}{ks:List Key}{es:List DictEntry}{dA:Addr}
theorem jw{Q:Option Value->Shared->Prop}(hu:A.units<cLine)(D:vc G β F s.heap dA ks vs es)(hk:aR k ks=true)(hX:VR G β F s.heap k.v X)
  (hs:∀v Y tk,bC k ks vs=some v->VR G β F s.heap v Y->Q (some Y) { s with toks:=tk})(hn:∀tk,bC k ks vs=none->Q none { s with toks:=tk}):
  WS G.m A (dictGet dA X) Q Er s:=by
 unfold dictGet
 have lk:=ma (k:=k) (D.len.1.trans D.len.2.symm)
 refine Xg (WJ (kg hu hX fun tk=>WJ (hW (s:={ s with toks:=tk}) hu D hk hX ?_)))
 cases hp:posK k ks with
 |none=>rw[hp]at lk;exact WN (hn tk lk)
 |some i=>
  refine WJ (wpAny_dictEntries (s:={ s with toks:=tk}) D.g rfl (WN ?_))
  have hlt:i<es.length:=D.len.1▸(Yp.mp hp).1
  have hv:vs[i]? =some (vs[i]'(D.len.2▸hlt)):=WR _
  obtain⟨z,hz,hr⟩:=D.v.get hv
  rw[Xj,WR hlt]at hz
  cases hz
  rw[hp]at lk
  rw[YA,WR hlt]
  exact hs _ _ tk (lk.trans hv) hr
theorem xW{γ:Type}(f:DictEntry->γ)(hf:∀e:DictEntry,f { e with val:=Y}=f e):∀(es:List DictEntry)(i:Nat),(es.modify i fun e=>{ e with val:=Y}).map f=es.map f:=by
 intro es
 induction es with
 |nil=>intro i;cases i<;>rfl
 |cons e es ih=>
  intro i
  cases i with
  |zero=>exact congrArg (· ::_) (hf e)
  |succ i=>exact congrArg (f e::·) (ih i)
theorem mod_val:∀(es:List DictEntry)(i:Nat),(es.modify i fun e=>{ e with val:=Y}).map DictEntry.val=(es.map DictEntry.val).set i Y:=by
 intro es
 induction es with
 |nil=>intro i;cases i<;>rfl
 |cons e es ih=>
  intro i
  cases i with
  |zero=>rfl
  |succ i=>exact congrArg (e.val::·) (ih i)
theorem Vk{p:Prop}{_:Decidable p}(e:decide p=false):¬ p:=of_decide_eq_false e
theorem IY{k':Key}{w:V}(q:decide (k=k')=true):bB k (k'::ks)=k'::ks/\fT k v (k'::ks) (w::vs)=v::vs/\posK k (k'::ks)=some 0:=by
 refine⟨?_,?_,?_⟩
 ·show(match decide (k=k') with|true=>k'::ks|false=>k'::bB k ks)=_;rw[q]
 ·show(match decide (k=k') with|true=>v::vs|false=>w::fT k v ks vs)=_;rw[q]
 ·unfold posK;rw[Zf,q];rfl
theorem IT{k':Key}{w:V}(q:decide (k=k')=false):bB k (k'::ks)=k'::bB k ks/\fT k v (k'::ks) (w::vs)=w::fT k v ks vs/\posK k (k'::ks)=(posK k ks).map (· +1):=by
 refine⟨?_,?_,?_⟩
 ·show(match decide (k=k') with|true=>k'::ks|false=>k'::bB k ks)=_;rw[q]
 ·show(match decide (k=k') with|true=>v::vs|false=>w::fT k v ks vs)=_;rw[q]
 ·unfold posK;rw[Zf,q];rfl
noncomputable def NX(k:Key)(v:V)(ks:List Key)(vs:List V):Option Nat->Prop
 |some i=>bB k ks=ks/\fT k v ks vs=vs.set i v
 |none=>bB k ks=ks++[k]/\fT k v ks vs=vs++[v]/\k∉ks
theorem rS:∀{vs:List V},ks.length=vs.length->NX k v ks vs (posK k ks):=by
 induction ks with
 |nil=>intro vs h;cases vs with|nil=>exact⟨rfl,rfl,fun h=>nomatch h⟩|cons _ _=>cases h
 |cons k' ks ih=>
  intro vs h
  cases vs with
  |nil=>cases h
  |cons w vs=>
   have ih:=ih (vs:=vs) (Nat.succ.inj h)
   cases q:decide (k=k') with
   |true=>
    have h:=IY (k:=k) (ks:=ks) (v:=v) (vs:=vs) (w:=w) q
    rw[h.2.2]
    exact⟨h.1,h.2.1⟩
   |false=>
    have h:=IT (k:=k) (ks:=ks) (v:=v) (vs:=vs) (w:=w) q
    rw[h.2.2]
    revert ih
    cases posK k ks with
    |some i=>exact fun ih=>⟨h.1.trans (congrArg _ ih.1),h.2.1.trans (congrArg _ ih.2)⟩
    |none=>exact fun ih=>⟨h.1.trans (congrArg _ ih.1),h.2.1.trans (congrArg _ ih.2.1),fun m=>(Xp.mp m).elim (Vk q) ih.2.2⟩
theorem Eb(D:vc G β F Hp dA ks vs es)(hk:aR k ks=true)(hX:VR G β F Hp k.v X)(hY:VR G β F Hp v Y)(hz:ks.length<SZ):
  ∃es',es'=(match posK k ks with|none=>es++[⟨keyHash G k,X,Y⟩]|some i=>es.modify i fun e=>{ e with val:=Y})/\DK G (bB k ks) es'/\cY G β F Hp ((bB k ks).map Key.v) (es'.map DictEntry.key)/\cY G β F Hp (fT k v ks vs) (es'.map DictEntry.val):=by
 refine⟨_,rfl,?_⟩
 have pi:=rS (k:=k) (v:=v) (D.len.1.trans D.len.2.symm)
 revert pi
 cases posK k ks with
 |none=>
  intro pi
  obtain⟨h1,h2,h3⟩:=pi
  have hh:=IU hk D.d.ho
  have all:∀a∈ks++[k],a.isInt=k.isInt:=fun a ha=>by
   rcases Xv.mp ha with ha|ha
   ·exact hh a ha
   ·rw[WW.mp ha]
  rw[h1,h2,Xr,Xr,Xr]
  refine⟨⟨by rw[Xr,Xr,D.d.hs];rfl,Yi.mpr ⟨D.d.nd,aal _ _,fun a ha b hb e=>h3 ?_⟩,fun a ha b hb=>(all a ha).trans (all b hb).symm,by rw[Xd];exact hz⟩,D.k.snoc hX,D.v.snoc hY⟩
  rw[<-WW.mp hb, <-e];exact ha
 |some i=>
  intro pi
  rw[pi.1,pi.2]
  exact⟨⟨(xW DictEntry.hash (fun _=>rfl) es i).trans D.d.hs,D.d.nd,D.d.ho,D.d.z⟩,by rw[xW DictEntry.key (fun _=>rfl) es i];exact D.k,by rw[mod_val es i];exact D.v.set hY i⟩
theorem lG{Q:Unit->Shared->Prop}(hu:A.units<cLine)(D:vc G β F s.heap dA ks vs es)(hk:aR k ks=true)(hX:VR G β F s.heap k.v X)(hY:VR G β F s.heap v Y)(hz:ks.length<SZ)
  (hq:∀Hp' es',Hp'.get? dA=some (bk es'.toArray (bB k ks).length)->DK G (bB k ks) es'->cY G β F s.heap ((bB k ks).map Key.v) (es'.map DictEntry.key)->cY G β F s.heap (fT k v ks vs) (es'.map DictEntry.val)->Heap.SameBut dA s.heap Hp'->Q () { s with heap:=Hp'}):
  WS G.m A (dictSetHashed dA X (keyHash G k) Y) Q Er s:=by
 obtain⟨es',e,d1,d2,d3⟩:=Eb D hk hX hY hz
 have pi:=rS (k:=k) (v:=v) (D.len.1.trans D.len.2.symm)
 unfold dictSetHashed
 refine Xg (WJ (hW hu D hk hX ?_))
 revert pi e
 cases posK k ks with
 |none=>
  intro e pi
  refine WJ (wpAny_rule (wpAny_updateDictKeys (hz:=by rw[aa5, <-D.len.1];exact qg (Xl hz)) D.g rfl (hq _ es' ?_ d1 d2 d3 (Heap.SameBut.update ..))))
  rw[Heap.get?_update_self _ D.g rfl,pi.1,e,Xd]
  exact congrArg (fun a=>some (bk a _)) (aa6 _ _)
 |some i=>
  intro e pi
  refine WJ (wpAny_rule (WJ (wpAny_updateDict D.g rfl (wpAny_point (hq _ es' ?_ d1 d2 d3 (Heap.SameBut.update ..))))))
  rw[Heap.get?_update_self _ D.g rfl,pi.1,e]
  exact congrArg (fun a=>some (bk a _)) List.modify_toArray
theorem jf{Q:Unit->Shared->Prop}(hu:A.units<cLine)(D:vc G β F s.heap dA ks vs es)(hk:aR k ks=true)(hX:VR G β F s.heap k.v X)(hY:VR G β F s.heap v Y)(hz:ks.length<SZ)
  (hq:∀Hp' es' tk,Hp'.get? dA=some (bk es'.toArray (bB k ks).length)->DK G (bB k ks) es'->cY G β F s.heap ((bB k ks).map Key.v) (es'.map DictEntry.key)->cY G β F s.heap (fT k v ks vs) (es'.map DictEntry.val)->Heap.SameBut dA s.heap Hp'->Q () { s with heap:=Hp',toks:=tk}):
  WS G.m A (dictSet dA X Y) Q Er s:=by
 unfold dictSet
 exact Xg (WJ (kg hu hX fun tk=>lG (s:={ s with toks:=tk}) hu D hk hX hY hz fun Hp' es'=>hq Hp' es' tk))
end
section
structure cz(A:Around)(d:Nat):Prop where
 hd:A.handled=none
 dp:A.depth+4*d<990
 un:A.units+16*d+200<9900
 gu:A.guards=some []
theorem cz.unit{A:Around}{d:Nat}(r:cz A d)(n:Nat)(hn:n<=100):A.units+n<cLine:=by have:=r.un;unfold cLine;omega
theorem cz.u0{A:Around}{d:Nat}(r:cz A d):A.units<cLine:=r.unit 0 (XI _)
theorem cz.u1{A:Around}{d:Nat}(r:cz A d):A.in1.units<cLine:=r.unit 1 (by decide)
noncomputable def fx:BF->CmpOp
 |.eq=>.Eq|.ne=>.NotEq|.lt=>.Lt|.gt=>.Gt|.ge=>.GtE|.is=>.Is|.pG=>.IsNot|.mem=>.In|.cg=>.NotIn
noncomputable def EB(y x:Value):Bool:=match y,x with
 |.int a _,.int b _=>a==b
 |.str a _,.str b _=>a.cps.toList==b.cps.toList
 |_,_=>false
section
variable{G:Gl}{β:List BA}{F:Addr->Prop}{Hp:Heap}{x y:Sx}{s:Shared}{u v r:V}{X Y:Value}{vs us:List V}{o:O}{a n d:Nat}{b q:Addr}{A:Around}{Er:Value->Shared->Prop}
 {k:Key}{ks:List Key}{es:List DictEntry}{dA l:Addr}{c:Bool}{items:Array Value}
theorem MM{z:Nat}(h:z<=SZ):((z:Nat):Int)<2 ^ 63:=Yb (XX.mpr h) (by decide)
theorem nG{Q:Bool->Shared->Prop}(g:s.heap.get? l=some (dg items n))(hl:vs.length=items.size)(z:vs.length<=SZ)(hq:∀tk,Q (!vs.isEmpty) { s with toks:=tk}):WS G.m A (truthy (.ref l)) Q Er s:=by
 refine wpAny_truthy_list ⟨_,g,rfl,n,rfl⟩ (MM (hl▸z)) ?_
 have:items.isEmpty=vs.isEmpty:=by rw[Bool.eq_iff_iff,ZF,abi, <-hl,YI]
 rw[this];exact hq _
@[elab_as_elim] theorem JJ{P:V->Bool->Prop}(e:truth v=some c)(k1:∀b,P (.bool b) b)(k2:∀vs,P (.lst vs) (!vs.isEmpty)):P v c:=by
 cases v with
 |bool b=>cases e;exact k1 _
 |lst vs=>cases e;exact k2 _
 |_=>exact sn e rfl
theorem fW{Q:Bool->Shared->Prop}(e:truth v=some c)(hv:Vr G x v X)(hq:∀tk,Q c { x.s with toks:=tk}):WS G.m A (truthy X) Q Er x.s:=by
 revert hv hq
 exact JJ e (fun b hv hq=>hv.IG▸wpAny_truthy_bool (hq x.s.toks)) fun vs hv hq=>hv.hH fun l items n g _ hl z _=>nG g hl z hq
@[elab_as_elim] theorem OJ{P:V->V->Bool->Prop}(e:eqB u v=some c)(k1:∀i j,P (.int i) (.int j) (decide (i=j)))(k2:∀i j,P (.str i) (.str j) (decide (i=j))):P u v c:=by
 cases u with
 |int i=>cases v with
  |int j=>cases e;exact k1 _ _
  |_=>exact sn e rfl
 |str i=>cases v with
  |str j=>cases e;exact k2 _ _
  |_=>exact sn e rfl
 |_=>exact sn e rfl
theorem lC{α:Type}[DecidableEq α][BEq α][LawfulBEq α](a b:α):(a==b)=decide (a=b):=by rw[Bool.eq_iff_iff,beq_iff_eq,decide_eq_true_eq]
theorem qM(e:eqB u v=some c)(hu:VR G β F Hp u Y)(hv:VR G β F Hp v X):EqGives Y X c/\EB Y X=c:=by
 revert hu hv
 refine OJ e (fun i j hu hv=>hu.cT fun t=>hv.cT fun t'=>?_) fun i j hu hv=>hu.nT fun S t e=>hv.nT fun S' t' e'=>?_
 ·rw[<-lC];exact⟨EqGives.int i j t t',rfl⟩
 ·rw[<-lC, <-e, <-e'];exact⟨SeqRoads2.EqGives.str S S' t t',rfl⟩
theorem pR:∀{items:List Value},cY G β F Hp vs items->vs.all (fun u=>(eqB u v).isSome)=true->VR G β F Hp v X->(∀y∈items,EqGives y X (EB y X))/\items.any (fun y=>EB y X)=vs.any (lZ v):=by
 induction vs with
 |nil=>intro items hl _ _;cases hl;exact⟨fun y hy=>(nomatch hy),rfl⟩
 |cons u r ih=>
  intro items hl hc hv
  cases hl with
  |cons a t=>
   obtain⟨h1,h2⟩:=br (show((eqB u v).isSome&&r.all _)=true from hc)
   obtain⟨b,hb⟩:=YZ.mp h1
   obtain⟨g1,g2⟩:=qM hb a hv
   obtain⟨i1,i2⟩:=ih t h2 hv
   refine⟨fun y hy=>?_,?_⟩
   ·cases hy with
    |head=>rw[g2];exact g1
    |tail _ hy=>exact i1 y hy
   ·rw[ZM,ZM,i2,g2]
    unfold lZ
    rw[hb];cases b<;>rfl
theorem hE:∀{vs:List V}{l:List (List Nat)},strs? vs=some l->vs=l.map V.str:=by
 intro vs
 induction vs with
 |nil=>intro l e;cases e;rfl
 |cons v vs ih=>
  intro l e
  cases v with
  |str s=>
   obtain⟨ys,hy,rfl⟩:=Xe.mp e
   rw[ih hy];rfl
  |_=>exact sn e rfl
theorem yp{l:List (List Nat)}{items:Array Value}(hl:cY G β F Hp (l.map V.str) items.toList){j:Nat}(h1:j<items.size):∃S t,items[j]=.str S t/\l[j]? =some S.cps.toList:=by
 have hn:j<l.length:=YT h1 ((WK V.str).symm.trans hl.len).symm
 obtain⟨y,hy,hv⟩:=hl.get (i:=j) (v:=.str l[j]) (by rw[Xj,WR hn];rfl)
 rw[XZ,Zq h1]at hy
 rw[Option.some.inj hy,WR hn]
 exact hv.nT fun S t q=>⟨S,t,rfl,congrArg _ q.symm⟩
theorem rv{α:Type}[DecidableEq α]{x y:List α}{n:Nat}(hx:x.length=n)(hy:y.length=n):((Xq n).all fun j=>decide (x[j]? =y[j]?))=decide (x=y):=by
 rw[Bool.eq_iff_iff,YO,decide_eq_true_eq]
 refine⟨fun q=>YX fun i=>?_,fun q j _=>by rw[q];exact decide_eq_true rfl⟩
 by_cases hi:i<n
 ·exact of_decide_eq_true (q i (Yz.mpr hi))
 ·rw[XD (hx▸Yu.mp hi),XD (hy▸Yu.mp hi)]
theorem HB(e:KA vs us=some c):(vs.length≠us.length/\c=false)\/∃a b:List (List Nat),vs=a.map V.str/\us=b.map V.str/\a.length=b.length/\c=decide (a=b):=by
 have ne:∀{vs us:List V}{l},vs.isEmpty=true->strs? us=l->l=none->vs.length≠us.length:=fun h1 h2 h3 q=>by
  rw[abi.mp h1]at q
  rw[YI.mp q.symm]at h2
  exact sn (o:=strs? []) rfl (h2.trans h3)
 unfold KA at e
 cases ex:strs? vs with
 |some a=>
  rw[ex]at e
  cases ey:strs? us with
  |some b=>
   rw[ey]at e
   cases e
   have e1:=hE ex
   have e2:=hE ey
   by_cases hl:a.length=b.length
   ·exact .inr ⟨a,b,e1,e2,hl,rfl⟩
   ·exact .inl ⟨by rw[e1,e2,WK,WK];exact hl,decide_eq_false fun q=>hl (congrArg _ q)⟩
  |none=>
   rw[ey]at e
   dsimp only at e
   by_cases hv:vs.isEmpty=true
   ·rw[if_pos hv]at e;cases e;exact .inl ⟨ne hv ey rfl,rfl⟩
   ·rw[if_neg hv]at e;cases e
 |none=>
  rw[ex]at e
  cases ey:strs? us with
  |some b=>
   rw[ey]at e
   dsimp only at e
   by_cases hv:us.isEmpty=true
   ·rw[if_pos hv]at e;cases e;exact .inl ⟨(ne hv ex rfl).symm,rfl⟩
   ·rw[if_neg hv]at e;cases e
  |none=>rw[ey]at e;cases e
theorem mQ(neg:Bool){l':Addr}{items':Array Value}{n':Nat}{Q:Value->Shared->Prop}(rm:cz A d)(e:KA vs us=some c)
  (g:s.heap.get? l=some (dg items n))(hl:cY G β F s.heap vs items.toList)(g':s.heap.get? l'=some (dg items' n'))(hl':cY G β F s.heap us items'.toList)
  (hq:Q (.bool (cond neg (!c) c)) s):WS G.m A (compareOp (if neg then .NotEq else .Eq) (.ref l) (.ref l')) Q Er s:=by
 have z1:vs.length=items.size:=hl.len
 have z2:us.length=items'.size:=hl'.len
 rcases HB e with ⟨hne,rfl⟩|⟨a,b,rfl,rfl,hlen,rfl⟩
 ·have hs:(items.size !=items'.size)=true:=bne_iff_ne.mpr fun q=>hne (z1.trans (q.trans z2.symm))
  cases neg with
  |false=>exact P.eq_list_lengths g g' hs rm.u0 hq
  |true=>exact richCompare_meets_room (op:=.NotEq) ⟨_,g,rfl⟩ ⟨_,g',rfl⟩ PySem.F.slot_list_ne PySem.F.entry_list_ne (PySem.F.args_list_ne_2 _ _) (list_ne_lengthsAt l l' items items' n n' none none #[] #[] hs) ⟨g,g',(fun x=>nomatch x),hq⟩ rm.u0
 ·rw[WK]at z1 z2
  have hs:items.size=items'.size:=z1.symm.trans (hlen.trans z2)
  have he:∀j (h1:j<items.size) (h2:j<items'.size),EqGives items[j] items'[j] (decide (a[j]? =b[j]?)):=by
   intro j h1 h2
   obtain⟨S,t,e1,e2⟩:=yp hl h1
   obtain⟨S',t',e3,e4⟩:=yp hl' h2
   rw[e1,e3,e2,e4, <-show(S.cps.toList==S'.cps.toList)=decide (some S.cps.toList=some S'.cps.toList) by rw[lC];exact decide_eq_decide.mpr (Option.some.injEq _ _▸Iff.rfl)]
   exact SeqRoads2.EqGives.str S S' t t'
  have fin:=rv z1 (hlen.symm.trans z1)
  cases neg with
  |false=>
   refine P.eq_list (e:=fun j=>decide (a[j]? =b[j]?)) g g' hs he rm.u0 ?_
   rw[fin]
   exact hq
  |true=>
   refine richCompare_meets_room (op:=.NotEq) ⟨_,g,rfl⟩ ⟨_,g',rfl⟩ PySem.F.slot_list_ne PySem.F.entry_list_ne (PySem.F.args_list_ne_2 _ _)
    (list_neAt l l' items items' n n' none none #[] #[] hs (fun j=>decide (a[j]? =b[j]?))) ⟨g,g',fun j h1 h2=>(he j h1 h2).at _ _,(fun x=>nomatch x),?_⟩ rm.u0
   rw[fin]
   exact hq
theorem Le(neg:Bool){Q:Value->Shared->Prop}(e:eqB u v=some c)(hu:Vr G x u Y)(hv:Vr G x v X)(hq:Q (.bool (cond neg (!c) c)) x.s):WS G.m A (compareOp (if neg then .NotEq else .Eq) Y X) Q Er x.s:=by
 revert hu hv hq
 refine OJ e (fun i j hu hv hq=>hu.cT fun t=>hv.cT fun t'=>?_) fun i j hu hv hq=>hu.nT fun S t e=>hv.nT fun S' t' e'=>?_
 ·rw[<-lC]at hq
  cases neg with
  |false=>exact eq_int hq
  |true=>exact ne_int hq
 ·rw[<-lC, <-e, <-e']at hq
  cases neg with
  |false=>exact PySem.P.eq_str hq
  |true=>exact PySem.P.ne_str hq
@[elab_as_elim] theorem SD{P:V->V->Prop}(e:eqv u v=some c)(k1:eqB u v=some c->P u v)(k2:∀vs us,KA vs us=some c->P (.lst vs) (.lst us)):P u v:=by
 cases u with
 |lst vs=>cases v with
  |lst us=>exact k2 _ _ e
  |_=>exact k1 e
 |_=>exact k1 e
theorem CA(neg:Bool){Q:Value->Shared->Prop}(rm:cz A d)(e:eqv u v=some c)(hu:Vr G x u Y)(hv:Vr G x v X)(hq:Q (.bool (cond neg (!c) c)) x.s):WS G.m A (compareOp (if neg then .NotEq else .Eq) Y X) Q Er x.s:=by
 revert hu hv
 exact SD e (fun e hu hv=>Le neg e hu hv hq) fun vs us e hu hv=>hu.hH fun l items n g _ _ _ hl=>hv.hH fun l' items' n' g' _ _ _ hl'=>mQ neg rm e g hl g' hl' hq
theorem tm(hv:VR G β F Hp v X):(X==Value.none)=isNone v:=by cases hv<;>rfl
end
end
section
variable{G:Gl}{β:List BA}{F:Addr->Prop}{x y:Sx}{s:Shared}{u v r:V}{X Y:Value}{vs:List V}{o:O}{p:BA}{n d:Nat}{q:Addr}{A:Around}{Er:Value->Shared->Prop}
 {k:Key}{ks:List Key}{es:List DictEntry}{dA l:Addr}{c:Bool}{items:Array Value}
theorem ints_map:∀{vs:List V}{is:List Int},ints? vs=some is->vs=is.map V.int:=by
 intro vs
 induction vs with
 |nil=>intro is e;cases e;rfl
 |cons v vs ih=>
  intro is e
  cases v with
  |int i=>
   obtain⟨js,hj,rfl⟩:=Xe.mp e
   rw[ih hj];rfl
  |_=>exact sn e rfl
theorem jH(e:v.key? =some k):v=k.v:=by
 cases v with
 |int i=>cases e;rfl
 |tup vs=>
  obtain⟨is,hi,rfl⟩:=Xe.mp e
  rw[ints_map hi];rfl
 |_=>exact sn e rfl
theorem yg{β:Type}{f:Key->Option β}{z:β}{i:V}(e:(match i.key? with|some k=>(match aR k ks with|true=>f k|false=>none)|none=>none)=some z):∃k,i=k.v/\aR k ks=true/\f k=some z:=by
 cases q:i.key? with
 |none=>rw[q]at e;cases e
 |some k=>
  rw[q]at e
  dsimp only at e
  cases m:aR k ks with
  |false=>rw[m]at e;cases e
  |true=>rw[m]at e;exact⟨k,jH q,m,e⟩
theorem yZ(neg:Bool){Q:Value->Shared->Prop}(rm:cz A d)(D:vc G β F s.heap dA ks vs es)(hk:aR k ks=true)(hX:VR G β F s.heap k.v X)(hq:∀tk,Q (.bool (cond neg (!ks.contains k) (ks.contains k))) { s with toks:=tk}):
  WS G.m A (compareOp (if neg then .NotIn else .In) X (.ref dA)) Q Er s:=by
 have hT:s.TypeIs (.ref dA) "dict":=⟨_,D.g,rfl⟩
 have lk:ks.contains k=(bC k ks vs).isSome:=by
  rw[ma (D.len.1.trans D.len.2.symm)]
  cases hp:posK k ks with
  |none=>
   refine Bool.eq_false_iff.mpr fun z=>?_
   have:=aae.mp hp k (ZD.mp z)
   exact absurd rfl (Vk this)
  |some i=>
   obtain⟨h1,h2,_⟩:=Yp.mp hp
   have h3:i<vs.length:=(D.len.1.trans D.len.2.symm)▸h1
   show _=(vs[i]?).isSome
   rw[WR h3]
   exact ZD.mpr (dt h2▸Yh h1)
 rw[lk]at hq
 have ct:∀{Q:Bool->Shared->Prop},(∀tk,Q (bC k ks vs).isSome { s with toks:=tk})->WS G.m A (contains (.ref dA) X) Q Er s:=by
  intro Q hq
  unfold contains
  refine Xg (WJ (wpAny_specialOf hT slot_dict_contains.lookup ?_))
  show WS _ _ (if(some (Value.builtin "dict.__contains__")==some Value.none)=true then _ else _) _ Er s
  rw[if_neg (by rw[beq_builtin_none];exact Bool.false_ne_true)]
  refine WJ (wpAny_callSpecialUnlessNone?_slot (name:=Str.ofString "__contains__") hT slot_dict_contains
   (wpAny_call_entry slot_dict_contains hT entry_dict_contains ?_ (args_dict_contains _ _)))
  show WS _ _ (dictGet dA X>>=_) _ _ s
  refine WJ (jw (A:=A.in1) rm.u1 D hk hX (fun v Y tk e _=>?_) (fun tk e=>?_))
  ·have:=hq tk
   rw[e]at this
   exact WN ⟨_,rfl,wpAny_truthy_bool this⟩
  ·show WS _ _ (Builtin.Dict.pendingKey? dA X>>=_) _ _ _
   have:=hq tk
   rw[e]at this
   exact WJ (wpAny_pendingKey_other D.m (WN ⟨_,rfl,wpAny_truthy_bool this⟩))
 cases neg with
 |false=>
  show WS _ _ (do return .bool (<-contains (.ref dA) X)) Q Er s
  exact WJ (ct fun tk=>WN (hq tk))
 |true=>
  show WS _ _ (do return .bool (!(<-contains (.ref dA) X))) Q Er s
  exact WJ (ct fun tk=>WN (hq tk))
theorem tV(e:oV v vs=some c):vs.all (fun u=>(eqB u v).isSome)=true/\c=vs.any (lZ v):=by
 unfold oV at e
 cases q:vs.all (fun u=>(eqB u v).isSome) with
 |true=>rw[q]at e;cases e;exact⟨rfl,rfl⟩
 |false=>rw[q]at e;cases e
theorem Ag(neg:Bool){Q:Value->Shared->Prop}(e:oV v vs=some c)(hv:VR G β F s.heap v X)(hl:cY G β F s.heap vs items.toList)(g:s.heap.get? l=some (oTup items n))(hq:Q (.bool (cond neg (!c) c)) s):
  WS G.m A (compareOp (if neg then .NotIn else .In) X (.ref l)) Q Er s:=by
 obtain⟨h1,rfl⟩:=tV e
 obtain⟨g1,g2⟩:=pR hl h1 hv
 rw[<-g2,aam]at hq
 cases neg with
 |false=>exact SeqRoads2.in_tuple (fun y=>EB y X) (fun y hy=>g1 y (YF.mpr hy)) g hq
 |true=>exact SeqRoads2.notIn_tuple (fun y=>EB y X) (fun y hy=>g1 y (YF.mpr hy)) g hq
theorem yD(neg:Bool){Q:Value->Shared->Prop}(e:oV v vs=some c)(hv:VR G β F s.heap v X)(hl:cY G β F s.heap vs items.toList)(g:s.heap.get? l=some (dg items n))(hq:Q (.bool (cond neg (!c) c)) s):
  WS G.m A (compareOp (if neg then .NotIn else .In) X (.ref l)) Q Er s:=by
 obtain⟨h1,rfl⟩:=tV e
 obtain⟨g1,g2⟩:=pR hl h1 hv
 rw[<-g2,aam]at hq
 cases neg with
 |false=>exact SeqRoads2.in_list (fun y=>EB y X) (fun y hy=>g1 y (YF.mpr hy)) g hq
 |true=>exact SeqRoads2.notIn_list (fun y=>EB y X) (fun y hy=>g1 y (YF.mpr hy)) g hq
theorem sI(neg:Bool){Q:Value->Shared->Prop}(rm:cz A d)(e:bX v o=some c)(hv:VR G β F s.heap v X)(O:OR G β F s.heap o p)(hq:∀tk,Q (.bool (cond neg (!c) c)) { s with toks:=tk}):
  WS G.m A (compareOp (if neg then .NotIn else .In) X (.ref p.1)) Q Er s:=by
 cases o with
 |list vs=>exact O.listE fun l items n g _ _ hl=>yD neg e hv hl g (hq s.toks)
 |dict ks vs=>
  obtain⟨k,rfl,hk,e⟩:=yg (f:=fun k=>some (ks.contains k)) e
  cases e
  exact O.lM fun l es D=>yZ neg rm D hk hv hq
 |inst _ _ _=>cases e
@[elab_as_elim] theorem Nz{P:V->Prop}{h:H}(e:GO u v h=some c)(k1:∀vs,oV u vs=some c->P (.tup vs))(k2:∀o,rd v h=some o->bX u o=some c->P v):P v:=by
 have r:(rd v h).bind (bX u)=some c->P v:=fun e=>(XB.mp e).elim fun o q=>k2 o q.1 q.2
 cases v with
 |tup vs=>exact k1 vs e
 |_=>exact r e
theorem xf(neg:Bool){Q:Value->Shared->Prop}(rm:cz A d)(M:bF G x)(e:GO u v x.h=some c)(hu:Vr G x u X)(hv:Vr G x v Y)(hq:∀tk,Q (.bool (cond neg (!c) c)) { x.s with toks:=tk}):
  WS G.m A (compareOp (if neg then .NotIn else .In) X Y) Q Er x.s:=by
 have hv':=hv
 revert hv'
 refine Nz e (fun vs e hv=>hv.jW fun l items n g _ _ _ hl=>Ag neg e hu hl g (hq x.s.toks)) fun o e1 e2 _=>?_
 obtain⟨p,rfl,O⟩:=read M hv e1
 exact sI neg rm e2 hu O hq
theorem ve{f:Int->Int->Bool}{P:V->V->Prop}(e:lt? u v f=some c)(k:∀i j,c=f i j->P (.int i) (.int j)):P u v:=by
 cases u with
 |int i=>cases v with
  |int j=>exact k i j (Option.some.inj e).symm
  |_=>exact sn e rfl
 |_=>exact sn e rfl
theorem zI(e:isNone v=true):v=.none:=by cases v<;>first|rfl|cases e
theorem CI{c':Bool}(e:(match isNone v with|true=>some c'|false=>none)=some c):v=.none/\c=c':=by
 cases q:isNone v with
 |true=>rw[q]at e;exact⟨zI q,(Option.some.inj e).symm⟩
 |false=>rw[q]at e;cases e
theorem BB(op:BF){Q:Value->Shared->Prop}(rm:cz A d)(M:bF G x)(e:zH op u v x.h=some c)(hu:Vr G x u X)(hv:Vr G x v Y)(hq:∀tk,Q (.bool c) { x.s with toks:=tk}):WS G.m A (compareOp (fx op) X Y) Q Er x.s:=by
 have hq0:=hq x.s.toks
 cases op with
 |eq=>exact CA false rm e hu hv hq0
 |ne=>
  obtain⟨c',hc,rfl⟩:=Xe.mp e
  exact CA true rm hc hu hv hq0
 |lt=>revert hu hv;exact ve (P:=fun u v=>Vr G x u X->Vr G x v Y->_) e fun i j q hu hv=>hu.cT fun t=>hv.cT fun t'=>lt_int (q▸hq0)
 |gt=>revert hu hv;exact ve (P:=fun u v=>Vr G x u X->Vr G x v Y->_) e fun i j q hu hv=>hu.cT fun t=>hv.cT fun t'=>gt_int (q▸hq0)
 |ge=>revert hu hv;exact ve (P:=fun u v=>Vr G x u X->Vr G x v Y->_) e fun i j q hu hv=>hu.cT fun t=>hv.cT fun t'=>ge_int (q▸hq0)
 |is=>
  obtain⟨rfl,rfl⟩:=CI e
  obtain rfl:=hv.CS
  refine is_none_gen ?_
  rw[tm hu];exact hq0
 |pG=>
  obtain⟨rfl,rfl⟩:=CI e
  obtain rfl:=hv.CS
  refine isnot_none_gen ?_
  show Q (.bool (!(X==Value.none))) x.s
  rw[tm hu];exact hq0
 |mem=>exact xf false rm M e hu hv hq
 |cg=>
  obtain⟨c',hc,rfl⟩:=Xe.mp e
  exact xf true rm M hc hu hv hq
end
section
structure gz(G:Gl)(A:Around)(o i:Value)(Q:Value->Shared->Prop)(E:Value->Shared->Prop)(s:Shared)(T id:String):Prop where
 l:typeLookup (.type T) "__getitem__"=pure (some (.builtin id))
 t:s.TypeIs o T
 g:WS G.m A (getItem o i) Q E s
section
variable{G:Gl}{β:List BA}{F:Addr->Prop}{Hp:Heap}{x:Sx}{s s':Shared}{u v r i:V}{X Y Z:Value}{vs:List V}{o o':O}{p:BA}{n d:Nat}{q:Addr}{A:Around}{Er:Value->Shared->Prop}{Q:Value->Shared->Prop}
 {k:Key}{ks:List Key}{es:List DictEntry}{dA l:Addr}{c:Bool}{items:Array Value}{env:PySem.Env}
theorem AU{value slice:Expr}{pos:Pos}(hs:∀o i,∃ops,subscripted slice false o i=operate ops (getItem o i))
  (h:WS G.m A (eval value env) (fun o s₁=>WS G.m A (eval slice env) (fun i s₂=>∃T id,gz G A o i Q Er s₂ T id) Er s₁) Er s):
  WS G.m A (eval (.Subscript value slice pos) env) Q Er s:=by
 rw[eval_Subscript]
 refine WJ (wpAny_mono h (fun o s₁ h₁=>WJ (Xg (wpAny_mono h₁ (fun i s₂ h₂=>WJ (Xu ?_)) fun _ _ x=>x))) fun _ _ x=>x)
 obtain⟨T,id,h₂⟩:=h₂
 obtain⟨ops,hops⟩:=hs o i
 refine WJ ?_
 rw[getitemInPython_of_ne h₂.t.not_modules]
 refine WJ (wpAny_specialOf h₂.t h₂.l ?_)
 have fin:WS G.m A (subscripted slice false o i) (fun r s₃=>WS G.m A (letTemporaryGo value o r>>=fun _=>pure r) Q Er s₃) Er s₂:=by
  rw[hops]
  exact wpAny_operating (wpAny_mono h₂.g (fun r s₃ h₃=>WJ (wpAny_letTemporaryGo (WN h₃))) fun _ _ x=>x)
 first
  |exact WN (WJ fin)
  |exact WJ (WN (WJ fin))
  |exact WJ fin
theorem Bn{P:Int->Prop}{k:Int}(e:MF vs k=some v)(hl:cY G β F Hp vs items.toList)(K:∀m X,items[m]? =some X->VR G β F Hp v X->m<items.size->P m/\P ((m:Int)-items.size)):P k:=by
 have go:∀n,vs[n]? =some v->∃m:Nat,m=n/\n<items.size/\P n/\P ((n:Int)-items.size):=fun n e=>by
  obtain⟨X,hx,hv⟩:=hl.get e
  have lt:n<items.size:=YT (WL.mp e).1 hl.len
  exact⟨n,rfl,lt,K n X (XZ▸hx) hv lt⟩
 cases k with
 |ofNat n=>obtain⟨_,_,_,h,_⟩:=go n e;exact h
 |negSucc n=>
  have lt:n<vs.length:=Yc (as:=vs)▸(WL.mp (show vs.reverse[n]? =some v from e)).1
  obtain⟨_,_,h2,_,h⟩:=go (vs.length-1-n) ((ZE lt).symm.trans e)
  have hlen:vs.length=items.size:=hl.len
  rw[show Int.negSucc n=((vs.length-1-n:Nat):Int)-items.size by omega]
  exact h
theorem IL{k:Int}{m s:Nat}(j:(if k<0 then k+s else k)=(m:Int))(h:m<s):seqIndex? k s=some m:=by
 unfold seqIndex?
 dsimp only
 rw[j,decide_eq_true (WU m),decide_eq_true (XJ.mpr h)];rfl
theorem Gp{k:Int}{t:Tok}(e:MF vs k=some v)(hl:cY G β F s.heap vs items.toList)(z:vs.length<=SZ)(g:s.heap.get? l=some (oTup items n))(hq:∀Z tk,VR G β F s.heap v Z->Q Z { s with toks:=tk}):∃T id,gz G A (.ref l) (.int k t) Q Er s T id:=by
 refine Bn (P:=fun k=>∃T id,gz G A (.ref l) (.int k t) Q Er s T id) e hl fun m X g' hv lt=>?_
 have z:items.size<=16777216:=WH (WO hl.len.symm) z
 have hn:(m:Int)-items.size<0:=aa7 (XJ.mpr lt)
 exact⟨⟨"tuple",_,PySem.F.slot_tuple_getitem.lookup,⟨_,g,rfl⟩,P.getItem_tuple g (by omega) (by omega) (IL (if_neg (YU.mpr (WU m))) lt) g' (hq X s.toks hv)⟩,
  ⟨"tuple",_,PySem.F.slot_tuple_getitem.lookup,⟨_,g,rfl⟩,P.getItem_tuple g (by omega) (by omega) (IL (by rw[if_pos hn,ZX]) lt) g' (hq X s.toks hv)⟩⟩
theorem Bm{k:Int}{t:Tok}(e:MF vs k=some v)(hl:cY G β F s.heap vs items.toList)(z:vs.length<=SZ)(g:s.heap.get? l=some (dg items n))(hq:∀Z tk,VR G β F s.heap v Z->Q Z { s with toks:=tk}):∃T id,gz G A (.ref l) (.int k t) Q Er s T id:=by
 refine Bn (P:=fun k=>∃T id,gz G A (.ref l) (.int k t) Q Er s T id) e hl fun m X g' hv lt=>?_
 have z:items.size<=16777216:=WH (WO hl.len.symm) z
 have hn:(m:Int)-items.size<0:=aa7 (XJ.mpr lt)
 exact⟨⟨"list",_,list_getitem_lookup,⟨_,g,rfl⟩,wpAny_getItem_list ⟨_,g,rfl,n,rfl⟩ (WU m) (by omega) g' (hq X s.toks hv)⟩,
  ⟨"list",_,list_getitem_lookup,⟨_,g,rfl⟩,wpAny_getItem_list_neg ⟨_,g,rfl,n,rfl⟩ hn (by omega) (by omega) (by rw[ZX];exact g') (hq X s.toks hv)⟩⟩
theorem Aj(rm:cz A d)(D:vc G β F s.heap dA ks vs es)(hk:aR k ks=true)(hX:VR G β F s.heap k.v X)(e:bC k ks vs=some v)(hq:∀Z tk,VR G β F s.heap v Z->Q Z { s with toks:=tk}):∃T id,gz G A (.ref dA) X Q Er s T id:=by
 have hT:s.TypeIs (.ref dA) "dict":=⟨_,D.g,rfl⟩
 refine⟨"dict",_,slot_dict_getitem.lookup,hT,?_⟩
 unfold getItem
 refine Xg (WJ (wpAny_sequenceKey hT (by decide) ?_))
 refine WJ (wpAny_callSpecial?_slot (name:=Str.ofString "__getitem__") hT slot_dict_getitem
  (wpAny_call_entry slot_dict_getitem hT entry_dict_getitem ?_ (args_dict_getitem _ _)))
 show WS _ _ (dictGet dA X>>=_) _ _ s
 refine WJ (jw (A:=A.in1) rm.u1 D hk hX (fun v' Z tk e' hv'=>WN ⟨Z,rfl,WN (hq Z tk ?_)⟩) (fun tk e'=>sn e e'))
 rw[Option.some.inj (e.symm.trans e')];exact hv'
theorem xZ(rm:cz A d)(e:aH o i=some v)(O:OR G β F s.heap o p)(hi:VR G β F s.heap i Y)(hq:∀Z tk,VR G β F s.heap v Z->Q Z { s with toks:=tk}):∃T id,gz G A (.ref p.1) Y Q Er s T id:=by
 cases o with
 |list vs=>
  refine O.listE fun l items n g _ z hl=>?_
  cases i with
  |int k=>exact hi.cT fun t=>Bm e hl z g hq
  |_=>cases e
 |dict ks vs=>
  obtain⟨k,rfl,hk,e⟩:=yg (f:=fun k=>bC k ks vs) e
  exact O.lM fun l es D=>Aj rm D hk hi e hq
 |inst _ _ _=>cases e
@[elab_as_elim] theorem Nw{P:V->V->Prop}{h:H}(e:cL u i h=some v)(k1:∀vs k,MF vs k=some v->P (.tup vs) (.int k))(k2:∀o,rd u h=some o->aH o i=some v->P u i):P u i:=by
 have r:((rd u h).bind fun o=>aH o i)=some v->P u i:=fun e=>(XB.mp e).elim fun o q=>k2 o q.1 q.2
 cases u with
 |tup vs=>cases i with
  |int k=>exact k1 vs k e
  |_=>exact sn e rfl
 |_=>exact r e
theorem GP(rm:cz A d)(M:bF G x)(e:cL u i x.h=some v)(hu:Vr G x u X)(hi:Vr G x i Y)(hq:∀Z tk,Vr G x v Z->Q Z { x.s with toks:=tk}):∃T id,gz G A X Y Q Er x.s T id:=by
 revert hu hi
 refine Nw e (fun vs k e hu hi=>hu.jW fun l items n g _ _ z hl=>hi.cT fun t=>Gp e hl z g hq) fun o e1 e2 hu hi=>?_
 obtain⟨p,rfl,O⟩:=read M hu e1
 exact xZ rm e2 O hi hq
theorem nS{l:Addr}{items:Array Value}{n:Nat}{k:Int}{t:Tok}{v:Value}{Q:Unit->Shared->Prop}(hl:s.heap.get? l=some (dg items n))
  (h0:0<=k)(hfit:k<2 ^ 63)(hn:k<items.size)
  (hQ:∀h' n',h'.get? l=some (dg (items.setIfInBounds k.toNat v) n')->Heap.SameBut l s.heap h'->Q () { s with heap:=h'}):
  WS G.m A (setItem (.ref l) (.int k t) v) Q Er s:=by
 have hT:s.TypeIs (.ref l) "list":=⟨_,hl,rfl⟩
 unfold setItem
 refine Xg (WJ (wpAny_sequenceKey hT (by decide) ?_))
 refine WJ (wpAny_callSpecial?_slot (name:=Str.ofString "__setitem__") hT slot_list_setitem
  (wpAny_call_entry slot_list_setitem hT entry_list_setitem ?_ (args_list_setitem _ _ _)))
 show WS _ _ (Builtin.List.listSubscript? (.int k t)>>=_) _ _ s
 refine WJ (wpAny_listSubscript_int (fitsIndex_of h0 hfit) ?_)
 clear hfit
 obtain⟨j,rfl⟩:=Yn h0
 have hj:j<items.size:=XJ.mp hn
 show WS _ _ ((seqItemAt l j>>=fun r=>pure (r.map (j,·)))>>=_) _ _ s
 refine WJ (WJ (wpAny_seqItemAt hl rfl (WN ?_)))
 rw[Zq hj]
 show WS _ _ (setSeqItemAt l j v>>=_) _ _ s
 have fin:=hQ (s.heap.update l (Obj.mapSeq (·.setIfInBounds j v))) _ (get?_update_seq hl (·.setIfInBounds j v)) (Heap.SameBut.update ..)
 refine WJ (wpAny_setSeqItemAt hl rfl ?_)
 first
  |exact WN ⟨.none,rfl,WN fin⟩
  |exact WJ (WN (WN ⟨.none,rfl,WN fin⟩))
noncomputable def Wr(G:Gl)(x:Sx)(p:BA)(o':O)(Q:Shared->Prop):Prop:=∀s',iL x.s s'->(∃q,(q=p.1\/q=p.2)/\Heap.ExtBut q x.s.heap s'.heap)->(∀F',pW x.F x.s.heap F' s'.heap->OR G x.β F' s'.heap o' p)->Q s'
theorem PO(h:ks.length<SZ)(e:ks.length=vs.length):(bB k ks).length<=SZ:=by
 have pi:=rS (k:=k) (v:=V.none) e
 revert pi
 cases posK k ks with
 |none=>intro pi;rw[pi.1,Xd];exact h
 |some i=>intro pi;rw[pi.1];exact Xl h
theorem xe{Q:Unit->Shared->Prop}(rm:cz A d)(e:fN o i v=some o')(Op:Or G x o p)(hi:Vr G x i Y)(hv:Vr G x v Z)(hq:Wr G x p o' (Q ())):WS G.m A (setItem (.ref p.1) Y Z) Q Er x.s:=by
 cases o with
 |list vs=>
  revert hq
  refine Op.listE fun l items n g hlen z hl hq=>?_
  cases i with
  |int k=>
   have e:(match decide (0<=k)&&decide (k<vs.length) with|true=>some (O.list (vs.set k.toNat v))|false=>none)=some o':=e
   cases hc:decide (0<=k)&&decide (k<vs.length) with
   |false=>rw[hc]at e;cases e
   |true=>
    rw[hc]at e;cases e
    have h0:0<=k:=dt (br hc).1
    have h1:k<vs.length:=dt (br hc).2
    refine hi.cT fun t=>nS g h0 (Int.lt_trans h1 (MM z)) (hlen▸h1) fun Hp' n' g' hs=>hq _ ⟨_,_,rfl⟩ ⟨l,.inl rfl,hs.extBut⟩ fun F' fr=>.list g' (by rw[Zi];exact z) ?_
    rw[Array.toList_setIfInBounds]
    exact L2.set (cY.mono fr (fun _ _ e=>e) hl) (VR.mono fr (fun _ _ e=>e) hv) _
  |_=>cases e
 |dict ks vs=>
  revert hq
  refine Op.lM fun l es D hq=>?_
  cases hky:i.key? with
  |none=>rw[show fN (.dict ks vs) i v=(match i.key? with|some k=>_|none=>none) from rfl,hky]at e;cases e
  |some k=>
   rw[show fN (.dict ks vs) i v=(match i.key? with|some k=>(match aR k ks&&decide (ks.length<SZ) with|true=>some (O.dict (bB k ks) (fT k v ks vs))|false=>none)|none=>none) from rfl,hky]at e
   dsimp only at e
   cases hc:aR k ks&&decide (ks.length<SZ) with
   |false=>rw[hc]at e;cases e
   |true=>
    rw[hc]at e;cases e
    have hz:ks.length<SZ:=dt (br hc).2
    have hT:x.s.TypeIs (.ref l) "dict":=⟨_,D.g,rfl⟩
    unfold setItem
    refine Xg (WJ (wpAny_sequenceKey hT (by decide) ?_))
    refine WJ (wpAny_callSpecial?_slot (name:=Str.ofString "__setitem__") hT slot_dict_setitem
     (wpAny_call_entry slot_dict_setitem hT entry_dict_setitem ?_ (args_dict_setitem _ _ _)))
    show WS _ _ (Builtin.Dict.notOrdered "__setitem__" ⟨[.ref l,Y,Z],[]⟩>>=_) _ _ x.s
    refine WJ (wpAny_notOrdered_dict hT ?_)
    show WS _ _ (dictSet l Y Z>>=_) _ _ x.s
    refine WJ (jf (A:=A.in1) rm.u1 D (br hc).1 (jH hky▸hi) hv hz fun Hp' es' tk g' d' k' v' hs=>WN ⟨.none,rfl,WN (hq _ ⟨_,_,rfl⟩ ⟨l,.inl rfl,hs.extBut⟩ fun F' fr=>?_)⟩)
    exact .dict g' D.m d' (cY.mono fr (fun _ _ e=>e) k') (cY.mono fr (fun _ _ e=>e) v')
 |inst _ _ _=>cases e
end
end
section
noncomputable def MX:B->Value
 |.len=>.builtin "len"|.range=>.type "range"|.list=>.type "list"|.tuple=>.type "tuple"|.sorted=>.builtin "sorted"|.abs=>.builtin "abs"
 |.max=>.builtin "max"|.sum=>.builtin "sum"|.str=>.type "str"|.int=>.type "int"
section
variable{G:Gl}{β:List BA}{F:Addr->Prop}{Hp:Heap}{x:Sx}{s:Shared}{v r i:V}{X Y:Value}{vs us:List V}{o:O}{p:BA}{a n d:Nat}{b q:Addr}{A:Around}{Er:Value->Shared->Prop}{Q:Value->Shared->Prop}
 {k:Key}{ks:List Key}{es:List DictEntry}{dA l:Addr}{c:Bool}{items:Array Value}{env:PySem.Env}
theorem Kp.of{tk:Nat}(k:∀b o,s.heap.get? b=some o->Hp.get? b=some o):Kp s { s with heap:=Hp,toks:=tk}:=⟨⟨_,_,rfl⟩,k⟩
theorem sP{n:Nat}(hd:(dA==sysModules)=false)(g:s.heap.get? dA=some (bk es.toArray n))(hfit:(es.length:Int)<2 ^ 63)
  (h:Q (.int es.length (s.toks+1)) { s with toks:=s.toks+1+1}):WS G.m A (call (.builtin "len") [.ref dA]) Q Er s:=by
 have hT:s.TypeIs (.ref dA) "dict":=⟨_,g,rfl⟩
 refine Calls.call_function_entry kind_len plain_len entry_len (args_len1 _) ?_
 unfold Builtin.«len»
 refine WJ (m:=oneArg "len" _) (WN ?_)
 refine WJ (m:=callSpecial? (.ref dA) (Str.ofString "__len__")) (wpAny_callSpecial?_slot (name:=Str.ofString "__len__") hT PySem.F.slot_dict_len
  (wpAny_call_entry PySem.F.slot_dict_len hT PySem.F.entry_dict_len ?_ (PySem.F.args_dict_len_1 _)))
 show WS _ _ (dictSize dA>>=_) _ _ s
 unfold dictSize
 refine WJ (WJ (wpAny_dictEntries g rfl (WN ?_)))
 show WS _ _ (Builtin.Dict.pendingCount dA>>=_) _ _ s
 refine WJ (wpAny_pendingCount_other hd ?_)
 show WS _ _ (mkInt _>>=_) _ _ s
 refine WJ (wpAny_mkInt (WN ⟨_,rfl,?_⟩))
 show WS _ _ _ _ _ { s with toks:=s.toks+1}
 refine WJ (Xg (WN ?_))
 refine WJ (wpAny_letGo ?_)
 show WS _ _ (if((es.length:Nat):Int)<0 then _ else _) _ _ _
 rw[if_neg (YU.mpr (WU _))]
 show WS _ _ (if((es.length:Nat):Int) ≥ 2 ^ 63 then _ else _) _ _ _
 rw[if_neg (Int.not_le.mpr hfit)]
 exact WJ (wpAny_mkInt (WN ⟨_,rfl,h⟩))
theorem yk(e:cM o=some n)(O:Or G x o p)(q:Gv G x (.int n) Q):WS G.m A (call (.builtin "len") [.ref p.1]) Q Er x.s:=by
 cases o with
 |list vs=>
  cases e
  revert q
  exact O.listE fun l items k g hl z _ q=>PyProof.Rows.len_list ⟨_,g,rfl,k,rfl⟩ (hl▸MM z) (hl▸q.int)
 |dict ks vs=>
  cases e
  revert q
  exact O.lM fun l es D q=>sP D.m D.g (D.len.1▸MM D.d.z) (D.len.1▸q.int)
 |inst _ _ _=>cases e
theorem MB(M:bF G x)(e:NK v x.h=some r)(hv:Vr G x v X)(q:Gv G x r Q):WS G.m A (call (.builtin "len") [X]) Q Er x.s:=by
 have go:((rd v x.h).bind fun o=>(cM o).map fun(n:Nat)=>V.int n)=some r->WS G.m A (call (.builtin "len") [X]) Q Er x.s:=fun e=>by
  obtain⟨o,e1,e2⟩:=XB.mp e
  obtain⟨n,e2,e3⟩:=Xe.mp e2
  obtain⟨p,rfl,O⟩:=read M hv e1
  exact yk e2 O (q.of e3.symm)
 cases v with
 |tup vs=>exact hv.jW fun l items n g _ hl z _=>PyProof.Rows.len_tuple ⟨_,g,rfl,n,rfl⟩ (hl▸MM z) (hl▸(q.of (Option.some.inj e).symm).int)
 |_=>exact go e
theorem uL{T:String}(hT:T="list"\/T="tuple"){k:Nat}(g:x.g l=some { cls:=.type T,data:=.seq items k})(hl:vs.length=items.size)(z:vs.length<=SZ)(h:Vl G x vs items.toList)(q:Gf G x (.list vs) Q):WS G.m A (call (.type "list") [.ref l]) Q Er x.s:=
 call_list_seq (o:={ cls:=.type T,data:=.seq items k}) l hT g rfl rfl (fun Hp' c k' g'=>q.lst (.of k' (tk:=x.s.toks)) (ax _) g' z h) (hl▸qg z)
theorem xj(e:yE .list v x.h=some r)(hv:Vr G x v X)(q:∀us,r=.lst us->Gf G x (.list us) Q):WS G.m A (call (.type "list") [X]) Q Er x.s:=by
 cases v with
 |tup vs=>exact hv.jW fun l items n g _ hl z h=>uL (.inr rfl) g hl z h (q _ (da e))
 |lst vs=>exact hv.hH fun l items n g _ hl z h=>uL (.inl rfl) g hl z h (q _ (da e))
 |_=>exact sn e rfl
theorem Ew(M:bF G x)(hv:Vr G x (.lst vs) X)(q:Gv G x (.tup vs) Q):WS G.m A (call (.type "tuple") [X]) Q Er x.s:=
 hv.hH fun l items n g _ hl z h=>call_tuple_list ⟨_,g,rfl,n,rfl⟩ (fun Hp' k=>q.tup (items:=items) M (.of (fun b o e=>aA _ _ _ _ (k b o e)) (tk:=x.s.toks)) (none_of k (ax _)) (Heap.get?_push_size _ rfl) z h) (hl▸qg z)
theorem qj(x:String):(Str.ofString x).cps.toList=x.toList.map Char.toNat:=by
 unfold Str.ofString;rw[<-cpsOfBytes_string]
theorem LP{i:Int}(hf:nY i=true)(hv:Vr G x (.int i) X)(q:Gv G x (.str (digits i)) Q):WS G.m A (call (.type "str") [X]) Q Er x.s:=
 hv.cT fun t=>PySem.P.str_of_int (by
  by_cases h0:i.natAbs=0
  ·rw[h0];decide
  ·exact(Nat.log2_lt h0).mpr (WY (xH hf) (Nat.pow_le_pow_right (by decide) (by decide)))) (q.str (qj _))
theorem EP{is:List Int}:∀{items:List Value},cY G β F Hp (is.map V.int) items->AllInts items.toArray/\numsOf items=is:=by
 induction is with
 |nil=>intro items h;cases h;exact⟨fun v hv=>absurd hv (Array.not_mem_empty v),rfl⟩
 |cons i r ih=>
  intro items h
  cases h with
  |cons a b=>
   obtain⟨i1,i2⟩:=ih b
   revert a
   refine fun a=>a.cT (P:=fun X=>AllInts (X::_).toArray/\numsOf (X::_)=i::r) fun t=>⟨fun v hv=>?_,congrArg (i::·) i2⟩
   rcases Xp.mp (abj.mp hv) with hv|hv
   ·exact⟨i,t,hv⟩
   ·exact i1 v (abj.mpr hv)
theorem JG{is:List Int}(rm:cz A d)(hi:ints? vs=some is)(hv:Vr G x (.lst vs) X)(q:Gv G x (.int is.sum) Q):WS G.m A (call (.builtin "sum") [X]) Q Er x.s:=by
 refine hv.hH fun l items n g _ _ _ h=>?_
 obtain⟨ha,hn⟩:=EP (ints_map hi▸h)
 obtain⟨xs,hxs⟩:=AllInts.items ha
 have hxs':items=intItems xs:=hxs
 subst hxs'
 refine sum_intListG rm.hd ⟨_,g,rfl,n,rfl⟩ fun Hp' tk t' k=>?_
 rw[preSum_eq,Zg (by rw[WK];exact WQ _), <-nums_intItems,hn]
 exact q _ _ (.of k) (.int _ _)
theorem GD{j:Int}(M:bF G x)(hv:Vr G x (.int j) X)(q:Gv G x (.kE 0 j) Q):WS G.m A (call (.type "range") [X]) Q Er x.s:=
 hv.cT fun t=>call_range_1 (q _ _ (.push _ _ _) (.kE (Heap.get?_push_size _ rfl) (M.nF (ax _))))
theorem FJ{i j:Int}(M:bF G x)(hu:Vr G x (.int i) X)(hv:Vr G x (.int j) Y)(q:Gv G x (.kE i j) Q):WS G.m A (call (.type "range") [X,Y]) Q Er x.s:=
 hu.cT fun t=>hv.cT fun t'=>call_range_2 (q _ _ (.push _ _ _) (.kE (Heap.get?_push_size _ rfl) (M.nF (ax _))))
theorem Lh{i j:Int}(rm:cz A d)(hu:Vr G x (.int i) X)(hv:Vr G x (.int j) Y)(q:Gv G x (.int (if j>i then j else i)) Q):WS G.m A (call (.builtin "max") [X,Y]) Q Er x.s:=
 hu.cT fun t=>hv.cT fun t'=>max_two_ints rm.hd fun Hp' tk k=>q _ _ (.of k) (by
  by_cases z:j>i
  ·rw[if_pos z,if_pos z];exact .int _ _
  ·rw[if_neg z,if_neg z];exact .int _ _)
end
end
section
variable{G:Gl}{β:List BA}{F:Addr->Prop}{Hp:Heap}{x y:Sx}{s:Shared}{u w r i:V}{X Y:Value}{us:List V}{A:Around}{Er:Value->Shared->Prop}{Q:Value->Shared->Prop}
noncomputable def TK(Hp:Heap)(X:Value)(xs:List Int):Prop:=∃a items n,X=.ref a/\Hp.get? a=some (oTup items n)/\IntsAre items.toList xs
theorem TK.keeps{Hp':Heap}{xs:List Int}(t:TK Hp X xs)(k:∀a items n,Hp.get? a=some (oTup items n)->Hp'.get? a=some (oTup items n)):TK Hp' X xs:=
 t.imp fun _ t=>t.imp fun _ t=>t.imp fun _ t=>⟨t.1,k _ _ _ t.2.1,t.2.2⟩
theorem intsAre_of{is:List Int}:∀{items:List Value},cY G β F Hp (is.map V.int) items->IntsAre items is:=by
 induction is with
 |nil=>intro items h;cases h;exact .nil
 |cons i r ih=>intro items h;cases h with|cons a b=>exact a.cT (P:=fun X=>IntsAre (X::_) (i::r)) fun t=>.cons _ _ (ih b)
theorem uU{is:List Int}{items:List Value}(hv:IntsAre items is):cY G β F Hp (is.map V.int) items:=by
 induction hv with
 |nil=>exact .nil
 |cons n t _ ih=>exact .cons (.int n t) ih
theorem VR.tk{is:List Int}(hv:VR G β F Hp (.tup (is.map V.int)) X):TK Hp X is:=hv.jW fun l items n g _ _ _ hl=>⟨l,items,n,rfl,g,intsAre_of hl⟩
noncomputable def Br(fin:Bool):List Int->List Int->Bool
 |a::x,b::y=>if a=b then Br fin x y else decide (a<b)
 |_,_=>fin
theorem De{fin:Bool}{a b:Int}{x y:List Int}:Br fin (a::x) (b::y)=if a=b then Br fin x y else decide (a<b):=rfl
theorem tM{a b:Int}{x y:List Int}:bW (a::x) (b::y)=if a=b then bW x y else decide (a<b):=rfl
theorem vy(x:List Int):∀y,bW x y=Br (decide (x.length<y.length)) x y:=by
 induction x with
 |nil=>intro y;cases y<;>rfl
 |cons a x ih=>
  intro y
  cases y with
  |nil=>rfl
  |cons b y=>
   rw[tM,De,ih y]
   have e:decide ((a::x).length<(b::y).length)=decide (x.length<y.length):=decide_eq_decide.mpr Nat.succ_lt_succ_iff
   rw[e]
theorem JH{fin:Bool}{Q:Bool->Shared->Prop}{xs:List Int}{us:List Value}(hu:IntsAre us xs):∀{ys:List Int}{ws:List Value}(i:Nat),IntsAre ws ys->Q (Br fin xs ys) s->KatLex G.prog G.w A true fin Q (us.zip ws) i s:=by
 induction hu with
 |nil=>intro ys ws i _ h;exact kat_nil (prog:=G.prog) (w:=G.w) (A:=A) (b:=true) h
 |cons a t hu ih=>
  intro ys ws i hw h
  cases hw with
  |nil=>exact kat_nil (prog:=G.prog) (w:=G.w) (A:=A) (b:=true) h
  |cons b u hw=>
   rw[De]at h
   rw[aaX]
   refine kat_cons (wpAny_eqBool_int (kat_go (fun e=>kat_yes (ih (i+1) hw ?_)) (fun e=>kat_no ?_)))
   ·rwa [if_pos (beq_iff_eq.mp e)]at h
   ·rw[if_neg (beq_eq_false_iff_ne.mp e)]at h
    cases hb:(true&&i==0) with
    |true=>exact oneLt_int h
    |false=>exact kat_one _ _ (lt_int h)
theorem AE{xs ys:List Int}{Q:Bool->Shared->Prop}(hx:TK s.heap X xs)(hy:TK s.heap Y ys)(h:Q (bW xs ys) s):WS G.m A (keyLt' (tuples' true) X Y) Q Er s:=by
 obtain⟨a,i,n,rfl,g,hi⟩:=hx
 obtain⟨b,j,m,rfl,g',hj⟩:=hy
 refine kat_lt g rfl g' rfl (JH hi 0 hj ?_)
 rw[vy, <-hi.length, <-hj.length]at h
 exact h
structure TA(Hp:Heap)(ts:List (List Int))(a:Array Keyed):Prop where
 sz:a.size=ts.length
 at':∀(i:Nat)(t:List Int),ts[i]? =some t->∃X p,a[i]? =some (X,p)/\TK Hp X t
theorem ro{st:SortSt}{i j:Nat}{ts:List (List Int)}{x y:List Int}{Q:Option Bool->SortSt->Prop}(hk:kindOf st=tuples' true)(T:TA s.heap ts (arrOf st))
  (hi:ts[i]? =some x)(hj:ts[j]? =some y)(h:Q (some (bW x y)) st):wpS G.m A Er s (ltAt' i j) Q st:=by
 obtain⟨X,p,e1,t1⟩:=T.at' i x hi
 obtain⟨Y,q,e2,t2⟩:=T.at' j y hj
 rw[ltAt'_eq]
 refine wpS_bind (wpS_get ?_)
 show wpS _ _ _ _ (do let x<-elem' (arrOf st) i;let y<-elem' (arrOf st) j;lt' x y) Q st
 rw[elem'_eq,elem'_eq,e1,e2]
 refine wpS_bind (wpS_pure (wpS_bind (wpS_pure ?_)))
 rw[lt'_eq]
 refine wpS_bind (wpS_get ?_)
 rw[hk]
 refine wpS_bind (wpS_lift (wpAny_attempt (AE t1 t2 ⟨rfl,?_⟩)))
 exact wpS_pure h
theorem sQ(x:List Int):∀{y:List Int},bW x y=true->bW y x=false:=by
 induction x with
 |nil=>intro y h;cases y with|nil=>rfl|cons _ _=>rfl
 |cons a x ih=>
  intro y h
  cases y with
  |nil=>exact absurd h Bool.false_ne_true
  |cons b y=>
   rw[tM]at h ⊢
   by_cases e:a=b
   ·rw[if_pos e]at h
    rw[if_pos e.symm];exact ih h
   ·rw[if_neg e]at h
    rw[if_neg (Ne.symm e)]
    exact decide_eq_false (YU.mpr (ZV (of_decide_eq_true h)))
noncomputable def Nb(f:List Int->List Int->Bool)(ts:List (List Int)):Prop:=∀i x y,ts[i]? =some x->ts[i+1]? =some y->f x y=true
theorem BP{f:List Int->List Int->Bool}:Nb f []:=fun i x y h _=>nomatch h
theorem Dh{f:List Int->List Int->Bool}{a:List Int}:Nb f [a]:=fun i x y _ h=>nomatch h
theorem xq{f:List Int->List Int->Bool}{a b:List Int}{r:List (List Int)}(h:f a b=true)(t:Nb f (b::r)):Nb f (a::b::r):=fun i x y h1 h2=>by
 cases i with
 |zero=>cases h1;cases h2;exact h
 |succ i=>exact t i x y h1 h2
theorem HO{ts:List (List Int)}:pJ ts=true->Nb bW ts:=by
 induction ts with
 |nil=>exact fun _=>BP
 |cons a r ih=>cases r with
  |nil=>exact fun _=>Dh
  |cons b r=>exact fun h=>xq (br h).1 (ih (br h).2)
theorem Af{ts:List (List Int)}:oN ts=true->Nb (fun x y=>bW y x) ts:=by
 induction ts with
 |nil=>exact fun _=>BP
 |cons a r ih=>cases r with
  |nil=>exact fun _=>Dh
  |cons b r=>exact fun h=>xq (br h).1 (ih (br h).2)
theorem uh{ts:List (List Int)}{i:Nat}(h:i<ts.length):ts[i]? =some ts[i]:=WR h
theorem pred_lt{i n:Nat}(h:i<n):i-1<n:=WM (aav _ _) h
theorem sq{f:List Int->List Int->Bool}{ts:List (List Int)}{i:Nat}(N:Nb f ts)(h1:1<=i)(h:i<ts.length):f (ts[i-1]'(pred_lt h)) ts[i]=true:=
 N (i-1) _ _ (uh (pred_lt h)) (by rw[ZY h1];exact uh h)
theorem AD{st:SortSt}{ts:List (List Int)}{Q:Option Nat->SortSt->Prop}(hk:kindOf st=tuples' true)(T:TA s.heap ts (arrOf st))(h2:2<=ts.length)(ha:Nb bW ts)
  (h:Q (some ts.length) st):wpS G.m A Er s (countRun' 0 ts.length) Q st:=by
 rw[countRun0_eq]
 refine wpS_bind (wpS_mono (Q:=fun c st'=>c=(none,ts.length)/\st'=st) ?_ ?_)
 ·unfold ascLoop
  refine wpS_forRange (I:=fun x c st'=>c=(none,x)/\st'=st) ?step ?fin ⟨rfl,rfl⟩
  case fin=>
   rintro c st' ⟨rfl,rfl⟩
   rw[abk (Xl h2)];exact⟨rfl,rfl⟩
  case step=>
   rintro x c st' h1 hx ⟨rfl,rfl⟩
   dsimp only
   refine wpS_bind (ro hk T (uh hx) (uh (pred_lt hx)) ?_)
   rw[sQ _ (sq ha h1 hx)]
   exact wpS_pure ⟨rfl,rfl⟩
 ·rintro c st' ⟨rfl,rfl⟩
  dsimp only
  rw[if_pos (beq_self_eq_true _)]
  exact wpS_pure h
theorem yW{st:SortSt}{ts:List (List Int)}{Q:Option Nat->SortSt->Prop}(hk:kindOf st=tuples' true)(T:TA s.heap ts (arrOf st))(h2:2<=ts.length)(hd:Nb (fun x y=>bW y x) ts)
  (h:Q (some ts.length) (setArr st (mirror (arrOf st) 0 ts.length ((ts.length-0)/2)))):wpS G.m A Er s (countRun' 0 ts.length) Q st:=by
 have lt1:¬ 0+1=ts.length:=WT h2
 rw[countRun0_eq]
 refine wpS_bind (wpS_mono (Q:=fun c st'=>c=(none,1)/\st'=st) ?_ ?_)
 ·unfold ascLoop
  refine wpS_forRange (I:=fun x c st'=>x=1/\c=(none,x)/\st'=st) ?step ?fin ⟨rfl,rfl,rfl⟩
  case fin=>
   rintro c st' ⟨hx,rfl,rfl⟩
   exact absurd (hx▸abl 1 ts.length) (ZG.mpr h2)
  case step=>
   rintro x c st' h1 hx ⟨rfl,rfl,rfl⟩
   dsimp only
   refine wpS_bind (ro hk T (uh hx) (uh (pred_lt hx)) ?_)
   rw[sq hd (WQ _) hx]
   exact wpS_pure ⟨rfl,rfl⟩
 ·rintro c Ny ⟨rfl,rfl⟩
  dsimp only
  rw[if_neg (fun z=>lt1 (eq_of_beq z)),if_neg (show ¬ 1>1 from Yq 1)]
  unfold descPart
  refine wpS_bind (wpS_lift (wpAny_rule ⟨rfl,?_⟩))
  refine wpS_bind (wpS_mono (Q:=fun c st'=>c=(none,ts.length,0)/\st'=Ny) ?_ ?_)
  ·unfold descLoop
   refine wpS_forRange (I:=fun x c st'=>c=(none,x,0)/\st'=Ny) ?step ?fin ⟨rfl,rfl⟩
   case fin=>
    rintro c st' ⟨rfl,rfl⟩
    rw[abk (show 1+1<=_ from h2)];exact⟨rfl,rfl⟩
   case step=>
    rintro x c st' h1 hx ⟨rfl,rfl⟩
    dsimp only
    refine wpS_bind (ro hk T (uh hx) (uh (pred_lt hx)) ?_)
    rw[sq hd (WH (by decide) h1) hx]
    exact wpS_pure ⟨rfl,rfl⟩
  ·rintro c st1 ⟨rfl,rfl⟩
   dsimp only
   rw[if_neg (Yq 0)]
   unfold tail3
   rw[reverseSlice'_eq]
   refine wpS_bind (wpS_modify ?_)
   refine wpS_bind (wpS_mono (Q:=fun c st'=>c=(none,ts.length)/\st'=setArr st1 (mirror (arrOf st1) 0 ts.length ((ts.length-0)/2))) ?_ ?_)
   ·unfold ascLoop
    refine wpS_forRange (I:=fun x c st'=>c=(none,ts.length)/\st'=setArr st1 (mirror (arrOf st1) 0 ts.length ((ts.length-0)/2))) ?step ?fin ⟨rfl,rfl⟩
    case fin=>exact fun c st' h=>h
    case step=>exact fun x c st' h1 hx _=>absurd hx (Yu.mpr h1)
   ·rintro c st' ⟨rfl,rfl⟩
    exact wpS_pure h
end
section
variable{G:Gl}{Hp:Heap}{x:Sx}{s s':Shared}{r:V}{X:Value}{vs us:List V}{A:Around}{Er:Value->Shared->Prop}
theorem yK(f:Nat):∀n r:Nat,minRun' f n r<=n+r:=by
 induction f with
 |zero=>exact fun n r=>WQ _
 |succ f ih=>
  intro n r
  rw[minRun'_succ]
  by_cases h:n<64
  ·rw[if_pos h];exact WQ _
  ·rw[if_neg h]
   have h1:max r (n%2)<=n%2+r:=Nat.max_le.mpr ⟨YK _ _,WZ _ _⟩
   have h2:n/2+n%2<=n:=WH (Xw (Nat.le_mul_of_pos_left _ (by decide)) _) (WO (Zv n 2))
   exact WH (ih _ _) (WH (Xf h1 _) (by rw[<-XO];exact Xw h2 r))
theorem yU{st:SortSt}{N:Nat}{Q:Unit->SortSt->Prop}{arr:Array Keyed}(hN:(arrOf st).size=N)(h2:2<=N)(hp:pendingOf st= #[])
  (hc:∀Q':Option Nat->SortSt->Prop,Q' (some N) (setArr st arr)->wpS G.m A Er s (countRun' 0 N) Q' st)
  (h:∀st',arrOf st'=arr->failedOf st'=failedOf st->Q () st'):wpS G.m A Er s sortRuns' Q st:=by
 rw[sortRuns'_eq]
 refine wpS_bind (wpS_get ?_)
 dsimp only
 have hmr:minRun' N N 0<=N:=yK N N 0
 have np:0<N:=WH (by decide) h2
 rw[hN]
 refine wpS_bind (wpS_mono (wpS_forRange
  (I:=fun x c st'=>(x=0/\c=(none,0)/\st'=st)\/(c=(none,N)/\st'=setPending (setArr st arr) #[(0,N,0)]))
  (Q:=fun c st'=>c=(none,N)/\st'=setPending (setArr st arr) #[(0,N,0)]) ?step ?fin (.inl ⟨rfl,rfl,rfl⟩)) ?post)
 case fin=>
  rintro c st' (⟨hx,_,_⟩|h)
  ·exact absurd (hx▸abl 0 N) (ZG.mpr np)
  ·exact h
 case step=>
  rintro x c st' _ hx (⟨rfl,rfl,rfl⟩|⟨rfl,rfl⟩)
  ·dsimp only
   rw[if_neg (ZG.mpr np)]
   refine wpS_bind (hc _ ?_)
   dsimp only
   rw[if_neg (show ¬ N<minRun' N N 0 from Yu.mpr hmr)]
   refine wpS_bind (wpS_get ?_)
   have hb:(pendingOf (setArr st' arr)).back? =none:=by show(pendingOf st').back? =none;rw[hp];rfl
   rw[hb]
   dsimp only
   refine wpS_bind (wpS_modify (wpS_pure (.inr ⟨congrArg _ (XG N),?_⟩)))
   show setPending (setArr st' arr) ((pendingOf st').push (0,N,0))=_
   rw[hp];rfl
  ·dsimp only
   rw[if_pos (WQ _)]
   exact wpS_pure ⟨rfl,rfl⟩
 case post=>
  rintro c st' ⟨rfl,rfl⟩
  dsimp only
  refine wpS_bind (wpS_mono (wpS_forRange (I:=fun _ c st''=>st''=setPending (setArr st arr) #[(0,N,0)]/\c=(none,())) (Q:=fun c st''=>st''=setPending (setArr st arr) #[(0,N,0)]/\c=(none,())) ?_ (fun _ _ hh=>hh) ⟨rfl,rfl⟩) ?_)
  ·rintro x c st'' _ _ ⟨rfl,rfl⟩
   refine wpS_bind (wpS_get ?_)
   rw[if_pos (show(pendingOf (setPending (setArr st arr) #[(0,N,0)])).size<=1 from WQ 1)]
   exact wpS_pure ⟨rfl,rfl⟩
  ·rintro c st'' ⟨rfl,rfl⟩
   exact wpS_pure (h _ rfl rfl)
theorem pS{a:Addr}{vs:List Value}{b:Addr}{x:Obj}(n:b≠a)(e:Hp.get? b=some x):
  (((Hp.update a (Obj.mapSeq fun _=> #[])).push (seqObj "tuple" vs.toArray 0)).push (seqObj "list" #[] 0)).get? b=some x:=
 Heap.get?_push_of_some _ (Heap.get?_push_of_some _ ((Heap.get?_update_ne _ _ _ _ n).trans e))
theorem nP{a:Addr}{vs:List Value}{out:Array Value}{b:Addr}{x:Obj}(n:b≠a)(e:Hp.get? b=some x):(sortedHeap Hp a vs out).get? b=some x:=
 (Heap.get?_update_ne _ _ _ _ n).trans (pS n e)
theorem BZ{a:Addr}{vs us:List Value}{k:Nat}(e:Hp.get? a=some (seqObj "list" us.toArray k)):
  ∃n,(((Hp.update a (Obj.mapSeq fun _=> #[])).push (seqObj "tuple" vs.toArray 0)).push (seqObj "list" #[] 0)).get? a=some (seqObj "list" #[] n):=
 ⟨_,Heap.get?_push_of_some (seqObj "list" #[] 0) (Heap.get?_push_of_some (seqObj "tuple" vs.toArray 0) (get?_update_seq e (fun _=> #[])))⟩
theorem sortedHeap_at{a:Addr}{vs us:List Value}{out:Array Value}{k:Nat}(e:Hp.get? a=some (seqObj "list" us.toArray k)):∃n,(sortedHeap Hp a vs out).get? a=some (dg out n):=
 (BZ (vs:=vs) e).elim fun n h=>⟨_,get?_update_seq h (fun _=>out)⟩
theorem wR(vs:List Value):(vs.toArray.zip vs.toArray).map (·.2)=vs.toArray:=by
 rw[abm,List.map_toArray,List.map_snd_zip (WQ _)]
theorem qi{a:Addr}{vs out:List Value}{n:Nat}{P:PySem.Fin->Shared->Prop}(ho:s.heap.get? a=some (seqObj "list" vs.toArray n))(hz:vs.length<=SZ)(hz2:out.length=vs.length)
  (h1:vs.length<2->out=vs)
  (hk:2<=vs.length->∀(E':Value->Shared->Prop)(Q:SortKind->Shared->Prop)(s':Shared),(∀b x,b≠a->s.heap.get? b=some x->s'.heap.get? b=some x)->Q (tuples' true) s'->WS G.m A (keyKind' vs.toArray) Q E' s')
  (hr:2<=vs.length->∀(E':Value->Shared->Prop)(Q:Unit->SortSt->Prop)(s':Shared),(∀b x,b≠a->s.heap.get? b=some x->s'.heap.get? b=some x)->
   (∀st',(arrOf st').map (·.2)=out.toArray->failedOf st'=none->Q () st')->wpS G.m A E' s' sortRuns' Q (SortSt.mk' (tuples' true) (vs.toArray.zip vs.toArray) #[] 7 none))
  (h:P (.done (.ret .none)) { s with heap:=sortedHeap s.heap a vs out.toArray}):
  WS G.m A (Builtin.«list.sort» ⟨[.ref a],[]⟩) P Er s:=by
 have hz':vs.length<=sizeLine:=qg hz
 rw[list_sort_plain]
 refine WJ (listItems_at ho rfl ?_)
 refine WJ (listUpdate_at ho rfl ?_ hz' (XI _))
 obtain⟨e1,ho6⟩:=BZ (vs:=vs) ho
 refine WJ (seqEpoch_at (get?_update_seq ho (fun _=> #[])) rfl ?_)
 refine WJ (wpAny_newTuple ?_ hz')
 refine WJ (wpAny_newList ?_)
 refine Xg ?_
 have e1':=Option.some.inj (ho6.symm.trans (Heap.get?_push_of_some (seqObj "list" #[] 0) (Heap.get?_push_of_some (seqObj "tuple" vs.toArray 0) (get?_update_seq ho (fun _=> #[])))))
 show WS G.m A _ P Er { s with heap:=((s.heap.update a (Obj.mapSeq fun _=> #[])).push (seqObj "tuple" vs.toArray 0)).push (seqObj "list" #[] 0)}
 rw[e1']at ho6
 clear e1'
 dsimp only
 by_cases h2:vs.toArray.size<2
 ·rw[if_pos h2,if_pos h2]
  refine WJ (WN ?_)
  rw[StateT.run_pure]
  refine WJ (WN ?_)
  dsimp only
  refine WJ (seqEpoch_at ho6 rfl ?_)
  refine WJ (listUpdate_at ho6 rfl ?_ (hsz2:=by rw[Array.size_map];show(pairsOf vs).size<=_;rw[pairsOf_size];exact XS hz'))
  rw[if_neg (show ¬ ((_ !=_)=true) from fun z=>bne_iff_ne.mp z rfl)]
  refine WN ?_
  have:(arrOf (SortSt.mk' general' (vs.toArray.zip vs.toArray) #[] 7 none)).map (·.2)=out.toArray:=by rw[h1 h2];exact wR vs
  rw[this]
  exact h
 ·have h2':2<=vs.length:=Yu.mp h2
  rw[if_neg h2,if_neg h2]
  refine WJ (hk h2' _ _ _ (fun b x nb e=>pS nb e) ?_)
  refine WJ (wpAny_mono (hr h2' _ (fun _ st'=>(arrOf st').map (·.2)=out.toArray/\failedOf st'=none) _ (fun b x nb e=>pS nb e) fun st' a1 a2=>⟨a1,a2⟩) ?_ fun _ _ e=>e)
  rintro⟨⟨⟩,st'⟩ s' ⟨rfl,hp,hf⟩
  dsimp only
  refine WJ (seqEpoch_at ho6 rfl ?_)
  refine WJ (listUpdate_at ho6 rfl ?_ (hsz2:=by rw[hp];show out.length<=_;rw[hz2];exact XS hz'))
  rw[hf,if_neg (show ¬ ((_ !=_)=true) from fun z=>bne_iff_ne.mp z rfl),hp]
  exact WN h
noncomputable def jb(G:Gl)(A:Around)(X:Value)(vs:List Value)(s:Shared):Prop:=
 ∀(R:List Value->Shared->Prop)(E:Value->Shared->Prop),(∀Hp' tk,(∀b o,s.heap.get? b=some o->Hp'.get? b=some o)->R vs { s with heap:=Hp',toks:=tk})->WS G.m A (collect X) R E s
theorem pT{vs:List Value}(K:Array Value->Prop){Q:Value->Shared->Prop}(hz:vs.length<=SZ)(hc:jb G A.in1 X vs s)
  (hs:∀(s':Shared)(D:Addr)(P:PySem.Fin->Shared->Prop)(E':Value->Shared->Prop),s'.heap.get? D=some (seqObj "list" vs.toArray 0)->(∀b o,s.heap.get? b=some o->b≠D/\s'.heap.get? b=some o)->
   (∀out',K out'->P (.done (.ret .none)) { s' with heap:=sortedHeap s'.heap D vs out'})->WS G.m A.in1.in1 (Builtin.«list.sort» ⟨[.ref D],[]⟩) P E' s')
  (h:∀s' D n out',K out'->s.heap.get? D=none->Kp s s'->s'.heap.get? D=some (dg out' n)->Q (.ref D) s'):
  WS G.m A (call (.builtin "sorted") [X]) Q Er s:=by
 refine Calls.call_function_entry kind_sorted plain_sorted entry_sorted (args_sorted1 _) ?_
 unfold Builtin.«sorted»
 refine WJ (m:=checkCount "sorted" 1 1 _) (WN ?_)
 refine WJ (hc _ _ fun Hp' tk k=>?_)
 refine WJ (wpAny_newList ?_ (qg hz))
 have hD:s.heap.get? Hp'.objs.size=none:=none_of k (ax _)
 have hg:(Hp'.push (seqObj "list" vs.toArray 0)).get? Hp'.objs.size=some (seqObj "list" vs.toArray 0):=Heap.get?_push_size _ rfl
 have kk:∀b o,s.heap.get? b=some o->b≠Hp'.objs.size/\(Hp'.push (seqObj "list" vs.toArray 0)).get? b=some o:=fun b o e=>⟨fun z=>sn e (z▸hD),aA _ _ _ _ (k b o e)⟩
 refine WJ (Xg (wpAny_call_entry (s:={ s with heap:=Hp'.push (seqObj "list" vs.toArray 0),toks:=tk}) slot_list_sort ⟨_,hg,rfl⟩ entry_list_sort (hs _ _ _ _ hg kk fun out' ho=>⟨_,rfl,?_⟩) (args_list_sort _)))
 obtain⟨n,hn⟩:=sortedHeap_at (vs:=vs) (out:=out') hg
 exact WN ⟨_,rfl,h _ _ n out' ho hD (.of fun b o e=>nP (kk b o e).1 (kk b o e).2) hn⟩
end
section
noncomputable abbrev IQ(dA:Addr)(i n ep:Nat):Obj:={ cls:=.type "dict_keyiterator",data:=.fields #[.ref dA,.int i 0,.int n 0,.int ep 0]}
noncomputable abbrev KI(Hp:Heap)(I dA:Addr)(i n ep:Nat):Prop:=Hp.IsKeyIter I dA i n ep
section
variable{G:Gl}{F:Addr->Prop}{s:Shared}{v w:V}{X:Value}{A:Around}{Er:Value->Shared->Prop}{dA:Addr}{es:Array DictEntry}{ep:Nat}
theorem Ia{Q:Value->Shared->Prop}(hd:(dA==sysModules)=false)(g:s.heap.get? dA=some (bk es ep))
  (hQ:Q (.ref s.heap.objs.size) { s with heap:=s.heap.push (IQ dA 0 es.size ep)}):WS G.m A (pyIter (.ref dA)) Q Er s:=by
 have hT:s.TypeIs (.ref dA) "dict":=⟨_,g,rfl⟩
 refine wpAny_pyIter_slot hT PySem.F.slot_dict_iter (wpAny_call_entry PySem.F.slot_dict_iter hT PySem.F.entry_dict_iter ?_ (PySem.F.args_dict_iter_1 _))
 unfold Builtin.«dict.__iter__» Builtin.Dict.dictSlotNone
 refine WJ (WJ (wpAny_notOrdered_dict hT ?_))
 show WS _ _ (pure (Value.ref dA)) _ _ s
 refine WN ?_
 show WS _ _ (Builtin.Dict.showsAll dA>>=_) _ _ s
 unfold Builtin.Dict.showsAll
 rw[if_neg (by rw[hd];exact Bool.false_ne_true)]
 refine WJ (WN (WJ (wpAny_dictEntries g rfl (WJ (wpAny_dictEpoch g rfl ?_)))))
 exact WJ (wpAny_newObj_type (WN ⟨_,rfl,"dict_keyiterator",_,⟨_,Heap.get?_push_size _ rfl,rfl⟩,PySem.F.slot_dict_keyiterator_next.lookup,hQ⟩))
theorem Bb{it:Addr}{i:Nat}{Q:Option Value->Shared->Prop}(hh:A.handled=none)(hit:KI s.heap it dA i es.size ep)(g:s.heap.get? dA=some (bk es ep))
  (hn:∀e Hp',es[i]? =some e->KI Hp' it dA (i+1) es.size ep->Heap.SameBut it s.heap Hp'->Q (some e.key) { s with heap:=Hp'})
  (he:∀Hp',es[i]? =none->Heap.ExtBut it s.heap Hp'->Q none { s with heap:=Hp'}):WS G.m A (pyNext (.ref it)) Q Er s:=by
 obtain⟨o,ho,hc,hd⟩:=id hit
 have hT:=Heap.IsKeyIter.typeIs hit
 have hi0:¬ (i:Int)<0:=YU.mpr (WU _)
 unfold pyNext
 refine WJ (wpAny_attempt (wpAny_callSpecial?_slot (name:=Str.ofString "__next__") hT PySem.F.slot_dict_keyiterator_next
  (wpAny_call_entry PySem.F.slot_dict_keyiterator_next hT PySem.F.entry_dict_keyiterator_next ?_ (PySem.F.args_dict_keyiterator_next_1 _))))
 refine WJ (WN (WJ (WJ ?_)))
 first|refine WJ (wpAny_typeNameOfWhole_keyiter hT (WN ?_))|refine WJ (wpAny_typeNameOf_keyiter hT (WN ?_))
 refine WJ (wpAny_fieldsOf ho hd ?_)
 show WS _ _ (if(Value.ref dA==Value.none)=true then _ else _) _ _ s
 rw[if_neg (show ¬ ((Value.ref dA==Value.none)=true) from Bool.false_ne_true)]
 refine WJ (WN (WJ (wpAny_dictEntries g rfl ?_)))
 rw[if_neg (show ¬ ((_ !=_)=true) from fun z=>bne_iff_ne.mp z rfl)]
 refine WJ (WN (WJ (wpAny_dictEpoch g rfl ?_)))
 rw[if_neg (show ¬ ((_ !=_)=true) from fun z=>bne_iff_ne.mp z rfl)]
 refine WN ?_
 dsimp only
 rw[if_neg hi0]
 cases q:es[i]? with
 |some e=>
  rw[show es[(i:Int).toNat]? =some e from q]
  refine WJ ?_
  first|refine WJ (wpAny_typeNameOfWhole_keyiter hT (WN ?_))|refine WJ (wpAny_typeNameOf_keyiter hT (WN ?_))
  refine WJ (wpAny_isOneOf_keyiter hT ?_)
  show WS _ _ (setField (.ref it) 1 (rawInt ((i:Int)+1))>>=_) _ _ s
  refine WJ (wpAny_setField ho hd (show 1<4 by decide) ?_)
  have hit':(s.heap.update it (Obj.mapFields (·.setIfInBounds 1 (rawInt ((i:Int)+1))))).IsKeyIter it dA (i+1) es.size ep:=
   ⟨_,Heap.get?_update_self _ ho (Obj.isFreed_of_fields (Obj.data_mapFields hd _)),(Obj.cls_mapFields ..).trans hc,by rw[Obj.data_mapFields hd];rfl⟩
  refine WJ (Xg ?_)
  refine WJ (wpAny_isOneOf_keyiter (s:={ s with heap:=s.heap.update it (Obj.mapFields (·.setIfInBounds 1 (rawInt ((i:Int)+1))))}) hit'.typeIs ?_)
  show WS _ _ (pure e.key) _ _ _
  exact WN (WN ⟨_,rfl,WN (hn e _ q hit' (Heap.SameBut.update ..))⟩)
 |none=>
  rw[show es[(i:Int).toNat]? =none from q]
  refine WJ ?_
  first|refine WJ (wpAny_typeNameOfWhole_keyiter hT (WN ?_))|refine WJ (wpAny_typeNameOf_keyiter hT (WN ?_))
  show WS _ _ (setField (.ref it) 0 .none>>=_) _ _ s
  refine WJ (wpAny_setField ho hd (show 0<4 by decide) ?_)
  show WS _ _ (newExc (.type "StopIteration") []>>=_) _ _ _
  unfold newExc newTuple
  refine WJ (WJ (wpAny_newObj_type ?_ (by size_fits)))
  refine WJ (m:=firstArgMember _ _) (wpAny_of_eq (a:=Value.none) rfl (wpAny_newObj_type ?_ (by size_fits)))
  unfold raiseNew
  refine WJ (wpAny_handled ?_)
  rw[show A.in1.handled=none from hh]
  refine WJ (WN (wpAny_throw ?_))
  refine WJ (wpAny_isInstance (T:="StopIteration") (b:=true) ⟨_,Heap.get?_push_size _ rfl,rfl⟩ isSubtype_stop (WN (he _ q ?_)))
  exact((Heap.SameBut.update ..).extBut.push _).push _
theorem JC(hh:A.handled=none)(I dA:Addr)(hne:dA≠I)(es:Array DictEntry)(ep:Nat):
  Walks G.prog G.w A I [I,dA] [I] es.size (fun i v=>∃e,es[i]? =some e/\v=e.key) (fun i h=>KI h I dA i es.size ep/\h.get? dA=some (bk es ep)) where
 sub:=fun b hb=>WW.mp hb▸.head _
 frame:=fun _ _ _ st hk=>⟨st.1.at fun o e=>hk I (.head _) o e,hk dA (.tail _ (.head _)) _ st.2⟩
 item:=fun i s Q E hi st hQ=>Bb hh st.1 st.2 (fun e Hp' q hit' hs'=>hQ _ Hp' s.toks ⟨_,q,rfl⟩ ⟨hit',hs'.extBut _ _ hne st.2⟩ fun b o hb e=>hs'.extBut b o (fun h=>hb (h▸.head _)) e)
  fun _ q _=>absurd (YV.mp q) (ZG.mpr hi)
 done:=fun s Q E st hQ=>Bb hh st.1 st.2 (fun e Hp' q=>absurd (ZZ.mp q).1 (Yq _)) fun Hp' _ he'=>hQ Hp' s.toks fun b o hb e=>he' b o (fun h=>hb (h▸.head _)) e
 self:=fun _ _ _ _ st hQ=>wpAny_pyIter_keyiter st.1 hQ
theorem Rp(hd:(dA==sysModules)=false):
  KdlSrc G.prog G.w "dict" dA dA es.size (fun i v=>∃e,es[i]? =some e/\v=e.key) (fun h=>h.get? dA=some (bk es ep)) where
 type:=fun s g=>⟨_,g,rfl⟩
 there:=fun h g=>⟨Heap.lt_size g,Heap.lt_size g⟩
 keep:=fun h h' g k=>k _ (.inl rfl) _ g
 notList:=by decide
 notTuple:=by decide
 hint:=fun A E s Q g hq=>kdl_hint_dict ⟨_,g,rfl⟩ hq
 iter:=fun A s hh g=>⟨IQ dA 0 es.size ep,_,fun E Q hq=>Ia hd g hq,
  JC hh s.heap.objs.size dA (WT (Heap.lt_size g)) es ep,⟨_,Heap.get?_push_size _ rfl,rfl,rfl⟩,Heap.get?_push_of_some _ g⟩
theorem yG{es:List DictEntry}(hh:A.handled=none)(hd:(dA==sysModules)=false)(g:s.heap.get? dA=some (bk es.toArray ep))(hz:es.length<=SZ):
  jb G A (.ref dA) (es.map DictEntry.key) s:=by
 intro R E hR
 refine kdu_collect (Rp hd) hh g (qg hz) fun Hp' tk acc k hacc=>?_
 have:acc.toList=es.map DictEntry.key:=YX fun i=>by
  rw[XZ,Xj]
  have h1:acc.size=es.length:=hacc.1
  cases q:acc[i]? with
  |some X=>
   obtain⟨e,he,hv⟩:=hacc.2 i _ q
   rw[show es[i]? =some e from YA▸he,hv];rfl
  |none=>rw[XD (h1▸YV.mp q)];rfl
 rw[this]
 exact hR Hp' tk k
theorem zw{l:Addr}{T:String}{items:Array Value}{n:Nat}(hT:T="list"\/T="tuple")(g:s.heap.get? l=some { cls:=.type T,data:=.seq items n})(hz:items.size<=SZ):
  jb G A (.ref l) items.toList s:=by
 intro R E hR
 unfold collect
 refine WJ (wpAny_runValue (codeAny_builtin entry_proto_collect' ?_))
 show WS _ _ (do again (.builtin "list.__iadd__" ⟨[<-newList [],.ref l],[]⟩)) _ _ s
 refine WJ (wpAny_newList (WN ⟨Code.quiet_builtin _ (by decide+kernel),codeAny_builtin entry_list_iadd' ?_⟩))
 show WS _ _ (Builtin.List.listExtendWith (.ref s.heap.objs.size) (.ref l) (.ref s.heap.objs.size)) _ _ { s with heap:=s.heap.push (seqObj "list" #[] 0)}
 unfold Builtin.List.listExtendWith
 have g':(s.heap.push (seqObj "list" #[] 0)).get? l=some { cls:=.type T,data:=.seq items n}:=Heap.get?_push_of_some _ g
 refine WJ (wpAny_typeOf (T:=T) ⟨_,g',rfl⟩ ?_)
 rw[if_pos (by generalize Builtin.List.listSameRef _ _=a;rcases hT with rfl|rfl<;>cases a<;>decide)]
 refine WJ (listItems_at g' rfl ?_)
 refine WJ (listItems_at (xs:= #[]) (n:=0) (Heap.get?_push_size _ rfl) rfl ?_)
 rw[if_neg (show ¬ ((!(#[]:Array Value).isEmpty&&_)=true) from Bool.false_ne_true)]
 refine WJ (listUpdate_at (xs:= #[]) (n:=0) (Heap.get?_push_size _ rfl) rfl ?_ (XI _) (by rw[Array.size_append];exact WH (WO (XG _)) (XS (qg hz))))
 refine WN ?_
 show WS G.m A (do
   let o<-load s.heap.objs.size
   match o.data with
   |.seq xs _=>pure xs.toList
   |_=>unsupported "internal:collect") R E { s with heap:=(s.heap.push (seqObj "list" #[] 0)).update s.heap.objs.size (Obj.mapSeq (· ++items))}
 refine WJ (wpAny_load (get?_update_seq (Heap.get?_push_size _ rfl) _) ?_)
 show WS _ _ (pure ((#[]:Array Value)++items).toList) R E _
 rw[Yt]
 refine WN (hR _ s.toks fun b o e=>?_)
 rw[Heap.get?_update_ne _ _ _ _ (WT (Heap.lt_size e))]
 exact Heap.get?_push_of_some _ e
end
end
section
theorem Bu(k x:Int)(r:List Int):insI k (x::r)=if k<=x then k::x::r else x::insI k r:=rfl
theorem insI_perm(k:Int)(l:List Int):(insI k l).Perm (k::l):=by
 induction l with
 |nil=>exact List.Perm.refl _
 |cons x r ih=>
  rw[Bu]
  by_cases h:k<=x
  ·rw[if_pos h]
  ·rw[if_neg h];exact(ih.cons x).trans (List.Perm.swap k x r)
theorem sortI_perm(l:List Int):(sortI l).Perm l:=by
 induction l with
 |nil=>exact List.Perm.refl _
 |cons k r ih=>exact(insI_perm k _).trans (ih.cons k)
theorem uy(k:Int){l:List Int}:l.Pairwise (· <=·)->(insI k l).Pairwise (· <=·):=by
 induction l with
 |nil=>exact fun _=>aal _ _
 |cons x r ih=>
  intro h
  have hx:=XE.mp h
  rw[Bu]
  by_cases hk:k<=x
  ·rw[if_pos hk]
   exact XE.mpr ⟨fun y hy=>(Xp.mp hy).elim (fun e=>e▸hk) fun hy=>Zn hk (hx.1 y hy),h⟩
  ·rw[if_neg hk]
   exact XE.mpr ⟨fun y hy=>(Xp.mp ((insI_perm k r).mem_iff.mp hy)).elim (fun e=>e▸ZV (Int.not_le.mp hk)) (hx.1 y),ih hx.2⟩
theorem ri(l:List Int):(sortI l).Pairwise (· <=·):=by
 induction l with
 |nil=>exact List.Pairwise.nil
 |cons k r ih=>exact uy k ih
noncomputable def qt(t:List Int):V:=.tup (t.map V.int)
theorem Cv{vs:List V}:∀{ks:List Key}{ts:List (List Int)},keys? vs=some ks->tups? ks=some ts->vs=ts.map qt:=by
 induction vs with
 |nil=>intro ks ts e f;cases e;cases f;rfl
 |cons v r ih=>
  intro ks ts e f
  have e:(match v.key?,keys? r with|some k,some ks=>some (k::ks)|_,_=>none)=some ks:=e
  cases e1:v.key? with
  |none=>rw[e1]at e;cases e
  |some k=>
   cases e2:keys? r with
   |none=>rw[e1,e2]at e;cases e
   |some ks'=>
    rw[e1,e2]at e;cases e
    cases k with
    |int _=>cases f
    |tup is=>
     obtain⟨ts',ht,rfl⟩:=Xe.mp f
     rw[ih e2 ht,jH e1];rfl
@[elab_as_elim] theorem RR{ks rs:List V}{P:List V->List V->Prop}(e:iW ks=some rs)(k1:∀is,is.length<64->P (is.map V.int) ((sortI is).map V.int))
  (k2:∀ts:List (List Int),(∀t∈ts,t≠[])->Nb bW ts->P (ts.map qt) (ts.map qt))(k3:∀ts:List (List Int),(∀t∈ts,t≠[])->Nb (fun x y=>bW y x) ts->P (ts.map qt) (ts.map qt).reverse):P ks rs:=by
 unfold iW at e
 cases hi:ints? ks with
 |some is=>
  rw[hi]at e
  dsimp only at e
  by_cases h:is.length<64
  ·rw[if_pos h]at e;cases e;exact ints_map hi▸k1 is h
  ·rw[if_neg h]at e;cases e
 |none=>
  rw[hi]at e
  dsimp only at e
  cases hk:keys? ks with
  |none=>rw[hk]at e;cases e
  |some ks'=>
   rw[hk]at e
   dsimp only at e
   cases ht:tups? ks' with
   |none=>rw[ht]at e;cases e
   |some ts=>
    rw[ht]at e
    dsimp only at e
    have v:=Cv hk ht
    clear hi hk ht
    subst v
    by_cases hne:(ts.all fun t=>!t.isEmpty)=true
    ·rw[if_pos hne]at e
     have ne:∀t∈ts,t≠[]:=fun t ht q=>absurd (YO.mp hne t ht) (q▸Bool.false_ne_true)
     by_cases ha:pJ ts=true
     ·rw[if_pos ha]at e;cases e;exact k2 ts ne (HO ha)
     ·rw[if_neg ha]at e
      by_cases hd:oN ts=true
      ·rw[if_pos hd]at e;cases e;exact k3 ts ne (Af hd)
      ·rw[if_neg hd]at e;cases e
    ·rw[if_neg hne]at e;cases e
section
variable{G:Gl}{β:List BA}{F:Addr->Prop}{Hp:Heap}{x:Sx}{s s':Shared}{u v r:V}{X:Value}{vs ks:List V}{A:Around}{Er:Value->Shared->Prop}{Q:Value->Shared->Prop}{items:List Value}
theorem Ww{ts:List (List Int)}(hv:cY G β F Hp (ts.map qt) items){i:Nat}{t:List Int}(e:ts[i]? =some t):∃X,items[i]? =some X/\TK Hp X t:=
 (hv.get (i:=i) (v:=qt t) (by rw[Xj,e];rfl)).imp fun X h=>⟨h.1,h.2.tk⟩
theorem GX{ts:List (List Int)}:∀{items:List Value},(∀t∈ts,t≠[])->(∀(i:Nat) t,ts[i]? =some t->∃X,items[i]? =some X/\TK Hp X t)->items.length=ts.length->
  ∃fs,KatTups Hp items fs/\fs.length=ts.length/\∀f∈fs,∃n t,f=.int n t:=by
 induction ts with
 |nil=>
  intro items _ _ hl
  rw[YI.mp hl]
  exact⟨[],.nil,rfl,fun f hf=>absurd hf aan⟩
 |cons t ts ih=>
  intro items hne hg hl
  cases items with
  |nil=>cases hl
  |cons X items=>
   obtain⟨X',e,tk⟩:=hg 0 t rfl
   cases e
   obtain⟨fs,k1,k2,k3⟩:=ih (fun t ht=>hne t (.tail _ ht)) (fun i=>hg (i+1)) (Nat.succ.inj hl)
   obtain⟨a,aJ,n,rfl,g,hi⟩:=tk
   have hn:=hne t (.head _)
   obtain⟨aJ⟩:=aJ
   cases hi with
   |nil=>exact absurd rfl hn
   |cons m u hr=>
    exact⟨.int m u::fs,.cons g rfl rfl rfl k1,congrArg Nat.succ k2,fun f hf=>(Xp.mp hf).elim (fun e=>⟨m,u,e⟩) (k3 f)⟩
theorem zj{M:Model}(n:Int)(t:Tok):Looks M Hp (typeOf (.int n t)) (.type "int"):=fun A Q E s hk hq=>WN hq
theorem zip_get{i:Nat}:(items.toArray.zip items.toArray)[i]? =items[i]?.map fun X=>(X,X):=by
 rw[abm,YA]
 show(List.zipWith Prod.mk items items)[i]? =_
 rw[List.getElem?_zipWith]
 cases items[i]? <;>rfl
theorem wY{ts:List (List Int)}{out:List Value}{arr:Array Keyed}(hz:items.length<=SZ)(hc:jb G A.in1 X items x.s)(hv:Vl G x (ts.map qt) items)(hne:∀t∈ts,t≠[])
  (h0:out.length=items.length)(h1:items.length<2->out=items)(ha:arr.map (·.2)=out.toArray)
  (hr:∀(s'':Shared)(E':Value->Shared->Prop)(st:SortSt)(Q:Option Nat->SortSt->Prop),kindOf st=tuples' true->arrOf st=items.toArray.zip items.toArray->TA s''.heap ts (arrOf st)->2<=ts.length->Q (some ts.length) (setArr st arr)->wpS G.m A.in1.in1 E' s'' (countRun' 0 ts.length) Q st)
  (hw:Vl G x vs out)(q:Gf G x (.list vs) Q):WS G.m A (call (.builtin "sorted") [X]) Q Er x.s:=by
 have lt:ts.length=items.length:=WK qt▸hv.len
 refine pT (fun o=>o.toList=out) hz hc (fun s' D P E' ho hk hP=>?_) (fun s' D n o hG hD k g=>q.lst k hD g (by rw[hw.len,h0];exact hz) (by rw[hG];exact hw))
 have keep:∀s'':Shared,(∀b x,b≠D->s'.heap.get? b=some x->s''.heap.get? b=some x)->∀(i:Nat) t,ts[i]? =some t->∃X,items[i]? =some X/\TK s''.heap X t:=fun s'' k i t et=>
  (Ww hv et).imp fun X h=>⟨h.1,h.2.keeps fun b aJ m g=>k _ _ (hk _ _ g).1 (hk _ _ g).2⟩
 refine qi (out:=out) ho hz h0 h1 (fun h2 E' Q s'' k hq=>?_) (fun h2 E'' Q s'' k hq=>?_) (hP out.toArray rfl)
 ·obtain⟨fs,k1,k2,k3⟩:=GX hne (keep s'' k) lt.symm
  exact kat_kind (T:=.type "int") k1 (by rw[k2,lt];exact WH (by decide) h2) (fun f hf=>by obtain⟨n,t,rfl⟩:=k3 f hf;exact zj n t) (by decide) hq
 ·have T:TA s''.heap ts (items.toArray.zip items.toArray):=⟨by rw[abH,Nat.min_self];exact lt.symm,fun i t et=>by
   obtain⟨X,h1,h2⟩:=keep s'' k i t et
   exact⟨X,X,by rw[zip_get,h1];rfl,h2⟩⟩
  exact yU (N:=ts.length) (arr:=arr) T.sz (lt▸h2) rfl (fun Q' hq'=>hr s'' _ _ Q' rfl rfl T (lt▸h2) hq') fun st' a1 a2=>hq st' (by rw[a1];exact ha) (a2.trans rfl)
theorem vz{n:Nat}(h:n=items.length):(mirror (items.toArray.zip items.toArray) 0 n ((n-0)/2)).map (·.2)=items.reverse.toArray:=by
 subst h
 have hs:(items.toArray.zip items.toArray).size=items.length:=by rw[abH,Nat.min_self];rfl
 refine Array.ext_getElem? fun i=>?_
 rw[Array.getElem?_map,getElem?_mirror_all (WO hs.symm),show items.reverse.toArray[i]? =items.reverse[i]? from YA]
 by_cases hi:i<items.length
 ·rw[if_pos ⟨XI _,hi⟩,ZE hi,zip_get,XG,Option.map_map]
  exact Option.map_id'
 ·rw[if_neg fun z=>hi z.2,zip_get,XD (Yu.mp hi),XD (by rw[Yc];exact Yu.mp hi)];rfl
theorem AH(hz:items.length<=SZ)(hc:jb G A.in1 X items x.s)(hv:Vl G x ks items)(e:iW ks=some vs)(q:Gf G x (.list vs) Q):WS G.m A (call (.builtin "sorted") [X]) Q Er x.s:=by
 revert hv q
 refine RR e (fun is h64 hv q=>?_) (fun ts hne ha hv q=>?_) fun ts hne hd hv q=>?_
 ·have hI:IntsAre items is:=intsAre_of hv
  refine pT (fun out=>IntsAre out.toList (sortI is)) hz hc (fun s' D P E' ho _ hP=>list_sort_tree ho hI (hI.length▸h64) fun out ns' a1 a2 a3=>?_) (fun s' D n out hG hD k g=>q.lst k hD g ?_ (uU hG))
  ·refine hP out ?_
   rw[<-List.Perm.eq_of_pairwise (le:=(· <=·)) (fun a b _ _=>Int.le_antisymm) a3 (ri is) (a2.trans (sortI_perm is).symm)];exact a1
  ·rw[WK,(sortI_perm is).length_eq, <-hI.length];exact hz
 ·exact wY (arr:=items.toArray.zip items.toArray) hz hc hv hne rfl (fun _=>rfl) (wR items) (fun s'' E' st Q' h1 h2 T h3 hq=>AD h1 T h3 ha (by rw[<-h2]at hq;exact hq)) hv q
 ·refine wY (out:=items.reverse) (arr:=mirror (items.toArray.zip items.toArray) 0 ts.length ((ts.length-0)/2)) hz hc hv hne Yc (fun h=>?_) (vz (WK qt▸hv.len)) (fun s'' E' st Q' h1 h2 T h3 hq=>yW h1 T h3 hd (by rw[h2];exact hq)) hv.rev q
  cases items with
  |nil=>rfl
  |cons a r=>cases r with
   |nil=>rfl
   |cons b r=>exact absurd h (Yu.mpr (YK 2 r.length))
end
end
section
variable{G:Gl}{x:Sx}{s:Shared}{u v r:V}{X Y:Value}{vs us ks:List V}{Xs:List Value}{A:Around}{Er:Value->Shared->Prop}{Q:Value->Shared->Prop}{d:Nat}{items:List Value}
theorem nL{l:Addr}{T:String}{items:Array Value}{n:Nat}(hT:T="list"\/T="tuple")(g:x.g l=some { cls:=.type T,data:=.seq items n})(hl:vs.length=items.size)(z:vs.length<=SZ)(h:Vl G x vs items.toList)
  (e:(iW vs).bind fA=some r)(q:∀us,r=.lst us->Gf G x (.list us) Q):WS G.m A (call (.builtin "sorted") [.ref l]) Q Er x.s:=by
 obtain⟨us,e1,e2⟩:=XB.mp e
 have z':items.size<=SZ:=hl▸z
 exact AH z' (zw hT g z') h e1 (q us (da e2))
theorem yP(rm:cz A d)(e:yE .sorted v x.h=some r)(hv:Vr G x v X)(q:∀us,r=.lst us->Gf G x (.list us) Q):WS G.m A (call (.builtin "sorted") [X]) Q Er x.s:=by
 cases v with
 |tup vs=>exact hv.jW fun l items n g _ hl z h=>nL (.inr rfl) g hl z h e q
 |lst vs=>exact hv.hH fun l items n g _ hl z h=>nL (.inl rfl) g hl z h e q
 |bL ks vs=>
  obtain⟨us,e1,e2⟩:=XB.mp e
  exact hv.Ff fun l es D _=>AH (by rw[WK, <-D.len.1];exact D.d.z) (yG rm.hd D.m D.g (by rw[<-D.len.1];exact D.d.z)) D.k e1 (q us (da e2))
 |_=>exact sn e rfl
theorem zL(M:bF G x)(e:yE .range v x.h=some r)(hv:Vr G x v X)(q:Gv G x r Q):WS G.m A (call (.type "range") [X]) Q Er x.s:=by
 cases v with
 |int n=>exact GD M hv (q.of (da e))
 |_=>exact sn e rfl
theorem LD(e:yE .abs v x.h=some r)(hv:Vr G x v X)(q:Gv G x r Q):WS G.m A (call (.builtin "abs") [X]) Q Er x.s:=by
 cases v with
 |int n=>exact hv.cT fun t=>PyProof.Rows.call_abs_int fun u tk=>(q.of (Option.some.inj e).symm).int
 |_=>exact sn e rfl
theorem Ka(e:yE .int v x.h=some r)(hv:Vr G x v X)(q:Gv G x r Q):WS G.m A (call (.type "int") [X]) Q Er x.s:=by
 cases v with
 |bool b=>exact hv.IG▸call_int_bool ((q.of (Option.some.inj e).symm).int)
 |_=>exact sn e rfl
theorem HZ(e:yE .str v x.h=some r)(hv:Vr G x v X)(q:Gv G x r Q):WS G.m A (call (.type "str") [X]) Q Er x.s:=by
 cases v with
 |int n=>exact LP (fG e) hv (q.of (da e))
 |_=>exact sn e rfl
theorem Fb(M:bF G x)(e:yE .tuple v x.h=some r)(hv:Vr G x v X)(q:Gv G x r Q):WS G.m A (call (.type "tuple") [X]) Q Er x.s:=by
 cases v with
 |lst vs=>exact Ew M hv (q.of (Option.some.inj e).symm)
 |_=>exact sn e rfl
theorem Gk(rm:cz A d)(e:yE .sum v x.h=some r)(hv:Vr G x v X)(q:Gv G x r Q):WS G.m A (call (.builtin "sum") [X]) Q Er x.s:=by
 cases v with
 |lst vs=>exact(Xe.mp e).elim fun is h=>JG rm h.1 hv (q.of h.2.symm)
 |_=>exact sn e rfl
theorem KD(b:B)(rm:cz A d)(M:bF G x)(e:yE b v x.h=some r)(hv:Vr G x v X)(q:Gv G x r Q):WS G.m A (call (MX b) [X]) Q Er x.s:=by
 have qf:∀us,r=.lst us->Gf G x (.list us) Q:=fun us e=>(q.of e).f M
 cases b with
 |len=>exact MB M e hv q
 |range=>exact zL M e hv q
 |list=>exact xj e hv qf
 |tuple=>exact Fb M e hv q
 |sorted=>exact yP rm e hv qf
 |abs=>exact LD e hv q
 |max=>exact sn e rfl
 |sum=>exact Gk rm e hv q
 |str=>exact HZ e hv q
 |int=>exact Ka e hv q
@[elab_as_elim] theorem So{b:B}{h:H}{P:B->List V->Prop}(e:qT b vs h=some r)(k1:∀v,yE b v h=some r->P b [v])(k2:∀i j,V.kE i j=r->P .range [.int i,.int j])(k3:∀i j:Int,V.int (if j>i then j else i)=r->P .max [.int i,.int j]):P b vs:=by
 cases vs with
 |nil=>exact sn e rfl
 |cons u r1=>cases r1 with
  |nil=>exact k1 u e
  |cons v r2=>cases r2 with
   |cons _ _=>exact sn e rfl
   |nil=>cases b with
    |range=>cases u with
     |int i=>cases v with
      |int j=>exact k2 i j (da e).symm
      |_=>exact sn e rfl
     |_=>exact sn e rfl
    |max=>cases u with
     |int i=>cases v with
      |int j=>exact k3 i j (Option.some.inj e)
      |_=>exact sn e rfl
     |_=>exact sn e rfl
    |_=>exact sn e rfl
theorem Ni(b:B)(rm:cz A d)(M:bF G x)(e:qT b vs x.h=some r)(hv:Vl G x vs Xs)(q:Gv G x r Q):WS G.m A (call (MX b) Xs) Q Er x.s:=by
 revert hv q
 refine So e (fun v e hv q=>?_) (fun i j e hv q=>?_) (fun i j e hv q=>?_)
 ·obtain⟨X,rfl,h⟩:=hv.one
  exact KD b rm M e h q
 ·obtain⟨X,Y,rfl,hu,h⟩:=hv.two
  exact FJ M hu h (q.of e.symm)
 ·obtain⟨X,Y,rfl,hu,h⟩:=hv.two
  exact Lh rm hu h (q.of e.symm)
theorem JT(M:bF G x)(e:qT .list vs x.h=some r)(hv:Vl G x vs Xs)(q:∀us,r=.lst us->Gf G x (.list us) Q):WS G.m A (call (.type "list") Xs) Q Er x.s:=by
 have e':∃v,vs=[v]/\yE .list v x.h=some r:=by
  cases vs with
  |nil=>exact sn e rfl
  |cons u r1=>cases r1 with
   |nil=>exact⟨u,rfl,e⟩
   |cons v r2=>cases r2<;>exact sn e rfl
 obtain⟨v,rfl,e'⟩:=e'
 obtain⟨X,rfl,h⟩:=hv.one
 exact xj e' h q
end
section
noncomputable def mid(m:Nat):String:=match m with
 |0=>"list.append"|1=>"list.insert"|2=>"list.extend"|3=>"list.pop"|4=>"list.index"|5=>"dict.get"|6=>"dict.setdefault"|_=>"str.join"
section
variable{G:Gl}{F:Addr->Prop}{x:Sx}{s:Shared}{v r i:V}{X Y Z:Value}{vs us args:List V}{Xs:List Value}{o:O}{p:BA}{A:Around}{Er:Value->Shared->Prop}{Q:Value->Shared->Prop}{m n:Nat}{l:Addr}{items:Array Value}
theorem Wr.lst{P:Shared->Prop}{tk:Nat}(q:Wr G x (l,l) (.list us) P)(g:x.g l=some (dg items n))(f:Array Value->Array Value)(h:Vl G x us (f items).toList)(z:us.length<=SZ):P { x.s with heap:=x.s.heap.update l (Obj.mapSeq f),toks:=tk}:=
 q _ ⟨_,_,rfl⟩ ⟨l,.inl rfl,(Heap.SameBut.update ..).extBut⟩ fun F' fr=>.list (get?_update_seq g f) z (cY.mono fr (fun _ _ e=>e) h)
theorem Wr.id{P:Shared->Prop}{tk:Nat}(q:Wr G x p o P)(O:Or G x o p):P { x.s with toks:=tk}:=
 q _ ⟨_,_,rfl⟩ ⟨p.1,.inl rfl,fun _ _ _ e=>e⟩ fun F' fr=>OR.mono fr (fun _ _ e=>e) (fun _ e=>e) (fun _ e=>e) O
@[elab_as_elim] theorem NH{P:Nat->List V->V->List V->Prop}{r:V×List V}(e:Ln vs m args=some r)(k0:∀v,vs.length<SZ->P 0 [v] .none (vs++[v]))
  (k1:∀(i:Int) v,0<=i->i<=vs.length->vs.length<SZ->P 1 [.int i,v] .none (vs.take i.toNat++v::vs.drop i.toNat))(k2:∀us,vs.length+us.length<=SZ->P 2 [.lst us] .none (vs++us))(k3:∀v,vs.getLast? =some v->P 3 [] v vs.dropLast):P m args r.1 r.2:=by
 have t:∀{c:Bool}{a:V×List V},(match c with|true=>some a|false=>none)=some r->c=true/\r=a:=fun{c a} h=>by
  cases c with
  |true=>exact⟨rfl,(Option.some.inj h).symm⟩
  |false=>cases h
 match m with
 |0=>cases args with
  |nil=>exact sn e rfl
  |cons v a=>cases a with
   |nil=>obtain⟨h,rfl⟩:=t e;exact k0 v (dt h)
   |cons _ _=>exact sn e rfl
 |1=>cases args with
  |nil=>exact sn e rfl
  |cons i a=>cases i with
   |int i=>cases a with
    |nil=>exact sn e rfl
    |cons v a=>cases a with
     |nil=>obtain⟨h,rfl⟩:=t e;exact k1 i v (dt (br (br h).1).1) (dt (br (br h).1).2) (dt (br h).2)
     |cons _ _=>exact sn e rfl
   |_=>exact sn e rfl
 |2=>cases args with
  |nil=>exact sn e rfl
  |cons i a=>cases i with
   |lst us=>cases a with
    |nil=>obtain⟨h,rfl⟩:=t e;exact k2 us (dt h)
    |cons _ _=>exact sn e rfl
   |_=>exact sn e rfl
 |3=>cases args with
  |nil=>
   obtain⟨v,h,rfl⟩:=Xe.mp e
   exact k3 v h
  |cons _ _=>exact sn e rfl
 |_+4=>exact sn e rfl
theorem qu(k:Nat)(X:Value)(hk:k<=items.size):((items.extract 0 k).push X++items.extract k).toList=items.toList.take k++X::items.toList.drop k:=by
 rw[Yt,aa8,aaG,aaG,Xn]
 show(items.toList.drop 0).take (k-0)++(X::(items.toList.drop k).take (items.size-k))=_
 rw[Zg (l:=items.toList.drop k) (by rw[Zo];exact WQ _)];rfl
theorem yr{r:V×List V}(e:Ln vs m args=some r)(Op:Or G x (.list vs) p)(hv:Vl G x args Xs)(q:∀Z,Vr G x r.1 Z->Wr G x p (.list r.2) (Q Z)):WS G.m A (call (.builtin (mid m)) (.ref p.1::Xs)) Q Er x.s:=by
 revert q hv
 refine Op.listE fun l items n g hl z h=>?_
 have hz:items.size<=sizeLine:=hl▸qg z
 have hT:x.s.TypeIs (.ref l) "list":=⟨_,g,rfl⟩
 refine NH (P:=fun m args a b=>Vl G x args Xs->(∀Z,Vr G x a Z->Wr G x (l,l) (.list b) (Q Z))->WS G.m A (call (.builtin (mid m)) (.ref l::Xs)) Q Er x.s) e (fun v z' hv q=>?_) (fun i v i0 i1 z' hv q=>?_) (fun us z' hv q=>?_) (fun v z' hv q=>?_)
 ·obtain⟨X,rfl,hX⟩:=hv.one
  refine wpAny_call_entry slot_list_append hT entry_list_append ?_ (args_list_append _ _)
  show WS _ _ (updateSeq l (·.push X)>>=fun _=>ret .none) _ _ x.s
  exact WJ (wpAny_updateSeq g rfl (WN ⟨.none,rfl,(q _ .none).lst (tk:=x.s.toks) g (·.push X) (by rw[aa8];exact h.snoc hX) (by rw[Xd];exact z')⟩))
 ·obtain⟨I,X,rfl,hI,hX⟩:=hv.two
  refine VR.cT (P:=fun I=>WS G.m A (call (.builtin "list.insert") [.ref l,I,X]) Q Er x.s) hI fun t=>?_
  have i1':i.toNat<=items.size:=hl▸Int.toNat_le.mpr i1
  have hfit:Builtin.List.listFitsIndex i=true:=by
   have:(vs.length:Int)<2 ^ 63:=MM z
   show(decide _&&decide _)=true
   rw[decide_eq_true (Zn (by decide) i0),decide_eq_true (Yb i1 this)];rfl
  refine call_meets PySem.F.slot_list_insert hT PySem.F.entry_list_insert (PySem.F.args_list_insert_3 _ _ _) (AutoListH.list_insert_list_int_val_1 l items n i _ X (by rw[hfit];exact Bool.false_ne_true) hz) ⟨g,?_⟩
  refine(q _ .none).lst (tk:=x.s.toks) g _ ?_ ?_
  ·have hk:(if i<0 then(i+((items.size:Nat):Int)).toNat else min i.toNat items.size)=i.toNat:=by rw[if_neg (YU.mpr i0),aay i1']
   dsimp only
   rw[hk,qu _ _ i1']
   exact(h.take _).app (.cons hX (h.drop _))
  ·rw[Xd,XT,Nat.add_succ, <-Xd,Zk];exact z'
 ·obtain⟨X,rfl,hX⟩:=hv.one
  refine VR.hH (P:=fun X=>WS G.m A (call (.builtin "list.extend") [.ref l,X]) Q Er x.s) hX fun l2 items2 n2 g2 _ hl2 z2 h2=>?_
  have zz:items.size+items2.size<=sizeLine:=hl▸hl2▸qg z'
  refine call_meets PySem.F.slot_list_extend hT PySem.F.entry_list_extend (PySem.F.args_list_extend_2 _ _)
   (AutoSeq1.list_extend_list_list_0 l items n l2 items2 n2 (fun hh=>absurd (of_decide_eq_true (br hh).2) (Yu.mpr zz)) hz (XS zz)) ⟨g,g2,?_⟩
  exact(q _ .none).lst (tk:=x.s.toks) g (fun x=>x++items2) (by rw[Yt];exact h.app h2) (by rw[Xd];exact z')
 ·cases hv
  have hne:vs≠[]:=fun q=>by rw[q]at z';cases z'
  have hpos:0<items.size:=hl▸List.length_pos_iff.mpr hne
  have hu:vs[items.size-1]? =some v:=by rw[<-hl, <-List.getLast?_eq_getElem?];exact z'
  obtain⟨Y,hy,hvy⟩:=h.get hu
  rw[XZ]at hy
  refine call_meets PySem.F.slot_list_pop hT PySem.F.entry_list_pop (PySem.F.args_list_pop_1 _) (list_pop_last l items n Y hy hz) ⟨g,?_⟩
  refine(q _ hvy).lst (tk:=x.s.toks) g _ ?_ (by rw[List.length_dropLast];exact WH (aav _ _) z)
  have:(items.eraseIdxIfInBounds (items.size-1)).toList=items.toList.take (items.size-1):=by
   unfold Array.eraseIdxIfInBounds
   rw[dif_pos (Nat.sub_lt hpos Nat.one_pos),Array.toList_eraseIdx,List.eraseIdx_eq_take_drop_succ,ZY hpos,List.drop_eq_nil_of_le (show items.toList.length<=items.size from WQ _),Xo]
  rw[this,List.dropLast_eq_take,hl]
  exact h.take _
end
end
section
variable{G:Gl}{β:List BA}{F:Addr->Prop}{x:Sx}{s:Shared}{v r i dflt:V}{X Y Z:Value}{vs args:List V}{Xs:List Value}{o:O}{p:BA}{A:Around}{Er:Value->Shared->Prop}{Q:Value->Shared->Prop}{d m:Nat}{l:Addr}{k:Key}{ks:List Key}{es:List DictEntry}
theorem Hv(rm:cz A d)(D:vc G β F s.heap l ks vs es)(hk:aR k ks=true)(hX:VR G β F s.heap k.v X)(hY:VR G β F s.heap dflt Y)(hq:∀Z tk,VR G β F s.heap ((bC k ks vs).getD dflt) Z->Q Z { s with toks:=tk}):
  WS G.m A (call (.builtin "dict.get") [.ref l,X,Y]) Q Er s:=by
 refine wpAny_call_entry PySem.F.slot_dict_get ⟨_,D.g,rfl⟩ PySem.F.entry_dict_get ?_ (PySem.F.args_dict_get_3 _ _ _)
 show WS _ _ (dictGet l X>>=_) _ _ s
 refine WJ (jw (A:=A.in1) rm.u1 D hk hX (fun v' Z tk e' hv'=>WN ⟨Z,rfl,hq Z tk (by rw[e'];exact hv')⟩) (fun tk e'=>?_))
 show WS _ _ (Builtin.Dict.missed l X>>=_) _ _ _
 exact WJ (wpAny_missed_other D.m (WN ⟨Y,rfl,hq Y tk (by rw[e'];exact hY)⟩))
theorem Ek(rm:cz A d)(D:vc G x.β x.F x.s.heap l ks vs es)(hk:aR k ks=true)(hz:ks.length<SZ)(hX:Vr G x k.v X)(hY:Vr G x dflt Y)
  (q1:∀v Z,bC k ks vs=some v->Vr G x v Z->Wr G x (l,l) (.dict ks vs) (Q Z))(q2:bC k ks vs=none->Wr G x (l,l) (.dict (bB k ks) (fT k dflt ks vs)) (Q Y)):
  WS G.m A (call (.builtin "dict.setdefault") [.ref l,X,Y]) Q Er x.s:=by
 have hT:x.s.TypeIs (.ref l) "dict":=⟨_,D.g,rfl⟩
 refine wpAny_call_entry PySem.F.slot_dict_setdefault hT PySem.F.entry_dict_setdefault ?_ (PySem.F.args_dict_setdefault_3 _ _ _)
 unfold Builtin.«dict.setdefault» Builtin.Dict.keyAndDefault
 refine WJ (WJ (wpAny_notOrdered_dict hT ?_))
 show WS _ _ (pure (l,X,some Y)) _ _ x.s
 refine WN ?_
 show WS _ _ (if(l==sysModules)=true then _ else(dictSetDefault l X Y>>=_)) _ _ x.s
 rw[if_neg (by rw[D.m];exact Bool.false_ne_true)]
 refine WJ ?_
 unfold dictSetDefault
 refine Xg (WJ (kg (A:=A.in1) rm.u1 hX fun tk=>WJ (hW (A:=A.in1) (s:={ x.s with toks:=tk}) rm.u1 D hk hX ?_)))
 have lk:=ma (k:=k) (D.len.1.trans D.len.2.symm)
 obtain⟨es',e,d1,d2,d3⟩:=Eb D hk hX hY hz
 have pi:=rS (k:=k) (v:=dflt) (D.len.1.trans D.len.2.symm)
 revert pi e
 cases hp:posK k ks with
 |none=>
  intro e pi
  rw[hp]at lk
  refine WJ (wpAny_rule (WJ (wpAny_updateDictKeys (hz:=by rw[aa5, <-D.len.1];exact qg (Xl hz)) D.g rfl (WN (WN ⟨Y,rfl,
   q2 lk _ ⟨_,_,rfl⟩ ⟨l,.inl rfl,(Heap.SameBut.update ..).extBut⟩ fun F' fr=>.dict (es:=es') ?_ D.m d1 (cY.mono fr (fun _ _ e=>e) d2) (cY.mono fr (fun _ _ e=>e) d3)⟩)))))
  rw[Heap.get?_update_self _ D.g rfl,pi.1,e,Xd]
  exact congrArg (fun a=>some (bk a _)) (aa6 _ _)
 |some i=>
  intro _ _
  rw[hp]at lk
  have hlt:i<es.length:=D.len.1▸(Yp.mp hp).1
  have hv:vs[i]? =some (vs[i]'(D.len.2▸hlt)):=WR _
  obtain⟨z,hz,hr⟩:=D.v.get hv
  rw[Xj,WR hlt]at hz
  cases hz
  refine WJ (wpAny_dictEntries (s:={ x.s with toks:=tk}) D.g rfl ?_)
  rw[YA,WR hlt]
  exact WJ (wpAny_rule (WN (WN ⟨_,rfl,(q1 _ _ (lk.trans hv) hr).id (.dict D.g D.m D.d D.k D.v)⟩)))
theorem zM{r:V×O}{P:List V->Prop}(e:xl ks vs args=some r)(K:∀i dflt k,i.key? =some k->aR k ks=true->ks.length<SZ->(∀v,bC k ks vs=some v->r=(v,.dict ks vs))->(bC k ks vs=none->r=(dflt,.dict (bB k ks) (fT k dflt ks vs)))->P [i,dflt]):P args:=by
 cases args with
 |nil=>exact sn e rfl
 |cons i a=>cases a with
  |nil=>exact sn e rfl
  |cons dflt a=>cases a with
   |cons _ _=>exact sn e rfl
   |nil=>
    unfold xl at e
    dsimp only at e
    cases h:i.key? with
    |none=>rw[h]at e;cases e
    |some k=>
     rw[h]at e
     dsimp only at e
     cases c:aR k ks&&decide (ks.length<SZ) with
     |false=>rw[c]at e;cases e
     |true=>
      rw[c]at e
      exact K i dflt k h (br c).1 (dt (br c).2) (fun v q=>by rw[q]at e;exact(Option.some.inj e).symm) fun q=>by rw[q]at e;exact(Option.some.inj e).symm
theorem pV{α:Type}{m j:Nat}{a:Option α}{r:α}(e:(match Nat.beq m j with|true=>a|false=>none)=some r):m=j/\a=some r:=by
 cases h:Nat.beq m j with
 |true=>rw[h]at e;exact⟨Ym h,e⟩
 |false=>rw[h]at e;cases e
theorem tZ{r:V×O}(rm:cz A d)(e:dh o m args=some r)(Op:Or G x o p)(hv:Vl G x args Xs)(q:∀Z,Vr G x r.1 Z->Wr G x p r.2 (Q Z)):WS G.m A (call (.builtin (mid m)) (.ref p.1::Xs)) Q Er x.s:=by
 cases o with
 |list vs=>
  obtain⟨t,e1,rfl⟩:=Xe.mp e
  exact yr e1 Op hv q
 |inst _ _ _=>cases e
 |dict ks vs=>
  obtain⟨rfl,e⟩:=pV (a:=xl ks vs args) e
  revert hv
  refine zM (P:=fun args=>Vl G x args Xs->_) e fun i dflt k hi hk hz e1 e2 hv=>?_
  obtain⟨X,Y,rfl,hX,hY⟩:=hv.two
  revert q
  refine Op.lM fun l es D q=>Ek rm D hk hz (jH hi▸hX) hY (fun v Z e hZ=>?_) fun e=>?_
  ·have:=q Z
   rw[e1 v e]at this
   exact this hZ
  ·have:=q Y
   rw[e2 e]at this
   exact this hY
theorem An{P:List V->Prop}(e:zy ks vs args=some r)(K:∀k dflt,aR k ks=true->r=(bC k ks vs).getD dflt->P [k.v,dflt]):P args:=by
 cases args with
 |nil=>exact sn e rfl
 |cons i a=>cases a with
  |nil=>exact sn e rfl
  |cons dflt a=>cases a with
   |cons _ _=>exact sn e rfl
   |nil=>
    obtain⟨k,e1,e2⟩:=XB.mp e
    cases h:aR k ks with
    |false=>rw[h]at e2;cases e2
    |true=>rw[h]at e2;rw[jH e1];exact K k dflt h (Option.some.inj e2).symm
theorem yo(rm:cz A d)(e:zy ks vs args=some r)(D:vc G x.β x.F x.s.heap l ks vs es)(hv:Vl G x args Xs)(q:Gv G x r Q):WS G.m A (call (.builtin "dict.get") (.ref l::Xs)) Q Er x.s:=by
 revert hv
 refine An (P:=fun args=>Vl G x args Xs->_) e fun k dflt hk hr hv=>?_
 obtain⟨X,Y,rfl,hX,hY⟩:=hv.two
 exact Hv rm D hk hX hY fun Z tk hZ=>q _ _ (.tk _ _) (hr▸hZ)
theorem qH(rm:cz A d)(e:mw o m args=some r)(Op:Or G x o p)(hv:Vl G x args Xs)(q:Gv G x r Q):WS G.m A (call (.builtin (mid m)) (.ref p.1::Xs)) Q Er x.s:=by
 cases o with
 |list vs=>cases e
 |inst _ _ _=>cases e
 |dict ks vs=>
  obtain⟨rfl,e⟩:=pV (a:=zy ks vs args) e
  exact Op.lM fun l es D=>yo rm e D hv q
end
section
variable{G:Gl}{β:List BA}{F:Addr->Prop}{Hp:Heap}{x y:Sx}{s:Shared}{u v r i:V}{X Y:Value}{vs us args:List V}{Xs:List Value}{A:Around}{Er:Value->Shared->Prop}{Q:Value->Shared->Prop}{d m n:Nat}{l:Addr}{items:Array Value}{k:Key}{ks:List Key}{es:List DictEntry}
theorem Gs(hc:(eqB u v).isSome=true)(hu:VR G β F Hp u Y)(hv:VR G β F Hp v X):EB Y X=lZ v u:=by
 obtain⟨b,hb⟩:=YZ.mp hc
 rw[(qM hb hu hv).2]
 unfold lZ;rw[hb];cases b<;>rfl
theorem yM(e:sG vs args=some r)(hX:Vr G x (.lst vs) X)(hv:Vl G x args Xs)(q:Gv G x r Q):WS G.m A (call (.builtin "list.index") (X::Xs)) Q Er x.s:=by
 have inv:∃v,args=[v]/\vs.all (fun u=>(eqB u v).isSome)=true/\∃n:Nat,vs.findIdx? (lZ v)=some n/\r=.int n:=by
  cases args with
  |nil=>exact sn e rfl
  |cons v a=>cases a with
   |cons _ _=>exact sn e rfl
   |nil=>
    unfold sG at e
    dsimp only at e
    cases h:vs.all (fun u=>(eqB u v).isSome) with
    |false=>rw[h]at e;cases e
    |true=>rw[h]at e;exact⟨v,rfl,h,(Xe.mp e).imp fun n h=>⟨h.1,h.2.symm⟩⟩
 obtain⟨v,rfl,hc,m,hi,rfl⟩:=inv
 obtain⟨Y,rfl,hY⟩:=hv.one
 refine hX.hH fun l items n g _ hl z h=>?_
 obtain⟨hlt,h1,h2⟩:=Yp.mp hi
 have at':∀i (hi:i<items.size),EB items[i] Y=lZ v (vs[i]'(hl.symm▸hi)):=fun i hi=>by
  obtain⟨X,hx,hvx⟩:=h.get (i:=i) (WR (hl.symm▸hi))
  rw[XZ,Zq hi]at hx
  rw[Option.some.inj hx]
  exact Gs (YO.mp hc _ (Yh _)) hvx hY
 exact call_meets PySem.F.slot_list_index ⟨_,g,rfl⟩ PySem.F.entry_list_index (PySem.F.args_list_index_2 _ _)
  (list_index l items n Y (fun y=>EB y Y) (fun y hy=>(pR h hc hY).1 y (YF.mpr hy)) m (hl▸hlt) (Yb (XX.mpr (WH (Xl hlt) z)) (by decide)) ((at' m (hl▸hlt)).trans h1)
   fun i hi him=>(at' i hi).trans (Bool.eq_false_iff.mpr (h2 i him))) ⟨g,q.int⟩
theorem CK{xs:List (List Nat)}:∀{items:List Value},cY G β F Hp (xs.map V.str) items->∃ys,StrsAre items ys/\ys.map (·.cps.toList)=xs:=by
 induction xs with
 |nil=>intro items h;cases h;exact⟨[],.nil,rfl⟩
 |cons v r ih=>
  intro items h
  cases h with
  |cons a b=>
   obtain⟨ys,h1,h2⟩:=ih b
   exact a.nT (P:=fun X=>∃ys,StrsAre (X::_) ys/\ys.map (·.cps.toList)=v::r) fun S t e=>⟨S::ys,.cons _ _ h1,by rw[Za,h2,e]⟩
theorem AJ(sep:Str)(ys:List Str):(Str.join sep ys).cps.toList=eI sep.cps.toList (ys.map (·.cps.toList)):=by
 induction ys with
 |nil=>rfl
 |cons x r ih=>cases r with
  |nil=>rfl
  |cons y r=>
   show(x++sep++Str.join sep (y::r)).cps.toList=_
   rw[Str.cps_append,Str.cps_append,Yt,Yt,ih];rfl
theorem Dx{sp:List Nat}(e:Ea sp args=some r)(hX:Vr G x (.str sp) X)(hv:Vl G x args Xs)(q:Gv G x r Q):WS G.m A (call (.builtin "str.join") (X::Xs)) Q Er x.s:=by
 have inv:∃us ss,args=[.lst us]/\strs? us=some ss/\(ss.map YN).sum+ss.length*sp.length<=SZ/\r=.str (eI sp ss):=by
  cases args with
  |nil=>exact sn e rfl
  |cons v a=>cases v with
   |lst us=>cases a with
    |cons _ _=>exact sn e rfl
    |nil=>obtain⟨ss,e1,e2⟩:=XB.mp e;exact⟨us,ss,rfl,e1,dt (fG e2),da e2⟩
   |_=>exact sn e rfl
 obtain⟨us,ss,rfl,hs,hz,rfl⟩:=inv
 obtain⟨Y,rfl,hY⟩:=hv.one
 refine hX.nT fun S t e=>hY.hH fun l items n g _ _ _ hl=>?_
 subst e
 rw[hE hs]at hl
 obtain⟨ys,h1,rfl⟩:=CK hl
 refine join_list ⟨_,g,rfl,n,rfl⟩ h1 ?_ fun t' k=>q.str ?_
 ·rw[Yd,WK]at hz
  rw[show ys.map (·.length)=ys.map (YN ∘ fun x=>x.cps.toList) from Zb fun y _=>ka y,ka S]
  exact hz
 ·rw[<-AJ]
  exact congrArg (fun s:Str=>s.cps.toList) (StrLaws.glued_eq_join S ys)
theorem CR(rm:cz A d)(e:uF v m args=some r)(hX:Vr G x v X)(hv:Vl G x args Xs)(q:Gv G x r Q):WS G.m A (call (.builtin (mid m)) (X::Xs)) Q Er x.s:=by
 cases v with
 |str s=>obtain⟨rfl,e⟩:=pV (a:=Ea s args) e;exact Dx e hX hv q
 |lst vs=>obtain⟨rfl,e⟩:=pV (a:=sG vs args) e;exact yM e hX hv q
 |bL ks vs=>
  obtain⟨rfl,e⟩:=pV (a:=zy ks vs args) e
  exact hX.Ff fun l es D _=>yo rm e D hv q
 |_=>cases e
end
section
open Builtin Builtin.Str StrLaws
variable{G:Gl}{F:Addr->Prop}{x:Sx}{s s':Shared}{v w i:V}{X:Value}{vs:List V}{o:O}{A:Around}{Er:Value->Shared->Prop}{Q:Value->Shared->Prop}{d m n:Nat}{l:Addr}{items:Array Value}
theorem FF{I:Addr}{Q:Bool->Shared->Prop}(hT:s.TypeIs (.ref I) "list_reverseiterator")(hq:Q false s):WS G.m A (Builtin.List.listLengthHint (.ref I)) Q Er s:=by
 have n1:typeLookup (.type "list_reverseiterator") "__len__"=pure none:=by rw[typeLookup_type,builtinLookup_eq_fast];kernel_rfl
 have n2:typeLookup (.type "list_reverseiterator") "__length_hint__"=pure (some (.builtin "list_reverseiterator.__length_hint__")):=by rw[typeLookup_type,builtinLookup_eq_fast];kernel_rfl
 unfold Builtin.List.listLengthHint
 refine WJ (wpAny_specialOf hT n1 ?_)
 refine WJ (wpAny_specialOf hT n2 ?_)
 generalize hid:("list_reverseiterator.__length_hint__":String)=id0
 wp_delta
 rw[show splitId id0=some ("list_reverseiterator","__length_hint__") from by subst hid;decide+kernel]
 subst hid
 refine WJ (wpAny_isInstance (T:="list_reverseiterator") (b:=true) hT (by rw[isSubtype_type];kernel_rfl) ?_)
 refine wpAny_ite_split (fun hab=>absurd hab (by decide)) (fun _=>?_)
 refine wpAny_ite_split (fun _=>?_) (fun hab=>absurd (by decide+kernel) hab)
 refine wpAny_ite_split (fun hab=>absurd hab (by decide)) (fun _=>?_)
 exact WN hq
theorem uG{acc:Array Value}(h:acc.size=items.size/\∀i v,acc[i]? =some v->items[items.size-1-i]? =some v):acc.toList=items.toList.reverse:=by
 refine YX fun i=>?_
 rw[XZ]
 cases q:acc[i]? with
 |some v=>
  have hi:i<items.size:=h.1▸(ZZ.mp q).1
  rw[ZE (show i<items.toList.length from hi),Zs,XZ,h.2 i v q]
 |none=>rw[XD (by rw[Yc];exact WH (WO h.1.symm) (YV.mp q))]
theorem uo{I l:Addr}(hh:A.handled=none)(hI:s.heap.IsRevIter I l ((items.size:Int)-1))(hl:s.heap.IsList l items)(hne:l≠I)(hz:items.size<=SZ)
  {R:List Value->Shared->Prop}(hR:∀Hp' tk,(∀b o,b≠I->s.heap.get? b=some o->Hp'.get? b=some o)->R items.toList.reverse { s with heap:=Hp',toks:=tk}):WS G.m A (collect (.ref I)) R Er s:=by
 have W:=Walks.listRev (prog:=G.prog) (w:=G.w) (A:=A.in1) hh I l hne items
 have k0:∀b o,s.heap.get? b=some o->(s.heap.push (seqObj "list" #[] 0)).get? b=some o:=aA _ _
 have hI':(s.heap.push (seqObj "list" #[] 0)).IsRevIter I l ((items.size:Int)-1):=hI.at fun o e=>k0 _ _ e
 have hl':(s.heap.push (seqObj "list" #[] 0)).IsList l items:=hl.push _
 have hlt:s.heap.objs.size≠I:=hI.elim fun _ h=>Xz (Heap.lt_size h.1)
 have hlt2:s.heap.objs.size≠l:=hl.elim fun _ h=>Xz (Heap.lt_size h.1)
 have S0:=And.intro (XI items.size) (And.intro (show(s.heap.push (seqObj "list" #[] 0)).IsRevIter I l ((items.size:Int)-1-(0:Nat)) from(aa9 _).symm▸hI') hl')
 unfold collect
 refine WJ (wpAny_runValue (codeAny_builtin entry_proto_collect' ?_))
 rw[Around.under_plainId PySem.F.plain_proto_collect _]
 show WS _ A.in1 (newList []>>=fun l=>again (.builtin "list.__iadd__" ⟨[l,.ref I],[]⟩)) _ _ s
 refine WJ (wpAny_newObj_type (WN ⟨plainId_quiet PySem.F.plain_list_iadd _,codeAny_builtin entry_list_iadd' ?_⟩))
 rw[Around.under_plainId PySem.F.plain_list_iadd _]
 show WS _ A.in1 (Builtin.List.listExtendWith (.ref s.heap.objs.size) (.ref I) (.ref s.heap.objs.size)) _ _ { s with heap:=s.heap.push (seqObj "list" #[] 0)}
 unfold Builtin.List.listExtendWith
 refine WJ (wpAny_typeOf (T:="list_reverseiterator") hI'.typeIs ?_)
 have h1:Builtin.List.listSameRef (.ref s.heap.objs.size) (.ref I)=false:=beq_eq_false_iff_ne.mpr hlt
 rw[if_neg (by rw[h1];decide)]
 refine WJ (W.self 0 { s with heap:=s.heap.push (seqObj "list" #[] 0)} _ _ S0 ?_)
 refine WJ (Xg (FF hI'.typeIs ?_))
 refine wpAny_ite_split (fun hab=>absurd hab (by decide+kernel)) (fun _=>?_)
 refine WN ⟨plainId_quiet PySem.F.plain_extend_loop _,?_⟩
 refine codeAny_extend_loopS (A:=A) W.toS (qg hz) s.heap.objs.size (fun m=>(Xp.mp m).elim hlt fun m=>hlt2 (WW.mp m)) (.ref s.heap.objs.size) items.size 0 { s with heap:=s.heap.push (seqObj "list" #[] 0)} #[] 0 rfl (XI _)
  S0 (Heap.get?_push_size _ rfl) (ItemsOf.nil _) fun s' acc' c' hm hS' hacc=>?_
 rw[Moved.eq_with hm]
 show WS G.m A (load s.heap.objs.size>>=_) R Er _
 refine WJ (wpAny_load hS' ?_)
 show WS _ _ (pure acc'.toList) R Er _
 rw[uG hacc]
 refine WN (hR _ s'.toks fun b o hb e=>hm.heap b o (fun hmem=>?_) (k0 b o e))
 rcases Xp.mp hmem with q|hmem
 ·exact Yq _ (q▸Heap.lt_size e)
 ·exact hb (WW.mp hmem)
theorem yT(rm:cz A d)(M:bF G x)(hX:Vr G x (.lst vs) X)(q:Gv G x (.tup vs.reverse) Q):
  WS G.m A (call (.type "reversed") [X]) (fun X s'=>WS G.m A (call (.type "tuple") [X]) Q Er s') Er x.s:=by
 refine hX.hH fun l items n g _ hl' z h=>?_
 have hl:x.s.heap.IsList l items:=⟨_,g,rfl,n,rfl⟩
 have hz:items.size<=SZ:=hl'▸z
 refine call_reversed_list hl ?_
 have hIs:(x.s.heap.push (revObj l ((items.size:Int)-1))).IsRevIter x.s.heap.objs.size l ((items.size:Int)-1):=⟨_,Heap.get?_push_size _ rfl,rfl,rfl⟩
 refine callType_codes (Q₁:=fun obj s₁=>s₁.TypeIs obj "tuple"/\Q obj s₁) PySem.F.called_tuple (PySem.F.typeCall_tuple_1 _) PySem.F.entry_object_init ?_ fun obj s₁ h₁=>?_
 ·refine codeAny_of_tree ?_
  show WS _ _ (do checkBuiltinCall "tuple.__new__" ⟨[.type "tuple",.ref x.s.heap.objs.size],[]⟩;again (.builtin "tuple.__new__" ⟨[.type "tuple",.ref x.s.heap.objs.size],[]⟩)) _ _ _
  refine WJ (wpAny_of_eq (PySem.F.newCall_tuple_1 _) (WN ⟨plainId_quiet PySem.F.plain_tuple_new _,codeAny_builtin PySem.F.entry_tuple_new ?_⟩))
  rw[Around.under_plainId PySem.F.plain_tuple_new _]
  have hsub:=sub_tuple_self
  have hinit:=init_tuple_lookup
  have hmh:=madeHere_tuple
  have hTI:=Heap.IsRevIter.typeIs (s:={ x.s with heap:=x.s.heap.push (revObj l ((items.size:Int)-1))}) hIs
  have hh1:A.in1.in1.handled=none:=rm.hd
  wp_walk using wpAny_typeOf hTI,uo (A:=A.in1.in1) (s:={ x.s with heap:=x.s.heap.push (revObj l ((items.size:Int)-1))}) hh1 hIs (hl.push _) (WT (Heap.lt_size g)) hz
  intro Hp' tk k
  show WS _ _ (Builtin.Tuple.tupleExact items.toList.reverse.toArray>>=fun v=>ret v) _ _ _
  unfold Builtin.Tuple.tupleExact
  have k':∀b o,x.s.heap.get? b=some o->Hp'.get? b=some o:=fun b o e=>k b o (fun z=>sn (z▸e) (ax _)) (aA _ _ _ _ e)
  refine WJ (wpAny_newObj_type (WN ⟨⟨_,Heap.get?_push_size _ rfl,rfl⟩,?_⟩) (by show items.toList.reverse.length<=sizeLine;rw[Yc];exact qg hz))
  exact q.tup (items:=items.toList.reverse.toArray) M (.of fun b o e=>aA _ _ _ _ (k' b o e)) (none_of k' (ax _)) (Heap.get?_push_size _ rfl) (by rw[Yc];exact z) h.rev
 ·exact⟨h₁.1,PySem.F.args_object_init_2 obj _,object_init_meets PySem.F.called_tuple.init.lookup PySem.F.called_tuple.made (by decide) G.prog G.w A.in1 _ s₁ ⟨h₁.1,rfl,h₁.2⟩⟩
end
section
open Builtin Builtin.Str StrLaws
noncomputable abbrev jA(l u st:Value):Obj:={ cls:=.type "slice",data:=.fields #[l,u,st]}
section
variable{G:Gl}{F:Addr->Prop}{Hp:Heap}{x y:Sx}{s:Shared}{u v r i:V}{X:Value}{vs us:List V}{o o':O}{A:Around}{Er:Value->Shared->Prop}{Q:Value->Shared->Prop}{m n:Nat}{l:Addr}{items:Array Value}{ob:Obj}{t:Tok}
theorem tX(n:Nat):¬ ((n:Int)<0):=YU.mpr (WU n)
theorem pF(a b:Nat):min (a:Int) (b:Int)=((min a b:Nat):Int):=by omega
theorem xx(items:Array Value)(n:Nat):slicePick items none (some (n:Int)) none=(items.toList.take n).toArray:=by
 have e:sliceBounds none (some (n:Int)) none items.size=(((0:Nat):Int),((min n items.size:Nat):Int),1):=by
  unfold sliceBounds
  dsimp only[abn]
  rw[if_neg (tX n),if_pos (show(1:Int)>0 by decide),if_pos (show(1:Int)>0 by decide),pF,ZH (WU _)];rfl
 rw[kmk_pick_nat items e,abI,Nat.sub_zero, <-Zs,kmk_take_min]
theorem vG(items:Array Value)(n:Nat):slicePick items (some (n:Int)) none none=(items.toList.drop n).toArray:=by
 have e:sliceBounds (some (n:Int)) none none items.size=(((min n items.size:Nat):Int),(items.size:Int),1):=by
  unfold sliceBounds
  dsimp only[abn]
  rw[if_neg (tX n),if_pos (show(1:Int)>0 by decide),if_pos (show(1:Int)>0 by decide),pF,ZH (WU _)]
 rw[kmk_pick_nat items e, <-Zs,kmk_drop_min,Zg]
 rw[Zo]
 exact Nat.sub_le_sub_left (abx _ _) _
theorem zi(n len:Nat):strSliceIndices none (some (n:Int)) 1 len=(Xq (min n len)).map (fun k=>0+k):=by
 rw[<-Nat.sub_zero (min n len), <-strSliceIndices_plain (XI _) (ZI _ _)]
 have h1:¬ (((0:Nat):Int)<0):=tX 0
 have h2:¬ ((n:Int)<0):=tX n
 have h3:¬ (((min n len:Nat):Int)<0):=tX _
 simp only[strSliceIndices,h1,h2,h3,if_false,show((1:Int)>0)=True from by simp,if_true]
 rw[pF n len,pF 0 len,pF (min n len) len,Nat.zero_min,aay (ZI n len),ZH (WU (min n len)),ZH (WU 0)];rfl
theorem DI(S:Str)(n:Nat):(Txt.slice S none (some (n:Int))).cps.toList=S.cps.toList.take n:=by
 have key:((Xq (min n S.length)).map (fun k=>0+k)).filterMap (S.cps[·]?)=S.cps.toList.take n:=by
  rw[pick_run S.cps 0 (min n S.length),abI,ka S,kmk_take_min]
 unfold Txt.slice
 rw[zi]
 split
 ·rename_i hc
  rw[Zg]
  have hc:=of_decide_eq_true hc
  rw[WK,Xb]at hc
  rw[<-ka];exact WH (WO hc.symm) (abx _ _)
 ·exact congrArg (fun l:List _=>l) key
theorem f1(Hp:Heap):Hp.get? (Hp.objs.size+1)=none:=by
 cases q:Hp.get? (Hp.objs.size+1) with
 |none=>rfl
 |some o=>exact(Yu.mpr (Yj _) (Heap.lt_size q)).elim
theorem Em(Hp:Heap)(o o':Obj)(f:o'.isFreed=false):((Hp.push o).push o').get? (Hp.objs.size+1)=some o':=by
 rw[<-Heap.size_push Hp o];exact Heap.get?_push_size _ f
theorem Gv.OM{us:List V}{n:Nat}{o:Obj}(q:Gv G x (.lst us) Q)(M:bF G x)(h:Vl G x us items.toList)(z:us.length<=SZ):Q (.ref (x.s.heap.objs.size+1)) { x.s with heap:=(x.s.heap.push o).push (dg items n)}:=
 (q.f (o:=.list us) M).lst (.of (tk:=x.s.toks) fun b y e=>aA _ _ _ _ (aA _ _ _ _ e)) (f1 _) (Em _ _ _ rfl) z h
theorem td{L U S:Option Int}(ob:Obj)(M:bF G x)(hX:Vr G x (.lst vs) X)(us:List V)(q:Gv G x (.lst us) Q)(z':vs.length<=SZ->us.length<=SZ)(hp:∀items,Vl G x vs items.toList->Vl G x us (slicePick items L U S).toList)
  (go:∀l items n,x.g l=some (dg items n)->items.size<=sizeLine->(Q (.ref (x.s.heap.push ob).objs.size) { x.s with heap:=(x.s.heap.push ob).push (dg (slicePick items L U S) 0)})->WS G.m A (getItem (.ref l) (.ref x.s.heap.objs.size)) Q Er { x.s with heap:=x.s.heap.push ob}):
  ∃T id,gz G A X (.ref x.s.heap.objs.size) Q Er { x.s with heap:=x.s.heap.push ob} T id:=
 hX.hH fun l items n g _ hl z h=>⟨"list",_,list_getitem_lookup,⟨_,aA _ _ _ _ g,rfl⟩,go l items n g (hl▸qg z) (by rw[Heap.size_push];exact q.OM M (hp items h) (z' z))⟩
theorem Cw(M:bF G x)(hX:Vr G x (.lst vs) X)(q:Gv G x (.lst vs.reverse) Q):∃T id,gz G A X (.ref x.s.heap.objs.size) Q Er { x.s with heap:=x.s.heap.push (jA .none .none (.int (-1) t))} T id:=
 td (L:=none) (U:=none) (S:=some (-1)) _ M hX vs.reverse q (fun z=>by rw[Yc];exact z) (fun items h=>by rw[krv_pick];exact h.rev) fun l items n g z k=>
  wpAny_getItem_list_slice ⟨_,aA _ _ _ _ g,rfl,n,rfl⟩ (Heap.IsSliceOf.new ..) .none .none (.int (-1) t) (by decide) k z
theorem Cj{vs:List Value}{is:List Int}(h:IntsAre vs is):vs.length=is.length:=by
 induction h with
 |nil=>rfl
 |cons _ _ _ ih=>exact congrArg Nat.succ ih
theorem GK{vs:List Value}{is:List Int}(h:IntsAre vs is):∀n:Nat,Vl G x ((is.take n).map V.int) (vs.take n).toArray.toList:=by
 induction h with
 |nil=>intro n;rw[aaj,aaj];exact .nil
 |cons i t _ ih=>intro n;cases n with|zero=>exact .nil|succ n=>exact .cons (.int i t) (ih n)
theorem GQ(M:bF G x)(e:dY v n=some r)(hX:Vr G x v X)(q:Gv G x r Q):∃T id,gz G A X (.ref x.s.heap.objs.size) Q Er { x.s with heap:=x.s.heap.push (jA .none (.int n t) .none)} T id:=by
 cases v with
 |str S=>
  revert e
  refine hX.nT fun S u e h=>?_
  subst e
  have hz:S.cps.toList.length<=SZ:=dt (fG h)
  exact⟨"str",_,PySem.F.slot_str_getitem.lookup,typeIs_str _ _ _,wpAny_getItem_str_slice (l:=none) (u:=some (n,t)) (st:=none) ⟨_,Heap.get?_push_size _ rfl,rfl,rfl⟩ rfl
    (post_val_or_str (y:=S) (z:=⟨((slicePicked S none (some (n,t)) none).filterMap (S.cps[·]?)).toArray⟩) ⟨WH (Txt.slice_le S none (some n)) (by rw[ka];exact qg hz),fun t' k=>
     q _ _ (.push _ _ _) ((da h).symm▸.str (DI S n))⟩)⟩
 |lst vs=>
  exact td (L:=none) (U:=some n) (S:=none) _ M hX (vs.take n) (q.of (da e)) (fun z=>by rw[aao];exact WH (ZI _ _) z) (fun items h=>by rw[xx];exact h.take n) fun l items m g z k=>
   wpAny_getItem_list_slice ⟨_,aA _ _ _ _ g,rfl,m,rfl⟩ (Heap.IsSliceOf.new ..) .none (.int n t) .none (by decide) k z
 |uH is=>
  have z:is.length<=SZ:=dt (fG e)
  cases hX with
  |@uH l o items m is g hc hd no hi=>
   have hl:items.toList.length=is.length:=Cj hi
   exact⟨"list",_,list_getitem_lookup,⟨_,aA _ _ _ _ g,hc⟩,wpAny_getItem_list_slice ⟨_,aA _ _ _ _ g,hc,m,hd⟩ (Heap.IsSliceOf.new ..) .none (.int n t) .none (by decide) (by
    rw[xx,Heap.size_push]
    exact(q.of (da e)).OM M (GK hi n) (by rw[WK,aao];exact WH (ZI _ _) z)) (qg (by rw[show items.size=is.length from hl];exact z))⟩
 |_=>exact sn e rfl
theorem zc(M:bF G x)(e:aW v n=some r)(hX:Vr G x v X)(q:Gv G x r Q):∃T id,gz G A X (.ref x.s.heap.objs.size) Q Er { x.s with heap:=x.s.heap.push (jA (.int n t) .none .none)} T id:=by
 cases v with
 |tup vs=>
  have q:=q.of (da e)
  have c:=br (fG e)
  revert hX
  refine fun hX=>hX.jW fun l items m g _ hl z h=>?_
  refine⟨"tuple",_,PySem.F.slot_tuple_getitem.lookup,⟨_,aA _ _ _ _ g,rfl⟩,getItem_tuple_from ⟨_,aA _ _ _ _ g,rfl,m,rfl⟩ (Heap.IsSliceOf.new ..) (dt (br c.1).1) (hl▸dt (br c.1).2) ?_ (hl▸qg z)⟩
  rw[Heap.size_push]
  exact q.tup (items:=(items.toList.drop n).toArray) M (.of (tk:=x.s.toks) fun b y e=>aA _ _ _ _ (aA _ _ _ _ e)) (f1 _) (Em _ _ _ rfl) (by rw[Zo];exact WH (aav _ _) z) (h.drop n)
 |lst vs=>
  exact td (L:=some n) (U:=none) (S:=none) _ M hX (vs.drop n) (q.of (da e)) (fun z=>by rw[Zo];exact WH (aav _ _) z) (fun items h=>by rw[vG];exact h.drop n) fun l items m g z k=>
   wpAny_getItem_list_slice ⟨_,aA _ _ _ _ g,rfl,m,rfl⟩ (Heap.IsSliceOf.new ..) (.int n t) .none .none (by decide) k z
 |_=>exact sn e rfl
end
end
section
structure qU(K:Frag)(fa:Nat->Option Addr)(c:Nat)(C:Addr):Prop where
 ga:findIn K (.ref C) "__getattribute__"=some (some (.builtin "object.__getattribute__"))
 gt:findIn K (.ref C) "__getattr__"=some none
 sa:findIn K (.ref C) "__setattr__"=some (some (.builtin "object.__setattr__"))
 po:plainOver K C=true
 hd:(clsIn K C).any (·.hasDict)=true
 VU:makesIn K C=true
 kp:keepIn K (.ref C)=true
 ok:∀f,zC c f=true->findIn K (.ref C) (aw f)=some none
 me:∀m f,mp.vR c m=some f->m<cG/\∃a,fa f=some a/\findIn K (.ref C) (aw m)=some (some (.ref a))/\typeIn K (.ref a)=some (.type "function")
 it:∀f,mp.init c=some f->∃a,fa f=some a/\findIn K (.ref C) "__init__"=some (some (.ref a))/\typeIn K (.ref a)=some (.type "function")
theorem zO{f g:Nat}(hf:f<cG)(hg:g<cG)(e:aw f=aw g):f=g:=
 congrArg Fin.val ((by decide+kernel:∀f:Fin 82,∀g:Fin 82,aw f=aw g->f=g) ⟨f,hf⟩ ⟨g,hg⟩ e)
theorem rN{c f:Nat}(h:zC c f=true):f<cG:=by
 unfold zC at h
 cases q:yx[c]? with
 |none=>rw[q]at h;cases h
 |some l=>rw[q]at h;exact ZW.mp (br h).1
section
variable{G:Gl}{β:List BA}{F:Addr->Prop}{Hp:Heap}{x:Sx}{s:Shared}{v w:V}{X:Value}{vs:List V}{p:BA}{A:Around}{Er:Value->Shared->Prop}{d m n c f:Nat}{l:Addr}{fs:List Nat}{es:List DictEntry}{R:V->Value->Prop}
@[elab_as_elim] theorem OR.qE{P:BA->Prop}(h:OR G β F Hp (.inst c fs vs) p)(k:∀A D C es n,G.cl c=some C->A≠D->Hp.get? A=some (qJ C D)->Hp.get? D=some (bk es.toArray n)->FK c fs es->fs.length<=100->cY G β F Hp vs (es.map DictEntry.val)->P (A,D)):P p:=by
 cases h with|inst c d g g' f z l=>exact k _ _ _ _ _ c d g g' f z l
theorem sJ{P:List Nat->List V->List DictEntry->Prop}(h0:P [] [] [])(h1:∀f fs v vs e es t,zC c f=true->e.key=.str (aw f) t->R v e.val->FK c fs es->L2 R vs (es.map DictEntry.val)->P fs vs es->P (f::fs) (v::vs) (e::es)):
  ∀{es:List DictEntry}{vs:List V},FK c fs es->L2 R vs (es.map DictEntry.val)->P fs vs es:=by
 induction fs with
 |nil=>
  intro es vs hf hl
  cases es with
  |nil=>cases hl;exact h0
  |cons _ _=>exact hf.elim
 |cons f fs ih=>
  intro es vs hf hl
  cases es with
  |nil=>exact hf.elim
  |cons e es=>cases hl with|cons a b=>exact hf.2.1.elim fun t ht=>h1 f fs _ _ e es t hf.1 ht a hf.2.2 b (ih hf.2.2 b)
theorem key_is{e:DictEntry}{g:Nat}{t:Tok}(he:e.key=.str (aw g) t)(hf:f<cG)(hg:g<cG):e.key.isStr (aw f)=Nat.beq f g:=by
 rw[he]
 show(aw g==aw f)=_
 cases q:Nat.beq f g with
 |true=>rw[Ym q];exact beq_self_eq_true _
 |false=>exact beq_eq_false_iff_ne.mpr fun z=>Nat.ne_of_beq_eq_false q (zO hf hg z.symm)
theorem FE(hf:f<cG)(K:FK c fs es)(hl:L2 R vs (es.map DictEntry.val)):
  (∀v,ae f fs vs=some v->zC c f=true/\∃V,es.find? (·.key.isStr (aw f))=some V/\R v V.val)/\(ae f fs vs=none->es.find? (·.key.isStr (aw f))=none):=by
 refine sJ (P:=fun fs vs es=>(∀v,ae f fs vs=some v->zC c f=true/\∃V,es.find? (·.key.isStr (aw f))=some V/\R v V.val)/\(ae f fs vs=none->es.find? (·.key.isStr (aw f))=none)) ⟨fun v e=>sn e rfl,fun _=>rfl⟩ (fun g fs v vs e es t ho he hr _ _ ih=>?_) K hl
 have k:=key_is he hf (rN ho)
 show(∀w,(match Nat.beq f g with|true=>some v|false=>ae f fs vs)=some w->_)/\((match Nat.beq f g with|true=>some v|false=>ae f fs vs)=none->_)
 rw[List.find?_cons,k]
 cases q:Nat.beq f g with
 |true=>exact⟨fun w e'=>⟨Ym q▸ho,e,rfl,Option.some.inj e'▸hr⟩,fun e'=>nomatch e'⟩
 |false=>exact ih
theorem Cg(K:FK c fs es)(hl:L2 R vs (es.map DictEntry.val)):es.any (·.refKey)=false:=by
 refine sJ (P:=fun fs vs es=>es.any (·.refKey)=false) rfl (fun g fs v vs e es t ho he hr _ _ ih=>?_) K hl
 rw[ZM,ih]
 unfold DictEntry.refKey
 rw[he];rfl
theorem Ip(hf:f<cG)(K:FK c fs es)(hl:L2 R vs (es.map DictEntry.val)):
  (∀v,ae f fs vs=some v->zC c f=true/\∃V,PySem.W.lookIn (aw f) (bk es.toArray n)=some (some V)/\R v V)/\(ae f fs vs=none->PySem.W.lookIn (aw f) (bk es.toArray n)=some none):=by
 obtain⟨h1,h2⟩:=FE hf K hl
 unfold PySem.W.lookIn
 refine⟨fun v e=>⟨(h1 v e).1,(h1 v e).2.elim fun V q=>⟨V.val,?_,q.2⟩⟩,fun e=>?_⟩
 ·dsimp only;rw[q.1]
 ·dsimp only;rw[h2 e,if_neg (by rw[Cg K hl];exact Bool.false_ne_true)]
theorem VR.hd(h:VR G β F Hp v X):handedIn X=true:=VR.rec (motive_1:=fun _ X _=>handedIn X=true) (motive_2:=fun _ _ _=>True) rfl (fun _=>rfl) (fun _ _=>rfl) (fun _=>rfl) (fun _ _ _ _ _=>rfl) (fun _ _=>rfl) (fun _=>rfl) (fun _ _ _ _ _=>rfl) (fun _ _ _ _ _ _ _ _=>rfl) (fun _ _ _ _ _ _ _ _ _ _=>rfl) (fun _ _ _ _ _=>rfl) trivial (fun _ _ _ _=>trivial) h
theorem km{expr:Bool}{Q:Value->Shared->Prop}(WX:G.K.In x.s.heap)(Wc:∀c C,G.cl c=some C->qU G.K G.fa c C)(hf:f<cG)(Op:Or G x (.inst c fs vs) p)
  (e:ae f fs vs=some v)(hq:∀V tk,Vr G x v V->Q V { x.s with toks:=tk}):WS G.m A (getAttr (.ref p.1) (aw f) expr) Q Er x.s:=by
 refine Op.qE fun l D C es n hc ne g1 g2 F z hl=>?_
 have Oc:=Wc c C hc
 obtain⟨hok,V,e1,hV⟩:=(Ip (n:=n) hf F hl).1 v e
 obtain⟨cd,hcd,hdict⟩:=any_some Oc.hd
 have I:InstAt x.s.heap l (qJ C D) C (some (bk es.toArray n)):=⟨g1,rfl,rfl,g2⟩
 have hf:findObj G.K C (some (bk es.toArray n)) (aw f)=some (.value V):=by
  unfold findObj
  rw[hcd,abo,Oc.ok f hok,abo]
  unfold PySem.W.ownOf
  rw[hdict]
  show((PySem.W.lookIn (aw f) (bk es.toArray n)).bind _)=_
  rw[e1];rfl
 exact get_value WX I Oc.ga hf hV.hd (hq V _ hV)
theorem se{g:Nat}{pl:Sem Bool}{Q:Value×List Value->Shared->Prop}(WX:G.K.In x.s.heap)(Wc:∀c C,G.cl c=some C->qU G.K G.fa c C)(Op:Or G x (.inst c fs vs) p)
  (e:ae m fs vs=none)(em:mp.vR c m=some g)(hq:∀F,G.fa g=some F->Q (.ref F,[.ref p.1]) x.s):WS G.m A (getMethod (.ref p.1) (aw m) pl) Q Er x.s:=by
 revert hq
 refine Op.qE fun l D C es n hc ne g1 g2 F z hl hq=>?_
 have Oc:=Wc c C hc
 obtain⟨hm,fad,h1,h2,h3⟩:=Oc.me m g em
 have e1:=(Ip (n:=n) hm F hl).2 e
 have I:InstAt x.s.heap l (qJ C D) C (some (bk es.toArray n)):=⟨g1,rfl,rfl,g2⟩
 have hs:shadowIn (some (bk es.toArray n)) (aw m)=some false:=by
  show XF _ (PySem.W.lookIn (aw m) (bk es.toArray n))=some false
  rw[e1];rfl
 exact method_fn WX I Oc.ga Oc.gt h2 h3 hs (hq fad h1)
theorem JU{V:Value}{hh:Int}{tk:Tok}(hf:zC c f=true)(hv:R v V)(K:FK c fs es)(hl:L2 R vs (es.map DictEntry.val)):
  FK c (fC f fs) (putIn (·.key.isStr (aw f)) (fun e=>{ e with val:=V}) ⟨hh,.str (aw f) tk,V⟩ es)/\L2 R (dQ f v fs vs) ((putIn (·.key.isStr (aw f)) (fun e=>{ e with val:=V}) ⟨hh,.str (aw f) tk,V⟩ es).map DictEntry.val)/\
  (fC f fs).length<=fs.length+1/\(putIn (·.key.isStr (aw f)) (fun e=>{ e with val:=V}) ⟨hh,.str (aw f) tk,V⟩ es).length<=fs.length+1:=by
 refine sJ (P:=fun fs vs es=>FK c (fC f fs) (putIn (·.key.isStr (aw f)) (fun e=>{ e with val:=V}) ⟨hh,.str (aw f) tk,V⟩ es)/\L2 R (dQ f v fs vs) ((putIn (·.key.isStr (aw f)) (fun e=>{ e with val:=V}) ⟨hh,.str (aw f) tk,V⟩ es).map DictEntry.val)/\
  (fC f fs).length<=fs.length+1/\(putIn (·.key.isStr (aw f)) (fun e=>{ e with val:=V}) ⟨hh,.str (aw f) tk,V⟩ es).length<=fs.length+1) ⟨⟨hf,⟨tk,rfl⟩,trivial⟩,.cons hv .nil,WQ _,WQ _⟩ (fun g fs w vs e es t ho he hr K hl ih=>?_) K hl
 have k:=key_is he (rN hf) (rN ho)
 have e1:fC f (g::fs)=(match Nat.beq f g with|true=>g::fs|false=>g::fC f fs):=rfl
 have e2:dQ f v (g::fs) (w::vs)=(match Nat.beq f g with|true=>v::vs|false=>w::dQ f v fs vs):=rfl
 have kl:es.length=fs.length:=sJ (P:=fun fs vs es=>es.length=fs.length) rfl (fun _ _ _ _ _ _ _ _ _ _ _ _ ih=>congrArg Nat.succ ih) K hl
 rw[e1,e2]
 cases q:Nat.beq f g with
 |true=>
  rw[putIn_hit (fun e:DictEntry=>e.key.isStr (aw f)) _ _ _ _ (k.trans q)]
  exact⟨⟨ho,⟨t,he⟩,K⟩,.cons hv hl,Yj _,Xi (XS (WO kl))⟩
 |false=>
  rw[putIn_miss (fun e:DictEntry=>e.key.isStr (aw f)) _ _ _ _ (k.trans q)]
  exact⟨⟨ho,⟨t,he⟩,ih.1⟩,.cons hr ih.2.1,Xi ih.2.2.1,Xi ih.2.2.2⟩
theorem vQ{V:Value}{Q:Unit->Shared->Prop}(WX:G.K.In x.s.heap)(Wc:∀c C,G.cl c=some C->qU G.K G.fa c C)(Op:Or G x (.inst c fs vs) p)
  (hf:zC c f=true)(hz:fs.length<100)(hv:Vr G x v V)(hq:Wr G x p (.inst c (fC f fs) (dQ f v fs vs)) (Q ())):WS G.m A (setAttr (.ref p.1) (aw f) V) Q Er x.s:=by
 revert hq
 refine Op.qE fun l D C es n hc ne g1 g2 F z hl hq=>?_
 have Oc:=Wc c C hc
 have I:InstAt x.s.heap l (qJ C D) C (some (bk es.toArray n)):=⟨g1,rfl,rfl,g2⟩
 have ht:takerIn G.K C (aw f)=some none:=by unfold takerIn;rw[Oc.ok f hf];rfl
 obtain⟨cd,hcd,hdict⟩:=any_some Oc.hd
 refine set_plain WX I Oc.sa (osa_open (s:={ x.s with toks:=x.s.toks+1}) WX I Oc.po ht fun b=>?_)
 show WS _ _ (Builtin.ObjectAttr.storeInOwnDict (.ref l) (.ref C) (.str (aw f) x.s.toks) (aw f) V b) _ _ _
 unfold Builtin.ObjectAttr.storeInOwnDict
 refine WJ (WN (WJ (WJ (wpAny_loadPart (s:={ x.s with toks:=x.s.toks+1}) g1 (WJ (Looks.here (s:={ x.s with toks:=x.s.toks+1}) (looks_clsIn (h:=x.s.heap) WX hcd) ?_))))))
 rw[hdict]
 refine WN (a:=some D) (WJ (WN (WJ ?_)))
 unfold nsSet
 refine WJ (WJ (wpAny_askSetting (WN (WJ (wpAny_mkText (WJ (wpAny_loadPart g2 ?_)))))))
 dsimp only
 have nr:es.toArray.any (·.refKey)=false:=by rw[<-aam];exact Cg F hl
 rw[aRefKeyMayBeTheName_at,nr,Bool.and_false]
 refine wpAny_updatePart g2 ?_
 have K:=JU (v:=v) (hh:=PyData.keyHash G.w.params (aw f)) (tk:=x.s.toks+1) hf hv F hl
 have hput:=PySem.putName_eq (aw f) (PyData.keyHash G.w.params (aw f)) (.str (aw f) (x.s.toks+1)) V (.type "dict") none es n #[]
 have hs:Heap.ExtBut D x.s.heap (x.s.heap.update D (Obj.putName (aw f) (PyData.keyHash G.w.params (aw f)) (.str (aw f) (x.s.toks+1)) V)):=(Heap.SameBut.update ..).extBut
 have g2':=Heap.get?_update_self (Obj.putName (aw f) (PyData.keyHash G.w.params (aw f)) (.str (aw f) (x.s.toks+1)) V) g2 (by rw[hput];rfl)
 rw[hput]at g2'
 refine WJ (wpAny_lookBehind g2' (pastItsLine_dict (WH K.2.2.2 (XS (qg (WH hz (by decide)))))) ?_)
 exact WN (hq _ ⟨_,_,rfl⟩ ⟨D,.inr rfl,hs⟩ fun F' fr=>.inst hc ne (hs _ _ ne g1) g2' K.1 (WH K.2.2.1 hz) (cY.mono fr (fun _ _ e=>e) K.2.1))
end
end
section
noncomputable abbrev eD:=List (Str×Nat)
noncomputable abbrev gm:=List (Str×NameKind)
structure Fm where
 A:Around
 env:PySem.Env
 x0:Sx
 x1:Sx
 pr:Addr->Option Obj
 sf:Option BA
structure bJ(d:Nat)(nm:eD)(sc:gm)(C:Fm):Prop where
 rm:cz C.A d
 kind:C.env.scope.kind=.function
 glob:C.env.globals=mainGlobals
 bi:C.env.builtins=builtinsNs
 gl:∀x,sc.lookup x=some .globalImplicit->C.env.kindOf x=some .globalImplicit
 kd:∀x,sc.lookup x=some .cell->C.env.kindOf x=some .cell
 inj:∀x y i,nm.lookup x=some i->nm.lookup y=some i->x=y
 Ot:∀x c,C.env.cells.lookup x=some c->c≠C.env.locals
 Dq:∀x y c,C.env.cells.lookup x=some c->C.env.cells.lookup y=some c->x=y
noncomputable def NE(env:PySem.Env)(b:Addr):Prop:=b=env.locals\/∃x,env.cells.lookup x=some b
noncomputable def Qd(env:PySem.Env)(n:Str)(q:Addr):Prop:=(env.kindOf n=some .local/\q=env.locals)\/(env.kindOf n=some .cell/\env.cells.lookup n=some q)
noncomputable def KP(env:PySem.Env)(Hp:Heap)(y:Str)(ov:Option Value):Prop:=
 (env.kindOf y=some .local/\∃m,Hp.Ns env.locals m/\m y=ov)\/(env.kindOf y=some .cell/\∃c,env.cells.lookup y=some c/\Hp.IsCell c ov)
noncomputable def Dr(G:Gl)(x:Sx)(s:Sl)(ov:Option Value)(p:BA):Prop:=match s with
 |.no=>True
 |.v v=>∃V,ov=some V/\Vr G x v V
 |.o _=>ov=some (.ref p.1)
structure Hn(G:Gl)(env:PySem.Env)(x:Sx)(o:O)(p:BA):Prop where
 o:Or G x o p
 h:Hd x p
 e1:¬ NE env p.1
 e2:¬ NE env p.2
structure ER(G:Gl)(nm:eD)(env:PySem.Env)(x:Sx)(ρ:Env)(pw:Nat->BA):Prop where
 nm:∀y i,nm.lookup y=some i->∃ov,KP env x.s.heap y ov/\Dr G x (gt ρ i) ov (pw i)
 ne:∀b,NE env b->x.F b/\¬ Own x b
 ow:∀i o,gt ρ i=.o o->Hn G env x o (pw i)
structure Up(x y:Sx):Prop where
 p:Pre x.β y.β
 f:pW x.F x.s.heap y.F y.s.heap
structure Wt(G:Gl)(C:Fm)(x:Sx)(ρ:Env)(pw:Nat->BA):Prop where
 st:Step G C.x0 x
 up:Up C.x1 x
 n0:∀b,NE C.env b->C.x0.g b=none
 p0:∀i o,gt ρ i=.o o->C.x0.g (pw i).1=none/\C.x0.g (pw i).2=none
 ap:∀i j o o',gt ρ i=.o o->gt ρ j=.o o'->i≠j->Ap (pw i) (pw j)
 pr:∀b o,C.pr b=some o->(x.g b=some o/\x.F b/\¬ Own x b/\¬ NE C.env b)/\∀i u,gt ρ i=.o u->b≠(pw i).1/\b≠(pw i).2
 sf:∀p,C.sf=some p->pw 0=p
noncomputable def upd{α:Type}(f:Nat->α)(i:Nat)(a:α)(j:Nat):α:=match Nat.beq j i with|true=>a|false=>f j
section
variable{G:Gl}{x y x0:Sx}{s s':Shared}{u v r:V}{V':Value}{o:O}{p:BA}{A:Around}{Er:Value->Shared->Prop}{d i j:Nat}{b q:Addr}{C:Fm}{nm:eD}{sc:gm}{env:PySem.Env}{ρ:Env}{pw:Nat->BA}{n:Str}{Hp Hp':Heap}{ov:Option Value}{sl:Sl}
theorem Up.to{β':List BA}{F':Addr->Prop}{h':H}(u:Up x0 x)(p:Pre x.β β')(f:pW x.F x.s.heap F' s'.heap):Up x0 ⟨β',F',h',s'⟩:=⟨fun a q e=>p a q (u.p a q e),fun b o e n=>f b o (u.f b o e n).1 (u.f b o e n).2⟩
theorem Up.fix{F':Addr->Prop}{h':H}(u:Up x0 x)(f:pW x.F x.s.heap F' s'.heap):Up x0 ⟨x.β,F',h',s'⟩:=u.to (fun _ _ e=>e) f
theorem iT{α:Type}{f:Nat->α}{a:α}:upd f i a i=a:=by unfold upd;rw[aa2]
theorem gU{α:Type}{f:Nat->α}{a:α}(h:j≠i):upd f i a j=f j:=by unfold upd;rw[BE h]
theorem eY:∀{ρ:Env}{i j:Nat},j≠i->gt (st ρ i sl) j=gt ρ j:=by
 intro ρ
 induction ρ with
 |nil=>intro i j _;rfl
 |cons a r ih=>
  intro i j h
  cases i with
  |zero=>cases j with
   |zero=>exact absurd rfl h
   |succ j=>rfl
  |succ i=>cases j with
   |zero=>rfl
   |succ j=>exact ih fun e=>h (congrArg _ e)
theorem lA:∀{ρ:Env}{i:Nat},gt (st ρ i sl) i=sl\/gt (st ρ i sl) i=.no:=by
 intro ρ
 induction ρ with
 |nil=>intro i;exact .inr rfl
 |cons a r ih=>
  intro i
  cases i with
  |zero=>exact .inl rfl
  |succ i=>exact ih
theorem KP.at(k:∀b,NE env b->∀o,Hp.get? b=some o->Hp'.get? b=some o)(h:KP env Hp n ov):KP env Hp' n ov:=
 h.imp (fun h=>⟨h.1,h.2.imp fun m t=>⟨t.1.at fun o e=>k _ (.inl rfl) o e,t.2⟩⟩) fun h=>⟨h.1,h.2.imp fun c t=>⟨t.1,t.2.imp fun o z=>⟨k _ (.inr ⟨n,t.1⟩) o z.1,z.2⟩⟩⟩
theorem Dr.mono(k:∀v V,Vr G x v V->Vr G y v V)(h:Dr G x sl ov p):Dr G y sl ov p:=by
 cases sl with
 |no=>trivial
 |v v=>exact h.imp fun V t=>⟨t.1,k _ _ t.2⟩
 |o o=>exact h
theorem Step.or(S:Step G x y)(h:Or G x o p)(H:Hd x p):Or G y o p:=OR.mono S.fr S.pre (fun _ e=>(S.ot _ _ e H.f1 H.n1).1) (fun _ e=>(S.ot _ _ e H.f2 H.n2).1) h
theorem Step.hd(S:Step G x y)(h:Or G x o p)(H:Hd x p):Hd y p:=
 h.al.1.elim fun _ e=>h.al.2.elim fun _ e'=>have a:=(S.ot _ _ e H.f1 H.n1).2;have b:=(S.ot _ _ e' H.f2 H.n2).2;⟨a.1,b.1,a.2,b.2⟩
theorem ER.de(R:ER G nm env x ρ pw)(M:bF G x)(S:Step G x y):ER G nm env y ρ pw where
 nm:=fun n i h=>(R.nm n i h).imp fun ov t=>⟨t.1.at fun b e o h=>(S.ot b o h (R.ne b e).1 (R.ne b e).2).1,t.2.mono fun _ _=>S.vr⟩
 ne:=fun b e=>(M.qc b (R.ne b e).1).elim fun o h=>(S.ot b o h (R.ne b e).1 (R.ne b e).2).2
 ow:=fun i o h=>have t:=R.ow i o h;⟨S.or t.o t.h,S.hd t.o t.h,t.e1,t.e2⟩
theorem ER.load{Q:Value->Shared->Prop}(O:bJ d nm sc C)(R:ER G nm C.env x ρ pw)(hn:nm.lookup n=some i)(hq:∀V,Dr G x (gt ρ i) (some V) (pw i)->Q V x.s)(hs:gt ρ i≠.no):
  WS G.m A (loadName C.env n) Q Er x.s:=by
 obtain⟨ov,hb,hv⟩:=R.nm n i hn
 obtain⟨V,rfl⟩:∃V,ov=some V:=by
  revert hv hs
  cases gt ρ i with
  |no=>exact fun h=>absurd rfl h
  |v v=>exact fun _ h=>h.imp fun V t=>t.1
  |o o=>exact fun _ h=>⟨_,h⟩
 rcases hb with ⟨k,m,h1,h2⟩|⟨k,c,h1,h2⟩
 ·exact wpAny_loadName_local O.kind k h1 h2 (hq V hv)
 ·exact wpAny_loadName_cell O.kind k h1 h2 (hq V hv)
theorem Jr{Q:Value->Shared->Prop}(O:bJ d nm sc C)(R:ER G nm C.env x ρ pw)(hn:nm.lookup n=some i)(h:gt ρ i=.v v)(hq:∀V,Vr G x v V->Q V x.s):WS G.m A (loadName C.env n) Q Er x.s:=
 R.load O hn (fun V t=>by rw[h]at t;exact t.elim fun V' t=>hq V (by rw[Option.some.inj t.1];exact t.2)) (by rw[h];exact fun z=>Sl.noConfusion z)
theorem fu{Q:Value->Shared->Prop}(O:bJ d nm sc C)(R:ER G nm C.env x ρ pw)(hn:nm.lookup n=some i)(h:gt ρ i=.o o)(hq:Q (.ref (pw i).1) x.s):WS G.m A (loadName C.env n) Q Er x.s:=
 R.load O hn (fun V t=>by rw[h]at t;rw[Option.some.inj t];exact hq) (by rw[h];exact fun z=>Sl.noConfusion z)
theorem ER.MP(O:bJ d nm sc C)(R:ER G nm C.env x ρ pw)(hn:nm.lookup n=some i)(hq:NE C.env q)(hs:Heap.ExtBut q x.s.heap s'.heap)
  (hb:∀n' ov,n'≠n->KP C.env x.s.heap n' ov->KP C.env s'.heap n' ov)(hb':KP C.env s'.heap n (some V'))(h1:Dr G x sl (some V') p)(h2:∀o,sl=.o o->Hn G C.env x o p):
  ER G nm C.env { x with s:=s'} (st ρ i sl) (upd pw i p):=by
 have fr:=bO (R.ne q hq).1 hs
 have vr:∀v V,Vr G x v V->Vr G { x with s:=s'} v V:=fun v V h=>VR.mono fr (fun _ _ e=>e) h
 have hn':∀{o p},Hn G C.env x o p->Hn G C.env { x with s:=s'} o p:=fun t=>⟨OR.mono fr (fun _ _ e=>e) (fun u e=>hs _ u (fun z=>t.e1 (z▸hq)) e) (fun u e=>hs _ u (fun z=>t.e2 (z▸hq)) e) t.o,⟨t.h.f1,t.h.f2,t.h.n1,t.h.n2⟩,t.e1,t.e2⟩
 refine⟨fun n' j h=>?_,R.ne,fun j o h=>?_⟩
 ·by_cases e:j=i
  ·subst e
   cases O.inj _ _ _ h hn
   refine⟨_,hb',?_⟩
   rcases lA (ρ:=ρ) (i:=j) (sl:=sl) with z|z
   ·rw[z,iT];exact h1.mono vr
   ·rw[z];trivial
  ·rw[eY e,gU e]
   exact(R.nm n' j h).imp fun ov t=>⟨hb n' ov (fun z=>e (by rw[z,hn]at h;exact(Option.some.inj h).symm)) t.1,t.2.mono vr⟩
 ·by_cases e:j=i
  ·subst e
   rcases lA (ρ:=ρ) (i:=j) (sl:=sl) with z|z
   ·rw[iT];exact hn' (h2 o (z.symm.trans h))
   ·rw[z]at h;cases h
  ·rw[eY e]at h
   rw[gU e];exact hn' (R.ow j o h)
theorem uY{Q:Unit->Shared->Prop}(O:bJ d nm sc C)(R:ER G nm C.env x ρ pw)(hn:nm.lookup n=some i)(h1:Dr G x sl (some V') p)(h2:∀o,sl=.o o->Hn G C.env x o p)
  (hq:∀s' q,Qd C.env n q->NE C.env q->Heap.ExtBut q x.s.heap s'.heap->(∃o,s'.heap.get? q=some o)->iL x.s s'->ER G nm C.env { x with s:=s'} (st ρ i sl) (upd pw i p)->Q () s'):WS G.m A (storeName C.env n V') Q Er x.s:=by
 obtain⟨ov,hb,hv⟩:=R.nm n i hn
 rcases hb with ⟨k,m,e1,e2⟩|⟨k,c,e1,e2⟩
 ·refine wpAny_storeName_local k e1 (fun Hp' hn' hs=>hq _ C.env.locals (.inl ⟨k,rfl⟩) (.inl rfl) hs.extBut (hn'.imp fun o t=>t.elim fun _ t=>t.elim fun _ t=>t.1) ⟨_,_,rfl⟩ (R.MP O hn (.inl rfl) hs.extBut (fun n' ov ne t=>?_) (.inl ⟨k,_,hn',if_pos rfl⟩) h1 h2)) (by rw[O.kind];rfl)
  refine t.imp (fun t=>⟨t.1,_,hn',?_⟩) fun t=>⟨t.1,t.2.imp fun c z=>⟨z.1,z.2.sameBut hs (O.Ot n' c z.1)⟩⟩
  obtain⟨_,m',t1,t2⟩:=t
  rw[if_neg ne, <-t2];exact e1.agree t1 n'
 ·refine wpAny_storeName_cell O.kind k e1 e2 fun Hp' hc' hs=>hq _ c (.inr ⟨k,e1⟩) (.inr ⟨n,e1⟩) hs.extBut (hc'.imp fun o t=>t.1) ⟨_,_,rfl⟩ (R.MP O hn (.inr ⟨n,e1⟩) hs.extBut (fun n' ov ne t=>?_) (.inr ⟨k,c,e1,hc'⟩) h1 h2)
  exact t.imp (fun t=>⟨t.1,t.2.imp fun m z=>⟨z.1.sameBut hs (O.Ot n c e1).symm,z.2⟩⟩) fun t=>⟨t.1,t.2.imp fun c' z=>⟨z.1,z.2.sameBut hs fun q=>ne (O.Dq _ _ _ z.1 (q▸e1))⟩⟩
end
end
section
noncomputable def bh(x:Str):Bool:=x !=("__debug__":Str)&&x !=("__classdict__":Str)&&x !=("":Str)
noncomputable def tj(sc:gm)(x:Str):Bool:=sc.lookup x==some .globalImplicit&&bh x
noncomputable def pf:B->String
 |.len=>"len"|.range=>"range"|.list=>"list"|.tuple=>"tuple"|.sorted=>"sorted"|.abs=>"abs"|.max=>"max"|.sum=>"sum"|.str=>"str"|.int=>"int"
structure Pl(e:Expr):Prop where
 st:∀asts env,starEach (e::asts) env=(false,eval e env)::starEach asts env
 bm:∀op,behindInMarks op e=false
 fs:∀env x,foldedSetIterable e env x=pure x
 sb:∀o i,∃ops,subscripted e false o i=operate ops (getItem o i)
structure Wd(G:Gl):Prop where
 X:G.K.In G.h0
 lim:G.h0.NoLimit
 sm:∃o,G.h0.get? sysModules=some o
 g:G.h0.Ns mainGlobals G.mg
 b:G.h0.Ns builtinsNs G.mb
 bi:∀x:Str,x≠("__name__":Str)->G.mb x=bootBuiltins x
 cls:∀c C,G.cl c=some C->qU G.K G.fa c C
 fk:∀f a,G.fa f=some a->keepIn G.K (.ref a)=true
section
variable(G:Gl)(d:Nat)(nm:eD)(sc:gm)
noncomputable def av(e:E)(ast:Expr):Prop:=∀C,bJ d nm sc C->∀x ρ pw,bF G x->ER G nm C.env x ρ pw->∀(k:V->H->Prop)(Q Er:Value->Shared->Prop),ev mp (mP d) e ρ x.h k->
 (∀v X y,Step G x y->Vr G y v X->k v y.h->Q X y.s)->WS G.m C.A (eval ast C.env) Q Er x.s
noncomputable def jd(e:E)(ast:Expr):Prop:=∀C,bJ d nm sc C->∀x ρ pw,bF G x->ER G nm C.env x ρ pw->∀(k:V->H->Prop)(Q Er:Value->Shared->Prop),ev mp (mP d) e ρ x.h k->
 (∀o p y,Step G x y->Or G y o p->Hd y p->x.g p.1=none->x.g p.2=none->k o.v y.h->Q (.ref p.1) y.s)->WS G.m C.A (eval ast C.env) Q Er x.s
noncomputable def zo(e:E)(ast:Expr):Prop:=∀C,bJ d nm sc C->∀x ρ pw,bF G x->ER G nm C.env x ρ pw->∀(k:V->H->Prop)(Q Er:Value->Shared->Prop),ev mp (mP d) e ρ x.h k->(∀v h,k v h->∃o,v=O.v o)->
 (∀o p y,Step G x y->Or G y o p->Hd y p->x.g p.1=none->x.g p.2=none->k o.v y.h->Q (.ref p.1) y.s)->WS G.m C.A (eval ast C.env) Q Er x.s
noncomputable def dG(e:E)(ast:Expr):Prop:=∀C,bJ d nm sc C->∀x ρ pw,bF G x->ER G nm C.env x ρ pw->∀(a b:H->Prop)(Q:Bool->Shared->Prop)(Er:Value->Shared->Prop),ev mp (mP d) e ρ x.h (fun v h=>gk False v (a h) (b h))->
 (∀y,Step G x y->a y.h->Q true y.s)->(∀y,Step G x y->b y.h->Q false y.s)->WS G.m C.A (isTrue ast C.env (eval ast C.env)) Q Er x.s
structure iJ(e:E)(asts:List Expr):Prop where
 st:∀(pos:Pos) env,(backTo pos (starEach asts env)).any (·.1)=false
 ev:∀C,bJ d nm sc C->∀x ρ pw,bF G x->ER G nm C.env x ρ pw->∀(k:V->H->Prop)(Q:List Value->Shared->Prop)(Er:Value->Shared->Prop)(pos:Pos),Mine.ev mp (mP d) e ρ x.h k->
  (∀vs Xs y,Step G x y->Vl G y vs Xs->vs.length=asts.length->k (.tup vs) y.h->Q Xs y.s)->WS G.m C.A (spliced (backTo pos (starEach asts C.env))) Q Er x.s
end
section
variable{G:Gl}{x y z:Sx}{s:Shared}{v r:V}{X Z:Value}{vs:List V}{o:O}{p:BA}{Q:Value->Shared->Prop}{n:Nat}{k:V->H->Prop}{a b e:E}
theorem cB{r:Option V}{k:V->Prop}(h:fJ False r k):∃v,r=some v/\k v:=by
 cases r with
 |none=>exact h.elim
 |some v=>exact⟨v,rfl,h⟩
theorem sN{a b:Prop}(h:gk False v a b):(truth v=some true/\a)\/(truth v=some false/\b):=by
 unfold gk at h
 cases e:truth v with
 |none=>rw[e]at h;exact h.elim
 |some c=>
  rw[e]at h
  cases c with
  |true=>exact .inl ⟨rfl,h⟩
  |false=>exact .inr ⟨rfl,h⟩
@[elab_as_elim] theorem Qg{k:List V->Prop}{P:V->Prop}(h:iO False v k)(K:∀vs,k vs->P (.tup vs)):P v:=by
 cases v with
 |tup vs=>exact K vs h
 |_=>exact h.elim
theorem dZ{s:Sl}{k:O->Prop}(h:dy False s k):∃o,s=.o o/\k o:=by
 cases s with
 |o o=>exact⟨o,rfl,h⟩
 |_=>exact h.elim
theorem Step.none{b:Addr}(S:Step G x z)(n:z.g b=none):x.g b=none:=by
 cases q:x.g b with
 |none=>rfl
 |some o=>exact(S.al b o q).elim fun _ e=>sn e n
theorem PQ{b:Addr}(W:Wd G)(M:bF G x)(n:x.g b=none):(b==sysModules)=false:=
 beq_eq_false_iff_ne.mpr fun e=>W.sm.elim fun o h=>sn (e▸(M.base _ o h).1) n
theorem Gv.fin(S:Step G x z)(h:k r z.h)(q:∀v X y,Step G x y->Vr G y v X->k v y.h->Q X y.s):Gv G z r Q:=fun Z s' K hZ=>q _ _ { z with s:=s'} (S.trans (Step.kp S.M K)) hZ h
theorem Gf.fin(S:Step G x z)(h:k o.v z.h)(q:∀o p y,Step G x y->Or G y o p->Hd y p->x.g p.1=none->x.g p.2=none->k o.v y.h->Q (.ref p.1) y.s):Gf G z o Q:=fun p s' K n1 n2 O=>
 have O':=O z.β (z.ad p).F (fun _ _ e=>e) (Jq n1 n2 K)
 have T:=Step.ad S.M K n1 n2 O'.al.1 O'.al.2
 have w1:¬ Own z p.1:=fK S.M n1
 have w2:¬ Own z p.2:=fK S.M n2
 q o p { z.ad p with s:=s'} (S.trans T) O' ⟨.inr (.inl rfl),.inr (.inr rfl),w1,w2⟩ (S.none n1) (S.none n2) h
end
end
section
variable{G:Gl}{d:Nat}{nm:eD}{sc:gm}{x y z:Sx}{s:Shared}{v w r:V}{X Y:Value}{vs:List V}{Xs:List Value}{o:O}{p:BA}{A:Around}{Er:Value->Shared->Prop}{Q:Value->Shared->Prop}{i n f:Nat}{C:Fm}{env:PySem.Env}{ρ:Env}{pw:Nat->BA}{k:V->H->Prop}{a b c e:E}{ea eb ast:Expr}{asts:List Expr}{pos:Pos}{nx:Str}
theorem zu{M:Model}{f:Value}{Q:Args->Shared->Prop}(h:WS M A (spliced []) (fun vs s'=>Q ⟨vs,[]⟩ s') Er s):WS M A (evalArgs f true [] []) Q Er s:=by
 unfold evalArgs
 show WS M A (spliced []>>=_) Q Er s
 refine WJ (wpAny_mono h (fun vs s' h'=>?_) fun _ _ x=>x)
 refine Xg ?_
 exact WJ (WN (WJ (WN (WN h'))))
theorem aZ{f:Value}{first:List Value}{asts:List Expr}{pos:Pos}{Q:Value->Shared->Prop}(P:Heap->Prop)(hpl:(backTo pos (starEach asts env)).any (·.1)=false)
  (hk:∀h:Heap,P h->∃k,(k=Keeper.frame\/k=Keeper.machine\/k=Keeper.boundFrame)/\Looks G.m h (keeperOf f) k)
  (h:WS G.m A (spliced (backTo pos (starEach asts env))) (fun xs s'=>P s'.heap/\WS G.m A (call f (first++xs)) Q Er s') Er s):
  WS G.m A (callWith pos f first (backTo pos (starEach asts env)) []) Q Er s:=by
 refine callWith_of (P:=P) (by rw[hpl];rfl) hk ?_
 cases hb:backTo pos (starEach asts env) with
 |nil=>rw[hb]at h;exact zu h
 |cons p r=>
  obtain⟨b,x⟩:=p
  rw[hb]at h hpl
  have:b=false:=by
   simp only[ZM,Bool.or_eq_false_iff]at hpl;exact hpl.1
  subst this
  exact Calls.evalArgs_plain h
theorem iR{id:String}(h:Heap)(_:True):∃k,(k=Keeper.frame\/k=Keeper.machine\/k=Keeper.boundFrame)/\Looks G.m h (keeperOf (.builtin id)) k:=⟨.machine,.inr (.inl rfl),.now⟩
theorem pD{T:String}(h:Heap)(_:True):∃k,(k=Keeper.frame\/k=Keeper.machine\/k=Keeper.boundFrame)/\Looks G.m h (keeperOf (.type T)) k:=⟨.machine,.inr (.inl rfl),.now⟩
theorem ye(b:B)(h:Heap)(_:True):∃k,(k=Keeper.frame\/k=Keeper.machine\/k=Keeper.boundFrame)/\Looks G.m h (keeperOf (MX b)) k:=by
 cases b<;>first|exact iR h trivial|exact pD h trivial
theorem Gv.kp{s':Shared}(q:Gv G x r Q)(K:Kp x.s s')(h:VR G x.β x.F s'.heap r X):Q X s':=q X s' K h
theorem aI{x:Str}(e:bh x=true):(x==("__debug__":Str))=false:=Bool.eq_false_iff.mpr fun q=>bne_iff_ne.mp (br (br e).1).1 (beq_iff_eq.mp q)
theorem lg{cst:Const}{kd:Nat}(go:∀env A (Q:Value->Shared->Prop) (Er:Value->Shared->Prop) (x:Sx),(∀s' X,Kp x.s s'->VR G x.β x.F s'.heap v X->Q X s')->WS G.m A (constValue env cst) Q Er x.s):av G d nm sc (.lit v) (.Constant cst kd pos):=
 fun C O x ρ pw M R k Q Er ev q=>go C.env C.A Q Er x fun s' X K h=>(Gv.fin (Step.refl M) ev q).kp K h
theorem FP{kd:Nat}:av G d nm sc (.lit .none) (.Constant .none kd pos):=lg fun _ _ _ _ _ q=>WN (q _ _ (.refl _) .none)
theorem Fu{kd:Nat}{b:Bool}:av G d nm sc (.lit (.bool b)) (.Constant (.bool b) kd pos):=lg fun _ _ _ _ _ q=>WN (q _ _ (.refl _) (.bool _))
theorem Kc{kd:Nat}{b:Int}:av G d nm sc (.lit (.int b)) (.Constant (.int b) kd pos):=lg fun _ _ _ _ _ q=>wpAny_mkInt (q _ _ (.tk _ _) (.int _ _))
theorem KV{kd:Nat}{S:Str}{l:List Nat}(h:S.cps.toList=l):av G d nm sc (.lit (.str l)) (.Constant (.str S) kd pos):=lg fun _ _ _ _ _ q=>wpAny_mkText (q _ _ (.tk _ _) (.str h))
theorem xi{s:Sl}{k:V->Prop}(h:(match s with|.v v=>k v|_=>False)):∃v,s=.v v/\k v:=by
 cases s with
 |v v=>exact⟨v,rfl,h⟩
 |_=>exact h.elim
theorem LN(hn:nm.lookup nx=some i)(ho:bh nx=true):av G d nm sc (.loc i) (.Name nx pos):=fun C O x ρ pw M R k Q Er ev q=>
 (xi (k:=fun v=>k v x.h) ev).elim fun v h=>wpAny_Name (Jr O R hn h.1 fun V hV=>q _ _ _ (Step.refl M) hV h.2) (aI ho)
theorem oa(W:Wd G)(O:bJ d nm sc C)(M:bF G x)(hx:tj sc nx=true)(hv:G.mg nx=some X)(hq:Q X x.s):WS G.m C.A (eval (.Name nx pos) C.env) Q Er x.s:=by
 obtain⟨h1,h2⟩:=br hx
 exact Calls.Name_function_global O.kind (O.gl nx (beq_iff_eq.mp h1)) (Calls.loadGlobal_global (by rw[O.glob];exact W.g.keeps fun b o e=>(M.base b o e).1) hv hq) (aI h2)
theorem iv(W:Wd G)(O:bJ d nm sc C)(M:bF G x)(hx:tj sc nx=true)(hn:G.mg nx=none)(hb:bootBuiltins nx=some X)(hne:nx≠"__name__")(hq:Q X x.s):WS G.m C.A (eval (.Name nx pos) C.env) Q Er x.s:=by
 obtain⟨h1,h2⟩:=br hx
 exact Calls.Name_function_global O.kind (O.gl nx (beq_iff_eq.mp h1)) (Calls.loadGlobal_builtin (by rw[O.glob];exact W.g.keeps fun b o e=>(M.base b o e).1) hn (by rw[O.bi];exact W.b.keeps fun b o e=>(M.base b o e).1) ((W.bi nx hne).trans hb) hq) (aI h2)
theorem Hk(W:Wd G)(hx:tj sc nx=true)(hv:G.mg nx=some X)(h:VR G [] (fun _=>False) G.h0 v X):av G d nm sc (.glob n v) (.Name nx pos):=fun C O x ρ pw M R k Q Er ev q=>
 oa W O M hx hv (q _ _ _ (Step.refl M) (VR.mono (fun b o e _=>M.base b o e) (fun _ _ e=>sn e rfl) h) ev)
theorem rL:iJ G d nm sc .af []:=⟨fun _ _=>rfl,fun C O x ρ pw M R k Q Er pos ev q=>WN (q [] [] x (Step.refl M) .nil rfl ev)⟩
theorem Gi(ha:av G d nm sc a ea)(hb:iJ G d nm sc b asts)(hn:Pl ea):iJ G d nm sc (.aa a b) (ea::asts):=⟨fun pos env=>by
 rw[hn.st];exact hb.st pos env,fun C O x ρ pw M R k Q Er pos ev q=>by
 rw[hn.st]
 refine Calls.spliced_cons (ha C O x ρ pw M R _ _ _ ev fun v X y S hX ev=>hb.ev C O y ρ pw S.M (R.de M S) _ _ _ pos ev fun vs Xs z T hXs hl ev=>?_)
 exact q _ _ z (S.trans T) (.cons (T.vr hX) hXs) (congrArg Nat.succ hl) ev⟩
theorem DW(ha:iJ G d nm sc a asts)(h:asts.length<=1000){ctx:Nat}:av G d nm sc a (.Tuple asts ctx pos):=fun C O x ρ pw M R k Q Er ev q=>
 wpAny_Tuple (ha.ev C O x ρ pw M R _ _ _ _ ev fun vs Xs y S hXs hl ev=>by
  have z:vs.length<=SZ:=hl▸WH h (by decide)
  exact⟨hXs.len▸qg z,(Gv.fin S ev q).tup (items:=Xs.toArray) S.M (.push _ _ y.s.toks) (ax _) (Heap.get?_push_size _ rfl) z hXs⟩)
theorem sX(ha:iJ G d nm sc a asts):jd G d nm sc (.list a) (.List asts pos):=fun C O x ρ pw M R k Q Er ev q=>
 wpAny_List (ha.ev C O x ρ pw M R _ _ _ _ ev fun vs Xs y S hXs hl ev=>by
  obtain⟨v,e,ev⟩:=cB ev
  have z:vs.length<=SZ:=dt (fG e)
  cases da e
  exact⟨hXs.len▸qg z,(Gf.fin S (o:=.list vs) ev q).lst (items:=Xs.toArray) (.push _ _ y.s.toks) (ax _) (Heap.get?_push_size _ rfl) z hXs⟩)
theorem xb(h:Or G x o p):Or G (x.rl p) o p:=OR.mono kh (fun _ _ e=>e) (fun _ e=>e) (fun _ e=>e) h
theorem Fr.ev(h:jd G d nm sc e ast):av G d nm sc e ast:=fun C O x ρ pw M R k Q Er ev q=>h C O x ρ pw M R k Q Er ev fun o p y S Op H n1 n2 ev=>
 q _ _ (y.rl p) (S.rl n1 n2 H.n1 H.n2) (OR.vr (xb Op) (fun z=>z.2.1 rfl) fun z=>z.2.2 rfl) ev
theorem Qe{b:Bool}(W:Wd G)(M:bF G x)(hf:f<cG)(e:∃c fs vs,o=.inst c fs vs/\∃v,ae f fs vs=some v/\k v x.h)(Op:Or G x o p)(q:∀v X y,Step G x y->Vr G y v X->k v y.h->Q X y.s):WS G.m A (getAttr (.ref p.1) (aw f) b) Q Er x.s:=by
 obtain⟨c,fs,vs,rfl,v,e,hk⟩:=e
 exact km (W.X.keeps fun b o e=>(M.base b o e).1) W.cls hf Op e fun V tk hV=>q _ _ { x with s:={ x.s with toks:=tk}} (Step.kp M (.tk _ tk)) hV hk
theorem Bt{o:Option O}{P:Nat->List Nat->List V->Prop}(h:(match o with|some (.inst c fs vs)=>P c fs vs|_=>False)):∃c fs vs,o=some (.inst c fs vs)/\P c fs vs:=by
 cases o with
 |none=>exact h.elim
 |some o=>cases o with
  |inst c fs vs=>exact⟨c,fs,vs,rfl,h⟩
  |_=>exact h.elim
theorem KN{op:vo}(ha:av G d nm sc a ea)(hb:av G d nm sc b eb):av G d nm sc (.bin op a b) (.BinOp ea (jU op) eb pos):=by
 intro C O x ρ pw M R k Q Er ev q
 rw[arm_eval_BinOp]
 refine WJ (ha C O x ρ pw M R _ _ _ ev fun v X y S hX ev=>WJ (Xg (hb C O y ρ pw S.M (R.de M S) _ _ _ ev fun w Y z T hY ev=>WJ (Xu (wpAny_operating ?_)))))
 obtain⟨r,e,ev⟩:=cB ev
 exact Mw op T.M (T.vr hX) hY e (Gv.fin (S.trans T) ev q)
theorem LI(ha:av G d nm sc a ea):av G d nm sc (.neg a) (.UnaryOp .USub ea pos):=by
 intro C O x ρ pw M R k Q Er ev q
 refine wpAny_UnaryOp (ha C O x ρ pw M R _ _ _ ev fun v X y S hX ev=>?_)
 cases v with
 |int i=>exact hX.cT fun t=>PySem.P.neg_int (Gv.fin (r:=.int (-i)) S ev q).int
 |_=>exact ev.elim
theorem oR{P:Bool->Prop}{t:Option Bool}(h:(match t with|some b=>P b|none=>False)):∃b,t=some b/\P b:=by
 cases t with
 |none=>exact h.elim
 |some b=>exact⟨b,rfl,h⟩
theorem JX(ha:av G d nm sc a ea):av G d nm sc (.not a) (.UnaryOp .Not ea pos):=by
 intro C O x ρ pw M R k Q Er ev q
 refine wpAny_UnaryOp (ha C O x ρ pw M R _ _ _ ev fun v X y S hX ev=>?_)
 obtain⟨c,e,ev⟩:=oR (P:=fun b=>k (.bool (!b)) y.h) ev
 exact not_of (fW e hX fun tk=>(Gv.fin (r:=.bool (!c)) S ev q).kp (.tk _ tk) (.bool _))
end
section
variable{G:Gl}{d:Nat}{nm:eD}{sc:gm}{x y z:Sx}{s:Shared}{v w:V}{X Y:Value}{Er:Value->Shared->Prop}{Q:Value->Shared->Prop}{C:Fm}{env:PySem.Env}{ρ:Env}{pw:Nat->BA}{k:V->H->Prop}{a b c e:E}{ea eb ec ast:Expr}{pos:Pos}
theorem Step.tk(M:bF G x)(tk:Nat):Step G x { x with s:={ x.s with toks:=tk}}:=Step.kp M (.tk _ tk)
theorem Mv(ha:av G d nm sc a ea)(hb:av G d nm sc b eb):av G d nm sc (.and a b) (.BoolOp .And [ea,eb] pos):=by
 intro C O x ρ pw M R k Q Er ev q
 rw[arm_eval_BoolOp]
 show WS _ _ (eval ea C.env>>=_) _ _ _
 refine WJ (ha C O x ρ pw M R _ _ _ ev fun v X y S hX ev=>?_)
 rcases sN ev with ⟨t,ev⟩|⟨t,ev⟩
 ·exact WJ (Xu (WJ (Xg (fW t hX fun tk=>have T:=Step.tk S.M tk;hb C O { y with s:={ y.s with toks:=tk}} ρ pw T.M ((R.de M S).de S.M T) k Q Er ev fun v X z U=>q v X z ((S.trans T).trans U)))))
 ·exact WJ (Xu (WJ (Xg (fW t hX fun tk=>have T:=Step.tk S.M tk;WN (q _ _ { y with s:={ y.s with toks:=tk}} (S.trans T) (T.vr hX) ev)))))
theorem NR(ha:av G d nm sc a ea)(hb:av G d nm sc b eb):av G d nm sc (.or a b) (.BoolOp .Or [ea,eb] pos):=by
 intro C O x ρ pw M R k Q Er ev q
 rw[arm_eval_BoolOp]
 show WS _ _ (eval ea C.env>>=_) _ _ _
 refine WJ (ha C O x ρ pw M R _ _ _ ev fun v X y S hX ev=>?_)
 rcases sN ev with ⟨t,ev⟩|⟨t,ev⟩
 ·exact WJ (Xu (WJ (Xg (fW t hX fun tk=>have T:=Step.tk S.M tk;WN (q _ _ { y with s:={ y.s with toks:=tk}} (S.trans T) (T.vr hX) ev)))))
 ·exact WJ (Xu (WJ (Xg (fW t hX fun tk=>have T:=Step.tk S.M tk;hb C O { y with s:={ y.s with toks:=tk}} ρ pw T.M ((R.de M S).de S.M T) k Q Er ev fun v X z U=>q v X z ((S.trans T).trans U)))))
theorem dU{op:CmpOp}{t:Sem Value}(h:Pl ea):markedEach [op] [ea] [t]=[t]:=by
 show[markedBehindIn op ea t]=[t]
 unfold markedBehindIn;rw[h.bm]
theorem KR{op:BF}(ha:av G d nm sc a ea)(hb:av G d nm sc b eb)(hn:Pl eb):av G d nm sc (.cmp op a b) (.Compare ea [fx op] [eb] pos):=by
 intro C O x ρ pw M R k Q Er ev q
 rw[arm_eval_Compare]
 refine WJ (ha C O x ρ pw M R _ _ _ ev fun v X y S hX ev=>?_)
 show WS _ _ (compareChain _ X [fx op] (markedEach [fx op] [eb] [eval eb C.env])) _ _ _
 rw[dU hn]
 refine WJ (Xg (hb C O y ρ pw S.M (R.de M S) _ _ _ ev fun w Y z T hY ev=>WJ (Xu (wpAny_operating ?_))))
 obtain⟨c,e,ev⟩:=oR (P:=fun b=>k (.bool b) z.h) ev
 exact BB op O.rm T.M e (T.vr hX) hY fun tk=>have U:=Step.tk T.M tk;q _ _ { z with s:={ z.s with toks:=tk}} ((S.trans T).trans U) (.bool c) ev
theorem JZ{op:BF}(ha:av G d nm sc a ea)(hb:av G d nm sc b eb)(hn:Pl eb):dG G d nm sc (.cmp op a b) (.Compare ea [fx op] [eb] pos):=by
 intro C O x ρ pw M R k1 k2 Q Er ev q1 q2
 rw[arm_isTrue_Compare]
 refine WJ (ha C O x ρ pw M R _ _ _ ev fun v X y S hX ev=>?_)
 show WS _ _ (testChain _ X [fx op] (markedEach [fx op] [eb] [eval eb C.env])) _ _ _
 rw[dU hn]
 refine WJ (Xg (hb C O y ρ pw S.M (R.de M S) _ _ _ ev fun w Y z T hY ev=>WJ (Xu (WJ (wpAny_operating ?_)))))
 obtain⟨c,e,ev⟩:=oR (P:=fun b=>gk False (.bool b) (k1 z.h) (k2 z.h)) ev
 refine BB op O.rm T.M e (T.vr hX) hY fun tk=>Xg (wpAny_truthy_bool ?_)
 have U:=(S.trans T).trans (Step.tk T.M tk)
 cases c with
 |true=>exact q1 _ U ev
 |false=>exact q2 _ U ev
theorem Lv(hc:dG G d nm sc c ec)(ha:av G d nm sc a ea)(hb:av G d nm sc b eb):av G d nm sc (.ite c a b) (.IfExp ec ea eb pos):=by
 intro C O x ρ pw M R k Q Er ev q
 exact wpAny_IfExp (hc C O x ρ pw M R _ _ _ _ ev (fun y S ev=>ha C O y ρ pw S.M (R.de M S) k Q Er ev fun v X z U=>q v X z (S.trans U)) fun y S ev=>hb C O y ρ pw S.M (R.de M S) k Q Er ev fun v X z U=>q v X z (S.trans U))
theorem Lk(hc:dG G d nm sc c ec)(ha:dG G d nm sc a ea)(hb:dG G d nm sc b eb):dG G d nm sc (.ite c a b) (.IfExp ec ea eb pos):=by
 intro C O x ρ pw M R k1 k2 Q Er ev q1 q2
 exact isTrue_IfExp (hc C O x ρ pw M R _ _ _ _ ev (fun y S ev=>ha C O y ρ pw S.M (R.de M S) k1 k2 Q Er ev (fun z U=>q1 z (S.trans U)) fun z U=>q2 z (S.trans U)) fun y S ev=>hb C O y ρ pw S.M (R.de M S) k1 k2 Q Er ev (fun z U=>q1 z (S.trans U)) fun z U=>q2 z (S.trans U))
theorem AQ(he:av G d nm sc e ast)(hn:∀env whole,isTrue ast env whole=(do let v<-whole;standAt ast.pos;holding [v] (truthy v))):dG G d nm sc e ast:=by
 intro C O x ρ pw M R k1 k2 Q Er ev q1 q2
 refine isTrue_plain (he C O x ρ pw M R _ _ _ ev fun v X y S hX ev=>?_) (hn _ _)
 rcases sN ev with ⟨t,ev⟩|⟨t,ev⟩
 ·exact fW t hX fun tk=>q1 { y with s:={ y.s with toks:=tk}} (S.trans (Step.tk S.M tk)) ev
 ·exact fW t hX fun tk=>q2 { y with s:={ y.s with toks:=tk}} (S.trans (Step.tk S.M tk)) ev
theorem DJ{k':V->H->Prop}{h:H}(e:∀v h,k v h=k' v h)(ev:Mine.ev mp (mP d) a ρ h k):Mine.ev mp (mP d) a ρ h k':=(funext fun v=>funext fun h=>e v h:k=k')▸ev
theorem Mf(he:dG G d nm sc e ea):dG G d nm sc (.not e) (.UnaryOp .Not ea pos):=by
 intro C O x ρ pw M R k1 k2 Q Er ev q1 q2
 rw[arm_isTrue_UnaryOp]
 refine WJ (he C O x ρ pw M R k2 k1 _ _ (DJ (fun v h=>?_) ev) (fun y S h=>WN (q2 y S h)) fun y S h=>WN (q1 y S h))
 show(match truth v with|some b=>gk False (.bool (!b)) (k1 h) (k2 h)|none=>False)=gk False v (k2 h) (k1 h)
 unfold gk
 cases truth v with
 |none=>rfl
 |some b=>cases b<;>rfl
theorem Kd(ha:dG G d nm sc a ea)(hb:dG G d nm sc b eb):dG G d nm sc (.and a b) (.BoolOp .And [ea,eb] pos):=by
 intro C O x ρ pw M R k1 k2 Q Er ev q1 q2
 rw[arm_isTrue_BoolOp,arm_allTrue_cons]
 refine WJ (ha C O x ρ pw M R (fun h=>Mine.ev mp (mP d) b ρ h fun v h=>gk False v (k1 h) (k2 h)) k2 _ _ (DJ (fun v h=>?_) ev) (fun y S ev=>?_) fun y S ev=>WN (q2 y S ev))
 ·unfold gk
  dsimp only
  cases truth v with
  |none=>rfl
  |some b=>cases b<;>rfl
 ·show WS _ _ (allTrue .And [eb] C.env) _ _ _
  rw[arm_allTrue_cons]
  exact WJ (hb C O y ρ pw S.M (R.de M S) k1 k2 _ _ ev (fun z U h=>WN (q1 z (S.trans U) h)) fun z U h=>WN (q2 z (S.trans U) h))
theorem MY(ha:dG G d nm sc a ea)(hb:dG G d nm sc b eb):dG G d nm sc (.or a b) (.BoolOp .Or [ea,eb] pos):=by
 intro C O x ρ pw M R k1 k2 Q Er ev q1 q2
 rw[arm_isTrue_BoolOp,arm_allTrue_cons]
 refine WJ (ha C O x ρ pw M R k1 (fun h=>Mine.ev mp (mP d) b ρ h fun v h=>gk False v (k1 h) (k2 h)) _ _ (DJ (fun v h=>?_) ev) (fun y S ev=>WN (q1 y S ev)) fun y S ev=>?_)
 ·unfold gk
  dsimp only
  cases truth v with
  |none=>rfl
  |some b=>cases b<;>rfl
 ·show WS _ _ (allTrue .Or [eb] C.env) _ _ _
  rw[arm_allTrue_cons]
  exact WJ (hb C O y ρ pw S.M (R.de M S) k1 k2 _ _ ev (fun z U h=>WN (q1 z (S.trans U) h)) fun z U h=>WN (q2 z (S.trans U) h))
end
section
variable{G:Gl}{d:Nat}{nm:eD}{sc:gm}{x y z:Sx}{s:Shared}{u v w r:V}{X Y Z:Value}{vs us:List V}{Xs:List Value}{o:O}{p:BA}{A:Around}{Er:Value->Shared->Prop}{Q:Value->Shared->Prop}{i j n f:Nat}{C:Fm}{env:PySem.Env}{ρ:Env}{pw:Nat->BA}{k:V->H->Prop}{a b c e es:E}{ea eb ast:Expr}{asts:List Expr}{pos pos':Pos}{nx:Str}
theorem Gv.val{V:Value}{tk:Nat}(q:Gv G x v Q)(h:Vr G x v V):Q V { x.s with toks:=tk}:=q.kp (.tk _ tk) h
theorem Kj(ha:av G d nm sc a ea)(hb:av G d nm sc b eb)(hn:Pl eb):av G d nm sc (.sub a b) (.Subscript ea eb pos):=fun C O x ρ pw M R k Q Er ev q=>
 AU hn.sb (ha C O x ρ pw M R _ _ _ ev fun v X y S hX ev=>hb C O y ρ pw S.M (R.de M S) _ _ _ ev fun w Y z T hY ev=>
  (cB ev).elim fun r h=>GP O.rm T.M h.1 (T.vr hX) hY fun Z tk hZ=>(Gv.fin (S.trans T) h.2 q).val hZ)
theorem Hn.de(H:Hn G env x o p)(S:Step G x y):Hn G env y o p:=⟨S.or H.o H.h,S.hd H.o H.h,H.e1,H.e2⟩
theorem HP(hn:nm.lookup nx=some i)(ho:bh nx=true)(hb:av G d nm sc b eb)(hp:Pl eb):av G d nm sc (.aH i b) (.Subscript (.Name nx pos) eb pos'):=fun C O x ρ pw M R k Q Er ev q=>
 (dZ ev).elim fun o h=>AU hp.sb (wpAny_Name (fu O R hn h.1 (hb C O x ρ pw M R _ _ _ h.2 fun w Y z T hY ev=>by
  rw[h.1]at ev
  obtain⟨r,e,ev⟩:=cB ev
  exact xZ O.rm e ((R.ow i o h.1).de T).o hY fun Z tk hZ=>(Gv.fin T ev q).val hZ)) (aI ho))
theorem HF(ha:av G d nm sc a ea)(hb:av G d nm sc b eb):av G d nm sc (.dY a b) (.Subscript ea (.Slice none (some eb) none pos) pos'):=fun C O x ρ pw M R k Q Er ev q=>
 AU (fun o i=>⟨_,rfl⟩) (ha C O x ρ pw M R _ _ _ ev fun v X y S hX ev=>wpAny_Slice (WN (hb C O y ρ pw S.M (R.de M S) _ _ _ ev fun w Y z T hY ev=>WN (by
  cases w with
  |int n=>
   obtain⟨h0,ev⟩:0<=n/\fJ False (dY v n.toNat) (k · z.h):=by
    revert ev
    show(match decide (0<=n)&&decide (n.toNat<=SZ) with|true=>fJ False (dY v n.toNat) (k · z.h)|false=>False)->_
    cases h:decide (0<=n)&&decide (n.toNat<=SZ) with
    |true=>exact fun ev=>⟨dt (br h).1,ev⟩
    |false=>exact fun ev=>ev.elim
   obtain⟨m,rfl⟩:=Yn h0
   obtain⟨r,e,ev⟩:=cB ev
   exact hY.cT (P:=fun Y=>∃T id,gz G C.A X (.ref z.s.heap.objs.size) Q Er { z.s with heap:=z.s.heap.push (jA .none Y .none)} T id) fun t=>GQ T.M e (T.vr hX) (Gv.fin (S.trans T) ev q)
  |_=>exact ev.elim))))
theorem za(ha:av G d nm sc a ea)(hb:av G d nm sc b eb):av G d nm sc (.aW a b) (.Subscript ea (.Slice (some eb) none none pos) pos'):=fun C O x ρ pw M R k Q Er ev q=>
 AU (fun o i=>⟨_,rfl⟩) (ha C O x ρ pw M R _ _ _ ev fun v X y S hX ev=>wpAny_Slice (hb C O y ρ pw S.M (R.de M S) _ _ _ ev fun w Y z T hY ev=>WN (WN (by
  cases w with
  |int n=>
   obtain⟨h0,ev⟩:0<=n/\fJ False (aW v n.toNat) (k · z.h):=by
    revert ev
    show(match decide (0<=n)&&decide (n.toNat<=SZ) with|true=>fJ False (aW v n.toNat) (k · z.h)|false=>False)->_
    cases h:decide (0<=n)&&decide (n.toNat<=SZ) with
    |true=>exact fun ev=>⟨dt (br h).1,ev⟩
    |false=>exact fun ev=>ev.elim
   obtain⟨m,rfl⟩:=Yn h0
   obtain⟨r,e,ev⟩:=cB ev
   exact hY.cT (P:=fun Y=>∃T id,gz G C.A X (.ref z.s.heap.objs.size) Q Er { z.s with heap:=z.s.heap.push (jA Y .none .none)} T id) fun t=>zc T.M e (T.vr hX) (Gv.fin (S.trans T) ev q)
  |_=>exact ev.elim))))
theorem CD{k1:Nat}{p1 p2:Pos}(ha:av G d nm sc a ea):av G d nm sc (.fR a) (.Subscript ea (.Slice none none (some (.UnaryOp .USub (.Constant (.int 1) k1 p1) p2)) pos) pos'):=fun C O x ρ pw M R k Q Er ev q=>
 AU (fun o i=>⟨_,rfl⟩) (ha C O x ρ pw M R _ _ _ ev fun v X y S hX ev=>wpAny_Slice (WN (WN (by
  cases v with
  |lst vs=>
   obtain⟨r,e,ev⟩:=cB ev
   show WS _ _ (eval (.UnaryOp .USub (.Constant (.int 1) k1 p1) p2) C.env) _ _ _
   refine wpAny_UnaryOp ?_
   show WS _ _ (mkInt 1) _ _ _
   refine wpAny_mkInt (PySem.P.neg_int ?_)
   have T:=Step.tk S.M (y.s.toks+1+1)
   exact Cw (x:={ y with s:={ y.s with toks:=y.s.toks+1+1}}) T.M (T.vr hX) (Gv.of (Gv.fin (z:={ y with s:={ y.s with toks:=y.s.toks+1+1}}) (S.trans T) ev q) (da e))
  |_=>exact ev.elim))))
theorem Fw(W:Wd G)(ha:av G d nm sc a ea)(hb:∀env nx whole,attributeBase ea nx env whole=whole)(hf:f<cG):av G d nm sc (.attr a f) (.Attribute ea (aw f) pos):=by
 intro C O x ρ pw M R k Q Er ev q
 rw[arm_eval_Attribute,hb]
 refine WJ (ha C O x ρ pw M R _ _ _ ev fun v X y S hX ev=>WJ (Xu (WJ (Xg ?_))))
 obtain⟨c,fs,vs,e,ev⟩:=Bt (P:=fun _ fs vs=>fJ False (ae f fs vs) (k · y.h)) ev
 obtain⟨r,e',ev⟩:=cB ev
 obtain⟨p,rfl,Op⟩:=read S.M hX e
 exact km (W.X.keeps fun b o e=>(S.M.base b o e).1) W.cls hf Op e' fun V tk hV=>WJ (wpAny_letTemporaryGo (WN ((Gv.fin S ev q).val hV)))
theorem CL(W:Wd G)(hn:nm.lookup nx=some 0)(ho:bh nx=true)(hf:f<cG):av G d nm sc (.gH f) (.Attribute (.Name nx pos) (aw f) pos'):=by
 intro C O x ρ pw M R k Q Er ev q
 rw[arm_eval_Attribute]
 obtain⟨o,h,ev⟩:=dZ ev
 refine WJ (wpAny_Name (fu O R hn h (WJ (Xu (WJ (Xg ?_))))) (aI ho))
 have Op:=(R.ow 0 o h).o
 cases o with
 |inst c fs vs=>
  obtain⟨r,e',ev⟩:=cB ev
  exact km (W.X.keeps fun b o e=>(M.base b o e).1) W.cls hf Op e' fun V tk hV=>WJ (wpAny_letTemporaryGo (WN ((Gv.fin (Step.refl M) ev q).val hV)))
 |_=>exact ev.elim
theorem Fr.ow(h:jd G d nm sc e ast):zo G d nm sc e ast:=fun C O x ρ pw M R k Q Er ev _ q=>h C O x ρ pw M R k Q Er ev q
theorem vL{P:Prop}(h:∃o,v=O.v o)(n:own v=none)(m:∀c fs vs,v≠.obj c fs vs):P:=by
 obtain⟨o,rfl⟩:=h
 cases o with
 |inst c fs vs=>exact absurd rfl (m c fs vs)
 |_=>cases n
theorem xt{P:Prop}{i:Int}(h:∃o,V.int i=O.v o):P:=vL h rfl fun _ _ _ e=>V.noConfusion e
theorem Hm{op:vo}(hop:op=.add\/op=.mul)(e:pU op u v=some r)(M:bF G x)(hx:Vr G x u X)(hy:Vr G x v Y)(hr:∃o,r=O.v o)(q:∀vs,r=.lst vs->Gf G x (.list vs) Q):WS G.m A (binaryOp (jU op) X Y) Q Er x.s:=by
 rcases hop with rfl|rfl
 ·have e':Hc u v=some r:=e
  revert hx hy e'
  exact Iw e (fun i j hx hy e=>xt (Option.some.inj e▸hr)) (fun i j hx hy e=>vL hr (da e▸rfl) (da e▸fun _ _ _ e=>V.noConfusion e)) (fun i j hx hy e=>vL hr (da e▸rfl) (da e▸fun _ _ _ e=>V.noConfusion e)) fun i j hx hy e=>xX hx hy (dt (fG e)) (q _ (da e))
 ·have e':Hx u v=some r:=e
  revert hx hy e'
  exact IJ e (fun i j hx hy e=>xt (da e▸hr)) fun w n hx hy e=>AW hx hy (dt (br (fG e)).1) (dt (br (fG e)).2) (q _ (da e))
theorem CE{op:vo}(hop:op=.add\/op=.mul)(ha:av G d nm sc a ea)(hb:av G d nm sc b eb):zo G d nm sc (.bin op a b) (.BinOp ea (jU op) eb pos):=by
 intro C O x ρ pw M R k Q Er ev hk q
 rw[arm_eval_BinOp]
 refine WJ (ha C O x ρ pw M R _ _ _ ev fun v X y S hX ev=>WJ (Xg (hb C O y ρ pw S.M (R.de M S) _ _ _ ev fun w Y z T hY ev=>WJ (Xu (wpAny_operating ?_)))))
 obtain⟨r,e,ev⟩:=cB ev
 exact Hm hop e T.M (T.vr hX) hY (hk _ _ ev) fun vs e=>by subst e;exact Gf.fin (o:=.list vs) (S.trans T) ev q
theorem DU(W:Wd G):jd G d nm sc .bN (.Dict [] [] pos):=by
 intro C O x ρ pw M R k Q Er ev q
 rw[arm_eval_Dict]
 refine WJ (Xu ?_)
 show WS _ _ newDict _ _ _
 unfold newDict
 refine WJ (wpAny_alloc (WN ?_))
 exact Gf.fin (o:=.dict [] []) (Step.refl M) ev q (_,_) _ (.push _ _ x.s.toks) (ax _) (ax _) fun β F _ fr=>
  .dict (es:=[]) (Heap.get?_push_size _ rfl) (PQ W M (ax _)) ⟨rfl,aaa,fun _ h=>absurd h aan,XI _⟩ .nil .nil
theorem NA{bb:B}(W:Wd G)(ha:iJ G d nm sc a asts)(hx:tj sc nx=true)(hn:G.mg nx=none)(hb:bootBuiltins nx=some (MX bb))(hne:nx≠"__name__"):av G d nm sc (.bi bb a) (.Call (.Name nx pos) asts [] pos'):=by
 intro C O x ρ pw M R k Q Er ev q
 rw[arm_eval_Call_Name']
 refine WJ (iv W O M hx hn hb hne ?_)
 refine aZ (fun _=>True) (ha.st _ _) (ye bb) (ha.ev C O x ρ pw M R _ _ _ _ ev fun vs Xs y S hXs hl ev=>⟨trivial,?_⟩)
 obtain⟨r,e,ev⟩:=cB ev
 exact Ni bb O.rm S.M e hXs (Gv.fin S ev q)
theorem LM(W:Wd G)(ha:iJ G d nm sc a asts)(hx:tj sc nx=true)(hn:G.mg nx=none)(hb:bootBuiltins nx=some (.type "list"))(hne:nx≠"__name__"):jd G d nm sc (.bi .list a) (.Call (.Name nx pos) asts [] pos'):=by
 intro C O x ρ pw M R k Q Er ev q
 rw[arm_eval_Call_Name']
 refine WJ (iv W O M hx hn hb hne ?_)
 refine aZ (fun _=>True) (ha.st _ _) (ye .list) (ha.ev C O x ρ pw M R _ _ _ _ ev fun vs Xs y S hXs hl ev=>⟨trivial,?_⟩)
 obtain⟨r,e,ev⟩:=cB ev
 exact JT S.M e hXs fun us e=>by subst e;exact Gf.fin (o:=.list us) S ev q
end
section
variable{G:Gl}{d:Nat}{nm:eD}{sc:gm}{x y z:Sx}{s:Shared}{u v r:V}{X:Value}{vs:List V}{Xs:List Value}{o o':O}{p:BA}{A:Around}{Er:Value->Shared->Prop}{Q:Value->Shared->Prop}{i j n f:Nat}{C:Fm}{env:PySem.Env}{ρ:Env}{pw:Nat->BA}{k:V->H->Prop}{a b c e es:E}{ea:Expr}{pos:Pos}{nx:Str}
@[elab_as_elim] theorem VR.objE{P:Value->Prop}{c:Nat}{fs:List Nat}(h:Vr G x (.obj c fs vs) X)(k:∀A D,Or G x (.inst c fs vs) (A,D)->¬ x.F A->¬ x.F D->P (.ref A)):P X:=by
 cases h with|obj c d g g' n n' f z l=>exact k _ _ (.inst c d g g' f z l) n n'
theorem VR.fz(h:Vr G x o.v X):∃p,X=.ref p.1/\Or G x o p/\¬ x.F p.1/\¬ x.F p.2:=by
 cases o with
 |list vs=>exact VR.hH (P:=fun X=>∃p,X=.ref p.1/\Or G x (.list vs) p/\¬ x.F p.1/\¬ x.F p.2) h fun l items n g no _ z h=>⟨(l,l),rfl,.list g z h,no,no⟩
 |dict ks vs=>exact VR.Ff (P:=fun X=>∃p,X=.ref p.1/\Or G x (.dict ks vs) p/\¬ x.F p.1/\¬ x.F p.2) h fun l es D no=>⟨(l,l),rfl,.dict D.g D.m D.d D.k D.v,no,no⟩
 |inst c fs vs=>exact VR.objE (P:=fun X=>∃p,X=.ref p.1/\Or G x (.inst c fs vs) p/\¬ x.F p.1/\¬ x.F p.2) h fun A D Op n n'=>⟨(A,D),rfl,Op,n,n'⟩
structure Kl(G:Gl)(x y:Sx):Prop where
 S:Step G x y
 g:∀b o,y.h.get b=some o->x.h.get b=some o
noncomputable def Fz(G:Gl)(x:Sx)(h':H)(P:Sx->Prop):Prop:=∃y,y.h=h'/\y.s=x.s/\Kl G x y/\P y
theorem Kl.refl(M:bF G x):Kl G x x:=⟨.refl M,fun _ _ e=>e⟩
theorem Fz.go{x1:Sx}{h':H}{P:Sx->Prop}(S:Kl G x x1)(e:x1.s=x.s)(h:Fz G x1 h' P):Fz G x h' P:=h.imp fun y t=>⟨t.1,t.2.1.trans e,⟨S.S.trans t.2.2.1.S,fun b o e=>S.g b o (t.2.2.1.g b o e)⟩,t.2.2.2⟩
theorem rK{g:V->H->Option (V×H)}(hg:∀v x r X,bF G x->Vr G x v X->g v x.h=some r->Fz G x r.2 fun y=>Vr G y r.1 X):∀{vs:List V}{x:Sx}{Xs:List Value}{r:List V×H},bF G x->Vl G x vs Xs->jj g vs x.h=some r->Fz G x r.2 fun y=>Vl G y r.1 Xs:=by
 intro vs
 induction vs with
 |nil=>intro x Xs r M h e;cases h;cases e;exact⟨x,rfl,rfl,.refl M,.nil⟩
 |cons v vs ih=>
  intro x Xs r M h e
  cases h with
  |cons a b=>
   obtain⟨q,e1,e2⟩:=XB.mp e
   obtain⟨t,e3,rfl⟩:=Xe.mp e2
   obtain⟨y,h1,h2,S,hv⟩:=hg v x q _ M a e1
   exact Fz.go S h2 ((ih (r:=t) S.S.M (S.S.vl b) (h1.symm▸e3)).imp fun z t=>⟨t.1,t.2.1,t.2.2.1,.cons (t.2.2.1.S.vr hv) t.2.2.2⟩)
theorem wV{g:V->H->Option (V×H)}(hg:∀v x r X,bF G x->Vr G x v X->g v x.h=some r->Fz G x r.2 fun y=>Vr G y r.1 X){r:O×H}(M:bF G x)(Op:Or G x o p)(n1:¬ x.F p.1)(n2:¬ x.F p.2)(e:yO g o x.h=some r):
  Fz G x r.2 fun y=>Vr G y r.1.v (.ref p.1):=by
 cases o with
 |list vs=>
  obtain⟨t,e1,rfl⟩:=Xe.mp e
  revert n1
  refine Op.listE fun l items n g hl z h n1=>(rK hg M h e1).imp fun y t=>⟨t.1,t.2.1,t.2.2.1,.lst (t.2.2.1.S.fr _ _ g n1).1 (t.2.2.1.S.fr _ _ g n1).2 (WH (WO ((L2.len t.2.2.2).trans hl.symm)) z) t.2.2.2⟩
 |dict ks vs=>
  obtain⟨t,e1,rfl⟩:=Xe.mp e
  revert n1
  exact Op.lM fun l es D n1=>(rK hg M D.v e1).imp fun y t=>⟨t.1,t.2.1,t.2.2.1,.bL (t.2.2.1.S.fr _ _ D.g n1).1 (t.2.2.1.S.fr _ _ D.g n1).2 D.m D.d (t.2.2.1.S.vl D.k) t.2.2.2⟩
 |inst c fs vs=>
  obtain⟨t,e1,rfl⟩:=Xe.mp e
  revert n1 n2
  exact Op.qE fun l D C es n hc ne g g' F z h n1 n2=>(rK hg M h e1).imp fun y t=>⟨t.1,t.2.1,t.2.2.1,.obj hc ne (t.2.2.1.S.fr _ _ g n1).1 (t.2.2.1.S.fr _ _ g' n2).1 (t.2.2.1.S.fr _ _ g n1).2 (t.2.2.1.S.fr _ _ g' n2).2 F z t.2.2.2⟩
theorem wz(n:Nat):∀v x r X,bF G x->Vr G x v X->bP n v x.h=some r->Fz G x r.2 fun y=>Vr G y r.1 X:=by
 induction n with
 |zero=>intro v x r X _ _ e;cases e
 |succ n ih=>
  intro v x r X M h e
  have fz:∀o,v=o.v->gN (yO (bP n) o x.h)=some r->Fz G x r.2 fun y=>Vr G y r.1 X:=fun o ho e1=>by
   subst ho
   obtain⟨p,rfl,Op,n1,n2⟩:=h.fz
   obtain⟨t,e2,rfl⟩:=Xe.mp e1
   exact wV ih M Op n1 n2 e2
  have pur:some (v,x.h)=some r->Fz G x r.2 fun y=>Vr G y r.1 X:=fun e=>by
   cases e;exact⟨x,rfl,rfl,.refl M,h⟩
  cases v with
  |ref a=>
   obtain⟨o,e1,e2⟩:=XB.mp e
   obtain⟨t,e3,rfl⟩:=Xe.mp e2
   obtain⟨p,q⟩:∃p,x.β[a]? =some p/\X=.ref p.1:=by cases h with|ref q=>exact⟨_,q,rfl⟩
   have S:=Step.kill M e1 q.1
   rw[q.2]
   refine Fz.go ⟨S,fun b o g=>?_⟩ rfl (wV ih S.M (xb (M.obj a o p e1 q.1).1) (fun z=>z.2.1 rfl) (fun z=>z.2.2 rfl) e3)
   by_cases z:b=a
   ·rw[z]at g;exact sn g (aG (aE e1))
   ·exact(ah z).symm.trans g
  |lst vs=>exact fz (.list vs) rfl e
  |bL ks vs=>exact fz (.dict ks vs) rfl e
  |obj c fs vs=>exact fz (.inst c fs vs) rfl e
  |_=>exact pur e
theorem Ma(ha:av G d nm sc a ea):av G d nm sc (.bP a) ea:=fun C O x ρ pw M R k Q Er ev q=>ha C O x ρ pw M R _ _ _ ev fun v X y S hX ev=>by
 obtain⟨r,e,ev⟩:∃r,bP 8 v y.h=some r/\k r.1 r.2:=by
  revert ev
  show(match bP 8 v y.h with|some r=>k r.1 r.2|none=>False)->_
  cases bP 8 v y.h with
  |none=>exact fun h=>h.elim
  |some r=>exact fun h=>⟨r,rfl,h⟩
 obtain⟨z,h1,h2,T,hz⟩:=wz 8 v y r X S.M hX e
 exact h2▸q _ _ z (S.trans T.S) hz (h1.symm▸ev)
theorem L2.zr{R R':V->Value->Prop}{vs:List V}{Xs:List Value}(k:∀v∈vs,∀X,R v X->R' v X)(l:L2 R vs Xs):L2 R' vs Xs:=by
 induction l with
 |nil=>exact .nil
 |cons a _ ih=>exact .cons (k _ (.head _) _ a) (ih fun v m=>k v (.tail _ m))
theorem VR.key{β β':List BA}{F F':Addr->Prop}{Hp Hp':Heap}(k:pW F Hp F' Hp'){q:Key}(h:VR G β F Hp q.v X):VR G β' F' Hp' q.v X:=by
 cases q with
 |int i=>cases h;exact .int _ _
 |tup is=>
  cases h with
  |tup g n z l=>exact .tup (k _ _ g n).1 (k _ _ g n).2 z (l.zr fun v m X h=>(XN.mp m).elim fun i e=>by cases e.2;cases h;exact .int _ _)
theorem VR.nr{β β':List BA}{F F':Addr->Prop}{Hp Hp':Heap}(k:pW F Hp F' Hp')(n:Nat):∀v X,nj n v=true->VR G β F Hp v X->VR G β' F' Hp' v X:=by
 induction n with
 |zero=>exact fun v X e=>nomatch e
 |succ n ih=>
  intro v X e h
  cases h with
  |none=>exact .none
  |bool b=>exact .bool b
  |int i t=>exact .int i t
  |str e'=>exact .str e'
  |tup g n z l=>exact .tup (k _ _ g n).1 (k _ _ g n).2 z (l.zr fun v m X=>ih v X (YO.mp e v m))
  |kE g n=>exact .kE (k _ _ g n).1 (k _ _ g n).2
  |ref q=>exact nomatch e
  |lst g n z l=>exact .lst (k _ _ g n).1 (k _ _ g n).2 z (l.zr fun v m X=>ih v X (YO.mp e v m))
  |bL g n d d' l m=>exact .bL (k _ _ g n).1 (k _ _ g n).2 d d' (l.zr fun v m X h=>(XN.mp m).elim fun q e=>by cases e.2;exact VR.key k h) (m.zr fun v m X=>ih v X (YO.mp e v m))
  |obj c d g g' n n' f z l=>exact .obj c d (k _ _ g n).1 (k _ _ g' n').1 (k _ _ g n).2 (k _ _ g' n').2 f z (l.zr fun v m X=>ih v X (YO.mp e v m))
  |uH g c d n i=>exact .uH (k _ _ g n).1 c d (k _ _ g n).2 i
theorem LH{n:Nat}:gt (XA n Sl.no) i=.no:=by
 induction n generalizing i with
 |zero=>rfl
 |succ n ih=>cases i with
  |zero=>rfl
  |succ i=>exact ih
theorem bF.iso(M:bF G x):bF G { x with β:=[],h:=H.nil}:=⟨rfl,M.qc,(fun _ _ _ _ _ _ e=>nomatch e),(fun _ _ _ e=>nomatch e),M.base⟩
theorem sD{b:Addr}:¬ Own { x with β:=[],h:=H.nil} b:=fun⟨_,_,_,e,_⟩=>nomatch e
theorem Step.iso(M:bF G x)(S:Step G { x with β:=[],h:=H.nil} y):Step G x { x with s:=y.s}/\pW y.F y.s.heap x.F y.s.heap:=by
 have fr:pW x.F x.s.heap x.F y.s.heap:=fun b o e n=>⟨(S.fr b o e n).1,n⟩
 have kf:∀b o,x.g b=some o->x.F b->y.g b=some o:=fun b o e f=>(S.ot b o e f sD).1
 refine⟨⟨⟨M.len,fun b f=>(M.qc b f).elim fun o e=>⟨o,kf b o e f⟩,M.sep,fun a o p e q=>have c:=M.obj a o p e q;⟨OR.mono fr (fun _ _ e=>e) (fun u g=>kf _ u g c.2.1) (fun u g=>kf _ u g c.2.2) c.1,c.2⟩,fun b o e=>have c:=M.base b o e;fr b o c.1 c.2⟩,
  fun _ _ e=>e,fr,fun b o e f n=>⟨kf b o e f,f,n⟩,S.sm,S.al⟩,fun b o e n=>⟨e,fun f=>(M.qc b f).elim fun o' e'=>n (S.ot b o' e' f sD).2.1⟩⟩
theorem HC{sl:Sl}{k:V->Prop}(h:(match sl with|.v u=>k u|_=>False)):∃u,sl=.v u/\k u:=by
 cases sl with
 |v u=>exact⟨u,rfl,h⟩
 |_=>exact h.elim
theorem Ax{b:Bool}{k:Prop}(h:(match b with|true=>k|false=>False)):b=true/\k:=by
 cases b with
 |true=>exact⟨rfl,h⟩
 |false=>exact h.elim
theorem LG(ha:av G d nm sc a ea):av G d nm sc (.iso i a) ea:=fun C O x ρ pw M R k Q Er ev q=>by
 obtain⟨u,eu,ev⟩:=HC (k:=fun u=>match nj 20 u with|true=>Mine.ev mp (mP d) a (st (XA ρ.length .no) i (.v u)) H.nil fun v _=>(match nj 20 v with|true=>k v x.h|false=>False)|false=>False) ev
 obtain⟨nu,ev⟩:=Ax ev
 have nx:∀{j},gt (st (XA ρ.length .no) i (.v u)) j=.no\/j=i/\gt (st (XA ρ.length .no) i (.v u)) j=.v u:=fun{j}=>by
  by_cases e:j=i
  ·subst e;exact lA.elim (fun e=>.inr ⟨rfl,e⟩) .inl
  ·exact .inl ((eY e).trans LH)
 refine ha C O { x with β:=[],h:=H.nil} _ pw M.iso ⟨fun n' j e=>(R.nm n' j e).imp fun ov t=>⟨t.1,?_⟩,fun b e=>⟨(R.ne b e).1,sD⟩,fun j o e=>?_⟩ _ _ _ ev fun v X y S hX ev=>?_
 ·rcases nx (j:=j) with z|⟨rfl,z⟩
  ·rw[z];trivial
  ·rw[z]
   have t2:=t.2
   rw[eu]at t2
   exact t2.imp fun V c=>⟨c.1,VR.nr (fun _ _ e n=>⟨e,n⟩) 20 u V nu c.2⟩
 ·rcases nx (j:=j) with z|⟨_,z⟩<;>exact nomatch z.symm.trans e
 ·obtain⟨nv,ev⟩:=Ax ev
  have T:=Step.iso M S
  exact q v X { x with s:=y.s} T.1 (VR.nr T.2 20 v X nv hX) ev
theorem DA{h:H}(ev:(match o.v with|.lst vs=>k (.ref h.size) (h.push (.list vs))|.bL ks vs=>k (.ref h.size) (h.push (.dict ks vs))|.obj c fs vs=>k (.ref h.size) (h.push (.inst c fs vs))|_=>False)):k (.ref h.size) (h.push o):=by
 cases o<;>exact ev
theorem Fc(ha:jd G d nm sc a ea):av G d nm sc (.cell a) ea:=fun C O x ρ pw M R k Q Er ev q=>ha C O x ρ pw M R _ _ _ ev fun o p y S Op H n1 n2 ev=>
 have T:=S.own Op H n1 n2
 q _ _ { y with β:=y.β++[p],h:=y.h.push o} T.1 (.ref T.2) (DA ev)
theorem HW(W:Wd G)(hx:tj sc "len"=true)(hn:G.mg "len"=none)(hv:nm.lookup nx=some i)(ho:bh nx=true){p1 p2 p3:Pos}:av G d nm sc (.cM i) (.Call (.Name "len" p1) [.Name nx p2] [] p3):=by
 intro C O x ρ pw M R k Q Er ev q
 obtain⟨o,h,ev⟩:=dZ ev
 obtain⟨n,e,ev⟩:∃n,cM o=some n/\k (.int n) x.h:=by
  revert ev
  cases cM o with
  |none=>exact fun h=>h.elim
  |some r=>exact fun h=>⟨r,rfl,h⟩
 rw[arm_eval_Call_Name']
 refine WJ (iv (X:=.builtin "len") W O M hx hn (by decide+kernel) (by decide+kernel) ?_)
 refine aZ (fun _=>True) rfl iR ?_
 refine Calls.spliced_cons (wpAny_Name (fu O R hv h (WN ⟨trivial,?_⟩)) (aI ho))
 exact yk e (R.ow i o h).o (Gv.fin (r:=.int n) (Step.refl M) ev q)
theorem Ft{op:BF}(ng:Bool)(hop:op=if ng then .cg else .mem)(hv:nm.lookup nx=some i)(ho:bh nx=true)(ha:av G d nm sc a ea){p1:Pos}:av G d nm sc (.bX ng a i) (.Compare ea [fx op] [.Name nx p1] pos):=by
 intro C O x ρ pw M R k Q Er ev q
 rw[arm_eval_Compare]
 refine WJ (ha C O x ρ pw M R _ _ _ ev fun v X y S hX ev=>?_)
 obtain⟨o,h,ev⟩:=dZ ev
 obtain⟨c,e,ev⟩:=oR (P:=fun b=>k (.bool (xor ng b)) y.h) ev
 show WS _ _ (compareChain _ X [fx op] [eval (.Name nx p1) C.env]) _ _ _
 have R:=R.de M S
 refine WJ (Xg (wpAny_Name (fu O R hv h (WJ (Xu (wpAny_operating ?_)))) (aI ho)))
 have:=sI (A:=C.A) (Er:=Er) (Q:=Q) ng O.rm e hX (R.ow i o h).o fun tk=>have U:=Step.tk S.M tk;q _ _ { y with s:={ y.s with toks:=tk}} (S.trans U) (.bool _) (by cases ng<;>cases c<;>exact ev)
 cases ng<;>(subst hop;exact this)
end
section
structure pM(A:Around)(d:Nat):Prop where
 hd:A.handled=none
 dp:A.depth+4*d<988
 un:A.units+16*d+210<9900
 gu:A.guards=some []
theorem cz.c{A:Around}{d:Nat}(r:cz A (d+1)):pM A d:=⟨r.hd,by have:=r.dp;omega,by have:=r.un;omega,r.gu⟩
structure dq(G:Gl)(d:Nat):Prop where
 call:∀f vs k a A x Xs Rr,G.fa f=some a->(∀d',d=d'+1->pM A d')->bF G x->Vl G x vs Xs->(mP d).call f vs x.h k->(∀v X y,Step G x y->Vr G y v X->k v y.h->Rr (.ok (.ret X)) y.s)->codeAny G.m A (.call (.ref a) ⟨Xs,[]⟩) Rr x.s
 init:∀f c vs k a A x0 x p Xs Rr,G.fa f=some a->(∀d',d=d'+1->pM A d')->Step G x0 x->Or G x (.inst c [] []) p->Hd x p->x0.g p.1=none->x0.g p.2=none->Vl G x vs Xs->(mP d).init f c vs x.h k->
  (∀o y,Step G x0 y->Or G y o p->Hd y p->k o y.h->Rr (.ok (.ret .none)) y.s)->codeAny G.m A (.call (.ref a) ⟨.ref p.1::Xs,[]⟩) Rr x.s
section
variable{G:Gl}{d:Nat}{nm:eD}{sc:gm}{x y z:Sx}{s:Shared}{v:V}{X:Value}{vs:List V}{Xs:List Value}{o:O}{p:BA}{A:Around}{Er:Value->Shared->Prop}{Q:Value->Shared->Prop}{n f m:Nat}{C:Fm}{ρ:Env}{pw:Nat->BA}{k:V->H->Prop}{a b c e es:E}{ea eb:Expr}{asts:List Expr}{pos pos':Pos}{nx:Str}
theorem bF.KQ(W:Wd G)(M:bF G x):G.K.In x.s.heap:=W.X.keeps fun b o e=>(M.base b o e).1
theorem GF{ad:Addr}(W:Wd G)(J:dq G d)(ha:iJ G d nm sc a asts)(hx:tj sc nx=true)(hv:G.mg nx=some (.ref ad))(hf:G.fa f=some ad):av G d nm sc (.call f a) (.Call (.Name nx pos) asts [] pos'):=by
 intro C O x ρ pw M R k Q Er ev q
 rw[arm_eval_Call_Name']
 refine WJ (oa W O M hx hv ?_)
 refine aZ (fun h=>G.K.In h) (ha.st _ _) (fun h X=>keeps_K (W.fk f ad hf) h X) (ha.ev C O x ρ pw M R _ _ _ _ ev fun vs Xs y S hXs hl ev=>⟨S.M.KQ W,?_⟩)
 exact wpAny_call (J.call f vs k ad C.A y Xs _ hf (fun d' e=>(e▸O.rm).c) S.M hXs ev fun v X z T hX ev=>q v X z (S.trans T) hX ev)
theorem cz.cls{d:Nat}(rm:cz A (d+1))(C:Addr)(rest:List Value)(kw:List (Str×Value)):pM (A.under (.builtin "type.__call__" ⟨.ref C::rest,kw⟩)) d:=by
 have h1:(Code.builtin "type.__call__" ⟨.ref C::rest,kw⟩).weight=1:=by rfl
 have h2:(Code.builtin "type.__call__" ⟨.ref C::rest,kw⟩).cUnits=1:=by rfl
 have h3:(Code.builtin "type.__call__" ⟨.ref C::rest,kw⟩).guards=[]:=by rfl
 have h4:(A.under (Code.builtin "type.__call__" ⟨.ref C::rest,kw⟩)).guards=pushGuards (Code.builtin "type.__call__" ⟨.ref C::rest,kw⟩).guards A.guards:=by rfl
 have a:=rm.dp
 have b:=rm.un
 refine⟨rm.hd,?_,?_,?_⟩
 ·show A.depth+_+_<_
  rw[h1];omega
 ·show A.units+_+_+_<_
  rw[h2];omega
 ·rw[h4,h3];exact rm.gu
theorem DB{cn:Nat}{ad fI:Addr}{Rr:Result->Shared->Prop}(W:Wd G)(hc:G.cl cn=some ad)(hinit:findIn G.K (.ref ad) "__init__"=some (some (.ref fI)))(hty:typeIn G.K (.ref fI)=some (.type "function"))(M:bF G y)
  (go:∀x1 p,Step G y x1->x1.h=y.h->x1.β=y.β->Or G x1 (.inst cn [] []) p->Hd x1 p->y.g p.1=none->y.g p.2=none->codeAny G.m (A.under (.builtin "type.__call__" ⟨.ref ad::Xs,[]⟩)) (.call (.ref fI) ⟨.ref p.1::Xs,[]⟩) (InitBack p.1 Rr) x1.s):
  codeAny G.m A (.call (.ref ad) ⟨Xs,[]⟩) Rr y.s:=by
 have X₁:=M.KQ W
 have Oc:=W.cls cn ad hc
 obtain⟨yβ,yF,yh,⟨Hq,g,dr,t,os⟩⟩:=y
 refine make_core (makes_of X₁ Oc.VU) (looks_findIn X₁ hinit) (fun self=>bind_fn X₁ self hty) (.inl rfl) ?_
 have K:Kp (⟨Hq,g,dr,t,os⟩:Shared) ⟨(Hq.push emptyDict).push (instObj ad Hq.objs.size),g,dr,t,os⟩:=⟨⟨_,_,rfl⟩,fun b o e=>aA _ _ _ _ (aA _ _ _ _ e)⟩
 have gI:=Em Hq emptyDict (instObj ad Hq.objs.size) rfl
 have gD:((Hq.push emptyDict).push (instObj ad Hq.objs.size)).get? Hq.objs.size=some (bk #[] 0):=aA _ _ _ _ (Heap.get?_push_size _ rfl)
 have S:=Step.ad (p:=(Hq.objs.size+1,Hq.objs.size)) M K (f1 Hq) (ax _) ⟨_,gI⟩ ⟨_,gD⟩
 have w1:¬ Own ⟨yβ,yF,yh,⟨Hq,g,dr,t,os⟩⟩ (Hq.objs.size+1):=fK M (f1 Hq)
 have w2:¬ Own ⟨yβ,yF,yh,⟨Hq,g,dr,t,os⟩⟩ Hq.objs.size:=fK M (ax _)
 exact go _ (Hq.objs.size+1,Hq.objs.size) S rfl rfl (.inst (es:=[]) (n:=0) hc (XU _) gI gD trivial (XI _) .nil) ⟨.inr (.inl rfl),.inr (.inr rfl),w1,w2⟩ (f1 Hq) (ax _)
theorem tJ{P:Nat->Prop}{t:Option Nat}(h:(match t with|some f=>P f|none=>False)):∃f,t=some f/\P f:=by
 cases t with
 |none=>exact h.elim
 |some f=>exact⟨f,rfl,h⟩
theorem KO{cn:Nat}{ad:Addr}(W:Wd G)(J:dq G d)(ha:iJ G d nm sc a asts)(hx:tj sc nx=true)(hv:G.mg nx=some (.ref ad))(hc:G.cl cn=some ad):jd G d nm sc (.new cn a) (.Call (.Name nx pos) asts [] pos'):=by
 intro C O x ρ pw M R k Q Er ev q
 rw[arm_eval_Call_Name']
 refine WJ (oa W O M hx hv ?_)
 refine aZ (fun h=>G.K.In h) (ha.st _ _) (fun h X=>keeps_K (W.cls cn ad hc).kp h X) (ha.ev C O x ρ pw M R _ _ _ _ ev fun vs Xs y S hXs hl ev=>⟨S.M.KQ W,?_⟩)
 obtain⟨f,hf,ev⟩:=tJ (P:=fun f=>(mP d).init f cn vs y.h fun o h=>k o.v h) ev
 obtain⟨fI,ea,hi,ht⟩:=(W.cls cn ad hc).it f hf
 refine wpAny_call (DB W hc hi ht S.M fun x1 p T eh eb Op H n1 n2=>?_)
 refine J.init f cn vs _ fI _ y x1 p Xs _ ea (fun d' e=>cz.cls (e▸O.rm) _ _ _) T Op H n1 n2 (T.vl hXs) (eh.symm▸ev) fun o z U Oz Hz ev=>⟨rfl,?_⟩
 exact q o p z (S.trans U) Oz Hz (S.none n1) (S.none n2) ev
noncomputable def nk(k:V->H->Prop)(a:Nat)(v:V)(h:H):Prop:=match v with|.none=>k (.ref a) h|_=>False
theorem FV{cn:Nat}{ad:Addr}(W:Wd G)(J:dq G d)(ha:iJ G d nm sc a asts)(hx:tj sc nx=true)(hv:G.mg nx=some (.ref ad))(hc:G.cl cn=some ad):av G d nm sc (.qr cn a) (.Call (.Name nx pos) asts [] pos'):=by
 intro C O x ρ pw M R k Q Er ev q
 rw[arm_eval_Call_Name']
 refine WJ (oa W O M hx hv ?_)
 refine aZ (fun h=>G.K.In h) (ha.st _ _) (fun h X=>keeps_K (W.cls cn ad hc).kp h X) (ha.ev C O x ρ pw M R _ _ _ _ ev fun vs Xs y S hXs hl ev=>⟨S.M.KQ W,?_⟩)
 obtain⟨f,hf,ev⟩:=tJ (P:=fun f=>(mP d).call f (.ref y.h.size::vs) (y.h.push (.inst cn [] [])) (nk k y.h.size)) ev
 obtain⟨fI,ea,hi,ht⟩:=(W.cls cn ad hc).it f hf
 refine wpAny_call (DB W hc hi ht S.M fun x1 p T eh eb Op H n1 n2=>?_)
 have U:=T.own Op H n1 n2
 have hself:({ x1 with β:=x1.β++[p],h:=x1.h.push (.inst cn [] [])}:Sx).β[y.h.size]? =some p:=eh▸U.2
 have ev:(mP d).call f (.ref y.h.size::vs) (x1.h.push (.inst cn [] [])) (nk k y.h.size):=by rw[eh];exact ev
 refine J.call f (.ref y.h.size::vs) (nk k y.h.size) fI _ { x1 with β:=x1.β++[p],h:=x1.h.push (.inst cn [] [])} (.ref p.1::Xs) _ ea (fun d' e=>cz.cls (e▸O.rm) _ _ _) U.1.M (.cons (.ref hself) (U.1.vl hXs)) ev fun v X z V hX ev=>?_
 cases v with
 |none=>exact hX.CS▸⟨rfl,q _ _ z ((S.trans U.1).trans V) (.ref (V.pre _ _ hself)) ev⟩
 |_=>exact ev.elim
end
end
section
variable{G:Gl}{d:Nat}{x y z:Sx}{s:Shared}{v r:V}{X Z:Value}{vs us:List V}{Xs:List Value}{o:O}{p:BA}{A:Around}{Er:Value->Shared->Prop}{Q:Value->Shared->Prop}{n f m:Nat}{C:Fm}{env:PySem.Env}{k:V->H->Prop}{a b c e es:E}{asts:List Expr}{pos:Pos}
noncomputable def Cx(G:Gl)(A:Around)(Er:Value->Shared->Prop)(X:Value)(m:Nat)(s:Shared):Prop:=∀(pl:Sem Bool)(Q':Value×List Value->Shared->Prop),Q' (.builtin (mid m),[X]) s->WS G.m A (getMethod X (aw m) pl) Q' Er s
theorem VO{l:Addr}{items:Array Value}(g:s.heap.get? l=some (dg items n))(h:aag m 5=true):Cx G A Er (.ref l) m s:=fun pl Q' q=>by
 have go:∀{id},Slot "list" (aw m) id->typeOf (.builtin id)=pure (.type "method_descriptor")->id=mid m->WS G.m A (getMethod (.ref l) (aw m) pl) Q' Er s:=fun{id} sl ty e=>getMethod_builtin ⟨_,g,rfl⟩ PySem.F.plainAttrs_list sl ty (fun a z=>by cases z;exact⟨_,g,rfl⟩) (e▸q)
 cases m with
 |zero=>exact go PySem.F.slot_list_append PySem.F.type_list_append rfl
 |succ m=>cases m with
  |zero=>exact go PySem.F.slot_list_insert PySem.F.type_list_insert rfl
  |succ m=>cases m with
   |zero=>exact go PySem.F.slot_list_extend PySem.F.type_list_extend rfl
   |succ m=>cases m with
    |zero=>exact go PySem.F.slot_list_pop PySem.F.type_list_pop rfl
    |succ m=>cases m with
     |zero=>exact go PySem.F.slot_list_index PySem.F.type_list_index rfl
     |succ m=>cases h
theorem Wj{l:Addr}{es:List DictEntry}(g:s.heap.get? l=some (bk es.toArray n))(h:(Nat.beq m 5||Nat.beq m 6)=true):Cx G A Er (.ref l) m s:=fun pl Q' q=>by
 rcases(Bool.or_eq_true _ _).mp h with h|h
 ·cases Ym h;exact getMethod_builtin ⟨_,g,rfl⟩ PySem.F.plainAttrs_dict PySem.F.slot_dict_get PySem.F.type_dict_get (fun a z=>by cases z;exact⟨_,g,rfl⟩) q
 ·cases Ym h;exact getMethod_builtin ⟨_,g,rfl⟩ PySem.F.plainAttrs_dict PySem.F.slot_dict_setdefault PySem.F.type_dict_setdefault (fun a z=>by cases z;exact⟨_,g,rfl⟩) q
theorem rY(h:wb o m=true)(Op:Or G x o p):Cx G A Er (.ref p.1) m x.s:=by
 cases o with
 |list vs=>exact Op.listE fun l items n g _ _ _=>VO g h
 |dict ks vs=>exact Op.lM fun l es D=>Wj D.g h
 |inst _ _ _=>cases h
theorem sE{α:Type}{b:Bool}{a c:α}(h:(match b with|true=>some a|false=>none)=some c):b=true/\c=a:=by
 cases b with
 |true=>exact⟨rfl,(Option.some.inj h).symm⟩
 |false=>cases h
theorem QR{c:Nat}{fs:List Nat}{us:List V}{g:Option Nat}(e:(match ae m fs us with|none=>(mp.vR c m).map some|some _=>none)=some g):∃f,ae m fs us=none/\mp.vR c m=some f/\g=some f:=by
 revert e
 cases ae m fs us with
 |some v=>exact fun h=>sn h rfl
 |none=>exact fun h=>(Xe.mp h).imp fun f t=>⟨rfl,t.1,t.2.symm⟩
theorem Lr{g:Option Nat}(W:Wd G)(M:bF G x)(hX:Vr G x v X)(e:iN mp v m x.h=some g):
  (g=none/\Cx G A Er X m x.s)\/∃f ad,g=some f/\G.fa f=some ad/\∀(pl:Sem Bool)(Q':Value×List Value->Shared->Prop),Q' (.ref ad,[X]) x.s->WS G.m A (getMethod X (aw m) pl) Q' Er x.s:=by
 unfold iN at e
 revert e
 cases q:rd v x.h with
 |some o=>
  obtain⟨p,rfl,Op⟩:=read M hX q
  cases o with
  |inst c fs us=>
   intro e
   obtain⟨f,e1,e2,rfl⟩:=QR e
   refine .inr (Op.qE (P:=fun p=>∃f' ad,some f=some f'/\G.fa f'=some ad/\∀(pl:Sem Bool)(Q':Value×List Value->Shared->Prop),Q' (.ref ad,[.ref p.1]) x.s->WS G.m A (getMethod (.ref p.1) (aw m) pl) Q' Er x.s) fun l D C es n hc ne g1 g2 F z h=>?_)
   obtain⟨hm,ad,ha,_⟩:=(W.cls c C hc).me m f e2
   exact⟨f,ad,rfl,ha,fun pl Q' q=>se (M.KQ W) W.cls (.inst hc ne g1 g2 F z h:Or G x (.inst c fs us) (l,D)) e1 e2 fun F hF=>by cases ha.symm.trans hF;exact q⟩
  |list vs=>exact fun e=>(sE e).elim fun h e=>.inl ⟨e,rY (o:=.list vs) h Op⟩
  |dict ks vs=>exact fun e=>(sE e).elim fun h e=>.inl ⟨e,rY (o:=.dict ks vs) h Op⟩
 |none=>
  cases v with
  |str S=>
   intro e
   obtain⟨h,rfl⟩:=sE (b:=Nat.beq m 7) e
   cases Ym h
   exact .inl ⟨rfl,hX.nT (P:=fun X=>Cx G A Er X 7 x.s) fun S t _ pl Q' q=>getMethod_builtin (typeIs_str _ _ _) PySem.F.plainAttrs_str PySem.F.slot_str_join PySem.F.type_str_join (fun a z=>nomatch z) q⟩
  |_=>exact fun h=>sn h rfl
theorem Bo(rm:cz A d)(M:bF G x)(hX:Vr G x v X)(hXs:Vl G x vs Xs)(ev:nB (mP d) v m vs x.h k)(q:∀v X y,Step G x y->Vr G y v X->k v y.h->Q X y.s):WS G.m A (call (.builtin (mid m)) (X::Xs)) Q Er x.s:=by
 have vm:fJ False (uF v m vs) (k · x.h)->WS G.m A (call (.builtin (mid m)) (X::Xs)) Q Er x.s:=fun ev=>(cB ev).elim fun r h=>CR rm h.1 hX hXs (Gv.fin (Step.refl M) h.2 q)
 cases v with
 |ref a=>
  obtain⟨p,hp,rfl⟩:∃p,x.β[a]? =some p/\X=.ref p.1:=by cases hX with|ref q=>exact⟨_,q,rfl⟩
  have ev:(match x.h.get a with|some o=>(match dh o m vs with|some r=>k r.1 (x.h.set a (some r.2))|none=>fJ False (mw o m vs) (k · x.h))|none=>False):=ev
  revert ev
  cases ho:x.h.get a with
  |none=>exact fun h=>h.elim
  |some o=>
   have Op:=(M.obj a o p ho hp).1
   show(match dh o m vs with|some r=>k r.1 (x.h.set a (some r.2))|none=>fJ False (mw o m vs) (k · x.h))->_
   cases hm:dh o m vs with
   |some r=>exact fun ev=>tZ rm hm Op hXs fun Z hZ s' sm hs hO=>hs.elim fun b hb=>have S:=Step.cell M ho hp hb.1 hb.2 sm (hO x.F);q _ _ { x with h:=x.h.set a (some r.2),s:=s'} S (S.vr hZ) ev
   |none=>exact fun ev=>(cB ev).elim fun r h=>qH rm h.1 Op hXs (Gv.fin (Step.refl M) h.2 q)
 |_=>exact vm ev
theorem GC{g:Option (Option Nat)}{k:Option Nat->Prop}(h:MQ (mP d) g k):∃t,g=some t/\k t:=by
 cases g with
 |none=>exact h.elim
 |some t=>exact⟨t,rfl,h⟩
theorem EK(h:(backTo pos (starEach asts env)).any (·.1)=false)(hn:asts.length<30):methodCallForm (asts.length+([]:List Keyword).length) (backTo pos (starEach asts env)) []=true:=by
 unfold methodCallForm
 rw[show(backTo pos (starEach asts env)).all (!·.1)=true by rw[List.all_eq_not_any_not,List.any_congr rfl fun x=>Bool.not_not _,h];rfl]
 exact(Bool.and_eq_true _ _).mpr ⟨rfl,decide_eq_true hn⟩
end
section
variable{G:Gl}{d:Nat}{nm:eD}{sc:gm}{x y z:Sx}{s:Shared}{v w r:V}{X:Value}{vs:List V}{Xs:List Value}{o:O}{A:Around}{Er:Value->Shared->Prop}{Q:Value->Shared->Prop}{i n f m:Nat}{C:Fm}{env:PySem.Env}{ρ:Env}{pw:Nat->BA}{k:V->H->Prop}{a b c e:E}{ea:Expr}{asts:List Expr}{pos apos:Pos}{nx:Str}
theorem Es{fv:Value}{first:List Value}(hp:(backTo pos (starEach asts env)).any (·.1)=false)(hn:asts.length<30)(hpos:(apos.endLine==pos.line)=true)
  (h1:∀(pl:Sem Bool)(Q':Value×List Value->Shared->Prop),Q' (fv,first) s->WS G.m A (getMethod X (aw m) pl) Q' Er s)
  (h2:WS G.m A (callWith pos fv first (backTo pos (starEach asts env)) []) Q Er s):
  WS G.m A (methodCall ea (aw m) apos pos env X (asts.length+([]:List Keyword).length) (backTo pos (starEach asts env)) (backToKw pos (keywordEach [] env))) Q Er s:=by
 unfold methodCall
 rw[show(backToKw pos (keywordEach [] env))=[] from rfl,EK hp hn]
 refine WJ (Xg ?_)
 show WS _ _ (getMethod X (aw m) _) _ _ _
 refine h1 _ _ (WJ ?_)
 unfold methodCallPos
 rw[if_pos (show(!true||apos.endLine==pos.line)=true from hpos)]
 exact WN h2
theorem DY(W:Wd G)(J:dq G d)(ha:av G d nm sc a ea)(hb:iJ G d nm sc b asts)(hbase:∀env nx whole,attributeBase ea nx env whole=whole)(hn:asts.length<30)(hpos:(apos.endLine==pos.line)=true):
  av G d nm sc (.aq a m b) (.Call (.Attribute ea (aw m) apos) asts [] pos):=by
 intro C O x ρ pw M R k Q Er ev q
 rw[arm_eval_Call,hbase]
 refine WJ (ha C O x ρ pw M R _ _ _ ev fun v X y S hX ev=>WJ (Xu ?_))
 obtain⟨g,hg,ev⟩:=GC ev
 rcases Lr (A:=C.A) (Er:=Er) W S.M hX hg with ⟨rfl,h⟩|⟨f,ad,rfl,hf,h⟩
 ·refine Es (hb.st _ _) hn hpos h (aZ (fun _=>True) (hb.st _ _) iR (hb.ev C O y ρ pw S.M (R.de M S) _ _ _ _ ev fun vs Xs z T hXs hl ev=>⟨trivial,?_⟩))
  exact Bo O.rm T.M (T.vr hX) hXs ev fun v X y U=>q v X y ((S.trans T).trans U)
 ·refine Es (hb.st _ _) hn hpos h (aZ (fun h=>G.K.In h) (hb.st _ _) (fun h X=>keeps_K (W.fk f ad hf) h X) (hb.ev C O y ρ pw S.M (R.de M S) _ _ _ _ ev fun vs Xs z T hXs hl ev=>⟨T.M.KQ W,?_⟩))
  exact wpAny_call (J.call f (v::vs) k ad C.A z (X::Xs) _ hf (fun d' e=>(e▸O.rm).c) T.M (.cons (T.vr hX) hXs) ev fun v X y U=>q v X y ((S.trans T).trans U))
theorem HM{s:Sl}{P:Prop}(h:zW (mP d) s m P):∃o,s=.o o/\wb o m=true/\P:=by
 obtain⟨o,e,h⟩:=dZ h
 revert h
 cases q:wb o m with
 |true=>exact fun h=>⟨o,e,q,h⟩
 |false=>exact fun h=>h.elim
theorem DN{P:O->List V->H->Prop}(hv:nm.lookup nx=some i)(ho:bh nx=true)(hb:iJ G d nm sc b asts)(hn:asts.length<30)(hpos:(apos.endLine==pos.line)=true)(O:bJ d nm sc C)(M:bF G x)(R:ER G nm C.env x ρ pw){p1:Pos}
  (ev:zW (mP d) (gt ρ i) m (Mine.ev mp (mP d) b ρ x.h fun w h=>iO False w fun vs=>dy False (gt ρ i) fun o=>P o vs h))
  (q:∀o vs Xs y,gt ρ i=.o o->Step G x y->Hn G C.env y o (pw i)->Vl G y vs Xs->P o vs y.h->WS G.m C.A (call (.builtin (mid m)) (.ref (pw i).1::Xs)) Q Er y.s):
  WS G.m C.A (eval (.Call (.Attribute (.Name nx p1) (aw m) apos) asts [] pos) C.env) Q Er x.s:=by
 rw[arm_eval_Call]
 obtain⟨o,h,hm,ev⟩:=HM ev
 refine WJ (wpAny_Name (fu O R hv h (WJ (Xu ?_))) (aI ho))
 refine Es (hb.st _ _) hn hpos (rY hm (R.ow i o h).o) (aZ (fun _=>True) (hb.st _ _) iR (hb.ev C O x ρ pw M R _ _ _ _ ev fun vs Xs z T hXs hl ev=>⟨trivial,?_⟩))
 rw[h]at ev
 exact q o vs Xs z h T ((R.ow i o h).de T) hXs ev
theorem Hs(hv:nm.lookup nx=some i)(ho:bh nx=true)(hb:iJ G d nm sc b asts)(hn:asts.length<30)(hpos:(apos.endLine==pos.line)=true){p1:Pos}:av G d nm sc (.vM i b) (.Call (.Attribute (.Name nx p1) (aw 5) apos) asts [] pos):=
 fun C O x ρ pw M R k Q Er ev q=>DN (P:=fun o vs h=>fJ False (mw o 5 vs) (k · h)) hv ho hb hn hpos O M R ev fun o vs Xs y _ S H hXs ev=>(cB ev).elim fun r h=>qH O.rm h.1 H.o hXs (Gv.fin S h.2 q)
theorem spliced_nil{Q:List Value->Shared->Prop}(hq:Q [] s):WS G.m A (spliced []) Q Er s:=WN hq
theorem AL(W:Wd G)(ha:av G d nm sc a ea)(hp:Pl ea)(h1:tj sc "isinstance"=true)(h2:tj sc "str"=true)(g1:G.mg "isinstance"=none)(g2:G.mg "str"=none){p1 p2:Pos}:av G d nm sc (.isStr a) (.Call (.Name "isinstance" p1) [ea,.Name "str" p2] [] pos):=by
 intro C O x ρ pw M R k Q Er ev q
 have st:∀env,starEach [ea,.Name "str" p2] env=[(false,eval ea env),(false,eval (.Name "str" p2) env)]:=fun env=>by rw[hp.st];rfl
 rw[arm_eval_Call_Name']
 refine WJ (iv (X:=.builtin "isinstance") W O M h1 g1 (by decide+kernel) (by decide+kernel) ?_)
 refine aZ (fun _=>True) (by rw[st];rfl) iR ?_
 rw[st]
 refine Calls.spliced_cons (ha C O x ρ pw M R _ _ _ ev fun v X y S hX ev=>Calls.spliced_cons (iv (X:=.type "str") W O S.M h2 g2 (by decide+kernel) (by decide+kernel) (spliced_nil ⟨trivial,?_⟩)))
 cases v with
 |str l=>exact hX.nT (P:=fun X=>WS G.m C.A (call (.builtin "isinstance") [X,.type "str"]) Q Er y.s) fun S' t _=>IsiPair.str_str ((Gv.fin (r:=.bool true) S ev q).kp (.tk _ _) (.bool _))
 |tup l=>exact hX.jW (P:=fun X=>WS G.m C.A (call (.builtin "isinstance") [X,.type "str"]) Q Er y.s) fun l items n g _ _ _ _=>IsiPair.tuple_str g rfl ((Gv.fin (r:=.bool false) S ev q).kp (.tk _ _) (.bool _))
 |_=>exact ev.elim
theorem zv(W:Wd G)(ha:av G d nm sc a ea)(hp:Pl ea)(h1:tj sc "tuple"=true)(h2:tj sc "reversed"=true)(g1:G.mg "tuple"=none)(g2:G.mg "reversed"=none){p1 p2 p3:Pos}:
  av G d nm sc (.dK a) (.Call (.Name "tuple" p1) [.Call (.Name "reversed" p2) [ea] [] p3] [] pos):=by
 intro C O x ρ pw M R k Q Er ev q
 rw[arm_eval_Call_Name']
 refine WJ (iv (X:=.type "tuple") W O M h1 g1 (by decide+kernel) (by decide+kernel) ?_)
 refine aZ (fun _=>True) rfl pD ?_
 refine Calls.spliced_cons ?_
 rw[arm_eval_Call_Name']
 refine WJ (iv (X:=.type "reversed") W O M h2 g2 (by decide+kernel) (by decide+kernel) ?_)
 refine aZ (fun _=>True) (by rw[hp.st];rfl) pD ?_
 rw[hp.st]
 refine Calls.spliced_cons (ha C O x ρ pw M R _ _ _ ev fun v X y S hX ev=>spliced_nil ⟨trivial,?_⟩)
 cases v with
 |lst vs=>exact wpAny_mono (yT O.rm S.M hX (Gv.fin S ev q)) (fun X s' q=>spliced_nil ⟨trivial,q⟩) fun _ _ e=>e
 |_=>exact ev.elim
end
section
noncomputable def Kept(t:Addr->Prop)(x:Sx)(b:Addr):Prop:=x.F b->¬ Own x b/\t b
noncomputable abbrev FX:Addr->Prop:=fun _=>False
inductive IS(G:Gl)(t:Addr->Prop)(x:Sx):List V->Nat->Addr->Prop
 |tup {A I:Addr} {items:Array Value} {n i:Nat} {vs:List V}:x.g A=some (oTup items n)->Kept t x A->Vl G x vs items.toList->x.s.heap.IsTupleIter I A i->IS G t x vs i I
 |lst {A I:Addr} {items:Array Value} {n i:Nat} {vs:List V}:x.g A=some (dg items n)->Kept t x A->Vl G x vs items.toList->x.s.heap.IsListIter I A i->IS G t x vs i I
 |kE {lo hi:Int} {i:Nat} {I:Addr} {L:Int}:IsRangeIter x.s.heap I (lo+i) L 1->L=((hi-lo).toNat:Int)-i->IS G t x (vU lo hi) i I
 |Eu {lo hi:Int} {i:Nat} {I:Addr} {L:Int}:IsLongIter x.s.heap I (lo+i) L 1->L=((hi-lo).toNat:Int)-i->IS G t x (vU lo hi) i I
 |bL {A I:Addr} {es:List DictEntry} {n i:Nat} {vs:List V}:x.g A=some (bk es.toArray n)->Kept t x A->Vl G x vs (es.map DictEntry.key)->KI x.s.heap I A i es.length n->IS G t x vs i I
structure It(G:Gl)(t:Addr->Prop)(x:Sx)(vs:List V)(i:Nat)(I:Addr):Prop where
 f:x.F I
 n:¬ Own x I
 is:IS G t x vs i I
section
variable{G:Gl}{x y z x0:Sx}{s s':Shared}{u v r:V}{X:Value}{vs:List V}{Xs:List Value}{o:O}{A:Around}{Er:Value->Shared->Prop}{i n f m:Nat}{b I q:Addr}{Hp Hp':Heap}{fz:Addr->Prop}
theorem Kept.st{ob:Obj}(k:Kept fz x b)(S:Step G x y)(e:x.g b=some ob):y.g b=some ob/\Kept fz y b:=by
 by_cases f:x.F b
 ·exact⟨(S.ot _ _ e f (k f).1).1,fun _=>⟨(S.ot _ _ e f (k f).1).2.2,(k f).2⟩⟩
 ·exact⟨(S.fr _ _ e f).1,fun g=>absurd g (S.fr _ _ e f).2⟩
theorem KI.at{I dA:Addr}{i n ep:Nat}(x:KI Hp I dA i n ep)(e:∀o,Hp.get? I=some o->Hp'.get? I=some o):KI Hp' I dA i n ep:=x.imp fun o t=>⟨e _ t.1,t.2⟩
theorem rP{I t:Addr}{i:Nat}(x:Hp.IsTupleIter I t i)(e:∀o,Hp.get? I=some o->Hp'.get? I=some o):Hp'.IsTupleIter I t i:=x.imp fun o t=>⟨e _ t.1,t.2⟩
theorem It.st(h:It G fz x vs i I)(M:bF G x)(S:Step G x y):It G fz y vs i I:=by
 have e:∀o,x.g I=some o->y.g I=some o:=fun o e=>(S.ot _ _ e h.f h.n).1
 have fn:=(M.qc I h.f).elim fun o e=>(S.ot _ _ e h.f h.n).2
 refine⟨fn.1,fn.2,?_⟩
 cases h.is with
 |tup g k l t=>exact .tup (k.st S g).1 (k.st S g).2 (S.vl l) (rP t e)
 |lst g k l t=>exact .lst (k.st S g).1 (k.st S g).2 (S.vl l) (t.at e)
 |kE t h=>exact .kE (e _ t) h
 |Eu t h=>exact .Eu (e _ t) h
 |bL g k l t=>exact .bL (k.st S g).1 (k.st S g).2 (S.vl l) (t.at e)
structure wj(x:Sx)(q:Addr)(s':Shared):Prop where
 hs:Heap.ExtBut q x.s.heap s'.heap
 sm:iL x.s s'
 al:∃o,s'.heap.get? q=some o
theorem wj.vl(c:wj x q s')(f:x.F q)(h:Vl G x vs Xs):cY G x.β x.F s'.heap vs Xs:=cY.mono (bO f c.hs) (fun _ _ e=>e) h
theorem wj.vr(c:wj x q s')(f:x.F q)(h:Vr G x v X):VR G x.β x.F s'.heap v X:=VR.mono (bO f c.hs) (fun _ _ e=>e) h
theorem lQ{lo hi:Int}:(vU lo hi)[i]? =if i<(hi-lo).toNat then some (.int (lo+i)) else none:=by
 unfold vU
 rw[Xj]
 by_cases h:i<(hi-lo).toNat
 ·rw[if_pos h,Zt h];rfl
 ·rw[if_neg h,XD (by rw[Xb];exact Yu.mp h)];rfl
theorem uB{lo hi:Int}{L:Int}(e:L=((hi-lo).toNat:Int)-i):(i<(hi-lo).toNat->0<L/\L-1=((hi-lo).toNat:Int)-((i+1:Nat):Int))/\(¬ i<(hi-lo).toNat->L<=0):=by omega
theorem Ho{Q:Option Value->Shared->Prop}(hh:A.handled=none)(h:It G fz x vs i I)
  (q1:∀v X s',vs[i]? =some v->wj x I s'->VR G x.β x.F s'.heap v X->IS G fz { x with s:=s'} vs (i+1) I->Q (some X) s')
  (q2:∀s',vs[i]? =none->Heap.ExtBut I x.s.heap s'.heap->iL x.s s'->Q none s'):WS G.m A (pyNext (.ref I)) Q Er x.s:=by
 obtain⟨f,n,is⟩:=h
 cases is with
 |tup g k l t=>
  cases hi:vs[i]? with
  |some v=>
   obtain⟨X,hx,hv⟩:=l.get hi
   exact wpAny_pyNext_tuple_item t ⟨_,g,rfl,_,rfl⟩ (XZ▸hx) fun Hp' t' hs=>have c:wj x I { x.s with heap:=Hp'}:=⟨hs.extBut,⟨_,_,rfl⟩,t'.imp fun o t=>t.1⟩
    q1 v X _ hi c (c.vr f hv) (.tup (hs.extBut _ _ (fun z=>t.elim fun o ho=>by cases (ho.1.symm.trans (z▸g));cases ho.2.2) g) k (c.vl f l) t')
  |none=>exact wpAny_pyNext_tuple_end hh t ⟨_,g,rfl,_,rfl⟩ (by rw[<-XZ,XR, <-l.len];exact XR.mp hi) fun Hp' hs=>q2 _ hi hs ⟨_,_,rfl⟩
 |lst g k l t=>
  cases hi:vs[i]? with
  |some v=>
   obtain⟨X,hx,hv⟩:=l.get hi
   exact wpAny_pyNext_list_item t ⟨_,g,rfl,_,rfl⟩ (XZ▸hx) fun Hp' t' hs=>have c:wj x I { x.s with heap:=Hp'}:=⟨hs.extBut,⟨_,_,rfl⟩,t'.imp fun o t=>t.1⟩
    q1 v X _ hi c (c.vr f hv) (.lst (hs.extBut _ _ (fun z=>t.elim fun o ho=>by cases (ho.1.symm.trans (z▸g));cases ho.2.2) g) k (c.vl f l) t')
  |none=>exact wpAny_pyNext_list_end hh t ⟨_,g,rfl,_,rfl⟩ (by rw[<-XZ,XR, <-l.len];exact XR.mp hi) fun Hp' hs=>q2 _ hi hs ⟨_,_,rfl⟩
 |@kE lo hi _ _ L t e=>
  have rs:=uB e
  by_cases hl:i<(hi-lo).toNat
  ·refine wpAny_pyNext_range_item t (rs.1 hl).1 fun Hp' t' hs=>q1 _ _ { x.s with heap:=Hp',toks:=x.s.toks+1} (lQ.trans (if_pos hl)) ⟨hs.extBut,⟨_,_,rfl⟩,⟨_,t'⟩⟩ (.int _ _) (.kE (L:=L-1) ?_ (rs.1 hl).2)
   rw[show lo+(i:Int)+1=lo+((i+1:Nat):Int) from aaU _ _ _]at t'
   exact t'
  ·exact wpAny_pyNext_range_end hh t (rs.2 hl) fun Hp' hs=>q2 _ (lQ.trans (if_neg hl)) hs ⟨_,_,rfl⟩
 |@Eu lo hi _ _ L t e=>
  have rs:=uB e
  by_cases hl:i<(hi-lo).toNat
  ·refine wpAny_pyNext_long_item t (rs.1 hl).1 fun Hp' t' hs=>q1 _ _ { x.s with heap:=Hp',toks:=x.s.toks+1} (lQ.trans (if_pos hl)) ⟨hs.extBut,⟨_,_,rfl⟩,⟨_,t'⟩⟩ (.int _ _) (.Eu (L:=L-1) ?_ (rs.1 hl).2)
   rw[show lo+(i:Int)+1=lo+((i+1:Nat):Int) from aaU _ _ _]at t'
   exact t'
  ·exact wpAny_pyNext_long_end hh t (rs.2 hl) fun Hp' hs=>q2 _ (lQ.trans (if_neg hl)) hs ⟨_,_,rfl⟩
 |@bL D _ es m _ _ g k l t=>
  have hl:vs.length=es.length:=by rw[l.len,WK]
  refine Bb (es:=es.toArray) hh t g (fun e Hp' q t' hs=>?_) fun Hp' q hs=>q2 _ (XD (hl▸YV.mp q)) hs ⟨_,_,rfl⟩
  rw[YA]at q
  have lt:=(WL.mp q).1
  obtain⟨X,hx,hv⟩:=l.get (i:=i) (WR (hl.symm▸lt))
  rw[Xj,q]at hx
  cases hx
  have c:wj x I { x.s with heap:=Hp'}:=⟨hs.extBut,⟨_,_,rfl⟩,t'.imp fun o t=>t.1⟩
  exact q1 _ _ _ (WR (hl.symm▸lt)) c (c.vr f hv) (.bL (hs.extBut _ _ (fun z=>t.elim fun o ho=>by cases (ho.1.symm.trans (z▸g));cases ho.2.2) g) k (c.vl f l) t')
theorem Step.drop(S:Step G x0 x)(n0:x0.g q=.none)(f:x.F q)(n:¬ Own x q)(hs:Heap.ExtBut q x.s.heap s'.heap)(sm:iL x.s s'):Step G x0 { x.rl (q,q) with s:=s'}:=by
 have ne:∀{b o},x0.g b=some o->b≠q:=fun e z=>sn (z▸e) n0
 have fr:pW x.F x.s.heap (x.rl (q,q)).F s'.heap:=fun b o e m=>⟨hs b o (fun z=>m (z▸f)) e,fun z=>m z.1⟩
 have M:=S.M
 exact⟨⟨M.len,fun b fb=>(M.qc b fb.1).imp fun u g=>hs b u fb.2.1 g,M.sep,fun a u r e g=>have h:=M.obj a u r e g
   have n1:r.1≠q:=fun z=>n ⟨a,u,r,e,g,.inl z.symm⟩
   have n2:r.2≠q:=fun z=>n ⟨a,u,r,e,g,.inr z.symm⟩
   ⟨OR.mono fr (fun _ _ e=>e) (fun u e=>hs _ u n1 e) (fun u e=>hs _ u n2 e) h.1,⟨h.2.1,n1,n1⟩,h.2.2,n2,n2⟩,fun b u g=>fr b u (M.base b u g).1 (M.base b u g).2⟩,
  S.pre,fun b o e m=>⟨hs b o (ne e) (S.fr b o e m).1,fun z=>(S.fr b o e m).2 z.1⟩,fun b o e g m=>have h:=S.ot b o e g m
   ⟨hs b o (ne e) h.1,⟨h.2.1,ne e,ne e⟩,h.2.2⟩,S.sm.trans sm,fun b o e=>(S.al b o e).imp fun u g=>hs b u (ne e) g⟩
end
end
section
variable{G:Gl}{x y z:Sx}{s:Shared}{v w:V}{X:Value}{vs us:List V}{p:BA}{A:Around}{Er:Value->Shared->Prop}{n f m:Nat}{b I q:Addr}{Q:Value->Shared->Prop}{fz:Addr->Prop}
theorem pN{ob:Obj}{tk:Nat}(M:bF G x)(fr:ob.isFreed=false)(q:∀y I,Step G x y->x.g I=none->y.h=x.h->It G fz y vs 0 I->Q (.ref I) y.s)
  (is:∀y,Step G x y->y.g x.s.heap.objs.size=some ob->y.s.heap=x.s.heap.push ob->IS G fz y vs 0 x.s.heap.objs.size):Q (.ref x.s.heap.objs.size) { x.s with heap:=x.s.heap.push ob,toks:=tk}:=by
 have n:=ax x.s.heap
 have g:(x.s.heap.push ob).get? x.s.heap.objs.size=some ob:=Heap.get?_push_size _ fr
 have S:=Step.ad (p:=(x.s.heap.objs.size,x.s.heap.objs.size)) M (.push x.s ob tk) n n ⟨_,g⟩ ⟨_,g⟩
 exact q { x.ad (x.s.heap.objs.size,x.s.heap.objs.size) with s:={ x.s with heap:=x.s.heap.push ob,toks:=tk}} _ S n rfl ⟨.inr (.inl rfl),fun w=>fK M n w,is _ S g rfl⟩
theorem kN(n:¬ x.F b):Kept fz x b:=fun f=>absurd f n
theorem Ir{l:Addr}{items:Array Value}(M:bF G x)(g:x.g l=some (dg items n))(k:Kept fz x l)(h:Vl G x vs items.toList)(q:∀y I,Step G x y->x.g I=none->y.h=x.h->It G fz y vs 0 I->Q (.ref I) y.s):WS G.m A (pyIter (.ref l)) Q Er x.s:=
 wpAny_pyIter_list ⟨_,g,rfl,_,rfl⟩ (pN (tk:=x.s.toks) M rfl q fun y S t _=>.lst (k.st S g).1 (k.st S g).2 (S.vl h) ⟨_,t,rfl,rfl⟩)
theorem pC(a b:Int):Builtin.Range.rangeSize a b 1=((b-a).toNat:Int)-((0:Nat):Int):=by
 unfold Builtin.Range.rangeSize
 rw[if_pos (by decide)]
 by_cases h:a<b
 ·rw[if_pos h,ZS (ZV (Int.sub_pos.mpr h))]
  rw[Int.ediv_one];exact(ZX _ _).trans (aa9 _).symm
 ·rw[if_neg h,Int.toNat_of_nonpos (Int.sub_nonpos_of_le (YU.mp h))];rfl
theorem rA(W:Wd G)(M:bF G x)(e:bZ v=some vs)(hv:Vr G x v X)(q:∀y I,Step G x y->x.g I=none->y.h=x.h->It G fz y vs 0 I->Q (.ref I) y.s):WS G.m A (pyIter X) Q Er x.s:=by
 cases v with
 |tup us=>
  cases e
  exact hv.jW fun l items n g no _ z h=>wpAny_pyIter_tuple ⟨_,g,rfl,_,rfl⟩ (pN (tk:=x.s.toks) M rfl q fun y S t _=>.tup ((kN (fz:=fz) no).st S g).1 ((kN (fz:=fz) no).st S g).2 (S.vl h) ⟨_,t,rfl,rfl⟩)
 |lst us=>
  cases e
  exact hv.hH fun l items n g no _ z h=>Ir M g (kN no) h q
 |kE lo hi=>
  cases e
  cases hv with
  |kE g no=>
   have z:lo+((0:Nat):Int)=lo:=Int.add_zero _
   cases hs:Builtin.Range.small lo hi 1 with
   |true=>exact wpAny_pyIter_range g hs (pN (tk:=x.s.toks) M rfl q fun y S t h=>.kE (by rw[z];exact t) (pC lo hi))
   |false=>exact wpAny_pyIter_longrange g hs (pN M rfl q fun y S t h=>.Eu (by rw[z];exact t) (pC lo hi))
 |bL ks us=>
  cases e
  exact hv.Ff fun l es D no=>Ia D.m D.g (pN (tk:=x.s.toks) M rfl q fun y S t _=>.bL ((kN (fz:=fz) no).st S D.g).1 ((kN (fz:=fz) no).st S D.g).2 (S.vl D.k) ⟨_,t,rfl,rfl⟩)
 |_=>exact sn e rfl
end
section
structure Fr(G:Gl)(nm:eD)(C:Fm)(x:Sx)(ρ:Env)(pw:Nat->BA):Prop where
 R:ER G nm C.env x ρ pw
 W:Wt G C x ρ pw
section
variable{G:Gl}{d:Nat}{nm:eD}{sc:gm}{x y z x0:Sx}{s s':Shared}{u v:V}{V':Value}{o o':O}{p:BA}{A:Around}{Er:Value->Shared->Prop}{i j m:Nat}{C:Fm}{env:PySem.Env}{ρ:Env}{pw:Nat->BA}{b q:Addr}{n:Str}{sl:Sl}
theorem Fr.M(F:Fr G nm C x ρ pw):bF G x:=F.W.st.M
theorem Fr.de(F:Fr G nm C x ρ pw)(S:Step G x y):Fr G nm C y ρ pw:=
 ⟨F.R.de F.M S,F.W.st.trans S,F.W.up.to S.pre S.fr,F.W.n0,F.W.p0,F.W.ap,fun b o e=>have h:=F.W.pr b o e;have k:=S.ot b o h.1.1 h.1.2.1 h.1.2.2.1;⟨⟨k.1,k.2.1,k.2.2,h.1.2.2.2⟩,h.2⟩,F.W.sf⟩
theorem tT{α:Type}{f:Nat->α}:upd f i (f i)=f:=funext fun j=>by
 unfold upd
 cases h:Nat.beq j i with
 |true=>rw[Ym h]
 |false=>rfl
theorem sZ(h:gt (st ρ i sl) j=.o o):(j=i/\sl=.o o)\/(j≠i/\gt ρ j=.o o):=by
 by_cases e:j=i
 ·subst e
  rcases lA (ρ:=ρ) (i:=j) (sl:=sl) with z|z
  ·exact .inl ⟨rfl,z.symm.trans h⟩
  ·rw[z]at h;cases h
 ·exact .inr ⟨e,(eY e).symm.trans h⟩
structure QZ(G:Gl)(C:Fm)(x:Sx)(ρ:Env)(pw:Nat->BA)(i:Nat)(p:BA):Prop where
 z1:C.x0.g p.1=none
 z2:C.x0.g p.2=none
 ap:∀j u,j≠i->gt ρ j=.o u->Ap p (pw j)
 pr:∀b ob,C.pr b=some ob->b≠p.1/\b≠p.2
theorem Ap.symm{p q:BA}(h:Ap p q):Ap q p:=⟨h.1.symm,h.2.2.1.symm,h.2.1.symm,h.2.2.2.symm⟩
theorem Fr.MP{Q:Unit->Shared->Prop}(O:bJ d nm sc C)(F:Fr G nm C x ρ pw)(hn:nm.lookup n=some i)(h1:Dr G x sl (some V') p)(h2:∀o,sl=.o o->Hn G C.env x o p/\QZ G C x ρ pw i p)(h3:i≠0\/p=pw i)
  (hq:∀y,y.h=x.h->(∀v V,Vr G x v V->Vr G y v V)->Fr G nm C y (st ρ i sl) (upd pw i p)->Q () y.s):WS G.m A (storeName C.env n V') Q Er x.s:=
 uY O F.R hn h1 (fun o e=>(h2 o e).1) fun s' q _ ne hs al sm R=>hq { x with s:=s'} rfl (fun v V h=>VR.mono (bO (F.R.ne q ne).1 hs) (fun _ _ e=>e) h) ⟨R,by
  have f:=F.R.ne q ne
  refine⟨F.W.st.but (F.W.n0 q ne) f.1 f.2 hs al sm,F.W.up.fix (bO f.1 hs),F.W.n0,fun j u h=>?_,fun j k u u' hj hk ne'=>?_,fun b ob e=>?_,fun q e=>h3.elim (fun ne=>(gU ne.symm).trans (F.W.sf q e)) fun e'=>by rw[e',tT];exact F.W.sf q e⟩
  ·rcases sZ h with ⟨rfl,e⟩|⟨ne,e⟩
   ·rw[iT];exact⟨(h2 u e).2.z1,(h2 u e).2.z2⟩
   ·rw[gU ne];exact F.W.p0 j u e
  ·rcases sZ hj with ⟨rfl,e⟩|⟨n1,e⟩<;>rcases sZ hk with ⟨rfl,e'⟩|⟨n2,e'⟩
   ·exact absurd rfl ne'
   ·rw[iT,gU n2];exact(h2 u e).2.ap k u' n2 e'
   ·rw[iT,gU n1];exact((h2 u' e').2.ap j u n1 e).symm
   ·rw[gU n1,gU n2];exact F.W.ap j k u u' e e' ne'
  ·have h:=F.W.pr b ob e
   refine⟨⟨hs b ob (fun z=>h.1.2.2.2 (z▸ne)) h.1.1,h.1.2⟩,fun j u hj=>?_⟩
   rcases sZ hj with ⟨rfl,e'⟩|⟨n1,e'⟩
   ·rw[iT];exact(h2 u e').2.pr b ob e
   ·rw[gU n1];exact h.2 j u e'⟩
theorem Fr.put(F:Fr G nm C x ρ pw)(h:gt ρ i=.o o)(hq:q=(pw i).1\/q=(pw i).2)(hs:Heap.ExtBut q x.s.heap s'.heap)(sm:iL x.s s')(hO:∀F',pW x.F x.s.heap F' s'.heap->OR G x.β F' s'.heap o' (pw i)):
  Fr G nm C { x with s:=s'} (st ρ i (.o o')) pw:=by
 have H:=F.R.ow i o h
 have f:x.F q:=by rcases hq with e|e<;>rw[e];exact H.h.f1;exact H.h.f2
 have n:¬ Own x q:=by rcases hq with e|e<;>rw[e];exact H.h.n1;exact H.h.n2
 have nN:¬ NE C.env q:=by rcases hq with e|e<;>rw[e];exact H.e1;exact H.e2
 have z0:C.x0.g q=.none:=by rcases hq with e|e<;>rw[e];exact(F.W.p0 i o h).1;exact(F.W.p0 i o h).2
 have fr:=bO f hs
 have O':=hO _ fr
 have al:∃o,s'.heap.get? q=some o:=by rcases hq with e|e<;>rw[e];exact O'.al.1;exact O'.al.2
 have vr:∀v V,Vr G x v V->Vr G { x with s:=s'} v V:=fun v V h=>VR.mono fr (fun _ _ e=>e) h
 have tr:∀{j u},gt (st ρ i (.o o')) j=.o u->(j=i/\o'=u)\/(j≠i/\gt ρ j=.o u):=fun h=>(sZ h).imp (fun t=>⟨t.1,by cases t.2;rfl⟩) id
 have ex:∀{j u},gt (st ρ i (.o o')) j=.o u->∃u,gt ρ j=.o u:=fun{j u} e=>(tr e).elim (fun t=>⟨o,t.1▸h⟩) fun t=>⟨u,t.2⟩
 refine⟨⟨fun n' j e=>?_,F.R.ne,fun j u e=>?_⟩,F.W.st.but z0 f n hs al sm,F.W.up.fix fr,F.W.n0,fun j u e=>(ex e).elim fun u e=>F.W.p0 j u e,fun j k u u' e e' ne=>(ex e).elim fun u e=>(ex e').elim fun u' e'=>F.W.ap j k u u' e e' ne,fun b ob e=>?_,F.W.sf⟩
 ·refine(F.R.nm n' j e).imp fun ov t=>⟨t.1.at fun b e o g=>hs b o (fun z=>nN (z▸e)) g,?_⟩
  by_cases q':j=i
  ·subst q'
   have t2:=t.2
   rw[h]at t2
   rcases lA (ρ:=ρ) (i:=j) (sl:=.o o') with z|z
   ·rw[z];exact t2
   ·rw[z];trivial
  ·rw[eY q'];exact t.2.mono vr
 ·rcases tr e with ⟨rfl,rfl⟩|⟨ne,e⟩
  ·exact⟨O',⟨H.h.f1,H.h.f2,H.h.n1,H.h.n2⟩,H.e1,H.e2⟩
  ·have K:=F.R.ow j u e
   have ap:=F.W.ap j i u o e h ne
   have n1:(pw j).1≠q:=by rcases hq with z|z<;>rw[z];exact ap.1;exact ap.2.1
   have n2:(pw j).2≠q:=by rcases hq with z|z<;>rw[z];exact ap.2.2.1;exact ap.2.2.2
   exact⟨OR.mono fr (fun _ _ e=>e) (fun u g=>hs _ u n1 g) (fun u g=>hs _ u n2 g) K.o,⟨K.h.f1,K.h.f2,K.h.n1,K.h.n2⟩,K.e1,K.e2⟩
 ·have t:=F.W.pr b ob e
  have bq:b≠q:=by rcases hq with z|z<;>rw[z];exact(t.2 i o h).1;exact(t.2 i o h).2
  exact⟨⟨hs b ob bq t.1.1,t.1.2⟩,fun j u e=>(ex e).elim fun u e=>t.2 j u e⟩
theorem Fr.fz(F:Fr G nm C x ρ pw)(h:gt ρ i=.o o):Fr G nm C (x.rl (pw i)) (st ρ i (.v o.v)) pw:=by
 have H:=F.R.ow i o h
 have z:=F.W.p0 i o h
 have S:=F.W.st.rl z.1 z.2 H.h.n1 H.h.n2
 have vr:∀v V,Vr G x v V->Vr G (x.rl (pw i)) v V:=fun v V h=>VR.mono kh (fun _ _ e=>e) h
 have tr:∀{j u},gt (st ρ i (.v o.v)) j=.o u->j≠i/\gt ρ j=.o u:=fun h=>(sZ h).elim (fun t=>Sl.noConfusion t.2) id
 refine⟨⟨fun n' j e=>?_,fun b e=>⟨⟨(F.R.ne b e).1,fun z=>H.e1 (z▸e),fun z=>H.e2 (z▸e)⟩,(F.R.ne b e).2⟩,fun j u e=>?_⟩,S,F.W.up.fix kh,F.W.n0,fun j u e=>F.W.p0 j u (tr e).2,fun j k u u' e e' ne=>F.W.ap j k u u' (tr e).2 (tr e').2 ne,fun b ob e=>?_,F.W.sf⟩
 ·refine(F.R.nm n' j e).imp fun ov t=>⟨t.1,?_⟩
  by_cases q':j=i
  ·subst q'
   have t2:=t.2
   rw[h]at t2
   rcases lA (ρ:=ρ) (i:=j) (sl:=.v o.v) with z|z
   ·rw[z];exact⟨_,t2,OR.vr (xb H.o) (fun z=>z.2.1 rfl) fun z=>z.2.2 rfl⟩
   ·rw[z];trivial
  ·rw[eY q'];exact t.2.mono vr
 ·have K:=F.R.ow j u (tr e).2
  have ap:=F.W.ap j i u o (tr e).2 h (tr e).1
  exact⟨OR.mono kh (fun _ _ e=>e) (fun _ e=>e) (fun _ e=>e) K.o,⟨⟨K.h.f1,ap.1,ap.2.1⟩,⟨K.h.f2,ap.2.2.1,ap.2.2.2⟩,K.h.n1,K.h.n2⟩,K.e1,K.e2⟩
 ·have t:=F.W.pr b ob e
  exact⟨⟨t.1.1,⟨t.1.2.1,t.2 i o h⟩,t.1.2.2⟩,fun j u e=>t.2 j u (tr e).2⟩
end
end
section
section
variable(G:Gl)(d:Nat)(nm:eD)(sc:gm)
noncomputable def aF(b:S)(m:PySem.Env->Sem Flow):Prop:=∀C,bJ d nm sc C->∀x ρ pw,Fr G nm C x ρ pw->∀(kn kc:Env->H->Prop)(kr:V->Env->H->Prop)(Q:Flow->Shared->Prop)(Er:Value->Shared->Prop),ex mp (mP d) b ρ x.h kn kc kr->
 (∀y ρ pw,Fr G nm C y ρ pw->kn ρ y.h->Q .next y.s)->(∀y ρ pw,Fr G nm C y ρ pw->kc ρ y.h->Q .cont y.s)->(∀v X y ρ pw,Fr G nm C y ρ pw->Vr G y v X->kr v ρ y.h->Q (.ret X) y.s)->WS G.m C.A (m C.env) Q Er x.s
noncomputable def wc(b:S):Prop:=∀C,bJ d nm sc C->∀x ρ pw,Fr G nm C x ρ pw->∀(kn kc:Env->H->Prop)(kr:V->Env->H->Prop),ex mp (mP d) b ρ x.h kn kc kr->∃y ρ' pw',Fr G nm C y ρ' pw'/\y.s=x.s/\kn ρ' y.h
end
section
variable{G:Gl}{d:Nat}{nm:eD}{sc:gm}{x y:Sx}{s:Shared}{v r:V}{X:Value}{o:O}{A:Around}{Er:Value->Shared->Prop}{i:Nat}{C:Fm}{env:PySem.Env}{ρ ρ':Env}{pw:Nat->BA}{sl:Sl}
 {e a c ie:E}{ea eb ec ast:Expr}{s1 s2:S}{st:Stmt}{ss ts:List Stmt}{pos pos':Pos}{m:PySem.Env->Sem Flow}{kn kc:Env->H->Prop}{kr:V->Env->H->Prop}
theorem Lx:aF G d nm sc .skip (execs []):=fun C O x ρ pw F kn kc kr Q Er ev q1 q2 q3=>wpAny_execs_nil (q1 x ρ pw F ev)
theorem GZ:aF G d nm sc .skip (execs [.Pass pos]):=fun C O x ρ pw F kn kc kr Q Er ev q1 q2 q3=>by
 rw[arm_execs_cons,arm_exec_Pass];exact WJ (WJ (Xu (WN (wpAny_execs_nil (q1 x ρ pw F ev)))))
theorem JV(h1:aF G d nm sc s1 (exec st))(h2:aF G d nm sc s2 (execs ss)):aF G d nm sc (.seq s1 s2) (execs (st::ss)):=fun C O x ρ pw F kn kc kr Q Er ev q1 q2 q3=>by
 rw[arm_execs_cons]
 exact WJ (h1 C O x ρ pw F _ _ _ _ _ ev (fun y ρ pw F ev=>h2 C O y ρ pw F _ _ _ _ _ ev q1 q2 q3) (fun y ρ pw F ev=>WN (q2 y ρ pw F ev)) fun v X y ρ pw F hX ev=>WN (q3 v X y ρ pw F hX ev))
theorem Lu(h1:aF G d nm sc s1 (exec st)):aF G d nm sc s1 (execs [st]):=fun C O x ρ pw F kn kc kr Q Er ev q1 q2 q3=>by
 rw[arm_execs_cons]
 exact WJ (h1 C O x ρ pw F _ _ _ _ _ ev (fun y ρ pw F ev=>wpAny_execs_nil (q1 y ρ pw F ev)) (fun y ρ pw F ev=>WN (q2 y ρ pw F ev)) fun v X y ρ pw F hX ev=>WN (q3 v X y ρ pw F hX ev))
theorem OS(h1:wc G d nm sc s1)(h2:aF G d nm sc s2 m):aF G d nm sc (.seq s1 s2) m:=fun C O x ρ pw F kn kc kr Q Er ev q1 q2 q3=>by
 obtain⟨y,ρ',pw',F',e,ev⟩:=h1 C O x ρ pw F _ _ _ ev
 rw[<-e];exact h2 C O y ρ' pw' F' _ _ _ _ _ ev q1 q2 q3
theorem KU(h1:wc G d nm sc s1):aF G d nm sc s1 (execs []):=fun C O x ρ pw F kn kc kr Q Er ev q1 q2 q3=>by
 obtain⟨y,ρ',pw',F',e,ev⟩:=h1 C O x ρ pw F _ _ _ ev
 rw[<-e];exact wpAny_execs_nil (q1 y ρ' pw' F' ev)
theorem Jj{sl:Sl}{k:O->Prop}(h:(match sl with|.o o=>k o|_=>False)):∃o,sl=.o o/\k o:=dZ h
theorem NG:wc G d nm sc (.fz i):=fun C O x ρ pw F kn kc kr ev=>by
 obtain⟨o,h,ev⟩:=Jj (k:=fun o=>kn (Mine.st ρ i (.v o.v)) x.h) ev
 exact⟨x.rl (pw i),_,pw,F.fz h,rfl,ev⟩
theorem wq{v:V}{h:H}{k:V×H->Prop}(ev:(match bP 8 v h with|some r=>k r|none=>False)):∃r,bP 8 v h=some r/\k r:=by
 revert ev
 cases bP 8 v h with
 |none=>exact fun h=>h.elim
 |some r=>exact fun h=>⟨r,rfl,h⟩
theorem Jo(he:av G d nm sc e ea):aF G d nm sc (.ret e) (exec (.Return (some ea) pos)):=fun C O x ρ pw F kn kc kr Q Er ev q1 q2 q3=>
 wpAny_Return_some (he C O x ρ pw F.M F.R _ _ _ ev fun v X y S hX ev=>q3 v X y ρ pw (F.de S) hX ev)
theorem HY:aF G d nm sc .cont (exec (.Continue pos)):=fun C O x ρ pw F kn kc kr Q Er ev q1 q2 q3=>by
 rw[arm_exec_Continue]
 exact WJ (Xu (WN (q2 x ρ pw F ev)))
theorem xR:aF G d nm sc .stop m:=fun C O x ρ pw F kn kc kr Q Er ev q1 q2 q3=>(show False from ev).elim
theorem LB(hc:dG G d nm sc c ec)(h1:aF G d nm sc s1 (execs ss))(h2:aF G d nm sc s2 (execs ts)):aF G d nm sc (.ite c s1 s2) (exec (.If ec ss ts pos)):=fun C O x ρ pw F kn kc kr Q Er ev q1 q2 q3=>
 wpAny_If (hc C O x ρ pw F.M F.R (fun h=>ex mp (mP d) s1 ρ h kn kc kr) (fun h=>ex mp (mP d) s2 ρ h kn kc kr) _ _ ev (fun y S ev=>by
  rw[if_pos rfl];exact h1 C O y ρ pw (F.de S) _ _ _ _ _ ev q1 q2 q3) fun y S ev=>by
  rw[if_neg Bool.false_ne_true];exact h2 C O y ρ pw (F.de S) _ _ _ _ _ ev q1 q2 q3)
noncomputable def oO(v:Expr):Prop:=∀env t l,swapsWith v t l env=pure false
theorem Pg(he:av G d nm sc e ea)(hs:oO ea):aF G d nm sc (.ex e) (exec (.Expr ea pos)):=fun C O x ρ pw F kn kc kr Q Er ev q1 q2 q3=>
 wpAny_Expr_any (he C O x ρ pw F.M F.R _ _ _ ev fun v X y S hX ev=>q1 y ρ pw (F.de S) ev) (by unfold interactive;rw[O.kind];rfl) (hs _ _ _)
theorem il{t:Expr}{Q:Flow->Shared->Prop}(hs:swapsWith ea (some t) pos.line env=pure false)(ht:swappedStores [t] ea env=pure none)(h:WS G.m A (eval ea env) (fun X s=>WS G.m A (assign t env X) (fun _ s=>Q .next s) Er s) Er s)(he:(assignEach [t] env).map (·.2)=[assign t env]):WS G.m A (exec (.Assign [t] ea pos) env) Q Er s:=by
 rw[arm_exec_Assign]
 refine WJ (Xu ?_)
 show WS _ _ (swapsWith ea (some t) pos.line env>>=_) _ _ _
 rw[hs]
 refine WJ (WN (WJ (wpAny_mono h (fun X s h=>?_) fun _ _ e=>e)))
 rw[ht]
 refine WJ (WN ?_)
 rw[he]
 show WS _ _ (do assign t env X;pure Flow.next) _ _ _
 exact WJ (wpAny_mono h (fun _ _ h=>WN h) fun _ _ e=>e)
end
end
section
variable{G:Gl}{d:Nat}{nm:eD}{sc:gm}{x y z:Sx}{s s':Shared}{u v w:V}{X Y:Value}{vs:List V}{o o':O}{p:BA}{A:Around}{Er:Value->Shared->Prop}{i j f m:Nat}{C:Fm}{env:PySem.Env}{ρ:Env}{pw:Nat->BA}{b q:Addr}{n:Str}{sl:Sl}
 {e a c ie oe:E}{ea eb ec ei ast:Expr}{asts:List Expr}{s1 s2:S}{st:Stmt}{ss ts:List Stmt}{pos pos' apos:Pos}{kn kc:Env->H->Prop}{kr:V->Env->H->Prop}
theorem Fr.GH{Q:Unit->Shared->Prop}(O:bJ d nm sc C)(F:Fr G nm C x ρ pw)(hn:nm.lookup n=some i)(hX:Vr G x v X){p1:Pos}(ev:kn (Mine.st ρ i (.v v)) x.h)(q1:∀y ρ pw,Fr G nm C y ρ pw->kn ρ y.h->Q () y.s):WS G.m C.A (assign (.Name n p1) C.env X) Q Er x.s:=
 wpAny_assign_Name (F.MP O hn (sl:=.v v) (p:=pw i) ⟨X,rfl,hX⟩ (fun o e=>Sl.noConfusion e) (.inr rfl) fun y eh _ F'=>q1 y _ _ F' (by rw[eh];exact ev))
theorem LZ{p1:Pos}(he:av G d nm sc e ea)(hs:oO ea)(hn:nm.lookup n=some i):aF G d nm sc (.asg i e) (exec (.Assign [.Name n p1] ea pos)):=fun C O x ρ pw F kn kc kr Q Er ev q1 q2 q3=>
 il (hs _ _ _) rfl (he C O x ρ pw F.M F.R _ _ _ ev fun v X y S hX ev=>(F.de S).GH O hn hX ev q1) rfl
theorem qZ{P:O->Prop}(h:(match own v with|some o=>P o|none=>False)):∃o,v=o.v/\own v=some o/\P o:=by
 cases v with
 |lst vs=>exact⟨_,rfl,rfl,h⟩
 |bL ks vs=>exact⟨_,rfl,rfl,h⟩
 |_=>exact h.elim
theorem Jf(h:own o.v=some o'):o'=o:=by cases o<;>cases h<;>rfl
theorem Fr.new(F:Fr G nm C x ρ pw)(n1:x.g p.1=.none)(n2:x.g p.2=.none):QZ G C x ρ pw i p/\¬ NE C.env p.1/\¬ NE C.env p.2:=
 ⟨⟨F.W.st.none n1,F.W.st.none n2,fun j u _ h=>have a:=(F.R.ow j u h).o.al
  ⟨fun z=>a.1.elim fun _ e=>sn e (z▸n1),fun z=>a.2.elim fun _ e=>sn e (z▸n1),fun z=>a.1.elim fun _ e=>sn e (z▸n2),fun z=>a.2.elim fun _ e=>sn e (z▸n2)⟩,
  fun b ob e=>have t:=(F.W.pr b ob e).1.1;⟨fun z=>sn t (z▸n1),fun z=>sn t (z▸n2)⟩⟩,
  fun z=>(F.M.qc _ (F.R.ne _ z).1).elim fun _ e=>sn e n1,fun z=>(F.M.qc _ (F.R.ne _ z).1).elim fun _ e=>sn e n2⟩
theorem Fr.Iv{Q:Unit->Shared->Prop}(O:bJ d nm sc C)(F:Fr G nm C y ρ pw)(hn:nm.lookup n=some i)(Op:Or G y o p)(H:Hd y p)(N:QZ G C x ρ pw i p)(e1:¬ NE C.env p.1)(e2:¬ NE C.env p.2)(ne:i≠0){p1:Pos}(ev:kn (Mine.st ρ i (.o o)) y.h)
  (q1:∀y ρ pw,Fr G nm C y ρ pw->kn ρ y.h->Q () y.s):WS G.m C.A (assign (.Name n p1) C.env (.ref p.1)) Q Er y.s:=
 wpAny_assign_Name (F.MP O hn (sl:=.o o) (p:=p) rfl (fun o' e=>by cases e;exact⟨⟨Op,H,e1,e2⟩,N.z1,N.z2,N.ap,N.pr⟩) (.inl ne) fun y' eh _ F'=>q1 y' _ _ F' (by rw[eh];exact ev))
theorem Fr.Pa{Q:Unit->Shared->Prop}(O:bJ d nm sc C)(F0:Fr G nm C x ρ pw)(S:Step G x y)(hn:nm.lookup n=some i)(Op:Or G y o p)(H:Hd y p)(n1:x.g p.1=.none)(n2:x.g p.2=.none)(ne:i≠0){p1:Pos}(ev:kn (Mine.st ρ i (.o o)) y.h)
  (q1:∀y ρ pw,Fr G nm C y ρ pw->kn ρ y.h->Q () y.s):WS G.m C.A (assign (.Name n p1) C.env (.ref p.1)) Q Er y.s:=
 have N:=F0.new (i:=i) n1 n2
 (F0.de S).Iv O hn Op H N.1 N.2.1 N.2.2 ne ev q1
theorem EI{p1:Pos}(he:zo G d nm sc e ea)(hs:oO ea)(hn:nm.lookup n=some i)(ne:i≠0):aF G d nm sc (.aY i e) (exec (.Assign [.Name n p1] ea pos)):=fun C O x ρ pw F kn kc kr Q Er ev q1 q2 q3=>
 il (hs _ _ _) rfl (he C O x ρ pw F.M F.R (fun v h=>(match own v with|some o=>kn (Mine.st ρ i (.o o)) h|none=>False)) _ _ ev (fun v h ev=>(qZ (P:=fun o=>kn (Mine.st ρ i (.o o)) h) ev).imp fun o t=>t.1) fun o p y S Op H n1 n2 ev=>by
  obtain⟨o',h1,h2,ev⟩:=qZ (P:=fun o=>kn (Mine.st ρ i (.o o)) y.h) ev
  cases Jf h2
  exact F.Pa O S hn Op H n1 n2 ne ev q1) rfl
theorem DZ{ok:Nat->Nat->Bool}(h:jR ok o f v=some o'):∃c fs vs,o=.inst c fs vs/\fs.length<100/\ok c f=true/\o'=.inst c (fC f fs) (dQ f v fs vs):=by
 cases o with
 |inst c fs vs=>
  have h:(match decide (fs.length<100)&&ok c f with|true=>some (O.inst c (fC f fs) (dQ f v fs vs))|false=>none)=some o':=h
  obtain⟨h1,rfl⟩:=sE h
  exact⟨c,fs,vs,rfl,dt (br h1).1,(br h1).2,rfl⟩
 |_=>cases h
theorem yw{Q:Unit->Shared->Prop}(W:Wd G)(M:bF G x)(h:jR mp.ok o f v=some o')(Op:Or G x o p)(hX:Vr G x v X)(hq:Wr G x p o' (Q ())):WS G.m A (setAttr (.ref p.1) (aw f) X) Q Er x.s:=by
 obtain⟨c,fs,vs,rfl,h1,h2,rfl⟩:=DZ h
 exact vQ (M.KQ W) W.cls Op h2 h1 hX hq
theorem pK{t:Option O}{P:O->Prop}(h:(match t with|some o=>P o|none=>False)):∃o,t=some o/\P o:=by
 cases t with
 |none=>exact h.elim
 |some o=>exact⟨o,rfl,h⟩
theorem sU{P:Nat->Prop}(h:(match v with|.ref a=>P a|_=>False)):∃a,v=.ref a/\P a:=by
 cases v with
 |ref a=>exact⟨a,rfl,h⟩
 |_=>exact h.elim
theorem vT{a:Nat}(h:Vr G x (.ref a) X):∃p,x.β[a]? =some p/\X=.ref p.1:=by cases h with|ref q=>exact⟨_,q,rfl⟩
theorem Wr.cell{a:Nat}{P:Shared->Prop}(M:bF G x)(e:x.h.get a=some o)(h:x.β[a]? =some p)(q:∀y,y.h=x.h.set a (some o')->Step G x y->P y.s):Wr G x p o' P:=fun s' sm hs hO=>
 hs.elim fun b hb=>q { x with h:=x.h.set a (some o'),s:=s'} rfl (Step.cell M e h hb.1 hb.2 sm (hO x.F))
theorem FQ{p1:Pos}(W:Wd G)(he:av G d nm sc e ea)(ho:av G d nm sc oe eb)(hs:∀env l,swapsWith ea (some (.Attribute eb (aw f) p1)) l env=pure false):aF G d nm sc (.eT oe f e) (exec (.Assign [.Attribute eb (aw f) p1] ea pos)):=fun C O x ρ pw F kn kc kr Q Er ev q1 q2 q3=>
 il (hs _ _) rfl (he C O x ρ pw F.M F.R _ _ _ ev fun v X y S hX ev=>by
  show WS _ _ (do let ov<-holding [X] (eval eb C.env);standAt p1.atName;holding [X,ov] (setAttr ov (aw f) X);release [X,ov] []) _ _ _
  refine WJ (Xg (ho C O y ρ pw S.M (F.R.de F.M S) _ _ _ ev fun w Y z T hY ev=>?_))
  obtain⟨a,rfl,ev⟩:=sU (P:=fun a=>(match (z.h.get a).bind (jR mp.ok · f v) with|some o=>kn ρ (z.h.set a (some o))|none=>False)) ev
  obtain⟨o',e1,ev⟩:=pK (P:=fun o=>kn ρ (z.h.set a (some o))) ev
  obtain⟨o,e2,e3⟩:=XB.mp e1
  obtain⟨p,hp,rfl⟩:=vT hY
  exact WJ (Xu (WJ (Xg (yw W T.M e3 (T.M.obj a o p e2 hp).1 (T.vr hX) (Wr.cell T.M e2 hp fun y' eh U=>wpAny_release (q1 y' ρ pw (F.de ((S.trans T).trans U)) (by rw[eh];exact ev)))))))) rfl
theorem BD{p1 p2:Pos}(W:Wd G)(he:av G d nm sc e ea)(hn:nm.lookup n=some 0)(hok:bh n=true)(hs:∀env l,swapsWith ea (some (.Attribute (.Name n p2) (aw f) p1)) l env=pure false):aF G d nm sc (.aB f e) (exec (.Assign [.Attribute (.Name n p2) (aw f) p1] ea pos)):=fun C O x ρ pw F kn kc kr Q Er ev q1 q2 q3=>
 il (hs _ _) rfl (he C O x ρ pw F.M F.R _ _ _ ev fun v X y S hX ev=>by
  show WS _ _ (do let ov<-holding [X] (eval (.Name n p2) C.env);standAt p1.atName;holding [X,ov] (setAttr ov (aw f) X);release [X,ov] []) _ _ _
  have F:=F.de S
  obtain⟨o,h,ev⟩:=dZ ev
  obtain⟨o',e1,ev⟩:=pK (P:=fun o=>kn (Mine.st ρ 0 (.o o)) y.h) ev
  exact WJ (Xg (wpAny_Name (fu O F.R hn h (WJ (Xu (WJ (Xg (yw W F.M e1 (F.R.ow 0 o h).o hX fun s' sm hs hO=>hs.elim fun b hb=>
   wpAny_release (q1 { y with s:=s'} _ pw (F.put h hb.1 hb.2 sm hO) ev))))))) (aI hok)))) rfl
end
section
variable{G:Gl}{d:Nat}{nm:eD}{sc:gm}{x y z:Sx}{s s':Shared}{u v w r:V}{X Y Z:Value}{vs:List V}{Xs:List Value}{o o':O}{p:BA}{A:Around}{Er:Value->Shared->Prop}{i j f m:Nat}{C:Fm}{env:PySem.Env}{ρ ρ':Env}{pw:Nat->BA}{b q:Addr}{n nx:Str}{sl:Sl}
 {e a c ie oe:E}{ea eb ec ei ast:Expr}{asts:List Expr}{s1 s2:S}{st:Stmt}{ss ts:List Stmt}{pos pos' apos:Pos}{kn kc:Env->H->Prop}{kr:V->Env->H->Prop}
theorem Hy{p1:Pos}(he:av G d nm sc e ea)(ho:av G d nm sc oe eb)(hi:av G d nm sc ie ei)(hs:∀env l,swapsWith ea (some (.Subscript eb ei p1)) l env=pure false):aF G d nm sc (.eS oe ie e) (exec (.Assign [.Subscript eb ei p1] ea pos)):=fun C O x ρ pw F kn kc kr Q Er ev q1 q2 q3=>
 il (hs _ _) rfl (he C O x ρ pw F.M F.R _ _ _ ev fun v X y S hX ev=>by
  rw[arm_assign_Subscript]
  refine WJ (Xg (ho C O y ρ pw S.M (F.R.de F.M S) _ _ _ ev fun w Y z T hY ev=>?_))
  have ST:=S.trans T
  refine WJ (Xg (hi C O z ρ pw T.M (F.R.de F.M ST) _ _ _ ev fun j J t U hJ ev=>?_))
  obtain⟨a,rfl,ev⟩:=sU (P:=fun a=>(match (t.h.get a).bind (fN · j v) with|some o=>kn ρ (t.h.set a (some o))|none=>False)) ev
  obtain⟨o',e1,ev⟩:=pK (P:=fun o=>kn ρ (t.h.set a (some o))) ev
  obtain⟨o,e2,e3⟩:=XB.mp e1
  obtain⟨p,hp,h⟩:=vT (U.vr hY)
  rw[h]
  exact WJ (Xu (WJ (Xg (xe O.rm e3 (U.M.obj a o p e2 hp).1 hJ (U.vr (T.vr hX)) (Wr.cell U.M e2 hp fun y' eh V=>wpAny_release (q1 y' ρ pw (F.de ((ST.trans U).trans V)) (by rw[eh];exact ev)))))))) rfl
theorem Cr{p1 p2:Pos}(he:av G d nm sc e ea)(hn:nm.lookup n=some i)(hok:bh n=true)(hi:av G d nm sc ie ei)(hs:∀env l,swapsWith ea (some (.Subscript (.Name n p2) ei p1)) l env=pure false):aF G d nm sc (.aP i ie e) (exec (.Assign [.Subscript (.Name n p2) ei p1] ea pos)):=fun C O x ρ pw F kn kc kr Q Er ev q1 q2 q3=>
 il (hs _ _) rfl (he C O x ρ pw F.M F.R _ _ _ ev fun v X y S hX ev=>by
  rw[arm_assign_Subscript]
  have F:=F.de S
  obtain⟨o,h,ev⟩:=dZ ev
  refine WJ (Xg (wpAny_Name (fu O F.R hn h ?_) (aI hok)))
  refine WJ (Xg (hi C O y ρ pw F.M F.R _ _ _ ev fun j J t U hJ ev=>?_))
  have F:=F.de U
  rw[h]at ev
  obtain⟨o',e1,ev⟩:=pK (P:=fun o=>kn (Mine.st ρ i (.o o)) t.h) ev
  exact WJ (Xu (WJ (Xg (xe O.rm e1 (F.R.ow i o h).o hJ (U.vr hX) fun s' sm hs hO=>hs.elim fun b hb=>wpAny_release (q1 { t with s:=s'} _ pw (F.put h hb.1 hb.2 sm hO) ev)))))) rfl
theorem yj{P:V×O->H->Prop}{Q:Value->Shared->Prop}(O:bJ d nm sc C)(F:Fr G nm C x ρ pw)(hn:nm.lookup n=some i)(hok:bh n=true)(hb:iJ G d nm sc a asts)(hl:asts.length<30)(hpos:(apos.endLine==pos.line)=true){p1:Pos}
  (ev:zW (mP d) (gt ρ i) m (Mine.ev mp (mP d) a ρ x.h fun w h=>iO False w fun vs=>dy False (gt ρ i) fun o=>(match dh o m vs with|some r=>P r h|none=>False)))
  (q:∀r Z y,Fr G nm C y (Mine.st ρ i (.o r.2)) pw->Vr G y r.1 Z->P r y.h->Q Z y.s):WS G.m C.A (eval (.Call (.Attribute (.Name n p1) (aw m) apos) asts [] pos) C.env) Q Er x.s:=
 DN (P:=fun o vs h=>(match dh o m vs with|some r=>P r h|none=>False)) hn hok hb hl hpos O F.M F.R ev fun o vs Xs y h S H hXs ev=>by
  obtain⟨r,e,ev⟩:∃r,dh o m vs=some r/\P r y.h:=by
   revert ev
   cases dh o m vs with
   |none=>exact fun h=>h.elim
   |some r=>exact fun h=>⟨r,rfl,h⟩
  exact tZ O.rm e H.o hXs fun Z hZ s' sm hs hO=>hs.elim fun b hb=>q r Z { y with s:=s'} ((F.de S).put h hb.1 hb.2 sm hO) (VR.mono (bO (by rcases hb.1 with z|z<;>rw[z];exact H.h.f1;exact H.h.f2) hb.2) (fun _ _ e=>e) hZ) ev
theorem Od{p1 p2:Pos}(hn:nm.lookup n=some i)(hok:bh n=true)(hb:iJ G d nm sc a asts)(hl:asts.length<30)(hpos:(apos.endLine==pos.line)=true):aF G d nm sc (.mO i m a) (exec (.Expr (.Call (.Attribute (.Name n p1) (aw m) apos) asts [] pos) p2)):=fun C O x ρ pw F kn kc kr Q Er ev q1 q2 q3=>
 wpAny_Expr_any (yj (P:=fun r h=>kn (Mine.st ρ i (.o r.2)) h) O F hn hok hb hl hpos ev fun r Z y F' _ ev=>q1 y _ pw F' ev) (by unfold interactive;rw[O.kind];rfl) rfl
theorem ET{p1 p2 p3:Pos}(hn:nm.lookup n=some i)(hok:bh n=true)(hb:iJ G d nm sc a asts)(hl:asts.length<30)(hpos:(apos.endLine==pos.line)=true)(hj:nm.lookup nx=some j):
  aF G d nm sc (.iY j i m a) (exec (.Assign [.Name nx p3] (.Call (.Attribute (.Name n p1) (aw m) apos) asts [] pos) p2)):=fun C O x ρ pw F kn kc kr Q Er ev q1 q2 q3=>
 il rfl rfl (yj (P:=fun r h=>kn (Mine.st (Mine.st ρ i (.o r.2)) j (.v r.1)) h) O F hn hok hb hl hpos ev fun r Z y F' hZ ev=>F'.GH O hj hZ ev q1) rfl
theorem yH{R:V->Value->Prop}(hl:L2 R vs Xs):∀{fs:List Nat},ae f fs vs=some v->∃Z,R v Z/\∀(R':V->Value->Prop) v',(∀u U,R u U->R' u U)->R' v' Z->L2 R' (dQ f v' fs vs) Xs:=by
 induction hl with
 |nil=>intro fs e;cases fs<;>exact sn e rfl
 |cons a b ih=>
  intro fs e
  cases fs with
  |nil=>exact sn e rfl
  |cons g fs=>
   revert e
   show(match Nat.beq f g with|true=>some _|false=>ae f fs _)=some v->∃Z,R v Z/\∀(R':V->Value->Prop) v',(∀u U,R u U->R' u U)->R' v' Z->L2 R' (match Nat.beq f g with|true=>v'::_|false=>_::dQ f v' fs _) _
   cases Nat.beq f g with
   |true=>intro e;cases e;exact⟨_,a,fun R' v' k h=>.cons h (L2.imp (fun q=>k _ _ q) b)⟩
   |false=>exact fun e=>(ih e).imp fun Z t=>⟨t.1,fun R' v' k h=>.cons (k _ _ a) (t.2 R' v' k h)⟩
theorem Kz{t:Option V}{P:V->Prop}(h:(match t with|some o=>P o|none=>False)):∃o,t=some o/\P o:=by
 cases t with
 |none=>exact h.elim
 |some o=>exact⟨o,rfl,h⟩
theorem Km(hn:nm.lookup n=some j):wc G d nm sc (.uZ (.loc j) f):=fun C O x ρ pw F kn kc kr ev=>by
 obtain⟨w,hw,ev⟩:=xi (k:=fun w=>(match w with
  |.ref a=>(match x.h.get a with
   |some (.inst c fs vs)=>(match ae f fs vs with
    |some v=>(match bP 8 v x.h with|some r=>(match r.2.get a with|some _=>kn ρ (r.2.set a (some (.inst c fs (dQ f r.1 fs vs))))|.none=>False)|.none=>False)
    |.none=>False)
   |_=>False)
  |_=>False)) ev
 obtain⟨a,rfl,ev⟩:=sU (P:=fun a=>(match x.h.get a with
   |some (.inst c fs vs)=>(match ae f fs vs with
    |some v=>(match bP 8 v x.h with|some r=>(match r.2.get a with|some _=>kn ρ (r.2.set a (some (.inst c fs (dQ f r.1 fs vs))))|.none=>False)|.none=>False)
    |.none=>False)
   |_=>False)) ev
 obtain⟨c,fs,vs,e1,ev⟩:=Bt (P:=fun c fs vs=>(match ae f fs vs with
    |some v=>(match bP 8 v x.h with|some r=>(match r.2.get a with|some _=>kn ρ (r.2.set a (some (.inst c fs (dQ f r.1 fs vs))))|.none=>False)|.none=>False)
    |.none=>False)) ev
 obtain⟨v,e2,ev⟩:=Kz (t:=ae f fs vs) (P:=fun v=>(match bP 8 v x.h with|some r=>(match r.2.get a with|some _=>kn ρ (r.2.set a (some (.inst c fs (dQ f r.1 fs vs))))|.none=>False)|.none=>False)) ev
 obtain⟨r,e3,ev⟩:=wq (k:=fun r=>(match r.2.get a with|some _=>kn ρ (r.2.set a (some (.inst c fs (dQ f r.1 fs vs))))|.none=>False)) ev
 obtain⟨o,e4,ev⟩:=pK (t:=r.2.get a) (P:=fun _=>kn ρ (r.2.set a (some (.inst c fs (dQ f r.1 fs vs))))) ev
 obtain⟨ov,_,hv⟩:=F.R.nm n j hn
 rw[hw]at hv
 obtain⟨V,_,hv⟩:=hv
 obtain⟨p,hp,_⟩:=vT hv
 refine OR.qE (P:=fun p=>x.β[a]? =some p->∃y ρ' pw',Fr G nm C y ρ' pw'/\y.s=x.s/\kn ρ' y.h) (F.M.obj a _ p e1 hp).1 (fun l D C' es m hc ne g1 g2 K z hl hp=>?_) hp
 obtain⟨Z,hZ,put⟩:=yH hl e2
 obtain⟨y,h1,h2,S,hy⟩:=wz 8 v x r Z F.M hZ e3
 rw[<-h1]at e4 ev
 cases Option.some.inj (e1.symm.trans (S.g a o e4))
 have T:=Step.cell (s':=y.s) S.S.M e4 (S.S.pre a _ hp) (.inl rfl) (fun _ _ _ e=>e) (.refl _) fun fr=>OR.inst (es:=es) (n:=m) hc ne (h2▸g1) (h2▸g2) K z (put _ r.1 (fun u U q=>S.S.vr q) hy)
 exact⟨_,ρ,pw,F.de (S.S.trans T),h2,ev⟩
theorem NB:∀{ρ:Env}{i:Nat},gt ρ i≠.no->gt (Mine.st ρ i sl) i=sl:=by
 intro ρ
 induction ρ with
 |nil=>intro i h;exact absurd rfl h
 |cons a r ih=>
  intro i h
  cases i with
  |zero=>rfl
  |succ i=>exact ih h
theorem wX{a b:Sl}:∀{ρ:Env}{i:Nat},Mine.st (Mine.st ρ i a) i b=Mine.st ρ i b:=by
 intro ρ
 induction ρ with
 |nil=>intro i;rfl
 |cons c r ih=>
  intro i
  cases i with
  |zero=>rfl
  |succ i=>exact congrArg (c::·) ih
theorem Fr.dz{v:V}{r:V×H}(O:bJ d nm sc C)(F:Fr G nm C x ρ pw)(hn:nm.lookup n=some i)(h:gt ρ i=.v v)(e:bP 8 v x.h=some r):∃y,Fr G nm C y (Mine.st ρ i (.v r.1)) pw/\y.s=x.s/\y.h=r.2:=by
 obtain⟨ov,hb,hv⟩:=F.R.nm n i hn
 rw[h]at hv
 obtain⟨V,rfl,hv⟩:=hv
 obtain⟨y,h1,h2,S,hy⟩:=wz 8 v x r V F.M hv e
 have F':=F.de S.S
 have tr:∀{j u},gt (Mine.st ρ i (.v r.1)) j=.o u->gt ρ j=.o u:=fun h=>(sZ h).elim (fun t=>Sl.noConfusion t.2) fun t=>t.2
 refine⟨y,⟨⟨fun n' j e=>?_,F'.R.ne,fun j u e=>F'.R.ow j u (tr e)⟩,F'.W.st,F'.W.up,F'.W.n0,fun j u e=>F'.W.p0 j u (tr e),fun j k u u' e e'=>F'.W.ap j k u u' (tr e) (tr e'),fun b ob e=>have t:=F'.W.pr b ob e;⟨t.1,fun j u e=>t.2 j u (tr e)⟩,F'.W.sf⟩,h2,h1⟩
 by_cases q:j=i
 ·subst q
  cases O.inj _ _ _ e hn
  refine⟨some V,h2.symm▸hb,?_⟩
  rcases lA (ρ:=ρ) (i:=j) (sl:=.v r.1) with z|z
  ·rw[z];exact⟨V,rfl,hy⟩
  ·rw[z];trivial
 ·rw[eY q];exact F'.R.nm n' j e
theorem Jn(hn:nm.lookup n=some i):wc G d nm sc (.Bj i):=fun C O x ρ pw F kn kc kr ev=>by
 have ev:(match gt ρ i with
  |.o o=>(match bP 8 o.v x.h with|some r=>kn (Mine.st ρ i (.v r.1)) r.2|.none=>False)
  |.v v=>(match bP 8 v x.h with|some r=>kn (Mine.st ρ i (.v r.1)) r.2|.none=>False)
  |.no=>False):=ev
 revert ev
 cases h:gt ρ i with
 |no=>exact fun h=>h.elim
 |v v=>
  intro ev
  obtain⟨r,e,ev⟩:=wq (k:=fun r=>kn (Mine.st ρ i (.v r.1)) r.2) ev
  obtain⟨y,F',h1,h2⟩:=F.dz O hn h e
  exact⟨y,_,pw,F',h1,by rw[h2];exact ev⟩
 |o o=>
  intro ev
  obtain⟨r,e,ev⟩:=wq (k:=fun r=>kn (Mine.st ρ i (.v r.1)) r.2) ev
  obtain⟨y,F',h1,h2⟩:=(F.fz h).dz O hn (NB (by rw[h];exact fun z=>Sl.noConfusion z)) e
  rw[wX]at F'
  exact⟨y,_,pw,F',h1,by rw[h2];exact ev⟩
end
section
variable{G:Gl}{d:Nat}{nm:eD}{sc:gm}{x y z:Sx}{s:Shared}{v:V}{X:Value}{A:Around}{Er:Value->Shared->Prop}{m:Nat}{C:Fm}{env:PySem.Env}{ρ:Env}{pw:Nat->BA}{n:Str}
 {e a c ie oe:E}{ea eb ec ei ast:Expr}{asts:List Expr}{s1 s2:S}{st:Stmt}{ss ts body:List Stmt}{pos pos' apos:Pos}{kn kc:Env->H->Prop}{kr:V->Env->H->Prop}
theorem JF{J:Nat->Env->H->Prop}{Rr:Result->Shared->Prop}(O:bJ d nm sc C)(hc:dG G d nm sc c ec)(hb:aF G d nm sc s1 (execs body))
  (inv:∀n ρ h,J n ρ h->ev mp (mP d) c ρ h fun v h=>gk False v (ex mp (mP d) s1 ρ h (fun ρ h=>∃n',n'<n/\J n' ρ h) (fun ρ h=>∃n',n'<n/\J n' ρ h) kr) (kn ρ h))
  (q1:∀y ρ pw,Fr G nm C y ρ pw->kn ρ y.h->Rr (.ok .next) y.s)(q3:∀v X y ρ pw,Fr G nm C y ρ pw->Vr G y v X->kr v ρ y.h->Rr (.ok (.ret X)) y.s)(k:Nat):
  ∀x ρ pw,Fr G nm C x ρ pw->J k ρ x.h->codeAny G.m C.A (.whileLoop ec body [] C.env) Rr x.s:=by
 induction k using abv with
 |_ k ih=>
  intro x ρ pw F h
  refine codeAny_of_tree ?_
  rw[show C.A.under (.whileLoop ec body [] C.env)=C.A from Around.under_of_weight rfl]
  show WS _ _ ((whileTurn ec body [] C.env).onRaise (fun x=>do noteFrame x C.env;theTreesLotGoes x)) _ _ x.s
  refine wpAny_noted ?_
  unfold whileTurn
  refine WJ (hc C O x ρ pw F.M F.R (fun h=>ex mp (mP d) s1 ρ h _ _ kr) (fun h=>kn ρ h) _ _ (inv k ρ x.h h) (fun y S ev=>?_) fun y S ev=>?_)
  ·rw[if_pos rfl]
   have again:∀z ρ pw,Fr G nm C z ρ pw->(∃n',n'<k/\J n' ρ z.h)->codeAny G.m C.A (.whileLoop ec body [] C.env) Rr z.s:=fun z ρ pw F h=>h.elim fun n' t=>ih n' t.1 z ρ pw F t.2
   exact WJ (hb C O y ρ pw (F.de S) _ _ _ _ _ ev (fun z ρ pw F h=>WN ⟨rfl,again z ρ pw F h⟩) (fun z ρ pw F h=>WN ⟨rfl,again z ρ pw F h⟩) fun v X z ρ pw F hX h=>WN (q3 v X z ρ pw F hX h))
  ·rw[if_neg Bool.false_ne_true]
   exact WJ (wpAny_execs_nil (WN (q1 y ρ pw (F.de S) ev)))
theorem Ee(hc:dG G d nm sc c ec)(hb:aF G d nm sc s1 (execs body)):aF G d nm sc (.dd c s1) (exec (.While ec body [] pos)):=fun C O x ρ pw F kn kc kr Q Er ev q1 q2 q3=>by
 rw[arm_exec_While]
 obtain⟨J,⟨k,h⟩,inv⟩:=ev
 exact WJ (Xu (wpAny_runOwn (JF O hc hb inv (fun y ρ pw F h=>q1 y ρ pw F h) (fun v X y ρ pw F hX h=>q3 v X y ρ pw F hX h) k x ρ pw F h)))
end
section
variable{G:Gl}{x y z x0:Sx}{s s':Shared}{v w:V}{X:Value}{vs us:List V}{Xs:List Value}{o:O}{A:Around}{Er:Value->Shared->Prop}{i f m:Nat}{b I q:Addr}{n:Str}{fz:Addr->Prop}
theorem jG{Q:Option Value->Shared->Prop}(hh:A.handled=none)(S:Step G x0 x)(n0:x0.g I=none)(h:It G fz x vs i I)
  (q1:∀v X s',vs[i]? =some v->wj x I s'->Step G x0 { x with s:=s'}->It G fz { x with s:=s'} vs (i+1) I->Vr G { x with s:=s'} v X->Q (some X) s')
  (q2:∀s',vs[i]? =none->Heap.ExtBut I x.s.heap s'.heap->iL x.s s'->Step G x0 { x.rl (I,I) with s:=s'}->Q none s'):WS G.m A (pyNext (.ref I)) Q Er x.s:=
 Ho hh h (fun v X s' e c hX is=>q1 v X s' e c (S.but n0 h.f h.n c.hs c.al c.sm) ⟨h.f,fun w=>h.n w,is⟩ hX) fun s' e hs sm=>q2 s' e hs sm (S.drop n0 h.f h.n hs sm)
theorem HN(hh:A.handled=none)(n0:x0.g I=none)(k:Nat):∀(i:Nat)(x:Sx)(Q:List Value->Shared->Prop),Step G x0 x->It G fz x vs i I->i+k=vs.length->
  (∀y Xs,y.h=x.h->Step G x0 y->It G fz y vs vs.length I->(∀v V,Vr G x v V->Vr G y v V)->Vl G y (vs.drop i) Xs->Q Xs y.s)->WS G.m A (draw (.ref I) k) Q Er x.s:=by
 induction k with
 |zero=>intro i x Q S h e q;exact WN (q x [] rfl S (e▸h) (fun _ _ h=>h) (by rw[show i=vs.length from e,ZJ];exact .nil))
 |succ k ih=>
  intro i x Q S h e q
  have hlt:i<vs.length:=e▸Xx (XK k)
  show WS _ _ (pyNext (.ref I)>>=_) _ _ _
  refine WJ (jG hh S n0 h (fun v X s' hv c T h' hX=>?_) fun s' hv _ _ _=>absurd (XR.mp hv) (ZG.mpr hlt))
  refine WJ (Xg (ih (i+1) { x with s:=s'} _ T h' (by rw[<-e,XO,Yx 1]) fun y Xs eh U h2 cv hXs=>WN (q y (X::Xs) eh U h2 (fun v V hv=>cv v V (c.vr h.f hv)) ?_)))
  rw[Ys hlt,(WL.mp hv).2]
  exact .cons (cv _ _ hX) hXs
noncomputable def GA(v:V):Option (List V):=match v with|.tup vs=>some vs|.lst vs=>some vs|_=>none
theorem Lm(e:GA v=some vs)(hv:Vr G x v X):∃T id,x.s.TypeIs X T/\typeLookup (.type T) "__iter__"=pure (some (.builtin id)):=by
 cases v with
 |tup us=>exact hv.jW fun l items n g _ _ _ _=>⟨"tuple",_,⟨_,g,rfl⟩,PySem.F.slot_tuple_iter.lookup⟩
 |lst us=>exact hv.hH fun l items n g _ _ _ _=>⟨"list",_,⟨_,g,rfl⟩,slot_list_iter.lookup⟩
 |_=>exact sn e rfl
theorem He(e:GA v=some vs):bZ v=some vs:=by
 cases v with
 |tup us=>exact e
 |lst us=>exact e
 |_=>exact sn e rfl
theorem mL{Q:List Value->Shared->Prop}(W:Wd G)(hh:A.handled=none)(M:bF G x)(e:GA v=some vs)(hv:Vr G x v X)(q:∀y Xs,y.h=x.h->Step G x y->Vl G y vs Xs->Q Xs y.s):WS G.m A (unpackItems X vs.length none) Q Er x.s:=by
 unfold unpackItems
 obtain⟨T,id,h1,h2⟩:=Lm e hv
 refine WJ ?_
 unfold notIterableAtAll
 refine WJ (wpAny_specialOf h1 h2 (WN ?_))
 rw[if_neg Bool.false_ne_true]
 refine WJ (Xg (rA (fz:=FX) W M (He e) hv fun y I S n0 e1 h=>WJ (Xg (HN hh n0 vs.length 0 y _ S h (XG _) fun z Xs e2 T h2 cv hXs=>?_))))
 have hXs:Vl G z vs Xs:=hXs
 rw[if_neg (show ¬ Xs.length<vs.length by rw[hXs.len];exact Yq _)]
 refine WJ (Xg (jG hh T n0 h2 (fun v X s' hv=>absurd (WL.mp hv).1 (Yq _)) fun s' _ hs sm U=>?_))
 rw[if_neg (show ¬ ((none:Option Value).isSome=true) from Bool.false_ne_true)]
 refine WN (q { z.rl (I,I) with s:=s'} Xs (e2.trans e1) U (cY.mono (fun b o e m=>⟨hs b o (fun z'=>m (z'▸h2.f)) e,fun z'=>m z'.1⟩) (fun _ _ e=>e) hXs))
end
section
noncomputable def Fm.pt(C:Fm)(I:Addr)(ob:Obj)(x:Sx):Fm:={ C with pr:=upd C.pr I (some ob),x1:=x}
section
variable{G:Gl}{d:Nat}{nm:eD}{sc:gm}{x y z x0:Sx}{s s':Shared}{u v:V}{vs:List V}{o:O}{p:BA}{i j f m:Nat}{C:Fm}{env:PySem.Env}{ρ:Env}{pw:Nat->BA}{b I:Addr}{n:Str}{ob ob':Obj}
theorem bJ.pt(O:bJ d nm sc C):bJ d nm sc (C.pt I ob x):=⟨O.rm,O.kind,O.glob,O.bi,O.gl,O.kd,O.inj,O.Ot,O.Dq⟩
theorem Up.refl:Up x x:=⟨fun _ _ e=>e,fun _ _ e n=>⟨e,n⟩⟩
theorem Up.trans(a:Up x y)(b:Up y z):Up x z:=a.to b.p b.f
theorem wK{b:Addr}{o:Obj}(e:upd C.pr I (some ob) b=some o):(b=I/\o=ob)\/(b≠I/\C.pr b=some o):=by
 by_cases h:b=I
 ·subst h;rw[iT]at e;exact .inl ⟨rfl,(Option.some.inj e).symm⟩
 ·rw[gU h]at e;exact .inr ⟨h,e⟩
theorem Fr.OW(F:Fr G nm C x ρ pw)(g:x.g I=some ob)(f:x.F I)(n:¬ Own x I)(nN:¬ NE C.env I)(ap:∀i u,gt ρ i=.o u->I≠(pw i).1/\I≠(pw i).2):Fr G nm (C.pt I ob x) x ρ pw:=
 ⟨F.R,F.W.st,.refl,F.W.n0,F.W.p0,F.W.ap,fun b o e=>(wK e).elim (fun t=>by rw[t.1,t.2];exact⟨⟨g,f,n,nN⟩,ap⟩) fun t=>F.W.pr b o t.2,F.W.sf⟩
theorem Fr.chg(F:Fr G nm (C.pt I ob x0) x ρ pw)(c:wj x I s')(S:Step G C.x0 { x with s:=s'})(g:s'.heap.get? I=some ob'):Fr G nm (C.pt I ob' { x with s:=s'}) { x with s:=s'} ρ pw:=by
 have P:=F.W.pr I ob iT
 have fr:=bO P.1.2.1 c.hs
 have vr:∀v V,Vr G x v V->Vr G { x with s:=s'} v V:=fun v V h=>VR.mono fr (fun _ _ e=>e) h
 refine⟨⟨fun n' j e=>(F.R.nm n' j e).imp fun ov t=>⟨t.1.at fun b e o g=>c.hs b o (fun z=>P.1.2.2.2 (z▸e)) g,t.2.mono vr⟩,F.R.ne,fun j u e=>?_⟩,S,.refl,F.W.n0,F.W.p0,F.W.ap,fun b o e=>?_,F.W.sf⟩
 ·have H:=F.R.ow j u e
  have a:=P.2 j u e
  exact⟨OR.mono fr (fun _ _ e=>e) (fun u g=>c.hs _ u a.1.symm g) (fun u g=>c.hs _ u a.2.symm g) H.o,⟨H.h.f1,H.h.f2,H.h.n1,H.h.n2⟩,H.e1,H.e2⟩
 ·rcases wK e with ⟨rfl,rfl⟩|⟨ne,e⟩
  ·exact⟨⟨g,P.1.2⟩,P.2⟩
  ·have t:=F.W.pr b o ((gU ne).trans e)
   exact⟨⟨c.hs b o ne t.1.1,t.1.2⟩,t.2⟩
theorem Fr.drop(F:Fr G nm (C.pt I ob x0) x ρ pw)(u:Up C.x1 x0)(hI:∀o,C.pr I≠some o)(hs:Heap.ExtBut I x.s.heap s'.heap)(S:Step G C.x0 { x.rl (I,I) with s:=s'}):Fr G nm C { x.rl (I,I) with s:=s'} ρ pw:=by
 have P:=F.W.pr I ob iT
 have fr:pW x.F x.s.heap (x.rl (I,I)).F s'.heap:=fun b o e m=>⟨hs b o (fun z=>m (z▸P.1.2.1)) e,fun z=>m z.1⟩
 have vr:∀v V,Vr G x v V->Vr G { x.rl (I,I) with s:=s'} v V:=fun v V h=>VR.mono fr (fun _ _ e=>e) h
 have nI:∀b,NE C.env b->b≠I:=fun b e z=>P.1.2.2.2 (z▸e)
 refine⟨⟨fun n' j e=>(F.R.nm n' j e).imp fun ov t=>⟨t.1.at fun b e o g=>hs b o (nI b e) g,t.2.mono vr⟩,fun b e=>⟨⟨(F.R.ne b e).1,nI b e,nI b e⟩,(F.R.ne b e).2⟩,fun j u e=>?_⟩,S,(u.trans F.W.up).to (fun _ _ e=>e) fr,F.W.n0,F.W.p0,F.W.ap,fun b o e=>?_,F.W.sf⟩
 ·have H:=F.R.ow j u e
  have a:=P.2 j u e
  exact⟨OR.mono fr (fun _ _ e=>e) (fun u g=>hs _ u a.1.symm g) (fun u g=>hs _ u a.2.symm g) H.o,⟨⟨H.h.f1,a.1.symm,a.1.symm⟩,⟨H.h.f2,a.2.symm,a.2.symm⟩,H.h.n1,H.h.n2⟩,H.e1,H.e2⟩
 ·have ne:b≠I:=fun z=>hI o (z▸e)
  have t:=F.W.pr b o ((gU ne).trans e)
  exact⟨⟨hs b o ne t.1.1,⟨t.1.2.1,ne,ne⟩,t.1.2.2⟩,t.2⟩
theorem It.up(h:It G FX x vs i I)(u:Up x y)(g:y.g I=x.g I)(f:y.F I)(n:¬ Own y I):It G FX y vs i I:=by
 have e:∀o,x.g I=some o->y.g I=some o:=fun o e=>g.trans e
 have k:∀{b ob},Kept FX x b->x.g b=some ob->y.g b=some ob/\Kept FX y b:=fun k e=>have t:=u.f _ _ e fun f=>(k f).2;⟨t.1,fun z=>absurd z t.2⟩
 refine⟨f,n,?_⟩
 cases h.is with
 |tup g' k' l t=>exact .tup (k k' g').1 (k k' g').2 (cY.mono u.f u.p l) (rP t e)
 |lst g' k' l t=>exact .lst (k k' g').1 (k k' g').2 (cY.mono u.f u.p l) (t.at e)
 |kE t h=>exact .kE (e _ t) h
 |Eu t h=>exact .Eu (e _ t) h
 |bL g' k' l t=>exact .bL (k k' g').1 (k k' g').2 (cY.mono u.f u.p l) (t.at e)
end
end
section
structure As(G:Gl)(P:Addr->Prop)(x y:Sx):Prop where
 st:∀xo,Step G xo x->(∀q,P q->xo.g q=none)->Step G xo y
 up:Up x y
 ot:∀b o,x.g b=some o->x.F b->¬ Own x b->¬ P b->y.g b=some o/\y.F b/\¬ Own y b
noncomputable def TP(env:PySem.Env)(ns:List Str)(q:Addr):Prop:=∃n,n∈ns/\Qd env n q
section
variable{G:Gl}{d:Nat}{nm:eD}{sc:gm}{x y z:Sx}{s s':Shared}{u v w:V}{X:Value}{vs:List V}{o o':O}{p:BA}{A:Around}{Er:Value->Shared->Prop}{i j f m:Nat}{C:Fm}{env:PySem.Env}{ρ ρ':Env}{pw:Nat->BA}{b I q:Addr}{n:Str}{sl:Sl}{ob:Obj}{fz:Addr->Prop}{P:Addr->Prop}{ns:List Str}
theorem Step.as(S:Step G x y):As G P x y:=⟨fun xo T _=>T.trans S,⟨S.pre,S.fr⟩,fun b o e f n _=>S.ot b o e f n⟩
theorem As.trans(a:As G P x y)(c:As G P y z):As G P x z:=⟨fun xo T n=>c.st xo (a.st xo T n) n,a.up.trans c.up,fun b o e f n p=>have h:=a.ot b o e f n p;c.ot b o h.1 h.2.1 h.2.2 p⟩
theorem wj.as(c:wj x q s')(f:x.F q)(n:¬ Own x q)(p:P q):As G P x { x with s:=s'}:=
 ⟨fun xo T z=>T.but (z q p) f n c.hs c.al c.sm,⟨fun _ _ e=>e,bO f c.hs⟩,fun b o e g m np=>⟨c.hs b o (fun z=>np (z▸p)) e,g,m⟩⟩
theorem It.as(h:It G fz x vs i I)(M:bF G x)(a:As G P x y)(nI:¬ P I)(np:∀b,fz b->¬ P b):It G fz y vs i I:=by
 have e:∀o,x.g I=some o->y.g I=some o:=fun o e=>(a.ot _ _ e h.f h.n nI).1
 have fn:=(M.qc I h.f).elim fun o e=>(a.ot _ _ e h.f h.n nI).2
 have k:∀{b ob},Kept fz x b->x.g b=some ob->y.g b=some ob/\Kept fz y b:=fun{b ob} k e=>by
  by_cases f:x.F b
  ·have t:=a.ot b ob e f (k f).1 (np b (k f).2)
   exact⟨t.1,fun _=>⟨t.2.2,(k f).2⟩⟩
  ·have t:=a.up.f b ob e f
   exact⟨t.1,fun g=>absurd g t.2⟩
 refine⟨fn.1,fn.2,?_⟩
 cases h.is with
 |tup g k' l t=>exact .tup (k k' g).1 (k k' g).2 (cY.mono a.up.f a.up.p l) (rP t e)
 |lst g k' l t=>exact .lst (k k' g).1 (k k' g).2 (cY.mono a.up.f a.up.p l) (t.at e)
 |kE t h=>exact .kE (e _ t) h
 |Eu t h=>exact .Eu (e _ t) h
 |bL g k' l t=>exact .bL (k k' g).1 (k k' g).2 (cY.mono a.up.f a.up.p l) (t.at e)
theorem Hd.as(h:Or G x o p)(H:Hd x p)(a:As G P x y)(n1:¬ P p.1)(n2:¬ P p.2):Or G y o p/\Hd y p:=
 have k1:=fun u e=>a.ot _ u e H.f1 H.n1 n1
 have k2:=fun u e=>a.ot _ u e H.f2 H.n2 n2
 ⟨OR.mono a.up.f a.up.p (fun u e=>(k1 u e).1) (fun u e=>(k2 u e).1) h,h.al.1.elim fun _ e=>h.al.2.elim fun _ e'=>⟨(k1 _ e).2.1,(k2 _ e').2.1,(k1 _ e).2.2,(k2 _ e').2.2⟩⟩
theorem ER.as(R:ER G nm env x ρ pw)(M:bF G x)(a:As G P x y)(nN:∀b,NE env b->¬ P b)(nO:∀i o,gt ρ i=.o o->¬ P (pw i).1/\¬ P (pw i).2):ER G nm env y ρ pw where
 nm:=fun n i h=>(R.nm n i h).imp fun ov t=>⟨t.1.at fun b e o h=>(a.ot b o h (R.ne b e).1 (R.ne b e).2 (nN b e)).1,t.2.mono fun _ _=>VR.mono a.up.f a.up.p⟩
 ne:=fun b e=>(M.qc b (R.ne b e).1).elim fun o h=>(a.ot b o h (R.ne b e).1 (R.ne b e).2 (nN b e)).2
 ow:=fun i o h=>have t:=R.ow i o h;have k:=Hd.as t.o t.h a (nO i o h).1 (nO i o h).2;⟨k.1,k.2,t.e1,t.e2⟩
theorem ER.weak(R:ER G nm env x ρ pw)(w:∀k,gt ρ' k=gt ρ k\/gt ρ' k=.no):ER G nm env x ρ' pw where
 nm:=fun n i h=>(R.nm n i h).imp fun ov t=>⟨t.1,(w i).elim (fun e=>by rw[e];exact t.2) fun e=>by rw[e];trivial⟩
 ne:=R.ne
 ow:=fun i o h=>R.ow i o ((w i).elim (fun e=>e▸h) fun e=>nomatch e.symm.trans h)
theorem Qd.ne(h:Qd env n q):NE env q:=h.elim (fun t=>.inl t.2) fun t=>.inr ⟨n,t.2⟩
theorem wJ{Q:Unit->Shared->Prop}(O:bJ d nm sc C)(R:ER G nm C.env x ρ pw)(hn:nm.lookup n=some i)(hX:Vr G x v X)(hm:n∈ns)(q:∀y,y.h=x.h->As G (TP C.env ns) x y->ER G nm C.env y (Mine.st ρ i (.v v)) pw->Q () y.s):WS G.m A (storeName C.env n X) Q Er x.s:=
 uY O R hn (sl:=.v v) (p:=pw i) ⟨X,rfl,hX⟩ (fun o e=>Sl.noConfusion e) fun s' b pl ne hs al sm R'=>q { x with s:=s'} rfl (wj.as ⟨hs,sm,al⟩ (R.ne b ne).1 (R.ne b ne).2 ⟨n,hm,pl⟩) (tT (f:=pw) (i:=i)▸R')
theorem Fr.as(F:Fr G nm C x ρ pw)(a:As G (TP C.env ns) x y)(R:ER G nm C.env y ρ' pw)(sub:∀i o,gt ρ' i=.o o->gt ρ i=.o o):Fr G nm C y ρ' pw:=
 ⟨R,a.st _ F.W.st fun q t=>t.elim fun n t=>F.W.n0 q t.2.ne,F.W.up.trans a.up,F.W.n0,fun i o e=>F.W.p0 i o (sub i o e),fun i j o o' e e' ne=>F.W.ap i j o o' (sub i o e) (sub j o' e') ne,fun b o e=>
  have t:=F.W.pr b o e
  have k:=a.ot b o t.1.1 t.1.2.1 t.1.2.2.1 fun z=>z.elim fun n z=>t.1.2.2.2 z.2.ne
  ⟨⟨k.1,k.2.1,k.2.2,t.1.2.2.2⟩,fun i u e=>t.2 i u (sub i u e)⟩,F.W.sf⟩
end
end
section
structure iK(G:Gl)(d:Nat)(nm:eD)(sc:gm)(t:T)(tgt:Expr)(ns:List Str):Prop where
 go:∀(A:Around)(Er:Value->Shared->Prop)(Q:Unit->Shared->Prop) fz x vs i I X,It G fz x vs i I->Q () x.s->WS G.m A (letOwnedTupleGo tgt (.ref I) X) Q Er x.s
 as:∀(C:Fm)(Er:Value->Shared->Prop)(Q:Unit->Shared->Prop) x ρ pw v X ρ',bJ d nm sc C->bF G x->ER G nm C.env x ρ pw->dF t v ρ=some ρ'->Vr G x v X->(∀y,y.h=x.h->As G (TP C.env ns) x y->ER G nm C.env y ρ' pw->Q () y.s)->WS G.m C.A (assign tgt C.env X) Q Er x.s
 sub:∀v ρ ρ',dF t v ρ=some ρ'->∀i o,gt ρ' i=.o o->gt ρ i=.o o
 hd:∃n i,n∈ns/\nm.lookup n=some i
section
variable{G:Gl}{d:Nat}{nm:eD}{sc:gm}{x y z x0:Sx}{s s':Shared}{u v w:V}{X:Value}{vs:List V}{o:O}{A:Around}{Er:Value->Shared->Prop}{i j f m:Nat}{C:Fm}{env:PySem.Env}{ρ ρ':Env}{pw:Nat->BA}{b I q:Addr}{n:Str}{ob ob':Obj}{fz:Addr->Prop}
 {e a c ie oe:E}{ea eb ec ei ast tgt:Expr}{t:T}{asts:List Expr}{s1 s2:S}{st:Stmt}{ss ts body:List Stmt}{pos pos' apos p1 p2:Pos}{kn kc:Env->H->Prop}{kr:V->Env->H->Prop}
theorem CH(h:gt (Mine.st ρ i (.v v)) j=.o o):gt ρ j=.o o:=(sZ h).elim (fun t=>Sl.noConfusion t.2) fun t=>t.2
theorem KY(hn:nm.lookup n=some i):iK G d nm sc (.one i) (.Name n p1) [n] where
 go:=fun A Er Q fz x vs i I X h q=>WN q
 as:=fun C Er Q x ρ pw v X ρ' O M R e hX q=>by
  cases e
  exact wpAny_assign_Name (wJ O R hn hX (.head _) q)
 sub:=fun v ρ ρ' e i o h=>by cases e;exact CH h
 hd:=⟨n,i,.head _,hn⟩
theorem It.cls(h:It G fz x vs i I):∃o T fs,x.g I=some o/\o.cls=.type T/\o.data=.fields fs/\(["enumerate","zip","dict_itemiterator","dict_reverseitemiterator","odict_iterator","itertools.zip_longest","itertools.pairwise"].contains T)=false:=by
 cases h.is with
 |tup g k l t=>exact t.imp fun o t=>⟨_,_,t.1,t.2.1,t.2.2,by decide⟩
 |lst g k l t=>exact t.imp fun o t=>⟨_,_,t.1,t.2.1,t.2.2,by decide⟩
 |kE t h=>exact⟨_,_,_,t,rfl,rfl,by decide⟩
 |Eu t h=>exact⟨_,_,_,t,rfl,rfl,by decide⟩
 |bL g k l t=>exact t.imp fun o t=>⟨_,_,t.1,t.2.1,t.2.2,by decide⟩
theorem LS{Rr:Result->Shared->Prop}(O:bJ d nm sc C){ns:List Str}(tg:iK G d nm sc t tgt ns)(hb:aF G d nm sc s1 (execs body))(n0:C.x0.g I=.none)(hI:∀o,C.pr I≠some o)
  (q1:∀y ρ pw,Fr G nm C y ρ pw->kn ρ y.h->Rr (.ok .next) y.s)(q3:∀v X y ρ pw,Fr G nm C y ρ pw->Vr G y v X->kr v ρ y.h->Rr (.ok (.ret X)) y.s)(l:Nat):
  ∀i x ρ pw ob,i+l=vs.length->Fr G nm (C.pt I ob x) x ρ pw->It G FX x vs i I->Up C.x1 x->forL False t (fun ρ h kn=>ex mp (mP d) s1 ρ h kn kn kr) kn (vs.drop i) ρ x.h->codeAny G.m C.A (.forLoop tgt (.ref I) body [] C.env) Rr x.s:=by
 induction l with
 |zero=>
  intro i x ρ pw ob e F h u ev
  refine codeAny_of_tree ?_
  rw[show C.A.under (.forLoop tgt (.ref I) body [] C.env)=C.A from Around.under_of_weight rfl]
  show WS _ _ ((forTurn tgt (.ref I) body [] C.env).onRaise (fun x=>do noteFrame x C.env;theTreesLotGoes x)) _ _ x.s
  refine wpAny_noted ?_
  unfold forTurn
  rw[show i=vs.length from e,ZJ]at ev
  refine WJ (Xu (WJ (wpAny_onRaise (jG O.rm.hd F.W.st n0 h (fun v X s' hv=>absurd (WL.mp hv).1 (Yu.mpr (WO e.symm))) fun s' _ hs sm S=>?_))))
  exact WN ⟨rfl,codeAny_block (wpAny_execs_nil (q1 _ ρ pw (F.drop u hI hs S) ev))⟩
 |succ l ih=>
  intro i x ρ pw ob e F h u ev
  have hlt:i<vs.length:=e▸Xx (XK l)
  refine codeAny_of_tree ?_
  rw[show C.A.under (.forLoop tgt (.ref I) body [] C.env)=C.A from Around.under_of_weight rfl]
  show WS _ _ ((forTurn tgt (.ref I) body [] C.env).onRaise (fun x=>do noteFrame x C.env;theTreesLotGoes x)) _ _ x.s
  refine wpAny_noted ?_
  unfold forTurn
  refine WJ (Xu (WJ (wpAny_onRaise (jG O.rm.hd F.W.st n0 h (fun v X s' hv c S h' hX=>?_) fun s' hv _ _ _=>absurd (XR.mp hv) (ZG.mpr hlt)))))
  rw[Ys hlt,(WL.mp hv).2]at ev
  obtain⟨ob',g'⟩:=c.al
  have F1:=F.chg c S g'
  obtain⟨ρ1,hb1,ev⟩:∃ρ',dF t v ρ=some ρ'/\ex mp (mP d) s1 ρ' x.h (forL False t (fun ρ h kn=>ex mp (mP d) s1 ρ h kn kn kr) kn (vs.drop (i+1))) (forL False t (fun ρ h kn=>ex mp (mP d) s1 ρ h kn kn kr) kn (vs.drop (i+1))) kr:=by
   revert ev
   show(match dF t v ρ with|some ρ'=>_|none=>False)->_
   cases dF t v ρ with
   |none=>exact fun h=>h.elim
   |some ρ'=>exact fun h=>⟨ρ',rfl,h⟩
  have u1:Up C.x1 { x with s:=s'}:=u.fix (bO h.f c.hs)
  refine WJ (tg.go C.A _ _ FX { x with s:=s'} vs (i+1) I X h' (WJ (tg.as (C.pt I ob' { x with s:=s'}) _ _ _ _ _ _ _ ρ1 (O.pt (I:=I) (ob:=ob') (x:={ x with s:=s'})) F1.M F1.R hb1 hX fun y eh a R2=>?_)))
  have F2:=F1.as a R2 (tg.sub v ρ ρ1 hb1)
  have next:∀z ρ pw,Fr G nm (C.pt I ob' { x with s:=s'}) z ρ pw->forL False t (fun ρ h kn=>ex mp (mP d) s1 ρ h kn kn kr) kn (vs.drop (i+1)) ρ z.h->codeAny G.m C.A (.forLoop tgt (.ref I) body [] C.env) Rr z.s:=fun z ρ pw F3 ev=>by
   have P:=F3.W.pr I ob' iT
   exact ih (i+1) z ρ pw ob' (by rw[<-e,XO,Yx 1]) ⟨F3.R,F3.W.st,.refl,F3.W.n0,F3.W.p0,F3.W.ap,F3.W.pr,F3.W.sf⟩ (h'.up F3.W.up (P.1.1.trans g'.symm) P.1.2.1 P.1.2.2.1) (u1.trans F3.W.up) ev
  have done:∀z ρ pw,Fr G nm (C.pt I ob' { x with s:=s'}) z ρ pw->Fr G nm C z ρ pw:=fun z ρ pw F3=>
   ⟨F3.R,F3.W.st,u1.trans F3.W.up,F3.W.n0,F3.W.p0,F3.W.ap,fun b o e'=>F3.W.pr b o ((gU (f:=C.pr) (a:=some ob') (show b≠I from fun w=>hI o (by rw[<-w];exact e'))).trans e'),F3.W.sf⟩
  exact WJ (hb (C.pt I ob' { x with s:=s'}) (O.pt (I:=I) (ob:=ob') (x:={ x with s:=s'})) y ρ1 pw F2 _ _ _ _ _ (by rw[eh];exact ev) (fun z ρ pw F3 ev=>WN ⟨rfl,next z ρ pw F3 ev⟩) (fun z ρ pw F3 ev=>WN ⟨rfl,next z ρ pw F3 ev⟩) fun v X z ρ pw F3 hX ev=>WN (q3 v X z ρ pw (done z ρ pw F3) hX ev))
end
end
section
variable{G:Gl}{d:Nat}{nm:eD}{sc:gm}{x y z:Sx}{s:Shared}{u v w r:V}{X:Value}{vs:List V}{Xs:List Value}{o:O}{p:BA}{A:Around}{Er:Value->Shared->Prop}{i j f m:Nat}{C:Fm}{env:PySem.Env}{ρ ρ':Env}{pw:Nat->BA}{I q:Addr}{n nx:Str}{sl:Sl}{ob:Obj}{fz:Addr->Prop}
 {e a c ie oe it:E}{ea eb ec ei ast tgt:Expr}{t:T}{asts:List Expr}{s1 s2:S}{st:Stmt}{ss ts body:List Stmt}{pos pos' apos p1 p2 p3:Pos}{kn kc:Env->H->Prop}{kr:V->Env->H->Prop}
theorem FH(W:Wd G)(he:av G d nm sc it ei)(hp:Pl ei){ns:List Str}(tg:iK G d nm sc t tgt ns)(hb:aF G d nm sc s1 (execs body)):aF G d nm sc (.loop t it s1) (exec (.For tgt ei body [] pos)):=fun C O x ρ pw F kn kc kr Q Er ev q1 q2 q3=>by
 refine wpAny_For (he C O x ρ pw F.M F.R _ _ _ ev fun v X y S hX ev=>?_) (fun x=>hp.fs _ _)
 have F:=F.de S
 obtain⟨vs,e,ev⟩:∃vs,bZ v=some vs/\forL False t (fun ρ h kn=>ex mp (mP d) s1 ρ h kn kn kr) kn vs ρ y.h:=by
  revert ev
  show(match bZ v with|some vs=>_|none=>False)->_
  cases bZ v with
  |none=>exact fun h=>h.elim
  |some vs=>exact fun h=>⟨vs,rfl,h⟩
 refine rA (fz:=FX) W F.M e hX fun z I T n0 hz h=>?_
 have N:=F.new (i:=0) (p:=(I,I)) n0 n0
 have F2:=F.de T
 obtain⟨ob,g⟩:=F2.M.qc I h.f
 exact LS O tg hb N.1.z1 (fun o e=>(N.1.pr I o e).1 rfl) (fun y ρ pw F h=>q1 y ρ pw F h) (fun v X y ρ pw F hX h=>q3 v X y ρ pw F hX h) vs.length 0 z ρ pw ob (XG _) (F2.OW g h.f h.n N.2.1 fun i u hi=>have a:=(F.R.ow i u hi).o.al;⟨fun w=>a.1.elim fun _ e=>sn e (w▸n0),fun w=>a.2.elim fun _ e=>sn e (w▸n0)⟩) h F2.W.up (by rw[hz];exact ev)
theorem xw(e:dF (.two i j) v ρ=some ρ'):∃u w,v=.tup [u,w]/\ρ'=Mine.st (Mine.st ρ i (.v u)) j (.v w):=by
 cases v with
 |tup vs=>cases vs with
  |nil=>exact sn e rfl
  |cons u r=>cases r with
   |nil=>exact sn e rfl
   |cons w r=>cases r with
    |nil=>exact⟨u,w,rfl,(Option.some.inj e).symm⟩
    |cons _ _=>exact sn e rfl
 |_=>exact sn e rfl
theorem Lp{k1:Nat}(W:Wd G)(hn:nm.lookup n=some i)(hm:nm.lookup nx=some j):iK G d nm sc (.two i j) (.Tuple [.Name n p1,.Name nx p2] k1 p3) [n,nx] where
 go:=fun A Er Q fz x vs i I X h q=>by
  obtain⟨o,T,fs,h1,h2,h3,h4⟩:=h.cls
  obtain⟨oc,od,dt,sl⟩:=o
  cases h2
  cases h3
  have fin:∀a,X=.ref a->WS G.m A (letOwnedTupleGo (.Tuple [.Name n p1,.Name nx p2] k1 p3) (.ref I) X) Q Er x.s:=fun a e=>by
   subst e
   unfold letOwnedTupleGo
   refine WJ (wpAny_load h1 ?_)
   dsimp only
   rw[h4,if_neg (show ¬ ((false&&_)=true) from Bool.false_ne_true)]
   exact WN q
  cases X with
  |ref a=>exact fin a rfl
  |_=>exact WN q
 as:=fun C Er Q x ρ pw v X ρ' O M R e hX q=>by
  obtain⟨u,w,rfl,rfl⟩:=xw e
  rw[arm_assign_Tuple]
  refine WJ (Xu ?_)
  unfold unpack
  refine WJ (Xg (mL (vs:=[u,w]) W O.rm.hd M rfl hX fun y Xs ey S hXs=>?_))
  obtain⟨U,V,rfl,h1,h2⟩:=hXs.two
  show WS _ _ (assignInOrder [assign (.Name n p1) C.env,assign (.Name nx p2) C.env] [U,V]) _ _ _
  refine wpAny_assignInOrder_more (wpAny_assign_Name (wJ (ns:=[n,nx]) O (R.de M S) hn h1 (.head _) fun z ez a R'=>?_))
  exact wpAny_assignInOrder_more (wpAny_assign_Name (wJ (ns:=[n,nx]) O R' hm (VR.mono a.up.f a.up.p h2) (.tail _ (.head _)) fun t et c R''=>wpAny_assignInOrder_none (q t ((et.trans ez).trans ey) (S.as.trans (a.trans c)) R'')))
 sub:=fun v ρ ρ' e i o h=>by
  obtain⟨u,w,rfl,rfl⟩:=xw e
  exact CH (CH h)
 hd:=⟨n,i,.head _,hn⟩
end
section
variable{G:Gl}{d:Nat}{nm:eD}{sc:gm}{x y z:Sx}{s s':Shared}{v w r:V}{X Y:Value}{vs:List V}{o:O}{p:BA}{A:Around}{Er:Value->Shared->Prop}{i m:Nat}{C:Fm}{env:PySem.Env}{ρ:Env}{pw:Nat->BA}{q:Addr}{n nx:Str}
 {e a c k:E}{ea eb ec ek ast tgt:Expr}{t:T}{asts:List Expr}{pos pos' apos p1 p2 p3:Pos}
theorem om{P:List V->Prop}{sl:Sl}(h:dy False sl fun o=>(match o with|.list vs=>P vs|_=>False)):∃vs,sl=.o (.list vs)/\P vs:=by
 obtain⟨o,h1,h2⟩:=dZ h
 cases o with
 |list vs=>exact⟨vs,h1,h2⟩
 |_=>exact h2.elim
theorem JM(hv:nm.lookup nx=some i)(ho:bh nx=true):dG G d nm sc (.Ju i) (.Name nx pos):=by
 intro C O x ρ pw M R k1 k2 Q Er ev q1 q2
 obtain⟨vs,h,ev⟩:=om (P:=fun vs=>gk False (.bool (!vs.isEmpty)) (k1 x.h) (k2 x.h)) ev
 refine isTrue_plain (wpAny_Name (fu O R hv h ?_) (aI ho)) rfl
 refine OR.listE (P:=fun p=>WS G.m C.A (truthy (.ref p.1)) Q Er x.s) (R.ow i _ h).o fun l items n g hl z _=>nG g hl z fun tk=>?_
 revert ev
 cases vs.isEmpty with
 |true=>exact fun ev=>q2 { x with s:={ x.s with toks:=tk}} (Step.tk M tk) ev
 |false=>exact fun ev=>q1 { x with s:={ x.s with toks:=tk}} (Step.tk M tk) ev
theorem EV{P:Key->Prop}(h:(match v.key? with|some q=>P q|none=>False)):∃q,v.key? =some q/\P q:=by
 revert h
 cases v.key? with
 |none=>exact fun h=>h.elim
 |some q=>exact fun h=>⟨q,rfl,h⟩
theorem Dk(W:Wd G)(hk:av G d nm sc k ek)(he:av G d nm sc e ea):jd G d nm sc (.iD k e) (.Dict [some ek] [ea] pos):=by
 intro C O x ρ pw M R kk Q Er ev q
 refine wpAny_Dict_any (by rfl) (by rfl) (List.cons_ne_nil _ _) (show 1<=15 by decide) ?_
 have n0:=ax x.s.heap
 have g0:(x.s.heap.push (bk #[] 0)).get? x.s.heap.objs.size=some (bk #[] 0):=Heap.get?_push_size _ rfl
 have S0:=Step.ad (p:=(x.s.heap.objs.size,x.s.heap.objs.size)) M (.push x.s (bk #[] 0) x.s.toks) n0 n0 ⟨_,g0⟩ ⟨_,g0⟩
 have w0:¬ Own x x.s.heap.objs.size:=fK M n0
 refine evalPairs_cons (s:={ x.s with heap:=x.s.heap.push (bk #[] 0)}) (hk C O { x.ad (x.s.heap.objs.size,x.s.heap.objs.size) with s:={ x.s with heap:=x.s.heap.push (bk #[] 0)}} ρ pw S0.M (R.de M S0) _ _ _ ev fun v X y S hX ev=>?_)
 refine WJ (he C O y ρ pw S.M ((R.de M S0).de S0.M S) _ _ _ ev fun w Y z T hY ev=>WJ (Xu (WN ?_)))
 obtain⟨ky,hky,ev⟩:=EV (P:=fun q=>kk (.bL [q] [w]) z.h) ev
 have D:=(S.trans T).ot x.s.heap.objs.size _ g0 (.inr (.inl rfl)) w0
 refine evalPairs_nil ?_
 unfold storeAll
 rw[aby]
 refine WJ (WJ ?_)
 refine jf (ks:=[]) (vs:=[]) (es:=[]) (k:=ky) O.rm.u0 ⟨D.1,PQ W M n0,⟨rfl,aaa,fun _ h=>absurd h aan,XI _⟩,.nil,.nil⟩ rfl (jH hky▸T.vr hX) hY (by decide) fun Hp' es' tk g' d' k' v' hs=>WN ?_
 show WS _ _ (forIn [] PUnit.unit _) _ _ _
 rw[List.forIn_nil]
 have U:=((S0.trans S).trans T).but (s':={ z.s with heap:=Hp',toks:=tk}) n0 D.2.1 D.2.2 hs.extBut ⟨_,g'⟩ ⟨_,_,rfl⟩
 have fr:=bO (s':={ z.s with heap:=Hp',toks:=tk}) D.2.1 hs.extBut
 exact WN (q (.dict [ky] [w]) (x.s.heap.objs.size,x.s.heap.objs.size) _ U (.dict g' (PQ W M n0) d' (cY.mono fr (fun _ _ e=>e) k') (cY.mono fr (fun _ _ e=>e) v')) ⟨D.2.1,D.2.1,D.2.2,D.2.2⟩ n0 n0 ev)
theorem eq_nil(vs:List V):KA vs []=some vs.isEmpty:=by
 unfold KA
 cases h:strs? vs with
 |some x=>
  rw[hE h]
  cases x<;>rfl
 |none=>
  cases vs with
  |nil=>cases h
  |cons a r=>rfl
theorem JK(hv:nm.lookup nx=some i)(ho:bh nx=true):av G d nm sc (.zV i) (.Compare (.Name nx p1) [.NotEq] [.List [] p2] pos):=by
 intro C O x ρ pw M R k Q Er ev q
 rw[arm_eval_Compare]
 obtain⟨vs,h,ev⟩:=om (P:=fun vs=>k (.bool (!vs.isEmpty)) x.h) ev
 refine WJ (wpAny_Name (fu O R hv h ?_) (aI ho))
 show WS _ _ (compareChain _ (.ref (pw i).1) [.NotEq] [eval (.List [] p2) C.env]) _ _ _
 refine WJ (Xg ((Fr.ev (sX (a:=.af) (asts:=[]) rL)) C O x ρ pw M R (fun v h'=>v=.lst []/\h'=x.h) _ _ ⟨rfl,rfl⟩ fun v Y y S hY hk=>WJ (Xu (wpAny_operating ?_))))
 obtain⟨rfl,eh⟩:=hk
 have H:=R.ow i _ h
 refine OR.listE (P:=fun p=>WS G.m C.A (compareOp .NotEq (.ref p.1) Y) Q Er y.s) (S.or H.o H.h) fun l items n g _ _ hl=>?_
 exact hY.hH (P:=fun Y=>WS G.m C.A (compareOp .NotEq (.ref l) Y) Q Er y.s) fun l' items' n' g' _ _ _ hl'=>mQ true O.rm (eq_nil vs) g hl g' hl' (q (.bool (!vs.isEmpty)) _ y S (.bool _) (by rw[eh];exact ev))
end
section
variable{G:Gl}{d:Nat}{nm:eD}{sc:gm}{x y z:Sx}{s:Shared}{v r:V}{X:Value}{A:Around}{Er:Value->Shared->Prop}{i j f m:Nat}{C:Fm}{env:PySem.Env}{ρ ρ':Env}{pw:Nat->BA}{b q:Addr}{n nx:Str}
 {e a c k:E}{ea eb ec ek ast tgt:Expr}{asts:List Expr}{pos pos' apos p1 p2 p3:Pos}
noncomputable def QN(G:Gl)(env:PySem.Env)(n:Str)(f:Value->Sem Unit):Prop:=∀A Q Er s X,WS G.m A (storeName env n X) Q Er s->WS G.m A (f X) Q Er s
inductive MH(G:Gl)(env:PySem.Env)(nm:eD):List (Value->Sem Unit)->List Nat->Prop
 |nil:MH G env nm [] []
 |cons {n:Str} {i:Nat} {f:Value->Sem Unit} {fs:List (Value->Sem Unit)} {is:List Nat}:QN G env n f->nm.lookup n=some i->MH G env nm fs is->MH G env nm (f::fs) (i::is)
theorem yz{fs:List (Value->Sem Unit)}{is:List Nat}{Q:Unit->Shared->Prop}(O:bJ d nm sc C)(N:MH G C.env nm fs is):∀{x:Sx}{ρ:Env}{pw:Nat->BA}{vs:List V}{Xs:List Value},Fr G nm C x ρ pw->cu is vs ρ=some ρ'->Vl G x vs Xs->
  (∀y pw',y.h=x.h->Fr G nm C y ρ' pw'->Q () y.s)->WS G.m C.A (assignInOrder fs Xs) Q Er x.s:=by
 induction N with
 |nil=>
  intro x ρ pw vs Xs F e h q
  cases vs with
  |nil=>cases e;cases h;exact wpAny_assignInOrder_none (q x pw rfl F)
  |cons _ _=>exact sn e rfl
 |cons st hn N ih=>
  intro x ρ pw vs Xs F e h q
  cases vs with
  |nil=>exact sn e rfl
  |cons v vs=>
   cases h with
   |cons a b=>
    exact wpAny_assignInOrder_more (st _ _ _ _ _ (F.MP O hn (sl:=.v v) (p:=pw _) ⟨_,rfl,a⟩ (fun o e=>Sl.noConfusion e) (.inr rfl) fun y eh cv F'=>ih F' e (L2.imp (fun q=>cv _ _ q) b) fun z pw' ez F''=>q z pw' (ez.trans eh) F''))
theorem nK:∀{is:List Nat}{vs:List V}{ρ:Env},cu is vs ρ=some ρ'->vs.length=is.length:=by
 intro is
 induction is with
 |nil=>intro vs ρ e;cases vs with|nil=>rfl|cons _ _=>exact sn e rfl
 |cons i is ih=>intro vs ρ e;cases vs with|nil=>exact sn e rfl|cons v vs=>exact congrArg Nat.succ (ih (ρ:=Mine.st ρ i (.v v)) e)
theorem xm{P:Env->Prop}{is:List Nat}(h:(match v with|.tup vs=>(match cu is vs ρ with|some ρ'=>P ρ'|none=>False)|.lst vs=>(match cu is vs ρ with|some ρ'=>P ρ'|none=>False)|_=>False)):∃vs ρ',GA v=some vs/\cu is vs ρ=some ρ'/\P ρ':=by
 have go:∀vs,(match cu is vs ρ with|some ρ'=>P ρ'|none=>False)->∃ρ',cu is vs ρ=some ρ'/\P ρ':=fun vs h=>by
  revert h
  cases cu is vs ρ with
  |none=>exact fun h=>h.elim
  |some ρ'=>exact fun h=>⟨ρ',rfl,h⟩
 cases v with
 |tup vs=>exact(go vs h).elim fun ρ' t=>⟨vs,ρ',rfl,t⟩
 |lst vs=>exact(go vs h).elim fun ρ' t=>⟨vs,ρ',rfl,t⟩
 |_=>exact h.elim
theorem DL{k1:Nat}{ts:List Expr}{is:List Nat}{Q:Flow->Shared->Prop}{kn kc:Env->H->Prop}{kr:V->Env->H->Prop}(W:Wd G)(O:bJ d nm sc C)(F:Fr G nm C x ρ pw)(he:av G d nm sc e ea)(hs:oO ea)(hw:swappedStores [.Tuple ts k1 p1] ea C.env=pure none)
  (hN:((assignEach ts C.env).length=is.length/\(assignEach ts C.env).findIdx? (·.1)=none)/\MH G C.env nm ((assignEach ts C.env).map (·.2)) is)(ev:ex mp (mP d) (.md is e) ρ x.h kn kc kr)(q1:∀y ρ pw,Fr G nm C y ρ pw->kn ρ y.h->Q .next y.s):WS G.m C.A (exec (.Assign [.Tuple ts k1 p1] ea pos) C.env) Q Er x.s:=
 il (hs _ _ _) hw (he C O x ρ pw F.M F.R _ _ _ ev fun v X y S hX ev=>by
  obtain⟨vs,ρ',e1,e2,ev⟩:=xm (P:=fun ρ'=>kn ρ' y.h) ev
  obtain⟨⟨l1,l2⟩,N⟩:=hN
  rw[arm_assign_Tuple]
  refine WJ (Xu ?_)
  unfold unpack
  rw[l1,l2, <-nK e2]
  exact WJ (Xg (mL W O.rm.hd S.M e1 hX fun z Xs ez T hXs=>yz O N ((F.de S).de T) e2 hXs fun t pw' et F'=>q1 t ρ' pw' F' (by rw[et,ez];exact ev)))) rfl
theorem Dm{k1:Nat}{ts:List Expr}{is:List Nat}(W:Wd G)(he:av G d nm sc e ea)(hs:oO ea)(hw:∀env,swappedStores [.Tuple ts k1 p1] ea env=pure none)
  (hN:∀env,((assignEach ts env).length=is.length/\(assignEach ts env).findIdx? (·.1)=none)/\MH G env nm ((assignEach ts env).map (·.2)) is):aF G d nm sc (.md is e) (exec (.Assign [.Tuple ts k1 p1] ea pos)):=fun C O x ρ pw F kn kc kr Q Er ev q1 q2 q3=>
 DL W O F he hs (hw _) (hN _) ev q1
theorem gj:QN G env n (assign (.Name n p1) env):=fun A Q Er s X h=>wpAny_assign_Name h
theorem tF:QN G env n (bindName env n):=fun A Q Er s X h=>wpAny_bindName h
theorem Hb{k1:Nat}(W:Wd G)(he:av G d nm sc e ea)(hs:oO ea)(hw:∀env,swappedStores [.Tuple [.Name n p2,.Name nx p3] k1 p1] ea env=pure none\/swappedStores [.Tuple [.Name n p2,.Name nx p3] k1 p1] ea env=pure (some [n,nx]))
  (hn:nm.lookup n=some i)(hm:nm.lookup nx=some j)(sw:∀(ρ:Env) a b,Mine.st (Mine.st ρ j b) i a=Mine.st (Mine.st ρ i a) j b):aF G d nm sc (.md [i,j] e) (exec (.Assign [.Tuple [.Name n p2,.Name nx p3] k1 p1] ea pos)):=fun C O x ρ pw F kn kc kr Q Er ev q1 q2 q3=>by
 rcases hw C.env with h|h
 ·exact DL W O F he hs h ⟨⟨rfl,rfl⟩,.cons gj hn (.cons gj hm .nil)⟩ ev q1
 ·rw[arm_exec_Assign]
  refine WJ (Xu ?_)
  show WS _ _ (swapsWith ea (some (.Tuple [.Name n p2,.Name nx p3] k1 p1)) pos.line C.env>>=_) _ _ _
  rw[hs]
  refine WJ (WN (WJ (he C O x ρ pw F.M F.R _ _ _ ev fun v X y S hX ev=>?_)))
  obtain⟨vs,ρ',e1,e2,ev⟩:=xm (P:=fun ρ'=>kn ρ' y.h) ev
  rw[h]
  refine WJ (WN ?_)
  show WS _ _ (do rule "assign.swapped-stores";let items<-unpackItems X 2 none;assignInOrder [bindName C.env nx,bindName C.env n] items.reverse;pure Flow.next) _ _ _
  have l:=nK e2
  rw[show 2=vs.length from l.symm]
  refine WJ (wpAny_rule (WJ (mL W O.rm.hd S.M e1 hX fun z Xs ez T hXs=>WJ ?_)))
  cases vs with
  |nil=>cases l
  |cons a r=>cases r with
   |nil=>cases l
   |cons b r=>cases r with
    |cons _ _=>cases l
    |nil=>
     obtain⟨A,B,rfl,ha,hb⟩:=hXs.two
     exact yz (ρ':=ρ') (is:=[j,i]) (vs:=[b,a]) O (.cons tF hm (.cons tF hn .nil)) ((F.de S).de T) ((congrArg some (sw ρ (.v a) (.v b))).trans e2) (.cons hb (.cons ha .nil)) fun t pw' et F'=>WN (q1 t ρ' pw' F' (by rw[et,ez];exact ev))
end
section
noncomputable def xK(env:PySem.Env)(x:Str×NameKind)(cs:List (Str×Addr)):Sem (ForInStep (List (Str×Addr))):=if x.2==NameKind.free then do let a<-cellOf env x.1;pure (ForInStep.yield ((x.1,a)::cs)) else pure (ForInStep.yield cs)
theorem Gw{env:PySem.Env}(l:gm):∀cs:List (Str×Addr),(∀p∈l,p.2=.free->∃c,env.cells.lookup p.1=some c)->(∀x c,cs.lookup x=some c->env.cells.lookup x=some c)->
  ∃cl,forIn l cs (xK env)=pure cl/\(∀x c,cl.lookup x=some c->env.cells.lookup x=some c)/\∀x,((x,.free)∈l\/∃c,cs.lookup x=some c)->∃c,cl.lookup x=some c:=by
 induction l with
 |nil=>exact fun cs _ h=>⟨cs,rfl,h,fun x t=>t.elim (fun h=>nomatch h) id⟩
 |cons p l ih=>
  intro cs h hc
  obtain⟨n,k⟩:=p
  rw[aby]
  have plain:k≠.free->xK env (n,k) cs=pure (.yield cs)->∃cl,(xK env (n,k) cs>>=fun r=>match r with|.done b=>pure b|.yield b=>forIn l b (xK env))=pure cl/\(∀x c,cl.lookup x=some c->env.cells.lookup x=some c)/\∀x,((x,.free)∈(n,k)::l\/∃c,cs.lookup x=some c)->∃c,cl.lookup x=some c:=fun ne e=>by
   obtain⟨cl,a,b,c⟩:=ih cs (fun p m=>h p (.tail _ m)) hc
   rw[e]
   exact⟨cl,a,b,fun x t=>c x (t.imp (fun m=>(Xp.mp m).elim (fun z=>absurd (congrArg Prod.snd z).symm ne) id) id)⟩
  cases k with
  |free=>
   obtain⟨c,e⟩:=h (n,.free) (.head _) rfl
   obtain⟨cl,a,b,cc⟩:=ih ((n,c)::cs) (fun p m=>h p (.tail _ m)) fun x c' q=>by
    rw[Zc]at q
    cases hx:x==n with
    |true=>rw[hx]at q;cases q;rw[beq_iff_eq.mp hx];exact e
    |false=>rw[hx]at q;exact hc x c' q
   refine⟨cl,?_,b,fun x t=>cc x ?_⟩
   ·show((do let a<-cellOf env n;pure (ForInStep.yield ((n,a)::cs)))>>=_)=_
    rw[show cellOf env n=pure c by unfold cellOf;rw[e]]
    exact a
   ·rw[Zc]
    cases hx:x==n with
    |true=>exact .inr ⟨c,rfl⟩
    |false=>exact t.imp (fun m=>(Xp.mp m).elim (fun z=>absurd (congrArg Prod.fst z) (beq_eq_false_iff_ne.mp hx)) id) id
  |_=>exact plain (fun z=>nomatch z) rfl
theorem Rg{env:PySem.Env}{scope:Scope}(h:∀p∈scope.names,p.2=.free->∃c,env.cells.lookup p.1=some c):∃cl,closureFor scope env=pure cl/\(∀x c,cl.lookup x=some c->env.cells.lookup x=some c)/\∀x,(x,.free)∈scope.names->∃c,cl.lookup x=some c:=by
 obtain⟨cl,a,b,c⟩:=Gw scope.names [] h (fun x c e=>nomatch e)
 exact⟨cl,congrArg (· >>=pure) a,b,fun x m=>c x (.inl m)⟩
theorem hB{env:PySem.Env}{scope:Scope}{cl:List (Str×Addr)}{C:Addr}{x:Str}{k:NameKind}(h:scope.names.lookup x=some k):(compEnvC scope cl C env).kindOf x=some (if(k==NameKind.free&&env.scope.kind==.function&&env.kindOf x==some .cell) then .cell else k):=by
 have go:∀l:gm,l.lookup x=some k->(l.map fun(n,k)=>if(k==NameKind.free&&env.scope.kind==.function&&env.kindOf n==some .cell) then(n,NameKind.cell) else(n,k)).lookup x=some (if(k==NameKind.free&&env.scope.kind==.function&&env.kindOf x==some .cell) then .cell else k):=fun l=>by
  induction l with
  |nil=>exact fun h=>nomatch h
  |cons p l ih=>
   intro h
   obtain⟨n,k'⟩:=p
   rw[Za]
   show List.lookup x ((if(k'==NameKind.free&&env.scope.kind==.function&&env.kindOf n==some .cell) then(n,NameKind.cell) else(n,k'))::_)=_
   rw[<-apply_ite (Prod.mk n),Zc]
   rw[Zc]at h
   cases hx:x==n with
   |true=>rw[hx]at h;cases h;rw[beq_iff_eq.mp hx]
   |false=>rw[hx]at h;exact ih h
 exact go _ h
end
section
noncomputable def tI:T->Nat->Bool
 |.one i,k=>Nat.beq k i
 |.two i j,k=>Nat.beq k i||Nat.beq k j
noncomputable def Cn:T->Env->Env
 |.one i,ρ=>st ρ i .no
 |.two i j,ρ=>st (st ρ i .no) j .no
structure nQ(nm nm':eD)(sc:gm)(scope:Scope)(t:T):Prop where
 kind:scope.kind=.function
 nd:(nm'.map Prod.snd).Nodup
 at':∀p∈nm',(scope.names.lookup p.1=some .local/\tI t p.2=true)\/(scope.names.lookup p.1=some .free/\nm.lookup p.1=some p.2/\sc.lookup p.1=some .cell)
 nc:∀p∈scope.names,p.2≠.cell
 ll:∀p∈scope.names,p.2=.local->scope.names.lookup p.1=some .local
 fr:∀p∈scope.names,p.2=.free->sc.lookup p.1=some .cell/\(nm.lookup p.1).isSome=true
section
variable{G:Gl}{d:Nat}{nm nm':eD}{sc:gm}{x y:Sx}{s:Shared}{u v w r:V}{Z:Value}{o:O}{p:BA}{i j k f:Nat}{C:Fm}{env:PySem.Env}{ρ ρ':Env}{pw:Nat->BA}{b:Addr}{n nx:Str}{t:T}{scope:Scope}{cl:List (Str×Addr)}{Cc:Addr}{m:Str->Option Value}
theorem Ej{a b:Nat}(h:Nat.beq a b=true):a=b:=Ym h
theorem Vy{a b:Bool}(h:(a||b)=true):a=true\/b=true:=by cases a;exact .inr h;exact .inl rfl
theorem pg:gt (st ρ i .no) i=.no:=lA.elim id id
theorem wH(k:Nat):gt (Cn t ρ) k=gt ρ k\/gt (Cn t ρ) k=.no:=by
 have one:∀(ρ:Env) i,gt (st ρ i .no) k=gt ρ k\/gt (st ρ i .no) k=.no:=fun ρ i=>by
  by_cases h:k=i
  ·rw[h];exact .inr pg
  ·exact .inl (eY h)
 cases t with
 |one i=>exact one ρ i
 |two i j=>exact(one (st ρ i .no) j).elim (fun e=>(one ρ i).imp (e.trans ·) (e.trans ·)) .inr
theorem Mm(h:tI t k=true):gt (Cn t ρ) k=.no:=by
 cases t with
 |one i=>rw[Ej h];exact pg
 |two i j=>
  by_cases e:k=j
  ·rw[e];exact pg
  ·exact(eY e).trans ((Vy h).elim (fun h=>by rw[Ej h];exact pg) fun h=>absurd (Ej h) e)
theorem yn{a c:Sl}:∀{ρ:Env}{i j:Nat},i≠j->st (st ρ i a) j c=st (st ρ j c) i a:=by
 intro ρ
 induction ρ with
 |nil=>intro i j _;rfl
 |cons h r ih=>
  intro i j ne
  cases i with
  |zero=>cases j with|zero=>exact absurd rfl ne|succ j=>rfl
  |succ i=>cases j with|zero=>rfl|succ j=>exact congrArg (h::·) (ih fun e=>ne (congrArg _ e))
noncomputable def tN:T->Prop|.one _=>True|.two i j=>i≠j
theorem Ad(hn:tN t)(h:dF t v ρ=some ρ'):dF t v (Cn t ρ)=some ρ':=by
 cases t with
 |one i=>exact(congrArg some wX).trans h
 |two i j=>
  obtain⟨u,w,rfl,rfl⟩:=xw h
  show some (st (st (st (st ρ i .no) j .no) i (.v u)) j (.v w))=_
  rw[yn (i:=j) (j:=i) (Ne.symm hn),wX,wX]
theorem Bp(h:dF t v ρ=some ρ')(k:Nat):gt (Cn t ρ) k=gt ρ' k\/gt (Cn t ρ) k=.no:=by
 cases t with
 |one i=>
  cases h
  by_cases e:k=i
  ·rw[e];exact .inr pg
  ·exact .inl ((eY e).trans (eY e).symm)
 |two i j=>
  obtain⟨u,w,rfl,rfl⟩:=xw h
  by_cases e:k=j
  ·rw[e];exact .inr pg
  ·by_cases e':k=i
   ·exact .inr ((eY e).trans (by rw[e'];exact pg))
   ·exact .inl (((eY e).trans (eY e')).trans ((eY e).trans (eY e')).symm)
theorem ed{α:Type}{l:List (Str×α)}{a:α}:l.lookup n=some a->(n,a)∈l:=by
 induction l with
 |nil=>exact fun h=>nomatch h
 |cons p l ih=>
  intro h
  obtain⟨m,c⟩:=p
  rw[Zc]at h
  cases e:n==m with
  |true=>rw[e]at h;cases h;rw[beq_iff_eq.mp e];exact .head _
  |false=>rw[e]at h;exact .tail _ (ih h)
theorem BV{l:eD}:(l.map Prod.snd).Nodup->(n,i)∈l->(nx,i)∈l->n=nx:=by
 induction l with
 |nil=>exact fun _ h=>nomatch h
 |cons p l ih=>
  intro hn h h'
  have hn:=Yr.mp hn
  rcases Xp.mp h with e|h<;>rcases Xp.mp h' with e'|h'
  ·exact congrArg Prod.fst (e.trans e'.symm)
  ·exact absurd (ZT (f:=Prod.snd) h') (by rw[<-e]at hn;exact hn.1)
  ·exact absurd (ZT (f:=Prod.snd) h) (by rw[<-e']at hn;exact hn.1)
  ·exact ih hn.2 h h'
theorem nQ.cells(Z:nQ nm nm' sc scope t)(O:bJ d nm sc C)(R:ER G nm C.env x ρ pw):∀p∈scope.names,p.2=.free->∃c,C.env.cells.lookup p.1=some c:=fun p hp hf=>by
 obtain⟨a,b⟩:=Z.fr p hp hf
 obtain⟨i,hi⟩:=YZ.mp b
 obtain⟨ov,hb,_⟩:=R.nm p.1 i hi
 exact hb.elim (fun t=>nomatch (Option.some.inj ((O.kd _ a).symm.trans t.1))) fun t=>t.2.imp fun c t=>t.1
noncomputable def Fm.cp(C:Fm)(scope:Scope)(cl:List (Str×Addr))(Cc:Addr):Fm:={ C with env:=compEnvC scope cl Cc C.env}
theorem bJ.cp(O:bJ d nm sc C)(Z:nQ nm nm' sc scope t)(h1:∀x c,cl.lookup x=some c->C.env.cells.lookup x=some c)(nN:¬ NE C.env Cc):bJ d nm' scope.names (C.cp scope cl Cc) where
 rm:=O.rm
 kind:=Z.kind
 glob:=O.glob
 bi:=O.bi
 gl:=fun x h=>hB h
 kd:=fun x h=>hB h
 inj:=fun x y i h h'=>BV Z.nd (ed h) (ed h')
 Ot:=fun x c h e=>nN (.inr ⟨x,(h1 x c h).trans (congrArg some e)⟩)
 Dq:=fun x y c h h'=>O.Dq x y c (h1 x c h) (h1 y c h')
theorem ER.cp(O:bJ d nm sc C)(Z:nQ nm nm' sc scope t)(R:ER G nm C.env x ρ pw)(h1:∀x c,cl.lookup x=some c->C.env.cells.lookup x=some c)(h2:∀x,(x,.free)∈scope.names->∃c,cl.lookup x=some c)
  (f:x.F Cc)(w:¬ Own x Cc)(hns:x.s.heap.Ns Cc m)(no:∀i o,gt ρ i=.o o->Cc≠(pw i).1/\Cc≠(pw i).2):ER G nm' (C.cp scope cl Cc).env x (Cn t ρ) pw where
 nm:=fun y i h=>by
  rcases Z.at' _ (ed h) with ⟨a,b⟩|⟨a,b,c⟩
  ·exact⟨m y,.inl ⟨hB a,m,hns,rfl⟩,by rw[Mm b];trivial⟩
  ·obtain⟨ov,hb,sv⟩:=R.nm y i b
   refine⟨ov,hb.elim (fun t=>nomatch (Option.some.inj ((O.kd _ c).symm.trans t.1))) fun t=>.inr ⟨?_,?_⟩,(wH i).elim (fun e=>by rw[e];exact sv) fun e=>by rw[e];trivial⟩
   ·refine(hB a).trans ?_
    rw[O.kind,t.1];rfl
   ·obtain⟨c',e,ic⟩:=t.2
    obtain⟨c2,e2⟩:=h2 y (ed a)
    cases (h1 y c2 e2).symm.trans e
    exact⟨_,e2,ic⟩
 ne:=fun b e=>e.elim (fun e=>by rw[e];exact⟨f,w⟩) fun e=>e.elim fun y e=>R.ne b (.inr ⟨y,h1 y b e⟩)
 ow:=fun i o h=>by
  have h:=(wH i).elim (fun e=>e.symm.trans h) fun e=>nomatch e.symm.trans h
  have t:=R.ow i o h
  have nn:∀{b:Addr},¬ NE C.env b->Cc≠b->¬ NE (C.cp scope cl Cc).env b:=fun nb ne e=>e.elim (fun e=>ne e.symm) fun e=>e.elim fun y e=>nb (.inr ⟨y,h1 y _ e⟩)
  exact⟨t.o,t.h,nn t.e1 (no i o h).1,nn t.e2 (no i o h).2⟩
end
end
section
variable{G:Gl}{d:Nat}{nm:eD}{sc:gm}{x y z xo:Sx}{s s':Shared}{u v r:V}{X:Value}{vs:List V}{o:O}{p:BA}{A:Around}{Er:Value->Shared->Prop}{i j k f:Nat}{C:Fm}{env:PySem.Env}{ρ ρ':Env}{pw:Nat->BA}{b I q D:Addr}{n:Str}{fz:Addr->Prop}{ns:List Str}{t:T}{m:Str->Option Value}
theorem FD{Q:Value->Shared->Prop}(h:It G fz x vs i I)(q:Q (.ref I) x.s):WS G.m A (pyIter (.ref I)) Q Er x.s:=by
 cases h.is with
 |tup g k l t=>exact wpAny_pyIter_tupleiter t q
 |lst g k l t=>exact wpAny_pyIter_listiter t q
 |kE t _=>exact wpAny_pyIter_rangeiter t q
 |Eu t _=>exact wpAny_pyIter_longiter t q
 |bL g k l t=>exact wpAny_pyIter_keyiter t q
theorem Hd.drop(h:Or G x o p)(H:Hd x p)(f:x.F I)(hs:Heap.ExtBut I x.s.heap s'.heap)(n1:p.1≠I)(n2:p.2≠I):Or G { x.rl (I,I) with s:=s'} o p/\Hd { x.rl (I,I) with s:=s'} p:=
 ⟨OR.mono (fun b o e m=>⟨hs b o (fun z=>m (z▸f)) e,fun z=>m z.1⟩) (fun _ _ e=>e) (fun u e=>hs _ u n1 e) (fun u e=>hs _ u n2 e) h,⟨H.f1,n1,n1⟩,⟨H.f2,n2,n2⟩,H.n1,H.n2⟩
noncomputable def BodyOk(G:Gl)(d:Nat)(nm:eD)(C:Fm)(D:Addr){α:Type}(acc:List α->O)(elt:Env->H->(Option α->H->Prop)->Prop)(rest:Sem Fin)(next:Code):Prop:=
 ∀x ρ pw pre (k:Option α->H->Prop) (R:Fin->Shared->Prop) (Er:Value->Shared->Prop),pre.length<SZ->bF G x->ER G nm C.env x ρ pw->Or G x (acc pre) (D,D)->Hd x (D,D)->elt ρ x.h k->
  (∀y o,As G (· =D) x y->Or G y (acc (pre++o.toList)) (D,D)->Hd y (D,D)->k o y.h->R (.again next) y.s)->WS G.m C.A rest R Er x.s
noncomputable abbrev si(p0:Pos)(I:Addr)(tgt:Expr)(env:PySem.Env)(rest:Sem Fin):Sem Fin:=standAt p0>>=fun _=>pyNext (.ref I)>>=fun r=>match r with
 |none=>pure (.done .next)
 |some v=>letOwnedTupleGo tgt (.ref I) v>>=fun _=>assign tgt env v>>=fun _=>rest
theorem EX{α:Type}{acc:List α->O}{elt:Env->H->(Option α->H->Prop)->Prop}{rest:Sem Fin}{next:Code}{tgt:Expr}{p0:Pos}{K:List α->H->Prop}{Rr:Result->Shared->Prop}(O:bJ d nm sc C)(tg:iK G d nm sc t tgt ns)(hN:tN t)(hl:∀n∈ns,C.env.kindOf n=some .local)
  (hc:∀s,(∀Er,WS G.m C.A (si p0 I tgt C.env rest) (fun fin s'=>match fin with|.done f=>Rr (.ok f) s'|.again c=>c.quiet=true/\codeAny G.m C.A c Rr s') Er s)->codeAny G.m C.A next Rr s)(hq:next.quiet=true)
  (hb:BodyOk G d nm C D acc elt rest next)(n0:xo.g I=none)(nD:xo.g D=none)(nC:xo.g C.env.locals=none)(ID:I≠D)(IC:I≠C.env.locals)(DC:D≠C.env.locals)(fD:∀b,fz b->b≠D/\b≠C.env.locals)(nE:¬ NE C.env D)(nI:¬ NE C.env I)
  (no:∀i o,gt ρ i=.o o->(D≠(pw i).1/\D≠(pw i).2)/\I≠(pw i).1/\I≠(pw i).2)(zs:vs.length<=SZ)
  (q:∀y xs m,Step G xo y->y.s.heap.Ns C.env.locals m->y.F C.env.locals->¬ Own y C.env.locals->Or G y (acc xs) (D,D)->Hd y (D,D)->K xs y.h->Rr (.ok .next) y.s)(l:Nat):
  ∀i x pre,i+l=vs.length->pre.length<=i->Step G xo x->ER G nm C.env x (Cn t ρ) pw->It G fz x vs i I->Or G x (acc pre) (D,D)->Hd x (D,D)->cJ False t ρ elt (vs.drop i) x.h (fun xs h=>K (pre++xs) h)->codeAny G.m C.A next Rr x.s:=by
 have no':∀i o,gt (Cn t ρ) i=.o o->(D≠(pw i).1/\D≠(pw i).2)/\I≠(pw i).1/\I≠(pw i).2:=fun i o h=>no i o ((wH i).elim (fun e=>e.symm.trans h) fun e=>nomatch e.symm.trans h)
 have hT:∀q,TP C.env ns q->q=C.env.locals:=fun q t=>t.elim fun n t=>t.2.elim (fun z=>z.2) fun z=>nomatch Option.some.inj ((hl n t.1).symm.trans z.1)
 induction l with
 |zero=>
  intro i x pre e pl S R h Oa H ev
  rw[show i=vs.length from e,ZJ]at ev
  refine hc _ fun Er=>WJ (Xu (WJ (jG O.rm.hd S n0 h (fun v X s' hv=>absurd (WL.mp hv).1 (Yu.mpr (WO e.symm))) fun s' _ hs sm T=>WN ?_)))
  obtain⟨n,j,hn,hj⟩:=tg.hd
  obtain⟨ov,bd,_⟩:=R.nm n j hj
  obtain⟨m,ns,_⟩:∃m,x.s.heap.Ns C.env.locals m/\m n=ov:=bd.elim (fun t=>t.2) fun t=>nomatch Option.some.inj ((hl n hn).symm.trans t.1)
  have a:=Hd.drop Oa H h.f hs (Ne.symm ID) (Ne.symm ID)
  have f:=R.ne _ (.inl rfl)
  exact q { x.rl (I,I) with s:=s'} pre m T (ns.at fun o e=>hs _ o (Ne.symm IC) e) ⟨f.1,Ne.symm IC,Ne.symm IC⟩ f.2 a.1 a.2 (by rw[<-Xo pre];exact ev)
 |succ l ih=>
  intro i x pre e pl S R h Oa H ev
  have hlt:i<vs.length:=e▸Xx (XK l)
  refine hc _ fun Er=>WJ (Xu (WJ (jG O.rm.hd S n0 h (fun v X s' hv c S1 h1 hX=>?_) fun s' hv _ _ _=>absurd (XR.mp hv) (ZG.mpr hlt))))
  rw[Ys hlt,(WL.mp hv).2]at ev
  obtain⟨ρ1,hb1,ev⟩:∃ρ',dF t v ρ=some ρ'/\elt ρ' x.h fun o h=>cJ False t ρ elt (vs.drop (i+1)) h fun xs h=>K (pre++(match o with|some a=>a::xs|none=>xs)) h:=by
   revert ev
   show(match dF t v ρ with|some ρ'=>_|none=>False)->_
   cases dF t v ρ with
   |none=>exact fun h=>h.elim
   |some ρ'=>exact fun h=>⟨ρ',rfl,h⟩
  have a1:As G (· =I) x { x with s:=s'}:=c.as h.f h.n rfl
  have R1:=R.as S.M a1 (fun b e z=>nI (z▸e)) fun i o e=>⟨fun z=>(no' i o e).2.1 z.symm,fun z=>(no' i o e).2.2 z.symm⟩
  have k1:=Hd.as Oa H a1 (Ne.symm ID) (Ne.symm ID)
  refine WJ (tg.go C.A _ _ fz { x with s:=s'} vs (i+1) I X h1 (WJ (tg.as C _ _ { x with s:=s'} (Cn t ρ) pw v X ρ1 O S1.M R1 (Ad hN hb1) hX fun y ey a2 R2=>?_)))
  have S2:=a2.st _ S1 fun q t=>hT q t▸nC
  have h2:=h1.as S1.M a2 (fun z=>IC (hT _ z)) fun b e z=>(fD b e).2 (hT _ z)
  have k2:=Hd.as k1.1 k1.2 a2 (fun z=>DC (hT _ z)) fun z=>DC (hT _ z)
  refine hb y ρ1 pw pre _ _ _ (WM pl (WY hlt zs)) S2.M R2 k2.1 k2.2 (by rw[ey];exact ev) fun z o a3 O3 H3 ev=>⟨hq,?_⟩
  have S3:=a3.st _ S2 fun q t=>t▸nD
  refine ih (i+1) z (pre++o.toList) (by rw[<-e,XO,Yx 1]) ?_ S3 ((R2.as S2.M a3 (fun b e z=>nE (z▸e)) fun i o e=>have k:=(no i o (tg.sub v ρ ρ1 hb1 i o e)).1;⟨fun z=>k.1 z.symm,fun z=>k.2 z.symm⟩).weak (Bp hb1)) (h2.as S2.M a3 ID fun b e=>(fD b e).1) O3 H3 ?_
  ·rw[Xd]
   exact XM pl (by cases o;exact XI _;exact WQ _)
  ·cases o with
   |none=>show cJ False t ρ elt _ _ fun xs h=>K (pre++[]++xs) h;rw[Xo];exact ev
   |some a=>rw[show(fun xs h=>K (pre++(some a).toList++xs) h)=fun xs h=>K (pre++a::xs) h from funext fun xs=>by rw[Xn];rfl];exact ev
end
section
noncomputable def gK(e:Expr)(env:PySem.Env)(use:Option (Value->Sem Unit)):Sem Value:=match e with
 |.ListComp elt gens scope pos=>comprehension (.ListComp elt gens scope pos) scope env (firstIterPos gens pos) (newList []) (firstAsync gens) (firstIter gens env) use
 |.DictComp k v gens scope pos=>comprehension (.DictComp k v gens scope pos) scope env (firstIterPos gens pos) newDict (firstAsync gens) (firstIter gens env) use
 |_=>eval e env
section
variable(G:Gl)(d:Nat)(nm:eD)(sc:gm)
noncomputable def yq(iter:Expr)(src:Env->H->(List V->H->Prop)->Prop):Prop:=∀C,bJ d nm sc C->∀x ρ pw,bF G x->ER G nm C.env x ρ pw->∀(k:List V->H->Prop)(Q Er:Value->Shared->Prop),src ρ x.h k->
 (∀vs y z I fz,Step G x y->y.g I=none->Step G y z->It G fz z vs 0 I->(∀b,fz b->∃o,y.g b=some o)->vs.length<=SZ->k vs z.h->Q (.ref I) z.s)->WS G.m C.A (eval iter C.env) (fun X s=>WS G.m C.A (pyIter X) Q Er s) Er x.s
structure Cd(C:Fm)(x y:Sx)(o:O)(p:BA)(Cc:Addr):Prop where
 S:Step G x y
 O:Or G y o p
 H:Hd y p
 n1:x.g p.1=none
 n2:x.g p.2=none
 n3:x.g Cc=none
 ns:∃m,y.s.heap.Ns Cc m
 f:y.F Cc
 w:¬ Own y Cc
 e1:p.1≠Cc
 e2:p.2≠Cc
noncomputable def lL(e:E)(ast:Expr):Prop:=∀C,bJ d nm sc C->∀x ρ pw,bF G x->ER G nm C.env x ρ pw->∀(k:V->H->Prop) use (Q Er:Value->Shared->Prop),ev mp (mP d) e ρ x.h k->
 (∀o p y Cc,Cd G C x y o p Cc->k o.v y.h->compPost G.m C.A Er use Q (.ref p.1) Cc (.ok .next) y.s)->WS G.m C.A (gK ast C.env use) Q Er x.s
end
section
variable{G:Gl}{d:Nat}{nm nm':eD}{sc:gm}{x y z xo:Sx}{s s':Shared}{w:V}{Z:Value}{vs:List V}{o:O}{p:BA}{A:Around}{Er:Value->Shared->Prop}{i f:Nat}{C:Fm}{env cenv:PySem.Env}{ρ:Env}{pw:Nat->BA}{b I q D:Addr}{n:Str}{ns:List Str}{t:T}{scope:Scope}{Cc:Addr}{m:Str->Option Value}
 {e:Expr}{iter tgt:Expr}{p0 pos:Pos}{Rr:Result->Shared->Prop}
theorem zE{rest:Sem Fin}(hu:A.under (.compLoop e 0 (.ref I) (.ref D) cenv)=A)(teq:G.m.den (.compLoop e 0 (.ref I) (.ref D) cenv)=(si p0 I tgt cenv rest).onRaise fun x=>do noteFrame x cenv;theTreesLotGoes x)(h:∀Er,WS G.m A (si p0 I tgt cenv rest) (fun fin s'=>match fin with|.done f=>Rr (.ok f) s'|.again c=>c.quiet=true/\codeAny G.m A c Rr s') Er s):codeAny G.m A (.compLoop e 0 (.ref I) (.ref D) cenv) Rr s:=by
 refine codeAny_of_tree ?_
 rw[hu]
 rw[teq]
 exact wpAny_noted (h _)
theorem tL{α:Type}{acc:List α->O}{elt:Env->H->(Option α->H->Prop)->Prop}{src:Env->H->(List V->H->Prop)->Prop}{ifs:List Expr}{newAcc:Sem Value}{oA:Obj}{K:List α->H->Prop}{use:Option (Value->Sem Unit)}{Q:Value->Shared->Prop}{rest:Addr->Addr->PySem.Env->Sem Fin}
  (hcl:clausesOf e=[⟨tgt,iter,ifs,0⟩])(hp:∀env x,foldedSetIterable iter env x=pure x)(Z:nQ nm nm' sc scope t)(hN:tN t)(tg:iK G d nm' scope.names t tgt ns)(hl:∀n∈ns,scope.names.lookup n=some .local)
  (hnew:∀(A:Around)(s:Shared)(Q Er:Value->Shared->Prop),Q (.ref s.heap.objs.size) { s with heap:=s.heap.push oA}->WS G.m A newAcc Q Er s)(fr:oA.isFreed=false)(hA:∀x D,x.g D=some oA->(D==sysModules)=false->Or G x (acc []) (D,D))
  (hb:∀C D I,bJ d nm' scope.names C->BodyOk G d nm' C D acc elt (rest I D C.env) (.compLoop e 0 (.ref I) (.ref D) C.env))(teq:∀I D cenv,G.m.den (.compLoop e 0 (.ref I) (.ref D) cenv)=(si p0 I tgt cenv (rest I D cenv)).onRaise fun x=>do noteFrame x cenv;theTreesLotGoes x)
  (hu:∀(A:Around) I D cenv,A.under (.compLoop e 0 (.ref I) (.ref D) cenv)=A)(hs:∀A I D cenv s Rr,codeAny G.m A (.compLoop e 0 (.ref I) (.ref D) cenv) Rr s->(∀Er,WS G.m A (pyIter (.ref I)) (fun it' s'=>codeAny G.m A (.compLoop e 0 it' (.ref D) cenv) Rr s') Er s)->codeAny G.m A (.compStart e 0 (.ref I) (.ref D) cenv) Rr s)
  (W:Wd G)(hsrc:yq G d nm sc iter src)(O:bJ d nm sc C)(M:bF G x)(R:ER G nm C.env x ρ pw)(ev:src ρ x.h fun vs h=>cJ False t ρ elt vs h K)
  (q:∀xs p y Cc,Cd G C x y (acc xs) p Cc->K xs y.h->compPost G.m C.A Er use Q (.ref p.1) Cc (.ok .next) y.s):WS G.m C.A (comprehension e scope C.env pos newAcc false (eval iter C.env) use) Q Er x.s:=by
 obtain⟨cl,c0,c1,c2⟩:=Rg (Z.cells O R)
 refine wpAny_comprehension_free hcl (fun x=>hp _ x) c0 Z.kind Z.ll ?_
 refine hsrc C O x ρ pw M R _ _ _ ev fun vs y z I fz S n0 T h hf zs ev=>hnew _ _ _ _ ?_
 have nD:=ax z.s.heap
 have gD:(z.s.heap.push oA).get? z.s.heap.objs.size=some oA:=Heap.get?_push_size _ fr
 have S3:=Step.ad (p:=(z.s.heap.objs.size,z.s.heap.objs.size)) T.M (.push z.s oA z.s.toks) nD nD ⟨_,gD⟩ ⟨_,gD⟩
 have wD:¬ Own z z.s.heap.objs.size:=fK T.M nD
 have nsD:=PQ W T.M nD
 revert nD gD S3 wD nsD
 generalize z.s.heap.objs.size=D
 intro nD gD S3 wD nsD
 refine wpAny_newFunctionEnv (s:={ z.s with heap:=z.s.heap.push oA}) Z.nc (fun y hy=>nomatch hy) (fun H4 hns hsb=>?_) Z.kind
 have nC:=ax (z.s.heap.push oA)
 revert nC hns hsb
 show ∀(hns:H4.Ns (z.s.heap.push oA).objs.size _)(hsb:Heap.SameBut (z.s.heap.push oA).objs.size _ H4)(nC:(z.s.heap.push oA).get? (z.s.heap.push oA).objs.size=none),codeAny G.m C.A (.compStart e 0 (.ref I) (.ref D) (compEnvC scope cl (z.s.heap.push oA).objs.size C.env)) (compPost G.m C.A Er use Q (.ref D) (z.s.heap.push oA).objs.size) _
 generalize (z.s.heap.push oA).objs.size=Cc
 intro hns hsb nC
 have aC:∃o,H4.get? Cc=some o:=hns.imp fun o t=>t.elim fun _ t=>t.elim fun _ t=>t.1
 have K4:Kp { z.s with heap:=z.s.heap.push oA} { z.s with heap:=H4,toks:=z.s.toks+0}:=⟨⟨_,_,rfl⟩,fun b o e=>hsb.extBut b o (fun w=>sn (w▸e) nC) (aA _ _ _ _ e)⟩
 have S4:=Step.ad (p:=(Cc,Cc)) S3.M K4 nC nC aC aC
 have wC:=fK S3.M nC
 have T2:=T.trans (S3.trans S4)
 have R4:=R.de M (S.trans T2)
 have DC:D≠Cc:=fun w=>sn gD (w▸nC)
 have new:∀{b o},y.g b=some o->b≠D/\b≠Cc:=fun e=>⟨fun w=>(T.al _ _ e).elim fun _ e=>sn e (w▸nD),fun w=>((T.trans S3).al _ _ e).elim fun _ e=>sn e (w▸nC)⟩
 have M1:=S.M
 have Ry:=R.de M S
 have nN:∀b,NE C.env b->b≠D/\b≠Cc/\b≠I:=fun b e=>(M1.qc b (Ry.ne b e).1).elim fun o g=>⟨(new g).1,(new g).2,fun w=>sn g (w▸n0)⟩
 have nO:∀i o,gt ρ i=.o o->((D≠(pw i).1/\D≠(pw i).2)/\I≠(pw i).1/\I≠(pw i).2)/\Cc≠(pw i).1/\Cc≠(pw i).2:=fun i o e=>by
  have a:=(Ry.ow i o e).o.al
  obtain⟨⟨_,g1⟩,_,g2⟩:=a
  exact⟨⟨⟨(new g1).1.symm,(new g2).1.symm⟩,fun w=>sn g1 (w▸n0),fun w=>sn g2 (w▸n0)⟩,(new g1).2.symm,(new g2).2.symm⟩
 have O':bJ d nm' scope.names (C.cp scope cl Cc):=O.cp Z c1 fun w=>(nN _ w).2.1 rfl
 have R':ER G nm' (C.cp scope cl Cc).env _ (Cn t ρ) pw:=ER.cp O Z R4 c1 c2 (.inr (.inl rfl)) wC hns fun i o e=>(nO i o e).2
 have gI:=T.M.qc I h.f
 have ID:I≠D:=fun w=>gI.elim fun _ g=>sn g (w▸nD)
 have IC:I≠Cc:=fun w=>gI.elim fun o g=>sn (aA _ _ _ _ g) (w▸nC)
 have gl:∀{b},NE (C.cp scope cl Cc).env b->b=Cc\/NE C.env b:=fun e=>e.elim .inl fun e=>e.elim fun y e=>.inr (.inr ⟨y,c1 y _ e⟩)
 have H3:=S3.hd (o:=acc []) (p:=(D,D))
 have OA:Or G { z.ad (D,D) with s:={ z.s with heap:=z.s.heap.push oA}} (acc []) (D,D):=hA _ D gD nsD
 have HD:Hd { z.ad (D,D) with s:={ z.s with heap:=z.s.heap.push oA}} (D,D):=⟨.inr (.inl rfl),.inr (.inl rfl),wD,wD⟩
 have run:=EX (G:=G) (p0:=p0) (K:=K) (Rr:=compPost G.m C.A Er use Q (.ref D) Cc) (xo:=y) O' tg hN (fun n hn=>hB (hl n hn)) (fun s=>zE (hu _ I D _) (teq I D _)) rfl (hb (C.cp scope cl Cc) D I O') n0 (by
   cases g:y.g D with|none=>rfl|some o=>exact absurd rfl (new g).1) (by
   show y.g Cc=none
   cases g:y.g Cc with|none=>rfl|some o=>exact absurd rfl (new g).2) ID IC DC (fun b fb=>(hf b fb).elim fun o g=>new g) (fun w=>(gl w).elim DC fun w=>(nN _ w).1 rfl) (fun w=>(gl w).elim IC fun w=>(nN _ w).2.2 rfl) (fun i o e=>(nO i o e).1) zs
  (fun yy xs m U ns f w Oa Ha k=>q xs (D,D) yy Cc ⟨S.trans U,Oa,Ha,S.none (by
   cases g:y.g D with|none=>rfl|some o=>exact absurd rfl (new g).1),S.none (by
   cases g:y.g D with|none=>rfl|some o=>exact absurd rfl (new g).1),S.none (by
   cases g:y.g Cc with|none=>rfl|some o=>exact absurd rfl (new g).2),⟨m,ns⟩,f,w,DC,DC⟩ k)
  vs.length 0 _ [] (XG _) (XI _) T2 R' (h.st T.M (S3.trans S4)) (S4.or OA HD) (S4.hd OA HD) ev
 exact hs _ I D _ _ _ run fun Er=>FD (h.st T.M (S3.trans S4)) run
end
end
section
noncomputable def xn(e:Expr)(ifs:List Expr)(elt:Expr)(I D:Addr)(env:PySem.Env):Sem Fin:=do
 let mut ok:=true
 for c in ifs do
  if ok then ok<-isTrue c env (eval c env)
 if ok then
  (do let _<-call (.builtin "list.append") [.ref D, <-eval elt env])
 again (.compLoop e 0 (.ref I) (.ref D) env)
noncomputable abbrev Ak(ifs:List Expr)(env:PySem.Env):Sem Bool:=forIn ifs true fun c r=>if r=true then do let ok<-isTrue c env (eval c env);pure (ForInStep.yield ok) else pure (ForInStep.yield r)
section
variable{G:Gl}{d:Nat}{nm nm':eD}{sc:gm}{x y z:Sx}{s s':Shared}{v r:V}{X Z:Value}{vs:List V}{o o':O}{p:BA}{A:Around}{i:Nat}{C:Fm}{env cenv:PySem.Env}{ρ:Env}{pw:Nat->BA}{b I q D:Addr}{n nx:Str}{ns:List Str}{t:T}{scope:Scope}{Cc:Addr}{m:Str->Option Value}
 {e:Expr}{iter tgt:Expr}{p0 pos:Pos}{Rr:Result->Shared->Prop}{ex cx ix:Expr}{el it c:E}{ifs:List Expr}{Er:Value->Shared->Prop}
theorem qa{R:Fin->Shared->Prop}(h:WS G.m A (Ak ifs env) (fun ok s₁=>if ok=true then WS G.m A (eval ex env) (fun x s₂=>WS G.m A (call (.builtin "list.append") [.ref D,x]) (fun _ s₃=>R (.again (.compLoop e 0 (.ref I) (.ref D) env)) s₃) Er s₂) Er s₁ else R (.again (.compLoop e 0 (.ref I) (.ref D) env)) s₁) Er s):
  WS G.m A (xn e ifs ex I D env) R Er s:=by
 unfold xn
 refine WJ (wpAny_mono h (fun ok s₁ h₁=>?_) fun _ _ e=>e)
 cases ok with
 |false=>exact WN h₁
 |true=>exact WJ (WJ (wpAny_mono h₁ (fun x s₂ h₂=>WJ (wpAny_mono h₂ (fun _ s₃ h₃=>WN (WN h₃)) fun _ _ e=>e)) fun _ _ e=>e))
theorem Wr.as{P:Shared->Prop}(H:Hd x (D,D))(q:∀y,As G (· =D) x y->y.h=x.h->Or G y o' (D,D)->Hd y (D,D)->P y.s):Wr G x (D,D) o' P:=fun s' sm hs hO=>by
 obtain⟨b,hb,hs⟩:=hs
 have e:b=D:=hb.elim (fun e=>e) fun e=>e
 subst e
 have O':=hO x.F (bO H.f1 hs)
 exact q { x with s:=s'} (wj.as ⟨hs,sm,O'.al.1⟩ H.f1 H.n1 rfl) rfl O' ⟨H.f1,H.f1,H.n1,H.n1⟩
theorem Ck{pre:List V}{k:Option V->H->Prop}{R:Shared->Prop}(he:av G d nm sc el ex)(O:bJ d nm sc C)(hz:pre.length<SZ)(M:bF G x)(Re:ER G nm C.env x ρ pw)(Oa:Or G x (.list pre) (D,D))(H:Hd x (D,D))(ev:ev mp (mP d) el ρ x.h fun v h=>k (some v) h)
  (q:∀y o,As G (· =D) x y->Or G y (.list (pre++o.toList)) (D,D)->Hd y (D,D)->k o y.h->R y.s):WS G.m C.A (eval ex C.env) (fun X s₂=>WS G.m C.A (call (.builtin "list.append") [.ref D,X]) (fun _ s₃=>R s₃) Er s₂) Er x.s:=
 he C O x ρ pw M Re _ _ _ ev fun v X y S hX ev=>yr (m:=0) (vs:=pre) (args:=[v]) (r:=(.none,pre++[v])) (by
  show(match decide (pre.length<SZ) with|true=>some (V.none,pre++[v])|false=>none)=_
  rw[decide_eq_true hz]) (S.or Oa H) (.cons hX .nil) fun Z _=>Wr.as (S.hd Oa H) fun z a ez Oz Hz=>q z (some v) (S.as.trans a) Oz Hz (ez▸ev)
theorem sW{ec:E}{elt:Env->H->(Option V->H->Prop)->Prop}{src:Env->H->(List V->H->Prop)->Prop}(W:Wd G)(hp:Pl iter)(Z:nQ nm nm' sc scope t)(hN:tN t)(tg:iK G d nm' scope.names t tgt ns)(hl:∀n∈ns,scope.names.lookup n=some .local)(hsrc:yq G d nm sc iter src)
  (hev:∀ρ h k,ev mp (mP d) ec ρ h k->src ρ h fun vs h=>cJ False t ρ elt vs h fun xs h=>k (.lst xs) h)
  (hb:∀C D I,bJ d nm' scope.names C->BodyOk G d nm' C D O.list elt (xn (.ListComp ex [⟨tgt,iter,ifs,0⟩] scope pos) ifs ex I D C.env) (.compLoop (.ListComp ex [⟨tgt,iter,ifs,0⟩] scope pos) 0 (.ref I) (.ref D) C.env)):
  lL G d nm sc ec (.ListComp ex [⟨tgt,iter,ifs,0⟩] scope pos):=fun C O x ρ pw M R k use Q Er ev q=>
 tL (p0:=iter.pos) (oA:=dg (List.toArray []) 0) (acc:=Mine.O.list) (elt:=elt) (src:=src) (K:=fun xs h=>k (.lst xs) h) (rest:=xn (.ListComp ex [⟨tgt,iter,ifs,0⟩] scope pos) ifs ex) rfl (fun env x=>hp.fs env x) Z hN tg hl (fun A s Q Er h=>wpAny_newObj_type h) rfl (fun x D g _=>.list g (XI _) .nil) hb (fun I D cenv=>rfl)
  (fun A I D cenv=>Around.under_of_weight rfl) (fun A I D cenv s Rr a b=>codeAny_compStart_list a (b _)) W hsrc O M R (hev _ _ _ ev) fun xs p y Cc c k=>q _ p y Cc c k
noncomputable def OQ(d:Nat)(it:E)(ρ:Env)(h:H)(k:List V->H->Prop):Prop:=ev mp (mP d) it ρ h fun v h=>match bZ v with|some vs=>wI False vs (k vs h)|.none=>False
theorem wu(W:Wd G)(hit:av G d nm sc it ix):yq G d nm sc ix (OQ d it):=fun C O x ρ pw M R k Q Er ev q=>
 hit C O x ρ pw M R _ _ _ ev fun v X y S hX ev=>by
  obtain⟨vs,e,ev⟩:∃vs,bZ v=some vs/\wI False vs (k vs y.h):=by
   revert ev
   show(match bZ v with|some vs=>_|none=>False)->_
   cases bZ v with
   |none=>exact fun h=>h.elim
   |some vs=>exact fun h=>⟨vs,rfl,h⟩
  obtain⟨z,ev⟩:vs.length<=SZ/\k vs y.h:=by
   revert ev
   unfold wI
   cases e:decide (vs.length<=SZ) with
   |false=>exact fun h=>h.elim
   |true=>exact fun h=>⟨of_decide_eq_true e,h⟩
  exact rA W S.M e hX fun z' I T n0 ez h=>q vs y z' I FX S n0 T h (fun _ h=>h.elim) z (ez▸ev)
noncomputable def Sn(i:Nat)(ρ:Env)(h:H)(k:List V->H->Prop):Prop:=dy False (gt ρ i) fun o=>match o with|.list vs=>k vs h|_=>False
theorem FZ(hv:nm.lookup nx=some i)(ho:bh nx=true):yq G d nm sc (.Name nx pos) (Sn i):=fun C O x ρ pw M R k Q Er ev q=>by
 obtain⟨vs,h,ev⟩:=om (P:=fun vs=>k vs x.h) ev
 refine wpAny_Name (fu O R hv h ?_) (aI ho)
 have hh:=R.ow i _ h
 have hd:=hh.h
 refine OR.listE (P:=fun p=>Hd x p->WS G.m C.A (pyIter (.ref p.1)) Q Er x.s) hh.o (fun l items n g hl z h' hd=>?_) hd
 exact Ir (fz:=fun b=>∃o,x.g b=some o) M g (fun _=>⟨hd.n1,_,g⟩) h' fun y I S n0 ey hI=>q vs x y I _ (Step.refl M) n0 S hI (fun b h=>h) z (ey▸ev)
theorem Bf(W:Wd G)(he:av G d nm' scope.names el ex)(hit:av G d nm sc it ix)(hp:Pl ix)(Z:nQ nm nm' sc scope t)(hN:tN t)(tg:iK G d nm' scope.names t tgt ns)(hl:∀n∈ns,scope.names.lookup n=some .local):lL G d nm sc (.aM el t it) (.ListComp ex [⟨tgt,ix,[],0⟩] scope pos):=
 sW W hp Z hN tg hl (wu W hit) (fun ρ h k ev=>ev) fun C D I O x ρ pw pre k R Er hz M Re Oa H ev q=>qa (wpAny_tests_nil (by rw[if_pos rfl];exact Ck he O hz M Re Oa H ev q))
theorem yR(W:Wd G)(he:av G d nm' scope.names el ex)(hv:nm.lookup nx=some i)(ho:bh nx=true)(hp:Pl (.Name nx p0))(Z:nQ nm nm' sc scope t)(hN:tN t)(tg:iK G d nm' scope.names t tgt ns)(hl:∀n∈ns,scope.names.lookup n=some .local):lL G d nm sc (.je el t i) (.ListComp ex [⟨tgt,.Name nx p0,[],0⟩] scope pos):=
 sW W hp Z hN tg hl (FZ hv ho) (fun ρ h k ev=>ev) fun C D I O x ρ pw pre k R Er hz M Re Oa H ev q=>qa (wpAny_tests_nil (by rw[if_pos rfl];exact Ck he O hz M Re Oa H ev q))
theorem wQ(W:Wd G)(he:av G d nm' scope.names el ex)(hc:dG G d nm' scope.names c cx)(hit:av G d nm sc it ix)(hp:Pl ix)(Z:nQ nm nm' sc scope t)(hN:tN t)(tg:iK G d nm' scope.names t tgt ns)(hl:∀n∈ns,scope.names.lookup n=some .local):lL G d nm sc (.bQ el t it c) (.ListComp ex [⟨tgt,ix,[cx],0⟩] scope pos):=
 sW W hp Z hN tg hl (wu W hit) (fun ρ h k ev=>ev) fun C D I O x ρ pw pre k R Er hz M Re Oa H ev q=>qa (wpAny_tests_one (hc C O x ρ pw M Re (fun h=>Mine.ev mp (mP d) el ρ h fun v h=>k (some v) h) (fun h=>k .none h) _ _ ev
  (fun y S ev=>by rw[if_pos rfl];exact Ck he O hz S.M (Re.de M S) (S.or Oa H) (S.hd Oa H) ev fun z o a=>q z o (S.as.trans a)) fun y S ev=>by
   rw[if_neg Bool.false_ne_true];exact q y .none S.as (by rw[show pre++(none:Option V).toList=pre from Xo _];exact S.or Oa H) (S.hd Oa H) ev))
end
end
section
noncomputable def AO(e:Expr)(ifs:List Expr)(kx vx:Expr)(I D:Addr)(env:PySem.Env):Sem Fin:=do
 let mut ok:=true
 for c in ifs do
  if ok then ok<-isTrue c env (eval c env)
 if ok then
  (do
   let kv<-eval kx env
   let vv<-holding [kv] (eval vx env)
   standAt { kx.pos with endLine:=vx.pos.endLine,endCol:=vx.pos.endCol}
   holding [kv,vv] (dictSet D kv vv))
 again (.compLoop e 0 (.ref I) (.ref D) env)
noncomputable abbrev Jp(xs:List (List Int×V)):O:=.dict (putAll [] [] xs).1 (putAll [] [] xs).2
section
variable{G:Gl}{d:Nat}{nm nm':eD}{sc:gm}{x y z:Sx}{s s':Shared}{v w r:V}{X Y Z:Value}{vs:List V}{p:BA}{A:Around}{C:Fm}{env cenv:PySem.Env}{ρ:Env}{pw:Nat->BA}{b I q D:Addr}{n:Str}{ns:List Str}{t:T}{scope:Scope}{Cc:Addr}{m:Str->Option Value}
 {e:Expr}{iter tgt:Expr}{p0 pos:Pos}{Rr:Result->Shared->Prop}{ex cx ix kx vx:Expr}{el it c ek ew:E}{ifs:List Expr}{Er:Value->Shared->Prop}{ks:List Key}{k:List Int}
theorem putAll_snoc:∀(r:List (List Int×V)){ks:List Key}{vs:List V},putAll ks vs (r++[(k,v)])=(bB (.tup k) (putAll ks vs r).1,fT (.tup k) v (putAll ks vs r).1 (putAll ks vs r).2):=by
 intro r
 induction r with
 |nil=>intros;rfl
 |cons p r ih=>intro ks vs;exact ih
theorem Fd:(∀x∈ks,x.isInt=false)->(∀x∈bB (.tup k) ks,x.isInt=false)/\(bB (.tup k) ks).length<=ks.length+1:=by
 induction ks with
 |nil=>exact fun _=>⟨fun x m=>by rw[WW.mp m];rfl,WQ _⟩
 |cons k' ks ih=>
  intro h
  have ih:=ih fun x m=>h x (.tail _ m)
  cases e:decide (Key.tup k=k') with
  |true=>rw[(IY (v:=.none) (vs:=[]) (w:=.none) e).1];exact⟨h,Yj _⟩
  |false=>
   rw[(IT (v:=.none) (vs:=[]) (w:=.none) e).1]
   exact⟨fun x m=>(Xp.mp m).elim (fun e=>h x (e▸.head _)) (ih.1 x),Xi ih.2⟩
theorem wg:∀(r:List (List Int×V)){ks:List Key}{vs:List V},(∀x∈ks,x.isInt=false)->(∀x∈(putAll ks vs r).1,x.isInt=false)/\(putAll ks vs r).1.length<=ks.length+r.length:=by
 intro r
 induction r with
 |nil=>exact fun h=>⟨h,WQ _⟩
 |cons p r ih=>
  intro ks vs h
  have a:=Fd (k:=p.1) h
  have b:=ih (vs:=fT (.tup p.1) p.2 ks vs) a.1
  exact⟨b.1,WH b.2 (by rw[XT,Yx r.length, <-XO];exact Xw a.2 _)⟩
theorem Ef{R:Fin->Shared->Prop}(h:WS G.m A (Ak ifs env) (fun ok s₁=>if ok=true then WS G.m A (eval kx env) (fun kv s₂=>WS G.m A (eval vx env) (fun vv s₃=>WS G.m A (dictSet D kv vv) (fun _ s₄=>R (.again (.compLoop e 0 (.ref I) (.ref D) env)) s₄) Er s₃) Er s₂) Er s₁ else R (.again (.compLoop e 0 (.ref I) (.ref D) env)) s₁) Er s):
  WS G.m A (AO e ifs kx vx I D env) R Er s:=by
 unfold AO
 refine WJ (wpAny_mono h (fun ok s₁ h₁=>?_) fun _ _ e=>e)
 cases ok with
 |false=>exact WN h₁
 |true=>
  exact WJ (WJ (wpAny_mono h₁ (fun x s₂ h₂=>WJ (Xg (wpAny_mono h₂ (fun vv s₃ h₃=>WJ (Xu (Xg (wpAny_mono h₃ (fun _ s₄ h₄=>WN h₄) fun _ _ e=>e)))) fun _ _ e=>e))) fun _ _ e=>e))
theorem Dn{P:List Int->Prop}(h:tupK False v P):∃is,v=(Key.tup is).v/\P is:=by
 cases v with
 |tup vs=>
  revert h
  show(match ints? vs with|some is=>P is|none=>False)->_
  cases e:ints? vs with
  |none=>exact fun h=>h.elim
  |some is=>exact fun h=>⟨is,congrArg V.tup (ints_map e),h⟩
 |_=>exact h.elim
theorem vO(W:Wd G)(hk:av G d nm' scope.names ek kx)(he:av G d nm' scope.names ew vx)(hc:dG G d nm' scope.names c cx)(hit:av G d nm sc it ix)(hp:Pl ix)(Z:nQ nm nm' sc scope t)(hN:tN t)(tg:iK G d nm' scope.names t tgt ns)(hl:∀n∈ns,scope.names.lookup n=some .local):
  lL G d nm sc (.kY ek ew t it c) (.DictComp kx vx [⟨tgt,ix,[cx],0⟩] scope pos):=fun C O x ρ pw M R k use Q Er ev q=>
 tL (p0:=ix.pos) (oA:=bk #[] 0) (acc:=Jp) (src:=OQ d it) (K:=fun xs h=>k (.bL (putAll [] [] xs).1 (putAll [] [] xs).2) h) (rest:=AO (.DictComp kx vx [⟨tgt,ix,[cx],0⟩] scope pos) [cx] kx vx) rfl (fun env x=>hp.fs env x) Z hN tg hl (fun A s Q Er h=>by unfold newDict;exact wpAny_newObj_type h) rfl
  (fun x D g m=>.dict (es:=[]) g m ⟨rfl,aaa,(fun _ h=>nomatch h),XI _⟩ .nil .nil) (fun C D I O x ρ pw pre k R Er hz M Re Oa H ev q=>Ef (wpAny_tests_one (hc C O x ρ pw M Re (fun h=>Mine.ev mp (mP d) ek ρ h fun v h=>Mine.ev mp (mP d) ew ρ h fun w h=>tupK False v fun q=>k (some (q,w)) h) (fun h=>k .none h) _ _ ev (fun y S ev=>by
   rw[if_pos rfl]
   refine hk C O y ρ pw S.M (Re.de M S) _ _ _ ev fun v X z T hX ev=>he C O z ρ pw T.M ((Re.de M S).de S.M T) _ _ _ ev fun w Y z' U hY ev=>?_
   obtain⟨is,rfl,ev2⟩:=Dn ev
   have S2:=S.trans (T.trans U)
   have H':=S2.hd Oa H
   have pt:=wg pre (ks:=[]) (vs:=[]) fun _ h=>nomatch h
   obtain⟨es,DD⟩:∃es,vc G z'.β z'.F z'.s.heap D (putAll [] [] pre).1 (putAll [] [] pre).2 es:=OR.lM (P:=fun p=>∃es,vc G z'.β z'.F z'.s.heap p.1 (putAll [] [] pre).1 (putAll [] [] pre).2 es) (S2.or Oa H) fun l es D=>⟨es,D⟩
   refine jf (k:=.tup is) O.rm.u0 DD ?_ (U.vr hX) hY (WM pt.2 (by rw[show([]:List Key).length=0 from rfl,XG];exact hz)) fun Hp' es' tk g' d' k' v' hs=>?_
   ·revert pt
    cases (putAll [] [] pre).1 with
    |nil=>exact fun _=>rfl
    |cons a r=>exact fun pt=>beq_iff_eq.mpr (pt.1 a (.head _)).symm
   ·have fr:=bO (s':={ z'.s with heap:=Hp',toks:=tk}) H'.f1 hs.extBut
    have O4:OR G z'.β z'.F Hp' (Jp (pre++[(is,w)])) (D,D):=by unfold Jp;rw[putAll_snoc];exact .dict g' DD.m d' (cY.mono fr (fun _ _ e=>e) k') (cY.mono fr (fun _ _ e=>e) v')
    exact q { z' with s:={ z'.s with heap:=Hp',toks:=tk}} (some (is,w)) (S2.as.trans (wj.as ⟨hs.extBut,⟨_,_,rfl⟩,_,g'⟩ H'.f1 H'.n1 rfl)) O4 ⟨H'.f1,H'.f1,H'.n1,H'.n1⟩ ev2) fun y S ev=>by
   rw[if_neg Bool.false_ne_true];exact q y .none S.as (by rw[show pre++(none:Option (List Int×V)).toList=pre from Xo _];exact S.or Oa H) (S.hd Oa H) ev)))
  (fun I D cenv=>rfl) (fun A I D cenv=>Around.under_of_weight rfl) (fun A I D cenv s Rr a b=>codeAny_compStart_dict a (b _)) W (wu W hit) O M R ev fun xs p y Cc c k=>q _ p y Cc c k
end
end
section
variable{G:Gl}{d:Nat}{nm:eD}{sc:gm}{x y z x0:Sx}{s s':Shared}{u v w:V}{X:Value}{o o':O}{p:BA}{A:Around}{Er:Value->Shared->Prop}{i f:Nat}{C:Fm}{env:PySem.Env}{ρ ρ':Env}{pw:Nat->BA}{b q Cc:Addr}{n:Str}
 {e:E}{ea ast:Expr}{pos p1:Pos}{kn kc:Env->H->Prop}{kr:V->Env->H->Prop}
theorem BK(h:lL G d nm sc e ast)(he:∀env,eval ast env=gK ast env none):jd G d nm sc e ast:=fun C O x ρ pw M R k Q Er ev q=>by
 rw[he]
 exact h C O x ρ pw M R k none Q Er ev fun o p y Cc c ev=>c.ns.imp fun m ns=>⟨ns,fun h' hs=>
  have a:=Hd.drop (s':={ y.s with heap:=h'}) c.O c.H c.f hs.extBut c.e1 c.e2
  q o p _ (c.S.drop (s':={ y.s with heap:=h'}) c.n3 c.f c.w hs.extBut ⟨_,_,rfl⟩) a.1 a.2 c.n1 c.n2 ev⟩
theorem Ct{t:Value->Sem Unit}{Q:Shared->Prop}(F:Fr G nm C y ρ pw)(hns:∃m,y.s.heap.Ns Cc m)(f:y.F Cc)(w:¬ Own y Cc)(n0:C.x0.g Cc=none)(nN:¬ NE C.env Cc)(ap:∀i u,gt ρ i=.o u->Cc≠(pw i).1/\Cc≠(pw i).2)(hI:∀o,C.pr Cc≠some o)
  (hu:∀ob (Q':Unit->Shared->Prop),Fr G nm (C.pt Cc ob y) y ρ pw->(∀z ρ' pw',Fr G nm (C.pt Cc ob y) z ρ' pw'->kn ρ' z.h->Q' () z.s)->WS G.m C.A (t X) Q' Er y.s)
  (q:∀z ρ' pw',Fr G nm C z ρ' pw'->kn ρ' z.h->Q z.s):WS G.m C.A (t X) (fun _ s''=>∃m,s''.heap.Ns Cc m/\∀h',Heap.SameBut Cc s''.heap h'->Q { s'' with heap:=h'}) Er y.s:=by
 obtain⟨ob,g⟩:=F.M.qc Cc f
 refine hu ob _ (F.OW g f w nN ap) fun z ρ' pw' F' k=>hns.imp fun m ns=>?_
 have P:=F'.W.pr Cc ob iT
 exact⟨ns.at fun o e=>by rw[show o=ob from Option.some.inj (e.symm.trans g)];exact P.1.1,fun h' hs=>q _ ρ' pw' (F'.drop (s':={ z.s with heap:=h'}) F.W.up hI hs.extBut (F'.W.st.drop (s':={ z.s with heap:=h'}) n0 P.1.2.1 P.1.2.2.1 hs.extBut ⟨_,_,rfl⟩)) k⟩
theorem CZ{t:Expr}{Q:Flow->Shared->Prop}(hu:∀env use,evalThenUse ea env use=do let _<-gK ea env (some use))(hw:∃b,swapsWith ea (some t) pos.line env=pure b)(ht:swappedStores [t] ea env=pure none)(he:(assignEach [t] env).map (·.2)=[assign t env])
  (h1:WS G.m A (eval ea env) (fun X s=>WS G.m A (assign t env X) (fun _ s=>Q .next s) Er s) Er s)(h2:WS G.m A (gK ea env (some (assign t env))) (fun _ s'=>Q .next s') Er s):WS G.m A (exec (.Assign [t] ea pos) env) Q Er s:=by
 obtain⟨b,hb⟩:=hw
 cases b with
 |false=>exact il hb ht h1 he
 |true=>
  rw[arm_exec_Assign]
  refine WJ (Xu ?_)
  show WS _ _ (swapsWith ea (some t) pos.line env>>=_) _ _ _
  rw[hb]
  refine WJ (WN ?_)
  show WS _ _ (do evalThenUse ea env (fun V=>assignAll V ((assignEach [t] env).map (·.2)));pure Flow.next) _ _ _
  rw[he,hu]
  exact WJ (WJ (wpAny_mono h2 (fun _ _ h=>WN (WN h)) fun _ _ e=>e))
theorem Ie(c:Cd G C x y o p Cc)(F:Fr G nm C x ρ pw):∀i u,gt ρ i=.o u->Cc≠(pw i).1/\Cc≠(pw i).2:=fun i u h=>
 have a:=(F.R.ow i u h).o.al
 ⟨fun w=>a.1.elim fun _ e=>sn e (w▸c.n3),fun w=>a.2.elim fun _ e=>sn e (w▸c.n3)⟩
theorem GN(h:lL G d nm sc e ea)(he:∀env,eval ea env=gK ea env none)(hu:∀env use,evalThenUse ea env use=do let _<-gK ea env (some use))(hw:∀env,∃b,swapsWith ea (some (.Name n p1)) pos.line env=pure b)(hn:nm.lookup n=some i):aF G d nm sc (.asg i e) (exec (.Assign [.Name n p1] ea pos)):=fun C O x ρ pw F kn kc kr Q Er ev q1 q2 q3=>
 CZ hu (hw _) rfl rfl (Fr.ev (BK h he) C O x ρ pw F.M F.R _ _ _ ev fun v X y S hX ev=>(F.de S).GH O hn hX ev q1) (h C O x ρ pw F.M F.R (fun v h=>kn (Mine.st ρ i (.v v)) h) (some (assign (.Name n p1) C.env)) (fun _ s'=>Q .next s') Er ev fun o p y Cc c ev=>by
  have N:=F.new (i:=0) (p:=(Cc,Cc)) c.n3 c.n3
  exact Ct (kn:=kn) (y:=y.rl p) (X:=.ref p.1) (t:=assign (.Name n p1) C.env) (Q:=Q .next) (F.de (c.S.rl c.n1 c.n2 c.H.n1 c.H.n2)) c.ns ⟨c.f,c.e1.symm,c.e2.symm⟩ c.w N.1.z1 N.2.1 (Ie c F) (fun o e=>(N.1.pr Cc o e).1 rfl)
   (fun ob Q' F' q=>F'.GH (C:=C.pt Cc ob (y.rl p)) O.pt hn (OR.vr (xb c.O) (fun z=>z.2.1 rfl) fun z=>z.2.2 rfl) ev q) q1)
theorem DM(h:lL G d nm sc e ea)(he:∀env,eval ea env=gK ea env none)(hu:∀env use,evalThenUse ea env use=do let _<-gK ea env (some use))(hw:∀env,∃b,swapsWith ea (some (.Name n p1)) pos.line env=pure b)(hn:nm.lookup n=some i)(ne:i≠0):aF G d nm sc (.aY i e) (exec (.Assign [.Name n p1] ea pos)):=fun C O x ρ pw F kn kc kr Q Er ev q1 q2 q3=>
 have inv:∀{o:Mine.O}{h:H},(match own o.v with|some o=>kn (Mine.st ρ i (.o o)) h|none=>False)->kn (Mine.st ρ i (.o o)) h:=fun{o h} ev=>by
  obtain⟨o',h1,h2,ev⟩:=qZ (P:=fun o=>kn (Mine.st ρ i (.o o)) h) ev
  cases Jf h2
  exact ev
 CZ hu (hw _) rfl rfl (BK h he C O x ρ pw F.M F.R (fun v h=>(match own v with|some o=>kn (Mine.st ρ i (.o o)) h|none=>False)) _ _ ev fun o p y S Op H n1 n2 ev=>F.Pa O S hn Op H n1 n2 ne (inv ev) q1) (h C O x ρ pw F.M F.R (fun v h=>(match own v with|some o=>kn (Mine.st ρ i (.o o)) h|none=>False)) (some (assign (.Name n p1) C.env)) (fun _ s'=>Q .next s') Er ev fun o p y Cc c ev=>by
  have N:=F.new (i:=0) (p:=(Cc,Cc)) c.n3 c.n3
  have N2:=F.new (i:=i) c.n1 c.n2
  exact Ct (kn:=kn) (y:=y) (X:=.ref p.1) (t:=assign (.Name n p1) C.env) (Q:=Q .next) (F.de c.S) c.ns c.f c.w N.1.z1 N.2.1 (Ie c F) (fun o e=>(N.1.pr Cc o e).1 rfl)
   (fun ob Q' F' q=>F'.Iv (x:=x) (C:=C.pt Cc ob y) O.pt hn c.O c.H ⟨N2.1.z1,N2.1.z2,N2.1.ap,fun b ob' e=>(wK e).elim (fun t=>t.1▸⟨c.e1.symm,c.e2.symm⟩) fun t=>N2.1.pr b ob' t.2⟩ N2.2.1 N2.2.2 ne (inv ev) q) q1)
end
section
theorem RY{α:Type}{l:List (Str×α)}{n x:Str}{a:α}:((n,a)::l).lookup x=match x==n with|true=>some a|false=>l.lookup x:=rfl
section
variable{P:Str->Prop}{f:List (Str×Value)->(Str->Option Value)->Str->Option Value}{x:Str}{V:Value}
theorem ud(h0:∀m,f [] m=m)(h1:∀n v r m,P n->f ((n,v)::r) m=f r fun y=>if y=n then some v else m y)(h2:∀n v r m,¬ P n->f ((n,v)::r) m=f r m)(hP:P x){xs:List Str}:∀{ws:List Value}{i:Nat}{m:Str->Option Value},xs.Nodup->xs[i]? =some x->ws[i]? =some V->f (xs.zip ws) m x=some V:=by
 have skip:∀(l:List (Str×Value)) m,x∉l.map Prod.fst->f l m x=m x:=fun l=>by
  induction l with
  |nil=>exact fun m _=>by rw[h0]
  |cons p r ih=>
   intro m h
   obtain⟨n,v⟩:=p
   have nm:x∉r.map Prod.fst:=fun q=>h (.tail _ q)
   by_cases q:P n
   ·rw[h1 n v r m q,ih _ nm,if_neg fun(e:x=n)=>h (e▸.head _)]
   ·rw[h2 n v r m q,ih _ nm]
 induction xs with
 |nil=>intro ws i m _ h;cases h
 |cons y ys ih=>
  intro ws i m hn h e
  have hn:=Yr.mp hn
  cases ws with
  |nil=>cases e
  |cons w ws=>
   rw[aaX]
   cases i with
   |zero=>
    cases h;cases e
    rw[h1 _ _ _ _ hP,skip _ _ fun q=>hn.1 ((XN.mp q).elim fun p t=>t.2▸(abz t.1).1),if_pos rfl]
   |succ i=>
    by_cases q:P y
    ·rw[h1 _ _ _ _ q];exact ih hn.2 h e
    ·rw[h2 _ _ _ _ q];exact ih hn.2 h e
end
theorem zq{kindOf:Str->Option NameKind}{x:Str}{V:Value}{xs:List Str}{ws:List Value}{i:Nat}{m:Str->Option Value}(hk:kindOf x=some .local)(hn:xs.Nodup)(h:xs[i]? =some x)(e:ws[i]? =some V):bindL kindOf (xs.zip ws) m x=some V:=
 ud (f:=bindL kindOf) (P:=fun n=>kindOf n=some .local) (fun _=>rfl) (fun n v r m q=>congrArg (bindL kindOf r) (if_pos q)) (fun n v r m q=>congrArg (bindL kindOf r) (if_neg q)) hk hn h e
theorem zm{kindOf:Str->Option NameKind}{x:Str}{V:Value}{xs:List Str}{ws:List Value}{i:Nat}{m:Str->Option Value}(hk:kindOf x≠some .local)(hn:xs.Nodup)(h:xs[i]? =some x)(e:ws[i]? =some V):bindC kindOf (xs.zip ws) m x=some V:=
 ud (f:=bindC kindOf) (P:=fun n=>kindOf n≠some .local) (fun _=>rfl) (fun n v r m q=>congrArg (bindC kindOf r) (if_neg q)) (fun n v r m q=>congrArg (bindC kindOf r) (if_pos (Classical.not_not.mp q))) hk hn h e
theorem oX{x:Str}(l:gm):∀(n:Nat)(acc:List (Str×Addr)),((∃c,acc.lookup x=some c)\/(x,.cell)∈l)->∃c,(cellsFrom n l acc).lookup x=some c:=by
 induction l with
 |nil=>exact fun n acc h=>h.elim id fun h=>nomatch h
 |cons p r ih=>
  intro n acc h
  obtain⟨y,k⟩:=p
  unfold cellsFrom
  have plain:k≠.cell->∃c,(cellsFrom n r acc).lookup x=some c:=fun ne=>ih n acc (h.imp id fun m=>(Xp.mp m).elim (fun e=>absurd (congrArg Prod.snd e).symm ne) id)
  cases k with
  |cell=>
   refine ih (n+1) ((y,n)::acc) ?_
   rw[RY]
   cases e:x==y with
   |true=>exact .inl ⟨n,rfl⟩
   |false=>exact h.imp id fun m=>(Xp.mp m).elim (fun z=>absurd (congrArg Prod.fst z) (beq_eq_false_iff_ne.mp e)) id
  |_=>exact plain fun z=>nomatch z
structure we(G:Gl)(a:Addr)(F:Fn)(fd:FuncData)(body:List Stmt)(xs:List Str)(nm:eD)(ds:List Value):Prop where
 ao:∃o,G.h0.get? a=some o/\o.data=.func fd
 bd:fd.body=.stmts body
 cl:fd.closure=[]
 gl:fd.globals=mainGlobals
 bi:fd.builtins=builtinsNs
 co:fd.scope.isCoroutine=false
 ge:fd.scope.isGenerator=false
 kd:fd.scope.kind=.function
 cr:G.h0.CodeRec fd.code fd.qualname
 np:xs.length=F.np
 nd:xs.Nodup
 bt:∀(s:Shared) vals,(∀b o,G.h0.get? b=some o->s.heap.get? b=some o)->F.np<=vals.length+ds.length->vals.length<=F.np->BindsTo s fd ⟨vals,[]⟩ (xs.zip (vals++ds.drop (ds.length-(F.np-vals.length))))
 dv:cY G [] (fun _=>False) G.h0 F.nZ ds
 nx:∀x i,nm.lookup x=some i->i<F.np->xs[i]? =some x
 nk:∀x i,nm.lookup x=some i->fd.scope.names.lookup x=some .local\/fd.scope.names.lookup x=some .cell
 xk:∀x∈xs,fd.scope.names.lookup x=some .local\/fd.scope.names.lookup x=some .cell
 inj:(nm.map Prod.snd).Nodup
 st:∀d,dq G d->aF G d nm fd.scope.names F.body (execs body)
section
variable{G:Gl}{d:Nat}{nm:eD}{x y z x0:Sx}{s s₁:Shared}{w:V}{ws:List Value}{o o':O}{p:BA}{A:Around}{i j:Nat}{ρ:Env}{pw:Nat->BA}{b q a:Addr}{n nx:Str}
 {F:Fn}{fd:FuncData}{body:List Stmt}{xs:List Str}{ds:List Value}{sf:Option BA}
theorem Ai(h:x.s.heap.objs.size<=b):x.g b=none:=by
 cases q:x.g b with
 |none=>rfl
 |some o=>exact absurd (Heap.lt_size q) (Yu.mpr h)
theorem Fr.entry(O:we G a F fd body xs nm ds)(S:Step G x0 x)(hv:∀i,gt ρ i≠.no->i<F.np/\∃V,ws[i]? =some V/\Dr G x (gt ρ i) (some V) (pw i))(ho:∀i o,gt ρ i=.o o->(Or G x o (pw i)/\Hd x (pw i))/\x0.g (pw i).1=none/\x0.g (pw i).2=none)
  (hap:∀i j o o',gt ρ i=.o o->gt ρ j=.o o'->i≠j->Ap (pw i) (pw j))(hsf:∀p,sf=some p->pw 0=p)
  (c:InCallC x.s (callEnvC fd x.s.heap.objs.size a).locals (bindL (callEnvC fd x.s.heap.objs.size a).kindOf (xs.zip ws) fun _=>none) (callEnvC fd x.s.heap.objs.size a).cells (bindC (callEnvC fd x.s.heap.objs.size a).kindOf (xs.zip ws) fun _=>none) s₁):
  ∃y,y.s=s₁/\y.h=x.h/\∀A,Fr G nm ⟨A,callEnvC fd x.s.heap.objs.size a,x0,y,fun _=>none,sf⟩ y ρ pw:=by
 have nw:∀b,NE (callEnvC fd x.s.heap.objs.size a) b->x.g b=none:=fun b e=>Ai (e.elim (fun e=>WO e.symm) fun e=>e.elim fun n e=>Xl (c.above n b (ed e)))
 obtain⟨h1,t1,rfl⟩:=c.toInCall.same
 have K:Kp x.s { x.s with heap:=h1,toks:=t1}:=⟨⟨_,_,rfl⟩,c.toInCall.keep⟩
 have al:∀b,NE (callEnvC fd x.s.heap.objs.size a) b->∃o,h1.get? b=some o:=fun b e=>e.elim (fun e=>by rw[e];exact c.toInCall.ns.imp fun o t=>t.elim fun _ t=>t.elim fun _ t=>t.1) fun e=>e.elim fun n e=>(c.cell n b e).imp fun o t=>t.1
 have T:=Step.TS (N:=NE (callEnvC fd x.s.heap.objs.size a)) S.M K nw al
 refine⟨{ x with F:=fun b=>x.F b\/NE (callEnvC fd x.s.heap.objs.size a) b,s:={ x.s with heap:=h1,toks:=t1}},rfl,rfl,fun A=>⟨⟨fun n i h=>?_,fun b e=>⟨.inr e,fun w=>fK (x:=x) S.M (nw b e) w⟩,fun i o e=>?_⟩,S.trans T,.refl,fun b e=>S.none (nw b e),fun i o e=>(ho i o e).2,hap,(fun b o e=>nomatch e),hsf⟩⟩
 ·have val:gt ρ i=.no\/∃V,xs[i]? =some n/\ws[i]? =some V/\Dr G x (gt ρ i) (some V) (pw i):=by
   cases e:gt ρ i with
   |no=>exact .inl rfl
   |_=>
    obtain⟨l,V,e1,e2⟩:=hv i (by rw[e];exact fun z=>Sl.noConfusion z)
    exact .inr ⟨V,O.nx n i h l,e1,e▸e2⟩
  rcases O.nk n i h with q|q
  ·refine⟨_,.inl ⟨q,_,c.toInCall.ns,rfl⟩,?_⟩
   rcases val with e|⟨V,e1,e2,e3⟩
   ·rw[e];trivial
   ·rw[zq (kindOf:=(callEnvC fd x.s.heap.objs.size a).kindOf) q O.nd e1 e2];exact e3.mono fun _ _=>T.vr
  ·obtain⟨cc,e⟩:=oX (x:=n) fd.scope.names (x.s.heap.objs.size+1) [] (.inr (ed q))
   refine⟨_,.inr ⟨q,cc,e,c.cell n cc e⟩,?_⟩
   rcases val with e|⟨V,e1,e2,e3⟩
   ·rw[e];trivial
   ·rw[zm (kindOf:=(callEnvC fd x.s.heap.objs.size a).kindOf) (by show fd.scope.names.lookup n≠_;rw[q];exact fun z=>nomatch z) O.nd e1 e2];exact e3.mono fun _ _=>T.vr
 ·have t:=(ho i o e).1
  have a:=t.1.al
  exact⟨T.or t.1 t.2,T.hd t.1 t.2,fun z=>a.1.elim fun _ e=>sn e (nw _ z),fun z=>a.2.elim fun _ e=>sn e (nw _ z)⟩
theorem we.fm{A:Around}{L:Addr}{x1:Sx}(O:we G a F fd body xs nm ds)(rm:cz A d){m cm:Str->Option Value}(c:InCallC s (callEnvC fd L a).locals m (callEnvC fd L a).cells cm s₁):bJ d nm fd.scope.names ⟨A,callEnvC fd L a,x0,x1,fun _=>none,sf⟩ where
 rm:=rm
 kind:=O.kd
 glob:=O.gl
 bi:=O.bi
 gl:=fun x h=>h
 kd:=fun x h=>h
 inj:=fun x y i h h'=>BV O.inj (ed h) (ed h')
 Ot:=fun x b e=>Xz (c.above x b (ed e))
 Dq:=fun x y b e e'=>by
  have ap:=c.apart
  have h1:=ed e
  have h2:=ed e'
  revert ap h1 h2
  show List.Pairwise _ (callEnvC fd L a).cells->(x,b)∈(callEnvC fd L a).cells->(y,b)∈(callEnvC fd L a).cells->_
  generalize (callEnvC fd L a).cells=l
  intro ap
  induction ap with
  |nil=>exact fun h=>nomatch h
  |cons hd _ ih=>
   intro h1 h2
   rcases Xp.mp h1 with e1|h1<;>rcases Xp.mp h2 with e2|h2
   ·exact congrArg Prod.fst (e1.trans e2.symm)
   ·exact absurd (congrArg Prod.snd e1).symm (hd (y,b) h2)
   ·exact absurd (congrArg Prod.snd e2).symm (hd (x,b) h1)
   ·exact ih h1 h2
end
end
section
variable{G:Gl}{d:Nat}{nm:eD}{x y z x0:Sx}{s s₁:Shared}{v r:V}{X Z:Value}{vs:List V}{Xs:List Value}{o o':O}{p:BA}{A:Around}{i j f c:Nat}{C:Fm}{env:PySem.Env}{ρ:Env}{pw:Nat->BA}{b q a:Addr}
 {F:Fn}{fd:FuncData}{body:List Stmt}{xs:List Str}{ds:List Value}{sf:Option BA}{Rr:Result->Shared->Prop}
theorem pM.deep(r:pM A d)(env:PySem.Env):cz (A.deeper env) d:=
 ⟨r.hd,by have:=r.dp;show A.depth+1+_<_;omega,by have:=r.un;show A.units+3+_+_<_;omega,r.gu⟩
theorem xN(W:Wd G)(O:we G a F fd body xs nm ds)(rm:pM A d)(S:Step G x0 x)(hl1:F.np<=Xs.length+ds.length)(hl2:Xs.length<=F.np)
  (hv:∀i,gt ρ i≠.no->i<F.np/\∃V,(Xs++ds.drop (ds.length-(F.np-Xs.length)))[i]? =some V/\Dr G x (gt ρ i) (some V) (pw i))(ho:∀i o,gt ρ i=.o o->(Or G x o (pw i)/\Hd x (pw i))/\x0.g (pw i).1=none/\x0.g (pw i).2=none)
  (hap:∀i j o o',gt ρ i=.o o->gt ρ j=.o o'->i≠j->Ap (pw i) (pw j))(hsf:∀p,sf=some p->pw 0=p)(J:dq G d)(kn:Env->H->Prop)(kr:V->Env->H->Prop)(ev:ex mp (mP d) F.body ρ x.h kn (fun _ _=>False) kr)
  (q1:∀C y ρ pw,C.x0=x0->C.sf=sf->Fr G nm C y ρ pw->kn ρ y.h->Rr (.ok (.ret .none)) y.s)(q3:∀C v X y ρ pw,C.x0=x0->Fr G nm C y ρ pw->Vr G y v X->kr v ρ y.h->Rr (.ok (.ret X)) y.s):codeAny G.m A (.call (.ref a) ⟨Xs,[]⟩) Rr x.s:=by
 obtain⟨o,e,hd⟩:=O.ao
 have kp:∀b o,G.h0.get? b=some o->x.g b=some o:=fun b o e=>(S.M.base b o e).1
 refine codeAny_call_function (by have:=rm.dp;unfold recursionLimit;omega) (kp _ _ e) hd O.co O.ge O.bd (O.cr.keeps kp) (O.bt x.s Xs kp hl1 hl2 _ _ _ _ ?_)
 rw[O.cl]
 refine wpAny_newFunctionEnv_cells O.kd (fun y hy=>(O.xk y.1 (abz hy).1).imp id fun q=>⟨q,YZ.mpr (oX _ _ _ (.inr (ed q)))⟩) fun env he s₁ c=>?_
 subst he
 obtain⟨y,rfl,ey,F0⟩:=Fr.entry O S hv ho hap hsf c
 refine⟨(W.lim.keeps kp).keeps c.toInCall.keep,codeAny_func (O.st d J ⟨A.deeper (callEnvC fd x.s.heap.objs.size a),callEnvC fd x.s.heap.objs.size a,x0,y,fun _=>none,sf⟩ (O.fm (rm.deep _) c) y ρ pw (F0 _) kn _ kr _ _ (ey▸ev) (fun z ρ pw F k=>?_) (fun z ρ pw F k=>k.elim) fun v X z ρ pw F hX k=>?_)⟩
 ·exact q1 _ z ρ pw rfl rfl F k
 ·exact q3 _ v X z ρ pw rfl F hX k
theorem Mq:∀{l:List V}{k i:Nat},gt (l.map Sl.v++XA k .no) i≠.no->∃v,l[i]? =some v/\gt (l.map Sl.v++XA k .no) i=.v v:=by
 intro l k
 induction l with
 |nil=>
  induction k with
  |zero=>exact fun{i} h=>absurd rfl h
  |succ k ih=>intro i h;cases i with|zero=>exact absurd rfl h|succ i=>exact(ih (i:=i) h).elim fun v t=>(nomatch t.1)
 |cons v l ih=>intro i h;cases i with|zero=>exact⟨v,rfl,rfl⟩|succ i=>exact ih (i:=i) h
theorem mC(e:iI F vs=some ρ):F.np<=vs.length+F.nZ.length/\vs.length<=F.np/\ρ=(vs++F.nZ.drop (F.nZ.length-(F.np-vs.length))).map Sl.v++XA (F.ns-F.np) .no:=by
 unfold iI at e
 by_cases h:F.np<=vs.length+F.nZ.length/\vs.length<=F.np
 ·rw[if_pos h]at e;cases e;exact⟨h.1,h.2,rfl⟩
 ·rw[if_neg h]at e;cases e
theorem sL(O:we G a F fd body xs nm ds)(M:bF G x)(e:iI F vs=some ρ)(hX:Vl G x vs Xs)(h:gt ρ i≠.no):i<F.np/\∃v V,gt ρ i=.v v/\(Xs++ds.drop (ds.length-(F.np-Xs.length)))[i]? =some V/\Vr G x v V:=by
 obtain⟨h1,h2,rfl⟩:=mC e
 obtain⟨v,e1,e2⟩:=Mq h
 have dv:=O.dv
 have V2:Vl G x _ _:=hX.app ((cY.mono (fun b o e _=>M.base b o e) (fun _ _ e=>sn e rfl) dv).drop (ds.length-(F.np-Xs.length)))
 rw[dv.len,hX.len]at e1
 obtain⟨V,e3,hV⟩:=V2.get e1
 refine⟨WY (WL.mp e1).1 ?_,v,V,e2,e3,hV⟩
 rw[dv.len]at h1
 rw[Xd,Zo,dv.len, <-hX.len,abp (aaw.mpr h1),aaR h2]
 exact WQ _
noncomputable def SX(G:Gl):Prop:=∀f a F,G.fa f=some a->mp.fn f=some F->∃fd body xs nm ds,we G a F fd body xs nm ds
theorem Kg(W:Wd G)(Z:SX G)(d:Nat):dq G d:=by
 induction d with
 |zero=>exact⟨fun f vs k a A x Xs Rr _ _ _ _ h=>(show False from h).elim,fun f c vs k a A x0 x p Xs Rr _ _ _ _ _ _ _ _ h=>(show False from h).elim⟩
 |succ d J=>
  refine⟨fun f vs k a A x Xs Rr ea rm M hX ev q=>?_,fun f c vs k a A x0 x p Xs Rr ea rm S Op H n1 n2 hX ev q=>?_⟩
  ·obtain⟨F,ρ,hF,hb,ev⟩:∃F ρ,mp.fn f=some F/\iI F vs=some ρ/\Eg mp (mP d) F ρ x.h k:=ev
   obtain⟨fd,body,xs,nm,ds,O⟩:=Z f a F ea hF
   obtain⟨l1,l2,_⟩:=mC hb
   have no:∀{i o},gt ρ i≠.o o:=fun{i o} e=>by
    obtain⟨_,v,V,e',_⟩:=sL (i:=i) O M hb hX (by rw[e];exact fun z=>Sl.noConfusion z)
    exact nomatch e'.symm.trans e
   refine xN (x0:=x) (sf:=none) (pw:=fun _=>(0,0)) W O (rm d rfl) (.refl M) (by rw[<-hX.len, <-O.dv.len];exact l1) (hX.len▸l2) (fun i h=>?_) (fun i o e=>absurd e no) (fun i j o o' e=>absurd e no) (fun p e=>nomatch e) J _ _ ev (fun C y ρ pw e _ F ev=>q .none .none y (e▸F.W.st) .none ev) fun C v X y ρ pw e F hX ev=>q v X y (e▸F.W.st) hX ev
   obtain⟨hl,v,V,e,e2,hV⟩:=sL O M hb hX h
   exact⟨hl,V,e2,by rw[e];exact⟨V,rfl,hV⟩⟩
  ·obtain⟨F,ρ,hF,hb,ev⟩:∃F ρ,mp.fn f=some F/\oy F c vs=some ρ/\Bi mp (mP d) F ρ x.h k:=ev
   obtain⟨fd,body,xs,nm,ds,O⟩:=Z f a F ea hF
   obtain⟨ρ0,hb0,rfl⟩:=Xe.mp hb
   obtain⟨l1,l2,_⟩:=mC hb0
   have hX':Vl G x (.none::vs) (.none::Xs):=.cons .none hX
   have no:∀{i o},gt (Mine.st ρ0 0 (.o (.inst c [] []))) i=.o o->i=0/\o=.inst c [] []:=fun{i o} e=>(sZ e).elim (fun t=>⟨t.1,by cases t.2;rfl⟩) fun t=>by
    obtain⟨_,v,V,e',_⟩:=sL (i:=i) O S.M hb0 hX' (by rw[t.2];exact fun z=>Sl.noConfusion z)
    exact nomatch e'.symm.trans t.2
   refine xN (x0:=x0) (sf:=some p) (pw:=fun _=>p) (Xs:=.ref p.1::Xs) W O (rm d rfl) S (by rw[XT, <-hX.len, <-O.dv.len];exact l1) (by rw[XT, <-hX.len];exact l2) (fun i h=>?_) (fun i o e=>(no e).2▸⟨⟨Op,H⟩,n1,n2⟩) (fun i j o o' e e' ne=>absurd ((no e).1.trans (no e').1.symm) ne) (fun p e=>Option.some.inj e) J _ _ ev (fun C y ρ pw e1 e2 F ev=>?_) fun C v X y ρ pw e F hX ev=>ev.elim
   ·cases i with
    |zero=>exact⟨WY (XK _) l2,.ref p.1,rfl,by
      rcases lA (ρ:=ρ0) (i:=0) (sl:=.o (.inst c [] [])) with e|e
      ·rw[e];rfl
      ·exact absurd e h⟩
    |succ i=>
     have e:gt (Mine.st ρ0 0 (.o (.inst c [] []))) (i+1)=gt ρ0 (i+1):=eY (YQ i)
     rw[e]at h ⊢
     obtain⟨hl,v,V,e,e2,hV⟩:=sL O S.M hb0 hX' h
     exact⟨hl,V,e2,by rw[e];exact⟨V,rfl,hV⟩⟩
   ·obtain⟨o,e,ev⟩:=dZ (k:=fun o=>k o y.h) ev
    have t:=F.R.ow 0 o e
    rw[F.W.sf p e2]at t
    exact q o y (e1▸F.W.st) t.o t.h ev
end
section
section
noncomputable def Rs(P:Prop):Type:=Option (PLift P)
section
variable{P Q:Prop}{M:Expr->Prop}{S:Stmt->Prop}
noncomputable def ok(p:P):Rs P:=some ⟨p⟩
noncomputable def cH:Rs P:=none
noncomputable def rb(r:Rs P)(k:P->Rs Q):Rs Q:=match r with|some p=>k p.down|none=>none
noncomputable def rq(b:Bool)(k:b=true->Rs Q):Rs Q:=match b,k with|true,k=>k rfl|false,_=>none
noncomputable def fH{c:Prop}(h:Decidable c)(k:c->Rs Q):Rs Q:=match h with|.isTrue h=>k h|.isFalse _=>none
noncomputable def orElse'(r s:Rs P):Rs P:=match r with|some p=>some p|none=>s
theorem Rs.get(r:Rs P)(h:r.isSome=true):P:=match r,h with|some p,_=>p.down
noncomputable def cI(t:Expr)(n:Nat)(k:t.ctorIdx=n->Rs (M t)):Rs (M t):=fH (Yy t.ctorIdx n) k
noncomputable def cS(t:Stmt)(n:Nat)(k:t.ctorIdx=n->Rs (S t)):Rs (S t):=fH (Yy t.ctorIdx n) k
noncomputable def pI(t:Expr)(k:∀c kd pos,Rs (M (.Constant c kd pos))):Rs (M t):=cI t 19 fun h=>Expr.Constant.elim (motive_1:=fun t=>Rs (M t)) t h k
noncomputable def gJ(t:Expr)(k:∀nx pos,Rs (M (.Name nx pos))):Rs (M t):=cI t 23 fun h=>Expr.Name.elim (motive_1:=fun t=>Rs (M t)) t h k
noncomputable def wM(t:Expr)(k:∀as c pos,Rs (M (.Tuple as c pos))):Rs (M t):=cI t 25 fun h=>Expr.Tuple.elim (motive_1:=fun t=>Rs (M t)) t h k
noncomputable def uj(t:Expr)(k:∀as pos,Rs (M (.List as pos))):Rs (M t):=cI t 24 fun h=>Expr.List.elim (motive_1:=fun t=>Rs (M t)) t h k
noncomputable def Fh(t:Expr)(k:∀a o b pos,Rs (M (.BinOp a o b pos))):Rs (M t):=cI t 2 fun h=>Expr.BinOp.elim (motive_1:=fun t=>Rs (M t)) t h k
noncomputable def ML(t:Expr)(k:∀o a pos,Rs (M (.UnaryOp o a pos))):Rs (M t):=cI t 3 fun h=>Expr.UnaryOp.elim (motive_1:=fun t=>Rs (M t)) t h k
noncomputable def zG{α:Type}{M:List α->Prop}(l:List α)(k:Rs (M [])):Rs (M l):=match l with|[]=>k|_=>none
noncomputable def zg{α:Type}{M:List α->Prop}(l:List α)(k:∀a,Rs (M [a])):Rs (M l):=match l with|[a]=>k a|_=>none
noncomputable def Oe{α:Type}{M:List α->Prop}(l:List α)(k:∀a b,Rs (M [a,b])):Rs (M l):=match l with|[a,b]=>k a b|_=>none
noncomputable def xO{α:Type}{M:Option α->Prop}(l:Option α)(k:∀a,Rs (M (some a))):Rs (M l):=match l with|some a=>k a|none=>none
noncomputable def qA(t:Expr)(k:∀o a b pos,Rs (M (.BoolOp o [a,b] pos))):Rs (M t):=cI t 0 fun h=>Expr.BoolOp.elim (motive_1:=fun t=>Rs (M t)) t h fun o l pos=>Oe (M:=fun l=>M (.BoolOp o l pos)) l fun a b=>k o a b pos
noncomputable def wN(t:Expr)(k:∀a o b pos,Rs (M (.Compare a [o] [b] pos))):Rs (M t):=cI t 15 fun h=>Expr.Compare.elim (motive_1:=fun t=>Rs (M t)) t h fun a os bs pos=>zg (M:=fun os=>M (.Compare a os bs pos)) os fun o=>zg (M:=fun bs=>M (.Compare a [o] bs pos)) bs fun b=>k a o b pos
noncomputable def PR(t:Expr)(k:∀c a b pos,Rs (M (.IfExp c a b pos))):Rs (M t):=cI t 5 fun h=>Expr.IfExp.elim (motive_1:=fun t=>Rs (M t)) t h k
noncomputable def nU(t:Expr)(k:∀a b pos,Rs (M (.Subscript a b pos))):Rs (M t):=cI t 21 fun h=>Expr.Subscript.elim (motive_1:=fun t=>Rs (M t)) t h k
noncomputable def RB(t:Expr)(k:∀a b c pos,Rs (M (.Slice a b c pos))):Rs (M t):=cI t 26 fun h=>Expr.Slice.elim (motive_1:=fun t=>Rs (M t)) t h k
noncomputable def jc(t:Expr)(k:∀a n pos,Rs (M (.Attribute a n pos))):Rs (M t):=cI t 20 fun h=>Expr.Attribute.elim (motive_1:=fun t=>Rs (M t)) t h k
noncomputable def tH(t:Expr)(k:∀ks vs pos,Rs (M (.Dict ks vs pos))):Rs (M t):=cI t 6 fun h=>Expr.Dict.elim (motive_1:=fun t=>Rs (M t)) t h k
noncomputable def gx(t:Expr)(k:∀f as pos,Rs (M (.Call f as [] pos))):Rs (M t):=cI t 16 fun h=>Expr.Call.elim (motive_1:=fun t=>Rs (M t)) t h fun f as ks pos=>zG (M:=fun ks=>M (.Call f as ks pos)) ks (k f as pos)
noncomputable def NW{M:List Comprehension->Prop}(l:List Comprehension)(k:∀tg ix ifs,Rs (M [⟨tg,ix,ifs,0⟩])):Rs (M l):=zg l fun c=>match c with|⟨tg,ix,ifs,.ofNat 0⟩=>k tg ix ifs|_=>none
noncomputable def qF(t:Expr)(k:∀ex tg ix ifs sc pos,Rs (M (.ListComp ex [⟨tg,ix,ifs,0⟩] sc pos))):Rs (M t):=cI t 8 fun h=>Expr.ListComp.elim (motive_1:=fun t=>Rs (M t)) t h fun ex gs sc pos=>NW (M:=fun gs=>M (.ListComp ex gs sc pos)) gs fun tg ix ifs=>k ex tg ix ifs sc pos
noncomputable def AA(t:Expr)(k:∀kx vx tg ix cx sc pos,Rs (M (.DictComp kx vx [⟨tg,ix,[cx],0⟩] sc pos))):Rs (M t):=cI t 10 fun h=>Expr.DictComp.elim (motive_1:=fun t=>Rs (M t)) t h fun kx vx gs sc pos=>NW (M:=fun gs=>M (.DictComp kx vx gs sc pos)) gs fun tg ix ifs=>zg (M:=fun ifs=>M (.DictComp kx vx [⟨tg,ix,ifs,0⟩] sc pos)) ifs fun cx=>k kx vx tg ix cx sc pos
noncomputable def tG(t:Stmt)(k:∀a e pos,Rs (S (.Assign [a] e pos))):Rs (S t):=cS t 5 fun h=>Stmt.Assign.elim (motive_2:=fun t=>Rs (S t)) t h fun ts e pos=>zg (M:=fun ts=>S (.Assign ts e pos)) ts fun a=>k a e pos
noncomputable def Ul(t:Stmt)(k:∀e pos,Rs (S (.Expr e pos))):Rs (S t):=fH (Yy t.ctorIdx (Stmt.Expr default default).ctorIdx) fun h=>Stmt.Expr.elim (motive_2:=fun t=>Rs (S t)) t h k
noncomputable def Qw(t:Stmt)(k:∀e pos,Rs (S (.Return (some e) pos))):Rs (S t):=cS t 3 fun h=>Stmt.Return.elim (motive_2:=fun t=>Rs (S t)) t h fun o pos=>xO (M:=fun o=>S (.Return o pos)) o fun e=>k e pos
noncomputable def RA(t:Stmt)(k:∀c a b pos,Rs (S (.If c a b pos))):Rs (S t):=fH (Yy t.ctorIdx (Stmt.If default [] [] default).ctorIdx) fun h=>Stmt.If.elim (motive_2:=fun t=>Rs (S t)) t h k
noncomputable def SF(t:Stmt)(k:∀a e b pos,Rs (S (.For a e b [] pos))):Rs (S t):=cS t 9 fun h=>Stmt.For.elim (motive_2:=fun t=>Rs (S t)) t h fun a e b r pos=>zG (M:=fun r=>S (.For a e b r pos)) r (k a e b pos)
noncomputable def Lg(t:Stmt)(k:∀c b pos,Rs (S (.While c b [] pos))):Rs (S t):=fH (Yy t.ctorIdx (Stmt.While default [] [] default).ctorIdx) fun h=>Stmt.While.elim (motive_2:=fun t=>Rs (S t)) t h fun c b r pos=>zG (M:=fun r=>S (.While c b r pos)) r (k c b pos)
end
noncomputable def zX(t:Expr):Rs (Pl t):=orElse' (gJ t fun _ _=>ok ⟨fun _ _=>rfl,fun _=>rfl,fun _ _=>rfl,fun _ _=>⟨_,rfl⟩⟩)
 (orElse' (pI t fun _ _ _=>ok ⟨fun _ _=>rfl,fun _=>rfl,fun _ _=>rfl,fun _ _=>⟨_,rfl⟩⟩)
 (orElse' (gx t fun _ _ _=>ok ⟨fun _ _=>rfl,fun _=>rfl,fun _ _=>rfl,fun _ _=>⟨_,rfl⟩⟩)
 (orElse' (jc t fun _ _ _=>ok ⟨fun _ _=>rfl,fun _=>rfl,fun _ _=>rfl,fun _ _=>⟨_,rfl⟩⟩)
 (orElse' (nU t fun _ _ _=>ok ⟨fun _ _=>rfl,fun _=>rfl,fun _ _=>rfl,fun _ _=>⟨_,rfl⟩⟩)
 (orElse' (Fh t fun _ _ _ _=>ok ⟨fun _ _=>rfl,fun _=>rfl,fun _ _=>rfl,fun _ _=>⟨_,rfl⟩⟩)
 (orElse' (ML t fun _ _ _=>ok ⟨fun _ _=>rfl,fun _=>rfl,fun _ _=>rfl,fun _ _=>⟨_,rfl⟩⟩)
 (orElse' (qA t fun _ _ _ _=>ok ⟨fun _ _=>rfl,fun _=>rfl,fun _ _=>rfl,fun _ _=>⟨_,rfl⟩⟩)
 (orElse' (wN t fun _ _ _ _=>ok ⟨fun _ _=>rfl,fun _=>rfl,fun _ _=>rfl,fun _ _=>⟨_,rfl⟩⟩)
 (orElse' (PR t fun _ _ _ _=>ok ⟨fun _ _=>rfl,fun _=>rfl,fun _ _=>rfl,fun _ _=>⟨_,rfl⟩⟩)
 (orElse' (uj t fun _ _=>ok ⟨fun _ _=>rfl,fun _=>rfl,fun _ _=>rfl,fun _ _=>⟨_,rfl⟩⟩)
 (orElse' (wM t fun _ _ _=>ok ⟨fun _ _=>rfl,fun _=>rfl,fun _ _=>rfl,fun _ _=>⟨_,rfl⟩⟩)
 (orElse' (tH t fun _ _ _=>ok ⟨fun _ _=>rfl,fun _=>rfl,fun _ _=>rfl,fun _ _=>⟨_,rfl⟩⟩)
 (orElse' (qF t fun _ _ _ _ _ _=>ok ⟨fun _ _=>rfl,fun _=>rfl,fun _ _=>rfl,fun _ _=>⟨_,rfl⟩⟩)
 (cH))))))))))))))
noncomputable def Wq(t:Expr):Prop:=∀env whole,isTrue t env whole=(do let v<-whole;standAt t.pos;holding [v] (truthy v))
noncomputable def Wf(t:Expr):Rs (Wq t):=orElse' (gJ t fun _ _=>ok fun _ _=>rfl) (orElse' (gx t fun _ _ _=>ok fun _ _=>rfl) (orElse' (jc t fun _ _ _=>ok fun _ _=>rfl) (nU t fun _ _ _=>ok fun _ _=>rfl)))
noncomputable def Sr(t:Expr):Prop:=∀(env:PySem.Env) nx whole,attributeBase t nx env whole=whole
noncomputable def SS(t:Expr):Rs (Sr t):=orElse' (gJ t fun _ _=>ok fun _ _ _=>rfl) (orElse' (pI t fun _ _ _=>ok fun _ _ _=>rfl) (orElse' (jc t fun _ _ _=>ok fun _ _ _=>rfl) (orElse' (nU t fun _ _ _=>ok fun _ _ _=>rfl)
 (gx t fun f as pos=>orElse' (gJ (M:=fun f=>Sr (.Call f as [] pos)) f fun nx p=>match as with|_::_=>ok fun _ _ _=>rfl|[]=>cH) (jc (M:=fun f=>Sr (.Call f as [] pos)) f fun _ _ _=>ok fun _ _ _=>rfl)))))
noncomputable def Oj(t:Expr):Rs (oO t):=orElse' (gJ t fun _ _=>ok fun _ _ _=>rfl)
 (orElse' (pI t fun _ _ _=>ok fun _ _ _=>rfl)
 (orElse' (gx t fun _ _ _=>ok fun _ _ _=>rfl)
 (orElse' (jc t fun _ _ _=>ok fun _ _ _=>rfl)
 (orElse' (nU t fun _ _ _=>ok fun _ _ _=>rfl)
 (orElse' (Fh t fun _ _ _ _=>ok fun _ _ _=>rfl)
 (orElse' (ML t fun _ _ _=>ok fun _ _ _=>rfl)
 (orElse' (qA t fun _ _ _ _=>ok fun _ _ _=>rfl)
 (orElse' (wN t fun _ _ _ _=>ok fun _ _ _=>rfl)
 (orElse' (PR t fun _ _ _ _=>ok fun _ _ _=>rfl)
 (orElse' (uj t fun _ _=>ok fun _ _ _=>rfl)
 (orElse' (wM t fun _ _ _=>ok fun _ _ _=>rfl)
 (orElse' (tH t fun _ _ _=>ok fun _ _ _=>rfl)
 (cH)))))))))))))
noncomputable def Wo(t:Expr):Prop:=(∀a n p (env:PySem.Env) l,swapsWith t (some (.Attribute a n p)) l env=pure false)/\∀a n p (env:PySem.Env) l,swapsWith t (some (.Subscript a n p)) l env=pure false
noncomputable def PF(t:Expr):Rs (Wo t):=orElse' (rb (Oj t) fun h=>ok ⟨fun _ _ _ _ _=>h _ _ _,fun _ _ _ _ _=>h _ _ _⟩) (qF t fun _ _ _ _ _ _=>ok ⟨fun _ _ _ _ _=>rfl,fun _ _ _ _ _=>rfl⟩)
structure VY(t:Expr):Prop where
 e:∀env,eval t env=gK t env none
 u:∀env use,evalThenUse t env use=do let _<-gK t env (some use)
 w:∀n p l env,∃b,swapsWith t (some (.Name n p)) l env=pure b
noncomputable def QI(t:Expr):Rs (VY t):=orElse' (qF t fun _ _ _ _ _ _=>ok ⟨fun _=>rfl,fun _ _=>rfl,fun _ _ _ _=>⟨_,rfl⟩⟩) (AA t fun _ _ _ _ _ _ _=>ok ⟨fun _=>rfl,fun _ _=>rfl,fun _ _ _ _=>⟨_,rfl⟩⟩)
end
end
section
section
noncomputable def nH(l:List String)(n:Nat)(x:Str):Bool:=match l[n]? with|some s=>decide (Str.ofString s=x)|none=>false
structure tD(G:Gl):Prop where
 fn:∀f nx,nH sO f nx=true->bh nx=true->∃ad,G.mg nx=some (.ref ad)/\G.fa f=some ad
 cl:∀c nx,nH fY c nx=true->∃ad,G.mg nx=some (.ref ad)/\G.cl c=some ad
 gv:∀n nx v,nH jI n nx=true->lK[n]? =some v->∃X,G.mg nx=some X/\VR G [] (fun _=>False) G.h0 v X
 nb:∀b,G.mg (pf b)=none
 ni:G.mg "isinstance"=none
 nr:G.mg "reversed"=none
theorem oh:∀b,bootBuiltins (pf b)=some (MX b)/\(pf b:Str)≠"__name__":=fun b=>by cases b<;>exact⟨by decide+kernel,by decide+kernel⟩
noncomputable def vEq(a b:V):Rs (a=b):=match a,b with
 |.int i,.int j=>fH (abY i j) fun h=>ok (congrArg V.int h)
 |.tup as,.tup bs=>(match h:strs? as with|some x=>(match h':strs? bs with|some y=>rq (decide (x=y)) fun e=>ok (by rw[hE h,hE h',of_decide_eq_true e])|none=>cH)|none=>cH)
 |_,_=>cH
noncomputable def nameOf(t:Expr):List Str:=match Yy t.ctorIdx 23 with|.isTrue h=>Expr.Name.elim (motive_1:=fun _=>List Str) t h fun n _=>[n]|.isFalse _=>[]
noncomputable def EA(t:Expr):List Str:=match Yy t.ctorIdx 25 with|.isTrue h=>Expr.Tuple.elim (motive_1:=fun _=>List Str) t h fun as _ _=>as.flatMap nameOf|.isFalse _=>nameOf t
section
variable(G:Gl)(d:Nat)
structure Pv(e:E) where
 ev:∀nm sc t,Rs (av G d nm sc e t)
 ts:∀nm sc t,Rs (dG G d nm sc e t)
 fr:∀nm sc t,Rs (jd G d nm sc e t)
 ow:∀nm sc t,Rs (zo G d nm sc e t)
 co:∀nm sc t,Rs (lL G d nm sc e t)
 ar:∀nm sc ts,Rs (iJ G d nm sc e ts)
end
section
variable{G:Gl}{d:Nat}{e a b c:E}{nm:eD}{sc:gm}{t:T}
noncomputable def Fi(ev:∀nm sc t,Rs (av G d nm sc e t))(ts:∀nm sc t,Rs (dG G d nm sc e t)):Pv G d e:=⟨ev,ts,fun _ _ _=>cH,fun _ _ _=>cH,fun _ _ _=>cH,fun _ _ _=>cH⟩
noncomputable def VI(ev:∀nm sc t,Rs (av G d nm sc e t))(nm:eD)(sc:gm)(t:Expr):Rs (dG G d nm sc e t):=rb (Wf t) fun p=>rb (ev nm sc t) fun h=>ok (AQ h p)
noncomputable def nf(ev:∀nm sc t,Rs (av G d nm sc e t)):Pv G d e:=Fi ev (VI ev)
noncomputable def MS(fr:∀nm sc t,Rs (jd G d nm sc e t)):Pv G d e:={ nf (fun nm sc t=>rb (fr nm sc t) fun h=>ok (Fr.ev h)) with fr:=fr,ow:=fun nm sc t=>rb (fr nm sc t) fun h=>ok (Fr.ow h)}
noncomputable def PU(co:∀nm sc t,Rs (lL G d nm sc e t)):Pv G d e:={ MS (fun nm sc t=>rb (QI t) fun c=>rb (co nm sc t) fun h=>ok (BK h c.e)) with co:=co}
noncomputable def nX{M:Expr->Prop}(nm:eD)(i:Nat)(t:Expr)(k:∀nx pos,nm.lookup nx=some i->bh nx=true->Rs (M (.Name nx pos))):Rs (M t):=gJ t fun nx pos=>rq (decide (nm.lookup nx=some i)) fun h=>rq (bh nx) fun h'=>k nx pos (of_decide_eq_true h) h'
noncomputable def KW{M:Expr->Prop}(sc:gm)(x:Str)(t:Expr)(k:∀pos,tj sc x=true->Rs (M (.Name x pos))):Rs (M t):=gJ t fun nx pos=>fH (decEq nx x) fun h=>rq (tj sc x) fun h'=>(h▸k pos h':Rs (M (.Name nx pos)))
noncomputable def Jh{M:Expr->Prop}(nm:eD)(i m:Nat)(t:Expr)(k:∀nx p1 ap as pos,nm.lookup nx=some i->bh nx=true->as.length<30->(ap.endLine==pos.line)=true->Rs (M (.Call (.Attribute (.Name nx p1) (aw m) ap) as [] pos))):Rs (M t):=
 gx t fun f as pos=>jc (M:=fun f=>M (.Call f as [] pos)) f fun o n ap=>fH (decEq n (aw m)) fun hn=>nX (M:=fun o=>M (.Call (.Attribute o n ap) as [] pos)) nm i o fun nx p1 h1 h2=>fH (aaP as.length 30) fun h3=>rq (ap.endLine==pos.line) fun h4=>(hn▸k nx p1 ap as pos h1 h2 h3 h4:Rs (M (.Call (.Attribute (.Name nx p1) n ap) as [] pos)))
noncomputable def Tr(W:Wd G)(nm:eD)(sc:gm)(t:T)(tgt:Expr):Rs (iK G d nm sc t tgt (EA tgt)):=match t with
 |.one i=>gJ (M:=fun tgt=>iK G d nm sc (.one i) tgt (EA tgt)) tgt fun n p=>rq (decide (nm.lookup n=some i)) fun h=>ok (KY (of_decide_eq_true h))
 |.two i j=>wM (M:=fun tgt=>iK G d nm sc (.two i j) tgt (EA tgt)) tgt fun as k p=>Oe (M:=fun as=>iK G d nm sc (.two i j) (.Tuple as k p) (EA (.Tuple as k p))) as fun a b=>
  gJ (M:=fun a=>iK G d nm sc (.two i j) (.Tuple [a,b] k p) (EA (.Tuple [a,b] k p))) a fun n p1=>gJ (M:=fun b=>iK G d nm sc (.two i j) (.Tuple [.Name n p1,b] k p) (EA (.Tuple [.Name n p1,b] k p))) b fun m p2=>
   rq (decide (nm.lookup n=some i)) fun h=>rq (decide (nm.lookup m=some j)) fun h'=>ok (Lp W (of_decide_eq_true h) (of_decide_eq_true h'))
noncomputable def OC(t:T)(ns:List Str):eD:=match t,ns with|.one i,[n]=>[(n,i)]|.two i j,[n,m]=>[(n,i),(m,j)]|_,_=>[]
noncomputable def pd(nm:eD)(scope:Scope)(t:T)(tgt:Expr):eD:=OC t (EA tgt)++nm.filter fun p=>decide (scope.names.lookup p.1=some .free)
noncomputable def VE:∀t,Decidable (tN t)|.one _=>.isTrue trivial|.two i j=>(inferInstance:Decidable (i≠j))
noncomputable def VA(nm nm':eD)(sc:gm)(scope:Scope)(t:T):Rs (nQ nm nm' sc scope t):=rq (decide (scope.kind=.function/\(nm'.map Prod.snd).Nodup/\(∀p∈nm',(scope.names.lookup p.1=some .local/\tI t p.2=true)\/(scope.names.lookup p.1=some .free/\nm.lookup p.1=some p.2/\sc.lookup p.1=some .cell))/\(∀p∈scope.names,p.2≠.cell)/\
  (∀p∈scope.names,p.2=.local->scope.names.lookup p.1=some .local)/\∀p∈scope.names,p.2=.free->sc.lookup p.1=some .cell/\(nm.lookup p.1).isSome=true)) fun h=>have h:=of_decide_eq_true h;ok ⟨h.1,h.2.1,h.2.2.1,h.2.2.2.1,h.2.2.2.2.1,h.2.2.2.2.2⟩
noncomputable def Py{Q:Prop}(W:Wd G)(nm:eD)(sc:gm)(t:T)(tgt:Expr)(scope:Scope)(k:nQ nm (pd nm scope t tgt) sc scope t->tN t->iK G d (pd nm scope t tgt) scope.names t tgt (EA tgt)->(∀n∈EA tgt,scope.names.lookup n=some .local)->Rs Q):Rs Q:=
 rb (VA nm (pd nm scope t tgt) sc scope t) fun Z=>fH (VE t) fun hN=>rb (Tr W (pd nm scope t tgt) scope.names t tgt) fun tg=>rq (decide (∀n∈EA tgt,scope.names.lookup n=some .local)) fun hl=>k Z hN tg (of_decide_eq_true hl)
end
end
end
section
variable{G:Gl}{d:Nat}{e a b c el it:E}
noncomputable def RW(v:V):Pv G d (.lit v):=nf fun nm sc t=>pI t fun cs kd pos=>match v,cs with
 |.none,.none=>ok FP
 |.bool b,.bool b'=>fH (decEq b' b) fun h=>(h▸ok Fu:Rs (av G d nm sc (.lit (.bool b)) (.Constant (.bool b') kd pos)))
 |.int b,.int b'=>fH (abY b' b) fun h=>(h▸ok Kc:Rs (av G d nm sc (.lit (.int b)) (.Constant (.int b') kd pos)))
 |.str l,.str S=>rq (decide (S.cps.toList=l)) fun h=>ok (KV (of_decide_eq_true h))
 |_,_=>cH
noncomputable def Sz(i:Nat):Pv G d (.loc i):=nf fun nm sc t=>nX nm i t fun nx pos h h'=>ok (LN h h')
noncomputable def Nl(W:Wd G)(N:tD G)(n:Nat)(v:V):Pv G d (.glob n v):=nf fun nm sc t=>gJ t fun nx pos=>rq (tj sc nx) fun hx=>rq (nH jI n nx) fun hn=>match h:lK[n]? with
 |some u=>rb (vEq u v) fun e=>ok ((N.gv n nx v hn (e▸h)).elim fun X t=>Hk W hx t.1 t.2)
 |none=>cH
noncomputable def QS:Pv G d .af:={ nf (fun nm sc t=>wM t fun as k pos=>zG (M:=fun as=>av G d nm sc .af (.Tuple as k pos)) as (ok (DW rL (XI _)))) with ar:=fun nm sc ts=>zG ts (ok rL)}
noncomputable def Ve(pa:Pv G d a)(pb:Pv G d b)(nm:eD)(sc:gm)(ts:List Expr):Rs (iJ G d nm sc (.aa a b) ts):=match ts with
 |t::ts=>rb (pa.ev nm sc t) fun h=>rb (pb.ar nm sc ts) fun h'=>rb (zX t) fun p=>ok (Gi h h' p)
 |[]=>cH
noncomputable def Oy(pa:Pv G d a)(pb:Pv G d b):Pv G d (.aa a b):={ nf (fun nm sc t=>wM t fun as k pos=>rb (Ve pa pb nm sc as) fun h=>fH (Nat.decLe as.length 1000) fun l=>ok (DW h l)) with ar:=Ve pa pb}
noncomputable def Pj(pa:Pv G d a):Pv G d (.list a):=MS fun nm sc t=>uj t fun as pos=>rb (pa.ar nm sc as) fun h=>ok (sX h)
noncomputable def Ks(W:Wd G):Pv G d .bN:=MS fun nm sc t=>tH t fun ks vs pos=>zG (M:=fun ks=>jd G d nm sc .bN (.Dict ks vs pos)) ks (zG (M:=fun vs=>jd G d nm sc .bN (.Dict [] vs pos)) vs (ok (DU W)))
noncomputable def JP(W:Wd G)(pa:Pv G d a)(pb:Pv G d b):Pv G d (.iD a b):=MS fun nm sc t=>tH t fun ks vs pos=>zg (M:=fun ks=>jd G d nm sc (.iD a b) (.Dict ks vs pos)) ks fun k=>xO (M:=fun k=>jd G d nm sc (.iD a b) (.Dict [k] vs pos)) k fun k=>zg (M:=fun vs=>jd G d nm sc (.iD a b) (.Dict [some k] vs pos)) vs fun v=>
 rb (pa.ev nm sc k) fun h=>rb (pb.ev nm sc v) fun h'=>ok (Dk W h h')
noncomputable def MC(W:Wd G)(t:T)(pe:Pv G d el)(pi:Pv G d it):Pv G d (.aM el t it):=PU fun nm sc x=>qF x fun ex tg ix ifs scope pos=>zG (M:=fun ifs=>lL G d nm sc (.aM el t it) (.ListComp ex [⟨tg,ix,ifs,0⟩] scope pos)) ifs
 (rb (pi.ev nm sc ix) fun h=>rb (zX ix) fun p=>Py W nm sc t tg scope fun Z hN tk hl=>rb (pe.ev (pd nm scope t tg) scope.names ex) fun h'=>ok (Bf W h' h p Z hN tk hl))
noncomputable def Fv(W:Wd G)(t:T)(i:Nat)(pe:Pv G d el):Pv G d (.je el t i):=PU fun nm sc x=>qF x fun ex tg ix ifs scope pos=>zG (M:=fun ifs=>lL G d nm sc (.je el t i) (.ListComp ex [⟨tg,ix,ifs,0⟩] scope pos)) ifs
 (nX (M:=fun ix=>lL G d nm sc (.je el t i) (.ListComp ex [⟨tg,ix,[],0⟩] scope pos)) nm i ix fun nx p0 h1 h2=>rb (zX (.Name nx p0)) fun p=>Py W nm sc t tg scope fun Z hN tk hl=>rb (pe.ev (pd nm scope t tg) scope.names ex) fun h'=>ok (yR W h' h1 h2 p Z hN tk hl))
noncomputable def DT(W:Wd G)(t:T)(pe:Pv G d el)(pi:Pv G d it)(pc:Pv G d c):Pv G d (.bQ el t it c):=PU fun nm sc x=>qF x fun ex tg ix ifs scope pos=>zg (M:=fun ifs=>lL G d nm sc (.bQ el t it c) (.ListComp ex [⟨tg,ix,ifs,0⟩] scope pos)) ifs fun cx=>
 rb (pi.ev nm sc ix) fun h=>rb (zX ix) fun p=>Py W nm sc t tg scope fun Z hN tk hl=>rb (pe.ev (pd nm scope t tg) scope.names ex) fun h'=>rb (pc.ts (pd nm scope t tg) scope.names cx) fun hc=>ok (wQ W h' hc h p Z hN tk hl)
noncomputable def Ay(W:Wd G)(t:T)(pk:Pv G d a)(pe:Pv G d el)(pi:Pv G d it)(pc:Pv G d c):Pv G d (.kY a el t it c):=PU fun nm sc x=>AA x fun kx vx tg ix cx scope pos=>
 rb (pi.ev nm sc ix) fun h=>rb (zX ix) fun p=>Py W nm sc t tg scope fun Z hN tk hl=>rb (pk.ev (pd nm scope t tg) scope.names kx) fun hk=>rb (pe.ev (pd nm scope t tg) scope.names vx) fun h'=>rb (pc.ts (pd nm scope t tg) scope.names cx) fun hc=>ok (vO W hk h' hc h p Z hN tk hl)
noncomputable def OV(pa:Pv G d a):Pv G d (.cell a):=nf fun nm sc t=>rb (pa.fr nm sc t) fun h=>ok (Fc h)
noncomputable def QM(i:Nat)(pa:Pv G d a):Pv G d (.iso i a):=nf fun nm sc t=>rb (pa.ev nm sc t) fun h=>ok (LG h)
noncomputable def Sp(pa:Pv G d a):Pv G d (.bP a):=nf fun nm sc t=>rb (pa.ev nm sc t) fun h=>ok (Ma h)
noncomputable def Po(W:Wd G)(f:Nat)(pa:Pv G d a):Pv G d (.attr a f):=nf fun nm sc t=>jc t fun x n pos=>fH (decEq n (aw f)) fun hn=>fH (aaP f cG) fun hf=>rb (pa.ev nm sc x) fun h=>rb (SS x) fun hb=>(hn▸ok (Fw W h hb hf):Rs (av G d nm sc (.attr a f) (.Attribute x n pos)))
noncomputable def KJ(W:Wd G)(f:Nat):Pv G d (.gH f):=nf fun nm sc t=>jc t fun x n pos=>fH (decEq n (aw f)) fun hn=>fH (aaP f cG) fun hf=>nX (M:=fun x=>av G d nm sc (.gH f) (.Attribute x n pos)) nm 0 x fun nx p h1 h2=>(hn▸ok (CL W h1 h2 hf):Rs (av G d nm sc (.gH f) (.Attribute (.Name nx p) n pos)))
noncomputable def Ku(W:Wd G)(J:dq G d)(m:Nat)(pa:Pv G d a)(pb:Pv G d b):Pv G d (.aq a m b):=nf fun nm sc t=>gx t fun f as pos=>jc (M:=fun f=>av G d nm sc (.aq a m b) (.Call f as [] pos)) f fun x n ap=>fH (decEq n (aw m)) fun hn=>rb (pa.ev nm sc x) fun h=>rb (pb.ar nm sc as) fun h'=>rb (SS x) fun hb=>
 fH (aaP as.length 30) fun h3=>rq (ap.endLine==pos.line) fun h4=>(hn▸ok (DY W J h h' hb h3 h4):Rs (av G d nm sc (.aq a m b) (.Call (.Attribute x n ap) as [] pos)))
noncomputable def xG{M:Expr->Prop}(nm:eD)(sc:gm)(t:Expr)(k:∀nx p as pos,tj sc nx=true->Rs (M (.Call (.Name nx p) as [] pos))):Rs (M t):=gx t fun f as pos=>gJ (M:=fun f=>M (.Call f as [] pos)) f fun nx p=>rq (tj sc nx) fun h=>k nx p as pos h
noncomputable def MZ(W:Wd G)(J:dq G d)(N:tD G)(f:Nat)(pa:Pv G d a):Pv G d (.call f a):=nf fun nm sc t=>xG nm sc t fun nx p as pos hx=>rb (pa.ar nm sc as) fun h=>rq (nH sO f nx) fun hn=>ok ((N.fn f nx hn (br hx).2).elim fun ad t=>GF W J h hx t.1 t.2)
noncomputable def Ra(W:Wd G)(J:dq G d)(N:tD G)(cn:Nat)(pa:Pv G d a):Pv G d (.new cn a):=MS fun nm sc t=>xG nm sc t fun nx p as pos hx=>rb (pa.ar nm sc as) fun h=>rq (nH fY cn nx) fun hn=>ok ((N.cl cn nx hn).elim fun ad t=>KO W J h hx t.1 t.2)
noncomputable def NN(W:Wd G)(J:dq G d)(N:tD G)(cn:Nat)(pa:Pv G d a):Pv G d (.qr cn a):=nf fun nm sc t=>xG nm sc t fun nx p as pos hx=>rb (pa.ar nm sc as) fun h=>rq (nH fY cn nx) fun hn=>ok ((N.cl cn nx hn).elim fun ad t=>FV W J h hx t.1 t.2)
noncomputable def UH(W:Wd G)(N:tD G)(bb:B)(pa:Pv G d a)(nm:eD)(sc:gm)(t:Expr):Rs (av G d nm sc (.bi bb a) t):=gx t fun f as pos=>KW (M:=fun f=>av G d nm sc (.bi bb a) (.Call f as [] pos)) sc (pf bb) f fun p hx=>rb (pa.ar nm sc as) fun h=>ok (NA W h hx (N.nb bb) (oh bb).1 (oh bb).2)
noncomputable def Vv(W:Wd G)(N:tD G)(bb:B)(pa:Pv G d a):Pv G d (.bi bb a):=match bb with
 |.list=>{ MS (fun nm sc t=>gx t fun f as pos=>KW (M:=fun f=>jd G d nm sc (.bi .list a) (.Call f as [] pos)) sc (pf .list) f fun p hx=>rb (pa.ar nm sc as) fun h=>ok (LM W h hx (N.nb .list) (oh .list).1 (oh .list).2)) with ev:=UH W N .list pa}
 |bb=>nf (UH W N bb pa)
noncomputable def Pb(W:Wd G)(N:tD G)(i:Nat):Pv G d (.cM i):=nf fun nm sc t=>gx t fun f as pos=>KW (M:=fun f=>av G d nm sc (.cM i) (.Call f as [] pos)) sc "len" f fun p1 hx=>zg (M:=fun as=>av G d nm sc (.cM i) (.Call (.Name "len" p1) as [] pos)) as fun x=>
 nX (M:=fun x=>av G d nm sc (.cM i) (.Call (.Name "len" p1) [x] [] pos)) nm i x fun nx p2 h1 h2=>ok (HW W hx (N.nb .len) h1 h2)
noncomputable def JB(W:Wd G)(N:tD G)(pa:Pv G d a):Pv G d (.isStr a):=nf fun nm sc t=>gx t fun f as pos=>KW (M:=fun f=>av G d nm sc (.isStr a) (.Call f as [] pos)) sc "isinstance" f fun p1 hx=>Oe (M:=fun as=>av G d nm sc (.isStr a) (.Call (.Name "isinstance" p1) as [] pos)) as fun x y=>
 KW (M:=fun y=>av G d nm sc (.isStr a) (.Call (.Name "isinstance" p1) [x,y] [] pos)) sc "str" y fun p2 hy=>rb (pa.ev nm sc x) fun h=>rb (zX x) fun p=>ok (AL W h p hx hy N.ni (N.nb .str))
noncomputable def Fx(W:Wd G)(N:tD G)(pa:Pv G d a):Pv G d (.dK a):=nf fun nm sc t=>gx t fun f as pos=>KW (M:=fun f=>av G d nm sc (.dK a) (.Call f as [] pos)) sc "tuple" f fun p1 hx=>zg (M:=fun as=>av G d nm sc (.dK a) (.Call (.Name "tuple" p1) as [] pos)) as fun y=>
 gx (M:=fun y=>av G d nm sc (.dK a) (.Call (.Name "tuple" p1) [y] [] pos)) y fun g bs q=>KW (M:=fun g=>av G d nm sc (.dK a) (.Call (.Name "tuple" p1) [.Call g bs [] q] [] pos)) sc "reversed" g fun p2 hy=>zg (M:=fun bs=>av G d nm sc (.dK a) (.Call (.Name "tuple" p1) [.Call (.Name "reversed" p2) bs [] q] [] pos)) bs fun x=>
 rb (pa.ev nm sc x) fun h=>rb (zX x) fun p=>ok (zv W h p hx hy (N.nb .tuple) N.nr)
noncomputable def RX(op:vo)(pa:Pv G d a)(pb:Pv G d b):Pv G d (.bin op a b):=
 { nf (fun nm sc t=>Fh t fun x o y pos=>fH (decEq o (jU op)) fun ho=>rb (pa.ev nm sc x) fun h=>rb (pb.ev nm sc y) fun h'=>(ho▸ok (KN h h'):Rs (av G d nm sc (.bin op a b) (.BinOp x o y pos)))) with
  ow:=fun nm sc t=>Fh t fun x o y pos=>fH (decEq o (jU op)) fun ho=>rb (pa.ev nm sc x) fun h=>rb (pb.ev nm sc y) fun h'=>(ho▸(match op with|.add=>ok (CE (.inl rfl) h h')|.mul=>ok (CE (.inr rfl) h h')|_=>cH:Rs (zo G d nm sc (.bin op a b) (.BinOp x (jU op) y pos))):Rs (zo G d nm sc (.bin op a b) (.BinOp x o y pos)))}
noncomputable def Si(pa:Pv G d a):Pv G d (.neg a):=nf fun nm sc t=>ML t fun o x pos=>fH (decEq o .USub) fun ho=>rb (pa.ev nm sc x) fun h=>(ho▸ok (LI h):Rs (av G d nm sc (.neg a) (.UnaryOp o x pos)))
noncomputable def QF(pa:Pv G d a):Pv G d (.not a):=Fi (fun nm sc t=>ML t fun o x pos=>fH (decEq o .Not) fun ho=>rb (pa.ev nm sc x) fun h=>(ho▸ok (JX h):Rs (av G d nm sc (.not a) (.UnaryOp o x pos))))
 fun nm sc t=>ML t fun o x pos=>fH (decEq o .Not) fun ho=>rb (pa.ts nm sc x) fun h=>(ho▸ok (Mf h):Rs (dG G d nm sc (.not a) (.UnaryOp o x pos)))
noncomputable def QG(pa:Pv G d a)(pb:Pv G d b):Pv G d (.and a b):=Fi (fun nm sc t=>qA t fun o x y pos=>fH (decEq o .And) fun ho=>rb (pa.ev nm sc x) fun h=>rb (pb.ev nm sc y) fun h'=>(ho▸ok (Mv h h'):Rs (av G d nm sc (.and a b) (.BoolOp o [x,y] pos))))
 fun nm sc t=>qA t fun o x y pos=>fH (decEq o .And) fun ho=>rb (pa.ts nm sc x) fun h=>rb (pb.ts nm sc y) fun h'=>(ho▸ok (Kd h h'):Rs (dG G d nm sc (.and a b) (.BoolOp o [x,y] pos)))
noncomputable def VK(pa:Pv G d a)(pb:Pv G d b):Pv G d (.or a b):=Fi (fun nm sc t=>qA t fun o x y pos=>fH (decEq o .Or) fun ho=>rb (pa.ev nm sc x) fun h=>rb (pb.ev nm sc y) fun h'=>(ho▸ok (NR h h'):Rs (av G d nm sc (.or a b) (.BoolOp o [x,y] pos))))
 fun nm sc t=>qA t fun o x y pos=>fH (decEq o .Or) fun ho=>rb (pa.ts nm sc x) fun h=>rb (pb.ts nm sc y) fun h'=>(ho▸ok (MY h h'):Rs (dG G d nm sc (.or a b) (.BoolOp o [x,y] pos)))
noncomputable def Rm(op:BF)(pa:Pv G d a)(pb:Pv G d b):Pv G d (.cmp op a b):=Fi (fun nm sc t=>wN t fun x o y pos=>fH (decEq o (fx op)) fun ho=>rb (pa.ev nm sc x) fun h=>rb (pb.ev nm sc y) fun h'=>rb (zX y) fun p=>(ho▸ok (KR h h' p):Rs (av G d nm sc (.cmp op a b) (.Compare x [o] [y] pos))))
 fun nm sc t=>wN t fun x o y pos=>fH (decEq o (fx op)) fun ho=>rb (pa.ev nm sc x) fun h=>rb (pb.ev nm sc y) fun h'=>rb (zX y) fun p=>(ho▸ok (JZ h h' p):Rs (dG G d nm sc (.cmp op a b) (.Compare x [o] [y] pos)))
end
section
section
variable{G:Gl}{d:Nat}{nm:eD}{sc:gm}{a:E}{ea:Expr}{pos p1 p2:Pos}{nx:Str}{i:Nat}
theorem Hj:Pl (.Name nx p1):=⟨fun _ _=>rfl,fun _=>rfl,fun _ _=>rfl,fun _ _=>⟨_,rfl⟩⟩
theorem Hr{as:List Expr}:Pl (.List as p1):=⟨fun _ _=>rfl,fun _=>rfl,fun _ _=>rfl,fun _ _=>⟨_,rfl⟩⟩
theorem Tc{A:Around}{Er:Value->Shared->Prop}{Q:Bool->Shared->Prop}{x y:Sx}{k1 k2:H->Prop}{c:Bool}(S:Step G x y)(ev:gk False (.bool c) (k1 y.h) (k2 y.h))(q1:∀y,Step G x y->k1 y.h->Q true y.s)(q2:∀y,Step G x y->k2 y.h->Q false y.s):WS G.m A (holding [.bool c] (truthy (.bool c))) Q Er y.s:=
 Xg (wpAny_truthy_bool (by cases c with|true=>exact q1 _ S ev|false=>exact q2 _ S ev))
theorem Gb(ng:Bool)(hv:nm.lookup nx=some i)(ho:bh nx=true)(ha:av G d nm sc a ea):dG G d nm sc (.bX ng a i) (.Compare ea [fx (if ng then .cg else .mem)] [.Name nx p1] pos):=by
 intro C O x ρ pw M R k1 k2 Q Er ev q1 q2
 rw[arm_isTrue_Compare]
 refine WJ (ha C O x ρ pw M R _ _ _ ev fun v X y S hX ev=>?_)
 obtain⟨o,h,ev⟩:=dZ ev
 obtain⟨c,e,ev⟩:=oR (P:=fun b=>gk False (.bool (xor ng b)) (k1 y.h) (k2 y.h)) ev
 show WS _ _ (testChain _ X [fx _] (markedEach [fx _] [.Name nx p1] [eval (.Name nx p1) C.env])) _ _ _
 rw[dU Hj]
 have R:=R.de M S
 refine WJ (Xg (wpAny_Name (fu O R hv h (WJ (Xu (WJ (wpAny_operating ?_))))) (aI ho)))
 have:=sI (A:=C.A) (Er:=Er) (Q:=fun r s=>WS G.m C.A (holding [r] (truthy r)) Q Er s) ng O.rm e hX (R.ow i o h).o fun tk=>Tc (y:={ y with s:={ y.s with toks:=tk}}) (S.trans (Step.tk S.M tk)) (by cases ng<;>cases c<;>exact ev) q1 q2
 cases ng<;>exact this
theorem Kw(hv:nm.lookup nx=some i)(ho:bh nx=true):dG G d nm sc (.zV i) (.Compare (.Name nx p1) [.NotEq] [.List [] p2] pos):=by
 intro C O x ρ pw M R k1 k2 Q Er ev q1 q2
 rw[arm_isTrue_Compare]
 obtain⟨vs,h,ev⟩:=om (P:=fun vs=>gk False (.bool (!vs.isEmpty)) (k1 x.h) (k2 x.h)) ev
 refine WJ (wpAny_Name (fu O R hv h ?_) (aI ho))
 show WS _ _ (testChain _ (.ref (pw i).1) [.NotEq] (markedEach [.NotEq] [.List [] p2] [eval (.List [] p2) C.env])) _ _ _
 rw[dU Hr]
 refine WJ (Xg ((Fr.ev (sX (a:=.af) (asts:=[]) rL)) C O x ρ pw M R (fun v h'=>v=.lst []/\h'=x.h) _ _ ⟨rfl,rfl⟩ fun v Y y S hY hk=>WJ (Xu (WJ (wpAny_operating ?_)))))
 obtain⟨rfl,eh⟩:=hk
 have H:=R.ow i _ h
 refine OR.listE (P:=fun p=>WS G.m C.A (compareOp .NotEq (.ref p.1) Y) _ Er y.s) (S.or H.o H.h) fun l items n g _ _ hl=>?_
 exact hY.hH (P:=fun Y=>WS G.m C.A (compareOp .NotEq (.ref l) Y) _ Er y.s) fun l' items' n' g' _ _ _ hl'=>mQ true O.rm (eq_nil vs) g hl g' hl' (Tc (c:=!vs.isEmpty) S (by rw[eh];exact ev) q1 q2)
end
section
section
variable{G:Gl}{d:Nat}{e a b c:E}
noncomputable def OD(ng:Bool)(i:Nat)(pa:Pv G d a):Pv G d (.bX ng a i):=Fi (fun nm sc t=>wN t fun x o y pos=>fH (decEq o (fx (if ng then .cg else .mem))) fun ho=>rb (pa.ev nm sc x) fun h=>nX (M:=fun y=>av G d nm sc (.bX ng a i) (.Compare x [o] [y] pos)) nm i y fun nx p h1 h2=>(ho▸ok (Ft ng rfl h1 h2 h):Rs (av G d nm sc (.bX ng a i) (.Compare x [o] [.Name nx p] pos))))
 fun nm sc t=>wN t fun x o y pos=>fH (decEq o (fx (if ng then .cg else .mem))) fun ho=>rb (pa.ev nm sc x) fun h=>nX (M:=fun y=>dG G d nm sc (.bX ng a i) (.Compare x [o] [y] pos)) nm i y fun nx p h1 h2=>(ho▸ok (Gb ng h1 h2 h):Rs (dG G d nm sc (.bX ng a i) (.Compare x [o] [.Name nx p] pos)))
noncomputable def NV{M:Expr->Prop}(nm:eD)(i:Nat)(t:Expr)(k:∀nx p1 p2 pos,nm.lookup nx=some i->bh nx=true->Rs (M (.Compare (.Name nx p1) [.NotEq] [.List [] p2] pos))):Rs (M t):=wN t fun x o y pos=>fH (decEq o .NotEq) fun ho=>nX (M:=fun x=>M (.Compare x [o] [y] pos)) nm i x fun nx p1 h1 h2=>uj (M:=fun y=>M (.Compare (.Name nx p1) [o] [y] pos)) y fun as p2=>
 zG (M:=fun as=>M (.Compare (.Name nx p1) [o] [.List as p2] pos)) as (ho▸k nx p1 p2 pos h1 h2:Rs (M (.Compare (.Name nx p1) [o] [.List [] p2] pos)))
noncomputable def QL(i:Nat):Pv G d (.zV i):=Fi (fun nm sc t=>NV nm i t fun nx p1 p2 pos h1 h2=>ok (JK h1 h2)) fun nm sc t=>NV nm i t fun nx p1 p2 pos h1 h2=>ok (Kw h1 h2)
noncomputable def RD(i:Nat):Pv G d (.Ju i):=Fi (fun _ _ _=>cH) fun nm sc t=>nX nm i t fun nx pos h1 h2=>ok (JM h1 h2)
noncomputable def SA(pc:Pv G d c)(pa:Pv G d a)(pb:Pv G d b):Pv G d (.ite c a b):=Fi (fun nm sc t=>PR t fun z x y pos=>rb (pc.ts nm sc z) fun h=>rb (pa.ev nm sc x) fun h1=>rb (pb.ev nm sc y) fun h2=>ok (Lv h h1 h2))
 fun nm sc t=>PR t fun z x y pos=>rb (pc.ts nm sc z) fun h=>rb (pa.ts nm sc x) fun h1=>rb (pb.ts nm sc y) fun h2=>ok (Lk h h1 h2)
noncomputable def Rj(pa:Pv G d a)(pb:Pv G d b):Pv G d (.sub a b):=nf fun nm sc t=>nU t fun x y pos=>rb (pa.ev nm sc x) fun h=>rb (pb.ev nm sc y) fun h'=>rb (zX y) fun p=>ok (Kj h h' p)
noncomputable def Pe(i:Nat)(pb:Pv G d b):Pv G d (.aH i b):=nf fun nm sc t=>nU t fun x y pos=>nX (M:=fun x=>av G d nm sc (.aH i b) (.Subscript x y pos)) nm i x fun nx p1 h1 h2=>rb (pb.ev nm sc y) fun h'=>rb (zX y) fun p=>ok (HP h1 h2 h' p)
noncomputable def Ov(i:Nat)(pb:Pv G d b):Pv G d (.vM i b):=nf fun nm sc t=>Jh nm i 5 t fun nx p1 ap as pos h1 h2 h3 h4=>rb (pb.ar nm sc as) fun h=>ok (Hs h1 h2 h h3 h4)
noncomputable def MV(pa:Pv G d a)(pb:Pv G d b):Pv G d (.dY a b):=nf fun nm sc t=>nU t fun x y pos=>RB (M:=fun y=>av G d nm sc (.dY a b) (.Subscript x y pos)) y fun l u s p=>match l,u,s with
 |none,some u,none=>rb (pa.ev nm sc x) fun h=>rb (pb.ev nm sc u) fun h'=>ok (HF h h')
 |_,_,_=>cH
noncomputable def EN(pa:Pv G d a)(pb:Pv G d b):Pv G d (.aW a b):=nf fun nm sc t=>nU t fun x y pos=>RB (M:=fun y=>av G d nm sc (.aW a b) (.Subscript x y pos)) y fun l u s p=>match l,u,s with
 |some u,none,none=>rb (pa.ev nm sc x) fun h=>rb (pb.ev nm sc u) fun h'=>ok (za h h')
 |_,_,_=>cH
noncomputable def MD(pa:Pv G d a):Pv G d (.fR a):=nf fun nm sc t=>nU t fun x y pos=>RB (M:=fun y=>av G d nm sc (.fR a) (.Subscript x y pos)) y fun l u s p=>match l,u,s with
 |none,none,some s=>ML (M:=fun s=>av G d nm sc (.fR a) (.Subscript x (.Slice none none (some s) p) pos)) s fun o y p2=>fH (decEq o .USub) fun ho=>pI (M:=fun y=>av G d nm sc (.fR a) (.Subscript x (.Slice none none (some (.UnaryOp o y p2)) p) pos)) y fun c k p1=>fH (decEq c (.int 1)) fun hc=>rb (pa.ev nm sc x) fun h=>
  (ho▸hc▸ok (CD h):Rs (av G d nm sc (.fR a) (.Subscript x (.Slice none none (some (.UnaryOp o (.Constant c k p1) p2)) p) pos)))
 |_,_,_=>cH
end
noncomputable def pv{G:Gl}{d:Nat}(W:Wd G)(J:dq G d)(N:tD G)(e:E):Pv G d e:=
 E.rec (motive:=fun e=>Pv G d e) RW Sz (Nl W N) QS (fun _ _=>Oy) (fun _=>Pj) (Ks W) (fun _ _=>JP W) (fun _ t _ pe pi=>MC W t pe pi) (fun _ t i pe=>Fv W t i pe) (fun _ t _ _ pe pi pc=>DT W t pe pi pc) (fun _ _ t _ _ pk pe pi pc=>Ay W t pk pe pi pc)
  (fun _=>OV) (fun _=>Sp) (fun _ f pa=>Po W f pa) (KJ W) (fun _ m _ pa pb=>Ku W J m pa pb) (fun f _ pa=>MZ W J N f pa) (fun c _ pa=>Ra W J N c pa) (fun c _ pa=>NN W J N c pa) (fun b _ pa=>Vv W N b pa) (Pb W N) (fun _=>JB W N) (fun _=>Fx W N)
  (fun op _ _=>RX op) (fun _=>Si) (fun _=>QF) (fun _ _=>QG) (fun _ _=>VK) (fun op _ _=>Rm op) (fun ng _ i=>OD ng i) QL RD (fun _ _ _=>SA) (fun _ _=>Rj) (fun i _=>Pe i) (fun i _=>Ov i) (fun _ _=>MV) (fun _ _=>EN) (fun _=>MD) (fun i _=>QM i) e
end
end
section
section
variable{n nx:Str}{p1 p2 p3 q1 q2 q3:Pos}{k1 k2:Nat}
theorem Dy(env:PySem.Env):swappedStores [.Tuple [.Name n p2,.Name nx p3] k1 p1] (.Tuple [.Dict [] [] q1,.List [] q2] k2 q3) env=pure none\/swappedStores [.Tuple [.Name n p2,.Name nx p3] k1 p1] (.Tuple [.Dict [] [] q1,.List [] q2] k2 q3) env=pure (some [n,nx]):=by
 have pick:∀{α:Type}(c:Bool)(a b:α)(P:α->Prop),P a->P b->P (if c=true then a else b):=fun c a b P x y=>by cases c;exact y;exact x
 unfold swappedStores
 refine pick _ _ _ (fun x=>x=pure none\/x=pure (some [n,nx])) (.inl rfl) (pick _ _ _ (fun x=>x=pure none\/x=pure (some [n,nx])) (.inl rfl) ?_)
 have nm:∀(f:Expr->Option Str),(∀m p,f (.Name m p)=some m\/f (.Name m p)=none)->([Expr.Name n p2,.Name nx p3].filterMap f=[n,nx]\/([Expr.Name n p2,.Name nx p3].filterMap f).length≠2):=fun f h=>by
  rcases h n p2 with a|a<;>rcases h nx p3 with b|b
  ·left;rw[YD a,YD b];rfl
  ·right;rw[YD a,Yv b];exact fun h=>nomatch h
  ·right;rw[Yv a,YD b];exact fun h=>nomatch h
  ·right;rw[Yv a,Yv b];exact fun h=>nomatch h
 have key:∀l:List Str,(l=[n,nx]\/l.length≠2)->((if(l.length !=2||l.eraseDups.length !=l.length)=true then pure none else pure (some l):Sem (Option (List Str)))=pure none\/(if(l.length !=2||l.eraseDups.length !=l.length)=true then pure none else pure (some l):Sem (Option (List Str)))=pure (some [n,nx])):=fun l h=>by
  rcases h with rfl|h
  ·exact pick _ _ _ (fun x=>x=pure none\/x=pure (some [n,nx])) (.inl rfl) (.inr rfl)
  ·exact .inl (if_pos (by rw[bne_iff_ne.mpr h];rfl))
 refine key _ ?_
 apply nm
 intro m p
 exact pick _ _ _ (fun x=>x=some m\/x=none) (.inl rfl) (.inr rfl)
end
section
section
variable(G:Gl)(d:Nat)
structure Sv(s:S) where
 st:∀nm sc t,Rs (aF G d nm sc s (exec t))
 bl:∀nm sc ts,Rs (aF G d nm sc s (execs ts))
 fz:∀nm (sc:gm),Rs (wc G d nm sc s)
end
section
variable{G:Gl}{d:Nat}{s s1 s2:S}{e a c ie oe:E}
noncomputable def wG(st:∀nm sc t,Rs (aF G d nm sc s (exec t))):Sv G d s:=⟨st,fun nm sc ts=>zg (M:=fun ts=>aF G d nm sc s (execs ts)) ts fun t=>rb (st nm sc t) fun h=>ok (Lu h),fun _ _=>cH⟩
noncomputable def QU(fz:∀nm (sc:gm),Rs (wc G d nm sc s)):Sv G d s:=⟨fun _ _ _=>cH,fun nm sc ts=>zG (M:=fun ts=>aF G d nm sc s (execs ts)) ts (rb (fz nm sc) fun h=>ok (KU h)),fz⟩
noncomputable def Oo:Sv G d .skip:=⟨fun _ _ _=>cH,fun nm sc ts=>orElse' (zG (M:=fun ts=>aF G d nm sc .skip (execs ts)) ts (ok Lx)) (zg (M:=fun ts=>aF G d nm sc .skip (execs ts)) ts fun t=>fH (Yy t.ctorIdx 25) fun h=>Stmt.Pass.elim (motive_2:=fun t=>Rs (aF G d nm sc .skip (execs [t]))) t h fun p=>ok GZ),fun _ _=>cH⟩
noncomputable def Rz(pa:Sv G d s1)(pb:Sv G d s2):Sv G d (.seq s1 s2):=⟨fun _ _ _=>cH,fun nm sc ts=>orElse' (rb (pa.fz nm sc) fun h=>rb (pb.bl nm sc ts) fun h'=>ok (OS h h')) (match ts with
 |t::ts=>rb (pa.st nm sc t) fun h=>rb (pb.bl nm sc ts) fun h'=>ok (JV h h')
 |[]=>cH),fun _ _=>cH⟩
noncomputable def Am{M:Expr->Prop}(nm:eD)(i:Nat)(t:Expr)(k:∀n p,nm.lookup n=some i->Rs (M (.Name n p))):Rs (M t):=gJ t fun n p=>rq (decide (nm.lookup n=some i)) fun h=>k n p (of_decide_eq_true h)
noncomputable def Sa(i:Nat)(pe:Pv G d e):Sv G d (.asg i e):=wG fun nm sc t=>tG (S:=fun t=>aF G d nm sc _ (exec t)) t fun x v pos=>Am (M:=fun x=>aF G d nm sc (.asg i e) (exec (.Assign [x] v pos))) nm i x fun n p hn=>
 orElse' (rb (QI v) fun c=>rb (pe.co nm sc v) fun h=>ok (GN h c.e c.u (fun env=>c.w _ _ _ env) hn)) (rb (Oj v) fun hs=>rb (pe.ev nm sc v) fun h=>ok (LZ h hs hn))
noncomputable def Na(i:Nat)(pe:Pv G d e):Sv G d (.aY i e):=wG fun nm sc t=>tG (S:=fun t=>aF G d nm sc _ (exec t)) t fun x v pos=>Am (M:=fun x=>aF G d nm sc (.aY i e) (exec (.Assign [x] v pos))) nm i x fun n p hn=>fH (inferInstance:Decidable (i≠0)) fun ne=>
 orElse' (rb (QI v) fun c=>rb (pe.co nm sc v) fun h=>ok (DM h c.e c.u (fun env=>c.w _ _ _ env) hn ne)) (rb (Oj v) fun hs=>rb (pe.ow nm sc v) fun h=>ok (EI h hs hn ne))
noncomputable def VW(ts:List Expr)(v:Expr):Prop:=∀env k p,swappedStores [.Tuple ts k p] v env=pure none
noncomputable def TJ(ts:List Expr)(v:Expr):Rs (VW ts v):=orElse' (gx v fun _ _ _=>ok fun _ _ _=>rfl) (orElse' (gJ v fun _ _=>ok fun _ _ _=>rfl) (nU v fun _ _ _=>ok fun _ _ _=>rfl))
noncomputable def Qk(W:Wd G)(is:List Nat)(pe:Pv G d e):Sv G d (.md is e):=wG fun nm sc t=>tG (S:=fun t=>aF G d nm sc _ (exec t)) t fun x v pos=>wM (M:=fun x=>aF G d nm sc (.md is e) (exec (.Assign [x] v pos))) x fun ts k p=>rb (Oj v) fun hs=>rb (pe.ev nm sc v) fun h=>match is with
 |[i,j]=>Oe (M:=fun ts=>aF G d nm sc (.md [i,j] e) (exec (.Assign [.Tuple ts k p] v pos))) ts fun a b=>Am (M:=fun a=>aF G d nm sc (.md [i,j] e) (exec (.Assign [.Tuple [a,b] k p] v pos))) nm i a fun n p2 hn=>
  Am (M:=fun b=>aF G d nm sc (.md [i,j] e) (exec (.Assign [.Tuple [.Name n p2,b] k p] v pos))) nm j b fun m p3 hm=>
  orElse' (rb (TJ _ v) fun hw=>ok (Dm W h hs (fun env=>hw env k p) fun env=>⟨⟨rfl,rfl⟩,.cons gj hn (.cons gj hm .nil)⟩))
   (fH (inferInstance:Decidable (i≠j)) fun ne=>wM (M:=fun v=>oO v->av G d nm sc e v->aF G d nm sc (.md [i,j] e) (exec (.Assign [.Tuple [.Name n p2,.Name m p3] k p] v pos))) v (fun vs k2 q3=>Oe (M:=fun vs=>oO (.Tuple vs k2 q3)->av G d nm sc e (.Tuple vs k2 q3)->aF G d nm sc (.md [i,j] e) (exec (.Assign [.Tuple [.Name n p2,.Name m p3] k p] (.Tuple vs k2 q3) pos))) vs fun x y=>
    tH (M:=fun x=>oO (.Tuple [x,y] k2 q3)->av G d nm sc e (.Tuple [x,y] k2 q3)->aF G d nm sc (.md [i,j] e) (exec (.Assign [.Tuple [.Name n p2,.Name m p3] k p] (.Tuple [x,y] k2 q3) pos))) x fun dk dv q1=>uj (M:=fun y=>oO (.Tuple [.Dict dk dv q1,y] k2 q3)->av G d nm sc e (.Tuple [.Dict dk dv q1,y] k2 q3)->aF G d nm sc (.md [i,j] e) (exec (.Assign [.Tuple [.Name n p2,.Name m p3] k p] (.Tuple [.Dict dk dv q1,y] k2 q3) pos))) y fun as q2=>
    match dk,dv,as with
    |[],[],[]=>ok fun hs h=>Hb W h hs Dy hn hm fun ρ a b=>(yn ne).symm
    |_,_,_=>cH)|>fun r=>rb r fun f=>ok (f hs h))
 |[i,j,l]=>(match ts with
  |[.Name n p2,.Name m p3,.Name o p4]=>rb (TJ _ v) fun hw=>rq (decide (nm.lookup n=some i/\nm.lookup m=some j/\nm.lookup o=some l)) fun hn=>have hn:=of_decide_eq_true hn
   ok (Dm W h hs (fun env=>hw env k p) fun env=>⟨⟨rfl,rfl⟩,.cons gj hn.1 (.cons gj hn.2.1 (.cons gj hn.2.2 .nil))⟩)
  |_=>cH)
 |_=>cH
noncomputable def OH(W:Wd G)(f:Nat)(po:Pv G d oe)(pe:Pv G d e):Sv G d (.eT oe f e):=wG fun nm sc t=>tG (S:=fun t=>aF G d nm sc _ (exec t)) t fun x v pos=>jc (M:=fun x=>aF G d nm sc (.eT oe f e) (exec (.Assign [x] v pos))) x fun o n p=>fH (decEq n (aw f)) fun hn=>rb (PF v) fun hs=>rb (pe.ev nm sc v) fun h=>rb (po.ev nm sc o) fun h'=>
 (hn▸ok (FQ W h h' fun env l=>hs.1 _ _ _ env l):Rs (aF G d nm sc (.eT oe f e) (exec (.Assign [.Attribute o n p] v pos))))
noncomputable def Lo(W:Wd G)(f:Nat)(pe:Pv G d e):Sv G d (.aB f e):=wG fun nm sc t=>tG (S:=fun t=>aF G d nm sc _ (exec t)) t fun x v pos=>jc (M:=fun x=>aF G d nm sc (.aB f e) (exec (.Assign [x] v pos))) x fun o n p=>fH (decEq n (aw f)) fun hn=>nX (M:=fun o=>aF G d nm sc (.aB f e) (exec (.Assign [.Attribute o n p] v pos))) nm 0 o fun m p2 h1 h2=>rb (PF v) fun hs=>rb (pe.ev nm sc v) fun h=>
 (hn▸ok (BD W h h1 h2 fun env l=>hs.1 _ _ _ env l):Rs (aF G d nm sc (.aB f e) (exec (.Assign [.Attribute (.Name m p2) n p] v pos))))
noncomputable def Ob(po:Pv G d oe)(pi:Pv G d ie)(pe:Pv G d e):Sv G d (.eS oe ie e):=wG fun nm sc t=>tG (S:=fun t=>aF G d nm sc _ (exec t)) t fun x v pos=>nU (M:=fun x=>aF G d nm sc (.eS oe ie e) (exec (.Assign [x] v pos))) x fun o i p=>rb (PF v) fun hs=>rb (pe.ev nm sc v) fun h=>rb (po.ev nm sc o) fun h'=>rb (pi.ev nm sc i) fun h2=>
 ok (Hy h h' h2 fun env l=>hs.2 _ _ _ env l)
noncomputable def Md(i:Nat)(pi:Pv G d ie)(pe:Pv G d e):Sv G d (.aP i ie e):=wG fun nm sc t=>tG (S:=fun t=>aF G d nm sc _ (exec t)) t fun x v pos=>nU (M:=fun x=>aF G d nm sc (.aP i ie e) (exec (.Assign [x] v pos))) x fun o k p=>nX (M:=fun o=>aF G d nm sc (.aP i ie e) (exec (.Assign [.Subscript o k p] v pos))) nm i o fun m p2 h1 h2=>rb (PF v) fun hs=>rb (pe.ev nm sc v) fun h=>rb (pi.ev nm sc k) fun h3=>
 ok (Cr h h1 h2 h3 fun env l=>hs.2 _ _ _ env l)
noncomputable def Wu(pe:Pv G d e):Sv G d (.ex e):=wG fun nm sc t=>Ul (S:=fun t=>aF G d nm sc _ (exec t)) t fun v pos=>rb (Oj v) fun hs=>rb (pe.ev nm sc v) fun h=>ok (Pg h hs)
noncomputable def Wy(i m:Nat)(pa:Pv G d a):Sv G d (.mO i m a):=wG fun nm sc t=>Ul (S:=fun t=>aF G d nm sc _ (exec t)) t fun v p2=>Jh (M:=fun v=>aF G d nm sc (.mO i m a) (exec (.Expr v p2))) nm i m v fun nx p1 ap as pos h1 h2 h3 h4=>rb (pa.ar nm sc as) fun h=>ok (Od h1 h2 h h3 h4)
noncomputable def OI(j i m:Nat)(pa:Pv G d a):Sv G d (.iY j i m a):=wG fun nm sc t=>tG (S:=fun t=>aF G d nm sc _ (exec t)) t fun x v p2=>Am (M:=fun x=>aF G d nm sc (.iY j i m a) (exec (.Assign [x] v p2))) nm j x fun n p3 hj=>Jh (M:=fun v=>aF G d nm sc (.iY j i m a) (exec (.Assign [.Name n p3] v p2))) nm i m v fun nx p1 ap as pos h1 h2 h3 h4=>rb (pa.ar nm sc as) fun h=>ok (ET h1 h2 h h3 h4 hj)
noncomputable def SE(pc:Pv G d c)(pa:Sv G d s1)(pb:Sv G d s2):Sv G d (.ite c s1 s2):=wG fun nm sc t=>RA (S:=fun t=>aF G d nm sc _ (exec t)) t fun x a b pos=>rb (pc.ts nm sc x) fun h=>rb (pa.bl nm sc a) fun h1=>rb (pb.bl nm sc b) fun h2=>ok (LB h h1 h2)
noncomputable def Nt(W:Wd G)(t:T)(pi:Pv G d ie)(pb:Sv G d s1):Sv G d (.loop t ie s1):=wG fun nm sc x=>SF (S:=fun t=>aF G d nm sc _ (exec t)) x fun tg i b pos=>rb (pi.ev nm sc i) fun h=>rb (zX i) fun p=>rb (Tr W nm sc t tg) fun hg=>rb (pb.bl nm sc b) fun h1=>ok (FH W h p hg h1)
noncomputable def KL(pc:Pv G d c)(pb:Sv G d s1):Sv G d (.dd c s1):=wG fun nm sc t=>Lg (S:=fun t=>aF G d nm sc _ (exec t)) t fun x b pos=>rb (pc.ts nm sc x) fun h=>rb (pb.bl nm sc b) fun h1=>ok (Ee h h1)
noncomputable def Rn(pe:Pv G d e):Sv G d (.ret e):=wG fun nm sc t=>Qw (S:=fun t=>aF G d nm sc _ (exec t)) t fun v pos=>rb (pe.ev nm sc v) fun h=>ok (Jo h)
noncomputable def Ou:Sv G d .cont:=wG fun nm sc t=>fH (Yy t.ctorIdx 27) fun h=>Stmt.Continue.elim (motive_2:=fun t=>Rs (aF G d nm sc .cont (exec t))) t h fun p=>ok HY
noncomputable def Nm:Sv G d .stop:=⟨fun _ _ _=>ok xR,fun _ _ _=>ok xR,fun _ _=>cH⟩
noncomputable def II(nm:eD)(i:Nat){Q:Prop}(k:∀n,nm.lookup n=some i->Rs Q):Rs Q:=match nm.find? fun p=>Nat.beq p.2 i with|some p=>rq (decide (nm.lookup p.1=some i)) fun h=>k p.1 (of_decide_eq_true h)|none=>cH
noncomputable def SI(f:Nat)(e:E):Sv G d (.uZ e f):=QU fun nm sc=>match e with|.loc j=>II nm j fun n h=>ok (Km h)|_=>cH
end
noncomputable def sv{G:Gl}{d:Nat}(W:Wd G)(J:dq G d)(N:tD G)(s:S):Sv G d s:=
 S.rec (motive:=fun s=>Sv G d s) Oo (fun _ _=>Rz) (fun i e=>Sa i (pv W J N e)) (fun i e=>Na i (pv W J N e)) (fun is e=>Qk W is (pv W J N e)) (fun o f e=>OH W f (pv W J N o) (pv W J N e)) (fun f e=>Lo W f (pv W J N e)) (fun o i e=>Ob (pv W J N o) (pv W J N i) (pv W J N e)) (fun i k e=>Md i (pv W J N k) (pv W J N e))
  (fun e=>Wu (pv W J N e)) (fun i m a=>Wy i m (pv W J N a)) (fun j i m a=>OI j i m (pv W J N a)) (fun c _ _ pa pb=>SE (pv W J N c) pa pb) (fun t i _ pb=>Nt W t (pv W J N i) pb) (fun c _ pb=>KL (pv W J N c) pb) (fun e=>Rn (pv W J N e)) Ou Nm
  (fun i=>QU fun _ _=>ok NG) (fun i=>QU fun nm sc=>II nm i fun n h=>ok (Jn h)) (fun e f=>SI f e) s
end
end
section
section
noncomputable abbrev pw:Program:=PySem.Challenge.pw_nn0415_01
noncomputable def allR{α:Type}{P:α->Prop}(f:∀a,Rs (P a))(l:List α):Rs (∀a∈l,P a):=List.rec (motive:=fun l=>Rs (∀a∈l,P a)) (ok fun _ h=>nomatch h) (fun a l r=>rb (f a) fun h=>rb r fun t=>ok (List.forall_mem_cons.mpr ⟨h,t⟩)) l
noncomputable abbrev FT:=Arguments×List Stmt×Scope
noncomputable def fun1(t:Stmt):List FT:=match Yy t.ctorIdx 0 with|.isTrue h=>Stmt.FunctionDef.elim (motive_2:=fun _=>List FT) t h fun _ as b _ _ _ sc _ _ _=>[(as,b,sc)]|.isFalse _=>[]
noncomputable def fun2(t:Stmt):List FT:=match Yy t.ctorIdx 2 with|.isTrue h=>Stmt.ClassDef.elim (motive_2:=fun _=>List FT) t h fun _ _ _ b _ _ _ _ _ _ _=>b.flatMap fun1|.isFalse _=>fun1 t
noncomputable def Nx:List Nat:=[3,4,6,7,8,9,10,12,13,14,15,16,17,18,19,20,21,22,23,26,27,28,29,30,31,32,34,35,36,37,38,39,40,43,44,45,47,48,49,50,51,52,53,54,55,60,61,62,63,64,65,66,67,69,74,75,77,78,80,81,82,83,84,85,86,87,88,89,90,91,92,93,94,95,96]
noncomputable def Ow:List (Option FT):=Nx.map fun i=>(pw.main.body.flatMap fun2)[i]?
noncomputable def Cz(sl:List String):eD:=(sl.map Str.ofString).zipIdx
noncomputable def rz(A:FT):List Str:=A.1.args.map Arg.arg
noncomputable def WE(A:FT)(x:Str):Prop:=A.2.2.names.lookup x=some .local\/A.2.2.names.lookup x=some .cell
structure Uh(A:FT)(F:Fn)(nm:eD):Prop where
 co:A.2.2.isCoroutine=false
 ge:A.2.2.isGenerator=false
 kd:A.2.2.kind=.function
 np:(rz A).length=F.np
 nd:(rz A).Nodup
 nx:∀p∈nm,p.2<F.np->(rz A)[p.2]? =some p.1
 nk:∀p∈nm,A.2.2.names.lookup p.1=some .local\/A.2.2.names.lookup p.1=some .cell
 xk:∀x∈rz A,A.2.2.names.lookup x=some .local\/A.2.2.names.lookup x=some .cell
 inj:(nm.map Prod.snd).Nodup
noncomputable def Ro(A:FT)(F:Fn)(nm:eD):Rs (Uh A F nm):=rq (decide (A.2.2.isCoroutine=false/\A.2.2.isGenerator=false/\A.2.2.kind=.function/\(rz A).length=F.np/\(rz A).Nodup/\(∀p∈nm,p.2<F.np->(rz A)[p.2]? =some p.1)/\(∀p∈nm,A.2.2.names.lookup p.1=some .local\/A.2.2.names.lookup p.1=some .cell)/\
 (∀x∈rz A,A.2.2.names.lookup x=some .local\/A.2.2.names.lookup x=some .cell)/\(nm.map Prod.snd).Nodup)) fun h=>have h:=of_decide_eq_true h;ok ⟨h.1,h.2.1,h.2.2.1,h.2.2.2.1,h.2.2.2.2.1,h.2.2.2.2.2.1,h.2.2.2.2.2.2.1,h.2.2.2.2.2.2.2.1,h.2.2.2.2.2.2.2.2⟩
noncomputable def nA:List Nat:=[76,83,104,120,139,146,153,167,174,181,188,195,202,215,222,228,233,240,247,268,280,287,294,301,308,315,336,343,350,357,364,369,383,402,423,430,458,465,472,479,493,500,507,521,528,577,584,591,598,612,619,633,640,654,699,706,725,739,758,765,773,778,783,790,795,800,807,814,819,826,831,836,841,846,853]
noncomputable abbrev Ent:=Option FT×Fn×List String×Nat
noncomputable def tab:List Ent:=Ow.zip (wW.zip (slotNames.zip nA))
section
variable{G:Gl}{d:Nat}(W:Wd G)(J:dq G d)(N:tD G)
noncomputable def Ux(G:Gl)(d:Nat)(p:Ent):Prop:=∃A,p.1=some A/\aF G d (Cz p.2.2.1) A.2.2.names p.2.1.body (execs A.2.1)
noncomputable def VG(p:Ent):Rs (Ux G d p):=match p with
 |(some A,F,sl,_)=>rb ((sv W J N F.body).bl (Cz sl) A.2.2.names A.2.1) fun h'=>ok ⟨A,rfl,h'⟩
 |_=>cH
noncomputable def UN(p:Ent):Prop:=∃A,p.1=some A/\Uh A p.2.1 (Cz p.2.2.1)
noncomputable def Wi(p:Ent):Rs (UN p):=match p with
 |(some A,F,sl,_)=>rb (Ro A F (Cz sl)) fun h=>ok ⟨A,rfl,h⟩
 |_=>cH
theorem LX:∀p∈tab,UN p:=Rs.get (allR Wi tab) (by kernel_rfl)
theorem AV(W:Wd G)(J:dq G d)(N:tD G):(allR (VG W J N) tab).isSome=true:=by kernel_rfl
theorem Lq(W:Wd G)(J:dq G d)(N:tD G):∀p∈tab,Ux G d p:=Rs.get _ (AV W J N)
end
end
end
section
noncomputable def Pw{α:Type}(t:Sem α)(o:Obj):Option (Addr×Sem α):=match Yy t.ctorIdx 6 with|.isTrue h=>Sem.load.elim (motive:=fun _=>Option (Addr×Sem α)) t h fun a _ k=>some (a,k o)|.isFalse _=>none
theorem Mj{α:Type}{t:Sem α}{o:Obj}{T:Addr}{b:α}{M:Model}{A:Around}{E:Value->Shared->Prop}{s:Shared}{Q:α->Shared->Prop}(h:Pw t o=some (T,pure b))(g:s.heap.get? T=some o)(q:Q b s):WS M A t Q E s:=by
 unfold Pw at h
 revert h
 cases Yy t.ctorIdx 6 with
 |isFalse _=>exact fun h=>nomatch h
 |isTrue i=>exact Sem.load.elim (motive:=fun t=>∀i:t.ctorIdx=6,Sem.load.elim (motive:=fun _=>Option (Addr×Sem α)) t i (fun a _ k=>some (a,k o))=some (T,pure b)->WS M A t Q E s) t i (fun a p k i h=>by
  obtain⟨rfl,e⟩:=Prod.mk.inj (Option.some.inj (h:some (a,k o)=some (T,pure b)))
  exact fun Γ p hΓ=>⟨o,g,by rw[e];exact q⟩) i
noncomputable def LA(fd:FuncData)(P:Arguments)(T:Addr)(ob:Obj)(n:Nat)(D l:List Value):Option (Addr×Sem (List (Str×Value))):=match D with
 |[]=>some (T,bindArgs { fd with params:=P,defaults:=.none} ⟨l,[]⟩)
 |_=>Pw (bindArgs { fd with params:=P,defaults:=.ref T} ⟨l,[]⟩) { ob with data:=.seq D.toArray n}
noncomputable def zh(F:Nat->Value)(n:Nat):List Value:=(Xq n).map F
theorem fst_eq{l:List Value}:l=zh (fun i=>l[i]?.getD .none) l.length:=by
 refine YX fun i=>?_
 unfold zh
 rw[Xj]
 by_cases h:i<l.length
 ·rw[Zt h];show l[i]? =some (l[i]?.getD .none);rw[WR h];rfl
 ·rw[XD (Yu.mp h),XD (by rw[Xb];exact Yu.mp h)];rfl
theorem LJ:∀fd T ob n X D,tab.map (fun t=>(Xq (t.2.1.nZ.length+1)).map fun j=>t.1.map fun A=>LA fd A.1 T ob n (zh D t.2.1.nZ.length) (zh X (t.2.1.np-j)))=
  tab.map fun t=>(Xq (t.2.1.nZ.length+1)).map fun j=>t.1.map fun A=>some (T,pure ((rz A).zip (zh X (t.2.1.np-j)++(zh D t.2.1.nZ.length).drop (t.2.1.nZ.length-j)))):=fun _ _ _ _ _ _=>by kernel_rfl
end
section
section
noncomputable def uN:List Nat:=[93,123,205,325,405,440,482,559,601,681,716,749]
noncomputable def QB:List Nat:=nA++nA.map (· -1)++uN++uN.map (· -1)++[3,69,105,113,210,223,766]
noncomputable def fragOf(h:Heap):Frag:=QB.filterMap fun a=>(h.get? a).map fun o=>(a,o)
theorem GS(h:Heap):(fragOf h).In h:=fun a o e=>by
 have go:∀l:Frag,l.lookup a=some o->(a,o)∈l:=fun l=>by
  induction l with
  |nil=>exact fun h=>nomatch h
  |cons p l ih=>
   intro e
   obtain⟨b,u⟩:=p
   rw[Zc]at e
   cases q:a==b with
   |true=>rw[q]at e;cases e;rw[beq_iff_eq.mp q];exact .head _
   |false=>rw[q]at e;exact .tail _ (ih e)
 obtain⟨b,_,hb⟩:=aaY.mp (go _ e)
 obtain⟨u,hu,q⟩:=Xe.mp hb
 cases q
 exact hu
noncomputable def Ta(d:Data):{ r:Option FuncData//∀f,r=some f->d=.func f}:=match Yy d.ctorIdx 7 with
 |.isTrue h=>Data.func.elim (motive:=fun d=>{ r:Option FuncData//∀f,r=some f->d=.func f}) d h fun f=>⟨some f,fun _ e=>congrArg Data.func (Option.some.inj e)⟩
 |.isFalse _=>⟨none,fun _ e=>nomatch e⟩
noncomputable def PG(d:Data):{ r:Option (Array Value×Nat)//∀f,r=some f->d=.seq f.1 f.2}:=match Yy d.ctorIdx 2 with
 |.isTrue h=>Data.seq.elim (motive:=fun d=>{ r:Option (Array Value×Nat)//∀f,r=some f->d=.seq f.1 f.2}) d h fun a n=>⟨some (a,n),fun _ e=>by cases e;rfl⟩
 |.isFalse _=>⟨none,fun _ e=>nomatch e⟩
noncomputable def Vc(d:Data):{ r:Option (Array Value)//∀f,r=some f->d=.fields f}:=match Yy d.ctorIdx 9 with
 |.isTrue h=>Data.fields.elim (motive:=fun d=>{ r:Option (Array Value)//∀f,r=some f->d=.fields f}) d h fun f=>⟨some f,fun _ e=>congrArg Data.fields (Option.some.inj e)⟩
 |.isFalse _=>⟨none,fun _ e=>nomatch e⟩
noncomputable def Tu(b:FuncBody):{ r:Option (List Stmt)//∀f,r=some f->b=.stmts f}:=match b with|.stmts l=>⟨some l,fun _ e=>congrArg FuncBody.stmts (Option.some.inj e)⟩|.expr _=>⟨none,fun _ e=>nomatch e⟩
section
variable{Q:Prop}{M:Value->Prop}
noncomputable def vI(t:Value)(n:Nat)(k:t.ctorIdx=n->Rs (M t)):Rs (M t):=fH (Yy t.ctorIdx n) k
noncomputable def IM(t:Value)(k:Rs (M .none)):Rs (M t):=vI t 0 fun h=>Value.none.elim (motive:=fun t=>Rs (M t)) t h k
noncomputable def vInt(t:Value)(k:∀i u,Rs (M (.int i u))):Rs (M t):=vI t 4 fun h=>Value.int.elim (motive:=fun t=>Rs (M t)) t h k
noncomputable def vStr(t:Value)(k:∀s u,Rs (M (.str s u))):Rs (M t):=vI t 6 fun h=>Value.str.elim (motive:=fun t=>Rs (M t)) t h k
noncomputable def Ld(t:Value)(k:∀a,Rs (M (.ref a))):Rs (M t):=vI t 10 fun h=>Value.ref.elim (motive:=fun t=>Rs (M t)) t h k
noncomputable def Aa{α:Type}(o:Option α)(k:∀a,o=some a->Rs Q):Rs Q:=match h:o with|some a=>k a rfl|none=>cH
end
noncomputable def wk(v:V)(X:Value):Prop:=∀G β F Hp,VR G β F Hp v X
noncomputable def MW(v:V)(X:Value):Rs (wk v X):=match v with
 |.none=>IM X (ok fun _ _ _ _=>.none)
 |.int i=>vInt X fun j t=>fH (abY j i) fun h=>ok fun _ _ _ _=>h▸.int j t
 |.str l=>vStr X fun S t=>rq (decide (S.cps.toList=l)) fun h=>ok fun _ _ _ _=>.str (of_decide_eq_true h)
 |_=>cH
noncomputable def Bl(vs:List V):∀Xs,Rs (L2 wk vs Xs):=List.rec (motive:=fun vs=>∀Xs,Rs (L2 wk vs Xs)) (fun Xs=>zG Xs (ok .nil)) (fun v vs r Xs=>match Xs with
 |X::Xs=>rb (MW v X) fun h=>rb (r Xs) fun h'=>ok (.cons h h')
 |[]=>cH) vs
noncomputable def VD(K:Frag)(fd:FuncData)(v:Value):Rs (∃c o vs t,v=.ref c/\K.lookup c=some o/\o.data=.fields vs/\vs[1]? =some (.str fd.qualname t)):=Ld (M:=fun v=>∃c o vs t,v=.ref c/\K.lookup c=some o/\o.data=.fields vs/\vs[1]? =some (.str fd.qualname t)) v fun c=>Aa (K.lookup c) fun o ho=>Aa (Vc o.data).1 fun vs hv=>Aa vs[1]? fun x hx=>
 vStr (M:=fun x=>vs[1]? =some x->∃c' o vs t,Value.ref c=.ref c'/\K.lookup c'=some o/\o.data=.fields vs/\vs[1]? =some (.str fd.qualname t)) x (fun s t=>fH (decEq s fd.qualname) fun hs=>ok fun e=>⟨c,o,vs,t,rfl,ho,(Vc o.data).2 vs hv,hs▸e⟩)|>fun r=>rb r fun f=>ok (f hx)
noncomputable def Pq(K:Frag)(nZ:List V)(v:Value):Prop:=∃ds,L2 wk nZ ds/\((v=.none/\ds=[])\/∃(T:Addr) (o:Obj) (f:Array Value×Nat),v=.ref T/\K.lookup T=some o/\o.data=.seq f.1 f.2/\ds=f.1.toList/\ds≠[])
structure VB(K:Frag)(fd:FuncData)(F:Fn):Prop where
 cr:∃c o vs t,fd.code=.ref c/\K.lookup c=some o/\o.data=.fields vs/\vs[1]? =some (.str fd.qualname t)
 df:Pq K F.nZ fd.defaults
noncomputable def Wx(K:Frag)(nZ:List V)(v:Value):Rs (Pq K nZ v):=orElse' (IM (M:=Pq K nZ) v (rb (Bl nZ []) fun h=>ok ⟨[],h,.inl ⟨rfl,rfl⟩⟩))
 (Ld (M:=Pq K nZ) v fun T=>Aa (K.lookup T) fun o ho=>Aa (PG o.data).1 fun f hf=>rb (Bl nZ f.1.toList) fun h=>fH (inferInstance:Decidable (f.1.toList≠[])) fun hn=>ok ⟨_,h,.inr ⟨T,o,f,rfl,ho,(PG o.data).2 f hf,rfl,hn⟩⟩)
noncomputable def TV(K:Frag)(fd:FuncData)(F:Fn):Rs (VB K fd F):=rb (VD K fd fd.code) fun h=>rb (Wx K F.nZ fd.defaults) fun h'=>ok ⟨h,h'⟩
noncomputable abbrev Se:=FT×(List (Str×Addr)×Addr×Addr)×Bool
noncomputable def Vq(K:Frag)(a:Nat):Option FuncData:=(K.lookup a).bind fun o=>(Ta o.data).1
noncomputable def DE(K:Frag)(F:Fn)(a:Nat):Option Se:=(Vq K a).bind fun fd=>(Tu fd.body).1.map fun b=>((fd.params,b,fd.scope),(fd.closure,fd.globals,fd.builtins),(TV K fd F).isSome)
noncomputable def Eo(A:FT):Se:=(A,([],mainGlobals,builtinsNs),true)
noncomputable def isFn(K:Frag)(C:Addr)(x:Str)(a:Addr):Bool:=findIn K (.ref C) x==some (some (.ref a))&&typeIn K (.ref a)==some (.type "function")
noncomputable def xh(f:Nat):Option Addr:=nA[f]?
noncomputable def LR(c:Nat):Option Addr:=uN[c]?
theorem zt{c m f:Nat}(l:List (Nat×Nat×Nat)):qV c m l=some f->(c,m,f)∈l:=by
 induction l with
 |nil=>exact fun h=>nomatch h
 |cons p r ih=>
  obtain⟨c',m',f'⟩:=p
  show(if c=c' then if m=m' then some f' else qV c m r else qV c m r)=some f->_
  by_cases h1:c=c'
  ·rw[if_pos h1]
   by_cases h2:m=m'
   ·rw[if_pos h2];intro e;cases e;rw[h1,h2];exact .head _
   ·rw[if_neg h2];exact fun e=>.tail _ (ih e)
  ·rw[if_neg h1];exact fun e=>.tail _ (ih e)
end
end
section
section
noncomputable def Hw{α:Type}[DecidableEq α]{Q:Prop}(a b:α)(k:a=b->Rs Q):Rs Q:=fH (decEq a b) k
noncomputable def SR{Q:Prop}(b:Bool)(k:Rs Q):Rs (b=true->Q):=match b with|true=>rb k fun q=>ok fun _=>q|false=>ok fun e=>nomatch e
section
variable(K:Frag)
noncomputable def FnAt(C:Addr)(x:Str)(o:Option Addr):Prop:=∃a,o=some a/\findIn K (.ref C) x=some (some (.ref a))/\typeIn K (.ref a)=some (.type "function")
noncomputable def fnAt(C:Addr)(x:Str)(o:Option Addr):Rs (FnAt K C x o):=Aa o fun a h=>Hw (findIn K (.ref C) x) (some (some (.ref a))) fun h1=>Hw (typeIn K (.ref a)) (some (.type "function")) fun h2=>ok ⟨a,h,h1,h2⟩
noncomputable def VH(c C:Nat)(t:Nat×Nat×Nat):Rs (t.1=c->t.2.1<cG/\FnAt K C (aw t.2.1) (xh t.2.2)):=match Yy t.1 c with
 |.isFalse n=>ok fun e=>absurd e n
 |.isTrue _=>fH (aaP t.2.1 cG) fun h=>rb (fnAt K C (aw t.2.1) (xh t.2.2)) fun h'=>ok fun _=>⟨h,h'⟩
noncomputable def itR(c C:Nat):Rs (∀f,sC[c]? =some f->FnAt K C "__init__" (xh f)):=Aa sC[c]? fun f h=>rb (fnAt K C "__init__" (xh f)) fun h'=>ok fun g e=>by cases h.symm.trans e;exact h'
noncomputable def VT(p:Nat×Nat):Rs (qU K xh p.2 p.1):=Hw (findIn K (.ref p.1) "__getattribute__") (some (some (.builtin "object.__getattribute__"))) fun h1=>Hw (findIn K (.ref p.1) "__getattr__") (some none) fun h2=>Hw (findIn K (.ref p.1) "__setattr__") (some (some (.builtin "object.__setattr__"))) fun h3=>
 rq (plainOver K p.1) fun h4=>rq ((clsIn K p.1).any (·.hasDict)) fun h5=>rq (makesIn K p.1) fun h6=>rq (keepIn K (.ref p.1)) fun h7=>rb (allR (P:=fun f=>zC p.2 f=true->findIn K (.ref p.1) (aw f)=some none) (fun f=>SR (zC p.2 f) (Hw (findIn K (.ref p.1) (aw f)) (some none) fun h=>ok h)) (Xq cG)) fun h8=>
 rb (allR (VH K p.2 p.1) sg) fun h9=>rb (itR K p.2 p.1) fun h10=>ok ⟨h1,h2,h3,h4,h5,h6,h7,fun f e=>h8 f (Yz.mpr (rN e)) e,fun m f e=>h9 _ (zt sg e) rfl,h10⟩
noncomputable def Nd(x:Str)(o:Option Addr):Prop:=∃a,o=some a/\nsIn K mainGlobals x=some (some (.ref a))
noncomputable def NI(x:Str)(o:Option Addr):Rs (Nd K x o):=Aa o fun a h=>Hw (nsIn K mainGlobals x) (some (some (.ref a))) fun h'=>ok ⟨a,h,h'⟩
noncomputable def VF(p:String×Nat):Rs (bh (Str.ofString p.1)=true->Nd K (Str.ofString p.1) (xh p.2)):=SR _ (NI K (Str.ofString p.1) (xh p.2))
noncomputable def HI(v:V)(X:Value):Prop:=wk v X\/∃(vs:List V) (T:Addr) (f:Array Value×Nat),v=.tup vs/\X=.ref T/\K.lookup T=some (oTup f.1 f.2)/\vs.length<=SZ/\L2 wk vs f.1.toList
noncomputable def SK(v:V)(X:Value):Rs (HI K v X):=match v with
 |.tup vs=>Ld (M:=HI K (.tup vs)) X fun T=>Aa (K.lookup T) fun o ho=>match o,ho with
  |⟨c,none,d,sl⟩,ho=>Hw c (.type "tuple") fun hc=>Aa (PG d).1 fun f hf=>fH (decEq sl.toList []) fun hs=>fH (Nat.decLe vs.length SZ) fun hz=>rb (Bl vs f.1.toList) fun h=>ok (.inr ⟨vs,T,f,rfl,rfl,by rw[ho,hc,(PG d).2 f hf,show sl= #[] from Array.toList_inj.mp hs],hz,h⟩)
  |⟨_,some _,_,_⟩,_=>cH
 |v=>rb (MW v X) fun h=>ok (.inl h)
noncomputable def Qp(p:String×V):Rs (∃X,nsIn K mainGlobals (Str.ofString p.1)=some (some X)/\HI K p.2 X):=Aa (nsIn K mainGlobals (Str.ofString p.1)) fun o h=>Aa o fun X h'=>rb (SK K p.2 X) fun h2=>ok ⟨X,h'▸h,h2⟩
structure Facts:Prop where
 cl:∀p∈uN.zipIdx,qU K xh p.2 p.1
 fk:∀a∈nA,keepIn K (.ref a)=true
 fn:∀p∈sO.zipIdx,bh (Str.ofString p.1)=true->Nd K (Str.ofString p.1) (xh p.2)
 cn:∀p∈fY.zipIdx,Nd K (Str.ofString p.1) (LR p.2)
 gv:∀p∈jI.zip lK,∃X,nsIn K mainGlobals (Str.ofString p.1)=some (some X)/\HI K p.2 X
 nb:∀x∈["len","range","list","tuple","sorted","abs","max","sum","str","int","isinstance","reversed"],nsIn K mainGlobals (Str.ofString x)=some none
noncomputable def facts:Rs (Facts K):=rb (allR (VT K) uN.zipIdx) fun h1=>rb (allR (P:=fun a=>keepIn K (.ref a)=true) (fun a=>rq (keepIn K (.ref a)) fun h=>ok h) nA) fun h2=>rb (allR (VF K) sO.zipIdx) fun h3=>rb (allR (P:=fun p=>Nd K (Str.ofString p.1) (LR p.2)) (fun p=>NI K (Str.ofString p.1) (LR p.2)) fY.zipIdx) fun h4=>rb (allR (Qp K) (jI.zip lK)) fun h5=>
 rb (allR (P:=fun x=>nsIn K mainGlobals (Str.ofString x)=some none) (fun x=>Hw (nsIn K mainGlobals (Str.ofString x)) (some none) fun h=>ok h) ["len","range","list","tuple","sorted","abs","max","sum","str","int","isinstance","reversed"]) fun h6=>ok ⟨h1,h2,h3,h4,h5,h6⟩
end
noncomputable def jF(h:Heap):Bool×List (Option Se):=((facts (fragOf h)).isSome,tab.map fun t=>DE (fragOf h) t.2.1 t.2.2.2)
noncomputable def gW:Bool×List (Option Se):=(true,tab.map fun t=>t.1.map Eo)
end
end
section
structure BN(h0:Heap):Prop where
 f:Facts (fragOf h0)
 s:∀t∈tab,DE (fragOf h0) t.2.1 t.2.2.2=t.1.map Eo
theorem EZ{h0:Heap}(e:jF h0=gW):BN h0:=⟨Rs.get _ (congrArg Prod.fst e),aah.mp (congrArg Prod.snd e)⟩
theorem Ls:tab.map (·.2.2.2)=nA:=by kernel_rfl
theorem JO:tab.map (·.2.1)=wW:=by kernel_rfl
theorem Ml{f a:Nat}{F:Fn}(h1:nA[f]? =some a)(h2:wW[f]? =some F):∃t∈tab,t.2.1=F/\t.2.2.2=a:=by
 rw[<-Ls,Xj]at h1
 rw[<-JO,Xj]at h2
 obtain⟨t,e1,e2⟩:=Xe.mp h1
 rw[e1]at h2
 exact⟨t,Xc e1,Option.some.inj h2,e2⟩
section
variable{G:Gl}{d:Nat}{h0:Heap}{F:Fn}{fd:FuncData}{ds vals:List Value}{K:Frag}{a:Nat}
theorem Jv(h:Vq K a=some fd):∃o,K.lookup a=some o/\o.data=.func fd:=by
 obtain⟨o,h1,h2⟩:=XB.mp h
 exact⟨o,h1,(Ta o.data).2 fd h2⟩
theorem Ga{P:Arguments}{T n:Nat}{ob:Obj}{l:List Value}(h:ds≠[]):LA fd P T ob n ds l=Pw (bindArgs { fd with params:=P,defaults:=.ref T} ⟨l,[]⟩) { ob with data:=.seq ds.toArray n}:=by
 cases ds with
 |nil=>exact absurd rfl h
 |cons _ _=>rfl
theorem Ba{t:Ent}(ht:t∈tab){b:List Stmt}(hA:t.1=some (fd.params,b,fd.scope))(hl:L2 wk t.2.1.nZ ds)(hd:(fd.defaults=.none/\ds=[])\/∃(T:Addr) (o:Obj) (f:Array Value×Nat),fd.defaults=.ref T/\K.lookup T=some o/\o.data=.seq f.1 f.2/\ds=f.1.toList/\ds≠[]){s:Shared}(X:K.In s.heap)
  (l1:t.2.1.np<=vals.length+ds.length)(l2:vals.length<=t.2.1.np):BindsTo s fd ⟨vals,[]⟩ ((fd.params.args.map Arg.arg).zip (vals++ds.drop (ds.length-(t.2.1.np-vals.length)))):=by
 intro M A E Q hq
 have key:∀T ob n,LA fd fd.params T ob n ds vals=some (T,pure ((fd.params.args.map Arg.arg).zip (vals++ds.drop (ds.length-(t.2.1.np-vals.length))))):=fun T ob n=>by
  have e:=aah.mp (LJ fd T ob n (fun i=>vals[i]?.getD .none) (fun i=>ds[i]?.getD .none)) t ht
  have e:=aah.mp e (t.2.1.np-vals.length) (Yz.mpr (Zz (by rw[hl.len];exact aaw.mpr l1)))
  rw[hA,hl.len, <-fst_eq,abp l2, <-fst_eq]at e
  exact Option.some.inj e
 rcases hd with ⟨h,rfl⟩|⟨T,o,f,h,ho,hd,rfl,hn⟩
 ·have e:bindArgs { fd with params:=fd.params,defaults:=.none} ⟨vals,[]⟩=_:=congrArg Prod.snd (Option.some.inj (key 0 default 0))
  have e2:{ fd with params:=fd.params,defaults:=.none}=fd:=by cases fd;cases h;rfl
  rw[e2]at e
  rw[e]
  exact WN hq
 ·have e:=key T o f.2
  have e2:{ fd with params:=fd.params,defaults:=.ref T}=fd:=by cases fd;cases h;rfl
  have e3:({ o with data:=.seq f.1.toList.toArray f.2}:Obj)=o:=by cases o;cases hd;rfl
  have e:=(Ga hn).symm.trans e
  rw[e2,e3]at e
  exact Mj e (X _ _ ho) hq
theorem Hg(H:BN h0)(W:Wd G)(N:tD G)(eK:G.K=fragOf h0){t:Ent}(ht:t∈tab):∃fd body xs nm ds,we G t.2.2.2 t.2.1 fd body xs nm ds:=by
 obtain⟨A,hA,st⟩:=LX t ht
 have e:=H.s t ht
 rw[hA]at e
 obtain⟨fd,h1,e⟩:=XB.mp e
 obtain⟨b,h2,e⟩:=Xe.mp e
 have X:=W.X
 rw[eK]at X
 obtain⟨o,ho,hd⟩:=Jv h1
 cases (congrArg Prod.fst e:(fd.params,b,fd.scope)=A)
 have e3:(fd.closure,fd.globals,fd.builtins)=([],mainGlobals,builtinsNs):=congrArg (fun x=>x.2.1) e
 have hp:=Rs.get (TV (fragOf h0) fd t.2.1) (congrArg (fun x=>x.2.2) e)
 obtain⟨c,oc,vs,tk,c1,c2,c3,c4⟩:=hp.cr
 obtain⟨ds,hl,hdf⟩:=hp.df
 exact⟨fd,b,fd.params.args.map Arg.arg,Cz t.2.2.1,ds,⟨o,X _ _ ho,hd⟩,(Tu fd.body).2 b h2,congrArg Prod.fst e3,congrArg (fun x=>x.2.1) e3,congrArg (fun x=>x.2.2) e3,st.co,st.ge,st.kd,⟨c,oc,vs,tk,c1,X _ _ c2,c3,c4⟩,st.np,st.nd,
  fun s vals kp l1 l2=>Ba ht hA hl hdf (X.keeps kp) l1 l2,L2.imp (fun h=>h _ _ _ _) hl,fun x i h l=>st.nx _ (ed h) l,fun x i h=>st.nk _ (ed h),st.xk,st.inj,fun d J=>by
   obtain⟨A',hA',h⟩:=Lq W J N t ht
   cases hA.symm.trans hA'
   exact h⟩
theorem KG(H:BN h0)(W:Wd G)(N:tD G)(eK:G.K=fragOf h0)(ef:G.fa=xh):SX G:=fun f a F h1 h2=>by
 rw[ef]at h1
 obtain⟨t,ht,rfl,rfl⟩:=Ml h1 h2
 exact Hg H W N eK ht
theorem wm{α:Type}{l:List α}{i:Nat}{x:α}(h:l[i]? =some x):(x,i)∈l.zipIdx:=Xc (i:=i) (by rw[List.getElem?_zipIdx,h];exact congrArg (fun n=>some (x,n)) (XG i))
theorem oL{l:List String}{n:Nat}{x:Str}(h:nH l n x=true):∃s,l[n]? =some s/\Str.ofString s=x:=by
 revert h
 show(match l[n]? with|some s=>decide (Str.ofString s=x)|none=>false)=true->_
 cases l[n]? with
 |none=>exact fun h=>nomatch h
 |some s=>exact fun h=>⟨s,rfl,of_decide_eq_true h⟩
theorem Pm(H:BN h0)(eK:G.K=fragOf h0)(ef:G.fa=xh)(ec:G.cl=LR)(k:∀b o,h0.get? b=some o->G.h0.get? b=some o)(lim:G.h0.NoLimit)(sm:∃o,G.h0.get? sysModules=some o)(g:G.h0.Ns mainGlobals G.mg)(b:G.h0.Ns builtinsNs G.mb)(bi:∀x:Str,x≠("__name__":Str)->G.mb x=bootBuiltins x):Wd G where
 X:=by rw[eK];exact(GS h0).keeps k
 lim:=lim
 sm:=sm
 g:=g
 b:=b
 bi:=bi
 cls:=fun c C h=>by rw[ec]at h;rw[eK,ef];exact H.f.cl _ (wm h)
 fk:=fun f a h=>by rw[ef]at h;rw[eK];exact H.f.fk a (Xc h)
theorem Ll(H:BN h0)(W:Wd G)(eK:G.K=fragOf h0)(ef:G.fa=xh)(ec:G.cl=LR):tD G:=by
 have X:=W.X
 rw[eK]at X
 have nb:∀x∈["len","range","list","tuple","sorted","abs","max","sum","str","int","isinstance","reversed"],G.mg (Str.ofString x)=none:=fun x m=>mg_none_of X W.g (H.f.nb x m)
 refine⟨fun f nx h ho=>?_,fun c nx h=>?_,fun n nx v h hv=>?_,fun b=>nb _ (by cases b<;>decide),nb _ (by decide),nb _ (by decide)⟩
 ·obtain⟨s,hs,rfl⟩:=oL h
  obtain⟨a,h1,h2⟩:=H.f.fn _ (wm hs) ho
  exact⟨a,mg_of X W.g h2,ef▸h1⟩
 ·obtain⟨s,hs,rfl⟩:=oL h
  obtain⟨a,h1,h2⟩:=H.f.cn _ (wm hs)
  exact⟨a,mg_of X W.g h2,ec▸h1⟩
 ·obtain⟨s,hs,rfl⟩:=oL h
  obtain⟨V,h1,h2⟩:=H.f.gv (s,v) (Xc (i:=n) (List.getElem?_zip_eq_some.mpr ⟨hs,hv⟩))
  refine⟨V,mg_of X W.g h1,?_⟩
  rcases h2 with h2|⟨vs,T,f,rfl,rfl,ho,hz,hl⟩
  ·exact h2 _ _ _ _
  ·exact .tup (X _ _ ho) (fun z=>z) hz (L2.imp (fun h=>h _ _ _ _) hl)
end
end
section
open PySem.W.Fast
noncomputable def zP(de:SharedT->Thread->Option (SharedT×Thread))(ok:Thread->Bool):Nat->SharedT->Thread->Option SharedT
 |0,_,_=>none
 |n+1,s,t=>match through t with
  |true=>some s
  |false=>match ok t with
   |false=>none
   |true=>match de s t with
    |some (s',t')=>zP de ok n s' t'
    |none=>none
theorem oY{tb:String->Option Builtin}{p:Program}{w:World}{m:Nat}{ann:Option Value}:∀{n:Nat}{s s':SharedT}{t:Thread},zP (stepT (denote tb) p w) (stepOk m ann) n s t=some s'->topRun tb p w m ann n s.abs t=some s'.abs
 |0,_,_,_,h=>by cases h
 |n+1,s,s',t,h=>by
  unfold zP at h
  unfold topRun
  cases ht:through t with
  |true=>rw[ht]at h;exact congrArg (fun x=>x.map SharedT.abs) h
  |false=>
   rw[ht]at h
   cases hk:stepOk m ann t with
   |false=>rw[hk]at h;cases h
   |true=>
    rw[hk]at h
    cases hs:stepT (denote tb) p w s t with
    |none=>rw[hs]at h;cases h
    |some r=>obtain⟨s2,t2⟩:=r;rw[hs]at h;rw[stepT_spec hs];exact oY h
noncomputable def treeOf:Nat->List Obj->BT->BT
 |_,[],t=>t
 |i,o::r,t=>treeOf (i+1) r (t.ins i o)
noncomputable def NU:List Nat:=[0,2,3,4,5,7,8,9,10,11,13,16,17,18,19,20,22,23,24,25,26,27,28,29,31,33,34,35,36,37,38,39,40,41,43,45,46,47,49,51,52,54,55,56,57,58,60,61,62,63,64,65,66,67,68]
noncomputable def vw:Program:=view pw NU
noncomputable def ya:List Str:=["ToolError","show_rule","plain_grammar","trees_of"]
noncomputable def Ny(P:Params)(os:OsState):SharedT:=⟨treeOf 0 (boot_heap P).objs.toList .nil,11,{}, #[],boot_drawn,boot_toks,os⟩
theorem GL(w:World)(os:OsState):(Ny w.params os).abs=⟨boot_heap w.params,Array.mk [],boot_drawn,boot_toks,os⟩:=by kernel_rfl
theorem BC(w:World):((boot_heap w.params).isNs mainGlobals&&(Array.mk []:Array GenState).size==0,(boot_heap w.params).objs.size,(boot_heap w.params).nsMap mainGlobals "__annotations__")=(true,11,some (.ref 6)):=by
 rw[show @Heap.nsMap=_ from te8920871248978507458];kernel_rfl
noncomputable def Xt(s:Shared):Bool:=xlAt vw [] s&&recOk (RowW.records PySem.Challenge.rw_nn0415_01.row.toRowW) s
noncomputable def Of{α:Type}(Yf:Shared->α)(P:Params)(s:Shared):=((staticsOk (importedModules pw.main.body) (boot_heap P) s.heap&&namesBound pw s.heap&&gensDone s&&laidKept (boot_heap P) s.heap,Yf s),openSeen vw ya (importedModules pw.main.body) Xt true s)
theorem Cb{p q:Program}{loose:List Str}{Xt:Shared->Bool}{α:Type}{Yf:Shared->α}{Ya:World->α}{N:Nat}{g0:Bool}{H:Params->Heap}{gs:Array GenState}{d:Drawn}{k m:Nat}{ann:Option Value}
  (open_:∀w:World,(fencedOpening treeTable p w N).map (fun s=>(s.heap,s.gens,s.drawn,s.toks))=some (H w.params,gs,d,k))
  (size:∀w:World,((H w.params).isNs mainGlobals&&gs.size==0,(H w.params).objs.size,(H w.params).nsMap mainGlobals "__annotations__")=(true,m,ann))
  (run:∀(w:World)(os:OsState),(topRun treeTable p w m ann N ⟨H w.params,gs,d,k,os⟩ (topStub p)).map (fun s=>((staticsOk (importedModules p.main.body) (H w.params) s.heap&&namesBound p s.heap&&gensDone s&&laidKept (H w.params) s.heap,Yf s),openSeen q loose (importedModules p.main.body) Xt g0 s))=some ((true,Ya w),openGood q loose)):
  LeftO p q loose Xt Yf Ya N g0:=fun w=>by
 obtain⟨⟨h,gs,d,k,os⟩,e,e'⟩:=Xe.mp (open_ w)
 obtain⟨rfl,rfl,rfl,rfl⟩:h=H w.params/\gs=_/\d=_/\k=_:=by simpa using e'
 obtain⟨z1,z2,z3⟩:_/\_/\_:=by simpa only[Prod.mk.injEq] using size w
 obtain⟨s1,r,l⟩:=Xe.mp (run w os)
 have t:topFrom treeTable p w N ⟨H w.params,gs,d,k,os⟩=some s1:=by
  unfold topFrom
  dsimp only
  rw[z1,z2,z3,r]
  show(match staticsOk (importedModules p.main.body) (H w.params) s1.heap&&namesBound p s1.heap&&gensDone s1&&laidKept (H w.params) s1.heap with|true=>_|false=>_)=_
  rw[show(_&&_)=true from congrArg (fun x=>x.1.1) l]
 unfold openEnds
 rw[e]
 show(topFrom treeTable p w N _).map _=_
 rw[t]
 exact congrArg some (Prod.ext (congrArg Prod.snd l) (congrArg (fun x=>x.1.2) l))
theorem PL{tb:String->Option Builtin}{p:Program}{w:World}{m n:Nat}{ann:Option Value}{s:SharedT}{s0:Shared}{t:Thread}{β:Type}{f:Shared->β}{b:β}(e:s.abs=s0)
  (h:(zP (stepT (denote tb) p w) (stepOk m ann) n s t).map (fun s=>f s.abs)=some b):(topRun tb p w m ann n s0 t).map f=some b:=by
 obtain⟨s1,r,l⟩:=Xe.mp h
 rw[<-e,oY r];exact congrArg some l
theorem tQ:topStub pw=⟨(tw17154629097778926822 pw.main).bind fun code=>(tw12822647523644345616 code mainNs mainNs).bind fun frame=>(run (.body (behindTheImports pw) { scope:=pw.main.scope,locals:=mainNs,globals:=mainNs,cells:=[],code,frame:=some frame})).bind fun _=>ret .none,.builtin "claim.caller" {},default,[]⟩:=by
 rw[<-show @moduleCode=_ from te17154629097778926822, <-show @newBodyFrame=_ from te12822647523644345616];rfl
noncomputable def CC(w:World)(os:OsState):Option Shared:=(zP (stepT (denote treeTable) pw w) (stepOk 11 (some (.ref 6))) 6200 (Ny w.params os) (topStub pw)).map SharedT.abs
end
section
open PySem.W.Fast
theorem Qn:∀w os,(CC w os).map (fun s=>(s.heap.keysOk (looseW vw ya) ((recsOf vw).map (·.name)) ((litsOf vw).map (·.1)) ((clssOf vw (looseW vw ya)).map (·.name))&&s.heap.accountedOkI (importedModules pw.main.body)&&s.heap.isNs mainGlobals&&s.heap.isNs builtinsNs&&tablesOk vw s.heap&&Xt s&&s.gens.size==0,tabsOk vw s))=some (true,true):=fun w os=>by
 unfold CC
 rw[tQ,show @stepT=_ from te10156331382660048174,show @denote=_ from te11892475500146522536,show @treeTable=_ from te14364793385576792824,show @stepOk=_ from te6613529449190102663]
 kernel_rfl
theorem RL:∀w os,(CC w os).map (fun s=>(seen ((recsOf vw).map (·.name)) (ownsOf vw) [] { s with gens:= #[]},s.heap.bltView,plainSeenD vw ya s))=some (expectedOf vw,bltViewBooted,plainGoodD vw ya):=fun w os=>by
 unfold CC
 rw[tQ,show @stepT=_ from te10156331382660048174,show @denote=_ from te11892475500146522536,show @treeTable=_ from te14364793385576792824,show @stepOk=_ from te6613529449190102663]
 kernel_rfl
theorem SM:∀w os,(CC w os).map (fun s=>(plainSeenE vw (looseW vw ya) s,pinSeenD vw (drecsOf vw) s))=some (plainGoodE vw (looseW vw ya),pinGoodD (drecsOf vw)):=fun w os=>by
 unfold CC
 rw[tQ,show @stepT=_ from te10156331382660048174,show @denote=_ from te11892475500146522536,show @treeTable=_ from te14364793385576792824,show @stepOk=_ from te6613529449190102663]
 kernel_rfl
theorem Qx:∀w os,(CC w os).map (fun s=>(wideSeen vw s,clsSeenW vw ya s,staticsOk (importedModules pw.main.body) (boot_heap w.params) s.heap&&namesBound pw s.heap&&gensDone s&&laidKept (boot_heap w.params) s.heap))=some (wideGood vw,clsGoodW vw ya,true):=fun w os=>by
 unfold CC
 rw[tQ,show @stepT=_ from te10156331382660048174,show @denote=_ from te11892475500146522536,show @treeTable=_ from te14364793385576792824,show @stepOk=_ from te6613529449190102663]
 kernel_rfl
theorem Rq:∀w os,(CC w os).map (fun s=>((facts (fragOf s.heap)).isSome,tab.map fun t=>DE (fragOf s.heap) t.2.1 t.2.2.2))=some (true,tab.map fun t=>t.1.map Eo):=fun w os=>by
 unfold CC
 rw[tQ,show @stepT=_ from te10156331382660048174,show @denote=_ from te11892475500146522536,show @treeTable=_ from te14364793385576792824,show @stepOk=_ from te6613529449190102663]
 kernel_rfl
theorem both{σ α β:Type}{o:Option σ}{f:σ->α}{g:σ->β}{a:α}{b:β}(h1:o.map f=some a)(h2:o.map g=some b):o.map (fun s=>(f s,g s))=some (a,b):=by
 cases o with
 |none=>nomatch h1
 |some s=>exact congr (congrArg (fun x y=>some (x,y)) (Option.some.inj h1)) (Option.some.inj h2)
theorem post{σ α β:Type}{o:Option σ}{f:σ->α}{a:α}(φ:α->β)(h:o.map f=some a):o.map (fun s=>φ (f s))=some (φ a):=by
 cases o with
 |none=>nomatch h
 |some s=>exact congrArg (fun x=>some (φ x)) (Option.some.inj h)
theorem DH{tb:String->Option Builtin}{p:Program}{w:World}{m n:Nat}{ann:Option Value}{s:SharedT}{s0:Shared}{t:Thread}{β:Type}{f:Shared->β}{b:β}(e:s.abs=s0)
  (h:((zP (stepT (denote tb) p w) (stepOk m ann) n s t).map SharedT.abs).map f=some b):(topRun tb p w m ann n s0 t).map f=some b:=by
 obtain⟨s1,r,l⟩:=Xe.mp h
 obtain⟨s2,q,rfl⟩:=Xe.mp r
 rw[<-e,oY q];exact congrArg some l
theorem HV:opening pw=plainProg pw.main.scope.names:=by kernel_rfl
theorem CB:∀s,fenceModules? pw s=some s:=fun s=>by kernel_rfl
theorem Fy(w:World)(os:OsState):(CC w os).map (fun s=>Of (fun s=>jF s.heap) w.params s)=some ((true,gW),openGood vw ya):=
 post (fun x:(Bool×Bool)×(_×_×_)×(_×_)×(_×_×Bool)×Bool×_=>((x.2.2.2.1.2.2,x.2.2.2.2),(x.2.1.1,x.2.1.2.1,x.1.1,x.1.2,x.2.2.1.2,x.2.2.1.1,x.2.1.2.2,x.2.2.2.1.1,x.2.2.2.1.2.1)))
  (both (Qn w os) (both (RL w os) (both (SM w os) (both (Qx w os) (Rq w os)))))
theorem left:LeftO pw vw ya Xt (fun s=>jF s.heap) (fun _=>gW) 6200:=Cb (boot_open HV (by decide) CB) BC fun w os=>DH (GL w os) (Fy w os)
end
section
noncomputable def YP(w:World)(h:Heap):Prop:=∃h0:Heap,(∀b o,h0.get? b=some o->h.get? b=some o)/\jF h0=gW
noncomputable abbrev Px:OpenRow:=PySem.Challenge.rw_nn0415_01.row
noncomputable def Iu:Prop:=∀ns:List Int,ns.length<=63->WC 41 74 [.uH ns] H.nil fun v _=>v=.bool true
section
variable{w:World}{s₀ s₁:Shared}{mg mb:Str->Option Value}
theorem Kh(hLaw:Iu)(G:Ground vw ya Px.records (XL vw []) w s₀ mg mb s₁.heap)(Y:YP w s₁.heap){fa:Addr}(hf:mg "law"=some (.ref fa)){a:Addr}{vs:List Value}{ns:List Int}(hL:s₁.heap.IsList a vs.toArray)(hI:IntsAre vs ns)(hz:ns.length<=63)
  {Rr:Result->Shared->Prop}(hR:∀s',(∀b o,s₁.heap.get? b=some o->s'.heap.get? b=some o)->iL s₁ s'->Rr (.ok (.ret (.bool true))) s'):codeAny (model pw w) callerA (.call (.ref fa) ⟨[.ref a],[]⟩) Rr s₁:=by
 obtain⟨h0,k,e⟩:=Y
 have P:=EZ e
 have T:=G.T
 have W:Wd ⟨pw,w,LR,xh,s₁.heap,fragOf h0,mg,mb⟩:=Pm P rfl rfl rfl k T.nolimit (let ⟨_,⟨o,_,_,ho,_⟩,_⟩:=(T.seer (by kernel_rfl)).mods;⟨o,ho⟩) T.g T.b T.builtins
 have N:=Ll P W rfl rfl rfl
 obtain⟨a1,h1,h2⟩:=N.fn 74 (Str.ofString "law") (by kernel_rfl) (by kernel_rfl)
 cases (Option.some.inj (h1.symm.trans hf))
 have M:bF ⟨pw,w,LR,xh,s₁.heap,fragOf h0,mg,mb⟩ ⟨[],fun _=>False,Mine.H.nil,s₁⟩:=⟨rfl,fun _ h=>h.elim,fun i j p q o o' _ _ h=>absurd (show(none:Option BA)=some p from h) (by nofun),fun i o p _ h=>absurd (show(none:Option BA)=some p from h) (by nofun),fun b o e=>⟨e,id⟩⟩
 obtain⟨o,ho,hc,n,hd⟩:=hL
 refine(Kg W (KG P W N rfl rfl) 41).call 74 [.uH ns] _ _ callerA ⟨[],fun _=>False,Mine.H.nil,s₁⟩ [.ref a] _ h2 (fun d' e=>?_) M (.cons (.uH ho hc hd id hI) .nil) (hLaw ns hz) fun v X y S hX e=>?_
 ·cases e;exact⟨rfl,by decide,by decide,rfl⟩
 ·subst e
  obtain rfl:X=.bool true:=by cases hX;rfl
  exact hR y.s (fun b o e=>(S.fr b o e id).1) S.sm
end
theorem join(Ox:PySem.Challenge.rw_nn0415_01.wellSaid=true)(left:LeftO pw vw ya (fun s=>xlAt vw [] s&&recOk (RowW.records Px.toRowW) s) (fun s=>jF s.heap) (fun _=>gW) 6200)(hLaw:Iu):PySem.Challenge.rw_nn0415_01.Holds:=holds_law Ox fun k1=>by
 refine holds_open (r:=Px) (q:=vw) (loose:=ya) (Xt:=fun s=>xlAt vw [] s&&recOk (RowW.records Px.toRowW) s) (XP:=XL vw []) (Yf:=fun s=>jF s.heap) (Ya:=fun _=>gW) (YP:=YP) (N:=6200) left (fun w s e=>⟨s.heap,fun _ _ e=>e,e⟩) (fun w h h' y k=>y.imp fun h0 t=>⟨fun b o e=>k _ _ (t.1 b o e),t.2⟩) (fun s e=>xl_of s (Bool.and_eq_true_iff.mp e).1) XL.keeps (by rfl) (by rfl) (by rfl) (fun s e=>recFacts_of (Bool.and_eq_true_iff.mp e).2) (by rfl) k1 (by decide+kernel) ⟨rfl,rfl,rfl,rfl,rfl,by decide+kernel⟩ ?hw ?hc
 case hw=>exact⟨[.list []],by decide+kernel,by decide+kernel⟩
 case hc=>
  intro w s₀ s₁ mg mb G Y fa o pm cd doc dV kV ho hd hcd hD hmg hg args vals as hpre hlay hrd hwl hlo
  clear hd hcd
  wrow_args hpre hlay hrd hwl hlo
  rename_i ns _ _ _ _ _ _ _ a vs _ hL _ _ _ hI _ hz _
  refine wpAny_call (Kh hLaw G Y (by exact hmg) hL hI (by omega) fun s' hk hs=>?_)
  obtain⟨H',tk,rfl⟩:=hs
  refine GoodW.toG ⟨.inl ⟨.bool true,.bool true,[],rfl,fun _=>rfl,.bool true,?_,fun _=>⟨aaa,fun a ha=>by cases ha⟩⟩,hk,rfl,hg⟩
  first|kernel_rfl|(simp[RowW.claim,OpenRow.toRowW];done)|trivial
end
end
section
noncomputable abbrev Rl:=Nat×List Nat
noncomputable def eE:List Rl->Nat->List Nat
 |[],_=>[]
 |r::rs,k=>k::eE rs (k+r.2.length+1)
noncomputable def total:List Rl->Nat
 |[]=>0
 |r::rs=>r.2.length+1+total rs
noncomputable def gp:List Rl->Nat->List Nat
 |[],_=>[]
 |r::rs,i=>XA (r.2.length+1) i++gp rs (i+1)
noncomputable def ko(s:Nat):List Rl->Nat->List Nat
 |[],_=>[]
 |r::rs,i=>if r.1=s then i::ko s rs (i+1) else ko s rs (i+1)
theorem qQ(r:Rl):∀(rs:List Rl)(k:Nat),eE (rs++[r]) k=eE rs k++[k+total rs]
 |[],k=>by simp[eE,total]
 |q::rs,k=>by simp[eE,total,qQ r rs];lia
theorem qG(r:Rl):∀(rs:List Rl)(i:Nat),gp (rs++[r]) i=gp rs i++XA (r.2.length+1) (i+rs.length)
 |[],i=>by simp[gp]
 |q::rs,i=>by
  simp only[Zp,gp,qG r rs,Xn,XT]
  rw[show i+1+rs.length=i+(rs.length+1) by lia]
theorem pj(s:Nat)(r:Rl):∀(rs:List Rl)(i:Nat),ko s (rs++[r]) i=ko s rs i++(if r.1=s then[i+rs.length] else[])
 |[],i=>by simp[ko]
 |q::rs,i=>by
  simp only[Zp,ko,pj s r rs,XT]
  rw[show i+1+rs.length=i+(rs.length+1) by lia]
  split<;>simp
theorem iS:∀(rs:List Rl)(i:Nat),(gp rs i).length=total rs
 |[],_=>rfl
 |r::rs,i=>by simp[gp,total,iS rs]
noncomputable def aj(xs:List Nat):List V:=xs.map fun(n:Nat)=>V.int (n:Int)
structure aK(rs:List Rl)(i r k:Nat)(x:Rl):Prop where
 rule:rs[r]? =some x
 off:∃o,(eE rs 0)[r]? =some o/\i=o+k
 dot:k<=x.2.length
 own:(gp rs 0)[i]? =some r
theorem xF{x:Rl}:∀(rs:List Rl)(k0 i0 r:Nat),rs[r]? =some x->∃o,(eE rs k0)[r]? =some (k0+o)/\∀k,k<=x.2.length->(gp rs i0)[o+k]? =some (i0+r)/\o+k<total rs
 |[],k0,i0,r,e=>by simp at e
 |y::rs,k0,i0,0,e=>by
  simp only[aap,Option.some.injEq]at e
  subst e
  refine⟨0,rfl,fun k hk=>⟨?_,by simp only[total];lia⟩⟩
  simp only[gp]
  rw[XQ (by simp;lia),List.getElem?_replicate]
  simp;lia
 |y::rs,k0,i0,r+1,e=>by
  rw[Yo]at e
  obtain⟨o,e1,e2⟩:=xF rs (k0+y.2.length+1) (i0+1) r e
  refine⟨y.2.length+1+o,?_,fun k hk=>?_⟩
  ·simp only[eE,Yo,e1]
   congr 1;lia
  ·obtain⟨q1,q2⟩:=e2 k hk
   simp only[gp,total]
   refine⟨?_,by lia⟩
   rw[Ye (by simp;lia)]
   rw[ZC,show y.2.length+1+o+k-(y.2.length+1)=o+k by lia,q1]
   congr 1;lia
theorem aK.mk'{rs:List Rl}{r:Nat}{x:Rl}(e:rs[r]? =some x):∃o,(eE rs 0)[r]? =some o/\∀k,k<=x.2.length->aK rs (o+k) r k x/\o+k<total rs:=by
 obtain⟨o,e1,e2⟩:=xF rs 0 0 r e
 rw[XG]at e1
 exact⟨o,e1,fun k hk=>⟨⟨e,⟨o,e1,rfl⟩,hk,by have:=(e2 k hk).1;rwa [XG]at this⟩,(e2 k hk).2⟩⟩
theorem pZ:∀(rs:List Rl)(j:Nat),j<total rs->∀k0:Nat,∃(r k o:Nat) (x:Rl),rs[r]? =some x/\(eE rs k0)[r]? =some o/\k0+j=o+k/\k<=x.2.length
 |[],j,hj,_=>by simp[total]at hj
 |y::rs,j,hj,k0=>by
  simp only[total]at hj
  by_cases q:j<=y.2.length
  ·exact⟨0,j,k0,y,rfl,rfl,rfl,q⟩
  ·obtain⟨r,k,o,x,e1,e2,e3,e4⟩:=pZ rs (j-(y.2.length+1)) (by lia) (k0+y.2.length+1)
   exact⟨r+1,k,o,x,by rwa [Yo],by simpa only[eE,Yo] using e2,by lia,e4⟩
theorem aK.ex{rs:List Rl}{i:Nat}(hi:i<total rs):∃r k x,aK rs i r k x:=by
 obtain⟨r,k,o,x,e1,e2,e3,e4⟩:=pZ rs i hi 0
 obtain⟨o',e5,e6⟩:=aK.mk' e1
 rw[e5]at e2;cases e2
 rw[XG]at e3
 exact⟨r,k,x,e3▸(e6 k e4).1⟩
theorem aK.lt{rs:List Rl}{i r k:Nat}{x:Rl}(a:aK rs i r k x):i<total rs:=by
 have:=(WL.mp a.own).1
 rwa [iS]at this
theorem aK.det{rs:List Rl}{i r k r' k':Nat}{x x':Rl}(a:aK rs i r k x)(b:aK rs i r' k' x'):r=r'/\k=k'/\x=x':=by
 have h1:=a.own.symm.trans b.own
 cases h1
 have h2:=a.rule.symm.trans b.rule
 cases h2
 obtain⟨o,e1,e2⟩:=a.off
 obtain⟨o',e3,e4⟩:=b.off
 rw[e1]at e3;cases e3
 exact⟨rfl,by lia,rfl⟩
theorem aQ(M:Nat)(xs:List Nat)(nd:xs.Nodup)(hx:∀x∈xs,x<M):xs.length<=M:=WH (nd.length_le_of_subset fun x m=>Yz.mpr (hx x m)) (WO Xb)
noncomputable def oj(rs:List Rl)(r:Nat):Nat:=((eE rs 0)[r]?).getD 0
theorem wA{rs:List Rl}{r o:Nat}(e:(eE rs 0)[r]? =some o):oj rs r=o:=by simp[oj,e]
theorem jq{rs:List Rl}{r:Nat}{x:Rl}(e:rs[r]? =some x):(eE rs 0)[r]? =some (oj rs r)/\aK rs (oj rs r) r 0 x:=by
 obtain⟨o,e1,e2⟩:=aK.mk' e
 rw[wA e1]
 exact⟨e1,by have:=(e2 0 (XI _)).1;rwa [Nat.add_zero]at this⟩
theorem ik{s r:Nat}:∀{rs:List Rl}{i:Nat},r∈ko s rs i↔ ∃j x,r=i+j/\rs[j]? =some x/\x.1=s
 |[],i=>by simp[ko]
 |y::rs,i=>by
  unfold ko
  have ih:=ik (s:=s) (r:=r) (rs:=rs) (i:=i+1)
  constructor
  ·intro hm
   by_cases q:y.1=s
   ·rw[if_pos q,Xp]at hm
    rcases hm with rfl|hm
    ·exact⟨0,y,rfl,rfl,q⟩
    ·obtain⟨j,x,e1,e2,e3⟩:=ih.mp hm
     exact⟨j+1,x,by lia,by rwa [Yo],e3⟩
   ·rw[if_neg q]at hm
    obtain⟨j,x,e1,e2,e3⟩:=ih.mp hm
    exact⟨j+1,x,by lia,by rwa [Yo],e3⟩
  ·rintro⟨j,x,e1,e2,e3⟩
   cases j with
   |zero=>
    simp only[aap,Option.some.injEq]at e2
    subst e2
    rw[if_pos e3];exact e1▸YW
   |succ j=>
    rw[Yo]at e2
    have:=ih.mpr ⟨j,x,by lia,e2,e3⟩
    split
    ·exact YY _ this
    ·exact this
theorem xI{s:Nat}:∀(rs:List Rl)(i:Nat),(ko s rs i).Pairwise (· <·)/\∀r∈ko s rs i,i<=r
 |[],i=>by simp[ko]
 |y::rs,i=>by
  obtain⟨a,b⟩:=xI rs (i+1) (s:=s)
  unfold ko
  split
  ·refine⟨XE.mpr ⟨fun r hr=>by have:=b r hr;lia,a⟩,fun r hr=>?_⟩
   rcases Xp.mp hr with rfl|hr
   ·exact WQ _
   ·have:=b r hr;lia
  ·exact⟨a,fun r hr=>by have:=b r hr;lia⟩
noncomputable def cq(rs:List Rl)(ss:List Nat):List Nat:=ss.flatMap fun s=>ko s rs 0
theorem gE{rs:List Rl}{ss:List Nat}{r:Nat}:r∈cq rs ss↔ ∃x,rs[r]? =some x/\x.1∈ss:=by
 unfold cq
 rw[abq]
 constructor
 ·rintro⟨s,hs,hr⟩
  obtain⟨j,x,e1,e2,e3⟩:=ik.mp hr
  rw[XG]at e1;subst e1
  exact⟨x,e2,e3▸hs⟩
 ·rintro⟨x,e,hx⟩
  exact⟨x.1,hx,ik.mpr ⟨r,x,by lia,e,rfl⟩⟩
theorem qq{rs:List Rl}{ss:List Nat}(hs:ss.Nodup):(cq rs ss).Nodup:=by
 unfold cq
 refine List.pairwise_flatMap.mpr ⟨fun s _=>(xI rs 0).1.imp (fun a=>WT a),?_⟩
 refine List.Pairwise.imp ?_ hs
 intro a b hab r hr r' hr' q
 subst q
 obtain⟨j,x,e1,e2,e3⟩:=ik.mp hr
 obtain⟨j',x',e1',e2',e3'⟩:=ik.mp hr'
 have:j=j':=by lia
 subst this
 rw[e2]at e2';cases e2'
 exact hab (e3.symm.trans e3')
noncomputable def jY(rs:List Rl)(ks ss:List Nat):List Nat:=((cq rs ss).map (oj rs)).filter fun i=>!decide (i∈ks)
theorem ir{rs:List Rl}{ks ss:List Nat}{i:Nat}:i∈jY rs ks ss↔(∃r x,rs[r]? =some x/\x.1∈ss/\i=oj rs r)/\i∉ks:=by
 simp only[jY,aaz,XN,gE,Bool.not_eq_true',decide_eq_false_iff_not]
 constructor
 ·rintro⟨⟨r,⟨x,e,hx⟩,rfl⟩,q⟩;exact⟨⟨r,x,e,hx,rfl⟩,q⟩
 ·rintro⟨⟨r,x,e,hx,rfl⟩,q⟩;exact⟨⟨r,⟨x,e,hx⟩,rfl⟩,q⟩
theorem lI{rs:List Rl}{ks ss:List Nat}(hs:ss.Nodup):(jY rs ks ss).Nodup:=by
 refine List.Pairwise.filter _ (YJ.mpr ?_)
 refine(qq hs).imp_of_mem ?_
 intro a b ha hb hab q
 obtain⟨x,ex,_⟩:=gE.mp ha
 obtain⟨x',ex',_⟩:=gE.mp hb
 have i1:=(jq ex).2
 have i2:=(jq ex').2
 rw[q]at i1
 exact hab (i1.det i2).1
theorem qw{rs:List Rl}{ks ss:List Nat}:∀i∈jY rs ks ss,i<total rs:=by
 intro i hi
 obtain⟨⟨r,x,e,_,rfl⟩,_⟩:=ir.mp hi
 exact(jq e).2.lt
theorem Mg{rs:List Rl}{ss:List Nat}:∀r∈cq rs ss,r<rs.length:=by
 intro r hr
 obtain⟨x,e,_⟩:=gE.mp hr
 exact(WL.mp e).1
theorem MI{rs:List Rl}{ks rl:List Nat}{r:Nat}:((rl++[r]).map (oj rs)).filter (fun i=>!decide (i∈ks))=(rl.map (oj rs)).filter (fun i=>!decide (i∈ks))++(if oj rs r∈ks then[] else[oj rs r]):=by
 rw[Xr,Zx]
 congr 1
 by_cases q:oj rs r∈ks
 ·rw[if_pos q];simp[q]
 ·rw[if_neg q];simp[q]
noncomputable def fU(rs:List Rl)(i:Nat):Nat:=((gp rs 0)[i]?).getD 0
noncomputable def yI(rs:List Rl)(i:Nat):Nat:=i-oj rs (fU rs i)
noncomputable def dD(rs:List Rl)(i:Nat):Option Nat:=(rs[fU rs i]?).bind fun x=>x.2[yI rs i]?
theorem aK.uW{rs:List Rl}{i r k:Nat}{x:Rl}(a:aK rs i r k x):fU rs i=r:=by simp[fU,a.own]
theorem aK.Js{rs:List Rl}{i r k:Nat}{x:Rl}(a:aK rs i r k x):yI rs i=k:=by
 obtain⟨o,e,hi⟩:=a.off
 unfold yI
 rw[a.uW,wA e];lia
theorem aK.yY{rs:List Rl}{i r k:Nat}{x:Rl}(a:aK rs i r k x):dD rs i=x.2[k]? :=by
 unfold dD
 rw[a.uW,a.Js,a.rule];rfl
theorem aK.next{rs:List Rl}{i r k:Nat}{x:Rl}(a:aK rs i r k x)(hk:k<x.2.length):aK rs (i+1) r (k+1) x:=by
 obtain⟨o,e,e2⟩:=aK.mk' a.rule
 obtain⟨o',e',hi⟩:=a.off
 rw[e]at e';cases e'
 have:=(e2 (k+1) hk).1
 rwa [show o+(k+1)=i+1 by lia]at this
noncomputable def zQ(x:Option Nat):Int:=x.elim (-1) fun s=>(s:Nat)
noncomputable def wy(rs:List Rl)(i:Nat):Int:=zQ (dD rs i)
theorem Mc{i s:Nat}(hi:i<total rs)(hs:dD rs i=some s):i+1<total rs:=by
 obtain⟨r,k,x,it⟩:=aK.ex hi
 rw[it.yY]at hs
 exact(it.next (WL.mp hs).1).lt
noncomputable def aO(n m:Nat):List Nat:=(Xq n).filter m.testBit
theorem oz{n m:Nat}:aO (n+1) m=aO n m++(if m.testBit n=true then[n] else[]):=by
 unfold aO
 rw[Zj,Zx]
 congr 1
 by_cases q:m.testBit n=true
 ·rw[if_pos q];simp[q]
 ·rw[if_neg q];simp[q]
theorem cW{n m t:Nat}:t∈aO n m↔t<n/\m.testBit t=true:=by simp[aO]
theorem vP{m j:Nat}(e:m>>>j=0):∀n,j<=n->aO n m=aO j m
 |n,hn=>by
  induction n with
  |zero=>cases Nat.le_zero.mp hn;rfl
  |succ n ih=>
   rcases Nat.lt_or_ge n j with q|q
   ·have:j=n+1:=by lia
    rw[this]
   ·rw[oz,ih q]
    have hz:m.testBit n=false:=by
     rw[show n=j+(n-j) by lia, <-Nat.testBit_shiftRight,e,aaq]
    rw[hz];simp
theorem jJ{n m:Nat}:(aO n m).length<=n:=by
 unfold aO
 exact WH (aaC _ _) (by simp)
noncomputable def lD(k:Nat):List Nat->List Nat
 |[]=>[k]
 |x::r=>if k<=x then k::x::r else x::lD k r
noncomputable def bo:List Nat->List Nat
 |[]=>[]
 |k::r=>lD k (bo r)
theorem qv(k:Nat):∀xs:List Nat,insI (k:Nat) (xs.map fun(x:Nat)=>(x:Int))=(lD k xs).map fun(x:Nat)=>(x:Int)
 |[]=>rfl
 |x::r=>by
  simp only[lD,insI,Za]
  by_cases q:k<=x
  ·rw[if_pos q,if_pos (by lia)];rfl
  ·rw[if_neg q,if_neg (by lia),qv k r];rfl
theorem oC:∀xs:List Nat,sortI (xs.map fun(x:Nat)=>(x:Int))=(bo xs).map fun(x:Nat)=>(x:Int)
 |[]=>rfl
 |x::r=>by simp only[bo,sortI,Za,oC r,qv]
theorem oZ{k x:Nat}:∀{xs:List Nat},x∈lD k xs↔x=k\/x∈xs
 |[]=>by simp[lD]
 |y::r=>by
  unfold lD
  split
  ·simp
  ·simp only[Xp,oZ (xs:=r)]
   constructor
   ·rintro(a|a|a);exact .inr (.inl a);exact .inl a;exact .inr (.inr a)
   ·rintro(a|a|a);exact .inr (.inl a);exact .inl a;exact .inr (.inr a)
theorem bG{x:Nat}:∀{xs:List Nat},x∈bo xs↔x∈xs
 |[]=>by simp[bo]
 |y::r=>by simp[bo,oZ,bG (xs:=r)]
theorem uI(k:Nat):∀xs:List Nat,(lD k xs).length=xs.length+1
 |[]=>rfl
 |y::r=>by unfold lD;split<;>simp[uI k r]
theorem mK:∀xs:List Nat,(bo xs).length=xs.length
 |[]=>rfl
 |y::r=>by simp[bo,uI,mK r]
theorem tP{k:Nat}:∀{xs:List Nat},xs.Pairwise (· <·)->k∉xs->(lD k xs).Pairwise (· <·)
 |[],_,_=>by simp[lD]
 |y::r,hp,hk=>by
  unfold lD
  have hy:k≠y:=fun q=>hk (q▸YW)
  split
  ·refine XE.mpr ⟨fun z hz=>?_,hp⟩
   rcases Xp.mp hz with rfl|hz
   ·lia
   ·have:=(XE.mp hp).1 z hz;lia
  ·refine XE.mpr ⟨fun z hz=>?_,tP (XE.mp hp).2 (fun q=>hk (YY _ q))⟩
   rcases oZ.mp hz with rfl|hz
   ·lia
   ·exact(XE.mp hp).1 z hz
theorem fL:∀{xs:List Nat},xs.Nodup->(bo xs).Pairwise (· <·)
 |[],_=>List.Pairwise.nil
 |y::r,hn=>by
  have:=Yr.mp hn
  exact tP (fL this.2) (fun q=>this.1 (bG.mp q))
theorem CY{k:Nat}{xs:List Nat}(h:∀x∈xs,k<x):lD k xs=k::xs:=by
 cases xs with
 |nil=>rfl
 |cons y r=>unfold lD;rw[if_pos (by have:=h y YW;lia)]
theorem oT:∀{xs:List Nat},xs.Pairwise (· <·)->bo xs=xs
 |[],_=>rfl
 |y::r,hp=>by
  have:=XE.mp hp
  rw[bo,oT this.2,CY this.1]
theorem jE:∀xs:List Nat,ints? (aj xs)=some (xs.map fun(x:Nat)=>(x:Int))
 |[]=>rfl
 |x::r=>by
  show(ints? (aj r)).map _=_
  rw[jE r];rfl
theorem yJ{xs:List Nat}(hl:xs.length<64):iW (aj xs)=some (aj (bo xs)):=by
 unfold iW
 rw[jE]
 simp only
 rw[if_pos (by simpa using hl),oC]
 simp[aj,Yd,Function.comp_def]
noncomputable def kI(s:Nat):Key:=.int (s:Nat)
theorem CO{s t:Nat}(e:kI s=kI t):s=t:=Zd.inj (congrArg (fun k=>match k with|.int i=>i|_=>0) e)
theorem Ss{s:Nat}{ss:List Nat}:kI s∈ss.map kI↔s∈ss:=by
 rw[XN]
 exact⟨fun⟨t,ht,e⟩=>CO e▸ht,fun q=>⟨s,q,rfl⟩⟩
noncomputable def uq(rs:List Rl)(aJ:List Nat)(s:Nat):List Nat:=(aJ.filter fun i=>decide (dD rs i=some s)).map (· +1)
theorem uw{rs:List Rl}{aJ:List Nat}{s i:Nat}:uq rs (aJ++[i]) s=uq rs aJ s++(if dD rs i=some s then[i+1] else[]):=by
 unfold uq
 rw[Zx,Xr]
 congr 1
 by_cases q:dD rs i=some s
 ·rw[if_pos q];simp[q]
 ·rw[if_neg q];simp[q]
theorem GB{aJ:List Nat}{s:Nat}(e:∀i∈aJ,dD rs i≠some s):uq rs aJ s=[]:=by
 unfold uq
 rw[List.filter_eq_nil_iff.mpr (fun i hi=>by simp[e i hi])];rfl
theorem yd{aJ:List Nat}{s:Nat}:(uq rs aJ s).length<=aJ.length:=by
 unfold uq
 rw[WK];exact aaC _ _
end
section
variable{d:Nat}{ρ:Env}{h h' h'':H}{K:List C}{sk:List V}{QX:Qs}
theorem BU{n:Nat}(e:n<=8000000):n<=SZ:=WH e (by decide)
theorem yA{n:Nat}(e:n<=8000000):n<SZ:=WM e (by decide)
theorem ag{r:Option V}{v:V}{k:V->Prop}(e:r=some v)(q:k v):fJ False r k:=by rw[e];exact q
theorem bY{vs:List V}{n:Nat}{v:V}(e:vs[n]? =some v):cL (.lst vs) (.int (n:Nat)) h=some v:=e
theorem Nh{vs:List V}{i:Int}{v:V}(h0:0<=i)(e:vs[i.toNat]? =some v):cL (.lst vs) (.int i) h=some v:=by obtain⟨n,rfl⟩:=Yn h0;exact e
theorem tC{vs:List V}{n:Nat}{v:V}(e:vs[n]? =some v):cL (.tup vs) (.int (n:Nat)) h=some v:=e
theorem iE{b:Bool}{v:V}(e:b=true):ck b v=some v:=by rw[e];rfl
theorem bu{p:Prop}{_:Decidable p}{v:V}(e:p):ck (decide p) v=some v:=iE (decide_eq_true e)
theorem eC{a b:Bool}(x:a=true)(y:b=true):(a&&b)=true:=by rw[x,y];rfl
section
variable{x y:Int}
theorem pz(e:0<y):pU .mod (.int x) (.int y)=some (.int (x.fmod y)):=bu e
theorem BX(e:0<y)(e2:y<1024):pU .fdiv (.int x) (.int y)=some (.int (x.fdiv y)):=iE (eC (decide_eq_true e) (decide_eq_true e2))
theorem qK(e:nY x=true):pU .mul (.int x) (.int y)=some (.int (x*y)):=iE (by rw[e];rfl)
theorem DO(e:0<=y)(e1:y<=1000)(e2:Mx x=true):pU .pow (.int x) (.int y)=some (.int (x ^ y.toNat)):=iE (eC (eC (decide_eq_true e) (decide_eq_true e1)) e2)
end
section
variable{m n:Nat}
theorem DR:pU .add (.int m) (.int n)=some (.int (m+n:Nat)):=rfl
theorem yi(e:n<=1000):pU .shl (.int 1) (.int n)=some (.int (2 ^ n:Nat)):=iE (eC (eC (decide_eq_true (WU n)) (decide_eq_true (XX.mpr e))) rfl)
theorem Co(e:n<=1000):pU .shr (.int m) (.int n)=some (.int (m>>>n:Nat)):=iE (eC (eC (decide_eq_true (WU m)) (decide_eq_true (WU n))) (decide_eq_true (XX.mpr e)))
theorem Df:pU .band (.int m) (.int n)=some (.int (m&&&n:Nat)):=iE (eC (decide_eq_true (WU m)) (decide_eq_true (WU n)))
theorem wF:pU .bor (.int m) (.int n)=some (.int (m|||n:Nat)):=iE (eC (decide_eq_true (WU m)) (decide_eq_true (WU n)))
end
structure Ge(h h':H):Prop where
 sz:h.size<=h'.size
 kp:∀a,a<h.size->h'.get a=h.get a
theorem Ge.refl:Ge h h:=⟨WQ _,fun _ _=>rfl⟩
theorem Ge.trans(x:Ge h h')(y:Ge h' h''):Ge h h'':=⟨WH x.sz y.sz,fun a e=>(y.kp a (WY e x.sz)).trans (x.kp a e)⟩
theorem Ge.push(x:Ge h h'){o:O}:Ge h (h'.push o):=⟨XS x.sz,fun a e=>(ay (WY e x.sz)).trans (x.kp a e)⟩
theorem Ge.set(x:Ge h h'){a:Nat}{o:Option O}(n:h.size<=a):Ge h (h'.set a o):=⟨x.sz,fun b e=>(ah (WT (WY e n))).trans (x.kp b e)⟩
theorem Ge.at(x:Ge h h'){a:Nat}{o:O}(e:h.get a=some o):h'.get a=some o:=(x.kp a (aE e)).trans e
noncomputable def Du(h:H)(a:Nat)(j v:V)(k:H->Prop):Prop:=match (h.get a).bind (fN · j v) with|some o=>k (h.set a (some o))|.none=>False
theorem PN{a:Nat}{j v:V}:KX d (.eS::K) (j::.ref a::v::sk) ρ h QX=Du h a j v fun h=>KX d K sk ρ h QX:=rfl
theorem gB{a:Nat}{j v:V}{o o':O}{k:H->Prop}(e:h.get a=some o)(e2:fN o j v=some o')(q:k (h.set a (some o'))):Du h a j v k:=by
 unfold Du;rw[e];show match fN o j v with|some o=>k (h.set a (some o))|.none=>False
 rw[e2];exact q
theorem cb{c f:Nat}{fs fs':List Nat}{vs vs':List V}{v:V}{k:Sl->Prop}(e:jR mp.ok (.inst c fs vs) f v=some (.inst c fs' vs'))(q:k (.o (.inst c fs' vs'))):Tw (.o (.inst c fs vs)) f v k:=by
 show match jR mp.ok (.inst c fs vs) f v with|some o=>k (.o o)|.none=>False
 rw[e];exact q
theorem VJ:(!true)=false:=rfl
theorem We:(!false)=true:=rfl
theorem Vg:isNone .none=true:=rfl
theorem Vx{c:Nat}{fs:List Nat}{vs:List V}:(O.inst c fs vs).v=.obj c fs vs:=rfl
noncomputable def xV(t:T)(v:V)(ρ:Env)(k:Env->Prop):Prop:=match dF t v ρ with|some ρ'=>k ρ'|.none=>False
theorem Rd{i:Nat}{v:V}{k:Env->Prop}:xV (.one i) v ρ k=k (st ρ i (.v v)):=rfl
theorem QK{i j:Nat}{v w:V}{k:Env->Prop}:xV (.two i j) (.tup [v,w]) ρ k=k (st (st ρ i (.v v)) j (.v w)):=rfl
theorem oF{α:Type}{xs:List α}(g:Nat->α->V){v:V}{t:T}{b:S}(I:List α->List α->Env->H->Prop)(hv:bZ v=some (xs.mapIdx g))(i0:I [] xs ρ h)
  (step:∀ys x zs ρ h P,xs=ys++x::zs->(∀ρ h,I (ys++[x]) zs ρ h->P ρ h)->I ys (x::zs) ρ h->xV t (g ys.length x) ρ fun ρ=>KX d [.s b] [] ρ h ⟨P,P,QX.r⟩)(fin:∀ρ h,I xs [] ρ h->KX d K sk ρ h QX):KX d (.loop t b::K) (v::sk) ρ h QX:=by
 have go:∀zs ys n ρ h,n=ys.length->xs=ys++zs->I ys zs ρ h->forL False t (fun ρ h kn=>ex mp (mP d) b ρ h kn kn QX.r) (fun ρ h=>KX d K sk ρ h QX) (zs.mapIdx fun i=>g (i+n)) ρ h:=by
  intro zs
  induction zs with
  |nil=>exact fun ys n ρ h l e i=>fin ρ h (by rw[e,Xo];exact i)
  |cons z zs ih=>
   intro ys n ρ h l e i
   have e':xs=(ys++[z])++zs:=by rw[e,Xn];rfl
   rw[aar,XG,show(fun i=>g (i+1+n))=fun i=>g (i+(n+1)) by funext i;rw[XO,Yx 1],l]
   exact step ys z zs ρ h _ e (fun ρ h i=>ih _ _ ρ h (by rw[Xd];rfl) e' i) i
 show match bZ v with|some vs=>_|.none=>False
 rw[hv]
 exact go xs [] 0 ρ h rfl rfl i0
theorem wZ{α β:Type}{g:α->β}:∀{xs:List α},xs.map g=xs.mapIdx fun _=>g
 |[]=>rfl
 |x::xs=>by rw[Za,aar,wZ]
theorem xQ{α:Type}{xs:List α}{g:α->V}{v:V}{t:T}{b:S}(I:List α->List α->Env->H->Prop)(hv:bZ v=some (xs.map g))(i0:I [] xs ρ h)
  (step:∀ys x zs ρ h P,xs=ys++x::zs->(∀ρ h,I (ys++[x]) zs ρ h->P ρ h)->I ys (x::zs) ρ h->xV t (g x) ρ fun ρ=>KX d [.s b] [] ρ h ⟨P,P,QX.r⟩)(fin:∀ρ h,I xs [] ρ h->KX d K sk ρ h QX):KX d (.loop t b::K) (v::sk) ρ h QX:=
 oF (fun _=>g) I (by rw[hv,wZ]) i0 step fin
theorem rQ{v:V}{vs:List V}{t:T}{b:S}(q:xV t v ρ fun ρ=>KX d [.s b] [] ρ h ⟨fun ρ h=>KX d (.loop t b::K) (.lst vs::sk) ρ h QX,fun ρ h=>KX d (.loop t b::K) (.lst vs::sk) ρ h QX,QX.r⟩):KX d (.loop t b::K) (.lst (v::vs)::sk) ρ h QX:=q
theorem cZ{n:Nat}:bZ (.kE 0 (n:Nat))=some ((Xq n).map fun(j:Nat)=>V.int (j:Nat)):=by
 show some (vU 0 (n:Nat))=_
 unfold vU
 simp only[aa9,aa3,Int.zero_add]
theorem fq{n:Nat}(e:nY (n:Nat)=true):qT .range [.int (n:Nat)] h=some (.kE 0 (n:Nat)):=by
 unfold qT yE;exact iE e
theorem cC{α σ:Type}{xs:List α}{g:α->V}{v:V}{t:T}{b:S}(E:σ->Env)(X:σ->H)(I:List α->List α->σ->Prop)(s0:σ)(hv:bZ v=some (xs.map g))(i0:I [] xs s0)
  (step:∀ys x zs s P,xs=ys++x::zs->(∀s,I (ys++[x]) zs s->P (E s) (X s))->I ys (x::zs) s->xV t (g x) (E s) fun ρ=>KX d [.s b] [] ρ (X s) ⟨P,P,QX.r⟩)(fin:∀s,I xs [] s->KX d K sk (E s) (X s) QX):KX d (.loop t b::K) (v::sk) (E s0) (X s0) QX:=
 xQ (fun ys zs ρ h=>∃s,ρ=E s/\h=X s/\I ys zs s) hv ⟨s0,rfl,rfl,i0⟩ (fun ys x zs ρ h P e p i=>i.elim fun s c=>c.1▸c.2.1▸step ys x zs s P e (fun s i=>p _ _ ⟨s,rfl,rfl,i⟩) c.2.2) fun ρ h i=>i.elim fun s c=>c.1▸c.2.1▸fin s c.2.2
theorem kM{α σ:Type}{xs:List α}(g:Nat->α->V){v:V}{t:T}{b:S}(E:σ->Env)(X:σ->H)(I:List α->List α->σ->Prop)(s0:σ)(hv:bZ v=some (xs.mapIdx g))(i0:I [] xs s0)
  (step:∀ys x zs s P,xs=ys++x::zs->(∀s,I (ys++[x]) zs s->P (E s) (X s))->I ys (x::zs) s->xV t (g ys.length x) (E s) fun ρ=>KX d [.s b] [] ρ (X s) ⟨P,P,QX.r⟩)(fin:∀s,I xs [] s->KX d K sk (E s) (X s) QX):KX d (.loop t b::K) (v::sk) (E s0) (X s0) QX:=
 oF g (fun ys zs ρ h=>∃s,ρ=E s/\h=X s/\I ys zs s) hv ⟨s0,rfl,rfl,i0⟩ (fun ys x zs ρ h P e p i=>i.elim fun s c=>c.1▸c.2.1▸step ys x zs s P e (fun s i=>p _ _ ⟨s,rfl,rfl,i⟩) c.2.2) fun ρ h i=>i.elim fun s c=>c.1▸c.2.1▸fin s c.2.2
theorem cF{α σ:Type}{xs:List α}{g:α->V}{v:V}{t:T}{b:S}(E:List α->σ->Env)(s0:σ)(hv:bZ v=some (xs.map g))
  (step:∀ys x zs s P,xs=ys++x::zs->(∀s,P (E (ys++[x]) s) h)->xV t (g x) (E ys s) fun ρ=>KX d [.s b] [] ρ h ⟨P,P,QX.r⟩)(fin:∀s,KX d K sk (E xs s) h QX):KX d (.loop t b::K) (v::sk) (E [] s0) h QX:=
 xQ (fun ys zs ρ h'=>∃s,ρ=E ys s/\h'=h) hv ⟨s0,rfl,rfl⟩ (fun ys x zs ρ h P e p i=>i.elim fun s c=>by cases c.1;cases c.2;exact step ys x zs s P e fun s=>p _ _ ⟨s,rfl,rfl⟩) fun ρ h i=>i.elim fun s c=>by cases c.1;cases c.2;exact fin s
theorem HA{α σ:Type}{xs:List α}(g:Nat->α->V){v:V}{t:T}{b:S}(E:List α->σ->Env)(s0:σ)(hv:bZ v=some (xs.mapIdx g))
  (step:∀ys x zs s P,xs=ys++x::zs->(∀s,P (E (ys++[x]) s) h)->xV t (g ys.length x) (E ys s) fun ρ=>KX d [.s b] [] ρ h ⟨P,P,QX.r⟩)(fin:∀s,KX d K sk (E xs s) h QX):KX d (.loop t b::K) (v::sk) (E [] s0) h QX:=
 oF g (fun ys zs ρ h'=>∃s,ρ=E ys s/\h'=h) hv ⟨s0,rfl,rfl⟩ (fun ys x zs ρ h P e p i=>i.elim fun s c=>by cases c.1;cases c.2;exact step ys x zs s P e fun s=>p _ _ ⟨s,rfl,rfl⟩) fun ρ h i=>i.elim fun s c=>by cases c.1;cases c.2;exact fin s
theorem lh{c:E}{b:S}(I:Nat->Env->H->Prop)(n:Nat)(i0:I n ρ h)
  (step:∀n ρ h,I n ρ h->KX d [.e c,.eU (.seq b .cont) .skip] [] ρ h ⟨fun ρ h=>KX d K sk ρ h QX,fun ρ h=>∃m,m<n/\I m ρ h,QX.r⟩):KX d (.s (.dd c b)::K) sk ρ h QX:=⟨I,⟨n,i0⟩,step⟩
theorem rT{vs:List V}{k:Prop}(e:vs.length<=SZ)(q:k):wI False vs k:=by unfold wI;rw[decide_eq_true e];exact q
theorem bj{α:Type}{xs:List α}{t:T}{el:E}{v:V}(g f:α->V)(hv:bZ v=some (xs.map g))(hl:xs.length<=SZ)(he:∀x∈xs,∀P:V->H->Prop,P (f x) h->xV t (g x) ρ fun ρ=>KX d [.e el,.ret] [] ρ h ⟨fun _ _=>False,fun _ _=>False,fun v _ h=>P v h⟩)
  (q:KX d K (.lst (xs.map f)::sk) ρ h QX):KX d (.aM el t::K) (v::sk) ρ h QX:=by
 have go:∀(ys:List α)(k:List V->H->Prop),(∀y∈ys,y∈xs)->k (ys.map f) h->cJ False t ρ (fun ρ h k=>ev mp (mP d) el ρ h fun v h=>k (some v) h) (ys.map g) h k:=by
  intro ys
  induction ys with
  |nil=>exact fun k _ q=>q
  |cons y ys ih=>exact fun k m q=>he y (m y YW) _ (ih (fun xs h=>k (f y::xs) h) (fun z hz=>m z (YY _ hz)) q)
 show match bZ v with|some vs=>_|.none=>False
 rw[hv]
 exact rT (by rw[WK];exact hl) (go xs _ (fun _ z=>z) q)
theorem jD{α:Type}{xs:List α}{t:T}{el:E}{v:V}(g:α->V)(I:List α->List α->List V->H->Prop)(hv:bZ v=some (xs.map g))(hl:xs.length<=SZ)(i0:I [] xs [] h)
  (he:∀ys x zs us h (P:V->H->Prop),xs=ys++x::zs->(∀v h,I (ys++[x]) zs (us++[v]) h->P v h)->I ys (x::zs) us h->xV t (g x) ρ fun ρ=>KX d [.e el,.ret] [] ρ h ⟨fun _ _=>False,fun _ _=>False,fun v _ h=>P v h⟩)
  (q:∀us h,us.length=xs.length->I xs [] us h->KX d K (.lst us::sk) ρ h QX):KX d (.aM el t::K) (v::sk) ρ h QX:=by
 have go:∀(zs ys:List α)(us:List V)(h:H)(k:List V->H->Prop),xs=ys++zs->I ys zs us h->us.length=ys.length->(∀ws h,(us++ws).length=xs.length->I xs [] (us++ws) h->k ws h)->cJ False t ρ (fun ρ h k=>ev mp (mP d) el ρ h fun v h=>k (some v) h) (zs.map g) h k:=by
  intro zs
  induction zs with
  |nil=>exact fun ys us h k e i l q=>by rw[Xo]at e;subst e;exact q [] h (by rw[Xo];exact l) (by rw[Xo];exact i)
  |cons z zs ih=>
   intro ys us h k e i l q
   have e':xs=(ys++[z])++zs:=by rw[e,Xn];rfl
   exact he ys z zs us h _ e (fun v h i=>ih (ys++[z]) (us++[v]) h (fun xs h=>k (v::xs) h) e' i (by rw[Xd,Xd,l];rfl) (fun ws h a b=>q (v::ws) h (by rw[Xn]at a;exact a) (by rw[Xn]at b;exact b))) i
 show match bZ v with|some vs=>_|.none=>False
 rw[hv]
 exact rT (by rw[WK];exact hl) (go xs [] [] h _ rfl i0 rfl fun ws h a b=>q ws h a b)
theorem Fg{α:Type}{xs:List α}{t:T}{el c:E}{v:V}(g f:α->V)(p:α->Bool)(hv:bZ v=some (xs.map g))(hl:xs.length<=SZ)
  (he:∀x∈xs,∀P:Option V->H->Prop,P (if p x then some (f x) else none) h->xV t (g x) ρ fun ρ=>ev mp (mP d) c ρ h fun b h=>gk False b (ev mp (mP d) el ρ h fun v h=>P (some v) h) (P .none h))
  (q:KX d K (.lst ((xs.filter p).map f)::sk) ρ h QX):KX d (.bQ el t c::K) (v::sk) ρ h QX:=by
 have go:∀(ys:List α)(k:List V->H->Prop),(∀y∈ys,y∈xs)->k ((ys.filter p).map f) h->cJ False t ρ (fun ρ h k=>ev mp (mP d) c ρ h fun b h=>gk False b (ev mp (mP d) el ρ h fun v h=>k (some v) h) (k .none h)) (ys.map g) h k:=by
  intro ys
  induction ys with
  |nil=>exact fun k _ q=>q
  |cons y ys ih=>
   refine fun k m q=>he y (m y YW) (fun x h=>cJ False t ρ _ (ys.map g) h fun xs h=>k (match x with|some x=>x::xs|.none=>xs) h) (ih _ (fun z hz=>m z (YY _ hz)) ?_)
   cases e:p y with
   |true=>rw[aas e]at q;exact q
   |false=>rw[aat (by rw[e];exact Bool.false_ne_true)]at q;exact q
 show match bZ v with|some vs=>_|.none=>False
 rw[hv]
 exact rT (by rw[WK];exact hl) (go xs _ (fun _ z=>z) q)
theorem Te{p:Prop}{_:Decidable p}{s1 s2:S}{ρ':Env}{h':H}(f:KX d K sk ρ' h' QX)(a:p->KX d K sk ρ' h' QX->KX d (.s s1::K) sk ρ h QX)(b:¬ p->KX d K sk ρ' h' QX->KX d (.s s2::K) sk ρ h QX):
  KX d (.eU s1 s2::K) (.bool (decide p)::sk) ρ h QX:=dec (X:=fun z=>KX _ (.eU _ _::_) (.bool z::_) _ _ _) (fun z=>a z f) (fun z=>b z f)
theorem Pk{p:Prop}{_:Decidable p}{s1 s2:S}{α:Type}{h':H}(ρ':α->Env)(f:∀x,KX d K sk (ρ' x) h' QX)(a:p->(∀x,KX d K sk (ρ' x) h' QX)->KX d (.s s1::K) sk ρ h QX)(b:¬ p->(∀x,KX d K sk (ρ' x) h' QX)->KX d (.s s2::K) sk ρ h QX):
  KX d (.eU s1 s2::K) (.bool (decide p)::sk) ρ h QX:=dec (X:=fun z=>KX _ (.eU _ _::_) (.bool z::_) _ _ _) (fun z=>a z f) (fun z=>b z f)
theorem dm{p:Prop}{_:Decidable p}{s1 s2:S}(a:p->KX d (.s s1::K) sk ρ h QX)(b:¬ p->KX d (.s s2::K) sk ρ h QX):
  KX d (.eU s1 s2::K) (.bool (decide p)::sk) ρ h QX:=dec (X:=fun z=>KX _ (.eU _ _::_) (.bool z::_) _ _ _) a b
theorem NL{p:Prop}{_:Decidable p}{e1 e2:E}(a:p->KX d (.e e1::K) sk ρ h QX)(b:¬ p->KX d (.e e2::K) sk ρ h QX):
  KX d (.ite e1 e2::K) (.bool (decide p)::sk) ρ h QX:=dec (X:=fun z=>KX _ (.ite _ _::_) (.bool z::_) _ _ _) a b
theorem nq{p:Prop}{_:Decidable p}{b:E}(x:p->KX d (.e b::K) sk ρ h QX)(y:¬ p->KX d K (.bool false::sk) ρ h QX):KX d (.and b::K) (.bool (decide p)::sk) ρ h QX:=dec (X:=fun z=>KX _ (.and _::_) (.bool z::_) _ _ _) x y
theorem Qr{p:Prop}{_:Decidable p}{b:E}(x:p->KX d K (.bool true::sk) ρ h QX)(y:¬ p->KX d (.e b::K) sk ρ h QX):KX d (.or b::K) (.bool (decide p)::sk) ρ h QX:=dec (X:=fun z=>KX _ (.or _::_) (.bool z::_) _ _ _) x y
theorem cN{cp:BF}{v w:V}{b:Bool}(e:zH cp v w h=some b)(q:KX d K (.bool b::sk) ρ h QX):KX d (.cmp cp::K) (w::v::sk) ρ h QX:=by
 show match zH cp v w h with|some b=>_|.none=>False
 rw[e];exact q
theorem eM{p:Prop}{_:Decidable p}{s1 s2:S}(a:¬ p->KX d (.s s1::K) sk ρ h QX)(b:p->KX d (.s s2::K) sk ρ h QX):
  KX d (.eU s1 s2::K) (.bool (!decide p)::sk) ρ h QX:=dec (X:=fun z=>KX _ (.eU _ _::_) (.bool (!z)::_) _ _ _) b a
theorem Nk{vs:List V}:qT .len [.lst vs] h=some (.int vs.length):=rfl
theorem kW{α:Type}{xs:List α}{f:α->V}:qT .len [.lst (xs.map f)] h=some (.int xs.length):=by rw[Nk,WK]
theorem ra{v:V}{n:Nat}(e:n<=SZ):pU .mul (.lst [v]) (.int n)=some (.lst (XA n v)):=iE (eC (decide_eq_true (WU n)) (decide_eq_true (show(n:Int).toNat<=SZ from e)))
theorem dR{n N:Nat}{f:Nat->V}(e:n<N):((Xq N).map f)[n]? =some (f n):=by rw[Xj,Zt e];rfl
theorem oU{α:Type}{xs:List α}{f:α->V}{n:Nat}(e:n<xs.length):(xs.map f)[n]? =some (f xs[n]):=by rw[Xj,WR e];rfl
theorem vD{vs:List V}{n:Nat}(h1:n<=SZ)(h2:vs.length<=SZ)(q:KX d K (.lst (vs.take n)::sk) ρ h QX):KX d (.dY::K) (.int n::.lst vs::sk) ρ h QX:=by
 show match decide ((0:Int)<=n)&&decide ((n:Int).toNat<=SZ) with|true=>fJ False (Mine.dY (.lst vs) n) fun v=>KX d K (v::sk) ρ h QX|false=>False
 rw[decide_eq_true (WU n),decide_eq_true (show(n:Int).toNat<=SZ from h1)]
 exact ag (bu h2) q
theorem ux{vs:List V}{n:Nat}(h1:n<=SZ)(h2:vs.length<=SZ)(q:KX d K (.lst (vs.drop n)::sk) ρ h QX):KX d (.aW::K) (.int n::.lst vs::sk) ρ h QX:=by
 show match decide ((0:Int)<=n)&&decide ((n:Int).toNat<=SZ) with|true=>fJ False (Mine.aW (.lst vs) n) fun v=>KX d K (v::sk) ρ h QX|false=>False
 rw[decide_eq_true (WU n),decide_eq_true (show(n:Int).toNat<=SZ from h1)]
 exact ag (bu h2) q
theorem OX{s:List Nat}{f:Nat}{vs:List V}{v:V}(e:uF (.str s) f vs=some v)(q:KX d K (v::sk) ρ h QX):KX d (.aq f .none::K) (.tup vs::.str s::sk) ρ h QX:=ag (k:=fun v=>KX d K (v::sk) ρ h QX) e q
theorem aT{vs:List V}{v:V}{k:V->Sl->Prop}(h2:vs.length<SZ)(q:k .none (.o (.list (vs++[v])))):EU (.o (.list vs)) 0 [v] k:=by
 show(match (match decide (vs.length<SZ) with|true=>some _|false=>none).map (fun r:V×List V=>(r.1,O.list r.2)) with|some r=>_|none=>False)
 rw[decide_eq_true h2];exact q
theorem Gz{vs:List V}{i:Int}{v:V}{k:V->Sl->Prop}(h0:0<=i)(h1:i<=vs.length)(h2:vs.length<SZ)(q:k .none (.o (.list (vs.take i.toNat++v::vs.drop i.toNat)))):EU (.o (.list vs)) 1 [.int i,v] k:=by
 show(match (match decide (0<=i)&&decide (i<=vs.length)&&decide (vs.length<SZ) with|true=>some _|false=>none).map (fun r:V×List V=>(r.1,O.list r.2)) with|some r=>_|none=>False)
 rw[decide_eq_true h0,decide_eq_true h1,decide_eq_true h2];exact q
theorem HT{vs us:List V}{k:V->Sl->Prop}(h2:vs.length+us.length<=SZ)(q:k .none (.o (.list (vs++us)))):EU (.o (.list vs)) 2 [.lst us] k:=by
 show(match (match decide (vs.length+us.length<=SZ) with|true=>some _|false=>none).map (fun r:V×List V=>(r.1,O.list r.2)) with|some r=>_|none=>False)
 rw[decide_eq_true h2];exact q
theorem cV{a f:Nat}{vs:List V}{b:E}(l:aag f 5=true)(e:h.get a=some (.list vs))(q:KX d (.e b::.aq f .none::K) (.ref a::sk) ρ h QX):KX d (.iN f b::K) (.ref a::sk) ρ h QX:=fQ (by
 show iN mp (.ref a) f h=some none
 unfold iN
 rw[show rd (.ref a) h=_ from e]
 show(match aag f 5 with|true=>some (none:Option Nat)|false=>none)=some none
 rw[l]) q
theorem um{a f:Nat}{o:O}{r:V×O}{vs:List V}(e:h.get a=some o)(e2:dh o f vs=some r)(q:KX d K (r.1::sk) ρ (h.set a (some r.2)) QX):KX d (.aq f .none::K) (.tup vs::.ref a::sk) ρ h QX:=by
 show match h.get a with|some o=>(match dh o f vs with|some r=>KX d K (r.1::sk) ρ (h.set a (some r.2)) QX|.none=>_)|.none=>_
 rw[e]
 show match dh o f vs with|some r=>_|.none=>_
 rw[e2];exact q
theorem Me{vs:List V}{v:V}(h2:vs.length<SZ):dh (.list vs) 0 [v]=some (.none,.list (vs++[v])):=by
 show(match decide (vs.length<SZ) with|true=>some _|false=>none).map (fun r:V×List V=>(r.1,O.list r.2))=_
 rw[decide_eq_true h2];rfl
theorem JA{vs us:List V}(h2:vs.length+us.length<=SZ):dh (.list vs) 2 [.lst us]=some (.none,.list (vs++us)):=by
 show(match decide (vs.length+us.length<=SZ) with|true=>some _|false=>none).map (fun r:V×List V=>(r.1,O.list r.2))=_
 rw[decide_eq_true h2];rfl
theorem dC{a:Nat}{vs:List V}{v:V}(e:h.get a=some (.list vs))(h2:vs.length<SZ)(q:KX d K (.none::sk) ρ (h.set a (some (.list (vs++[v])))) QX):KX d (.aq 0 .none::K) (.tup [v]::.ref a::sk) ρ h QX:=um e (Me h2) q
end
open Lean.Parser.Tactic in
local macro_rules
 | `(tactic| dsimp only [kk, $a:simpLemma,*]) => do let n <- ("gt_0 Wv RG Qm Uu Um Tg RQ FA TF Rf PJ QV QQ Qb Qa PY PH Pz PM MT QA PW PZ PV TR RN PI Vi PD VN Qi SN QW Rv Td NO QH QJ SG RK RF Sj Pu UK Sm Wz Ud PT Nv MU Vn RJ UY TC UC RS Vm Ru Un QE OO VQ Wb VX Wk WA Vz Tj Qz Qc QP UT UO Ts Vh Rw TL Sq Qy Qh Qv Nq PE Rh ym Ey LW Sg PB PX TH SJ Sf Pt NJ RV PS QO NZ VC Ti Vw Vo Qq PK My Sb Qt QY VM Tv Uz Wg Wa UM Va TU TM Uj Ur VS VP PN VJ We Vg Vx Rd QK ae Nat.beq".splitOn " ").toArray.mapM fun x => `(simpLemma| $(Lean.mkIdent x.toName):term); let n := n ++ a.getElems; `(tactic| dsimp only [$n,*])
section
variable{d:Nat}{h h' h'':H}{Q:V->H->Prop}{K:List C}
structure dO(h:H)(k:Nat)(cs:List Int)(sp st:Int):Prop where
 g:h.get 0=some (.list [.lst (cs.map V.int),.int sp,.int st])
 s0:0<=sp
 s1:sp+k<=10 ^ 30
 t0:0<=st
noncomputable def gn(h:H)(k:Nat):Prop:=∃cs sp st,dO h k cs sp st
structure Fp(h h':H):Prop where
 sz:h'.size=h.size
 kp:∀a,a≠0->h'.get a=h.get a
theorem Fp.refl:Fp h h:=⟨rfl,fun _ _=>rfl⟩
theorem Fp.trans(x:Fp h h')(y:Fp h' h''):Fp h h'':=⟨y.sz.trans x.sz,fun a n=>(y.kp a n).trans (x.kp a n)⟩
theorem Fp.set(x:Fp h h'){o:Option O}:Fp h (h'.set 0 o):=⟨x.sz,fun a n=>(ah n).trans (x.kp a n)⟩
theorem gn.ge{k:Nat}(P:gn h k)(x:Ge h h'):gn h' k:=let ⟨cs,sp,st,p⟩:=P;⟨cs,sp,st,x.at p.g,p.s0,p.s1,p.t0⟩
theorem gn.le{k k':Nat}(P:gn h k)(x:k'<=k):gn h k':=let ⟨cs,sp,st,p⟩:=P;⟨cs,sp,st,p.g,p.s0,Zn (Int.add_le_add_left (XX.mpr x) _) p.s1,p.t0⟩
section
variable{k:Nat}{sp st x:Int}{cs:List Int}
theorem dO.r(P:dO h k cs sp st)(i:V):cL (.ref 0) i h=aH (.list [.lst (cs.map V.int),.int sp,.int st]) i:=by
 show(h.get 0).bind _=_
 rw[P.g];rfl
theorem dO.r0(P:dO h k cs sp st):cL (.ref 0) (.int 0) h=some (.lst (cs.map V.int)):=P.r _
theorem dO.r1(P:dO h k cs sp st):cL (.ref 0) (.int 1) h=some (.int sp):=P.r _
theorem dO.r2(P:dO h k cs sp st):cL (.ref 0) (.int 2) h=some (.int st):=P.r _
theorem dO.w1(P:dO h k cs sp st){k':Nat}{kk:H->Prop}(h0:0<=x)(h1:x+k'<=10 ^ 30)(q:∀h',dO h' k' cs x st->Fp h h'->kk h'):Du h 0 (.int 1) (.int x) kk:=gB P.g rfl (q _ ⟨aG (aE P.g),h0,h1,P.t0⟩ Fp.refl.set)
theorem dO.w2(P:dO h k cs sp st){kk:H->Prop}(h0:0<=x)(q:∀h',dO h' k cs sp x->Fp h h'->kk h'):Du h 0 (.int 2) (.int x) kk:=gB P.g rfl (q _ ⟨aG (aE P.g),P.s0,P.s1,h0⟩ Fp.refl.set)
theorem dO.le(P:dO h (k+1) cs sp st):dO h k cs sp st:=⟨P.g,P.s0,by have:=P.s1;lia,P.t0⟩
end
noncomputable def va{α:Type}(c b:Nat):List α->Nat
 |[]=>b
 |_::r=>va c b r+c
theorem fV{α:Type}{c b:Nat}:∀{xs:List α},va c b xs=b+c*xs.length
 |[]=>rfl
 |_::r=>by show va c b r+c=_;rw[fV,XO];rfl
theorem xc{a b:Int}(h:0<b):0<=a.fmod b/\a.fmod b<b:=⟨Int.fmod_nonneg_of_pos _ h,Int.fmod_lt_of_pos _ h⟩
theorem xM{x:Int}(h:x.natAbs<10 ^ 70):Mx x=true:=decide_eq_true (WY h (by decide))
theorem cX{x:Int}(h0:0<=x)(h:x<1152921504606846976):nY x=true:=ZW.mpr (by show x.natAbs<_;lia)
theorem draw{many:Nat}{k:Nat}(hm:0<many)(hm2:many<1024)(P:gn h (k+1))(q:∀(n:Nat) h',n<many->gn h' k->Fp h h'->Q (.int n) h'):WC (d+1) 67 [.ref 0,.int many] h Q:=by
 obtain⟨cs,sp,st,P⟩:=P
 have m0:(0:Int)<many:=XJ.mpr hm
 have m1:(many:Int)<1024:=XJ.mpr hm2
 have qn:∀(x:Int)(h':H)(sp st:Int),dO h' k cs sp st->Fp h h'->Q (.int (x.fmod many)) h':=fun x h' sp st p f=>by
  have b:=xc (a:=x) m0
  rw[<-ZS b.1]
  exact q _ h' (XJ.mp (by rw[ZS b.1];exact b.2)) ⟨cs,sp,st,p⟩ f
 refine aD jm [.v (.ref 0),.v (.int many),.no,.no,.no,.no] rfl rfl ?_
 dsimp only[kk,jm,mX]
 refine ag P.r2 ?_
 try dsimp only[kk,ae]
 refine dm (fun hs=>?_) (fun hs=>?_)
 ·try dsimp only[kk,ae]
  refine ag P.r2 (ag (pz m0) (ag P.r2 (ag (BX m0 m1) ?_)))
  try dsimp only[kk,ae]
  exact P.w2 (abA P.t0 (ZV m0)) fun h1 P1 f1=>qn _ _ _ _ P1.le f1
 try dsimp only[kk,ae]
 refine ag P.r1 ?_
 try dsimp only[kk,ae]
 refine P.w1 (k':=k) (Int.le_add_one P.s0) (by have:=P.s1;lia) fun h1 P1 f1=>ag (qK rfl) ?_
 try dsimp only[kk,ae]
 refine ag P1.r0 (ag kW ?_)
 try dsimp only[kk,ae]
 refine Pk (fun c:Int=>[.v (.ref 0),.v (.int many),.no,.v (.int sp),.v (.int c),.no]) (fun c=>?_) (fun hl f=>?_) (fun hl f=>f _)
 ·try dsimp only[kk,ae]
  refine ag P1.r0 (ag kW ?_)
  try dsimp only[kk,ae]
  have rest:KX d [.s (.seq (.asg 5 (.bin .mod (.bin .pow (.bin .add (.bin .add (.bin .mod (.loc 4) (.lit (.int 2147483579))) (.bin .mul (.lit (.int 91939)) (.loc 3))) (.lit (.int 5741))) (.lit (.int 3))) (.lit (.int 2147483647)))) (.seq (.asg 5 (.bin .mod (.bin .pow (.bin .add (.bin .add (.bin .mul (.loc 5) (.bin .add (.bin .mul (.lit (.int 2)) (.loc 3)) (.lit (.int 373)))) (.bin .mul (.lit (.int 66877)) (.loc 3))) (.lit (.int 4931))) (.lit (.int 3))) (.lit (.int 2147483629)))) (.ret (.bin .mod (.bin .fdiv (.loc 5) (.lit (.int 32))) (.loc 1)))))] [] [.v (.ref 0),.v (.int many),.no,.v (.int sp),.v (.int c),.no] h1 (Rt Q):=by
   try dsimp only[kk,ae]
   have b1:=xc (a:=c) (b:=2147483579) (by decide)
   refine ag (pz (by decide)) (ag (qK rfl) ?_)
   try dsimp only[kk,ae]
   have s0:=P.s0;have s1:=P.s1
   refine ag (DO (by decide) (by decide) (xM (by lia))) (ag (pz (by decide)) ?_)
   try dsimp only[kk,ae]
   have b2:=xc (a:=(c.fmod 2147483579+91939*sp+5741) ^ (3:Int).toNat) (b:=2147483647) (by decide)
   generalize ((c.fmod 2147483579+91939*sp+5741) ^ (3:Int).toNat).fmod 2147483647=y at b2 ⊢
   refine ag (qK rfl) ?_
   try dsimp only[kk,ae]
   refine ag (qK (cX b2.1 (by lia))) (ag (qK rfl) ?_)
   try dsimp only[kk,ae]
   have e1:0<=y*(2*sp+373):=Int.mul_nonneg b2.1 (by lia)
   have e2:y*(2*sp+373)<=2147483647*(2*sp+373):=Int.mul_le_mul_of_nonneg_right (by lia) (by lia)
   refine ag (DO (by decide) (by decide) (xM (by lia))) (ag (pz (by decide)) (ag (BX (by decide) (by decide)) (ag (pz m0) ?_)))
   exact qn _ _ _ _ P1 f1
  refine nq (fun hl=>?_) fun _=>rest
  have ep:pU .pow (.int 10) (.int 18)=some (.int 1000000000000000000):=by rw[DO (by decide) (by decide) (by decide)];rfl
  try dsimp only[kk,ae]
  refine ag rfl (ag ep ?_)
  try dsimp only[kk,ae]
  refine dm (fun hb=>?_) fun _=>rest
  have t0:∀b:Bool,0<=2*((if c<0 then-c else c)-1000000000000000000)+(if b then 1 else 0):=fun b=>by cases b<;>simp only[if_true,Bool.false_eq_true,if_false]<;>lia
  try dsimp only[kk,ae]
  refine ag rfl (ag ep ?_)
  try dsimp only[kk,ae]
  refine ag (qK rfl) ?_
  try dsimp only[kk,ae]
  refine ag rfl ?_
  try dsimp only[kk,ae]
  refine P1.w2 (t0 _) fun h2 P2 f2=>ag P2.r2 (ag (pz m0) (ag P2.r2 (ag (BX m0 m1) ?_)))
  try dsimp only[kk,ae]
  exact P2.w2 (abA (t0 _) (ZV m0)) fun h3 P3 f3=>qn _ _ _ _ P3 ((f1.trans f2).trans f3)
 ·try dsimp only[kk,ae]
  refine ag P1.r0 (ag P1.r0 (ag kW (ag (pz hl) ?_)))
  have b:=xc (a:=sp) hl
  exact ag (Nh b.1 (oU ((Int.toNat_lt b.1).mpr b.2))) (f _)
end
section
variable{d:Nat}{ρ:Env}{h h':H}{Q:V->H->Prop}{K:List C}
noncomputable abbrev Pair:=List Nat×List (List Nat)
noncomputable def gq(x:Pair):V:=.tup [.str x.1,.lst (x.2.map V.str)]
noncomputable def ta:List (List Nat):=[[97],[98],[115],[116]]
noncomputable def qe:List (List Nat):=[[115],[116]]
structure Ii(x:Pair):Prop where
 l:x.1∈qe
 lo:2<=x.2.length
 hi:x.2.length<=4
 m:∀y∈x.2,y∈ta
structure DP where
 t2:List (List Nat)
 rest:List Pair
 h2:t2=[[98]]\/t2=[]
 tY:rest.length<=3
 ok:∀x∈rest,Ii x
noncomputable def DP.P(D:DP):List Pair:=([115],[[97]])::([116],D.t2)::D.rest
noncomputable def DP.V(D:DP):V:=.lst (D.P.map gq)
theorem pick{xs:List (List Nat)}{n:Nat}(e:n<xs.length):cL (.lst (xs.map V.str)) (.int (n:Nat)) h=some (.str xs[n]):=bY (oU e)
theorem all_nil{α:Type}{p:α->Prop}:∀x∈([]:List α),p x:=fun _ m=>nomatch m
theorem lW{f:List Nat->V}{xs ys:List (List Nat)}(e:(xs++ys).length<=SZ):pU .add (.lst (xs.map f)) (.lst (ys.map f))=some (.lst ((xs++ys).map f)):=by
 rw[Xr]
 exact bu (by rw[WK,WK, <-Xd];exact e)
theorem aU{α:Type}{p:α->Prop}{xs:List α}{y:α}(a:∀x∈xs,p x)(b:p y):∀x∈xs++[y],p x:=fun x m=>by
 rcases Xv.mp m with m|m
 ·exact a x m
 ·rw[WW.mp m];exact b
theorem aS{α β:Type}{f:α->β}{xs:List α}{a:α}:xs.map f++[f a]=(xs++[a]).map f:=by rw[Xr];rfl
theorem kK{α β:Type}{xs:List α}{ys:List β}{a:α}{b:β}(e:xs.length=ys.length):(xs++[a]).length=(ys++[b]).length:=by rw[Xd,Xd,e];rfl
theorem vh{α:Type}{n:Nat}{ys zs:List Nat}{x:Nat}{xs:List α}(e:Xq n=ys++x::zs)(l:xs.length=ys.length):xs.length<n:=by
 have e:=congrArg YN e
 rw[Xb,Xd,XT]at e
 rw[e,l];exact Xx (XK _)
theorem pairs{k:Nat}(P:gn h (k+100))(q:∀(D:DP) h',gn h' k->Q D.V h'):WC (d+2) 68 [.ref 0] h Q:=by
 refine aD iu [.v (.ref 0),.no,.no,.no,.no] rfl rfl ?_
 dsimp only[kk,iu,lU]
 refine draw (many:=2) (by decide) (by decide) P fun n h1 hn P1 _=>?_
 obtain⟨t2,e2,ht⟩:∃t2:List (List Nat),([.lst [.str [98]],.lst []]:List V)[n]? =some (.lst (t2.map .str))/\(t2=[[98]]\/t2=[]):=match n,hn with
  |0,_=>⟨_,rfl,.inl rfl⟩
  |1,_=>⟨[],rfl,.inr rfl⟩
 try dsimp only[kk,ae]
 refine ag (bY e2) ?_
 try dsimp only[kk,ae]
 refine draw (many:=4) (by decide) (by decide) P1 fun n4 h2 hn4 P2 _=>?_
 try dsimp only[kk,ae]
 refine ag (fq (cX (by lia) (by lia))) ?_
 refine xQ (I:=fun ys zs ρ h=>∃(rest:List Pair) (us:List V) (x y z:Sl),ρ=[.v (.ref 0),.o (.list us),x,y,z]/\us=(([115],[[97]])::([116],t2)::rest).map gq/\rest.length=ys.length/\(∀x∈rest,Ii x)/\gn h (va 10 k zs)) cZ ⟨[],_,_,_,_,rfl,rfl,rfl,all_nil,P2.le (by rw[fV,Xb];lia)⟩ ?_ ?_
 ·rintro ys j zs _ h P e p ⟨rest,_,x,y,z,rfl,rfl,l,a,pen⟩
  have hj:=WY (vh e l) (Xl hn4)
  try dsimp only[kk,ae]
  refine draw (many:=2) (by decide) (by decide) pen fun m h3 hm P3 _=>ag (DR (m:=2)) (ag (fq (cX (by lia) (by lia))) ?_)
  refine jD _ (fun ys' zs' us h=>∃ws:List (List Nat),us=ws.map V.str/\(∀y∈ws,y∈ta)/\gn h (va 1 (va 10 k zs+2) zs')) cZ (BU (by rw[Xb];lia)) ⟨[],rfl,all_nil,P3.le (by rw[fV,Xb];lia)⟩ ?_ ?_
  ·rintro ys' j' zs' _ h P e' p' ⟨ws,rfl,a',pen'⟩
   try dsimp only[kk,ae]
   exact draw (many:=4) (by decide) (by decide) pen' fun n5 h4 hn5 P4 _=>ag (pick (xs:=ta) hn5) (p' _ _ ⟨ws++[ta[n5]],by rw[Xr];rfl,aU a' (Yh _),P4⟩)
  ·rintro _ h4 l' ⟨ws,rfl,a',P4⟩
   rw[WK,Xb]at l'
   try dsimp only[kk,ae]
   refine draw (many:=2) (by decide) (by decide) P4 fun n6 h5 hn6 P5 _=>ag (pick (xs:=qe) hn6) ?_
   try dsimp only[kk,ae]
   refine draw (many:=2) (by decide) (by decide) P5 fun n7 h6 hn7 P6 _=>vD (WH (Xl hn7) (by decide)) (by decide) ?_
   have lr:(ws++[[97]].take n7).length=2+m+n7:=by rw[Xd,l',aao,aay (show n7<=[[97]].length from XY hn7)]
   rw[show List.take n7 [V.str [97]]=([[97]].take n7).map V.str from(aaV (f:=V.str) (l:=[[97]])).symm]
   try dsimp only[kk,ae]
   refine ag (lW (by rw[lr];exact BU (by lia))) ?_
   try dsimp only[kk,ae]
   refine aT (yA (by rw[WK];show rest.length+1+1<=_;lia)) (p _ _ ⟨rest++[(qe[n6],ws++[[97]].take n7)],_,_,_,_,rfl,by rw[<-Zp, <-Zp, <-aS];rfl,kK l,aU a ⟨Yh _,by rw[lr];lia,by rw[lr];lia,fun y m=>?_⟩,P6⟩)
   rcases Xv.mp m with m|m
   ·exact a' y m
   ·rw[WW.mp (aaH m)];decide
 ·rintro _ h3 ⟨rest,_,x,y,z,rfl,rfl,l,a,pen⟩
  rw[Xb]at l
  try dsimp only[kk,ae]
  exact q ⟨t2,rest,ht,by lia,a⟩ h3 pen
end
section
variable{d:Nat}{ρ:Env}{h h':H}{Q:V->H->Prop}{K:List C}{sk:List V}{QX:Qs}
theorem fg{c f:Nat}{vs:List V}(e:mp.init c=some f)(q:WI d f c vs h fun o h=>KX d K (o.v::sk) ρ h QX):KX d (.new c::K) (.tup vs::sk) ρ h QX:=by
 show match mp.init c with|some f=>_|.none=>False
 rw[e];exact q
noncomputable def ph(tc:Nat)(xs:List Nat):Int:=xs.foldl (fun f s=>if s<tc then(s:Int) else f) (-1)
theorem pQ{tc s:Nat}{ys:List Nat}:ph tc (ys++[s])=if s<tc then(s:Int) else ph tc ys:=aai
theorem yL{xs:List Nat}{tc:Nat}(q:Q (.int (ph tc xs)) h):WC (d+1) 14 [.tup (aj xs),.int tc] h Q:=by
 refine aD fh [.v (.tup (aj xs)),.v (.int tc),.no,.no] rfl rfl ?_
 dsimp only[kk,fh,iH]
 refine cF (xs:=xs) (fun ys x=>[.v (.tup (aj xs)),.v (.int tc),.v (.int (ph tc ys)),x]) .no rfl (fun ys s zs x P e p=>?_) fun x=>q
 try dsimp only[kk,ae]
 refine dm (fun hs=>?_) (fun hs=>?_)
 ·have p:=p (.v (.int s))
  rw[pQ,if_pos (XJ.mp hs)]at p
  exact p
 ·have p:=p (.v (.int s))
  rw[pQ,if_neg (fun z=>hs (XJ.mpr z))]at p
  exact p
noncomputable def eF(tc n:Nat)(x:Rl):V:=.obj 1 [12,13,14,15,16,17,18] [.int n,.int x.1,.tup (aj x.2),.int (ph tc x.2),.none,.int 0,.int 0]
theorem TB{tc n:Nat}{x:Rl}:KX d (.attr 12::K) (eF tc n x::sk) ρ h QX=KX d K (.int n::sk) ρ h QX:=rfl
theorem Ue{tc n:Nat}{x:Rl}:KX d (.attr 13::K) (eF tc n x::sk) ρ h QX=KX d K (.int x.1::sk) ρ h QX:=rfl
theorem Tz{tc n:Nat}{x:Rl}:KX d (.attr 14::K) (eF tc n x::sk) ρ h QX=KX d K (.tup (aj x.2)::sk) ρ h QX:=rfl
end
open Lean.Parser.Tactic in
local macro_rules
 | `(tactic| dsimp only [ga_, $a:simpLemma,*]) => do let n <- ("kk TB Ue Tz".splitOn " ").toArray.mapM fun x => `(simpLemma| $(Lean.mkIdent x.toName):term); let n := n ++ a.getElems; `(tactic| dsimp only [$n,*])
section
variable{d:Nat}{ρ:Env}{h h':H}{Q:V->H->Prop}{K:List C}{sk:List V}{QX:Qs}
theorem qL{n l r lv:V}{Q:O->H->Prop}(q:Q (.inst 1 [12,13,14,15,16,17,18] [n,l,r,lv,.none,.int 0,.int 0]) h):WI (d+1) 3 1 [n,l,r,lv] h Q:=by
 refine ji mT [.o (.inst 1 [] []),.v n,.v l,.v r,.v lv,.v .none,.v (.int 0),.v (.int 0)] rfl rfl ?_
 exact q
noncomputable def Ab(n:Nat)(v:V):Prop:=∀h,bP n v h=some (v,h)
noncomputable def qp(n:Nat)(vs:List V):Prop:=∀h,jj (bP n) vs h=some (vs,h)
theorem ak{g:V->H->Option (V×H)}{v v':V}{vs vs':List V}{h2:H}(e:g v h=some (v',h'))(e2:jj g vs h'=some (vs',h2)):jj g (v::vs) h=some (v'::vs',h2):=by
 show(g v h).bind _=_
 rw[e]
 show(jj g vs h').map _=_
 rw[e2];rfl
theorem Io{n:Nat}{vs:List V}(a:∀v∈vs,Ab n v):qp n vs:=by
 induction vs with
 |nil=>exact fun _=>rfl
 |cons v vs ih=>exact fun h=>ak (a v (.head _) h) (ih (fun u m=>a u (.tail _ m)) h)
theorem cK{n:Nat}{vs:List V}(a:qp n vs):Ab (n+1) (.lst vs):=fun h=>congrArg (fun z=>gN (XF (fun r:List V×H=>(O.list r.1,r.2)) z)) (a h)
theorem oi{n:Nat}{ks:List Key}{vs:List V}(a:qp n vs):Ab (n+1) (.bL ks vs):=fun h=>congrArg (fun z=>gN (XF (fun r:List V×H=>(O.dict ks r.1,r.2)) z)) (a h)
theorem lJ{n c:Nat}{fs:List Nat}{vs:List V}(a:qp n vs):Ab (n+1) (.obj c fs vs):=fun h=>congrArg (fun z=>gN (XF (fun r:List V×H=>(O.inst c fs r.1,r.2)) z)) (a h)
theorem bH{α:Type}{n:Nat}{xs:List α}{f:α->V}(a:∀x,Ab n (f x)):qp n (xs.map f):=by
 induction xs with
 |nil=>exact fun _=>rfl
 |cons x xs ih=>exact fun h=>ak (a x h) (ih h)
theorem eV{n:Nat}{xs:List Nat}:qp (n+1) (aj xs):=bH fun _ _=>rfl
theorem bR{n:Nat}{xs:List Nat}:Ab (n+2) (.lst (aj xs)):=cK eV
theorem hS{n a:Nat}{us:List V}(e:h.get a=some (.list us))(p:qp n us):bP (n+1) (.ref a) h=some (.lst us,h.set a none):=by
 show(h.get a).bind _=_
 rw[e]
 exact congrArg (fun z=>gN (XF (fun r:List V×H=>(O.list r.1,r.2)) z)) (p _)
theorem jM{n b:Nat}{us:Nat->List V}(hu:∀s,qp n (us s))(N:Nat):∀(s:Nat)(h:H),(∀t,s<=t->t<s+N->h.get (b+t)=some (.list (us t)))->
  ∃h',jj (bP (n+1)) ((aaI s N).map fun s=>.ref (b+s)) h=some ((aaI s N).map fun s=>.lst (us s),h')/\h'.size=h.size/\∀a,a<b+s\/b+(s+N)<=a->h'.get a=h.get a:=by
 induction N with
 |zero=>exact fun s h _=>⟨h,rfl,rfl,fun _ _=>rfl⟩
 |succ N ih=>
  refine fun s h hg=>(ih (s+1) (h.set (b+s) .none) fun t h1 h2=>(ah (Xz (Xy h1 b))).trans (hg t (Yk h1) (YE s N▸h2))).imp fun h' c=>⟨ak (hS (hg s (WQ _) (Xx (XK _))) (hu s)) c.1,c.2.1,fun a ha=>?_⟩
  refine(c.2.2 a (ha.imp WV fun z=>YE s N▸z)).trans (ah ?_)
  exact ha.elim WT fun z=>Xz (WY (Xy (Xx (XK N)) b) z)
noncomputable def rr:List Nat:=[19,20,21,22,23,24,25,26,27,28]
noncomputable def zZ(tc:Nat)(rs:List Rl):V:=.lst (rs.mapIdx (eF tc))
theorem qz{a:Nat}{vs:List V}(e:h.get a=some (.list vs)):qT .len [.ref a] h=some (.int vs.length):=by
 show(h.get a).bind _=_
 rw[e];rfl
structure yV(h0:H)(b N:Nat)(rs:List Rl)(h:H):Prop where
 ge:Ge h0 h
 gl:∀s,s<N->h.get (b+s)=some (.list (aj (ko s rs 0)))
 go:h.get (b+N)=some (.list (aj (eE rs 0)))
 gw:h.get (b+N+1)=some (.list (aj (gp rs 0)))
theorem az{xs:List Nat}:(aj xs).length=xs.length:=WK _
theorem bf{xs ys:List Nat}:aj xs++aj ys=aj (xs++ys):=Xr.symm
theorem rC(s:Nat):∀(rs:List Rl)(i:Nat),(ko s rs i).length<=rs.length
 |[],_=>WQ _
 |r::rs,i=>by unfold ko;have:=rC s rs (i+1);split<;>simp<;>omega
theorem uK:∀(rs:List Rl)(k:Nat),(eE rs k).length=rs.length
 |[],_=>rfl
 |r::rs,k=>by simp[eE,uK rs]
theorem uA{n:Nat}:∀{rs:List Rl},(∀r∈rs,r.2.length<=n)->total rs<=(n+1)*rs.length
 |[],_=>WQ _
 |r::rs,a=>by
  rw[total,XT,aba,Yx]
  exact XM (uA fun x m=>a x (YY _ m)) (Xi (a r YW))
theorem Cp{a:Nat}{vs us:List V}(e:h.get a=some (.list vs))(h2:vs.length+us.length<=SZ)(q:KX d K (.none::sk) ρ (h.set a (some (.list (vs++us)))) QX):KX d (.aq 2 .none::K) (.tup [.lst us]::.ref a::sk) ρ h QX:=um e (JA h2) q
theorem gC{α:Type}{xs:List α}{i:Nat}{v:V}(g:α->V)(hv:bZ v=some (xs.map g))(hl:xs.length<=SZ)
  (q:∀h',Ge h h'->h'.size=h.size+xs.length->(∀s,s<xs.length->h'.get (h.size+s)=some (.list []))->KX d K (.lst ((Xq xs.length).map fun s=>.ref (h.size+s))::sk) ρ h' QX):KX d (.aM (.cell (.list .af)) (.one i)::K) (v::sk) ρ h QX:=by
 refine jD g (fun ys _ us h'=>us=(Xq ys.length).map (fun s=>.ref (h.size+s))/\h'.size=h.size+ys.length/\Ge h h'/\∀s,s<ys.length->h'.get (h.size+s)=some (.list [])) hv hl ⟨rfl,rfl,.refl,fun s hs=>absurd hs (ZR _)⟩ ?_ ?_
 ·rintro ys x zs _ h1 P e p ⟨rfl,z,G,a⟩
  try dsimp only[kk,ae]
  refine p _ _ ⟨?_,?_,G.push,fun s hs=>?_⟩
  ·rw[Xd,List.length_singleton,Zj,Xr,z];rfl
  ·rw[Xd];show h1.size+1=_;rw[z];rfl
  ·rw[Xd]at hs
   rcases YC.mp (show s<ys.length+1 from hs) with hs|hs
   ·rw[ay (by rw[z];lia)];exact a s hs
   ·rw[hs, <-z];exact aL
 ·rintro _ h1 l ⟨rfl,z,G,a⟩
  exact q h1 G z a
theorem len_app{α:Type}{xs ys:List α}:(xs++ys).length=xs.length+ys.length:=Xd
theorem yV.step{h0:H}{b N:Nat}{ys:List Rl}{r:Rl}{l1 l2 l3:List V}(F:yV h0 b N ys h)(z:h0.size<=b)(hx:r.1<N)(e1:l1=aj (ko r.1 (ys++[r]) 0))(e2:l2=aj (eE (ys++[r]) 0))(e3:l3=aj (gp (ys++[r]) 0)):
  yV h0 b N (ys++[r]) (((h.set (b+r.1) (some (.list l1))).set (b+N) (some (.list l2))).set (b+N+1) (some (.list l3))):=by
 have n1:b+N≠b+r.1:=Xz (Xy hx b)
 have n3:b+N≠b+N+1:=WT (Xk _)
 have zN:h0.size<=b+N:=WH z (WZ b N)
 refine⟨((F.ge.set (WH z (WZ b _))).set zN).set (XS zN),fun s hs=>(ah (WT (WV (Xy hs b)))).trans ((ah (WT (Xy hs b))).trans ?_),
  (ah n3).trans ((aG (o:=some (.list l2)) (aE (h:=h.set _ _) ((ah n1).trans F.go))).trans (congrArg (fun z=>some (O.list z)) e2)),(aG (aE (h:=(h.set _ _).set _ _) ((ah n3.symm).trans ((ah (Xz (WV (Xy hx b)))).trans F.gw)))).trans (congrArg (fun z=>some (O.list z)) e3)⟩
 by_cases q:s=r.1
 ·exact q.symm▸(aG (aE (F.gl _ hx))).trans (congrArg (fun z=>some (O.list z)) e1)
 ·exact(ah fun e=>q (YL e)).trans ((F.gl s hs).trans (congrArg (fun z=>some (O.list (aj z))) ((pj s r ys 0).trans ((congrArg _ (if_neg fun e=>q e.symm)).trans (Xo _))).symm))
theorem JQ{r:Rl}{ys:List Rl}:aj (ko r.1 ys 0)++[.int ys.length]=aj (ko r.1 (ys++[r]) 0):=
 bf.trans (congrArg aj ((pj r.1 r ys 0).trans (congrArg _ ((if_pos rfl).trans (congrArg (fun z=>[z]) (XG _))))).symm)
theorem Fe{r:Rl}{ys:List Rl}:aj (eE ys 0)++[.int (total ys:Nat)]=aj (eE (ys++[r]) 0):=
 bf.trans (congrArg aj ((qQ r ys 0).trans (congrArg (fun z=>eE ys 0++[z]) (XG _))).symm)
theorem HL{r:Rl}{ys:List Rl}:aj (gp ys 0)++XA (r.2.length+1) (.int ys.length)=aj (gp (ys++[r]) 0):=
 (congrArg _ (List.map_replicate (f:=fun n:Nat=>V.int n)).symm).trans (bf.trans (congrArg aj ((qG r ys 0).trans (congrArg (fun z=>gp ys 0++XA (r.2.length+1) z) (XG _))).symm))
noncomputable def Jl(N tc st b:Nat)(names:List V)(rs:List Rl)(y:Sl):Env:=[.o (.inst 2 [19,20,21,22,23,24,25,26,27] [.lst names,.int tc,zZ tc rs,.bL [] [],.none,.int st,.lst ((Xq N).map fun s=>.ref (b+s)),.ref (b+N),.ref (b+N+1)]),.v (.lst names),.v (.int tc),.v (zZ tc rs),.v (.bL [] []),.v .none,.v (.int st),y,.no]
theorem rD{xs:List Nat}{n:Nat}(e:xs.length=n):(aj xs).length=n:=az.trans e
theorem yQ{N tc st:Nat}{names:List V}{rs:List Rl}{Q:O->H->Prop}(hN:names.length=N)(hz:N<=1000)(hr:rs.length<=1000)(hrs:∀r∈rs,r.1<N/\r.2.length<=1000)
  (q:∀h',yV h h.size N rs h'->Q (.inst 2 rr [.lst names,.int tc,zZ tc rs,.bL [] [],.none,.int st,.lst ((Xq N).map fun s=>.ref (h.size+s)),.ref (h.size+N),.ref (h.size+N+1),.int (total rs)]) h'):WI (d+1) 4 2 [.lst names,.int tc,zZ tc rs,.bL [] [],.none,.int st] h Q:=by
 refine ji gc [.o (.inst 2 [] []),.v (.lst names),.v (.int tc),.v (zZ tc rs),.v (.bL [] []),.v .none,.v (.int st),.no,.no] rfl rfl ?_
 dsimp only[kk,gc,jt]
 refine cb rfl (cb rfl (cb rfl (cb rfl (cb rfl (cb rfl ?_)))))
 try dsimp only[kk,fC,dQ]
 refine gC (xs:=names) id (congrArg some (List.map_id _).symm) (BU (WH (WO hN) (WH hz (by decide)))) ?_
 rw[hN]
 refine fun h1 G1 z1 a1=>?_
 try dsimp only[kk,ae]
 refine cb rfl (cb rfl (cb rfl ?_))
 try dsimp only[kk,fC,dQ]
 rw[ND,z1]
 refine oF (xs:=rs) (eF tc) (fun ys _ ρ h'=>yV h h.size N ys h'/\∃y,ρ=Jl N tc st h.size names rs y) rfl ⟨⟨G1.push.push,fun s hs=>?_,?_,?_⟩,_,rfl⟩ ?_ ?_
 ·have l:=YT (Xy hs _) z1.symm
  exact(ay (WV l)).trans ((ay l).trans (a1 s hs))
 ·exact(ay (Zz (WO z1.symm))).trans (z1▸aL)
 ·exact z1▸aL
 ·rintro ys r zs _ h2 P e p ⟨F,y,rfl⟩
  have m:r∈rs/\ys.length+1<=rs.length:=e▸⟨Xa _ (.head _),(len_app (xs:=ys) (ys:=r::zs))▸Xf (XK _) _⟩
  have hx:=hrs r m.1
  have hl:=WH m.2 hr
  have ht:total ys<=1001*1000:=WH (uA (n:=1000) fun x n=>(hrs x (e▸Xh _ n)).2) (XW _ (Yk hl))
  have n1:h.size+N≠h.size+r.1:=Xz (Xy hx.1 _)
  have n3:h.size+N+1≠h.size+N:=XU _
  have e3:=(ah (o:=some (.list (aj (ko r.1 ys 0)++[.int ys.length]))) (Xz (WV (Xy hx.1 _)))).trans F.gw
  have e2:=(ah (o:=some (.list (aj (ko r.1 ys 0)++[.int ys.length]))) n1).trans F.go
  have e4:=(ah (o:=some (.list (aj (eE ys 0)++[.int (total ys:Nat)]))) n3).trans e3
  dsimp only[ga_,Jl]
  refine ag (bY (dR hx.1)) (cV rfl (F.gl _ hx.1) ?_)
  try dsimp only[ga_,ae]
  refine dC (F.gl _ hx.1) (WM (WH (WO az) (WH (rC _ _ _) (Yk hl))) (by decide)) ?_
  try dsimp only[ga_,ae]
  refine cV rfl e2 ?_
  try dsimp only[ga_,ae]
  refine ag (qz e3) ?_
  rw[rD (iS ys 0)]
  try dsimp only[ga_,ae]
  refine dC e2 (WM (WH (WO (rD (uK ys 0))) (Yk hl)) (by decide)) ?_
  try dsimp only[ga_,ae]
  refine cV rfl e4 ?_
  try dsimp only[ga_,ae]
  refine ag (v:=.int ((aj r.2).length:Nat)) rfl ?_
  rw[az]
  refine ag (DR (n:=1)) (ag (ra (WH (Xi hx.2) (by decide))) ?_)
  try dsimp only[kk,ae]
  refine Cp e4 ?_ ?_
  ·rw[rD (iS ys 0),ZC]
   exact WH (XM ht (Xi hx.2)) (by decide)
  try dsimp only[kk,ae]
  exact p _ _ ⟨F.step (WQ _) hx.1 JQ Fe HL,_,rfl⟩
 ·rintro _ h2 ⟨F,y,rfl⟩
  dsimp only[kk,Jl]
  refine ag (qz F.gw) ?_
  rw[rD (iS rs 0)]
  try dsimp only[kk,ae]
  exact cb rfl (q h2 F)
theorem vC{v:V}{r:V×H}(e:Mine.bP 8 v h=some r)(q:KX d K (r.1::sk) ρ r.2 QX):KX d (.bP::K) (v::sk) ρ h QX:=by
 show match Mine.bP 8 v h with|some r=>_|.none=>False
 rw[e];exact q
theorem vE{n tc:Nat}{rs:List Rl}:Ab (n+3) (zZ tc rs):=cK (Io fun v m=>by
 obtain⟨i,hi,rfl⟩:=abB.mp m
 exact lJ fun h=>rfl)
end
section
variable{d:Nat}{ρ:Env}{h h' h'':H}{Q:V->H->Prop}{K:List C}{sk:List V}{QX:Qs}
theorem pY{x y:List Nat}:lZ (.str x) (.str y)=decide (y=x):=by
 show(match some (decide (y=x)) with|some true=>true|_=>false)=_
 cases decide (y=x)<;>rfl
theorem rh{v:List Nat}:∀xs:List (List Nat),(xs.map V.str).all (fun u=>(eqB u (.str v)).isSome)=true
 |[]=>rfl
 |x::xs=>rh xs
theorem mD{x:List Nat}{xs:List (List Nat)}:oV (.str x) (xs.map V.str)=some (decide (x∈xs)):=by
 unfold oV
 rw[rh,acd]
 refine congrArg some ?_
 rw[Bool.eq_iff_iff,ZK,decide_eq_true_eq]
 exact⟨fun⟨y,m,e⟩=>of_decide_eq_true (pY.symm.trans e)▸m,fun m=>⟨x,m,pY.trans (decide_eq_true rfl)⟩⟩
noncomputable def Bg(xs:List (List Nat))(y:List Nat):Nat:=xs.findIdx fun z=>decide (z=y)
theorem Cs{xs:List (List Nat)}{y:List Nat}(m:y∈xs):uF (.lst (xs.map V.str)) 4 [.str y]=some (.int (Bg xs y:Nat)):=by
 show(match (xs.map V.str).all (fun u=>(eqB u (.str y)).isSome) with|true=>((xs.map V.str).findIdx? (lZ (.str y))).map fun(n:Nat)=>V.int n|false=>none)=_
 rw[rh,aa4,show lZ (.str y) ∘ V.str=fun z=>decide (z=y) from funext fun _=>pY,List.findIdx?_eq_some_of_exists ⟨y,m,decide_eq_true rfl⟩]
 rfl
theorem tq{xs:List (List Nat)}{y:List Nat}(m:y∈xs)(q:KX d K (.int (Bg xs y:Nat)::sk) ρ h QX):KX d (.aq 4 .none::K) (.tup [.str y]::.lst (xs.map V.str)::sk) ρ h QX:=ag (k:=fun v=>KX d K (v::sk) ρ h QX) (Cs m) q
theorem DQ{x:List Nat}{xs:List (List Nat)}:zH .cg (.str x) (.lst (xs.map V.str)) h=some (!decide (x∈xs)):=congrArg (XF (!·)) mD
theorem zx{x:List Nat}{xs:List (List Nat)}:Mine.bX (.str x) (.list (xs.map V.str))=some (decide (x∈xs)):=mD
noncomputable abbrev N0:List Nat:=[36,101,110,100]
noncomputable abbrev N1:List Nat:=[101,114,114,111,114]
noncomputable abbrev N2:List Nat:=[36,117,110,100,101,102,105,110,101,100]
noncomputable abbrev vk:List Nat:=[36,97,99,99,101,112,116]
noncomputable def bK:Bool->List (List Nat):=Bool.rec [N0,N1,N2,[97]] [N0,N1,N2,[97],[98]]
noncomputable def rx:Bool->Nat:=Bool.rec 4 5
noncomputable def cO(b:Bool):List (List Nat):=bK b++[vk]++qe
noncomputable def qd(b:Bool)(y:List Nat):Nat:=Bg (cO b) y
noncomputable def Bx(y:List Nat):Bool:=decide (y=[98])
noncomputable def hasB(ys:List Pair):Bool:=ys.any fun x=>x.2.any Bx
noncomputable def DP.b(D:DP):Bool:=hasB D.P
noncomputable def DP.tc(D:DP):Nat:=rx D.b
noncomputable def DP.names(D:DP):List (List Nat):=cO D.b
noncomputable def iX(b:Bool)(x:Pair):Rl:=(qd b x.1,x.2.map (qd b))
noncomputable def MN(b:Bool)(ys:List Pair):List Rl:=(rx b,[rx b+1,0])::ys.map (iX b)
noncomputable def DP.rs(D:DP):List Rl:=MN D.b D.P
noncomputable def au(names:List (List Nat))(tc:Nat)(rs:List Rl):V:=.obj 2 rr
 [.lst (names.map .str),.int tc,zZ tc rs,.bL [] [],.none,.int (tc+1:Nat),.lst ((Xq names.length).map fun s=>.lst (aj (ko s rs 0))),.lst (aj (eE rs 0)),.lst (aj (gp rs 0)),.int (total rs)]
noncomputable def DP.G(D:DP):Mine.V:=au D.names D.tc D.rs
theorem DP.row(D:DP):∀x∈D.P,x.1∈qe/\x.2.length<=4/\∀y∈x.2,y∈ta:=fun x m=>by
 rcases Xp.mp m with rfl|m
 ·exact⟨.head _,by decide,by decide⟩
 ·rcases Xp.mp m with rfl|m
  ·rcases D.h2 with e|e
   ·rw[e];decide
   ·rw[e];decide
  ·have r:=D.ok x m
   exact⟨r.l,r.hi,r.m⟩
noncomputable def jX(n:Nat):List (List Nat):=n.rec [] fun m _=>m.rec [[115]] fun _ _=>qe
theorem yS:∀n,(jX n).length<=2:=by rintro(_|_|_)<;>exact Yg rfl
theorem qR:∀b,(bK b).length=rx b:=by decide
theorem aX:∀b,(cO b).length=rx b+3:=by decide
theorem GR:∀b,[115]∈cO b/\qd b [115]=rx b+1:=by decide
theorem Pn:∀b,ph (rx b) [rx b+1,0]=0:=by decide
theorem jT:∀b,rx b<=5:=by decide
theorem DX:∀b,∀y∈ta,(if y∈qe then bK b else if y∈bK b then bK b else bK b++[y])=bK (b||Bx y):=by decide
theorem Iz:∀b,∀y∈ta,(Bx y=true->b=true)->y∈cO b/\qd b y<rx b+3/\qd b y≠rx b:=by decide
theorem Bz:∀y∈qe,y∈ta/\Bx y=false:=by decide
theorem DP.ix(D:DP){x:Pair}(m:x∈D.P){y:List Nat}(n:y∈x.2):y∈D.names/\qd D.b y<D.tc+3/\qd D.b y≠D.tc:=
 Iz _ y ((D.row x m).2.2 y n) fun e=>ZK.mpr ⟨x,m,ZK.mpr ⟨y,n,e⟩⟩
theorem DP.Ng(D:DP){x:Pair}(m:x∈D.P):x.1∈D.names/\qd D.b x.1<D.tc+3/\qd D.b x.1≠D.tc:=
 Iz _ _ (Bz _ (D.row x m).1).1 fun e=>nomatch (Bz _ (D.row x m).1).2.symm.trans e
theorem aN{α:Type}{xs:List α}{x:α}:(xs++[x]).length=xs.length+1:=Xd
theorem DS{N tc:Nat}{names:List (List Nat)}{rs:List Rl}(hN:names.length=N)(F:yV h h.size N rs h'):∃h'',Mine.bP 8 (.obj 2 rr [.lst (names.map .str),.int tc,zZ tc rs,.bL [] [],.none,.int (tc+1:Nat),.lst ((Xq N).map fun s=>.ref (h.size+s)),.ref (h.size+N),.ref (h.size+N+1),.int (total rs)]) h'=some (au names tc rs,h'')/\Ge h h'':=by
 obtain⟨h1,c⟩:=jM (n:=5) (us:=fun s=>aj (ko s rs 0)) (fun s=>eV) N 0 h' fun t _ l=>F.gl t (XG N▸l)
 rw[<-Zm,XG]at c
 have e3:=(ah (o:=none) (XU (h.size+N))).trans ((c.2.2 (h.size+N+1) (.inr (Yj _))).trans F.gw)
 refine⟨_,?_,(Ge.set (a:=h.size+N+1) (o:=none) (Ge.set (a:=h.size+N) (o:=none) (h:=h) (h':=h1) ⟨c.2.1.symm▸F.ge.sz,fun a ha=>(c.2.2 a (.inl ha)).trans (F.ge.kp a ha)⟩ (WZ _ _)) (XS (WZ _ _)))⟩
 have e4:=ak (cK (n:=6) (bH (f:=V.str) (xs:=names) fun _ _=>rfl) h') (ak (v:=.int tc) rfl (ak (vE (n:=4) (tc:=tc) (rs:=rs) _) (ak (v:=.bL [] []) rfl (ak (v:=.none) rfl (ak (v:=.int (tc+1:Nat)) rfl
  (ak (v:=.lst ((Xq N).map fun s=>.ref (h.size+s))) (congrArg (fun z=>gN (XF (fun r:List V×H=>(O.list r.1,r.2)) z)) c.1) (ak (hS ((c.2.2 (h.size+N) (.inr (WQ _))).trans F.go) (eV (n:=5))) (ak (hS e3 (eV (n:=5))) (ak (v:=.int (total rs)) (vs:=[]) rfl rfl)))))))))
 exact(congrArg (fun z=>gN (XF (fun r:List V×H=>(O.inst 2 rr r.1,r.2)) z)) e4).trans (by rw[au,hN];rfl)
theorem jN{D:DP}{ys zs:List Pair}{x:Pair}(e:D.P=ys++x::zs):x∈D.P/\ys.length<D.P.length:=⟨e▸Xa _ (.head _),e▸len_app (xs:=ys)▸Xx (XK _)⟩
theorem vA{D:DP}{ys zs:List Pair}{x:Pair}(e:D.P=ys++x::zs):(if x.1∈jX ys.length then jX ys.length else jX ys.length++[x.1])=jX (ys++[x]).length:=by
 rw[aN]
 have m:=(D.row x (jN e).1).1
 match ys,e with
 |[],e=>exact(List.cons.inj e).1▸rfl
 |[_],e=>exact(List.cons.inj (List.cons.inj e).2).1▸rfl
 |_::_::_,_=>exact if_pos m
theorem QC:∀y∈qe,¬ y=[101,114,114,111,114]/\¬ y.take 1=[]/\¬ y.take 1=[36]/\¬ y.take 1=[39]:=by decide
noncomputable def Pf(ys:List Pair):List (List Nat):=List.rec [N0,N1,N2] (fun _ _ _=>bK (hasB ys)) ys
theorem uP{α:Type}{p:α->Bool}{xs:List α}{y:α}:(xs++[y]).any p=(xs.any p||p y):=by rw[List.any_append,ZM,List.any_nil,Bool.or_false]
theorem Al{b:Bool}{y:List Nat}{ys:List (List Nat)}(m:y∈ta):(if y∈qe then bK (ys.any Bx||b) else if y∈bK (ys.any Bx||b) then bK (ys.any Bx||b) else bK (ys.any Bx||b)++[y])=bK ((ys++[y]).any Bx||b):=by
 rw[DX _ y m,uP,Bool.or_right_comm]
theorem xg{o:O}{v:V}{ng b:Bool}{k:V->Prop}(e:Mine.bX v o=some b)(q:k (.bool (xor ng b))):mo (.o o) ng v k:=by
 show match Mine.bX v o with|some b=>k (.bool (xor ng b))|.none=>False
 rw[e];exact q
theorem yv{y:List Nat}{xs:List (List Nat)}{i j:Nat}(e:gt ρ i=.o (.list (xs.map .str)))(ej:gt ρ j=.v (.str y))(l:xs.length<SZ)(q:KX d K sk (st ρ i (.o (.list ((if y∈xs then xs else xs++[y]).map .str)))) h QX)(es:st ρ i (gt ρ i)=ρ):
  KX d (.s (.ite (.bX true (.loc j) i) (.mO i 0 (.aa (.loc j) .af)) .skip)::K) sk ρ h QX:=by
 show lv (gt ρ j) fun v=>mo (gt ρ i) true v fun v=>KX d (.eU _ _::K) (v::sk) ρ h QX
 rw[ej,e,FA]
 refine xg (zx (x:=y)) ?_
 rw[Bool.true_xor]
 refine eM (fun n=>?_) fun n=>?_
 ·show GU (gt ρ i) 0 (lv (gt ρ j) fun v=>EU (gt ρ i) 0 [v] fun _ x=>KX d K sk (st ρ i x) h QX)
  rw[ej,e,FA,NO]
  refine aT (vs:=xs.map V.str) (by rw[WK];exact l) ?_
  rw[if_neg n,Xr]at q
  exact q
 ·rw[if_pos n, <-e,es]at q;exact q
noncomputable def vb(D:DP)(a b c d e f g i j:Sl):Env:=[.v D.V,.v .none,a,b,c,d,e,f,g,i,j,.no]
theorem Fs{y:List Nat}{x0 x1 x2:Sl}{r:Env}(m:y∈qe)(q:KX d K sk (x0::x1::x2::.v (.str y)::r) h QX):
  KX d (.s (.ite (.or (.cmp .eq (.loc 3) (.lit (.str [101,114,114,111,114]))) (.cmp .mem (.dY (.loc 3) (.lit (.int 1))) (.aa (.lit (.str [])) (.aa (.lit (.str [36])) (.aa (.lit (.str [39])) .af))))) S.stop S.skip)::K) sk (x0::x1::x2::.v (.str y)::r) h QX:=by
 rcases Xp.mp m with rfl|m
 ·exact q
 ·cases WW.mp m;exact q
theorem plain1{D:DP}(q:∀s:Sl×Sl,KX d K sk (vb D (.o (.list (qe.map .str))) s.1 s.2 .no .no .no .no .no .no) h QX):
  KX d (.loop (.two 3 4) (.seq (.ite (.or (.cmp .eq (.loc 3) (.lit (.str [101,114,114,111,114]))) (.cmp .mem (.dY (.loc 3) (.lit (.int 1))) (.aa (.lit (.str [])) (.aa (.lit (.str [36])) (.aa (.lit (.str [39])) .af))))) S.stop S.skip)
  (.ite (.bX true (.loc 3) 2) (.mO 2 0 (.aa (.loc 3) .af)) S.skip))::K) (D.V::sk) (vb D (.o (.list [])) .no .no .no .no .no .no .no .no) h QX:=by
 refine cF (xs:=D.P) (g:=gq) (fun ys (s:Sl×Sl)=>vb D (.o (.list ((jX ys.length).map .str))) s.1 s.2 .no .no .no .no .no .no) (.no,.no) rfl (fun ys x zs s P e p=>?_) q
 have p:=p (.v (.str x.1),.v (.lst (x.2.map .str)))
 rw[<-vA e]at p
 have m:=(D.row x (jN e).1).1
 exact Fs m (yv (d:=d) (QX:=⟨P,P,QX.r⟩) (K:=[]) (i:=2) (j:=3) (xs:=jX ys.length) rfl rfl (WM (yS _) (by decide)) p rfl)
theorem BY{y:List Nat}{xs us:List (List Nat)}{i j l:Nat}(e:gt ρ i=.o (.list (xs.map .str)))(ej:gt ρ j=.v (.str y))(el:gt ρ l=.v (.lst (us.map .str)))(z:xs.length<SZ)(q:KX d K sk (st ρ i (.o (.list ((if y∈us then xs else if y∈xs then xs else xs++[y]).map .str)))) h QX)(es:st ρ i (gt ρ i)=ρ):
  KX d (.s (.ite (.and (.cmp .cg (.loc j) (.loc l)) (.bX true (.loc j) i)) (.mO i 0 (.aa (.loc j) .af)) .skip)::K) sk ρ h QX:=by
 show lv (gt ρ j) fun v=>lv (gt ρ l) fun w=>KX d (.cmp .cg::.and _::.eU _ _::K) (w::v::sk) ρ h QX
 rw[ej,el,FA,FA]
 refine cN DQ ?_
 by_cases n:y∈us
 ·rw[if_pos n, <-e,es]at q
  rw[decide_eq_true n];exact q
 ·rw[if_neg n]at q
  rw[decide_eq_false n];exact yv e ej z q es
theorem BO(b:Bool):(bK b).length<SZ:=WM (WH (WO (qR b)) (jT b)) (by decide)
theorem plain2{D:DP}{x:Sl×Sl}(q:∀s:Sl×Sl×Sl,KX d K sk (vb D (.v (.lst (qe.map .str))) s.1 s.2.1 (.v (.str [115])) (.o (.list ((bK D.b).map .str))) s.2.2 .no .no .no) h QX):
  KX d (.loop (.two 3 4) (.loop (.one 7) (.loc 4) (.ite (.and (.cmp .cg (.loc 7) (.loc 2)) (.bX true (.loc 7) 6)) (.mO 6 0 (.aa (.loc 7) .af)) S.skip))::K) (D.V::sk) (vb D (.v (.lst (qe.map .str))) x.1 x.2 (.v (.str [115])) (.o (.list ([N0,N1,N2].map .str))) .no .no .no .no) h QX:=by
 refine cF (xs:=D.P) (g:=gq) (fun ys (s:Sl×Sl×Sl)=>vb D (.v (.lst (qe.map .str))) s.1 s.2.1 (.v (.str [115])) (.o (.list ((Pf ys).map .str))) s.2.2 .no .no .no) (x.1,x.2,.no) rfl (fun ys x zs s P e p=>?_) q
 have m:=jN e
 cases ys with
 |nil=>cases (List.cons.inj e).1;exact p (.v (.str [115]),.v (.lst [.str [97]]),.v (.str [97]))
 |cons y ys=>
  dsimp only[kk,gq,vb]
  refine cF (xs:=x.2) (g:=V.str) (fun us (u:Sl)=>vb D (.v (.lst (qe.map .str))) (.v (.str x.1)) (.v (.lst (x.2.map .str))) (.v (.str [115])) (.o (.list ((bK (us.any Bx||hasB (y::ys))).map .str))) u .no .no .no) s.2.2 rfl (fun us u ws t P e p=>?_) fun u=>?_
  ·have p:=p (.v (.str u))
   rw[<-Al ((D.row x m.1).2.2 u (e▸Xa _ (.head _)))]at p
   exact BY (d:=d) (QX:=⟨P,P,QX.r⟩) (K:=[]) (i:=6) (j:=7) (l:=2) rfl rfl rfl (BO _) p rfl
  ·have p:=p (.v (.str x.1),.v (.lst (x.2.map .str)),u)
   rw[show Pf (y::ys++[x])=bK (hasB (y::ys)||x.2.any Bx) from congrArg bK uP,Bool.or_comm]at p
   exact p
noncomputable def Ik(tc n:Nat)(x:Rl)(l:Int):V:=.obj 1 [12,13,14,15,16,17,18] [.int n,.int x.1,.tup (aj x.2),.int l,.none,.int 0,.int 0]
noncomputable def DP.rV(D:DP)(ys:List Pair):List Mine.V:=(MN D.b ys).mapIdx (eF D.tc)
theorem DP.OE(D:DP){ys:List Pair}:(D.rV ys).length=ys.length+1:=List.length_mapIdx.trans (congrArg (· +1) (WK _))
theorem DP.OK(D:DP){ys:List Pair}{x:Pair}:D.rV (ys++[x])=D.rV ys++[eF D.tc (ys.length+1) (iX D.b x)]:=by
 have e:=List.mapIdx_concat (f:=eF D.tc) (l:=MN D.b ys) (e:=iX D.b x)
 rw[show(MN D.b ys).length=ys.length+1 from congrArg (· +1) (WK _),show MN D.b ys++[iX D.b x]=MN D.b (ys++[x]) from congrArg (_::·) aS]at e
 exact e
theorem DP.Be(D:DP):D.P.length<=5:=Xw D.tY 2
theorem JD{D:DP}{s0:Sl×Sl×Sl}(q:∀s:Sl×Sl×Sl,KX (d+1) K sk (vb D (.v (.lst (qe.map .str))) s.1 s.2.1 (.v (.str [115])) (.v (.lst (D.names.map .str))) s0.2.2 (.v (.int D.tc)) (.o (.list (D.rV D.P))) s.2.2) h QX):
  KX (d+1) (.loop (.two 3 4) (.seq (.asg 10 (.bi .tuple (.aa (.aM (.aq (.loc 6) 4 (.aa (.loc 11) .af)) (.one 11) (.loc 4)) .af)))
  (.mO 9 0 (.aa (.new 1 (.aa (.cM 9) (.aa (.aq (.loc 6) 4 (.aa (.loc 3) .af)) (.aa (.loc 10) (.aa (.call 14 (.aa (.loc 10) (.aa (.loc 8) .af))) .af))))) .af)))::K) (D.V::sk)
   (vb D (.v (.lst (qe.map .str))) s0.1 s0.2.1 (.v (.str [115])) (.v (.lst (D.names.map .str))) s0.2.2 (.v (.int D.tc)) (.o (.list [Ik D.tc 0 (D.tc,[D.tc+1,0]) 0])) .no) h QX:=by
 suffices H:∀l,ph D.tc [D.tc+1,0]=l->KX (d+1) _ _ (vb D (.v (.lst (qe.map .str))) s0.1 s0.2.1 (.v (.str [115])) (.v (.lst (D.names.map .str))) s0.2.2 (.v (.int D.tc)) (.o (.list [Ik D.tc 0 (D.tc,[D.tc+1,0]) l])) .no) h QX from H 0 (Pn _)
 rintro _ rfl
 refine cF (xs:=D.P) (g:=gq) (fun ys (s:Sl×Sl×Sl)=>vb D (.v (.lst (qe.map .str))) s.1 s.2.1 (.v (.str [115])) (.v (.lst (D.names.map .str))) s0.2.2 (.v (.int D.tc)) (.o (.list (D.rV ys))) s.2.2) (s0.1,s0.2.1,.no) rfl (fun ys x zs s P e p=>?_) q
 have m:=jN e
 have p:=p (.v (.str x.1),.v (.lst (x.2.map .str)),.v (.tup (aj (x.2.map (qd D.b)))))
 rw[DP.OK]at p
 dsimp only[kk,gq,vb]
 refine bj V.str (fun y=>.int (qd D.b y:Nat)) rfl (WH (D.row x m.1).2.1 (by decide)) (fun y n P q=>?_) ?_
 ·try dsimp only[kk,ae]
  exact tq (D.ix m.1 n).1 q
 rw[show x.2.map (fun y=>V.int (qd D.b y:Nat))=aj (x.2.map (qd D.b)) from(Yd (f:=qd D.b) (g:=fun n:Nat=>V.int n)).symm]
 try dsimp only[kk,ae]
 rw[DP.OE]
 refine tq (D.Ng m.1).1 ?_
 try dsimp only[kk,ae]
 refine yL (fg rfl (qL ?_))
 try dsimp only[kk,ae]
 exact aT (WM (WH (WO D.OE) (WH m.2 D.Be)) (by decide)) p
theorem plain(D:DP)(q:∀h',Ge h h'->Q D.G h'):WC (d+2) 15 [D.V] h Q:=by
 refine aD fw [.v D.V,.v .none,.no,.no,.no,.no,.no,.no,.no,.no,.no,.no] rfl rfl ?_
 dsimp only[kk,fw,iG]
 refine plain1 fun s=>?_
 dsimp only[kk,vb]
 refine cN (b:=false) rfl ?_
 try dsimp only[kk,ae]
 refine ag (v:=.str [115]) rfl ?_
 try dsimp only[kk,ae]
 refine cN (b:=false) rfl ?_
 try dsimp only[kk,ae]
 refine ag rfl ?_
 try dsimp only[kk,ae]
 refine plain2 fun s=>?_
 dsimp only[kk,vb]
 rw[show(List.map V.str (bK D.b)).length=D.tc from(WK _).trans (qR _)]
 refine ag (lW (xs:=bK D.b) (ys:=[vk]) (by cases D.b<;>decide)) (ag (lW (xs:=bK D.b++[vk]) (ys:=qe) (WH (WO (aX D.b)) (WH (Xw (jT D.b) 3) (by decide)))) ?_)
 try dsimp only[kk,ae]
 refine tq (xs:=cO D.b) (GR _).1 ?_
 rw[show Bg (cO D.b) [115]=D.tc+1 from(GR D.b).2]
 refine fg rfl (qL ?_)
 try dsimp only[kk,ae]
 refine JD (s0:=s) fun s=>?_
 dsimp only[kk,vb]
 refine tq (GR _).1 ?_
 rw[show Bg D.names [115]=D.tc+1 from(GR D.b).2]
 try dsimp only[kk,ae]
 refine fg rfl (yQ (names:=D.names.map .str) (rs:=D.rs) (N:=D.tc+3) ((WK _).trans (aX _)) ?_ ?_ (fun r m=>?_) fun h1 F=>?_)
 ·exact WH (Xw (jT _) 3) (by decide)
 ·exact WH (Xi (WH (WO (WK _)) D.Be)) (by decide)
 ·rcases Xp.mp m with rfl|m
  ·exact⟨Xx (XK _),(Yg rfl:2<=1000)⟩
  ·obtain⟨x,n,rfl⟩:=XN.mp m
   exact⟨(D.Ng n).2.1,WH (WO (WK _)) (WH (D.row x n).2.1 (by decide))⟩
 ·obtain⟨h2,e,g⟩:=DS (aX D.b) F
  exact vC e (q h2 g)
end
section
section
variable{d:Nat}{ρ:Env}{h:H}{Q:V->H->Prop}{K:List C}{sk:List V}{QX:Qs}{b:E}{v:V}{vs:List V}
section
variable{names:List (List Nat)}{tc:Nat}{rs:List Rl}{i r:Nat}
theorem Uq:KX d (.attr 19::K) (au names tc rs::sk) ρ h QX=KX d K (.lst (names.map .str)::sk) ρ h QX:=rfl
theorem UJ:KX d (.attr 20::K) (au names tc rs::sk) ρ h QX=KX d K (.int tc::sk) ρ h QX:=rfl
theorem TG:KX d (.attr 21::K) (au names tc rs::sk) ρ h QX=KX d K (zZ tc rs::sk) ρ h QX:=rfl
theorem UB:KX d (.attr 25::K) (au names tc rs::sk) ρ h QX=KX d K (.lst ((Xq names.length).map fun s=>.lst (aj (ko s rs 0)))::sk) ρ h QX:=rfl
theorem To:KX d (.attr 26::K) (au names tc rs::sk) ρ h QX=KX d K (.lst (aj (eE rs 0))::sk) ρ h QX:=rfl
theorem SQ:KX d (.attr 27::K) (au names tc rs::sk) ρ h QX=KX d K (.lst (aj (gp rs 0))::sk) ρ h QX:=rfl
theorem UR:KX d (.attr 28::K) (au names tc rs::sk) ρ h QX=KX d K (.int (total rs)::sk) ρ h QX:=rfl
theorem TN:KX d (.iN 29 b::K) (au names tc rs::sk) ρ h QX=KX d (.e b::.aq 29 (some 5)::K) (au names tc rs::sk) ρ h QX:=rfl
theorem Uk:KX d (.iN 48 b::K) (au names tc rs::sk) ρ h QX=KX d (.e b::.aq 48 (some 6)::K) (au names tc rs::sk) ρ h QX:=rfl
theorem Vt:KX d (.iN 12 b::K) (au names tc rs::sk) ρ h QX=KX d (.e b::.aq 12 (some 7)::K) (au names tc rs::sk) ρ h QX:=rfl
theorem Uy:KX d (.iN 51 b::K) (au names tc rs::sk) ρ h QX=KX d (.e b::.aq 51 (some 8)::K) (au names tc rs::sk) ρ h QX:=rfl
theorem SO:KX d (.iN 56 b::K) (au names tc rs::sk) ρ h QX=KX d (.e b::.aq 56 (some 9)::K) (au names tc rs::sk) ρ h QX:=rfl
theorem Tp:KX d (.iN 65 b::K) (au names tc rs::sk) ρ h QX=KX d (.e b::.aq 65 (some 10)::K) (au names tc rs::sk) ρ h QX:=rfl
theorem UE:KX d (.iN 64 b::K) (au names tc rs::sk) ρ h QX=KX d (.e b::.aq 64 (some 11)::K) (au names tc rs::sk) ρ h QX:=rfl
theorem Vb:KX d (.iN 61 b::K) (au names tc rs::sk) ρ h QX=KX d (.e b::.aq 61 (some 12)::K) (au names tc rs::sk) ρ h QX:=rfl
theorem Wh{f g:Nat}:KX d (.aq f (some g)::K) (.tup vs::v::sk) ρ h QX=WC d g (v::vs) h fun v h=>KX d K (v::sk) ρ h QX:=rfl
open Lean.Parser.Tactic in
local macro_rules
 | `(tactic| dsimp only [gb_, $a:simpLemma,*]) => do let n <- ("ga_ Uq UJ TG UB To SQ UR TN Uk Vt Uy SO Tp UE Vb Wh".splitOn " ").toArray.mapM fun x => `(simpLemma| $(Lean.mkIdent x.toName):term); let n := n ++ a.getElems; `(tactic| dsimp only [$n,*])
theorem gg{xs:List Nat}{i x:Nat}(e:xs[i]? =some x):(aj xs)[i]? =some (.int (x:Nat)):=Xj.trans (congrArg (XF _) e)
theorem nM{xs:List Nat}{i x:Nat}(e:xs[i]? =some x):cL (.lst (aj xs)) (.int i) h=some (.int (x:Nat)):=bY (gg e)
theorem uc{x:Rl}(e:rs[r]? =some x):cL (zZ tc rs) (.int r) h=some (eF tc r x):=bY (aaJ.trans (congrArg (XF _) e))
theorem mz{xs:List Nat}:qT .len [.tup (aj xs)] h=some (.int xs.length):=congrArg (fun n:Nat=>some (V.int n)) az
theorem Ky{xs:List Nat}:qT .len [.lst (aj xs)] h=some (.int xs.length):=congrArg (fun n:Nat=>some (V.int n)) az
theorem xJ(q:Q (.int names.length) h):WC (d+1) 5 [au names tc rs] h Q:=by
 refine aD eo [.v (au names tc rs)] rfl rfl ?_
 exact ag (k:=fun v=>Q v h) (kW (h:=h) (f:=V.str) (xs:=names)) q
theorem vt{s:Int}(q:Q (.bool (decide (s<tc))) h):WC (d+1) 6 [au names tc rs,.int s] h Q:=
 aD eG [.v (au names tc rs),.v (.int s)] rfl rfl q
theorem qO{s:Nat}(hs:s<names.length)(hr:rs.length<=SZ)(q:Q (.lst (aj (ko s rs 0))) h):WC (d+1) 8 [au names tc rs,.int s] h Q:=by
 refine aD gh [.v (au names tc rs),.v (.int s)] rfl rfl ?_
 refine ag (bY (dR hs)) (ag (bu (WH (WO az) (WH (rC _ _ _) hr))) q)
theorem wO{o:Nat}{k:Int}(e:(eE rs 0)[r]? =some o)(q:Q (.int (o+k)) h):WC (d+1) 9 [au names tc rs,.int r,.int k] h Q:=
 aD iQ [.v (au names tc rs),.v (.int r),.v (.int k)] rfl rfl (ag (nM e) q)
theorem ui(e:(gp rs 0)[i]? =some r)(q:Q (.int r) h):WC (d+1) 10 [au names tc rs,.int i] h Q:=
 aD gG [.v (au names tc rs),.v (.int i)] rfl rfl (ag (nM e) q)
theorem Bw{k o i:Nat}(e:i=o+k):(i:Int)-o=k:=by rw[e,ZQ,Int.add_comm,YS]
theorem yb{k:Nat}{x:Rl}(a:aK rs i r k x)(q:Q (.int k) h):WC (d+1) 11 [au names tc rs,.int i] h Q:=by
 obtain⟨o,e,hi⟩:=a.off
 refine aD gR [.v (au names tc rs),.v (.int i)] rfl rfl ?_
 refine ag (nM a.own) (ag (nM e) ?_)
 rw[<-Bw hi]at q
 exact q
theorem Gu{k:Nat}{x:Rl}(a:aK rs i r k x)(q:Q (.int (zQ x.2[k]?)) h):WC (d+1) 12 [au names tc rs,.int i] h Q:=by
 obtain⟨o,e,hi⟩:=a.off
 refine aD fc [.v (au names tc rs),.v (.int i),.no,.no] rfl rfl ?_
 dsimp only[gb_,fc,iz]
 refine ag (nM a.own) (ag (uc a.rule) ?_)
 try dsimp only[gb_,ae]
 refine ag (nM a.own) (ag (nM e) ?_)
 try dsimp only[gb_,ae]
 rw[Bw hi]
 refine ag mz ?_
 try dsimp only[gb_,ae]
 refine NL (fun l=>?_) fun l=>?_
 ·try dsimp only[gb_,ae]
  refine ag (tC (gg (WR (XJ.mp l)))) ?_
  rw[WR (XJ.mp l)]at q
  exact q
 ·rw[XD (YB fun z=>l (XJ.mpr z))]at q
  exact q
theorem pX(hi:i<total rs)(q:Q (.int (wy rs i)) h):WC (d+1) 12 [au names tc rs,.int i] h Q:=by
 obtain⟨r,k,x,it⟩:=aK.ex hi
 unfold wy at q
 rw[it.yY]at q
 exact Gu it q
theorem jL(hi:i<total rs)(q:Q (.int (fU rs i)) h):WC (d+1) 10 [au names tc rs,.int i] h Q:=by
 obtain⟨r,k,x,it⟩:=aK.ex hi
 rw[it.uW]at q
 exact ui it.own q
theorem tO(hi:i<total rs)(q:Q (.int (yI rs i)) h):WC (d+1) 11 [au names tc rs,.int i] h Q:=by
 obtain⟨r,k,x,it⟩:=aK.ex hi
 rw[it.Js]at q
 exact yb it q
theorem Np{s:Nat}(hi:i<total rs)(hs:dD rs i=some s)(q:Q (.int (i+1:Nat)) h):WC (d+2) 40 [au names tc rs,.int i] h Q:=by
 obtain⟨r,k,x,it⟩:=aK.ex hi
 obtain⟨o,e,hi'⟩:=it.off
 refine aD kD [.v (au names tc rs),.v (.int i)] rfl rfl ?_
 dsimp only[gb_,kD,pP]
 refine ui it.own ?_
 try dsimp only[gb_,ae]
 refine yb it ?_
 try dsimp only[gb_,ae]
 refine wO e ?_
 rw[show(o:Int)+((k:Int)+1)=(i+1:Nat) by rw[hi', <-aaU];rfl]
 exact q
end
end
end
open Lean.Parser.Tactic in
local macro_rules
 | `(tactic| dsimp only [gb_, $a:simpLemma,*]) => do let n <- ("ga_ Uq UJ TG UB To SQ UR TN Uk Vt Uy SO Tp UE Vb Wh".splitOn " ").toArray.mapM fun x => `(simpLemma| $(Lean.mkIdent x.toName):term); let n := n ++ a.getElems; `(tactic| dsimp only [$n,*])
section
variable{d:Nat}{ρ:Env}{h h':H}{Q:V->H->Prop}{K:List C}{sk:List V}{QX:Qs}{b:E}{v:V}{n m i j:Nat}{F f g:Nat->Nat}
theorem Et{c:E}{b:S}(E:Nat->Env)(N:Nat)(step:∀k (P:Env->H->Prop),k<=N->(k<N->P (E (k+1)) h)->KX d [.e c,.eU (.seq b .cont) .skip] [] (E k) h ⟨fun ρ h=>KX d K sk ρ h QX,P,QX.r⟩):KX d (.s (.dd c b)::K) sk (E 0) h QX:=
 lh (fun a ρ h'=>∃k,a=N-k/\k<=N/\ρ=E k/\h'=h) N ⟨0,rfl,XI _,rfl,rfl⟩ fun a ρ h' ⟨k,c⟩=>by
  cases c.1;cases c.2.2.1;cases c.2.2.2
  exact step k _ c.2.1 fun l=>⟨N-(k+1),ZN _ _ l,k+1,rfl,l,rfl,rfl⟩
theorem bS{o:O}{w:V}{k:V->Prop}(e:aH o v=some w)(q:k w):so (.o o) v k:=ag e q
theorem cU{o o':O}{w:V}{k:Sl->Prop}(e:fN o w v=some o')(q:k (.o o')):Tb (.o o) w v k:=by
 show match fN o w v with|some o=>k (.o o)|.none=>False
 rw[e];exact q
theorem kB{ys zs:List Nat}{x:Nat}(e:Xq n=ys++x::zs):x=ys.length/\x<n:=by
 have l:ys.length<n:=vh e rfl
 have a:(Xq n)[ys.length]? =some x:=by rw[e];exact Ye (WQ _)|>.trans (by rw[ZA];rfl)
 rw[Zt l]at a
 cases a;exact⟨rfl,l⟩
noncomputable def bA(n:Nat)(f:Nat->Nat):List V:=(Xq n).map fun i=>V.int (f i:Nat)
theorem gr:(bA n f).length=n:=(WK _).trans Xb
theorem jK(hi:i<n):(bA n f)[i]? =some (.int (f i:Nat)):=dR hi
theorem DF(e:∀i,i<n->f i=g i):bA n f=bA n g:=Zb fun i hi=>by rw[e i (Yz.mp hi)]
theorem map_set{φ ψ:Nat->V}(hj:j<n)(e:v=ψ j)(e2:∀i,i≠j->φ i=ψ i):((Xq n).map φ).set j v=(Xq n).map ψ:=by
 refine YX fun i=>?_
 have len:∀φ:Nat->V,((Xq n).map φ).length=n:=fun φ=>(WK _).trans Xb
 by_cases l:i<n
 ·by_cases q:j=i
  ·rw[<-q,YM (by rw[len];exact hj),dR hj,e]
  ·rw[YG q,dR l,dR l,e2 i (Ne.symm q)]
 ·rw[XD (by rw[Zi,len];exact YB l),XD (by rw[len];exact YB l)]
theorem tA{φ ψ:Nat->V}(hj:j<n)(e:v=ψ j)(e2:∀i,i≠j->φ i=ψ i):fN (.list ((Xq n).map φ)) (.int j) v=some (.list ((Xq n).map ψ)):=by
 show(match decide ((0:Int)<=j)&&decide ((j:Int)<(((Xq n).map φ).length:Nat)) with|true=>some _|false=>none)=_
 rw[WK,Xb,decide_eq_true (WU j),decide_eq_true (XJ.mpr hj)]
 exact congrArg (fun z=>some (O.list z)) (map_set hj e e2)
theorem CT{a:Nat}:decide (((a>>>m&&&1:Nat):Int)=1)=a.testBit m:=by
 rw[Nat.testBit,Nat.and_comm 1,Nat.and_one_is_mod]
 rcases aab (a>>>m) with q|q<;>rw[q]<;>rfl
theorem vS{c:Bool}{s1 s2:S}(a:c=true->KX d (.s s1::K) sk ρ h QX)(b:c=false->KX d (.s s2::K) sk ρ h QX):KX d (.eU s1 s2::K) (.bool c::sk) ρ h QX:=by cases c;exact b rfl;exact a rfl
noncomputable def tr(m:Nat)(F:Nat->Nat)(i:Nat):Nat:=if(F i).testBit m then F i|||F m else F i
noncomputable def Jb:Nat->(Nat->Nat)->Nat->Nat:=Nat.rec id fun m r f=>tr m (r f)
theorem xA:tr m F m=F m:=by unfold tr;rw[Nat.or_self,ite_self]
theorem bV(hi:i<n):aH (.list (bA n f)) (.int i)=some (.int (f i)):=jK hi
theorem kX{v:Nat}(hj:j<n)(e:v=g j)(e2:∀i,i≠j->f i=g i):fN (.list (bA n f)) (.int j) (.int v)=some (.list (bA n g)):=tA hj (congrArg (fun n:Nat=>V.int n) e) fun i n=>congrArg (fun n:Nat=>V.int n) (e2 i n)
noncomputable def zU(m:Nat)(F:Nat->Nat)(j i:Nat):Nat:=if i<j then tr m F i else F i
theorem Oi{j:Nat}:zU m F j m=F m:=by unfold zU;rw[xA,ite_self]
theorem IH{c:Nat}(e:c=tr m F j):c=zU m F (j+1) j:=by unfold zU;rw[if_pos (Xk j)];exact e
theorem IW(i:Nat)(n:i≠j):zU m F j i=zU m F (j+1) i:=by
 unfold zU
 by_cases l:i<j
 ·rw[if_pos l,if_pos (WV l)]
 ·rw[if_neg l,if_neg fun z=>n (Zw (XY z) (YB l))]
theorem wi(hn:n<=1000)(q:Q (.lst (bA n (Jb n f))) h):WC (d+1) 18 [.lst (bA n f)] h Q:=by
 have hz:n<=SZ:=WH hn (by decide)
 have lz:(bA n f).length<=SZ:=WH (WO gr) hz
 have rg:∀h,qT .range [.int n] h=some (.kE 0 (n:Nat)):=fun h=>fq (cX (WU n) (Yb (XX.mpr hn) (by decide)))
 refine aD ia [.v (.lst (bA n f)),.no,.no,.no] rfl rfl ?_
 dsimp only[gb_,ia,kS]
 refine ag (bu lz) ?_
 try dsimp only[gb_,ae]
 rw[gr]
 refine ag (rg _) ?_
 refine cF (fun ys (s:Sl×Sl)=>[.v (.lst (bA n f)),.o (.list (bA n (Jb ys.length f))),s.1,s.2]) (.no,.no) cZ (fun ys m zs s P e p=>?_) fun s=>?_
 ·obtain⟨rfl,hm⟩:=kB e
  have p:=fun s=>p (.v (.int ys.length),s)
  rw[aN]at p
  generalize ys.length=m at p hm ⊢
  rw[show Jb (m+1) f=tr m (Jb m f) from rfl]at p
  generalize Jb m f=F at p ⊢
  try dsimp only[gb_,ae]
  rw[gr]
  refine ag (rg _) ?_
  refine cF (fun us (u:Sl)=>[.v (.lst (bA n f)),.o (.list (bA n (zU m F us.length))),.v (.int m),u]) s.2 cZ (fun us j ws u P e p=>?_) fun u=>?_
  ·obtain⟨rfl,hj⟩:=kB e
   have p:=p (.v (.int us.length))
   rw[aN]at p
   generalize us.length=j at p hj ⊢
   have ej:zU m F j j=F j:=if_neg (Yq j)
   try dsimp only[gb_,ae]
   refine bS (bV hj) ?_
   rw[ej]
   refine ag (Co (WH (Xl hm) hn)) (ag Df ?_)
   try dsimp only[gb_,ae]
   rw[CT]
   refine vS (fun q=>?_) fun q=>?_
   ·try dsimp only[gb_,ae]
    refine bS (bV hj) ?_
    rw[ej]
    refine bS (bV hm) ?_
    rw[Oi]
    refine ag wF ?_
    try dsimp only[gb_,ae]
    exact cU (kX hj (IH (if_pos q).symm) IW) p
   ·rw[<-DF (f:=zU m F j) (g:=zU m F (j+1)) fun i _=>if c:i=j then by rw[c,ej, <-IH];exact(if_neg (by rw[q];exact Bool.false_ne_true)).symm else IW i c]at p
    exact p
  ·rw[Xb,DF (f:=zU m F n) (g:=tr m F) fun i l=>if_pos l]
   exact p u
 ·rw[Xb]
  exact q
theorem ki{t:Nat}:(tr m F i).testBit t=true↔(F i).testBit t=true\/(F i).testBit m=true/\(F m).testBit t=true:=by
 unfold tr
 cases e:(F i).testBit m with
 |true=>rw[if_pos rfl,Ze,Bool.or_eq_true];exact⟨fun q=>q.imp id fun q=>⟨rfl,q⟩,fun q=>q.imp id And.right⟩
 |false=>exact⟨.inl,fun q=>q.elim id fun q=>nomatch q.1⟩
noncomputable def Pr(n m:Nat)(F:Nat->Nat):Prop:=∀k,k<m->k<n->∀i,(F i).testBit k=true->∀t,(F k).testBit t=true->(F i).testBit t=true
theorem Kk(C:Pr n m F):Pr n (m+1) (tr m F):=fun k hk kn i e t q=>by
 rcases YC.mp hk with hk|rfl
 ·refine ki.mpr ?_
  rcases ki.mp q with q|⟨q1,q2⟩
  ·exact(ki.mp e).imp (fun e=>C k hk kn i e t q) fun e=>⟨e.1,C k hk kn m e.2 t q⟩
  ·refine .inr ⟨?_,q2⟩
   rcases ki.mp e with e|e
   ·exact C k hk kn i e m q1
   ·exact e.1
 ·rw[xA]at q
  exact ki.mpr (.inr ⟨(ki.mp e).elim id And.left,q⟩)
theorem HE:∀m,Pr n m (Jb m f):=fun m=>by
 induction m with
 |zero=>exact fun k hk=>absurd hk (ZR k)
 |succ m ih=>exact Kk ih
theorem JR{t:Nat}(q:(f i).testBit t=true):∀m,((Jb m f) i).testBit t=true:=fun m=>by
 induction m with
 |zero=>exact q
 |succ m ih=>exact ki.mpr (.inl ih)
theorem KH{M:Nat}(q:∀i,f i<2 ^ M):∀m i,Jb m f i<2 ^ M:=fun m=>by
 induction m with
 |zero=>exact q
 |succ m ih=>
  intro i
  show(if _ then _ else _)<_
  split
  ·exact Zl (ih i) (ih m)
  ·exact ih i
theorem KS{c:Bool}{s1 s2:S}{ρ':Env}{h':H}(f:KX d K sk ρ' h' QX)(a:c=true->KX d K sk ρ' h' QX->KX d (.s s1::K) sk ρ h QX)(b:c=false->KX d K sk ρ' h' QX->KX d (.s s2::K) sk ρ h QX):KX d (.eU s1 s2::K) (.bool c::sk) ρ h QX:=vS (fun e=>a e f) fun e=>b e f
noncomputable def Gq(m k j:Nat)(L:List Nat):Env:=[.v (.int m),.o (.list (aj L)),.v (.int k),.v (.int (m>>>j:Nat))]
theorem mJ{k:Nat}:aO (k+1) m=if m.testBit k then aO k m++[k] else aO k m:=by rw[oz];split;rfl;exact Xo _
theorem bits(hm:m<2 ^ n)(hn:n<=1000)(q:Q (.lst (aj (aO n m))) h):WC (d+1) 2 [.int m] h Q:=by
 refine aD vZ [.v (.int m),.no,.no,.no] rfl rfl ?_
 dsimp only[gb_,vZ,Ar]
 refine Et (fun k=>Gq m k k (aO k m)) n fun k P l p=>?_
 dsimp only[gb_,Gq]
 refine dm (fun z=>?_) fun z=>?_
 ·have lk:k<n:=Nat.lt_of_not_le fun c=>by
   rw[Zw l c,Nat.shiftRight_eq_zero m n hm]at z
   exact absurd z (by decide)
  have p:=p lk
  rw[mJ]at p
  try dsimp only[gb_,ae]
  refine ag (Df (n:=1)) ?_
  try dsimp only[gb_,ae]
  rw[CT]
  refine KS (h':=h) (ρ':=Gq m k k (if m.testBit k then aO k m++[k] else aO k m)) ?_ (fun q f=>?_) fun q f=>?_
  ·dsimp only[gb_,Gq]
   refine ag (Co (n:=1) (by decide)) ?_
   try dsimp only[gb_,ae]
   exact p
  ·rw[if_pos q]at f
   try dsimp only[gb_,ae]
   refine aT (WM (WH (WO az) (WH jJ (WH l hn))) (by decide)) ?_
   rw[show aj (aO k m)++[V.int k]=aj (aO k m++[k]) from bf (ys:=[k])]
   exact f
  ·rw[if_neg (by rw[q];exact Bool.false_ne_true)]at f
   exact f
 ·rw[vP (Nat.eq_zero_of_not_pos fun c=>z (XJ.mpr c)) n l]at q
  try dsimp only[gb_,ae]
  exact q
end
section
variable{d:Nat}{h:H}{Q:V->H->Prop}{v:V}{n m i s r:Nat}{F g:Nat->Nat}{names:List (List Nat)}{tc:Nat}{rs:List Rl}{x:Rl}
structure gP(names:List (List Nat))(tc:Nat)(rs:List Rl):Prop where
 t5:tc<=5
 nm:names.length=tc+3
 tY:rs.length<=6
 Bh:total rs<=22
 lo:∀r∈rs,tc<=r.1/\r.1<tc+3/\∀t∈r.2,t<tc+3/\t≠tc
 r0:rs[0]? =some (tc,[tc+1,0])
 one:∀i x,rs[i]? =some x->i≠0->x.1≠tc
theorem gP.n8(o:gP names tc rs):tc+3<=8:=Xw o.t5 3
noncomputable def dW(names:List (List Nat))(tc:Nat)(rs:List Rl)(F:Nat->Nat):V:=.obj 6 [32,60] [au names tc rs,.lst (bA (tc+3) F)]
noncomputable def ql(F:Nat->Nat)(r:Rl)(i:Nat):Nat:=r.2.head?.elim (F i) fun t=>if i=r.1 then F i|||2 ^ t else F i
noncomputable def Gx(rs:List Rl):Nat->Nat:=rs.foldl ql fun _=>0
theorem yX:Gx (rs++[x])=ql (Gx rs) x:=aai
theorem EJ{t:Nat}(e:x.2.head? =some t):∀rs:List Rl,x∈rs->∀F:Nat->Nat,((rs.foldl ql F) x.1).testBit t=true:=by
 have ge:∀(rs:List Rl)(F:Nat->Nat),(F x.1).testBit t=true->((rs.foldl ql F) x.1).testBit t=true:=fun rs=>by
  induction rs with
  |nil=>exact fun F q=>q
  |cons y rs ih=>
   refine fun F q=>ih _ ?_
   unfold ql
   cases y.2.head? with
   |none=>exact q
   |some u=>
    show(if _ then _ else _:Nat).testBit t=true
    split
    ·rw[Ze,q];rfl
    ·exact q
 intro rs
 induction rs with
 |nil=>exact fun m=>nomatch m
 |cons y rs ih=>
  refine fun m F=>(Xp.mp m).elim (fun q=>ge rs (ql F y) ?_) fun m=>ih m _
  cases q
  unfold ql
  rw[e]
  show(if _ then _ else _:Nat).testBit t=true
  rw[if_pos rfl,Ze,Nat.testBit_two_pow_self,Bool.or_true]
theorem GV{N:Nat}:∀rs:List Rl,(∀x∈rs,∀t∈x.2,t<N)->∀F:Nat->Nat,(∀i,F i<2 ^ N)->∀i,(rs.foldl ql F) i<2 ^ N:=fun rs=>by
 induction rs with
 |nil=>exact fun _ F q=>q
 |cons y rs ih=>
  refine fun a F q=>ih (fun x m=>a x (.tail _ m)) _ fun i=>?_
  unfold ql
  cases e:y.2.head? with
  |none=>exact q i
  |some t=>
   show(if _ then _ else _)<_
   split
   ·exact Zl (q i) (ZO (by decide) (a y (.head _) t (List.mem_of_head? e)))
   ·exact q i
theorem xr{n:Nat}:XA n (V.int 0)=bA n fun _=>0:=by unfold bA;rw[aaA,Xb];rfl
structure cP(N:Nat)(rs:List Rl)(F:Nat->Nat):Prop where
 hd:∀r∈rs,∀t,r.2.head? =some t->(F r.1).testBit t=true
 tr:Pr N N F
 lt:∀i,F i<2 ^ N
theorem ue{Q:O->H->Prop}(ok:gP names tc rs)(q:∀F,cP (tc+3) rs F->Q (.inst 6 [32,60] [au names tc rs,.lst (bA (tc+3) F)]) h):WI (d+2) 36 6 [au names tc rs] h Q:=by
 have n8:=ok.n8
 refine ji gM [.o (.inst 6 [] []),.v (au names tc rs),.no,.no] rfl rfl ?_
 dsimp only[gb_,gM,jS]
 refine cb rfl ?_
 try dsimp only[kk,fC,dQ]
 refine xJ ?_
 rw[ok.nm]
 refine ag (ra (WH n8 (by decide))) ?_
 rw[xr]
 try dsimp only[gb_,ae]
 refine HA (eF tc) (fun ys (s:Sl)=>[.o (.inst 6 [32] [au names tc rs]),.v (au names tc rs),.o (.list (bA (tc+3) (Gx ys))),s]) .no rfl (fun ys x zs s P e p=>?_) fun s=>?_
 ·have m:=ok.lo x (e▸Xa _ (.head _))
  have p:=p (.v (eF tc ys.length x))
  rw[yX]at p
  obtain⟨l,w⟩:=x
  cases w with
  |nil=>exact p
  |cons t u=>
   have ht:=(m.2.2 t (.head _)).1
   try dsimp only[gb_,ae]
   refine ag mz ?_
   try dsimp only[gb_,ae]
   refine dm (fun z=>?_) fun z=>absurd (XJ.mpr (XK u.length)) z
   try dsimp only[gb_,ae]
   refine bS (bV m.2.1) (ag (tC (n:=0) rfl) (ag (yi (WH (Xl ht) (WH n8 (by decide)))) (ag wF ?_)))
   try dsimp only[gb_,ae]
   exact cU (kX (g:=ql (Gx ys) (l,t::u)) m.2.1 (if_pos rfl).symm fun i n=>(if_neg n).symm) p
 ·try dsimp only[gb_,ae]
  refine wi (WH n8 (by decide)) ?_
  try dsimp only[gb_,ae]
  exact cb rfl (q _ ⟨fun r m t e=>JR (EJ e rs m _) _,HE _,KH (GV rs (fun r m t e=>((ok.lo r m).2.2 t e).1) _ fun _=>aaB _) _⟩)
end
section
variable{d:Nat}{ρ:Env}{h:H}{Q:V->H->Prop}{K:List C}{sk:List V}{QX:Qs}{b:E}{v:V}{n m i j s r t:Nat}{F:Nat->Nat}{names:List (List Nat)}{tc:Nat}{rs:List Rl}{x:Rl}{ks:List Nat}
theorem UL:KX d (.attr 32::K) (dW names tc rs F::sk) ρ h QX=KX d K (au names tc rs::sk) ρ h QX:=rfl
theorem Ua:KX d (.attr 60::K) (dW names tc rs F::sk) ρ h QX=KX d K (.lst (bA (tc+3) F)::sk) ρ h QX:=rfl
theorem TZ:KX d (.iN 62 b::K) (dW names tc rs F::sk) ρ h QX=KX d (.e b::.aq 62 (some 37)::K) (dW names tc rs F::sk) ρ h QX:=rfl
theorem TX:KX d (.iN 63 b::K) (dW names tc rs F::sk) ρ h QX=KX d (.e b::.aq 63 (some 38)::K) (dW names tc rs F::sk) ρ h QX:=rfl
theorem Ut:KX d (.iN 68 b::K) (dW names tc rs F::sk) ρ h QX=KX d (.e b::.aq 68 (some 39)::K) (dW names tc rs F::sk) ρ h QX:=rfl
end
open Lean.Parser.Tactic in
local macro_rules
 | `(tactic| dsimp only [gc_, $a:simpLemma,*]) => do let n <- ("gb_ UL Ua TZ TX Ut".splitOn " ").toArray.mapM fun x => `(simpLemma| $(Lean.mkIdent x.toName):term); let n := n ++ a.getElems; `(tactic| dsimp only [$n,*])
section
variable{d:Nat}{ρ:Env}{h:H}{Q:V->H->Prop}{K:List C}{sk:List V}{QX:Qs}{b:E}{v:V}{n m i j s r t:Nat}{F:Nat->Nat}{names:List (List Nat)}{tc:Nat}{rs:List Rl}{x:Rl}{ks:List Nat}
theorem mq(ok:gP names tc rs)(e:dD rs i=some s):s<tc+3:=by
 obtain⟨x,e1,e2⟩:=XB.mp e
 exact((ok.lo x (Xc e1)).2.2 s (Xc e2)).1
noncomputable def uV(rs:List Rl)(F:Nat->Nat)(m i:Nat):Nat:=(dD rs i).elim m fun s=>m|||2 ^ s|||F s
noncomputable def QT(rs:List Rl)(m:Nat):Prop:=∀r∈rs,m.testBit r.1=true->∀t,r.2.head? =some t->m.testBit t=true
theorem rI:(uV rs F m i).testBit t=true↔m.testBit t=true\/∃s,dD rs i=some s/\(t=s\/(F s).testBit t=true):=by
 unfold uV
 cases dD rs i with
 |none=>exact⟨.inl,fun q=>q.elim id fun q=>nomatch q.choose_spec.1⟩
 |some s=>
  show(m|||2 ^ s|||F s).testBit t=true↔_
  rw[Ze,Ze,Bool.or_eq_true,Bool.or_eq_true,aaS,decide_eq_true_eq,or_assoc]
  exact⟨fun q=>q.imp id fun q=>⟨s,rfl,q.imp Eq.symm id⟩,fun q=>q.imp id fun⟨u,e,q⟩=>by cases e;exact q.imp Eq.symm id⟩
theorem Ms(ok:gP names tc rs)(fo:cP (tc+3) rs F)(c:QT rs m):QT rs (uV rs F m i):=fun r hr e t ht=>by
 have l:=(ok.lo r hr).2.1
 have hd:=fo.hd r hr t ht
 refine rI.mpr ?_
 rcases rI.mp e with e|⟨s,e,q|q⟩
 ·exact .inl (c r hr e t ht)
 ·exact .inr ⟨s,e,.inr (q▸hd)⟩
 ·exact .inr ⟨s,e,.inr (fo.tr r.1 l l s q t hd)⟩
theorem Kr(ok:gP names tc rs)(fo:cP (tc+3) rs F)(c:m<2 ^ (tc+3)):uV rs F m i<2 ^ (tc+3):=by
 unfold uV
 cases e:dD rs i with
 |none=>exact c
 |some s=>exact Zl (Zl c (ZO (by decide) (mq ok e))) (fo.lt s)
structure ke(N:Nat)(rs:List Rl)(ks:List Nat)(m:Nat):Prop where
 dir:∀i∈ks,∀s,dD rs i=some s->m.testBit s=true
 NP:QT rs m
 lt:m<2 ^ N
theorem Qj:ke n rs [] 0:=⟨(fun _ m=>nomatch m),(fun r _ e=>by rw[aaq]at e;exact nomatch e),aaB _⟩
theorem Dz(ok:gP names tc rs)(fo:cP (tc+3) rs F)(w:ke (tc+3) rs ks m):ke (tc+3) rs (ks++[i]) (uV rs F m i) where
 dir:=fun j hj s e=>rI.mpr ((Xv.mp hj).imp (fun q=>w.dir j q s e) fun q=>⟨s,(by cases WW.mp q;exact e),.inl rfl⟩)
 NP:=Ms ok fo w.NP
 lt:=Kr ok fo w.lt
theorem wanted(ok:gP names tc rs)(fo:cP (tc+3) rs F)(hk:∀i∈ks,i<total rs)(q:∀m:Nat,ke (tc+3) rs ks m->Q (.int m) h):WC (d+2) 37 [dW names tc rs F,.tup (aj ks)] h Q:=by
 refine aD ft [.v (dW names tc rs F),.v (.tup (aj ks)),.no,.no,.no] rfl rfl ?_
 dsimp only[gc_,ft,iB]
 refine cC (xs:=ks) (fun s:Nat×Sl×Sl=>[.v (dW names tc rs F),.v (.tup (aj ks)),.v (.int s.1),s.2.1,s.2.2]) (fun _=>h) (fun ys _ s=>ke (tc+3) rs ys s.1) (0,.no,.no) rfl Qj (fun ys i zs s P e p w=>?_) fun s w=>q _ w
 try dsimp only[gc_,ae]
 refine pX (hk i (e▸Xa _ (.head _))) ?_
 have p:=p (uV rs F s.1 i,.v (.int i),.v (.int (wy rs i))) (Dz ok fo w)
 unfold wy uV at p
 unfold wy
 cases e2:dD rs i with
 |none=>rw[e2]at p;exact p
 |some t=>
  have l:=mq ok e2
  rw[e2]at p
  revert p
  dsimp only[gc_,zQ,aaK]
  intro p
  refine dm (fun _=>?_) fun z=>absurd (WU t) z
  try dsimp only[gc_,ae]
  refine ag (yi (WH (Xl l) (WH ok.n8 (by decide)))) (ag wF (ag (bY (jK l)) (ag wF ?_)))
  exact p
end
section
variable{d:Nat}{h:H}{Q:V->H->Prop}{b:E}{v:V}{n m i j s r:Nat}{F:Nat->Nat}{names:List (List Nat)}{tc:Nat}{rs:List Rl}{x:Rl}{ks aJ xs ys:List Nat}
theorem tx{x y:Nat}:lZ (.int x) (.int y)=decide (y=x):=by
 show(match some (decide ((y:Int)=x)) with|some true=>true|_=>false)=_
 by_cases q:y=x
 ·rw[decide_eq_true q,decide_eq_true (congrArg (fun n:Nat=>(n:Int)) q)]
 ·rw[decide_eq_false q,decide_eq_false (p:=(y:Int)=x) fun e=>q (Zd.inj e)]
theorem EY{v:Int}:(aj xs).all (fun u=>(eqB u (.int v)).isSome)=true:=by
 induction xs with
 |nil=>rfl
 |cons x xs ih=>exact ih
theorem uT{x:Nat}:oV (.int x) (aj xs)=some (decide (x∈xs)):=by
 unfold oV
 rw[EY]
 refine congrArg some ?_
 rw[aj,acd,Bool.eq_iff_iff,ZK,decide_eq_true_eq]
 exact⟨fun⟨y,m,e⟩=>of_decide_eq_true (tx.symm.trans e)▸m,fun m=>⟨x,m,tx.trans (decide_eq_true rfl)⟩⟩
theorem GI{x:Nat}:zH .cg (.int x) (.tup (aj xs)) h=some (!decide (x∈xs)):=congrArg (XF (!·)) uT
theorem rJ(l:xs.length<64):(iW (aj xs)).bind fA=some (.lst (aj (bo xs))):=(congrArg (·.bind fA) (yJ l)).trans (bu (WH (WO (az.trans (mK _))) (WH (Xl l) (by decide))))
theorem vJ(l:xs.length<64):qT .sorted [.lst (aj xs)] h=some (.lst (aj (bo xs))):=rJ l
theorem Kf(l:xs.length<64):qT .sorted [.tup (aj xs)] h=some (.lst (aj (bo xs))):=rJ l
noncomputable def fl(rs:List Rl)(ks us:List Nat):List Nat:=(us.map (oj rs)).filter fun i=>!decide (i∈ks)
theorem AG:fl rs ks (xs++ys)=fl rs ks xs++fl rs ks ys:=by unfold fl;rw[Xr,Zx]
theorem Pp(q:oj rs r∈ks):fl rs ks [r]=[]:=aat (by rw[decide_eq_true q];exact Bool.false_ne_true)
theorem Mr(q:oj rs r∉ks):fl rs ks [r]=[oj rs r]:=aas (by rw[decide_eq_false q];rfl)
theorem sd:cq rs (xs++[s])=cq rs xs++ko s rs 0:=by unfold cq;rw[ZU,Zh]
theorem ur(ok:gP names tc rs)(hs:xs.Nodup):(jY rs ks xs).length<=22:=WH (aQ _ _ (lI hs) qw) ok.Bh
theorem rZ:(aO n m).Nodup:=List.Pairwise.filter _ List.nodup_range
theorem added(ok:gP names tc rs)(fo:cP (tc+3) rs F)(hk:∀i∈ks,i<total rs)(q:∀m:Nat,ke (tc+3) rs ks m->Q (.lst (aj (bo (jY rs ks (aO (tc+3) m))))) h):WC (d+3) 38 [dW names tc rs F,.tup (aj ks)] h Q:=by
 refine aD gf [.v (dW names tc rs F),.v (.tup (aj ks)),.no,.no,.no,.no] rfl rfl ?_
 dsimp only[gc_,gf,jy]
 refine wanted ok fo hk fun m w=>?_
 try dsimp only[gc_,ae]
 refine bits w.lt (WH ok.n8 (by decide)) ?_
 refine cF (xs:=aO (tc+3) m) (fun ys (s:Sl×Sl×Sl)=>[.v (dW names tc rs F),.v (.tup (aj ks)),.o (.list (aj (fl rs ks (cq rs ys)))),s.1,s.2.1,s.2.2]) (.no,.no,.no) rfl (fun ys s zs u P e p=>?_) fun u=>?_
 ·have hs:=(cW.mp (e▸Xa ys (.head zs))).1
  have nd:(ys++[s]).Nodup:=(e▸rZ:(ys++s::zs).Nodup).sublist (List.append_sublist_append_left ys|>.mpr (List.singleton_sublist.mpr (.head _)))
  have le:(fl rs ks (cq rs (ys++[s]))).length<=22:=ur ok nd
  rw[sd]at p le
  try dsimp only[gc_,ae]
  refine qO (ok.nm▸hs) (WH ok.tY (by decide)) ?_
  rw[<-Xo (cq rs ys)]
  refine cF (xs:=ko s rs 0) (fun us (w:Sl×Sl)=>[.v (dW names tc rs F),.v (.tup (aj ks)),.o (.list (aj (fl rs ks (cq rs ys++us)))),.v (.int s),w.1,w.2]) u.2 rfl (fun us r ws w P e p=>?_) fun w=>p (.v (.int s),w.1,w.2)
  obtain⟨j,x,e1,e2,e3⟩:=ik.mp (e▸Xa us (.head ws))
  rw[XG]at e1
  cases e1
  rw[e, <-Xn,AG,Xd]at le
  have le:=WH (WZ _ _) le
  have p:=p (.v (.int r),.v (.int (oj rs r)))
  rw[<-Xn,AG]at p
  try dsimp only[gc_,ae]
  refine wO (k:=0) (jq e2).1 ?_
  rw[Int.add_zero]
  try dsimp only[gc_,ae]
  refine cN GI (eM (fun n=>?_) fun n=>?_)
  ·rw[Mr n]at p
   try dsimp only[gc_,ae]
   refine aT (WM (WH (WO az) le) (by decide)) ?_
   rw[show aj (fl rs ks (cq rs ys++us))++[V.int (oj rs r)]=aj (fl rs ks (cq rs ys++us)++[oj rs r]) from bf (ys:=[oj rs r])]
   exact p
  ·rw[Pp n,Xo]at p
   exact p
 ·try dsimp only[gc_,ae]
  refine ag (vJ (WM (ur ok rZ) (by decide))) ?_
  exact q m w
structure uk(rs:List Rl)(ks aJ:List Nat):Prop where
 nd:aJ.Nodup
 lt:∀i∈aJ,i<total rs
 sub:∀i∈ks,i∈aJ
 NP:∀i∈aJ,∀s,dD rs i=some s->∀r x,rs[r]? =some x->x.1=s->oj rs r∈aJ
theorem uk.len(I:uk rs ks aJ)(ok:gP names tc rs):aJ.length<=22:=WH (aQ _ _ I.nd I.lt) ok.Bh
noncomputable def Ib(rs:List Rl)(ks:List Nat):Prop:=ks.Pairwise (· <·)/\∀i∈ks,i<total rs
theorem Ao(ok:gP names tc rs)(kk:Ib rs ks)(w:ke (tc+3) rs ks m):uk rs ks (ks++bo (jY rs ks (aO (tc+3) m))):=by
 refine⟨Yl.mpr ⟨kk.1.imp fun a=>WT a,(fL (lI rZ)).imp fun a=>WT a,fun a ha b hb q=>(ir.mp (bG.mp hb)).2 (q▸ha)⟩,
  fun i hi=>(Xv.mp hi).elim (kk.2 i) fun hi=>qw _ (bG.mp hi),fun i hi=>Xh _ hi,fun i hi s hs r x hr hx=>?_⟩
 have hb:m.testBit s=true:=by
  rcases Xv.mp hi with hi|hi
  ·exact w.dir i hi s hs
  ·obtain⟨⟨r',x',e',hb,rfl⟩,_⟩:=ir.mp (bG.mp hi)
   rw[(jq e').2.yY]at hs
   exact w.NP x' (Xc e') (cW.mp hb).2 s (List.head?_eq_getElem?.trans hs)
 by_cases q:oj rs r∈ks
 ·exact Xh _ q
 ·exact Xa _ (bG.mpr (ir.mpr ⟨⟨r,x,hr,cW.mpr ⟨(ok.lo x (Xc hr)).2.1,hx▸hb⟩,rfl⟩,q⟩))
theorem Gj(ok:gP names tc rs)(kk:Ib rs ks):ks.length<=22:=WH (aQ _ _ (kk.1.imp fun a=>WT a) kk.2) ok.Bh
theorem GG(l:(xs++ys).length<=SZ):pU .add (.lst (aj xs)) (.lst (aj ys))=some (.lst (aj (xs++ys))):=(bu (v:=.lst _) (by rw[az,az, <-Xd];exact l)).trans (congrArg (fun z=>some (V.lst z)) bf)
theorem close(ok:gP names tc rs)(fo:cP (tc+3) rs F)(kk:Ib rs ks)(q:∀aJ,uk rs ks aJ->Q (.lst (aj aJ)) h):WC (d+4) 39 [dW names tc rs F,.tup (aj ks)] h Q:=by
 refine aD fZ [.v (dW names tc rs F),.v (.tup (aj ks))] rfl rfl ?_
 dsimp only[gc_,fZ,iZ]
 refine ag (Kf (WM (Gj ok kk) (by decide))) ?_
 rw[oT kk.1]
 try dsimp only[gc_,ae]
 refine added ok fo kk.2 fun m w=>?_
 have I:=Ao ok kk w
 exact ag (GG (WH (I.len ok) (by decide))) (q _ I)
end
section
variable{d:Nat}{h:H}{Q:V->H->Prop}{b:E}{v:V}{n i j s r t:Nat}{names:List (List Nat)}{tc:Nat}{rs:List Rl}{x:Rl}{aJ xs ys:List Nat}
noncomputable def dN(rs:List Rl)(i:Nat):Option Nat:=(dD rs i).elim (if fU rs i=0 then none else some (fU rs i)) fun _=>none
theorem oo(e:dN rs i=some r):dD rs i=none/\fU rs i=r/\r≠0:=by
 unfold dN at e
 cases a:dD rs i with
 |some s=>rw[a]at e;exact nomatch e
 |none=>
  rw[a]at e
  have e:(if fU rs i=0 then none else some (fU rs i))=some r:=e
  by_cases q:fU rs i=0
  ·rw[if_pos q]at e;exact nomatch e
  ·rw[if_neg q]at e;cases e;exact⟨rfl,rfl,q⟩
theorem uE{k:Nat}(it:aK rs i r k x)(e:dD rs i=none):k=x.2.length:=by
 rw[it.yY]at e
 exact Zw it.dot (XR.mp e)
theorem CW(hi:i<total rs)(hj:j<total rs)(a:dN rs i=some r)(b:dN rs j=some r):i=j:=by
 obtain⟨r1,k,x,it⟩:=aK.ex hi
 obtain⟨r2,k',x',it'⟩:=aK.ex hj
 obtain⟨e1,e2,_⟩:=oo a
 obtain⟨e1',e2',_⟩:=oo b
 cases it.uW.symm.trans (e2.trans (e2'.symm.trans it'.uW))
 cases it.rule.symm.trans it'.rule
 obtain⟨o,f1,f2⟩:=it.off
 obtain⟨o',f1',f2'⟩:=it'.off
 cases f1.symm.trans f1'
 rw[f2,f2',uE it e1,uE it' e1']
theorem HR(hn:aJ.Nodup)(hl:∀i∈aJ,i<total rs):(aJ.filterMap (dN rs)).Nodup:=
 List.pairwise_filterMap.mpr (hn.imp_of_mem fun{a b} ha hb ne r e r' e' q=>ne (CW (hl a ha) (hl b hb) e (q▸e')))
theorem complete(ok:gP names tc rs)(hn:aJ.Nodup)(hl:∀i∈aJ,i<total rs)(q:Q (.lst (aj (bo (aJ.filterMap (dN rs))))) h):WC (d+2) 42 [au names tc rs,.lst (aj aJ)] h Q:=by
 have len:aJ.length<=22:=WH (aQ _ _ hn hl) ok.Bh
 refine aD eL [.v (au names tc rs),.v (.lst (aj aJ)),.no,.no] rfl rfl ?_
 dsimp only[gc_,eL,gY]
 refine cF (xs:=aJ) (fun ys (s:Sl)=>[.v (au names tc rs),.v (.lst (aj aJ)),.o (.list (aj (ys.filterMap (dN rs)))),s]) .no rfl (fun ys i zs s P e p=>?_) fun s=>?_
 ·have hi:=hl i (e▸Xa ys (.head zs))
  have p:=p (.v (.int i))
  have l:(ys.filterMap (dN rs)).length<=22:=WH (aak _ _) (WH (e▸len_app (xs:=ys)▸WZ _ _) len)
  rw[List.filterMap_append]at p
  try dsimp only[gc_,ae]
  refine pX hi ?_
  unfold wy
  cases a:dD rs i with
  |some t=>
   rw[show aaL (dN rs) [i]=[] from Yv (by unfold dN;rw[a];rfl),Xo]at p
   dsimp only[gc_,zQ,aaK]
   rw[decide_eq_false (YU.mpr (WU t))]
   exact p
  |none=>
   dsimp only[gc_,zQ,aaK]
   refine jL hi ?_
   try dsimp only[gc_,ae]
   refine eM (fun z=>?_) fun z=>?_
   ·rw[show aaL (dN rs) [i]=[fU rs i] from YD (by unfold dN;rw[a];exact if_neg fun c=>z (congrArg (fun n:Nat=>(n:Int)) c))]at p
    try dsimp only[gc_,ae]
    refine jL hi ?_
    try dsimp only[gc_,ae]
    refine aT (WM (WH (WO az) l) (by decide)) ?_
    rw[show aj (ys.filterMap (dN rs))++[V.int (fU rs i)]=aj (ys.filterMap (dN rs)++[fU rs i]) from bf (ys:=[fU rs i])]
    exact p
   ·rw[show aaL (dN rs) [i]=[] from Yv (by unfold dN;rw[a];exact if_pos (Zd.inj z)),Xo]at p
    exact p
 ·try dsimp only[gc_,ae]
  refine ag (vJ (WM (WH (aak _ _) len) (by decide))) ?_
  exact q
end
section
section
structure KF{α:Type}(kf:α->Key):Prop where
 inj:∀x y,kf x=kf y->x=y
 kd:∀x y,(kf x).isInt=(kf y).isInt
section
variable{α:Type}{kf:α->Key}{x:α}{xs:List α}{vs:List V}{v w:V}{j:Nat}{h:H}
theorem KF.kind(k:KF kf):aR (kf x) (xs.map kf)=true:=by
 cases xs with
 |nil=>rfl
 |cons y xs=>exact beq_iff_eq.mpr (k.kd x y)
theorem KF.look(k:KF kf):∀{xs:List α},xs.Nodup->∀{j:Nat}{vs:List V},vs.length=xs.length->xs[j]? =some x->bC (kf x) (xs.map kf) vs=vs[j]? :=fun{xs}=>by
 induction xs with
 |nil=>exact fun _ j vs _ e=>nomatch e
 |cons y xs ih=>
  intro nd j vs l e
  cases vs with
  |nil=>exact nomatch l
  |cons v vs=>
   show(match decide (kf x=kf y) with|true=>some v|false=>bC (kf x) (xs.map kf) vs)=_
   cases j with
   |zero=>cases e;rw[decide_eq_true rfl];rfl
   |succ j=>
    rw[decide_eq_false fun q=>(Yr.mp nd).1 (by cases k.inj _ _ q;exact Xc (l:=xs) e)]
    exact ih (Yr.mp nd).2 (Nat.succ.inj l) e
theorem KF.yc{vf:α->V}(k:KF kf)(m:x∈xs):bC (kf x) (xs.map kf) (xs.map vf)=some (vf x):=by
 induction xs with
 |nil=>exact nomatch m
 |cons y xs ih=>
  show(match decide (kf x=kf y) with|true=>some (vf y)|false=>bC (kf x) (xs.map kf) (xs.map vf))=_
  by_cases q:kf x=kf y
  ·rw[decide_eq_true q,k.inj _ _ q]
  ·rw[decide_eq_false q]
   exact ih ((Xp.mp m).resolve_left fun e=>q (e▸rfl))
theorem KF.mem(k:KF kf)[Decidable (x∈xs)](e:v.key? =some (kf x)):Mine.bX v (.dict (xs.map kf) vs)=some (decide (x∈xs)):=by
 show(match v.key? with|some k=>(match aR k (xs.map kf) with|true=>some ((xs.map kf).contains k)|false=>none)|none=>none)=_
 rw[e]
 show(match aR (kf x) (xs.map kf) with|true=>some ((xs.map kf).contains (kf x))|false=>none)=_
 rw[k.kind]
 refine congrArg some (Bool.eq_iff_iff.mpr ?_)
 rw[ZD,decide_eq_true_eq]
 exact⟨fun m=>let ⟨y,hy,e⟩:=XN.mp m;k.inj _ _ e▸hy,ZT⟩
theorem KF.keys(k:KF kf)(n:x∉xs):bB (kf x) (xs.map kf)=(xs++[x]).map kf:=by
 induction xs with
 |nil=>rfl
 |cons y xs ih=>
  show(match decide (kf x=kf y) with|true=>kf y::xs.map kf|false=>kf y::bB (kf x) (xs.map kf))=_
  rw[decide_eq_false fun q=>n (by cases k.inj _ _ q;exact .head _)]
  exact congrArg (kf y::·) (ih fun m=>n (.tail _ m))
theorem KF.vals(k:KF kf):∀{xs:List α},x∉xs->∀{vs:List V},vs.length=xs.length->fT (kf x) v (xs.map kf) vs=vs++[v]:=fun{xs}=>by
 induction xs with
 |nil=>exact fun _ vs l=>by cases YI.mp l;rfl
 |cons y xs ih=>
  intro n vs l
  cases vs with
  |nil=>exact nomatch l
  |cons w vs=>
   show(match decide (kf x=kf y) with|true=>v::vs|false=>w::fT (kf x) v (xs.map kf) vs)=_
   rw[decide_eq_false fun q=>n (by cases k.inj _ _ q;exact .head _)]
   exact congrArg (w::·) (ih (fun m=>n (.tail _ m)) (Nat.succ.inj l))
theorem KF.oJ(k:KF kf)(e:w.key? =some (kf x))(n:x∉xs)(l:vs.length=xs.length)(z:xs.length<SZ):fN (.dict (xs.map kf) vs) w v=some (.dict ((xs++[x]).map kf) (vs++[v])):=by
 show(match w.key? with|some q=>(match aR q (xs.map kf)&&decide ((xs.map kf).length<SZ) with|true=>some (O.dict (bB q (xs.map kf)) (fT q v (xs.map kf) vs))|false=>none)|none=>none)=_
 rw[e]
 show(match aR (kf x) (xs.map kf)&&decide ((xs.map kf).length<SZ) with|true=>some (O.dict (bB (kf x) (xs.map kf)) (fT (kf x) v (xs.map kf) vs))|false=>none)=_
 rw[k.kind,WK,decide_eq_true z,k.keys n,k.vals n l];rfl
theorem KF.sub(k:KF kf)(e:w.key? =some (kf x))(q:bC (kf x) (xs.map kf) vs=some v):aH (.dict (xs.map kf) vs) w=some v:=by
 show(match w.key? with|some q=>(match aR q (xs.map kf) with|true=>bC q (xs.map kf) vs|false=>none)|none=>none)=_
 rw[e]
 show(match aR (kf x) (xs.map kf) with|true=>bC (kf x) (xs.map kf) vs|false=>none)=_
 rw[k.kind];exact q
theorem KF.cL(k:KF kf)(e:w.key? =some (kf x))(q:bC (kf x) (xs.map kf) vs=some v):cL (.bL (xs.map kf) vs) w h=some v:=k.sub e q
end
theorem th:KF kI:=⟨fun _ _=>CO,fun _ _=>rfl⟩
theorem LV{ss:List Nat}:(ss.map kI).map Key.v=aj ss:=Yd
end
end
section
variable{d:Nat}{ρ:Env}{h h' h0:H}{Q:V->H->Prop}{K:List C}{sk:List V}{QX:Qs}{b:E}{v:V}{n m i j s r t:Nat}{F f g:Nat->Nat}{names:List (List Nat)}{tc:Nat}{rs:List Rl}{x:Rl}{aJ xs ys ss:List Nat}
theorem Dp{p:Prop}{_:Decidable p}{s1 s2:S}{α:Type}(ρ':α->Env)(X:α->H)(R:α->Prop)(f:∀x,R x->KX d K sk (ρ' x) (X x) QX)(a:¬ p->(∀x,R x->KX d K sk (ρ' x) (X x) QX)->KX d (.s s1::K) sk ρ h QX)(b:p->(∀x,R x->KX d K sk (ρ' x) (X x) QX)->KX d (.s s2::K) sk ρ h QX):
  KX d (.eU s1 s2::K) (.bool (!decide p)::sk) ρ h QX:=eM (fun n=>a n f) fun n=>b n f
theorem LY{o:O}{r:V×H}(e:gt ρ i=.o o)(e2:Mine.bP 8 o.v h=some r)(q:KX d K sk (st ρ i (.v r.1)) r.2 QX):KX d (.s (.Bj i)::K) sk ρ h QX:=by
 show match gt ρ i with|.o o=>_|.v v=>_|.no=>False
 rw[e]
 show match Mine.bP 8 o.v h with|some r=>_|.none=>False
 rw[e2];exact q
structure vN(rs:List Rl)(h0:H)(aJ ys ss:List Nat)(h:H):Prop where
 nd:ss.Nodup
 m1:∀i∈ys,∀s,dD rs i=some s->s∈ss
 m2:∀s∈ss,∃i∈aJ,dD rs i=some s
 sz:h.size=h0.size+ss.length
 ge:Ge h0 h
 gl:∀j s,ss[j]? =some s->h.get (h0.size+j)=some (.list (aj (uq rs ys s)))
theorem Jc(e:dD rs i≠some s):uq rs (aJ++[i]) s=uq rs aJ s:=by rw[uw,if_neg e,Xo]
theorem vN.skip(F:vN rs h0 aJ ys ss h)(e:dD rs i=.none):vN rs h0 aJ (ys++[i]) ss h where
 nd:=F.nd
 m1:=fun j m s e'=>(Xv.mp m).elim (fun m=>F.m1 j m s e') fun m=>by cases WW.mp m;exact nomatch e.symm.trans e'
 m2:=F.m2
 sz:=F.sz
 ge:=F.ge
 gl:=fun j s q=>by rw[Jc (by rw[e];exact nofun)];exact F.gl j s q
theorem vN.app(F:vN rs h0 aJ ys ss h)(e:dD rs i=some s)(hj:ss[j]? =some s):vN rs h0 aJ (ys++[i]) ss (h.set (h0.size+j) (some (.list (aj (uq rs ys s)++[.int (i+1:Nat)])))) where
 nd:=F.nd
 m1:=fun k m s e'=>(Xv.mp m).elim (fun m=>F.m1 k m s e') fun m=>by cases WW.mp m;cases e.symm.trans e';exact Xc hj
 m2:=F.m2
 sz:=F.sz
 ge:=F.ge.set (WZ _ _)
 gl:=fun k t q=>by
  by_cases c:k=j
  ·cases c
   cases hj.symm.trans q
   rw[aG (aE (F.gl _ _ hj)),uw,if_pos e, <-bf];rfl
  ·rw[ah fun z=>c (YL z),Jc fun z=>c ((abb (WL.mp q).1 F.nd).mp (by rw[q,hj, <-Option.some.inj (e.symm.trans z)]))]
   exact F.gl k t q
theorem vN.new(F:vN rs h0 aJ ys ss h)(m:i∈aJ)(e:dD rs i=some s)(n:s∉ss):vN rs h0 aJ ys (ss++[s]) (h.push (.list [])) where
 nd:=Yi.mpr ⟨F.nd,Yr.mpr ⟨nofun,.nil⟩,fun a ha b hb q=>n (WW.mp hb▸q▸ha)⟩
 m1:=fun k m s e'=>Xh _ (F.m1 k m s e')
 m2:=fun t m'=>(Xv.mp m').elim (F.m2 t) fun q=>⟨i,m,WW.mp q▸e⟩
 sz:=(congrArg (· +1) F.sz).trans (by rw[aN];rfl)
 ge:=F.ge.push
 gl:=fun k t q=>by
  by_cases c:k<ss.length
  ·rw[ay (by rw[F.sz];exact Xy c _)]
   exact F.gl k t ((XQ c).symm.trans q)
  ·have c:=YB c
   rw[Ye c]at q
   have z:=(WL.mp q).1
   rw[show k=ss.length from Zw (aaD (Nat.lt_one_iff.mp z)) c]at q ⊢
   rw[ZA]at q
   cases q
   rw[<-F.sz,aL,GB fun j hj z=>n (F.m1 j hj _ z)];rfl
noncomputable def refs(b n:Nat):List V:=(Xq n).map fun j=>.ref (b+j)
theorem kR:(refs i n).length=n:=(WK _).trans Xb
theorem qB:refs i n++[.ref (i+n)]=refs i (n+1):=by unfold refs;rw[Zj,Xr];rfl
noncomputable def mF(rs:List Rl)(aJ:List Nat)(s:Nat):List Nat:=bo (uq rs aJ s)
noncomputable def AK(rs:List Rl)(aJ ss:List Nat):V:=.bL (ss.map kI) (ss.map fun s=>.tup (aj (mF rs aJ s)))
noncomputable def wL(G:V)(aJ:List Nat)(b:Nat)(ss:List Nat)(x y:Sl):Env:=[.v G,.v (.lst (aj aJ)),.o (.dict (ss.map kI) (refs b ss.length)),x,y,.no]
theorem Jm(ok:gP names tc rs)(hl:∀i∈aJ,i<total rs)(len:aJ.length<=22){P:Env->H->Prop}(F:vN rs h0 aJ ys ss h)(lys:ys.length<=22)(m:i∈aJ)(e:dD rs i=some s)(hs:s∈ss)(p:∀h,vN rs h0 aJ (ys++[i]) ss h->P (wL (au names tc rs) aJ h0.size ss (.v (.int i)) (.v (.int s))) h){R:V->Env->H->Prop}:
  KX (d+2) [.s (.ex (.aq (.aH 2 (.loc 4)) 0 (.aa (.call 40 (.aa (.loc 0) (.aa (.loc 3) .af))) .af)))] [] (wL (au names tc rs) aJ h0.size ss (.v (.int i)) (.v (.int s))) h ⟨P,P,R⟩:=by
 obtain⟨j,hj⟩:=XH.mp hs
 have jl:=(WL.mp hj).1
 have g:=F.gl j s hj
 dsimp only[gc_,wL]
 refine bS (th.sub rfl ((th.look F.nd kR hj).trans (dR jl))) (cV rfl g ?_)
 try dsimp only[gc_,ae]
 refine Np (hl i m) e ?_
 try dsimp only[gc_,ae]
 refine dC g (WM (WH (WO az) (WH yd lys)) (by decide)) ?_
 exact p _ (F.app e hj)
theorem map_range{β:Type}(φ:Nat->β):(Xq ss.length).map (fun j=>φ ((ss[j]?).getD 0))=ss.map φ:=abt ((WK _).trans (Xb.trans (WK _).symm)) fun i h1 h2=>by
 rw[ZL,ZL,aaZ,WR (by rwa [WK]at h2)];rfl
theorem vN.bP(F:vN rs h0 aJ ys ss h):∃h2,Mine.bP 8 (O.dict (ss.map kI) (refs h0.size ss.length)).v h=some (.bL (ss.map kI) (ss.map fun s=>.lst (aj (uq rs ys s))),h2)/\Ge h0 h2:=by
 obtain⟨h2,c⟩:=jM (n:=6) (us:=fun j=>aj (uq rs ys ((ss[j]?).getD 0))) (b:=h0.size) (fun s=>eV) ss.length 0 h fun t _ l=>by
  have l:=WR (XG ss.length▸l)
  rw[F.gl t _ l,l];rfl
 rw[<-Zm,map_range fun s=>V.lst (aj (uq rs ys s))]at c
 exact⟨h2,congrArg (fun z=>gN (XF (fun r:List V×H=>(O.dict (ss.map kI) r.1,r.2)) z)) c.1,⟨c.2.1▸F.ge.sz,fun a ha=>(c.2.2 a (.inl ha)).trans (F.ge.kp a ha)⟩⟩
theorem behind(ok:gP names tc rs)(hn:aJ.Nodup)(hl:∀i∈aJ,i<total rs)(q:∀ss h',ss.Pairwise (· <·)->(∀s,s∈ss↔ ∃i∈aJ,dD rs i=some s)->Ge h h'->Q (AK rs aJ ss) h'):WC (d+3) 41 [au names tc rs,.lst (aj aJ)] h Q:=by
 have len:aJ.length<=22:=WH (aQ _ _ hn hl) ok.Bh
 refine aD eP [.v (au names tc rs),.v (.lst (aj aJ)),.no,.no,.no,.no] rfl rfl ?_
 dsimp only[gc_,eP,gQ]
 refine cC (xs:=aJ) (fun s:List Nat×H×Sl×Sl=>wL (au names tc rs) aJ h.size s.1 s.2.2.1 s.2.2.2) (fun s=>s.2.1) (fun ys _ s=>vN rs h aJ ys s.1 s.2.1) ([],h,.no,.no) rfl ⟨.nil,nofun,nofun,rfl,.refl,nofun⟩ (fun ys i zs s P e p F=>?_) fun s F=>?_
 ·have m:i∈aJ:=e▸Xa ys (.head zs)
  have lys:ys.length<=22:=WH (e▸len_app (xs:=ys)▸WZ _ _) len
  dsimp only[gc_,wL]
  refine pX (hl i m) ?_
  unfold wy
  cases a:dD rs i with
  |none=>exact p (s.1,s.2.1,.v (.int i),.v (.int (-1))) (F.skip a)
  |some t=>
   dsimp only[gc_,zQ,aaK]
   refine dm (fun _=>?_) fun z=>absurd (WU t) z
   try dsimp only[gc_,ae]
   refine xg (th.mem (x:=t) (xs:=s.1) rfl) ?_
   rw[Bool.true_xor]
   refine Dp (α:=List Nat×H) (fun y=>wL (au names tc rs) aJ h.size y.1 (.v (.int i)) (.v (.int t))) (fun y=>y.2) (fun y=>vN rs h aJ ys y.1 y.2/\t∈y.1) (fun y c=>Jm ok hl len c.1 lys m a c.2 fun h' F'=>p (y.1,h',_,_) F') (fun n f=>?_) fun n f=>f (s.1,s.2.1) ⟨F,n⟩
   have f:=f (s.1++[t],s.2.1.push (.list [])) ⟨F.new m a n,Xa _ (.head _)⟩
   try dsimp only[gc_,ae]
   refine cU (th.oJ rfl n kR ?_) ?_
   ·exact WM (WH (aQ _ _ F.nd fun u hu=>(F.m2 u hu).elim fun j c=>mq ok c.2) ok.n8) (by decide)
   ·rw[F.sz,qB, <-aN (x:=t)]
    exact f
 ·obtain⟨h2,e2,G2⟩:=F.bP
  dsimp only[gc_,wL]
  refine LY rfl e2 ?_
  have l8:s.1.length<=8:=WH (aQ _ _ F.nd fun u hu=>(F.m2 u hu).elim fun j c=>mq ok c.2) ok.n8
  have nd:=(fL F.nd).imp fun a=>WT a
  try dsimp only[gc_,ae]
  refine ag (v:=.lst (aj (bo s.1))) ?_ ?_
  ·show(iW ((s.1.map kI).map Key.v)).bind fA=_
   rw[LV]
   exact rJ (WM l8 (by decide))
  try dsimp only[gc_,ae]
  refine cF (xs:=bo s.1) (fun ys (u:Sl)=>[.v (au names tc rs),.v (.lst (aj aJ)),.v (.bL (s.1.map kI) (s.1.map fun s=>.lst (aj (uq rs aJ s)))),s.2.2.1,u,.o (.dict (ys.map kI) (ys.map fun s=>.tup (aj (mF rs aJ s))))]) s.2.2.2 rfl (fun ys t zs u P e p=>?_) fun u=>?_
  ·have n:t∉ys:=fun m=>(Yi.mp (e▸nd:(ys++t::zs).Nodup)).2.2 t m t (.head _) rfl
   have m:t∈s.1:=bG.mp (e▸Xa ys (.head zs))
   have p:=p (.v (.int t))
   rw[Xr (f:=fun s=>V.tup (aj (mF rs aJ s)))]at p
   try dsimp only[gc_,ae]
   refine ag (th.cL rfl (th.yc m)) (ag (vJ (WM (WH yd len) (by decide))) (ag rfl ?_))
   try dsimp only[gc_,ae]
   exact cU (th.oJ rfl n (WK _) (WM (WH (WZ _ (t::zs).length) (WH (WO ((len_app (xs:=ys)).symm.trans ((congrArg YN e.symm).trans (mK _)))) l8)) (by decide))) p
  ·try dsimp only[gc_,ae]
   exact q _ _ (fL F.nd) (fun t=>bG.trans ⟨F.m2 t,fun⟨i,m,e⟩=>F.m1 i m t e⟩) G2
end
section
variable{d:Nat}{ρ:Env}{h h' h0:H}{Q:V->H->Prop}{K:List C}{sk:List V}{QX:Qs}{b:E}{v:V}{vs:List V}{n i j s a f':Nat}{F f g:Nat->Nat}{names:List (List Nat)}{tc:Nat}{rs:List Rl}{ks aJ xs ys ss:List Nat}{sym:Int}
structure St where
 a:Nat
 ks:List Nat
 sy:Int
 aJ:List Nat
 rd:List Nat
 ss:List Nat
 go:Nat->Nat
noncomputable def St.ob(x:St)(i:Nat):O:=.inst 5 [12,57,58,59,47,50] [.int i,.tup (aj x.ks),.int x.sy,.lst (aj x.aJ),.ref x.a,.lst (aj x.rd)]
noncomputable def St.mo(x:St):O:=.dict (x.ss.map kI) (x.ss.map fun s=>.int (x.go s))
noncomputable def kT(ks:List Nat):Key:=.tup (ks.map fun n:Nat=>(n:Int))
theorem Dd:(V.tup (aj ks)).key? =some (kT ks):=congrArg (XF Key.tup) (jE ks)
theorem map_inj{α β:Type}{f:α->β}(k:∀x y,f x=f y->x=y):∀xs ys:List α,xs.map f=ys.map f->xs=ys:=fun xs=>by
 induction xs with
 |nil=>exact fun ys e=>(aaQ.mp e.symm).symm
 |cons x xs ih=>
  intro ys e
  cases ys with
  |nil=>exact nomatch e
  |cons y ys=>rw[k x y (List.cons.inj e).1,ih ys (List.cons.inj e).2]
noncomputable def Key.is(k:Key):List Int:=Key.rec (fun _=>[]) id k
theorem Qf:KF kT:=⟨fun x y e=>map_inj (fun _ _=>Zd.inj) x y (congrArg Key.is e),fun _ _=>rfl⟩
noncomputable def eX(n:Nat):List V:=bA n id
structure Bd(names:List (List Nat))(tc:Nat)(rs:List Rl)(F:Nat->Nat)(h0:H)(L:List St)(h:H):Prop where
 ge:Ge h0 h
 bb:h.get (h0.size+2)=some (.inst 8 [32,66,46,67] [au names tc rs,dW names tc rs F,.ref h0.size,.ref (h0.size+1)])
 ls:h.get h0.size=some (.list (L.map fun x=>.ref (x.a+1)))
 di:h.get (h0.size+1)=some (.dict ((L.map St.ks).map kT) (eX L.length))
 un:(L.map St.ks).Nodup
 st:∀(i:Nat)(x:St),L[i]? =some x->h0.size+2<x.a/\h.get (x.a+1)=some (x.ob i)/\h.get x.a=some x.mo
 ap:L.Pairwise fun x y:St=>x.a+1<y.a
theorem FW{Q:O->H->Prop}(q:Q (.inst 5 [12,57,58,59,47,50] [.int n,.tup (aj ks),.int sym,.lst [],.ref h.size,.lst []]) (h.push (.dict [] []))):WI (d+1) 34 5 [.int n,.tup (aj ks),.int sym] h Q:=
 ji jh [.o (.inst 5 [] []),.v (.int n),.v (.tup (aj ks)),.v (.int sym)] rfl rfl q
theorem kl{L:List St}:(eX L.length).length=(L.map St.ks).length:=gr.trans (WK _).symm
theorem bp{c:Nat}{fs:List Nat}{w:V}(g:h.get a=some (.inst c fs vs))(e:ae f' fs vs=some w)(q:KX d K (w::sk) ρ h QX):KX d (.attr f'::K) (.ref a::sk) ρ h QX:=by
 show match h.get a with|some (.inst _ fs vs)=>fJ False (ae f' fs vs) fun v=>KX d K (v::sk) ρ h QX|_=>False
 rw[g];exact ag e q
theorem HK{α:Type}{kf:α->Key}{x:α}{xs:List α}[Decidable (x∈xs)](k:KF kf)(e:v.key? =some (kf x))(g:h.get a=some (.dict (xs.map kf) vs)):zH .cg v (.ref a) h=some (!decide (x∈xs)):=by
 show((h.get a).bind (Mine.bX v)).map _=_
 rw[g]
 exact congrArg (XF (!·)) (k.mem (vs:=vs) e)
theorem IK{α:Type}{kf:α->Key}{x:α}{xs:List α}{w:V}(k:KF kf)(e:v.key? =some (kf x))(g:h.get a=some (.dict (xs.map kf) vs))(q:bC (kf x) (xs.map kf) vs=some w):cL (.ref a) v h=some w:=by
 show(h.get a).bind _=_
 rw[g];exact k.sub e q
theorem ints_snoc:eX n++[.int n]=eX (n+1):=by unfold eX bA;rw[Zj,Xr];rfl
theorem ja{α:Type}{xs:List α}{x y:α}(e:(xs++[y])[i]? =some x):xs[i]? =some x\/i=xs.length/\x=y:=by
 rcases Nat.lt_or_ge i xs.length with l|l
 ·exact .inl ((XQ l).symm.trans e)
 ·rw[Ye l]at e
  have z:=Nat.le_zero.mp (XY (WL.mp e).1)
  rw[z]at e
  exact .inr ⟨Zw (aaD z) l,(Option.some.inj e).symm⟩
theorem Ki{L:List St}{x:St}:((L++[x]).map St.ks)[L.length]? =some x.ks:=by rw[Xj,Ye (WQ _),ZA];rfl
theorem Bd.new{L:List St}(B:Bd names tc rs F h0 L h)(n:ks∉L.map St.ks){h1:H}(z1:h1.size=h.size)(k1:∀a,a≠h0.size+1->h1.get a=h.get a)
  (g3:h1.get (h0.size+1)=some (.dict ((L.map St.ks++[ks]).map kT) (eX L.length++[.int L.length]))):
  Bd names tc rs F h0 (L++[⟨h1.size,ks,sym,[],[],[],id⟩]) (((h1.push (.dict [] [])).push (.inst 5 [12,57,58,59,47,50] [.int L.length,.tup (aj ks),.int sym,.lst [],.ref h1.size,.lst []])).set h0.size (some (.list ((L.map fun x=>.ref (x.a+1))++[.ref (h1.size+1)])))):=by
 have lb:=aE B.bb
 have l0:h0.size+2<h1.size:=z1▸lb
 have old:∀a o,h.get a=some o->a≠h0.size->a≠h0.size+1->(((h1.push (.dict [] [])).push (.inst 5 [12,57,58,59,47,50] [.int L.length,.tup (aj ks),.int sym,.lst [],.ref h1.size,.lst []])).set h0.size (some (.list ((L.map fun x=>.ref (x.a+1))++[.ref (h1.size+1)])))).get a=some o:=fun a o e n0 n1=>by
  have l:=aE e
  rw[ah n0,ay (WV (z1▸l)),ay (z1▸l),k1 a n1,e]
 refine⟨⟨WH B.ge.sz (WH (WO z1.symm) (XS (Yj _))),fun a l=>?_⟩,old _ _ B.bb (Xz (Xx (XK _))) (XU _),?_,?_,?_,fun i x e=>?_,?_⟩
 ·rw[ah (WT l),ay (WV (Yw l (XC (XC l0)))),ay (Yw l (XC (XC l0))),k1 a (WT (WV l)),B.ge.kp a l]
 ·rw[aG (WV (WV (XC (XC l0)))),Xr];rfl
 ·rw[ah (XU _),ay (WV (XC l0)),ay (XC l0),g3,aN,Xr (f:=St.ks)]
  exact congrArg (fun z=>some (O.dict ((L.map St.ks++[ks]).map kT) z)) ints_snoc
 ·rw[Xr]
  exact Yi.mpr ⟨B.un,Yr.mpr ⟨nofun,.nil⟩,fun a ha b hb q=>n (by cases q;cases WW.mp hb;exact ha)⟩
 ·rcases ja e with e|⟨rfl,rfl⟩
  ·have c:=B.st i x e
   have c0:=Yw (Xx (XK 1)) c.1
   have c1:=Yw (Xk _) c.1
   exact⟨c.1,old _ _ c.2.1 (Xz (WV c0)) (Xz (WV c1)),old _ _ c.2.2 (Xz c0) (Xz c1)⟩
  ·have c0:h0.size<h1.size:=XC (XC l0)
   exact⟨l0,(ah (Xz (WV c0))).trans aL,(ah (Xz c0)).trans ((ay (Xk _)).trans aL)⟩
 ·refine Yl.mpr ⟨B.ap,XE.mpr ⟨nofun,.nil⟩,fun x hx y hy=>?_⟩
  cases WW.mp hy
  obtain⟨i,hi⟩:=XH.mp hx
  exact z1▸aE (B.st i x hi).2.1
theorem qx{L:List St}(B:Bd names tc rs F h0 L h)(z:L.length<SZ)(q:∀(L':List St)(h':H)(j:Nat),Bd names tc rs F h0 L' h'->(L'.map St.ks)[j]? =some ks->(L'=L\/ks∉L.map St.ks/\∃a,L'=L++[⟨a,ks,sym,[],[],[],id⟩])->Q (.int j) h'):
  WC (d+2) 46 [.ref (h0.size+2),.tup (aj ks),.int sym] h Q:=by
 refine aD du [.v (.ref (h0.size+2)),.v (.tup (aj ks)),.v (.int sym)] rfl rfl ?_
 dsimp only[gc_,du,fy]
 refine bp B.bb rfl (cN (HK (vs:=eX L.length) Qf Dd B.di) ?_)
 refine Dp (α:=List St×H×Nat) (fun _=>[.v (.ref (h0.size+2)),.v (.tup (aj ks)),.v (.int sym)]) (fun x=>x.2.1) (fun x=>Bd names tc rs F h0 x.1 x.2.1/\(x.1.map St.ks)[x.2.2]? =some ks/\(x.1=L\/ks∉L.map St.ks/\∃a,x.1=L++[⟨a,ks,sym,[],[],[],id⟩])) (fun x c=>?_) (fun n f=>?_) fun n f=>?_
 ·try dsimp only[gc_,ae]
  refine bp c.1.bb rfl (ag (IK Qf Dd c.1.di ((Qf.look c.1.un kl c.2.1).trans (jK (YT (WL.mp c.2.1).1 (WK _))))) ?_)
  exact q _ _ _ c.1 c.2.1 c.2.2
 ·try dsimp only[gc_,ae]
  refine bp B.bb rfl (ag (qz B.ls) ?_)
  rw[WK]
  try dsimp only[gc_,ae]
  refine bp B.bb rfl ?_
  try dsimp only[gc_,ae]
  refine gB B.di (Qf.oJ Dd n kl (by rw[WK];exact z)) ?_
  have g1:(h.set (h0.size+1) (some (.dict ((L.map St.ks++[ks]).map kT) (eX L.length++[.int L.length])))).get (h0.size+2)=_:=(ah (XU _)).trans B.bb
  have g2:(h.set (h0.size+1) (some (.dict ((L.map St.ks++[ks]).map kT) (eX L.length++[.int L.length])))).get h0.size=_:=(ah (WT (Xk _))).trans B.ls
  generalize e1:h.set (h0.size+1) _=h1 at*
  have z1:h1.size=h.size:=e1▸rfl
  try dsimp only[gc_,ae]
  refine bp g1 rfl (cV rfl g2 ?_)
  try dsimp only[gc_,ae]
  refine bp g1 rfl (ag (qz g2) ?_)
  rw[WK]
  try dsimp only[gc_,ae]
  refine fg rfl (FW ?_)
  try dsimp only[gc_,ae]
  have l0:h0.size<h1.size:=Yw (Xx (XK _)) (z1▸aE B.bb)
  refine dC ((ay (WV l0)).trans ((ay l0).trans g2)) (by rw[WK];exact z) ?_
  try dsimp only[gc_,ae]
  exact f (_,_,L.length) ⟨B.new n z1 (fun a c=>e1▸ah c) (e1▸aG (XC (aE B.bb))),Ki,.inr ⟨n,_,rfl⟩⟩
 ·obtain⟨j,e⟩:=XH.mp n
  exact f (L,h,j) ⟨B,e,.inl rfl⟩
end
section
variable{d:Nat}{ρ:Env}{h h' h0:H}{K:List C}{sk:List V}{QX:Qs}{b:E}{v:V}{n i j s a f' k:Nat}{F g:Nat->Nat}{names:List (List Nat)}{tc:Nat}{rs:List Rl}{ks aJ ss:List Nat}{L:List St}{x y x':St}
theorem rH{o o':O}(e:h.get a=some o)(e2:jR mp.ok o f' v=some o')(q:KX d K sk ρ (h.set a (some o')) QX):KX d (.eT f'::K) (.ref a::v::sk) ρ h QX:=by
 show match (h.get a).bind (jR mp.ok · f' v) with|some o=>KX d K sk ρ (h.set a (some o)) QX|.none=>False
 rw[e]
 show match jR mp.ok o f' v with|some o=>KX d K sk ρ (h.set a (some o)) QX|.none=>False
 rw[e2];exact q
theorem lV{α β:Type}{φ:α->β}{L:List α}{x x':α}(e:L[k]? =some x)(q:φ x'=φ x):(L.set k x').map φ=L.map φ:=by
 refine YX fun i=>?_
 rw[Xj,Xj,List.getElem?_set]
 by_cases c:k=i
 ·cases c
  rw[if_pos rfl,if_pos (WL.mp e).1,e]
  exact congrArg some q
 ·rw[if_neg c]
theorem get_set{α:Type}{L:List α}{x' y:α}(e:(L.set k x')[i]? =some y):i≠k/\L[i]? =some y\/i=k/\y=x':=by
 by_cases c:k=i
 ·cases c
  have l:=(WL.mp e).1
  rw[Zi]at l
  rw[YM l]at e
  exact .inr ⟨rfl,(Option.some.inj e).symm⟩
 ·exact .inl ⟨Ne.symm c,(YG c).symm.trans e⟩
theorem Bd.PC(B:Bd names tc rs F h0 L h)(e:L[i]? =some y)(e':L[k]? =some x)(n:i≠k):y.a+1<x.a\/x.a+1<y.a:=by
 obtain⟨l,rfl⟩:=WL.mp e
 obtain⟨l',rfl⟩:=WL.mp e'
 exact(Nat.lt_or_gt_of_ne n).imp (fun c=>aaf.mp B.ap i k l l' c) fun c=>aaf.mp B.ap k i l' l c
theorem Bd.upd(B:Bd names tc rs F h0 L h)(e:L[k]? =some x)(ea:x'.a=x.a)(ek:x'.ks=x.ks)(z:h'.size=h.size)(kp:∀a,a≠x.a->a≠x.a+1->h'.get a=h.get a)(e1:h'.get (x.a+1)=some (x'.ob k))(e2:h'.get x.a=some x'.mo):
  Bd names tc rs F h0 (L.set k x') h':=by
 have c:=(B.st k x e).1
 have low:∀a,a<=h0.size+2->h'.get a=h.get a:=fun a l=>kp a (WT (WM l c)) (WT (WV (WM l c)))
 have mk:(L.set k x').map St.ks=L.map St.ks:=lV e ek
 refine⟨⟨z▸B.ge.sz,fun a l=>(low a (Xl (WV (WV l)))).trans (B.ge.kp a l)⟩,(low _ (WQ _)).trans B.bb,(low _ (WZ _ _)).trans ?_,(low _ (Yj _)).trans ?_,mk▸B.un,fun i y e'=>?_,?_⟩
 ·rw[lV (φ:=fun x:St=>V.ref (x.a+1)) e (congrArg (fun a=>V.ref (a+1)) ea)];exact B.ls
 ·rw[mk,Zi];exact B.di
 ·rcases get_set e' with ⟨n,e'⟩|⟨rfl,rfl⟩
  ·have q:=B.st i y e'
   rcases B.PC e' e n with l|l
   ·exact⟨q.1,(kp _ (WT l) (WT (WV l))).trans q.2.1,(kp _ (WT (XC l)) (WT (WV (XC l)))).trans q.2.2⟩
   ·exact⟨q.1,(kp _ (Xz (WV (XC l))) (Xz (WV l))).trans q.2.1,(kp _ (Xz (XC l)) (Xz l)).trans q.2.2⟩
  ·exact⟨ea▸c,ea▸e1,ea▸e2⟩
 ·have q:(L.map St.a).Pairwise fun a b=>a+1<b:=YJ.mpr B.ap
  rw[<-lV (φ:=St.a) e ea]at q
  exact YJ.mp q
theorem Bd.grow(B:Bd names tc rs F h0 L h)(g:Ge h h'):Bd names tc rs F h0 L h':=
 ⟨B.ge.trans g,g.at B.bb,g.at B.ls,g.at B.di,B.un,fun i x e=>⟨(B.st i x e).1,g.at (B.st i x e).2.1,g.at (B.st i x e).2.2⟩,B.ap⟩
noncomputable def Raw(x:St):Prop:=x.aJ=[]/\x.rd=[]/\x.ss=[]
structure Done(rs:List Rl)(ks:List (List Nat))(x:St):Prop where
 it:uk rs x.ks x.aJ
 rd:x.rd=bo (x.aJ.filterMap (dN rs))
 asc:x.ss.Pairwise (· <·)
 ss:∀s,s∈x.ss↔ ∃i∈x.aJ,dD rs i=some s
 go:∀s∈x.ss,ks[x.go s]? =some (mF rs x.aJ s)
noncomputable def qY(rs:List Rl)(i:Nat)(ks:List Nat):Prop:=Ib rs ks/\(i≠0->0∉ks)
structure BI(rs:List Rl)(n:Nat)(L:List St):Prop where
 ok:∀(i:Nat)(x:St),L[i]? =some x->qY rs i x.ks
 dn:∀(i:Nat)(x:St),i<n->L[i]? =some x->Done rs (L.map St.ks) x
 fr:∀(i:Nat)(x:St),n<=i->L[i]? =some x->Raw x
theorem Bk(hl:∀i∈aJ,i<total rs):∀i∈uq rs aJ s,i<total rs/\i≠0:=fun i m=>by
 obtain⟨j,mj,rfl⟩:=XN.mp m
 have c:=aaz.mp mj
 exact⟨Mc (hl j c.1) (of_decide_eq_true c.2),YQ _⟩
theorem Gm(hn:aJ.Nodup)(hl:∀i∈aJ,i<total rs):Ib rs (mF rs aJ s)/\0∉mF rs aJ s:=
 ⟨⟨fL (YJ.mpr ((List.Pairwise.filter _ hn).imp fun a e=>a (Nat.succ.inj e))),fun i m=>(Bk hl i (bG.mp m)).1⟩,fun m=>(Bk hl 0 (bG.mp m)).2 rfl⟩
end
section
variable{h h' h0:H}{n i j s a k:Nat}{F go:Nat->Nat}{names:List (List Nat)}{tc:Nat}{rs:List Rl}{ks aJ ys ss:List Nat}{sym:Int}{L L' L0:List St}{x y:St}
noncomputable def Ext(ks:List Nat)(sym:Int)(L L':List St):Prop:=L'=L\/ks∉L.map St.ks/\∃a,L'=L++[⟨a,ks,sym,[],[],[],id⟩]
theorem Ext.get(e:Ext ks sym L L')(q:L[i]? =some x):L'[i]? =some x:=by
 rcases e with rfl|⟨_,a,rfl⟩
 ·exact q
 ·exact(XQ (WL.mp q).1).trans q
theorem Ext.inv(e:Ext ks sym L L')(q:L'[i]? =some x):L[i]? =some x\/Raw x/\x.ks=ks/\i=L.length:=by
 rcases e with rfl|⟨_,a,rfl⟩
 ·exact .inl q
 ·rcases ja q with q|⟨rfl,rfl⟩
  ·exact .inl q
  ·exact .inr ⟨⟨rfl,rfl,rfl⟩,rfl,rfl⟩
theorem Ext.kk(e:Ext ks sym L L'){k:List Nat}(q:(L.map St.ks)[i]? =some k):(L'.map St.ks)[i]? =some k:=by
 rw[Xj]at q ⊢
 obtain⟨x,e1,e2⟩:=Xe.mp q
 rw[e.get e1];exact congrArg some e2
structure Ex(names:List (List Nat))(tc:Nat)(rs:List Rl)(F:Nat->Nat)(h0:H)(m:Nat)(L0:List St)(x:St)(ys:List Nat)(L:List St)(h:H)(go:Nat->Nat):Prop where
 bd:Bd names tc rs F h0 L h
 me:L[m]? =some { x with ss:=ys,go:=go}
 ol:∀(i:Nat)(y:St),i≠m->L0[i]? =some y->L[i]? =some y
 nw:∀(i:Nat)(y:St),L[i]? =some y->L0[i]? =none->Raw y/\qY rs i y.ks
 ks:∀(i:Nat)(k:List Nat),(L0.map St.ks)[i]? =some k->(L.map St.ks)[i]? =some k
 to:∀s∈ys,(L.map St.ks)[go s]? =some (mF rs x.aJ s)
theorem Ex.next{m:Nat}(E:Ex names tc rs F h0 m L0 x ys L h go)(hm:L0[m]? ≠none)(kk:Ib rs (mF rs x.aJ s)/\0∉mF rs x.aJ s)(n:s∉ys)(B:Bd names tc rs F h0 L' h')(ej:(L'.map St.ks)[j]? =some (mF rs x.aJ s))(e:Ext (mF rs x.aJ s) sym L L'):
  Ex names tc rs F h0 m L0 x (ys++[s]) (L'.set m { x with ss:=ys++[s],go:=fun u=>if u=s then j else go u}) (h'.set x.a (some (.dict ((ys++[s]).map kI) (ys.map (fun s=>.int (go s))++[.int j])))) fun u=>if u=s then j else go u:=by
 have me:=e.get E.me
 have c:=(B.st m _ me).2
 have mk:(L'.set m { x with ss:=ys++[s],go:=fun u=>if u=s then j else go u}).map St.ks=L'.map St.ks:=lV me rfl
 refine⟨B.upd me rfl rfl rfl (fun a n _=>ah n) ((ah (XU _)).trans c.1) ((aG (aE c.2)).trans ?_),YM (WL.mp me).1,fun i y n q=>(YG (Ne.symm n)).trans (e.get (E.ol i y n q)),fun i y q z=>?_,fun i k q=>mk▸e.kk (E.ks i k q),fun u hu=>mk▸?_⟩
 ·refine congrArg (fun z=>some (O.dict ((ys++[s]).map kI) z)) ?_
  rw[Xr]
  refine congr (congrArg _ (Zb fun u hu=>?_)) (congrArg (fun z:Nat=>[V.int z]) (if_pos rfl).symm)
  exact congrArg (fun z:Nat=>V.int z) (if_neg fun q:u=s=>n (q▸hu)).symm
 ·rcases get_set q with ⟨_,q⟩|⟨rfl,_⟩
  ·rcases e.inv q with q|⟨c1,c2,c3⟩
   ·exact E.nw i y q z
   ·exact⟨c1,c2▸⟨kk.1,fun _=>kk.2⟩⟩
  ·exact absurd z hm
 ·by_cases q:u=s
  ·cases q;rw[if_pos rfl];exact ej
  ·rw[if_neg q]
   exact e.kk (E.to u ((Xv.mp hu).resolve_right fun m=>q (WW.mp m)))
end
section
variable{d:Nat}{ρ:Env}{h h' h0:H}{Q:V->H->Prop}{K:List C}{sk:List V}{QX:Qs}{b:E}{v:V}{vs:List V}{n i j s r t a f' k m:Nat}{g':Option Nat}{F g go:Nat->Nat}{names:List (List Nat)}{tc:Nat}{rs:List Rl}{ks aJ xs ys ss:List Nat}{L L' L0:List St}{x y x':St}
noncomputable def Mb(xs:List Nat):Nat:=xs.foldr (fun i r=>2 ^ i|||r) 0
theorem rX:(Mb xs).testBit t=true↔t∈xs:=by
 induction xs with
 |nil=>exact⟨(fun e=>by rw[Mb,List.foldr_nil,aaq]at e;exact absurd e Bool.false_ne_true),nofun⟩
 |cons i r ih=>
  show(2 ^ i|||Mb r).testBit t=true↔_
  rw[Ze,Bool.or_eq_true,aaS,decide_eq_true_eq,ih,Xp,eq_comm]
theorem Li(hx:∀i∈xs,i<n):Mb xs<2 ^ n:=by
 induction xs with
 |nil=>exact aaB _
 |cons i r ih=>exact Zl (ZO (by decide) (hx i (.head _))) (ih fun j m=>hx j (.tail _ m))
theorem EG(a:xs.Pairwise (· <·))(b:ys.Pairwise (· <·))(e:∀i,i∈xs↔i∈ys):xs=ys:=
 List.Perm.eq_of_pairwise (le:=(· <·)) (fun x y _ _ p q=>absurd p (abc q)) a b ((List.perm_ext_iff_of_nodup (a.imp WT) (b.imp WT)).mpr e)
theorem vu{K:List (List Nat)}(ht:total rs<=22)(un:K.Nodup)(ok:∀k∈K,Ib rs k/\0∉k):K.length<=2 ^ 21:=by
 refine WH (un.length_le_of_subset (l₂:=(Xq (2 ^ 21)).map fun m=>aO 22 (2*m)) fun k m=>?_) (WO ((WK _).trans Xb))
 have l:=fun i c=>WY ((ok k m).1.2 i c) ht
 have e:2*(Mb k/2)=Mb k:=Nat.mul_div_cancel' (Nat.dvd_of_mod_eq_zero ((aab _).resolve_right fun c=>(ok k m).2 (rX.mp ((Nat.testBit_zero _).trans (decide_eq_true c)))))
 exact XN.mpr ⟨Mb k/2,Yz.mpr (Nat.div_lt_of_lt_mul (Li l)),EG (List.Pairwise.filter _ List.pairwise_lt_range) (ok k m).1.1 fun i=>e.symm▸cW.trans ⟨fun c=>rX.mp c.2,fun c=>⟨l i c,rX.mpr c⟩⟩⟩
theorem uv(ok:gP names tc rs)(B:Bd names tc rs F h0 L h)(kk:∀(i:Nat)(x:St),L[i]? =some x->qY rs i x.ks):L.length<=2097153:=by
 have un:=B.un
 cases L with
 |nil=>exact XI _
 |cons x L=>exact Xi (WH (WO (WK _).symm) (vu ok.Bh (Yr.mp un).2 fun k m=>by
  obtain⟨x,hx,rfl⟩:=XN.mp m
  obtain⟨i,hi⟩:=XH.mp hx
  exact⟨(kk (i+1) x hi).1,(kk (i+1) x hi).2 (YQ i)⟩))
theorem FN(B:Bd names tc rs F h0 L h)(e:L[m]? =some x){w:V}(q:ae f' [12,57,58,59,47,50] [.int m,.tup (aj x.ks),.int x.sy,.lst (aj x.aJ),.ref x.a,.lst (aj x.rd)]=some w)(p:KX d K (w::sk) ρ h QX):KX d (.attr f'::K) (.ref (x.a+1)::sk) ρ h QX:=bp (B.st m x e).2.1 q p
theorem kQ{c:Nat}{fs:List Nat}(g:h.get a=some (.inst c fs vs))(e:(match ae f' fs vs with|.none=>(mp.vR c f').map some|some _=>.none)=some g'):iN mp (.ref a) f' h=some g':=by
 unfold iN
 rw[show rd (.ref a) h=_ from g]
 exact e
theorem Ex.inv(E:Ex names tc rs F h0 m L0 x ys L h go)(hm:L0[m]? ≠none)(q:L[i]? =some y):i=m/\y={ x with ss:=ys,go:=go}\/i≠m/\L0[i]? =some y\/L0[i]? =none/\Raw y/\qY rs i y.ks:=by
 cases z:L0[i]? with
 |none=>exact .inr (.inr ⟨rfl,E.nw i y q z⟩)
 |some w=>
  by_cases c:i=m
  ·cases c
   exact .inl ⟨rfl,Option.some.inj (q.symm.trans E.me)⟩
  ·exact .inr (.inl ⟨c,(E.ol i w c z).symm.trans q⟩)
theorem Done.mono{A B:List (List Nat)}(D:Done rs A x)(k:∀(i:Nat)(u:List Nat),A[i]? =some u->B[i]? =some u):Done rs B x:=⟨D.it,D.rd,D.asc,D.ss,fun s hs=>k _ _ (D.go s hs)⟩
theorem Ex.kk(E:Ex names tc rs F h0 m L0 x ys L h go)(kk:∀(i:Nat)(y:St),L0[i]? =some y->qY rs i y.ks)(e:L0[m]? =some y)(ek:y.ks=x.ks)(i:Nat)(u:St)(q:L[i]? =some u):qY rs i u.ks:=by
 cases z:L0[i]? with
 |none=>exact(E.nw i u q z).2
 |some w=>
  by_cases c:i=m
  ·cases c
   cases q.symm.trans E.me
   exact ek▸kk _ _ e
  ·cases q.symm.trans (E.ol i w c z)
   exact kk i _ z
theorem CQ(ok:gP names tc rs)(hn:x.aJ.Nodup)(hl:∀i∈x.aJ,i<total rs)(asc:ss.Pairwise (· <·))(l8:ss.length<=8)(B:Bd names tc rs F h0 L0 h)(e:L0[m]? =some { x with ss:=[],go:=g})(kk:∀(i:Nat)(y:St),L0[i]? =some y->qY rs i y.ks)
  (q:∀L' h' go u,Ex names tc rs F h0 m L0 x ss L' h' go->KX (d+2) K sk [.v (.ref (h0.size+2)),.v (.ref (x.a+1)),.v (AK rs x.aJ ss),u] h' QX):
  KX (d+2) (.loop (.one 3) (.eS (.attr (.loc 1) 47) (.loc 3) (.aq (.loc 0) 69 (.aa (.sub (.loc 2) (.loc 3)) (.aa (.loc 3) .af))))::K) (AK rs x.aJ ss::sk) [.v (.ref (h0.size+2)),.v (.ref (x.a+1)),.v (AK rs x.aJ ss),.no] h QX:=by
 refine cC (xs:=ss) (g:=fun s:Nat=>V.int s) (fun s:List St×H×(Nat->Nat)×Sl=>[.v (.ref (h0.size+2)),.v (.ref (x.a+1)),.v (AK rs x.aJ ss),s.2.2.2]) (fun s=>s.2.1) (fun ys _ s=>Ex names tc rs F h0 m L0 x ys s.1 s.2.1 s.2.2.1) (L0,h,g,.no) (congrArg some LV) ⟨B,e,fun i y _ q=>q,fun i y q z=>absurd (q.symm.trans z) (by nofun),fun i k q=>q,nofun⟩ (fun ys s zs σ P e' p E=>?_) fun s E=>q _ _ _ _ E
 have n:s∉ys:=fun m=>(Yi.mp (e'▸asc.imp WT:(ys++s::zs).Nodup)).2.2 s m s (.head _) rfl
 have ms:s∈ss:=e'▸Xa ys (.head zs)
 have ly:ys.length<SZ:=WM (WH (WZ _ (s::zs).length) (WH (WO ((len_app (xs:=ys)).symm.trans (congrArg YN e'.symm))) l8)) (by decide)
 try dsimp only[gc_,ae]
 refine fQ (kQ E.bd.bb rfl) ?_
 try dsimp only[gc_,ae]
 refine ag (th.cL rfl (th.yc ms)) ?_
 try dsimp only[gc_,ae]
 refine qx E.bd (WM (uv ok E.bd (E.kk kk e rfl)) (by decide)) fun L' h' j B' ej c=>?_
 have me:=Ext.get c E.me
 try dsimp only[gc_,ae]
 refine FN (x:={ x with ss:=ys,go:=σ.2.2.1}) B' me rfl ?_
 try dsimp only[gc_,ae]
 refine gB (B'.st m _ me).2.2 (th.oJ rfl n (WK _) ly) ?_
 exact p (_,_,_,.v (.int s)) (E.next (by rw[e];nofun) (Gm hn hl) n B' ej c)
theorem expand(ok:gP names tc rs)(fo:cP (tc+3) rs F)(B:Bd names tc rs F h0 L h)(I:BI rs m L)(e:L[m]? =some x)(q:∀L' h',Bd names tc rs F h0 L' h'->BI rs (m+1) L'->Q .none h'):WC (d+5) 47 [.ref (h0.size+2),.ref (x.a+1)] h Q:=by
 obtain⟨a,ks,sy,i0,d0,s0,g⟩:=x
 obtain⟨rfl,rfl,rfl⟩:i0=[]/\d0=[]/\s0=[]:=I.fr m _ (WQ _) e
 have kk:Ib rs ks:=(I.ok m _ e).1
 have ml:=(WL.mp e).1
 refine aD eN [.v (.ref (h0.size+2)),.v (.ref (a+1)),.no,.no] rfl rfl ?_
 dsimp only[gc_,eN,gS]
 refine bp B.bb rfl ?_
 try dsimp only[gc_,ae]
 refine FN B e rfl ?_
 try dsimp only[gc_,ae]
 refine close ok fo kk fun aJ It=>?_
 try dsimp only[gc_,ae]
 refine rH (B.st m _ e).2.1 rfl ?_
 have B1:=B.upd (x':=⟨a,ks,sy,aJ,[],[],g⟩) (h':=h.set (a+1) (some (St.ob ⟨a,ks,sy,aJ,[],[],g⟩ m))) e rfl rfl rfl (fun a _ n=>ah n) (aG (aE (B.st m _ e).2.1)) ((ah (WT (Xk _))).trans (B.st m _ e).2.2)
 have e1:(L.set m ⟨a,ks,sy,aJ,[],[],g⟩)[m]? =some ⟨a,ks,sy,aJ,[],[],g⟩:=YM ml
 show KX _ _ _ _ (h.set (a+1) (some (St.ob ⟨a,ks,sy,aJ,[],[],g⟩ m))) _
 generalize h.set (a+1) (some (St.ob ⟨a,ks,sy,aJ,[],[],g⟩ m))=h1 at B1 ⊢
 try dsimp only[gc_,ae]
 refine bp B1.bb rfl ?_
 try dsimp only[gc_,ae]
 refine FN (x:=⟨a,ks,sy,aJ,[],[],g⟩) B1 e1 rfl ?_
 try dsimp only[gc_,ae]
 refine complete ok It.nd It.lt ?_
 try dsimp only[gc_,ae]
 refine rH (B1.st m _ e1).2.1 rfl ?_
 have B2:=B1.upd (x':=⟨a,ks,sy,aJ,bo (aJ.filterMap (dN rs)),[],g⟩) (h':=h1.set (a+1) (some (St.ob ⟨a,ks,sy,aJ,bo (aJ.filterMap (dN rs)),[],g⟩ m))) e1 rfl rfl rfl (fun a _ n=>ah n) (aG (aE (B1.st m _ e1).2.1)) ((ah (WT (Xk _))).trans (B1.st m _ e1).2.2)
 rw[List.set_set]at B2
 have e2:(L.set m ⟨a,ks,sy,aJ,bo (aJ.filterMap (dN rs)),[],g⟩)[m]? =some ⟨a,ks,sy,aJ,bo (aJ.filterMap (dN rs)),[],g⟩:=YM ml
 show KX _ _ _ _ (h1.set (a+1) (some (St.ob ⟨a,ks,sy,aJ,bo (aJ.filterMap (dN rs)),[],g⟩ m))) _
 generalize h1.set (a+1) (some (St.ob ⟨a,ks,sy,aJ,bo (aJ.filterMap (dN rs)),[],g⟩ m))=h2 at B2 ⊢
 try dsimp only[gc_,ae]
 refine bp B2.bb rfl ?_
 try dsimp only[gc_,ae]
 refine FN (x:=⟨a,ks,sy,aJ,bo (aJ.filterMap (dN rs)),[],g⟩) B2 e2 rfl ?_
 try dsimp only[gc_,ae]
 refine behind ok It.nd It.lt fun ss h3 asc mem G=>?_
 have B3:=B2.grow G
 have kk':∀(i:Nat)(y:St),(L.set m ⟨a,ks,sy,aJ,bo (aJ.filterMap (dN rs)),[],g⟩)[i]? =some y->qY rs i y.ks:=fun i y q=>by
  rcases get_set q with ⟨_,q⟩|⟨rfl,rfl⟩
  ·exact I.ok i y q
  ·exact(I.ok i _ e:)
 refine CQ (x:=⟨a,ks,sy,aJ,bo (aJ.filterMap (dN rs)),[],g⟩) (g:=g) ok It.nd It.lt asc (WH (aQ _ _ (asc.imp WT) fun u hu=>((mem u).mp hu).elim fun j c=>mq ok c.2) ok.n8) B3 e2 kk' fun L' h' go u E=>?_
 have hm:(L.set m ⟨a,ks,sy,aJ,bo (aJ.filterMap (dN rs)),[],g⟩)[m]? ≠none:=by rw[e2];nofun
 have mk:(L.set m ⟨a,ks,sy,aJ,bo (aJ.filterMap (dN rs)),[],g⟩).map St.ks=L.map St.ks:=lV e rfl
 refine q L' h' E.bd ⟨fun i y q=>?_,fun i y l q=>?_,fun i y l q=>?_⟩
 ·rcases E.inv hm q with ⟨rfl,rfl⟩|⟨n,q⟩|c
  ·exact(I.ok _ _ e:)
  ·exact I.ok i y ((YG (Ne.symm n)).symm.trans q)
  ·exact c.2.2
 ·rcases E.inv hm q with ⟨rfl,rfl⟩|⟨n,q⟩|c
  ·exact⟨It,rfl,asc,mem,E.to⟩
  ·exact(I.dn i y (aac (XY l) n) ((YG (Ne.symm n)).symm.trans q)).mono (mk▸E.ks)
  ·have c:=XR.mp c.1
   rw[Zi]at c
   exact absurd (WY ml c) (abu (XY l))
 ·rcases E.inv hm q with ⟨rfl,rfl⟩|⟨n,q⟩|c
  ·exact absurd l (Yq _)
  ·exact I.fr i y (Yk l) ((YG (Ne.symm n)).symm.trans q)
  ·exact c.2.1
end
section
variable{d:Nat}{h h' h0:H}{Q:V->H->Prop}{v:V}{vs:List V}{n i s r a k m:Nat}{F f g go:Nat->Nat}{names:List (List Nat)}{tc:Nat}{rs:List Rl}{ks aJ xs ss:List Nat}{L:List St}{x y:St}
theorem rF{Q:O->H->Prop}(ok:gP names tc rs)(q:∀F,cP (tc+3) rs F->Q (.inst 8 [32,66,46,67] [au names tc rs,dW names tc rs F,.ref h.size,.ref (h.size+1)]) ((h.push (.list [])).push (.dict [] []))):WI (d+3) 45 8 [au names tc rs] h Q:=by
 refine ji gi [.o (.inst 8 [] []),.v (au names tc rs)] rfl rfl ?_
 dsimp only[gc_,gi,jr]
 refine cb rfl ?_
 try dsimp only[kk,fC,dQ]
 refine fg rfl (ue ok fun F fo=>?_)
 try dsimp only[gc_,ae]
 refine cb rfl ?_
 try dsimp only[kk,fC,dQ]
 refine cb rfl (cb rfl ?_)
 exact q F fo
noncomputable def jP(i:Nat)(x:St):V:=.obj 5 [12,57,58,59,47,50] [.int i,.tup (aj x.ks),.int x.sy,.lst (aj x.aJ),.bL (x.ss.map kI) (x.ss.map fun s=>.int (x.go s)),.lst (aj x.rd)]
theorem Lj(e1:h.get (x.a+1)=some (x.ob i))(e2:h.get x.a=some x.mo):Mine.bP 6 (.ref (x.a+1)) h=some (jP i x,(h.set (x.a+1) none).set x.a none):=by
 have e3:Mine.bP 5 (.ref x.a) (h.set (x.a+1) none)=some (.bL (x.ss.map kI) (x.ss.map fun s=>.int (x.go s)),(h.set (x.a+1) none).set x.a none):=by
  show((h.set (x.a+1) none).get x.a).bind _=_
  rw[ah (WT (Xk _)),e2]
  exact congrArg (fun z=>gN (XF (fun r:List V×H=>(O.dict (x.ss.map kI) r.1,r.2)) z)) (bH (n:=4) (xs:=x.ss) (f:=fun s=>V.int (x.go s)) (fun _ _=>rfl) _)
 show(h.get (x.a+1)).bind _=_
 rw[e1]
 exact congrArg (fun z=>gN (XF (fun r:List V×H=>(O.inst 5 [12,57,58,59,47,50] r.1,r.2)) z)) (ak (v:=.int i) rfl (ak (v:=.tup (aj x.ks)) rfl (ak (v:=.int x.sy) rfl (ak (bR (n:=3) (xs:=x.aJ) _) (ak e3 (ak (bR (n:=3) (xs:=x.rd) _) (rfl:jj (bP 5) [] _=_)))))))
theorem Gr(L:List St):∀(k:Nat)(h:H),(∀(i:Nat)(x:St),L[i]? =some x->h.get (x.a+1)=some (x.ob (k+i))/\h.get x.a=some x.mo)->L.Pairwise (fun x y=>x.a+1<y.a)->
  ∃h',jj (Mine.bP 6) (L.map fun x=>.ref (x.a+1)) h=some (L.mapIdx fun i=>jP (k+i),h')/\h'.size=h.size/\∀a,(∀x∈L,a<x.a)->h'.get a=h.get a:=by
 induction L with
 |nil=>exact fun k h _ _=>⟨h,rfl,rfl,fun _ _=>rfl⟩
 |cons x L ih=>
  intro k h g p
  have p:=XE.mp p
  have c:=g 0 x rfl
  refine(ih (k+1) ((h.set (x.a+1) none).set x.a none) (fun i y e=>?_) p.2).imp fun h' c'=>⟨?_,c'.2.1,fun a l=>(c'.2.2 a fun y m=>l y (.tail _ m)).trans ?_⟩
  ·have l:=p.1 y (Xc e)
   have c:=g (i+1) y e
   rw[aad,XO]
   exact⟨(ah (Xz (WV (XC l)))).trans ((ah (Xz (WV l))).trans c.1),(ah (Xz (XC l))).trans ((ah (Xz l)).trans c.2)⟩
  ·rw[aar]
   refine(ak (Lj c.1 c.2) c'.1).trans (congrArg (fun z=>some (jP (k+0) x::z,h')) (congrArg (fun φ=>L.mapIdx φ) (funext fun i=>congrArg jP ?_)))
   rw[aad,XO]
  ·have l:=l x (.head _)
   exact(ah (WT l)).trans (ah (WT (WV l)))
theorem AN:Ab 7 (au names tc rs):=lJ fun h=>ak (cK (n:=5) (bH (f:=V.str) (xs:=names) fun _ _=>rfl) h) (ak (v:=.int tc) rfl (ak (vE (n:=3) (tc:=tc) (rs:=rs) _) (ak (v:=.bL [] []) rfl (ak (v:=.none) rfl (ak (v:=.int (tc+1:Nat)) rfl
  (ak (cK (n:=5) (bH (xs:=Xq names.length) (f:=fun s=>.lst (aj (ko s rs 0))) fun _=>bR (n:=3)) _) (ak (bR (n:=4)  (xs:=eE rs 0) _) (ak (bR (n:=4) (xs:=gp rs 0) _) (ak (v:=.int (total rs)) (vs:=[]) rfl rfl)))))))))
noncomputable def aV(names:List (List Nat))(tc:Nat)(rs:List Rl)(L:List St):V:=.obj 7 [32,46] [au names tc rs,.lst (L.mapIdx jP)]
structure bc(rs:List Rl)(L:List St):Prop where
 ok:∀(i:Nat)(x:St),L[i]? =some x->qY rs i x.ks
 dn:∀(i:Nat)(x:St),L[i]? =some x->Done rs (L.map St.ks) x
 len:L.length<=2097153
theorem Bd.bP(B:Bd names tc rs F h0 L h):∃h',Mine.bP 8 (.obj 7 [32,46] [au names tc rs,.ref h0.size]) h=some (aV names tc rs L,h')/\Ge h0 h':=by
 obtain⟨h',c⟩:=Gr L 0 (h.set h0.size none) (fun i x e=>by
  have c:=B.st i x e
  have l:=XC (XC c.1)
  rw[XG]
  exact⟨(ah (Xz (WV l))).trans c.2.1,(ah (Xz l)).trans c.2.2⟩) B.ap
 have e:Mine.bP 7 (.ref h0.size) h=some (.lst (L.mapIdx jP),h'):=by
  show(h.get h0.size).bind _=_
  rw[B.ls]
  refine(congrArg (fun z=>gN (XF (fun r:List V×H=>(O.list r.1,r.2)) z)) c.1).trans (congrArg (fun φ=>some (V.lst (L.mapIdx φ),h')) (funext fun i=>congrArg jP (XG i)))
 refine⟨h',congrArg (fun z=>gN (XF (fun r:List V×H=>(O.inst 7 [32,46] r.1,r.2)) z)) (ak (AN h) (ak e (vs:=[]) rfl)),⟨c.2.1▸B.ge.sz,fun a l=>(c.2.2 a fun x m=>?_).trans ((ah (WT l)).trans (B.ge.kp a l))⟩⟩
 obtain⟨i,hi⟩:=XH.mp m
 exact Yw l (XC (XC (B.st i x hi).1))
theorem JI(g:h.get a=some (.list vs))(e:vs[n]? =some v):cL (.ref a) (.int n) h=some v:=by
 show(h.get a).bind _=_
 rw[g];exact e
end
section
variable{d:Nat}{ρ:Env}{h h' h0:H}{Q:V->H->Prop}{K:List C}{sk:List V}{QX:Qs}{v:V}{n i j s r a k m:Nat}{F g:Nat->Nat}{names:List (List Nat)}{tc:Nat}{rs:List Rl}{ks:List Nat}{sym:Int}{L L':List St}{x:St}
theorem yC{Q:O->H->Prop}{u w:V}(q:Q (.inst 7 [32,46] [u,w]) h):WI (d+1) 43 7 [u,w] h Q:=
 ji gV [.o (.inst 7 [] []),.v u,.v w] rfl rfl q
theorem AY(ok:gP names tc rs):(eE rs 0)[0]? =some 0/\0<total rs:=by
 have e:=ok.r0
 cases rs with
 |nil=>exact nomatch e
 |cons r rs=>exact⟨rfl,WY (XK _) (WZ _ _)⟩
theorem vp(ok:gP names tc rs)(fo:cP (tc+3) rs F)(B:Bd names tc rs F h0 L h)(I:BI rs 0 L)(q:∀L h u,Bd names tc rs F h0 L h->bc rs L->KX (d+5) K sk [.v (.ref (h0.size+2)),u] h QX):
  KX (d+5) (.s (.dd (.cmp .lt (.loc 1) (.bi .len (.aa (.attr (.loc 0) 46) .af))) (.seq (.ex (.aq (.loc 0) 70 (.aa (.sub (.attr (.loc 0) 46) (.loc 1)) .af))) (.asg 1 (.bin .add (.loc 1) (.lit (.int 1))))))::K) sk [.v (.ref (h0.size+2)),.v (.int 0)] h QX:=by
 refine lh (fun a ρ h'=>∃L m,Bd names tc rs F h0 L h'/\BI rs m L/\a=2097154-m/\ρ=[.v (.ref (h0.size+2)),.v (.int (m:Nat))]) _ ⟨L,0,B,I,rfl,rfl⟩ ?_
 rintro _ _ h ⟨L,m,B,I,rfl,rfl⟩
 have lc:=uv ok B I.ok
 try dsimp only[gc_,ae]
 refine bp B.bb rfl (ag (qz B.ls) ?_)
 rw[WK]
 try dsimp only[gc_,ae]
 refine dm (fun l=>?_) fun l=>?_
 ·have l:=XJ.mp l
  try dsimp only[gc_,ae]
  refine fQ (kQ B.bb rfl) ?_
  try dsimp only[gc_,ae]
  refine bp B.bb rfl ?_
  try dsimp only[gc_,ae]
  refine ag (JI B.ls (oU l)) ?_
  try dsimp only[gc_,ae]
  refine expand ok fo B I (WR l) fun L' h' B' I'=>?_
  try dsimp only[gc_,ae]
  exact⟨_,ZN _ _ (WV (WY l lc)),L',m+1,B',I',rfl,rfl⟩
 ·exact q L h _ B ⟨I.ok,fun i x e=>I.dn i x (WY (WL.mp e).1 (YB fun c=>l (XJ.mpr c))) e,lc⟩
theorem NY(ok:gP names tc rs)(fo:cP (tc+3) rs F)(B:Bd names tc rs F h0 [] h)(q:∀L h',bc rs L->Ge h0 h'->Q (aV names tc rs L) h'):WC (d+6) 48 [.ref (h0.size+2)] h Q:=by
 refine aD fe [.v (.ref (h0.size+2)),.no] rfl rfl ?_
 dsimp only[gc_,fe,iw]
 refine fQ (kQ B.bb rfl) ?_
 try dsimp only[gc_,ae]
 refine bp B.bb rfl ?_
 try dsimp only[gc_,ae]
 refine wO (k:=0) (AY ok).1 ?_
 try dsimp only[gc_,ae]
 refine qx (ks:=[0]) (sym:= -1) B (by decide) fun L' h' j B' ej c=>?_
 try dsimp only[gc_,ae]
 refine vp ok fo B' ⟨fun i x e=>?_,nofun,fun i x _ e=>?_⟩ fun L h u B A=>?_
 ·rcases Ext.inv c e with e|c
  ·exact nomatch e
  ·exact c.2.1▸⟨⟨XE.mpr ⟨nofun,.nil⟩,fun i m=>by cases WW.mp m;exact(AY ok).2⟩,fun n=>absurd c.2.2 n⟩
 ·rcases Ext.inv c e with e|c
  ·exact nomatch e
  ·exact c.1
 try dsimp only[gc_,ae]
 refine bp B.bb rfl ?_
 try dsimp only[gc_,ae]
 refine bp B.bb rfl ?_
 try dsimp only[gc_,ae]
 refine fg rfl (yC ?_)
 try dsimp only[gc_,ae]
 obtain⟨h2,e,g⟩:=B.bP
 exact vC e (q L h2 A g)
theorem build(ok:gP names tc rs)(q:∀L h',bc rs L->Ge h h'->Q (aV names tc rs L) h'):WC (d+7) 49 [au names tc rs] h Q:=by
 refine aD rW [.v (au names tc rs)] rfl rfl ?_
 dsimp only[gc_,rW,xD]
 refine fg rfl (rF ok fun F fo=>?_)
 try dsimp only[gc_,ae]
 refine fQ (kQ aL rfl) ?_
 try dsimp only[gc_,ae]
 refine NY (F:=F) (h0:=h) ok fo ⟨Ge.refl.push.push.push,aL,?_,?_,.nil,nofun,.nil⟩ q
 ·exact(ay (WV (Xk _))).trans ((ay (Xk _)).trans aL)
 ·exact(ay (Xk _)).trans aL
end
section
theorem Oq:∀b,∀y∈qe,rx b<qd b y:=by decide
theorem vY:∀b,0<rx b:=by decide
theorem zb{φ:Pair->Rl}(e:∀x,(φ x).2.length=x.2.length)(xs:List Pair):total (xs.map φ)=(xs.map fun x=>x.2.length+1).sum:=by
 induction xs with
 |nil=>rfl
 |cons x xs ih=>exact congr (congrArg (fun a b=>a+1+b) (e x)) ih
theorem rn{α:Type}{φ:α->Nat}{n:Nat}{xs:List α}(a:∀x∈xs,φ x<=n):(xs.map φ).sum<=n*xs.length:=by
 induction xs with
 |nil=>exact WQ _
 |cons x xs ih=>exact WH (XM (a x (.head _)) (ih fun y m=>a y (.tail _ m))) (WO (Yx _ _))
theorem DP.Ah(D:DP):gP D.names D.tc D.rs where
 t5:=jT _
 nm:=aX _
 tY:=Xi (WH (WO (WK _)) D.Be)
 Bh:=by
  show 3+total (D.P.map (iX D.b))<=22
  rw[zb fun x=>WK _]
  have a:(D.rest.map fun x=>x.2.length+1).sum<=5*D.rest.length:=rn fun x m=>Xi (D.ok x m).hi
  have b:D.t2.length<=1:=by rcases D.h2 with e|e<;>rw[e]<;>decide
  have c:=WH a (XW 5 D.tY)
  exact Xf (m:=19) (Xf (m:=17) (XM (Xi b) c) 2) 3
 lo:=fun r m=>by
  rcases Xp.mp m with rfl|m
  ·refine⟨WQ _,Xx (XK _),fun t m=>?_⟩
   rcases Xp.mp m with rfl|m
   ·exact⟨WV (Xk _),XU _⟩
   ·cases WW.mp m
    exact⟨XK _,WT (vY _)⟩
  ·obtain⟨x,n,rfl⟩:=XN.mp m
   refine⟨Xl (Oq _ _ (D.row x n).1),(D.Ng n).2.1,fun t m=>?_⟩
   obtain⟨y,my,rfl⟩:=XN.mp m
   exact(D.ix n my).2
 r0:=rfl
 one:=fun i x e n=>by
  cases i with
  |zero=>exact absurd rfl n
  |succ i=>
   obtain⟨y,m,rfl⟩:=XN.mp (Xc e)
   exact(D.Ng m).2.2
end
section
variable{d:Nat}{ρ:Env}{h:H}{Q:V->H->Prop}{K:List C}{sk:List V}{QX:Qs}{D:DP}{r n:Nat}{p:Pair}{xs ws:List (List Nat)}{s:List Nat}
theorem strs_map:strs? (xs.map V.str)=some xs:=by
 induction xs with
 |nil=>rfl
 |cons x xs ih=>exact congrArg (XF (x::·)) ih
noncomputable def zd(s:List Nat)(xs:List (List Nat)):Nat:=(xs.map YN).sum+xs.length*s.length
theorem sA(l:zd s xs<=SZ)(q:KX d K (.str (eI s xs)::sk) ρ h QX):KX d (.aq 7 .none::K) (.tup [.lst (xs.map V.str)]::.str s::sk) ρ h QX:=by
 refine OX (v:=.str (eI s xs)) ?_ q
 show(strs? (xs.map V.str)).bind _=_
 rw[strs_map]
 exact bu l
theorem lS:(eI s xs).length<=zd s xs:=by
 induction xs with
 |nil=>exact XI _
 |cons x xs ih=>
  cases xs with
  |nil=>show x.length<=x.length+0+_;exact WH (WZ _ _) (WZ _ _)
  |cons y r=>
   show(x++s++eI s (y::r)).length<=_
   rw[Xd,Xd]
   refine WH (Xf ih _) (WO ?_)
   unfold zd
   rw[Za (l:=y::r),List.sum_cons,XT (as:=y::r),Nat.succ_mul]
   lia
theorem uQ{x y:List Nat}(l:x.length+y.length<=SZ):pU .add (.str x) (.str y)=some (.str (x++y)):=bu l
noncomputable def DP.Im(D:DP):List Pair:=(vk,[[115],N0])::D.P
theorem IB:∀b,∀y∈cO b,(cO b)[qd b y]? =some y:=by decide
theorem OP:∀b,iX b (vk,[[115],N0])=(rx b,[rx b+1,0]):=by decide
theorem Aw:∀b,vk∈cO b/\∀y∈[[115],N0],y∈cO b:=by decide
theorem cR:∀b,∀y∈cO b,y.length<=10:=by decide
theorem DP.vB(D:DP):D.rs=D.Im.map (iX D.b):=congrArg (· ::D.P.map (iX D.b)) (OP D.b).symm
structure Fj(D:DP)(p:Pair):Prop where
 l:p.1∈D.names
 w:∀y∈p.2,y∈D.names
 n:p.2.length<=4
theorem DP.Mt(D:DP)(m:p∈D.Im):Fj D p:=by
 rcases Xp.mp m with rfl|m
 ·exact⟨(Aw _).1,(Aw _).2,(by decide:2<=4)⟩
 ·exact⟨(D.Ng m).1,fun y n=>(D.ix m n).1,(D.row p m).2.1⟩
noncomputable def rU(ws:List (List Nat))(dot:Int):List (List Nat):=if 0<=dot then ws.take dot.toNat++[46]::ws.drop dot.toNat else ws
noncomputable def oQ(p:Pair)(dot:Int):List Nat:=p.1++[32,58,32]++eI [32] (rU p.2 dot)
theorem xT(a:∀x∈xs,x.length<=10)(l:xs.length<=5):zd [32] xs<=55:=WH (XM (rn a) (YH 1 l)) (WH (Xw (XW 10 l) _) (by decide))
theorem kJ(P:Fj D p)(dot:Int):zd [32] (rU p.2 dot)<=55:=by
 have a:∀x∈p.2,x.length<=10:=fun y m=>cR _ y (P.w y m)
 unfold rU
 split
 ·refine xT (fun x m=>?_) ?_
  ·rcases Xv.mp m with m|m
   ·exact a x (aaH m)
   ·rcases Xp.mp m with rfl|m
    ·decide
    ·exact a x (List.mem_of_mem_drop m)
  ·rw[Xd,XT, <-XO, <-Xd,Zk]
   exact Xi P.n
 ·exact xT a (XS P.n)
theorem fM(P:Fj D p)(dot:Int):(oQ p dot).length<=68:=by
 unfold oQ
 rw[Xd,Xd]
 exact XM (Xw (cR _ _ P.l) 3) (WH lS (kJ P dot))
theorem vV{n:Nat}:((ws.take n).map V.str)++V.str s::(ws.drop n).map V.str=(ws.take n++s::ws.drop n).map V.str:=(Xr (f:=V.str) (l₂:=s::ws.drop n)).symm
theorem mR{dot:Int}{vs:List Mine.V}(hb:iI gF vs=some [.v D.G,.v (.int r),.v (.int dot),.no,.no,.no])(e:D.Im[r]? =some p)(hd:dot<=p.2.length)(q:Q (.str (oQ p dot)) h):WC (d+1) 13 vs h Q:=by
 have P:=D.Mt (Xc e)
 have er:D.rs[r]? =some (iX D.b p):=by rw[D.vB,Xj,e];rfl
 refine aD gF _ rfl hb ?_
 dsimp only[gc_,gF,mV,DP.G]
 refine ag (uc er) ?_
 try dsimp only[gc_,ae]
 refine bj (xs:=p.2) (fun y=>.int (qd D.b y:Nat)) V.str (congrArg some Yd) (WH P.n (by decide)) (fun y m P' q=>?_) ?_
 ·try dsimp only[gc_,ae]
  exact ag (bY (Xj.trans (congrArg (XF V.str) (IB _ y (P.w y m))))) q
 try dsimp only[gc_,ae]
 have rest:KX d [.s (.seq (.fz 4) (.ret (.bin .add (.bin .add (.sub (.attr (.loc 0) 19) (.attr (.loc 3) 13)) (.lit (.str [32,58,32]))) (.aq (.lit (.str [32])) 7 (.aa (.loc 4) .af)))))] [] [.v D.G,.v (.int r),.v (.int dot),.v (eF D.tc r (iX D.b p)),.o (.list ((rU p.2 dot).map V.str)),.no] h (Rt Q):=by
  dsimp only[gc_,DP.G]
  refine ag (bY (Xj.trans (congrArg (XF V.str) (IB _ _ P.l)))) (ag (uQ ?_) ?_)
  ·exact WH (Xw (cR _ _ P.l) 3) (by decide)
  try dsimp only[gc_,ae]
  refine sA (WH (kJ P dot) (by decide)) (ag (uQ ?_) q)
  rw[Xd]
  exact WH (XM (Xw (cR _ _ P.l) 3) (WH lS (kJ P dot))) (by decide)
 refine dm (fun z=>?_) fun z=>?_
 ·try dsimp only[gc_,ae]
  refine Gz z (by rw[WK];exact hd) (WM (WH (WO (WK _)) P.n) (by decide)) ?_
  rw[<-aaV, <-abW,vV]
  rw[rU,if_pos z]at rest
  exact rest
 ·rw[rU,if_neg z]at rest
  exact rest
theorem pq{dot:Int}(e:D.Im[r]? =some p)(hd:dot<=p.2.length)(q:Q (.str (oQ p dot)) h):WC (d+1) 69 [D.V,.int r,.int dot] h Q:=by
 have P:=D.Mt (Xc e)
 refine aD jn [.v D.V,.v (.int r),.v (.int dot),.no,.no,.no] rfl rfl ?_
 dsimp only[gc_,jn,nh,DP.V]
 refine ag (v:=.lst (D.Im.map gq)) (bu ?_) ?_
 ·rw[WK]
  exact WH (Xf D.Be 1) (by decide)
 refine ag (bY (Xj.trans (congrArg (XF gq) e))) ?_
 dsimp only[gc_,gq]
 refine ag (bu (WH (WO (WK _)) (WH P.n (by decide)))) ?_
 try dsimp only[gc_,ae]
 have rest:KX d [.s (.ret (.bin .add (.bin .add (.loc 3) (.lit (.str [32,58,32]))) (.aq (.lit (.str [32])) 7 (.aa (.loc 5) .af))))] [] [.v D.V,.v (.int r),.v (.int dot),.v (.str p.1),.v (.lst (p.2.map V.str)),.v (.lst ((rU p.2 dot).map V.str))] h (Rt Q):=by
  dsimp only[gc_,ae]
  refine ag (uQ (WH (Xw (cR _ _ P.l) 3) (by decide))) ?_
  try dsimp only[gc_,ae]
  refine sA (WH (kJ P dot) (by decide)) (ag (uQ ?_) q)
  rw[Xd]
  exact WH (XM (Xw (cR _ _ P.l) 3) (WH lS (kJ P dot))) (by decide)
 refine dm (fun z=>?_) fun z=>?_
 ·obtain⟨n,rfl⟩:=Yn z
  have hd:=XX.mp hd
  have ln:p.2.length<=SZ:=WH P.n (by decide)
  rw[rU,if_pos z]at rest
  try dsimp only[gc_,ae]
  refine vD (WH hd ln) (WH (WO (WK _)) ln) ?_
  rw[<-aaV]
  refine ag (lW (xs:=p.2.take n) (ys:=[[46]]) ?_) ?_
  ·rw[aN]
   exact WH (Xi (WH (aaM n p.2) P.n)) (by decide)
  try dsimp only[gc_,ae]
  refine ux (WH hd ln) (WH (WO (WK _)) ln) ?_
  rw[<-abW]
  refine ag (lW (xs:=p.2.take n++[[46]]) (ys:=p.2.drop n) ?_) ?_
  ·rw[len_app,aN,Nat.succ_add, <-len_app,Zk]
   exact WH (Xi P.n) (by decide)
  rw[Xn]
  exact rest
 ·rw[rU,if_neg z]at rest
  exact rest
end
section
variable{d:Nat}{ρ:Env}{h h0:H}{Q:V->H->Prop}{K:List C}{sk:List V}{QX:Qs}{v:V}{vs:List V}{n i s t a k:Nat}{g:Nat->Nat}{xs ys:List Nat}{U:Nat->List Nat}
theorem zB{el:E}{t:T}{vs:List V}(e:gt ρ i=.o (.list vs))(q:KX d (.aM el t::K) (.lst vs::sk) ρ h QX):KX d (.e (.je el t i)::K) sk ρ h QX:=by
 have q:wI False vs (cJ False t ρ (fun ρ h k=>ev mp (mP d) el ρ h fun v h=>k (some v) h) vs h fun xs h=>KX d K (.lst xs::sk) ρ h QX):=q
 show dy False (gt ρ i) fun o=>match o with|.list vs=>_|_=>False
 rw[e]
 show cJ False t ρ (fun ρ h k=>ev mp (mP d) el ρ h fun v h=>k (some v) h) vs h fun xs h=>KX d K (.lst xs::sk) ρ h QX
 unfold wI at q
 cases z:decide (vs.length<=SZ) with
 |true=>rw[z]at q;exact q
 |false=>rw[z]at q;exact q.elim
theorem CG(g:h.get a=some (.list (aj xs))):zH .cg (.int n) (.ref a) h=some (!decide (n∈xs)):=by
 show((h.get a).bind (Mine.bX (.int n))).map _=_
 rw[g]
 exact congrArg (XF (!·)) uT
theorem BR(g:h.get a=some (.list (aj xs)))(l:xs.length<SZ)(q1:n∈xs->Q .none h)(q2:n∉xs->Q .none (h.set a (some (.list (aj (xs++[n])))))):WC (d+1) 26 [.ref a,.int n] h Q:=by
 refine aD jZ [.v (.ref a),.v (.int n)] rfl rfl ?_
 dsimp only[gc_,jZ,px]
 refine cN (CG g) (eM (fun c=>?_) fun c=>q1 c)
 try dsimp only[gc_,ae]
 refine cV rfl g ?_
 try dsimp only[gc_,ae]
 refine dC g (WM (WO az) l) ?_
 rw[show aj xs++[V.int n]=aj (xs++[n]) from bf (ys:=[n])]
 exact q2 c
structure Cells(h0:H)(N:Nat)(U:Nat->List Nat)(h:H):Prop where
 ge:Ge h0 h
 gl:∀s,s<N->h.get (h0.size+s)=some (.list (aj (U s)))
theorem Cells.set{N:Nat}(C:Cells h0 N U h)(hs:s<N){U':Nat->List Nat}(e:U' s=U s++[n])(e2:∀t,t≠s->U' t=U t):Cells h0 N U' (h.set (h0.size+s) (some (.list (aj (U s)++[.int n])))) where
 ge:=C.ge.set (WZ _ _)
 gl:=fun t ht=>by
  by_cases c:t=s
  ·cases c
   rw[aG (aE (C.gl _ hs)),e, <-bf];rfl
  ·rw[ah fun z=>c (YL z),e2 t c]
   exact C.gl t ht
end
section
variable{d:Nat}{ρ:Env}{h h' h0:H}{K:List C}{sk:List V}{QX:Qs}{b:E}{v:V}{n N i j s t a m:Nat}{f g:Nat->Nat}{names:List (List Nat)}{tc:Nat}{rs:List Rl}{xs ys qs:List Nat}{U:Nat->List Nat}{x:Rl}{g6 g7 g8:Sl}
noncomputable def eB(N:Nat)(qs:List Nat):List V:=(Xq N).map fun s=>V.bool (decide (s∈qs))
noncomputable def qh(G kn:V)(N:Nat)(qs:List Nat)(lk:List V)(us r6 r7 r8 r9 r10 r11:Sl):Env:=[.v G,.v kn,.o (.list (eB N qs)),.o (.list lk),us,.o (.list (aj qs)),r6,r7,r8,r9,r10,r11,.no]
theorem qC{ys zs:List Rl}:total (ys++zs)=total ys+total zs:=by
 induction ys with
 |nil=>exact(XG _).symm
 |cons y ys ih=>show y.2.length+1+total (ys++zs)=_;rw[ih, <-XO];rfl
theorem zD{ys zs:List Rl}(e:rs=ys++x::zs):total ys+(x.2.length+1)<=total rs:=by
 rw[e,qC]
 exact Xf (WZ _ (total zs)) _
structure Us(h0:H)(N R c:Nat)(U:Nat->List Nat)(h:H):Prop where
 ce:Cells h0 N U h
 l:∀s,(U s).length<=c
 n:∀s,∀i∈U s,i<R
noncomputable def HU(U:Nat->List Nat)(t i s:Nat):List Nat:=if s=t then U t++[i] else U s
theorem Us.add{R c:Nat}(W:Us h0 N R c U h)(ht:t<N)(hi:i<R):Us h0 N R (c+1) (HU U t i) (h.set (h0.size+t) (some (.list (aj (U t)++[.int i])))) where
 ce:=W.ce.set ht (if_pos rfl) fun s e=>if_neg e
 l:=fun s=>by
  unfold HU
  by_cases e:s=t
  ·rw[if_pos e,aN];exact Xi (W.l t)
  ·rw[if_neg e];exact XS (W.l s)
 n:=fun s j hj=>by
  unfold HU at hj
  by_cases e:s=t
  ·rw[if_pos e]at hj
   exact(Xv.mp hj).elim (W.n t j) fun m=>WW.mp m▸hi
  ·rw[if_neg e]at hj;exact W.n s j hj
theorem lX(hi:i<N):aH (.list (eB N qs)) (.int i)=some (.bool (decide (i∈qs))):=dR hi
theorem FG{s1 s2:S}(q:KX d (.s s1::K) sk ρ h QX):KX d (.eU s1 s2::K) (.bool (!decide (i∈([]:List Nat)))::sk) ρ h QX:=eM (fun _=>q) fun c=>nomatch c
theorem EW(ok:gP names tc rs){kn:V}{us:Sl}(hu:us=.v (.lst (refs h0.size (tc+3))))(W:Us h0 (tc+3) rs.length 0 U h)
  (q:∀U h' r6 r7 r8,Us h0 (tc+3) rs.length 22 U h'->KX d K sk (qh (au names tc rs) kn (tc+3) [] (rs.map fun x=>.int x.2.length) us r6 r7 r8 .no .no .no) h' QX):
  KX d (.loop (.one 6) (.seq (.asg 7 (.lit (.int 0))) (.seq (.loop (.one 8) (.attr (.loc 6) 14) (.ite (.not (.aH 2 (.loc 8))) (.seq (.asg 7 (.bin .add (.loc 7) (.lit (.int 1)))) (.ex (.aq (.sub (.loc 4) (.loc 8)) 0 (.aa (.attr (.loc 6) 12) .af)))) S.skip)) (.mO 3 0 (.aa (.loc 7) .af))))::K) (zZ tc rs::sk)
   (qh (au names tc rs) kn (tc+3) [] [] us .no .no .no .no .no .no) h QX:=by
 subst hu
 refine kM (xs:=rs) (eF tc) (fun s:(Nat->List Nat)×H×List V×Sl×Sl×Sl=>qh (au names tc rs) kn (tc+3) [] s.2.2.1 (.v (.lst (refs h0.size (tc+3)))) s.2.2.2.1 s.2.2.2.2.1 s.2.2.2.2.2 .no .no .no) (fun s=>s.2.1) (fun ys _ s=>Us h0 (tc+3) rs.length (total ys) s.1 s.2.1/\s.2.2.1=ys.map fun x=>.int x.2.length) (U,h,[],.no,.no,.no) rfl ⟨W,rfl⟩ (fun ys x zs s P e p I=>?_) fun s I=>?_
 ·obtain⟨U,h1,lk,g6,g7,g8⟩:=s
  obtain⟨W,rfl⟩:=I
  have hx:=ok.lo x (e▸Xa _ (.head _))
  have hl:ys.length<rs.length:=e▸len_app (xs:=ys)▸Xx (XK _)
  have ht:total ys+(x.2.length+1)<=22:=WH (zD e) ok.Bh
  dsimp only[gc_,qh]
  refine cC (xs:=x.2) (g:=fun s:Nat=>V.int s) (fun s:(Nat->List Nat)×H×Nat×Sl=>qh (au names tc rs) kn (tc+3) [] (ys.map fun x=>.int x.2.length) (.v (.lst (refs h0.size (tc+3)))) (.v (eF tc ys.length x)) (.v (.int s.2.2.1)) s.2.2.2 .no .no .no) (fun s=>s.2.1) (fun us _ s=>Us h0 (tc+3) rs.length (total ys+us.length) s.1 s.2.1/\s.2.2.1=us.length) (U,h1,0,g8) rfl ⟨W,rfl⟩ (fun us t ws s P' e' p' I=>?_) fun s I=>?_
  ·obtain⟨U,h1,c,g8⟩:=s
   obtain⟨W,rfl⟩:=I
   have tn:=(hx.2.2 t (e'▸Xa us (.head ws))).1
   have lu:us.length<=x.2.length:=e'▸len_app (xs:=us)▸WZ _ _
   have p':=p' (HU U t ys.length,_,us.length+1,.v (.int t)) ⟨by rw[aN];exact W.add tn hl,aN.symm⟩
   dsimp only[gc_,qh]
   refine bS (lX tn) ?_
   try dsimp only[gc_,ae]
   refine FG ?_
   try dsimp only[gc_,ae]
   refine ag (bY (dR tn)) (cV rfl (W.ce.gl t tn) ?_)
   try dsimp only[gc_,ae]
   refine dC (W.ce.gl t tn) (WM (WH (WO az) (WH (W.l t) (WH (WH (Xf (XS lu) _) ht) (by decide:22<=22)))) (by decide)) ?_
   exact p'
  ·obtain⟨U,h1,c,g8⟩:=s
   obtain⟨W,rfl⟩:=I
   have p:=p (U,h1,(ys++[x]).map fun x=>.int x.2.length,.v (eF tc ys.length x),.v (.int x.2.length),g8) ⟨?_,rfl⟩
   ·rw[Xr (f:=fun x:Rl=>V.int x.2.length)]at p
    dsimp only[gc_,qh]
    refine aT ?_ p
    rw[WK]
    exact Yw hl (WM ok.tY (by decide))
   ·rw[qC]
    exact⟨W.ce,fun s=>WH (W.l s) (Xf (Yj _) _),W.n⟩
 ·obtain⟨U,h1,lk,g6,g7,g8⟩:=s
  obtain⟨W,rfl⟩:=I
  exact q U h1 g6 g7 g8 ⟨W.ce,fun s=>WH (W.l s) ok.Bh,W.n⟩
theorem qD(hi:i<N):fN (.list (eB N qs)) (.int i) (.bool true)=some (.list (eB N (qs++[i]))):=
 tA hi (congrArg V.bool (decide_eq_true (Xa _ (.head _))).symm) fun j n=>congrArg V.bool (decide_eq_decide.mpr ⟨Xh _,fun m=>(Xv.mp m).resolve_right fun m=>n (WW.mp m)⟩)
noncomputable def Mk(N:Nat)(qs:List Nat):Prop:=qs.Nodup/\∀s∈qs,s<N
theorem Mk.add(M:Mk N qs)(hi:i<N)(n:i∉qs):Mk N (qs++[i]):=
 ⟨Yi.mpr ⟨M.1,Yr.mpr ⟨nofun,.nil⟩,fun a ha b hb q=>n (WW.mp hb▸q▸ha)⟩,fun s m=>(Xv.mp m).elim (M.2 s) fun m=>WW.mp m▸hi⟩
theorem Mk.len(M:Mk N qs):qs.length<=N:=aQ _ _ M.1 M.2
theorem GW(ok:gP names tc rs){kn:V}{us:Sl}{lk:List Int}(hk:lk.length=rs.length)
  (q:∀qs r6,Mk (tc+3) qs->KX d K sk (qh (au names tc rs) kn (tc+3) qs (lk.map .int) us r6 g7 g8 .no .no .no) h QX):
  KX d (.loop (.one 6) (.ite (.and (.cmp .eq (.aH 3 (.attr (.loc 6) 12)) (.lit (.int 0))) (.not (.aH 2 (.attr (.loc 6) 13)))) (.seq (.aP 2 (.attr (.loc 6) 13) (.lit (.bool true))) (.mO 5 0 (.aa (.attr (.loc 6) 13) .af))) S.skip)::K) (zZ tc rs::sk)
   (qh (au names tc rs) kn (tc+3) [] (lk.map .int) us g6 g7 g8 .no .no .no) h QX:=by
 refine kM (xs:=rs) (eF tc) (fun s:List Nat×Sl=>qh (au names tc rs) kn (tc+3) s.1 (lk.map .int) us s.2 g7 g8 .no .no .no) (fun _=>h) (fun ys _ s=>Mk (tc+3) s.1) ([],g6) rfl ⟨.nil,nofun⟩ (fun ys x zs s P e p M=>?_) fun s M=>q _ _ M
 have hx:=(ok.lo x (e▸Xa _ (.head _))).2.1
 have hl:ys.length<lk.length:=hk▸(e▸len_app (xs:=ys)▸Xx (XK _))
 dsimp only[gc_,qh]
 refine bS (oU hl) ?_
 try dsimp only[gc_,ae]
 refine nq (fun _=>?_) fun _=>p (s.1,.v (eF tc ys.length x)) M
 try dsimp only[gc_,ae]
 refine bS (lX hx) ?_
 try dsimp only[gc_,ae]
 refine eM (fun n=>?_) fun n=>p (s.1,.v (eF tc ys.length x)) M
 try dsimp only[gc_,ae]
 refine cU (qD hx) ?_
 try dsimp only[gc_,ae]
 refine aT (WM (WH (WO az) (WH M.len ok.n8)) (by decide)) ?_
 rw[show aj s.1++[V.int x.1]=aj (s.1++[x.1]) from bf (ys:=[x.1])]
 exact p (s.1++[x.1],_) (M.add hx n)
theorem zJ{lk:List Int}{z:Int}(hi:i<lk.length):fN (.list (lk.map V.int)) (.int i) (.int z)=some (.list ((lk.set i z).map V.int)):=by
 show(match decide ((0:Int)<=i)&&decide ((i:Int)<((lk.map V.int).length:Nat)) with|true=>some _|false=>none)=_
 rw[WK,decide_eq_true (WU i),decide_eq_true (XJ.mpr hi),List.map_set];rfl
theorem GY(ok:gP names tc rs){kn:V}{lk:List Int}(hU:∀s,∀i∈U s,i<rs.length)(hk:lk.length=rs.length)(M:Mk (tc+3) qs){us:V}(eu:us=.lst ((Xq (tc+3)).map fun s=>.lst (aj (U s))))
  (q:∀qs lk r9 r10 r11,KX d K sk (qh (au names tc rs) kn (tc+3) qs lk (.v us) g6 g7 g8 r9 r10 r11) h QX):
  KX d (.s (.dd (.cmp .lt (.loc 9) (.cM 5)) (.seq (.loop (.one 10) (.sub (.loc 4) (.aH 5 (.loc 9))) (.seq (.aP 3 (.loc 10) (.bin .sub (.aH 3 (.loc 10)) (.lit (.int 1))))
  (.seq (.asg 11 (.attr (.sub (.attr (.loc 0) 21) (.loc 10)) 13))
  (.ite (.and (.cmp .eq (.aH 3 (.loc 10)) (.lit (.int 0))) (.not (.aH 2 (.loc 11)))) (.seq (.aP 2 (.loc 11) (.lit (.bool true)))
  (.mO 5 0 (.aa (.loc 11) .af))) S.skip))))
  (.asg 9 (.bin .add (.loc 9) (.lit (.int 1))))))::K) sk (qh (au names tc rs) kn (tc+3) qs (lk.map .int) (.v us) g6 g7 g8 (.v (.int 0)) .no .no) h QX:=by
 refine lh (fun a ρ h'=>∃(s:List Nat×List Int×Nat×Sl×Sl),(Mk (tc+3) s.1/\s.2.1.length=rs.length)/\a=tc+4-s.2.2.1/\ρ=qh (au names tc rs) kn (tc+3) s.1 (s.2.1.map .int) (.v us) g6 g7 g8 (.v (.int s.2.2.1)) s.2.2.2.1 s.2.2.2.2/\h'=h) _ ⟨(qs,lk,0,.no,.no),⟨M,hk⟩,rfl,rfl,rfl⟩ ?_
 rintro _ _ h' ⟨⟨qs,lk,m,g10,g11⟩,⟨M,hk⟩,rfl,rfl,e⟩
 have e:=e.symm
 subst e
 dsimp only[gc_,qh]
 rw[az]
 refine dm (fun l=>?_) fun l=>q _ _ _ _ _
 have l:=XJ.mp l
 try dsimp only[gc_,ae]
 refine bS (gg (WR l)) ?_
 rw[eu]
 refine ag (bY (dR (M.2 _ (Yh l)))) ?_
 rw[<-eu]
 refine cC (xs:=U qs[m]) (g:=fun s:Nat=>V.int s) (fun s:List Nat×List Int×Sl×Sl=>qh (au names tc rs) kn (tc+3) s.1 (s.2.1.map .int) (.v us) g6 g7 g8 (.v (.int m)) s.2.2.1 s.2.2.2) (fun _=>h) (fun _ _ s=>Mk (tc+3) s.1/\s.2.1.length=rs.length) (qs,lk,g10,g11) rfl ⟨M,hk⟩ (fun ys n zs s P e p I=>?_) fun s I=>?_
 ·obtain⟨qs,lk,g10,g11⟩:=s
  obtain⟨M,hk⟩:=I
  have hn:=hU _ n (e▸Xa ys (.head zs))
  have er:=WR hn
  have hx:=(ok.lo _ (Yh hn)).2.1
  have hn':n<lk.length:=hk▸hn
  dsimp only[gc_,qh]
  refine bS (oU hn') ?_
  try dsimp only[gc_,ae]
  refine cU (zJ hn') ?_
  have hk2:(lk.set n (lk[n]-1)).length=rs.length:=Zi.trans hk
  generalize lk.set n (lk[n]-1)=lk at hk2 ⊢
  try dsimp only[gc_,ae]
  refine ag (uc er) ?_
  try dsimp only[gc_,ae]
  refine bS (oU (hk2▸hn)) ?_
  try dsimp only[gc_,ae]
  have p0:=p (qs,lk,.v (.int n),.v (.int (rs[n]).1)) ⟨M,hk2⟩
  refine nq (fun _=>?_) fun _=>p0
  try dsimp only[gc_,ae]
  refine bS (lX hx) ?_
  try dsimp only[gc_,ae]
  refine eM (fun c=>?_) fun _=>p0
  try dsimp only[gc_,ae]
  refine cU (qD hx) ?_
  try dsimp only[gc_,ae]
  refine aT (WM (WH (WO az) (WH M.len ok.n8)) (by decide)) ?_
  rw[show aj qs++[V.int (rs[n]).1]=aj (qs++[(rs[n]).1]) from bf (ys:=[_])]
  exact p (qs++[(rs[n]).1],lk,_,_) ⟨M.add hx c,hk2⟩
 ·dsimp only[gc_,qh]
  exact⟨_,ZN _ _ (Zz (WH (Xl l) M.len)),(s.1,s.2.1,m+1,s.2.2.1,s.2.2.2),I,rfl,rfl,rfl⟩
end
section
variable{d:Nat}{ρ:Env}{h h' h0:H}{Q:V->H->Prop}{K:List C}{sk:List V}{QX:Qs}{n N i:Nat}{names:List (List Nat)}{tc:Nat}{rs:List Rl}{U:Nat->List Nat}{v:V}{r:V×H}
theorem Av:XA N (V.bool false)=eB N []:=by
 show _=(Xq N).map fun _=>V.bool false
 rw[aaA,Xb]
theorem Cy(e:gt ρ i=.v v)(e2:Mine.bP 8 v h=some r)(q:KX d K sk (st ρ i (.v r.1)) r.2 QX):KX d (.s (.Bj i)::K) sk ρ h QX:=by
 show match gt ρ i with|.o o=>_|.v v=>_|.no=>False
 rw[e]
 show match Mine.bP 8 v h with|some r=>_|.none=>False
 rw[e2];exact q
theorem Cells.bP(C:Cells h0 N U h):∃h2,Mine.bP 8 (.lst (refs h0.size N)) h=some (.lst ((Xq N).map fun s=>.lst (aj (U s))),h2)/\Ge h0 h2:=by
 obtain⟨h2,c⟩:=jM (n:=6) (us:=fun j=>aj (U j)) (b:=h0.size) (fun s=>eV) N 0 h fun t _ l=>C.gl t (XG N▸l)
 rw[<-Zm]at c
 exact⟨h2,congrArg (fun z=>gN (XF (fun r:List V×H=>(O.list r.1,r.2)) z)) c.1,⟨c.2.1▸C.ge.sz,fun a ha=>(c.2.2 a (.inl ha)).trans (C.ge.kp a ha)⟩⟩
theorem spread(ok:gP names tc rs)(q:∀qs h',Ge h h'->Q (.lst (eB (tc+3) qs)) h'):WC (d+1) 16 [au names tc rs,.lst (eB (tc+3) [])] h Q:=by
 have bl:(eB (tc+3) []).length=tc+3:=(WK _).trans Xb
 have bz:(eB (tc+3) []).length<=SZ:=WH (WO bl) (WH ok.n8 (by decide))
 refine aD oB [.v (au names tc rs),.v (.lst (eB (tc+3) [])),.no,.no,.no,.no,.no,.no,.no,.no,.no,.no,.no] rfl rfl ?_
 dsimp only[gc_,oB,uC]
 refine ag (bu bz) ?_
 try dsimp only[gc_,ae]
 refine zB rfl (gC (xs:=eB (tc+3) []) id (congrArg some (List.map_id _).symm) bz ?_)
 rw[bl]
 refine fun h1 G1 z1 a1=>?_
 try dsimp only[gc_,ae]
 refine EW (U:=fun _=>[]) ok rfl ⟨⟨G1,a1⟩,fun _=>WQ _,(fun _ _ m=>nomatch m)⟩ fun U h2 r6 r7 r8 W=>?_
 obtain⟨h3,e,G3⟩:=W.ce.bP
 dsimp only[gc_,qh]
 refine Cy (i:=4) rfl e ?_
 dsimp only[gc_,qh]
 rw[show rs.map (fun x=>V.int x.2.length)=(rs.map fun x=>(x.2.length:Int)).map V.int from Yd.symm]
 refine GW ok (WK _) fun qs r6 M=>?_
 dsimp only[gc_,qh]
 refine GY (U:=U) ok W.n (WK _) M rfl fun qs lk r9 r10 r11=>?_
 dsimp only[gc_,qh]
 exact q qs h3 G3
theorem CU(ok:gP names tc rs)(q:∀qs h',Ge h h'->Q (.lst (eB (tc+3) qs)) h'):WC (d+2) 17 [au names tc rs] h Q:=by
 refine aD ku [.v (au names tc rs)] rfl rfl ?_
 dsimp only[gc_,ku,pH]
 refine xJ ?_
 rw[ok.nm]
 refine ag (ra (WH ok.n8 (by decide))) ?_
 rw[Av]
 try dsimp only[gc_,ae]
 exact spread ok q
end
section
variable{d:Nat}{ρ:Env}{h:H}{Q:V->H->Prop}{K:List C}{sk:List V}{QX:Qs}{i s k:Nat}{names:List (List Nat)}{tc:Nat}{rs:List Rl}{v:V}{x:St}{L:List St}{b:E}
theorem Vd:KX d (.attr 12::K) (jP i x::sk) ρ h QX=KX d K (.int i::sk) ρ h QX:=rfl
theorem US:KX d (.attr 47::K) (jP i x::sk) ρ h QX=KX d K (.bL (x.ss.map kI) (x.ss.map fun s=>.int (x.go s))::sk) ρ h QX:=rfl
theorem Vj:KX d (.attr 50::K) (jP i x::sk) ρ h QX=KX d K (.lst (aj x.rd)::sk) ρ h QX:=rfl
theorem TY:KX d (.iN 49 b::K) (jP i x::sk) ρ h QX=KX d (.e b::.aq 49 (some 35)::K) (jP i x::sk) ρ h QX:=rfl
theorem UD:KX d (.attr 32::K) (aV names tc rs L::sk) ρ h QX=KX d K (au names tc rs::sk) ρ h QX:=rfl
theorem TQ:KX d (.attr 46::K) (aV names tc rs L::sk) ρ h QX=KX d K (.lst (L.mapIdx jP)::sk) ρ h QX:=rfl
theorem SY:KX d (.iN 49 b::K) (aV names tc rs L::sk) ρ h QX=KX d (.e b::.aq 49 (some 44)::K) (aV names tc rs L::sk) ρ h QX:=rfl
end
open Lean.Parser.Tactic in
local macro_rules
 | `(tactic| dsimp only [gd_, $a:simpLemma,*]) => do let n <- ("gc_ Vd US Vj TY UD TQ SY".splitOn " ").toArray.mapM fun x => `(simpLemma| $(Lean.mkIdent x.toName):term); let n := n ++ a.getElems; `(tactic| dsimp only [$n,*])
section
variable{d:Nat}{ρ:Env}{h:H}{Q:V->H->Prop}{K:List C}{sk:List V}{QX:Qs}{i s k:Nat}{names:List (List Nat)}{tc:Nat}{rs:List Rl}{v:V}{x:St}{L:List St}{b:E}
theorem AI(e:L[i]? =some x):cL (.lst (L.mapIdx jP)) (.int i) h=some (jP i x):=bY (aaJ.trans (congrArg (XF _) e))
theorem HJ(m:s∈x.ss)(q:Q (.int (x.go s)) h):WC (d+1) 35 [jP i x,.int s] h Q:=by
 refine aD fX [.v (jP i x),.v (.int s)] rfl rfl ?_
 dsimp only[gd_,fX,ju]
 refine ag (k:=fun v=>Q v h) (v:=.int (x.go s)) ?_ q
 show(match aR (kI s) (x.ss.map kI) with|true=>some ((bC (kI s) (x.ss.map kI) (x.ss.map fun s=>V.int (x.go s))).getD (.int (-1)))|false=>none)=_
 rw[th.kind,th.yc m];rfl
theorem yu(e:L[i]? =some x)(m:s∈x.ss)(q:Q (.int (x.go s)) h):WC (d+2) 44 [aV names tc rs L,.int i,.int s] h Q:=by
 refine aD eJ [.v (aV names tc rs L),.v (.int i),.v (.int s)] rfl rfl ?_
 dsimp only[gd_,eJ,hK]
 refine ag (AI e) ?_
 try dsimp only[gd_,ae]
 exact HJ m q
end
section
variable{d:Nat}{ρ:Env}{h h':H}{Q:V->H->Prop}{n N s k a:Nat}{v:V}{vs:List V}{fs qs xs:List Nat}
theorem zF(g:h.get a=some (.inst 3 fs vs))(e:ae 31 fs vs=some (.lst (eB N qs)))(hx:∀t∈xs,t<N)(q:∀n:Nat,Q (.int n) h):WC (d+1) 24 [.ref a,.tup (aj xs)] h Q:=by
 refine aD cA [.v (.ref a),.v (.tup (aj xs)),.no] rfl rfl ?_
 dsimp only[gd_,cA,dS]
 refine ag mz ?_
 refine lh (fun k ρ h'=>k<=xs.length/\ρ=[.v (.ref a),.v (.tup (aj xs)),.v (.int k)]/\h'=h) xs.length ⟨WQ _,rfl,rfl⟩ ?_
 rintro k _ h' ⟨l,rfl,e'⟩
 cases e'
 have ret:KX d [.s (.ret (.bi .max (.aa (.bin .sub (.loc 2) (.lit (.int 1))) (.aa (.lit (.int 0)) .af))))] [] [.v (.ref a),.v (.tup (aj xs)),.v (.int k)] h (Rt Q):=by
  dsimp only[gd_,ae]
  refine ag (v:=.int (k-1:Nat)) (congrArg (fun z=>some (V.int z)) ?_) (q _)
  cases k with
  |zero=>rfl
  |succ k=>
   rw[show((k+1:Nat):Int)-1=k from YS k 1]
   exact if_neg (YU.mpr (WU k))
 cases k with
 |zero=>exact ret
 |succ k=>
  have e1:((k+1:Nat):Int)-1=k:=YS k 1
  try dsimp only[gd_,ae]
  refine nq (fun _=>?_) fun z=>absurd (XJ.mpr (XK k)) z
  try dsimp only[gd_,ae]
  refine bp g e ?_
  try dsimp only[gd_,ae]
  rw[e1]
  refine ag (tC (gg (WR l))) (ag (bY (dR (hx _ (Yh l)))) ?_)
  refine dm (fun _=>?_) fun _=>ret
  try dsimp only[gd_,ae]
  rw[e1]
  exact⟨k,Xk k,Yk l,rfl,rfl⟩
end
section
variable{d:Nat}{ρ:Env}{h:H}{Q:V->H->Prop}{R:O->H->Prop}{K:List C}{sk:List V}{QX:Qs}{vs:List V}{x y:List Nat}{b:E}
noncomputable def sY(x y:List Nat):V:=.obj 0 [8,9,10,11] [.str x,.str y,.none,.str y]
noncomputable def gZ(x y:List Nat):V:=.obj 10 [75,76,77,79] [.str x,.int 0,.lst [],sY x y]
noncomputable def oP(vs:List V):V:=.obj 9 [75,76,77] [.str [101],.int 1,.lst vs]
theorem BH(q:R (.inst 0 [8,9,10,11] [.str x,.str y,.none,.str y]) h):WI (d+1) 0 0 [.str x,.str y,.none] h R:=
 ji lR [.o (.inst 0 [] []),.v (.str x),.v (.str y),.v .none,.v .none] rfl rfl q
theorem ze(q:R (.inst 10 [75,76,77,79] [.str x,.int 0,.lst [],sY x y]) h):WI (d+1) 54 10 [sY x y] h R:=
 ji mU [.o (.inst 10 [] []),.v (sY x y)] rfl rfl q
theorem zT(l:vs.length<=SZ)(q:R (.inst 9 [75,76,77] [.str [101],.int 1,.lst vs]) h):WI (d+1) 51 9 [.str [101],.int 1,.lst vs] h R:=by
 refine ji iU [.o (.inst 9 [] []),.v (.str [101]),.v (.int 1),.v (.lst vs)] rfl rfl ?_
 dsimp only[kk,iU,mY]
 refine cb rfl (cb rfl (ag (bu l) (cb rfl q)))
theorem UZ:KX d (.attr 75::K) (gZ x y::sk) ρ h QX=KX d K (.str x::sk) ρ h QX:=rfl
theorem Tf:KX d (.attr 77::K) (gZ x y::sk) ρ h QX=KX d K (.lst []::sk) ρ h QX:=rfl
theorem Uw:KX d (.attr 79::K) (gZ x y::sk) ρ h QX=KX d K (sY x y::sk) ρ h QX:=rfl
theorem SU:KX d (.iN 78 b::K) (gZ x y::sk) ρ h QX=KX d (.e b::.aq 78 (some 55)::K) (gZ x y::sk) ρ h QX:=rfl
theorem SP:KX d (.iN 80 b::K) (sY x y::sk) ρ h QX=KX d (.e b::.aq 80 (some 1)::K) (sY x y::sk) ρ h QX:=rfl
theorem Th:KX d (.attr 75::K) (oP vs::sk) ρ h QX=KX d K (.str [101]::sk) ρ h QX:=rfl
theorem Ui:KX d (.attr 77::K) (oP vs::sk) ρ h QX=KX d K (.lst vs::sk) ρ h QX:=rfl
theorem Tx:KX d (.iN 78 b::K) (oP vs::sk) ρ h QX=KX d (.e b::.aq 78 (some 52)::K) (oP vs::sk) ρ h QX:=rfl
end
open Lean.Parser.Tactic in
local macro_rules
 | `(tactic| dsimp only [ge_, $a:simpLemma,*]) => do let n <- ("gd_ UZ Tf Uw SU SP Th Ui Tx".splitOn " ").toArray.mapM fun x => `(simpLemma| $(Lean.mkIdent x.toName):term); let n := n ++ a.getElems; `(tactic| dsimp only [$n,*])
section
variable{d:Nat}{ρ:Env}{h:H}{Q:V->H->Prop}{R:O->H->Prop}{K:List C}{sk:List V}{QX:Qs}{vs:List V}{x y:List Nat}{b:E}
theorem CM(q:Q (.tup [.str x,.str y]) h):WC (d+1) 1 [sY x y] h Q:=aD kG [.v (sY x y)] rfl rfl q
theorem ES(q:Q (.bool true) h):WC (d+1) 55 [gZ x y] h Q:=aD jC [.v (gZ x y)] rfl rfl q
theorem Hh(q:Q (.bool false) h):WC (d+1) 52 [oP vs] h Q:=aD jx [.v (oP vs)] rfl rfl q
end
section
section
variable{d:Nat}{ρ:Env}{h:H}{K:List C}{sk:List V}{QX:Qs}{m n k t a:Nat}{x y:List Nat}{xs:List (List Nat)}{s:List Nat}
noncomputable def Sh(n:Nat)(s:List Nat):Prop:=s.length<=n
theorem Sh.app(a:Sh m x)(b:Sh n y):Sh (m+n) (x++y):=WH (WO Xd) (XM a b)
theorem cat{k:V->Prop}(a:Sh m x)(b:Sh n y)(l:Nat.ble (m+n) 1000000=true)(q:Sh (m+n) (x++y)->k (.str (x++y))):fJ False (pU .add (.str x) (.str y)) k:=
 ag (uQ (WH (XM a b) (WH (Yg l) (by decide)))) (q (a.app b))
theorem bT(l:n<=100000000):Sh 9 (digits (n:Nat)):=by
 show(n.repr.toList.map Char.toNat).length<=9
 rw[WK,Nat.toList_repr]
 exact(Nat.length_toDigits_le_iff (by decide) (by decide)).mpr (WM l (by decide))
theorem gL(l:n<=100000000):qT .str [.int (n:Nat)] h=some (.str (digits (n:Nat))):=iE (ZW.mpr (WM l (by decide)))
theorem xY(a:∀x∈xs,Sh m x)(l:xs.length<=n):zd s xs<=m*n+n*s.length:=XM (WH (rn a) (XW _ l)) (YH _ l)
theorem ru(a:∀x∈xs,Sh m x)(l:xs.length<=n):Sh (m*n+n*s.length) (eI s xs):=WH lS (xY a l)
theorem mh(a:∀x∈xs,Sh m x)(l:xs.length<=n)(z:Nat.ble (m*n+n*s.length) 1000000=true)(q:Sh (m*n+n*s.length) (eI s xs)->KX d K (.str (eI s xs)::sk) ρ h QX):KX d (.aq 7 .none::K) (.tup [.lst (xs.map V.str)]::.str s::sk) ρ h QX:=
 sA (WH (xY a l) (WH (Yg z) (by decide))) (q (ru a l))
theorem sj:zH .eq (.lst (xs.map V.str)) (.lst (xs.map V.str)) h=some true:=by
 show(match strs? (xs.map V.str),strs? (xs.map V.str) with|some x,some y=>some (decide (x=y))|some _,.none=>if(xs.map V.str).isEmpty then some false else .none|.none,some _=>if(xs.map V.str).isEmpty then some false else .none|_,_=>.none)=_
 rw[strs_map]
 exact congrArg some (decide_eq_true rfl)
noncomputable def jQ(xs:List (List Nat))(t:Nat):List Nat:=(xs[t]?).getD []
theorem fS(l:t<xs.length):cL (.lst (xs.map .str)) (.int t) h=some (.str (jQ xs t)):=bY ((oU l).trans (congrArg (fun z=>some (V.str z)) (congrArg (fun z:Option (List Nat)=>z.getD []) (WR l).symm)))
theorem lF:∀b:Bool,∀t:Nat,t<rx b+3->Sh 10 (jQ (cO b) t):=fun b t l=>by
 have l:t<(cO b).length:=aX b▸l
 unfold jQ
 rw[WR l]
 exact cR b _ (Yh l)
noncomputable abbrev K2:=Nat×Nat
noncomputable def kP(t:K2):Key:=.tup [(t.1:Nat),(t.2:Nat)]
noncomputable def kV(t:K2):V:=.tup [.int (t.1:Nat),.int (t.2:Nat)]
noncomputable def kL(t:K2):List Int:=[(t.1:Nat),(t.2:Nat)]
theorem vd:KF kP:=⟨fun s t e=>Prod.ext (Zd.inj (List.cons.inj (congrArg Key.is e)).1) (Zd.inj (List.cons.inj (List.cons.inj (congrArg Key.is e)).2).1),fun _ _=>rfl⟩
noncomputable def Cm(s t:K2):Prop:=s.1<t.1\/s.1=t.1/\s.2<t.2
section
variable{s t:K2}{T:List K2}
theorem Ec{a b:Nat}(n:¬ a=b):¬ (a:Int)=b:=fun z=>n (Zd.inj z)
theorem lt_eq:bW (kL s) (kL t)=if s.1=t.1 then decide (s.2<t.2) else decide (s.1<t.1):=by
 show(if(s.1:Int)=t.1 then(if(s.2:Int)=t.2 then false else decide ((s.2:Int)<t.2)) else decide ((s.1:Int)<t.1))=_
 by_cases e:s.1=t.1
 ·rw[if_pos e,if_pos (congrArg _ e)]
  by_cases f:s.2=t.2
  ·rw[f,if_pos rfl];exact(decide_eq_false (Yq _)).symm
  ·rw[if_neg (Ec f)];exact decide_eq_decide.mpr XJ
 ·rw[if_neg e,if_neg (Ec e)];exact decide_eq_decide.mpr XJ
theorem Il(p:Cm s t):bW (kL s) (kL t)=true:=by
 rw[lt_eq]
 rcases p with p|p
 ·rw[if_neg (WT p)];exact decide_eq_true p
 ·rw[if_pos p.1];exact decide_eq_true p.2
theorem OU(p:Cm t s):bW (kL s) (kL t)=false:=by
 rw[lt_eq]
 rcases p with p|p
 ·rw[if_neg (Xz p)];exact decide_eq_false (abc p)
 ·rw[if_pos p.1.symm];exact decide_eq_false (abc p.2)
theorem Mn(p:T.Pairwise Cm):pJ (T.map kL)=true:=by
 induction T with
 |nil=>rfl
 |cons s T ih=>
  cases T with
  |nil=>rfl
  |cons t T=>exact eC (Il ((XE.mp p).1 t (.head _))) (ih (XE.mp p).2)
theorem Hi(p:T.Pairwise fun s t=>Cm t s):oN (T.map kL)=true/\(pJ (T.map kL)=true->T.reverse=T):=by
 induction T with
 |nil=>exact⟨rfl,fun _=>rfl⟩
 |cons s T ih=>
  cases T with
  |nil=>exact⟨rfl,fun _=>rfl⟩
  |cons t T=>
   have l:=(XE.mp p).1 t (.head _)
   refine⟨eC (Il l) (ih (XE.mp p).2).1,fun e=>?_⟩
   rw[show pJ ((s::t::T).map kL)=(bW (kL s) (kL t)&&pJ ((t::T).map kL)) from rfl,OU l]at e
   exact nomatch e
theorem rR:keys? (T.map kV)=some (T.map kP)/\tups? (T.map kP)=some (T.map kL)/\(T.map kL).all (fun t=>!t.isEmpty)=true:=by
 induction T with
 |nil=>exact⟨rfl,rfl,rfl⟩
 |cons t T ih=>
  refine⟨?_,congrArg (XF (kL t::·)) ih.2.1,ih.2.2⟩
  show(match (kV t).key?,keys? (T.map kV) with|some k,some ks=>some (k::ks)|_,_=>.none)=_
  rw[ih.1];rfl
theorem DG:iW (T.map kV)=if pJ (T.map kL) then some (T.map kV) else if oN (T.map kL) then some (T.map kV).reverse else .none:=by
 cases T with
 |nil=>rfl
 |cons t T=>
  show(match keys? ((t::T).map kV) with|some ks'=>(match tups? ks' with|some ts=>if ts.all (fun t=>!t.isEmpty) then(if pJ ts then some ((t::T).map kV) else if oN ts then some ((t::T).map kV).reverse else .none) else .none|.none=>.none)|.none=>.none)=_
  rw[rR.1]
  show(match tups? ((t::T).map kP) with|some ts=>if ts.all (fun t=>!t.isEmpty) then _ else(.none:Option (List V))|.none=>.none)=_
  rw[rR.2.1]
  exact if_pos rR.2.2
theorem Fq(p:T.Pairwise Cm):iW (T.map kV)=some (T.map kV):=DG.trans (if_pos (Mn p))
theorem Bv(p:T.Pairwise Cm):iW (T.reverse.map kV)=some (T.map kV):=by
 have c:=Hi (T:=T.reverse) (List.pairwise_reverse.mpr p)
 rw[DG]
 by_cases e:pJ (T.reverse.map kL)=true
 ·rw[if_pos e, <-c.2 e,ZP]
 ·rw[if_neg e,if_pos c.1, <-YR,ZP]
end
end
end
section
variable{d:Nat}{ρ:Env}{h:H}{Q:V->H->Prop}{K:List C}{sk:List V}{QX:Qs}{n k i r m:Nat}{names:List (List Nat)}{tc:Nat}{rs:List Rl}{x:St}{A:List (List Nat)}{L:List St}{D:DP}{vs:List V}
theorem dP{α:Type}{xs ys zs:List α}{x:α}(e:xs=ys++x::zs):ys.length<xs.length:=e▸len_app (xs:=ys)▸Xx (XK _)
theorem AS(o:Done rs A x):r∈x.rd↔ ∃i∈x.aJ,dN rs i=some r:=by rw[o.rd];exact bG.trans aaY
theorem xS(o:Done rs A x)(m:r∈x.rd):r<rs.length:=by
 obtain⟨i,mi,e⟩:=(AS o).mp m
 obtain⟨r',k,y,it⟩:=aK.ex (o.it.lt i mi)
 rw[<-(oo e).2.1,it.uW]
 exact(WL.mp it.rule).1
theorem wt(o:Done rs A x):x.rd.Pairwise (· <·):=o.rd▸fL (HR o.it.nd o.it.lt)
theorem Bc(ok:gP names tc rs)(o:Done rs A x):x.rd.length<=6:=WH (aQ _ _ ((wt o).imp WT) fun r m=>xS o m) ok.tY
noncomputable abbrev En:=K2×Nat
structure Gg(D:DP)(e:En):Prop where
 i:e.1.1<=100000000
 r:e.1.2<D.rs.length
 m:e.2<2 ^ D.tc
noncomputable def qo(D:DP)(r:Nat):Pair:=(D.Im[r]?).getD ([],[])
theorem lO(l:r<D.rs.length):D.Im[r]? =some (qo D r):=by
 rw[D.vB,WK]at l
 unfold qo
 rw[WR l];rfl
theorem qI(l:r<D.rs.length):Fj D (qo D r):=D.Mt (Xc (lO l))
noncomputable def uR(D:DP)(e:En):List Nat:=digits (e.1.1:Nat)++[32]++oQ (qo D e.1.2) (-1)++[32,91]++eI [44,32] ((aO D.tc e.2).map (jQ D.names))++[93]
noncomputable def lH(es:List En):List Key:=(es.map Prod.fst).map kP
noncomputable def iF(es:List En):List V:=es.map fun e=>.int e.2
theorem Ed{es:List En}(nd:(es.map Prod.fst).Nodup){e:En}(m:e∈es):bC (kP e.1) (lH es) (iF es)=some (.int e.2):=by
 obtain⟨j,hj⟩:=XH.mp m
 exact(vd.look nd ((WK _).trans (WK _).symm) (Xj.trans (congrArg (XF _) hj))).trans (Xj.trans (congrArg (XF _) hj))
theorem Jd{S T:List K2}(e:iW (S.map kV)=some (T.map kV))(l:T.length<=SZ):qT .sorted [.bL (S.map kP) vs] h=some (.lst (T.map kV)):=by
 show(iW ((S.map kP).map Key.v)).bind fA=_
 rw[Yd]
 exact(congrArg (·.bind fA) e).trans (bu (WH (WO (WK _)) l))
theorem IF{es:List En}:bZ (.lst ((es.map Prod.fst).map kV))=some (es.map fun e=>kV e.1):=congrArg some Yd
theorem Mu{u:List Nat}(l:m<2 ^ D.tc){n:Nat}(a:Sh n u)(z:n<=1000)(q:KX d K (.str (u++eI [44,32] ((aO D.tc m).map (jQ D.names))++[93])::sk) ρ h QX):KX d (.aq 7 .none::.bin .add::.e (.lit (.str [93]))::.bin .add::K) (.tup [.lst (((aO D.tc m).map (jQ D.names)).map V.str)]::.str [44,32]::.str u::sk) ρ h QX:=by
 refine mh (m:=10) (n:=5) (fun y my=>?_) (WH (WO (WK _)) (WH jJ (jT _))) rfl fun j=>?_
 ·obtain⟨t,mt,rfl⟩:=XN.mp my
  exact lF _ _ (WY (cW.mp mt).1 (WZ _ _))
 have a:Sh 1000 u:=WH a z
 try dsimp only[ge_,ae]
 refine cat a j rfl fun b=>?_
 try dsimp only[ge_,ae]
 exact cat b (n:=1) (WQ _) rfl fun _=>q
theorem vW{es:List En}(p:(es.map Prod.fst).Pairwise Cm)(nd:(es.map Prod.fst).Nodup)(ok:∀e∈es,Gg D e)(z:es.length<=15000000)(q:Q (.lst ((es.map (uR D)).map .str)) h):WC (d+2) 31 [aV D.names D.tc D.rs L,.bL (lH es.reverse) (iF es.reverse)] h Q:=by
 refine aD iq [.v (aV D.names D.tc D.rs L),.v (.bL (lH es.reverse) (iF es.reverse)),.no,.no,.no,.no,.no,.no] rfl rfl ?_
 dsimp only[ge_,iq,lB]
 refine ag (Jd (S:=es.reverse.map Prod.fst) (T:=es.map Prod.fst) (by rw[YR];exact Bv p) (WH (WO (WK _)) (WH z (by decide)))) ?_
 refine cF (xs:=es) (fun ys (s:Sl×Sl×Sl)=>[.v (aV D.names D.tc D.rs L),.v (.bL (lH es.reverse) (iF es.reverse)),.v (au D.names D.tc D.rs),.o (.list ((ys.map (uR D)).map .str)),s.1,s.2.1,s.2.2,.no]) (.no,.no,.no) IF (fun ys e zs s P e' p=>?_) fun s=>q
 have m:e∈es:=e'▸Xa ys (.head zs)
 have o:=ok e m
 have p:=p (.v (.int e.1.1),.v (.int e.1.2),.v (.lst (((aO D.tc e.2).map (jQ D.names)).map .str)))
 rw[<-aS, <-aS]at p
 dsimp only[ge_,kV]
 refine ag (vd.cL (xs:=es.reverse.map Prod.fst) (x:=e.1) rfl (Ed (by rw[YR];exact(abd _).nodup_iff.mpr nd) (aau.mpr m))) ?_
 try dsimp only[ge_,ae]
 refine bits o.m (WH (jT _) (by decide)) ?_
 refine bj (xs:=aO D.tc e.2) (fun t:Nat=>V.int t) (fun t=>.str (jQ D.names t)) rfl (WH jJ (WH (jT _) (by decide))) (fun t mt P q=>?_) ?_
 ·try dsimp only[ge_,ae]
  exact ag (fS (aX _▸WY (cW.mp mt).1 (WZ _ _))) q
 rw[show(aO D.tc e.2).map (fun t=>V.str (jQ D.names t))=((aO D.tc e.2).map (jQ D.names)).map .str from Yd.symm]
 try dsimp only[ge_,ae]
 refine ag (gL o.i) ?_
 try dsimp only[ge_,ae]
 refine cat (bT o.i) (n:=1) (WQ _) rfl fun a=>?_
 try dsimp only[ge_,ae]
 refine mR (dot:= -1) rfl (lO o.r) (Zn (b:=0) (by decide) (WU _)) ?_
 try dsimp only[ge_,ae]
 refine cat a (fM (qI o.r) _) rfl fun a=>?_
 try dsimp only[ge_,ae]
 refine cat a (n:=2) (WQ _) rfl fun a=>?_
 try dsimp only[ge_,ae]
 refine Mu o.m a (by decide) ?_
 try dsimp only[ge_,ae]
 refine aT (WM (WH (WO (by rw[WK,WK])) (WH (Xl (dP e')) z)) (by decide)) p
end
section
variable{d:Nat}{ρ:Env}{h h':H}{K:List C}{sk:List V}{QX:Qs}{n k i r m a c:Nat}{names:List (List Nat)}{tc:Nat}{rs:List Rl}{x:St}{L:List St}{D:DP}{vs:List V}{ks:List Key}{es:List En}{e:En}
theorem tu{α:Type}{xs:List α}{t:T}{el c:E}{v:V}(g:α->V)(I:List α->List α->List V->H->Prop)(hv:bZ v=some (xs.map g))(hl:xs.length<=SZ)(i0:I [] xs [] h)
  (he:∀ys x zs us h (P:Option V->H->Prop),xs=ys++x::zs->(∀o h,I (ys++[x]) zs (us++o.toList) h->P o h)->I ys (x::zs) us h->xV t (g x) ρ fun ρ=>KX d [.e c,.eU (.ret el) .skip] [] ρ h ⟨fun _ h=>P .none h,fun _ _=>False,fun v _ h=>P (some v) h⟩)
  (q:∀us h,I xs [] us h->KX d K (.lst us::sk) ρ h QX):KX d (.bQ el t c::K) (v::sk) ρ h QX:=by
 have go:∀(zs ys:List α)(us:List V)(h:H)(k:List V->H->Prop),xs=ys++zs->I ys zs us h->(∀ws h,I xs [] (us++ws) h->k ws h)->cJ False t ρ (fun ρ h k=>ev mp (mP d) c ρ h fun b h=>gk False b (ev mp (mP d) el ρ h fun v h=>k (some v) h) (k .none h)) (zs.map g) h k:=by
  intro zs
  induction zs with
  |nil=>exact fun ys us h k e i q=>by rw[Xo]at e;subst e;exact q [] h (by rw[Xo];exact i)
  |cons z zs ih=>
   intro ys us h k e i q
   have e':xs=(ys++[z])++zs:=by rw[e,Xn];rfl
   refine he ys z zs us h (fun x h=>cJ False t ρ _ (zs.map g) h fun xs h=>k (match x with|some x=>x::xs|.none=>xs) h) e (fun o h i=>ih (ys++[z]) _ h _ e' i fun ws h b=>?_) i
   rw[Xn]at b
   cases o with
   |none=>exact q _ h b
   |some x=>exact q _ h b
 show match bZ v with|some vs=>_|.none=>False
 rw[hv]
 exact rT (by rw[WK];exact hl) (go xs [] [] h _ rfl i0 q)
theorem Lz{xs:List Nat}:qT .sum [.lst (aj xs)] h=some (.int (xs.sum:Nat)):=by
 show(ints? (aj xs)).map _=_
 rw[jE]
 refine congrArg (fun z=>some (V.int z)) ?_
 induction xs with
 |nil=>rfl
 |cons x xs ih=>exact congrArg (fun z:Int=>(x:Int)+z) ih
theorem tR(l:vs.length<=SZ)(q:KX d K (.lst vs.reverse::sk) ρ h QX):KX d (.fR::K) (.lst vs::sk) ρ h QX:=ag (k:=fun v=>KX d K (v::sk) ρ h QX) (bu (WH (WO Yc) l)) q
theorem uz{us:List V}(e:h.get a=some (.dict ks us))(p:qp n us):Mine.bP (n+1) (.ref a) h=some (.bL ks us,h.set a none):=by
 show(h.get a).bind _=_
 rw[e]
 exact congrArg (fun z=>gN (XF (fun r:List V×H=>(O.dict ks r.1,r.2)) z)) (p _)
theorem Je(l:m<2 ^ k):aO (k+1) m=aO k m:=by rw[mJ,aax l];rfl
theorem DV(l:m<2 ^ k):aO (k+1) (2 ^ k+m)=aO k m++[k]:=by
 rw[mJ,Nat.testBit_two_pow_add_eq,aax l]
 exact congrArg (· ++[k]) (List.filter_congr fun j hj=>Nat.testBit_two_pow_add_gt (Yz.mp hj) m)
structure Mi(D:DP)(c:Nat)(es:List En)(h:H):Prop where
 c0:c≠0
 g1:h.get c=some (.dict (lH es) (iF es))
 g2:h.get (c+1)=some (.list ((es.map (uR D)).map .str))
 p:(es.map Prod.fst).Pairwise Cm
 ok:∀e∈es,Gg D e
theorem Mi.fp(M:Mi D c es h)(f:Fp h h'):Mi D c es h':=⟨M.c0,(f.kp _ M.c0).trans M.g1,(f.kp _ (YQ c)).trans M.g2,M.p,M.ok⟩
theorem OZ{T:List K2}(p:T.Pairwise Cm):T.Nodup:=p.imp fun{a b} l e=>l.elim (fun l=>WT l (congrArg Prod.fst e)) fun l=>WT l.2 (congrArg Prod.snd e)
theorem Mi.add(M:Mi D c es h)(l:∀e'∈es,Cm e'.1 e.1)(o:Gg D e):Mi D c (es++[e]) ((h.set c (some (.dict ((es.map Prod.fst++[e.1]).map kP) (iF es++[.int e.2])))).set (c+1) (some (.list ((es.map (uR D)).map .str++[.str (uR D e)])))) where
 c0:=M.c0
 g1:=(ah (WT (Xk c))).trans ((aG (aE M.g1)).trans ((congrArg (fun z=>some (O.dict (List.map kP z) (iF es++[.int e.2]))) aS).trans (congrArg (fun z=>some (O.dict (lH (es++[e])) z)) aS)))
 g2:=(aG (aE (h:=h.set _ _) ((ah (XU c)).trans M.g2))).trans (congrArg (fun z=>some (O.list z)) (aS.trans (congrArg (List.map V.str) aS)))
 p:=by
  rw[<-aS]
  exact Yl.mpr ⟨M.p,XE.mpr ⟨nofun,.nil⟩,fun s hs t ht=>by cases WW.mp ht;obtain⟨e',m,rfl⟩:=XN.mp hs;exact l e' m⟩
 ok:=aU M.ok o
noncomputable def mE(D:DP)(L:List St)(c:Nat)(s:Sl×Sl×Sl×Sl):Env:=[.v (.ref 0),.v D.V,.v (aV D.names D.tc D.rs L),.v (.lst (D.names.map .str)),.v (.ref c),.v (.ref (c+1)),s.1,s.2.1,s.2.2.1,s.2.2.2,.no,.no,.no,.no,.no]
noncomputable def AM:E:=.bQ (.loc 12) (.one 12) (.bi .range (.aa (.attr (.attr (.loc 2) 32) 20) .af)) (.cmp .gt (.call 67 (.aa (.loc 0) (.aa (.lit (.int 2)) .af))) (.lit (.int 0)))
theorem La{s:Sl×Sl×Sl×Sl}(P:gn h (k+5))(M:Mi D c es h)(q:∀m h',m<2 ^ D.tc->((aO D.tc m).map (2 ^ ·)).sum=m->gn h' k->Mi D c es h'->KX (d+1) K (.lst (aj (aO D.tc m))::sk) (mE D L c s) h' QX):KX (d+1) (.e AM::K) sk (mE D L c s) h QX:=by
 have t5:D.tc<=5:=jT D.b
 dsimp only[ge_,AM,mE]
 refine ag (fq (cX (WU _) (Yb (XX.mpr t5) (by decide)))) ?_
 refine tu _ (fun ys zs us h=>∃m,(m<2 ^ ys.length/\((aO ys.length m).map (2 ^ ·)).sum=m)/\us=aj (aO ys.length m)/\Mi D c es h/\gn h (va 1 k zs)) cZ (WH (WO Xb) (WH t5 (by decide))) ⟨0,⟨by decide,rfl⟩,rfl,M,P.le ?_⟩ (fun ys x zs us h P e p I=>?_) fun us h I=>?_
 ·rw[fV,Xb,aaF];exact Xf t5 k
 ·obtain⟨rfl,l⟩:=kB e
  obtain⟨m,⟨l,sm⟩,rfl,M,pen⟩:=I
  have p:=fun o h m e1 e2 (M:Mi D c es h) pen=>p o h ⟨m,e1,e2,M,pen⟩
  rw[aN]at p
  try dsimp only[ge_,ae]
  refine draw (many:=2) (by decide) (by decide) pen fun n h2 hn P2 f=>?_
  try dsimp only[ge_,ae]
  refine dm (fun z=>?_) fun z=>?_
  ·refine p (some (.int ys.length)) h2 (2 ^ ys.length+m) ⟨?_,?_⟩ ?_ (M.fp f) P2
   ·rw[Nat.pow_succ,Nat.mul_two];exact Xy l _
   ·rw[DV l,Xr,abC,sm,Yx];exact congrArg (· +m) aa0
   ·rw[DV l, <-bf];rfl
  ·refine p none h2 m ⟨Yw l (Nat.pow_lt_pow_succ (by decide)),?_⟩ ?_ (M.fp f) P2
   ·rw[Je l];exact sm
   ·rw[Je l];exact Xo _
 ·obtain⟨m,⟨l,sm⟩,rfl,M,pen⟩:=I
  rw[Xb]at l sm ⊢
  exact q m h l sm pen M
end
section
variable{d:Nat}{ρ:Env}{h h':H}{Q:V->H->Prop}{K:List C}{sk:List V}{QX:Qs}{n k i r m a c:Nat}{names:List (List Nat)}{tc:Nat}{rs:List Rl}{x:St}{L:List St}{D:DP}{es:List En}{e:En}
noncomputable def Dl:S:=(.seq (.asg 8 AM)
  (.seq (.eS (.loc 4) (.aa (.attr (.loc 6) 12) (.aa (.loc 7) .af)) (.bi .sum (.aa (.aM (.bin .shl (.lit (.int 1)) (.loc 13)) (.one 13) (.loc 8)) .af)))
  (.seq (.asg 9 (.aq (.lit (.str [44,32])) 7 (.aa (.aM (.sub (.loc 3) (.loc 14)) (.one 14) (.loc 8)) .af)))
  (.ex (.aq (.loc 5) 0 (.aa (.bin .add (.bin .add (.bin .add (.bin .add (.bin .add (.bi .str (.aa (.attr (.loc 6) 12) .af)) (.lit (.str [32]))) (.call 69 (.aa (.loc 1) (.aa (.loc 7) (.aa (.neg (.lit (.int 1))) .af))))) (.lit (.str [32,91]))) (.loc 9)) (.lit (.str [93]))) .af))))))
theorem JE{P:Env->H->Prop}{R:V->Env->H->Prop}{s8 s9:Sl}(pen:gn h (k+5))(M:Mi D c es h)(z:es.length<=15000000)(hi:i<=100000000)(hr:r<D.rs.length)(l:∀e∈es,Cm e.1 (i,r))
  (q:∀s8 s9 m h',gn h' k->Mi D c (es++[((i,r),m)]) h'->P (mE D L c (.v (jP i x),.v (.int r),s8,s9)) h'):KX (d+1) [.s Dl] [] (mE D L c (.v (jP i x),.v (.int r),s8,s9)) h ⟨P,P,R⟩:=by
 dsimp only[Dl,ym,Ey]
 refine La pen M fun m h1 lm sm pen M=>?_
 have t5:D.tc<=5:=jT D.b
 have bz:(aO D.tc m).length<=5:=WH jJ t5
 have o:Gg D ((i,r),m):=⟨hi,hr,lm⟩
 have nz:(0:Nat)≠c:=M.c0.symm
 dsimp only[ge_,mE]
 refine bj (xs:=aO D.tc m) (fun t:Nat=>V.int t) (fun t=>.int (2 ^ t:Nat)) rfl (WH bz (by decide)) (fun t mt P q=>?_) ?_
 ·try dsimp only[ge_,ae]
  exact ag (yi (WH (Xl (WY (cW.mp mt).1 t5)) (by decide))) q
 rw[show(aO D.tc m).map (fun t=>V.int (2 ^ t:Nat))=aj ((aO D.tc m).map (2 ^ ·)) from(Yd (f:=(2 ^ ·)) (g:=fun n:Nat=>V.int n)).symm]
 try dsimp only[ge_,ae]
 refine ag Lz ?_
 rw[sm]
 try dsimp only[ge_,ae]
 refine gB M.g1 (vd.oJ (x:=(i,r)) (xs:=es.map Prod.fst) rfl (fun q=>?_) ((WK _).trans (WK _).symm) (WM (WH (WO (WK _)) z) (by decide))) ?_
 ·obtain⟨e,me,q⟩:=XN.mp q
  exact(q▸l e me).elim (Yq _) fun q=>Yq _ q.2
 refine bj (xs:=aO D.tc m) (fun t:Nat=>V.int t) (fun t=>.str (jQ D.names t)) rfl (WH bz (by decide)) (fun t mt P q=>?_) ?_
 ·try dsimp only[ge_,ae]
  exact ag (fS (aX _▸WY (cW.mp mt).1 (WZ _ _))) q
 rw[show(aO D.tc m).map (fun t=>V.str (jQ D.names t))=((aO D.tc m).map (jQ D.names)).map .str from Yd.symm]
 try dsimp only[ge_,ae]
 refine mh (m:=10) (n:=5) (fun y my=>?_) (WH (WO (WK _)) bz) rfl fun j=>?_
 ·obtain⟨t,mt,rfl⟩:=XN.mp my
  exact lF _ _ (WY (cW.mp mt).1 (WZ _ _))
 have g2:=(ah (o:=some (.dict ((es.map Prod.fst++[(i,r)]).map kP) (iF es++[.int m]))) (XU c)).trans M.g2
 try dsimp only[ge_,ae]
 refine cV rfl g2 ?_
 try dsimp only[ge_,ae]
 refine ag (gL hi) ?_
 try dsimp only[ge_,ae]
 refine cat (bT hi) (n:=1) (WQ _) rfl fun a=>?_
 try dsimp only[ge_,ae]
 refine pq (dot:= -1) (lO hr) (Zn (b:=0) (by decide) (WU _)) ?_
 try dsimp only[ge_,ae]
 refine cat a (fM (qI hr) _) rfl fun a=>?_
 try dsimp only[ge_,ae]
 refine cat a (n:=2) (WQ _) rfl fun a=>?_
 try dsimp only[ge_,ae]
 refine cat a j rfl fun a=>?_
 try dsimp only[ge_,ae]
 refine cat a (n:=1) (WQ _) rfl fun a=>?_
 try dsimp only[ge_,ae]
 refine dC g2 (WM (WH (WO (by rw[WK,WK])) z) (by decide)) ?_
 obtain⟨cs,sp,st,pen⟩:=pen
 exact q _ _ m _ ⟨cs,sp,st,(ah (YQ c).symm).trans ((ah nz).trans pen.g),pen.s0,pen.s1,pen.t0⟩ (M.add l o)
noncomputable def IA:S:=.loop (.one 7) (.attr (.loc 6) 50) Dl
theorem JS(ok:bc D.rs L){s:Sl×Sl×Sl×Sl}(pen:gn h (k+100000000))(M:Mi D c [] h)(q:∀es s h',gn h' k->Mi D c es h'->es.length<=15000000->KX (d+1) K sk (mE D L c s) h' QX):KX (d+1) (.loop (.one 6) IA::K) (.lst (L.mapIdx jP)::sk) (mE D L c s) h QX:=by
 have i9:∀n,n<=L.length->6*n<=15000000:=fun n l=>WH (XW 6 (WH l ok.len)) (by decide)
 refine oF (xs:=L) jP (fun ys zs ρ h=>∃es s,ρ=mE D L c s/\Mi D c es h/\gn h (va 30 k zs)/\es.length<=6*ys.length/\∀e∈es,e.1.1<ys.length) rfl ⟨[],s,rfl,M,pen.le ?_,XI _,nofun⟩ ?_ ?_
 ·rw[fV];exact Xf (WH (XW 30 ok.len) (by decide)) k
 ·rintro ys x zs _ h P e p ⟨es,s,rfl,M,pen,le,lt⟩
  have hl:=dP e
  have dn:=ok.dn ys.length x (e▸Ye (WQ _)|>.trans (by rw[ZA];rfl))
  have r6:=Bc D.Ah dn
  dsimp only[ge_,mE,IA]
  refine xQ (xs:=x.rd) (g:=fun r:Nat=>V.int r) (fun us ws ρ h=>∃es s8,ρ=mE D L c (.v (jP ys.length x),s8)/\Mi D c es h/\gn h (va 5 (va 30 k zs) ws)/\es.length<=6*ys.length+us.length/\∀e∈es,e.1.1<ys.length\/e.1.1=ys.length/\e.1.2∈us) rfl ⟨es,s.2,rfl,M,pen.le ?_,le,fun e m=>.inl (lt e m)⟩ ?_ ?_
  ·rw[fV];exact Xf (XW 5 r6) _
  ·rintro us r ws _ h P' e' p' ⟨es,s,rfl,M,pen,le,lt⟩
   have mr:r∈x.rd:=e'▸Xa us (.head ws)
   have l6:us.length+1<=6:=WH (dP e') r6
   have le':es.length+1<=6*(ys.length+1):=WH (Xi le) (Xf l6 _)
   refine JE (s8:=s.2.1) (s9:=s.2.2) pen M (WH (Yj _) (WH le' (i9 _ hl))) (WH (Xl hl) (WH ok.len (by decide))) (xS dn mr) (fun e m=>(lt e m).imp id fun c=>⟨c.1,?_⟩) fun s8 s9 m h' pen M=>p' _ _ ⟨_,_,rfl,M,pen,?_,?_⟩
   ·exact(Yl.mp (e'▸wt dn:(us++r::ws).Pairwise (· <·))).2.2 _ c.2 r (.head _)
   ·rw[aN,aN];exact Xi le
   ·exact aU (fun e m=>(lt e m).imp id fun c=>⟨c.1,Xh _ c.2⟩) (.inr ⟨rfl,Xa _ (.head _)⟩)
  ·rintro _ h ⟨es,s,rfl,M,pen,le,lt⟩
   refine p _ _ ⟨es,_,rfl,M,pen,?_,fun e m=>?_⟩
   ·rw[aN];exact WH le (Xf r6 _)
   ·rw[aN];exact(lt e m).elim WV fun c=>c.1▸Xk _
 ·rintro _ h ⟨es,s,rfl,M,pen,le,lt⟩
  exact q es s h pen M (WH le (i9 _ (WQ _)))
theorem tU(ok:bc D.rs L)(pen:gn h (k+100000000))(q:∀h',gn h' k->Q (.bool true) h'):WC (d+3) 70 [.ref 0,D.V,aV D.names D.tc D.rs L] h Q:=by
 refine aD dJ [.v (.ref 0),.v D.V,.v (aV D.names D.tc D.rs L),.no,.no,.no,.no,.no,.no,.no,.no,.no,.no,.no,.no] rfl rfl ?_
 have c0:h.size≠0:=let ⟨cs,sp,st,p⟩:=pen;Xz (aE p.g)
 dsimp only[ge_,dJ,fO]
 show KX (d+2) _ _ (mE D L h.size (.no,.no,.no,.no)) _ _
 refine JS (s:=(.no,.no,.no,.no)) ok (pen.ge Ge.refl.push.push) ⟨c0,(ay (Xk _)).trans aL,aL,.nil,nofun⟩ fun es s h1 pen M z=>?_
 dsimp only[ge_,mE]
 refine Cy (v:=.ref h.size) rfl (uz M.g1 (bH (n:=7) fun _ _=>rfl)) ?_
 have nd:=OZ M.p
 have z':es.length<=SZ:=WH z (by decide)
 try dsimp only[ge_,ae]
 refine ag (Jd (S:=es.map Prod.fst) (Fq M.p) (WH (WO (WK _)) z')) (tR (WH (WO ((WK _).trans (WK _))) z') ?_)
 rw[<-YR, <-YR]
 refine cF (xs:=es.reverse) (fun ys (u:Sl)=>[.v (.ref 0),.v D.V,.v (aV D.names D.tc D.rs L),.v (.lst (D.names.map .str)),.v (.bL (lH es) (iF es)),.v (.ref (h.size+1)),s.1,s.2.1,s.2.2.1,s.2.2.2,.o (.dict (lH ys) (iF ys)),u,.no,.no,.no]) .no IF (fun ys e zs u P e' p=>?_) fun u=>?_
 ·have m:e∈es:=aau.mp (e'▸Xa ys (.head zs))
  have p:=p (.v (kV e.1))
  rw[show lH (ys++[e])=(ys.map Prod.fst++[e.1]).map kP from congrArg (List.map kP) aS.symm,show iF (ys++[e])=iF ys++[.int e.2] from aS.symm]at p
  try dsimp only[ge_,ae]
  refine ag (vd.cL (xs:=es.map Prod.fst) (x:=e.1) rfl (Ed nd m)) ?_
  try dsimp only[ge_,ae]
  refine cU (vd.oJ (xs:=ys.map Prod.fst) (x:=e.1) rfl (fun c=>?_) ((WK _).trans (WK _).symm) ?_) p
  ·have nd:(es.reverse.map Prod.fst).Nodup:=by rw[YR];exact(abd _).nodup_iff.mpr nd
   rw[e',Xr]at nd
   exact(Yi.mp nd).2.2 _ c _ (.head _) rfl
  ·rw[WK]
   exact WY (dP e') (WH (WO Yc) z')
 try dsimp only[ge_,ae]
 refine Cy (v:=.ref (h.size+1)) rfl (hS (n:=7) ((ah (XU _)).trans M.g2) (bH fun _ _=>rfl)) ?_
 try dsimp only[ge_,ae]
 refine vW M.p nd M.ok z (cN sj (q _ ?_))
 obtain⟨cs,sp,st,p⟩:=pen
 exact⟨cs,sp,st,(ah (YQ _).symm).trans ((ah c0.symm).trans p.g),p.s0,p.s1,p.t0⟩
end
section
structure vq where
 a:Nat
 x:Nat
 p:Nat
 k:Nat
noncomputable def vq.o(f:vq):O:=.list [.int f.x,.int (f.p+1:Nat),.int f.k]
noncomputable def leZ(Z:Nat->Nat->Prop)(v w:Nat):Prop:=∀t,Z w t->Z v t
structure Dg(n:Nat)(rel:Nat->List Nat)(Z:Nat->Nat->Prop)(h0:H)(hf rf:Nat->Nat)(eR bg:List Nat)(fs:List vq)(h:H):Prop where
 ge:Ge h0 h
 ce:∀f∈fs,h0.size<=f.a/\h.get f.a=some f.o
 nv:eR.Nodup
 vn:∀v∈eR,v<n
 hv:∀v,v<n->(hf v=0↔v∉eR)
 pn:bg.Nodup
 pv:∀v∈bg,v∈eR
 Nf:∀v∈eR,v∉bg->hf v=n+1
 low:∀(i v:Nat),bg[i]? =some v->hf v<=i+1/\∃u,bg[hf v-1]? =some u/\leZ Z v u
 fr:∀(i v:Nat),bg[i]? =some v->hf v<=i\/∃f∈fs,f.x=v
 pos:∀f∈fs,bg[f.p]? =some f.x/\f.k<=(rel f.x).length
 path:fs.Pairwise fun f g=>f.a≠g.a/\f.p<g.p/\leZ Z f.x g.x
 snd:∀v,v<n->∀t,(rf v).testBit t=true->Z v t
noncomputable def put{β:Type}(f:Nat->β)(y:Nat)(c:β)(v:Nat):β:=if v=y then c else f v
variable{n i y c:Nat}{rel:Nat->List Nat}{Z:Nat->Nat->Prop}{h0 h:H}{hf rf:Nat->Nat}{eR bg A B:List Nat}{fs gs:List vq}{f:vq}{v w:Nat}
theorem leZ.r:leZ Z v v:=fun _ z=>z
theorem leZ.t{u:Nat}(a:leZ Z v w)(b:leZ Z w u):leZ Z v u:=fun t z=>a t (b t z)
theorem ig{β:Type}{f:Nat->β}{c:β}:put f y c y=c:=if_pos rfl
theorem dT{β:Type}{f:Nat->β}{c:β}(e:v≠y):put f y c v=f v:=if_neg e
theorem kO{α:Type}{xs:List α}{x:α}(a:xs.Nodup)(b:x∉xs):(xs++[x]).Nodup:=Yi.mpr ⟨a,Yr.mpr ⟨nofun,.nil⟩,fun u hu w hw q=>b (WW.mp hw▸q▸hu)⟩
theorem wU{α:Type}{R:α->α->Prop}{xs:List α}{x:α}(a:xs.Pairwise R)(b:∀y∈xs,R y x):(xs++[x]).Pairwise R:=Yl.mpr ⟨a,XE.mpr ⟨nofun,.nil⟩,fun u hu w hw=>WW.mp hw▸b u hu⟩
theorem kH{α:Type}{xs ys:List α}{x:α}(e:xs[i]? =some x):(xs++ys)[i]? =some x:=(XQ (WL.mp e).1).trans e
theorem rk{α:Type}{xs:List α}{x:α}:(xs++[x])[xs.length]? =some x:=(Ye (WQ _)).trans (by rw[ZA];rfl)
theorem Dg.z(D:Dg n rel Z h0 hf rf eR bg fs h)(m:v∈eR):0<hf v:=aaW fun e=>(D.hv v (D.vn v m)).mp e m
theorem Dg.len(D:Dg n rel Z h0 hf rf eR bg fs h):eR.length<=n/\bg.length<=n:=⟨aQ _ _ D.nv D.vn,aQ _ _ D.pn fun v m=>D.vn v (D.pv v m)⟩
theorem Dg.push(D:Dg n rel Z h0 hf rf eR bg fs h)(hy:y<n)(z:hf y=0)(l:∀f∈fs,leZ Z f.x y)(ec:c=bg.length+1):Dg n rel Z h0 (put hf y c) rf (eR++[y]) (bg++[y]) (fs++[⟨h.size,y,bg.length,0⟩]) (h.push (.list [.int y,.int (c:Nat),.int (0:Nat)])):=by
 subst ec
 have ny:=(D.hv y hy).mp z
 have np:y∉bg:=fun m=>ny (D.pv y m)
 refine⟨D.ge.push,aU (fun f m=>⟨(D.ce f m).1,(ay (aE (D.ce f m).2)).trans (D.ce f m).2⟩) ⟨D.ge.sz,aL⟩,kO D.nv ny,aU D.vn hy,fun v l=>?_,kO D.pn np,fun v m=>(Xv.mp m).elim (fun m=>Xh _ (D.pv v m)) (Xa _),fun v m m'=>?_,fun i v e=>?_,fun i v e=>?_,aU (fun f m=>⟨kH (D.pos f m).1,(D.pos f m).2⟩) ⟨rk,XI _⟩,
  wU D.path fun f m=>⟨WT (aE (D.ce f m).2),(WL.mp (D.pos f m).1).1,l f m⟩,D.snd⟩
 ·by_cases e:v=y
  ·rw[e,ig];exact⟨nofun,fun q=>absurd (Xa _ (.head _)) q⟩
  ·rw[dT e];exact(D.hv v l).trans ⟨fun q m=>(Xv.mp m).elim q fun m=>e (WW.mp m),fun q m=>q (Xh _ m)⟩
 ·have e:v≠y:=fun e=>m' (Xa _ (e▸.head _))
  rw[dT e]
  exact D.Nf v ((Xv.mp m).resolve_right fun m=>e (WW.mp m)) fun m=>m' (Xh _ m)
 ·rcases ja e with e|⟨rfl,rfl⟩
  ·rw[dT (show v≠y from fun q=>np (q▸Xc e))]
   exact(D.low i v e).imp id fun⟨u,e,l⟩=>⟨u,kH e,l⟩
  ·rw[ig];exact⟨WQ _,_,rk,leZ.r⟩
 ·rcases ja e with e|⟨rfl,rfl⟩
  ·rw[dT (show v≠y from fun q=>np (q▸Xc e))]
   exact(D.fr i v e).imp id fun⟨f,m,e⟩=>⟨f,Xh _ m,e⟩
  ·exact .inr ⟨_,Xa _ (.head _),rfl⟩
theorem Dg.res(D:Dg n rel Z h0 hf rf eR bg fs h)(hw:w<n)(hy:y<n)(l:leZ Z y w):Dg n rel Z h0 hf (put rf y (rf y|||rf w)) eR bg fs h:=by
 refine{ D with snd:=fun v hv t e=>?_}
 by_cases q:v=y
 ·rw[q,ig,Ze,Bool.or_eq_true]at e
  exact q▸e.elim (D.snd y hy t) fun e=>l t (D.snd w hw t e)
 ·rw[dT q]at e;exact D.snd v hv t e
theorem Dg.dn(D:Dg n rel Z h0 hf rf eR bg fs h)(m:f∈fs)(hw:w∈eR)(l:leZ Z f.x w)(lt:hf w<hf f.x):Dg n rel Z h0 (put hf f.x (hf w)) rf eR bg fs h:=by
 have mp:=Xc (D.pos f m).1
 refine{ D with hv:=fun v hv=>?_,Nf:=fun v mv np=>?_,low:=fun i v e=>?_,fr:=fun i v e=>?_}
 ·by_cases q:v=f.x
  ·rw[q,ig];exact⟨fun z=>absurd z (Xz (D.z hw)),fun z=>absurd (D.pv _ mp) z⟩
  ·rw[dT q];exact D.hv v hv
 ·rw[dT (show v≠f.x from fun q=>np (q▸mp))];exact D.Nf v mv np
 ·by_cases q:v=f.x
  ·cases q
   have c:=D.low i _ e
   rw[ig]
   have wp:w∈bg:=Classical.byContradiction fun np=>by
    rw[D.Nf w hw np]at lt
    exact Yq _ (WY lt (WH c.1 (Xi (WH (Xl (WL.mp e).1) D.len.2))))
   obtain⟨j,ej⟩:=XH.mp wp
   exact⟨WH (Xl lt) c.1,(D.low j w ej).2.imp fun u c=>⟨c.1,l.t c.2⟩⟩
  ·rw[dT q];exact D.low i v e
 ·by_cases q:v=f.x
  ·exact .inr ⟨f,m,q.symm⟩
  ·rw[dT q];exact D.fr i v e
theorem dI{α:Type}{xs:List α}{x:α}:x∈xs++[x]:=Xa _ (.head _)
theorem Dg.step(D:Dg n rel Z h0 hf rf eR bg (gs++[f]) h)(l:f.k<(rel f.x).length):Dg n rel Z h0 hf rf eR bg (gs++[⟨f.a,f.x,f.p,f.k+1⟩]) (h.set f.a (some (.list [.int f.x,.int (f.p+1:Nat),.int (f.k+1:Nat)]))):=by
 have c:=D.ce f dI
 have p:=Yl.mp D.path
 exact{ D with
  ge:=D.ge.set c.1
  ce:=aU (fun g m=>⟨(D.ce g (Xh _ m)).1,(ah (p.2.2 g m f (.head _)).1).trans (D.ce g (Xh _ m)).2⟩) ⟨c.1,aG (aE c.2)⟩
  fr:=fun i v e=>(D.fr i v e).imp id fun⟨g,m,q⟩=>(Xv.mp m).elim (fun m=>⟨g,Xh _ m,q⟩) fun m=>⟨_,dI,WW.mp m▸q⟩
  pos:=aU (fun g m=>D.pos g (Xh _ m)) ⟨(D.pos f dI).1,l⟩
  path:=wU p.1 fun g m=>p.2.2 g m f (.head _)}
theorem Dg.pop(D:Dg n rel Z h0 hf rf eR bg (gs++[f]) h)(l:hf f.x≠f.p+1):Dg n rel Z h0 hf rf eR bg gs h:=
 { D with
  ce:=fun g m=>D.ce g (Xh _ m)
  fr:=fun i v e=>(D.fr i v e).elim .inl fun⟨g,m,q⟩=>(Xv.mp m).elim (fun m=>.inr ⟨g,m,q⟩) fun m=>.inl (by
   cases WW.mp m
   cases q
   have z:=(abb (WL.mp e).1 D.pn).mp (e.trans (D.pos f dI).1.symm)
   exact XY (aac (D.low i _ e).1 (z▸l)))
  pos:=fun g m=>D.pos g (Xh _ m)
  path:=(Yl.mp D.path).1}
theorem Dg.below(D:Dg n rel Z h0 hf rf eR bg (gs++[f]) h):∀(N i v:Nat),i<N->bg[i]? =some v->leZ Z v f.x:=fun N=>by
 induction N with
 |zero=>exact fun i v l=>absurd l (ZR i)
 |succ N ih=>
  intro i v l e
  obtain⟨_,u,e1,e2⟩:=D.low i v e
  rcases D.fr i v e with c|⟨g,m,rfl⟩
  ·exact e2.t (ih _ u (WY (abD (XK 0) (D.z (D.pv v (Xc e)))) (WH c (XY l))) e1)
  ·rcases Xv.mp m with m|m
   ·exact((Yl.mp D.path).2.2 g m f (.head _)).2.2
   ·cases WW.mp m;exact leZ.r
noncomputable def up(f:Nat->Nat)(S:List Nat)(c v:Nat):Nat:=if v∈S then c else f v
theorem Dg.WB(D:Dg n rel Z h0 hf rf eR (A++f.x::B) (gs++[f]) h)(l:A.length=f.p):Dg n rel Z h0 (up hf (f.x::B) (n+1)) (up rf (f.x::B) (rf f.x)) eR A gs h:=by
 have pn:=Yi.mp D.pn
 have ua:∀{v:Nat}(g:Nat->Nat)(c:Nat),v∈A->up g (f.x::B) c v=g v:=fun g c m=>if_neg fun z=>pn.2.2 _ m _ z rfl
 have pw:=Yl.mp D.path
 refine⟨D.ge,fun g m=>D.ce g (Xh _ m),D.nv,D.vn,fun v lv=>?_,pn.1,fun v m=>D.pv v (Xh _ m),fun v m np=>?_,fun i v e=>?_,fun i v e=>?_,fun g m=>⟨?_,(D.pos g (Xh _ m)).2⟩,pw.1,fun v lv t e=>?_⟩
 ·unfold up
  by_cases q:v∈f.x::B
  ·rw[if_pos q];exact⟨nofun,fun z=>absurd (D.pv v (Xa _ q)) z⟩
  ·rw[if_neg q];exact D.hv v lv
 ·unfold up
  by_cases q:v∈f.x::B
  ·exact if_pos q
  ·exact(if_neg q).trans (D.Nf v m fun z=>(Xv.mp z).elim np q)
 ·have m:=Xc e
  rw[ua _ _ m]
  obtain⟨c,u,e1,e2⟩:=D.low i v (kH e)
  refine⟨c,u,(XQ ?_).symm.trans e1,e2⟩
  exact WY (abD (XK 0) (D.z (D.pv v (Xh _ m)))) (WH c (WL.mp e).1)
 ·have m:=Xc e
  rw[ua _ _ m]
  exact(D.fr i v (kH e)).imp id fun⟨g,mg,q⟩=>⟨g,(Xv.mp mg).resolve_right fun z=>pn.2.2 _ m _ (.head _) (by cases WW.mp z;exact q.symm),q⟩
 ·exact(XQ (l.symm▸(pw.2.2 g m f (.head _)).2.1)).symm.trans (D.pos g (Xh _ m)).1
 ·unfold up at e
  by_cases q:v∈f.x::B
  ·rw[if_pos q]at e
   obtain⟨i,ei⟩:=XH.mp (Xa A q)
   exact D.below _ i v (Xk i) ei t (D.snd _ (D.vn _ (D.pv _ (Xa A (.head _)))) t e)
  ·rw[if_neg q]at e;exact D.snd v lv t e
end
section
variable{d:Nat}{ρ:Env}{Q:V->H->Prop}{K:List C}{sk:List V}{QX:Qs}{n i y c C:Nat}{rel:Nat->List Nat}{Z:Nat->Nat->Prop}{h0 h h':H}{mf hf rf hf':Nat->Nat}{eR bg A B:List Nat}{fs gs:List vq}{f:vq}{v w:Nat}
noncomputable def mB(n:Nat)(rel:Nat->List Nat):V:=.lst ((Xq n).map fun i=>.lst (aj (rel i)))
noncomputable def dE(n:Nat)(rel:Nat->List Nat)(mf rf hf:Nat->Nat)(pv:List V)(s7 s8 s9 mZ gO lN:Sl):Env:=[.v (.int n),.v (mB n rel),.v (.lst (bA n mf)),.o (.list (bA n rf)),.o (.list (bA n hf)),.v (.int (n+1:Nat)),.o (.list pv),s7,s8,s9,mZ,gO,lN]
noncomputable def rt(fs:List vq):List V:=fs.map fun f=>.ref f.a
theorem OY{p:Prop}{_:Decidable p}{s1 s2:S}{α:Type}(ρ':α->Env)(R:α->Prop)(f:∀x,R x->KX d K sk (ρ' x) h' QX)(a:p->(∀x,R x->KX d K sk (ρ' x) h' QX)->KX d (.s s1::K) sk ρ h QX)(b:¬ p->(∀x,R x->KX d K sk (ρ' x) h' QX)->KX d (.s s2::K) sk ρ h QX):
  KX d (.eU s1 s2::K) (.bool (decide p)::sk) ρ h QX:=dm (fun n=>a n f) fun n=>b n f
theorem lT{us vs:List V}{v:V}(e:us=vs++[v]):aH (.list us) (.int (-1))=some v:=by
 show us.reverse[0]? =_
 rw[e,Zu];rfl
theorem rG{us vs:List V}{v:V}{k:V->Sl->Prop}(e:us=vs++[v])(q:k v (.o (.list vs))):EU (.o (.list us)) 3 [] k:=by
 show match ((us.getLast?.map fun u=>(u,us.dropLast)).map fun(r:V×List V)=>(r.1,O.list r.2)) with|some r=>k r.1 (.o r.2)|.none=>False
 rw[e,List.getLast?_concat,List.dropLast_concat];exact q
theorem tW{o:O}{a:Nat}{i v:V}(g:h.get a=some o)(e:aH o i=some v):cL (.ref a) i h=some v:=by
 show(h.get a).bind _=_
 rw[g];exact e
theorem lp{f:Nat->Nat}(hy:y<n):fN (.list (bA n f)) (.int y) (.int c)=some (.list (bA n (put f y c))):=kX hy (if_pos rfl).symm fun i e=>(if_neg e).symm
theorem HQ{b:Bool}{s1 s2:S}(e:b=true)(q:KX d (.s s1::K) sk ρ h QX):KX d (.eU s1 s2::K) (.bool b::sk) ρ h QX:=by rw[e];exact q
theorem GJ{b:Bool}{s1 s2:S}(e:b=false)(q:KX d (.s s2::K) sk ρ h QX):KX d (.eU s1 s2::K) (.bool b::sk) ρ h QX:=by rw[e];exact q
theorem Bq{f:Nat->Nat}{S S':List Nat}{z:Int}(hv:v<n)(ez:z=(v:Nat))(e:S'=v::S):fN (.list (bA n (up f S c))) (.int z) (.int c)=some (.list (bA n (up f S' c))):=by
 subst ez e
 refine kX hv (if_pos (.head _)).symm fun i e=>?_
 unfold up
 by_cases m:i∈S
 ·rw[if_pos m,if_pos (.tail _ m)]
 ·rw[if_neg m,if_neg fun z=>(Xp.mp z).elim e m]
theorem jk{σ:Type}{c:E}{b:S}(E:σ->Env)(X:σ->H)(μ:σ->Nat)(I:σ->Prop)(s0:σ)(i0:I s0)(step:∀s (P:Env->H->Prop),I s->(∀s',I s'->μ s'<μ s->P (E s') (X s'))->KX d [.e c,.eU (.seq b .cont) .skip] [] (E s) (X s) ⟨fun ρ h=>KX d K sk ρ h QX,P,QX.r⟩):KX d (.s (.dd c b)::K) sk (E s0) (X s0) QX:=
 lh (fun m ρ h=>∃s,ρ=E s/\h=X s/\I s/\m=μ s) _ ⟨s0,rfl,rfl,i0,rfl⟩ fun m ρ h i=>i.elim fun s c=>c.1▸c.2.1▸c.2.2.2▸step s _ c.2.2.1 fun s' i l=>⟨_,l,s',rfl,rfl,i,rfl⟩
noncomputable def vg(xs:List Nat)(k:Nat):Int:=xs[k]?.elim (-1) fun v=>(v:Nat)
noncomputable def cE(n:Nat)(rel:Nat->List Nat)(mf rf hf:Nat->Nat)(A xs:List Nat)(x:Nat)(s7 s8 s9 gO:Sl)(k:Nat):Env:=dE n rel mf (up rf (xs.drop k) (rf x)) (up hf (xs.drop k) (n+1)) (aj (A++xs.take k)) s7 s8 s9 (.v (.int x)) gO (.v (.int (vg xs k)))
theorem Kt{x k:Nat}(nx:x∉B):(!decide (vg (x::B) (k+1)=x))=true:=by
 refine congrArg (!·) (decide_eq_false ?_)
 unfold vg
 rw[Yo]
 cases e:B[k]? with
 |none=>exact fun z=>absurd (WU x) (z▸(by decide:¬ (0:Int)<= -1))
 |some v=>exact fun z=>nx (Zd.inj z▸Xc e)
theorem vj{xs:List Nat}{k:Nat}(l:k<xs.length):vg xs k=(xs[k]:Nat):=by unfold vg;rw[WR l];rfl
theorem Dj{xs:List Nat}{k:Nat}(l:k<xs.length):aj (A++xs.take (k+1))=aj (A++xs.take k)++[.int (vg xs k)]:=by
 rw[vj l,List.take_succ_eq_append_getElem l, <-Xn, <-bf (xs:=A++xs.take k)];rfl
theorem CF{f:Nat->Nat}:up f [] c=f:=funext fun v=>if_neg nofun
theorem Qu{x:Nat}{s7 s8 s9 gO:Sl}:dE n rel mf rf hf (aj (A++x::B)) s7 s8 s9 (.v (.int x)) gO (.v (.int (-1)))=cE n rel mf rf hf A (x::B) x s7 s8 s9 gO (x::B).length:=by
 unfold cE vg
 rw[ZJ,List.take_length,CF,CF,XD (WQ _)];rfl
theorem OG{x:Nat}{pv:List V}{s7 s8 s9 gO:Sl}(e:pv=aj (A++x::B))(hx:x<n)(nx:x∉B)(lt:∀v∈x::B,v<n)(q:∀s,KX d K sk (dE n rel mf (up rf (x::B) (rf x)) (up hf (x::B) (n+1)) (aj (A++[])) s7 s8 s9 (.v (.int x)) gO s) h QX):
  KX d (.s (.dd (.cmp .ne (.loc 12) (.loc 10)) (.seq (.iY 12 6 3 .af) (.seq (.aP 4 (.loc 12) (.loc 5)) (.aP 3 (.loc 12) (.aH 3 (.loc 10))))))::K) sk (dE n rel mf rf hf pv s7 s8 s9 (.v (.int x)) gO (.v (.int (-1)))) h QX:=by
 rw[e,Qu]
 refine jk (cE n rel mf rf hf A (x::B) x s7 s8 s9 gO) (fun _=>h) id (fun k=>k<=(x::B).length) _ (WQ _) fun k P l p=>?_
 cases k with
 |zero=>exact GJ (congrArg (!·) (decide_eq_true rfl)) (q _)
 |succ k=>
  have hv:=lt _ (Yh l)
  refine HQ (Kt nx) ?_
  dsimp only[ge_,cE,dE]
  refine rG (Dj l) ?_
  try dsimp only[ge_,ae]
  refine cU (Bq hv (vj l) (Ys l)) (bS ((bV hx).trans (congrArg (fun n:Nat=>some (V.int n)) (ite_self _))) (cU (Bq hv (vj l) (Ys l)) ?_))
  exact p k (Yk l) (Xk k)
noncomputable def mu(n C:Nat)(eR:List Nat)(fs:List vq):Nat:=(n-eR.length)*(C+2)+(fs.map fun f=>C+1-f.k).sum
theorem og:mu n C eR (gs++[f])=mu n C eR gs+(C+1-f.k):=by
 unfold mu
 rw[Xr,abC,XO];exact congrArg (fun z=>_+(_+z)) aa0
theorem FL{a p:Nat}(l:(eR++[y]).length<=n):mu n C (eR++[y]) (gs++[⟨a,y,p,0⟩])<mu n C eR gs:=by
 rw[aN]at l
 rw[og]
 unfold mu
 rw[aN,show n-eR.length=n-(eR.length+1)+1 from(ZY (Nat.le_sub_of_add_le (Yx 1 _▸l))).symm,Nat.succ_mul,aad]
 exact Nat.add_lt_add_right (Xy (Xk (C+1)) _) _
theorem Di(l:f.k<=C):mu n C eR gs<mu n C eR (gs++[f]):=og▸Xx (Nat.sub_pos_of_lt (Zz l))
theorem Gy(l:f.k<C):mu n C eR (gs++[⟨f.a,f.x,f.p,f.k+1⟩])<mu n C eR (gs++[f]):=by
 rw[og,og]
 exact Xy (Nat.sub_lt_sub_left (WV l) (Xk _)) _
structure Ds where
 hf:Nat->Nat
 rf:Nat->Nat
 eR:List Nat
 bg:List Nat
 fs:List vq
 h:H
 pv:List V
 fv:List V
 s9:Sl
 mZ:Sl
 gO:Sl
 lN:Sl
noncomputable def Ds.E(n:Nat)(rel:Nat->List Nat)(mf:Nat->Nat)(s7:Sl)(s:Ds):Env:=dE n rel mf s.rf s.hf s.pv s7 (.o (.list s.fv)) s.s9 s.mZ s.gO s.lN
structure Ds.I(n:Nat)(rel:Nat->List Nat)(Z:Nat->Nat->Prop)(h0:H)(s:Ds):Prop where
 D:Dg n rel Z h0 s.hf s.rf s.eR s.bg s.fs s.h
 p:s.pv=aj s.bg
 f:s.fv=rt s.fs
theorem yt:rt gs++[.ref f.a]=rt (gs++[f]):=(Xr (f:=fun f:vq=>V.ref f.a) (l₂:=[f])).symm
theorem qP{pv:List V}(e:pv=aj bg):pv++[.int y]=aj (bg++[y]):=e▸bf (ys:=[y])
theorem Ic{pv:List V}(e:pv=aj bg):(pv++[V.int y]).length=bg.length+1:=by rw[e,aN,az]
theorem Dg.Qo(D:Dg n rel Z h0 hf rf eR bg fs h):fs.length<=n:=WH (WO (WK _).symm) (WH (aQ bg.length (fs.map vq.p) (YJ.mpr (D.path.imp fun c=>WT c.2.1)) fun i m=>by
 obtain⟨f,mf,rfl⟩:=XN.mp m
 exact(WL.mp (D.pos f mf).1).1) D.len.2)
theorem Cu{α:Type}{xs:List α}{x:α}(e:xs[i]? =some x):∃A B,xs=A++x::B/\A.length=i:=
 (WL.mp e).elim fun l e=>⟨xs.take i,xs.drop (i+1),(Zk i xs).symm.trans (congrArg (xs.take i++·) ((Ys l).trans (congrArg (· ::xs.drop (i+1)) e))),List.length_take_of_le (Xl l)⟩
noncomputable def CJ:S:=(.seq (.asg 9 (.aH 8 (.neg (.lit (.int 1)))))
  (.seq (.asg 10 (.sub (.loc 9) (.lit (.int 0))))
  (.seq (.ite (.cmp .lt (.sub (.loc 9) (.lit (.int 2))) (.bi .len (.aa (.sub (.loc 1) (.loc 10)) .af))) (.seq (.asg 11 (.sub (.sub (.loc 1) (.loc 10)) (.sub (.loc 9) (.lit (.int 2)))))
  (.seq (.ite (.cmp .eq (.aH 4 (.loc 11)) (.lit (.int 0))) (.seq (.mO 6 0 (.aa (.loc 11) .af))
  (.seq (.aP 4 (.loc 11) (.cM 6))
  (.seq (.mO 8 0 (.aa (.cell (.list (.aa (.loc 11) (.aa (.cM 6) (.aa (.lit (.int 0)) .af))))) .af))
  S.cont))) S.skip)
  (.seq (.eS (.loc 9) (.lit (.int 2)) (.bin .add (.sub (.loc 9) (.lit (.int 2))) (.lit (.int 1))))
  (.seq (.ite (.cmp .lt (.aH 4 (.loc 11)) (.aH 4 (.loc 10))) (.aP 4 (.loc 10) (.aH 4 (.loc 11))) S.skip)
  (.seq (.aP 3 (.loc 10) (.bin .bor (.aH 3 (.loc 10)) (.aH 3 (.loc 11))))
  S.cont))))) S.skip)
  (.seq (.mO 8 3 .af)
  (.ite (.cmp .eq (.aH 4 (.loc 10)) (.sub (.loc 9) (.lit (.int 1)))) (.seq (.asg 12 (.neg (.lit (.int 1))))
  (.dd (.cmp .ne (.loc 12) (.loc 10)) (.seq (.iY 12 6 3 .af)
  (.seq (.aP 4 (.loc 12) (.loc 5))
  (.aP 3 (.loc 12) (.aH 3 (.loc 10))))))) S.skip)))))
theorem LO{pv fv:List V}{s7 s9 mZ gO lN:Sl}{N P:Env->H->Prop}{R:V->Env->H->Prop}(hn:n<=15000000)(hr:∀v,v<n->∀w∈rel v,w<n/\leZ Z v w)(hC:∀v,v<n->(rel v).length<=C)
  (D:Dg n rel Z h0 hf rf eR bg (gs++[f]) h)(ep:pv=aj bg)(ef:fv=rt (gs++[f]))(p:∀(hf rf:Nat->Nat)(vis' bg:List Nat)(fs:List vq)(h:H)(pv fv:List V)(s9 mZ gO lN:Sl),Dg n rel Z h0 hf rf vis' bg fs h->pv=aj bg->fv=rt fs->mu n C vis' fs<mu n C eR (gs++[f])->P (dE n rel mf rf hf pv s7 (.o (.list fv)) s9 mZ gO lN) h):
  KX d [.s (.seq CJ .cont)] [] (dE n rel mf rf hf pv s7 (.o (.list fv)) s9 mZ gO lN) h ⟨N,P,R⟩:=by
 have ce:=(D.ce f dI).2
 have mp:=Xc (D.pos f dI).1
 have hx:=D.vn _ (D.pv _ mp)
 have pl:pv.length<=n:=ep▸az▸D.len.2
 have ef1:fv=rt gs++[.ref f.a]:=ef.trans yt.symm
 have er:cL (mB n rel) (.int f.x) h=some (.lst (aj (rel f.x))):=bY (dR hx)
 dsimp only[ge_,CJ,dE]
 refine bS (lT ef1) ?_
 try dsimp only[ge_,ae]
 refine ag (tW ce rfl) ?_
 try dsimp only[ge_,ae]
 refine ag (tW ce rfl) (ag er (ag Ky ?_))
 try dsimp only[ge_,ae]
 refine dm (fun l=>?_) fun l=>?_
 ·have l:=XJ.mp l
  have hw:=hr _ hx _ (Yh l)
  have ew:=WR l
  generalize (rel f.x)[f.k]=w at hw ew
  try dsimp only[ge_,ae]
  refine ag er (ag (tW ce rfl) (ag (nM ew) ?_))
  try dsimp only[ge_,ae]
  refine bS (bV hw.1) ?_
  try dsimp only[ge_,ae]
  refine dm (fun z=>?_) fun z=>?_
  ·have D':=D.push (c:=(pv++[V.int w]).length) hw.1 (Zd.inj z) (fun g m=>(Xv.mp m).elim (fun m=>((Yl.mp D.path).2.2 g m f (.head _)).2.2.t hw.2) fun m=>WW.mp m▸hw.2) (Ic ep)
   try dsimp only[ge_,ae]
   refine aT (WM (WH pl hn) (by decide)) ?_
   try dsimp only[ge_,ae]
   refine cU (lp hw.1) ?_
   try dsimp only[ge_,ae]
   refine aT ?_ (p _ _ _ _ _ _ _ _ _ _ _ _ D' (qP ep) ((congrArg (· ++[V.ref h.size]) ef).trans (yt (f:=⟨_,_,_,_⟩))) (FL D'.len.1))
   exact ef▸(WK (f:=fun f:vq=>V.ref f.a)▸WM (WH D.Qo hn) (by decide))
  ·have hz:=(not_congr (D.hv w hw.1)).mp fun e=>z (congrArg (fun n:Nat=>(n:Int)) e)
   have hz:=Decidable.not_not.mp hz
   have D1:=D.step l
   try dsimp only[ge_,ae]
   refine ag (tW ce rfl) ?_
   try dsimp only[ge_,ae]
   refine gB ce rfl ?_
   try dsimp only[ge_,ae]
   refine bS (bV hw.1) (bS (bV hx) ?_)
   try dsimp only[ge_,ae]
   refine OY (fun hf':Nat->Nat=>dE n rel mf rf hf' pv s7 (.o (.list fv)) (.v (.ref f.a)) (.v (.int f.x)) (.v (.int w)) lN) (fun hf'=>Dg n rel Z h0 hf' rf eR bg (gs++[⟨f.a,f.x,f.p,f.k+1⟩]) _) (fun hf' D2=>?_) (fun lt g=>?_) fun _ g=>g hf D1
   ·dsimp only[ge_,dE]
    refine bS (bV hx) (bS (bV hw.1) (ag wF (cU (lp hx) ?_)))
    exact p _ _ _ _ _ _ _ _ _ _ _ _ (D2.res hw.1 hx hw.2) ep (ef1.trans (yt (f:=⟨f.a,f.x,f.p,f.k+1⟩))) (Gy (WY l (hC _ hx)))
   ·try dsimp only[ge_,ae]
    refine bS (bV hw.1) ?_
    try dsimp only[ge_,ae]
    exact cU (lp hx) (g _ (D1.dn (f:=⟨f.a,f.x,f.p,f.k+1⟩) dI hz hw.2 (XJ.mp lt)))
 ·have kC:=WH (D.pos f dI).2 (hC _ hx)
  try dsimp only[ge_,ae]
  refine rG ef1 ?_
  try dsimp only[ge_,ae]
  refine bS (bV hx) (ag (tW ce rfl) ?_)
  try dsimp only[ge_,ae]
  refine dm (fun z=>?_) fun z=>?_
  ·obtain⟨A,B,e,eA⟩:=Cu (D.pos f dI).1
   have D:=e▸D
   have pn:=Yi.mp D.pn
   try dsimp only[ge_,ae]
   refine OG (ep.trans (congrArg aj e)) hx (Yr.mp pn.2.1).1 (fun v m=>D.vn v (D.pv v (Xa A m))) fun s=>?_
   exact p _ _ _ _ _ _ _ _ _ _ _ _ (D.WB eA) (congrArg aj (Xo A)) rfl (Di kC)
  ·exact p _ _ _ _ _ _ _ _ _ _ _ _ (D.pop fun e=>z (congrArg (fun n:Nat=>(n:Int)) e)) ep rfl (Di kC)
theorem Aq{α:Type}{R:List α->Prop}(a:R [])(b:∀gs f,R (gs++[f]))(fs:List α):R fs:=(List.eq_nil_or_concat fs).elim (fun e=>e▸a) fun⟨gs,f,e⟩=>(e.trans List.concat_eq_append)▸b gs f
theorem LU{s7:Sl}(hn:n<=15000000)(hr:∀v,v<n->∀w∈rel v,w<n/\leZ Z v w)(hC:∀v,v<n->(rel v).length<=C){s0:Ds}(i0:s0.I n rel Z h0)
  (q:∀s:Ds,Dg n rel Z h0 s.hf s.rf s.eR s.bg [] s.h->s.pv=aj s.bg->KX d K sk (s.E n rel mf s7) s.h QX):KX d (.s (.dd (.Ju 8) CJ)::K) sk (s0.E n rel mf s7) s0.h QX:=
 jk (Ds.E n rel mf s7) Ds.h (fun s=>mu n C s.eR s.fs) (Ds.I n rel Z h0) s0 i0 fun⟨hf,rf,eR,bg,fs,h,pv,fv,s9,mZ,gO,lN⟩ P i p=>by
  have D:=i.D
  have ef:=i.f
  refine Aq (R:=fun fs=>Dg n rel Z h0 hf rf eR bg fs h->fv=rt fs->(∀(hf rf:Nat->Nat)(vis' bg:List Nat)(fs':List vq)(h:H)(pv fv:List V)(s9 mZ gO lN:Sl),Dg n rel Z h0 hf rf vis' bg fs' h->pv=aj bg->fv=rt fs'->mu n C vis' fs'<mu n C eR fs->P (dE n rel mf rf hf pv s7 (.o (.list fv)) s9 mZ gO lN) h)->KX d _ _ (dE n rel mf rf hf pv s7 (.o (.list fv)) s9 mZ gO lN) h ⟨_,P,_⟩) (fun D e p=>?_) (fun gs f D e p=>?_) fs D ef fun hf rf eR bg fs h pv fv s9 mZ gO lN D e1 e2 l=>p ⟨hf,rf,eR,bg,fs,h,pv,fv,s9,mZ,gO,lN⟩ ⟨D,e1,e2⟩ l
  ·refine GJ (by rw[e];rfl) (q ⟨hf,rf,eR,bg,[],h,pv,fv,s9,mZ,gO,lN⟩ D i.p)
  ·refine HQ (by rw[e, <-yt];cases rt gs<;>rfl) (LO hn hr hC D i.p e p)
theorem xU(hn:n<=15000000)(hr:∀v,v<n->∀w∈rel v,w<n/\leZ Z v w)(hC:∀v,v<n->(rel v).length<=C)(hM:∀v,v<n->∀t,(mf v).testBit t=true->Z v t)
  (q:∀rf h',Ge h h'->(∀v,v<n->∀t,(rf v).testBit t=true->Z v t)->Q (.lst (bA n rf)) h'):WC (d+1) 19 [.int n,mB n rel,.lst (bA n mf)] h Q:=by
 have nz:n<=SZ:=WH hn (by decide)
 refine aD mH [.v (.int n),.v (mB n rel),.v (.lst (bA n mf)),.no,.no,.no,.no,.no,.no,.no,.no,.no,.no] rfl rfl ?_
 dsimp only[ge_,mH,qy]
 refine ag (bu (WH (WO gr) nz)) ?_
 try dsimp only[ge_,ae]
 refine ag ((ra nz).trans (congrArg (fun z=>some (V.lst z)) xr)) ?_
 try dsimp only[ge_,ae]
 refine ag (fq (cX (WU n) (Yb (XX.mpr hn) (by decide)))) ?_
 refine cC (fun s:Ds×Sl×Sl=>dE n rel mf s.1.rf s.1.hf s.1.pv s.2.1 s.2.2 s.1.s9 s.1.mZ s.1.gO s.1.lN) (fun s=>s.1.h) (fun _ _ s=>Dg n rel Z h s.1.hf s.1.rf s.1.eR s.1.bg [] s.1.h/\s.1.pv=aj s.1.bg) (⟨fun _=>0,mf,[],[],[],h,[],[],.no,.no,.no,.no⟩,.no,.no) cZ
  ⟨⟨.refl,nofun,.nil,nofun,fun v _=>⟨fun _=>nofun,fun _=>rfl⟩,.nil,nofun,nofun,nofun,nofun,nofun,.nil,hM⟩,rfl⟩ (fun ys x zs s P e p i=>?_) fun s i=>q _ _ i.1.ge i.1.snd
 have hx:=(kB e).2
 have pl:s.1.pv.length<=n:=i.2▸az▸i.1.len.2
 dsimp only[ge_,dE]
 refine bS (bV hx) ?_
 try dsimp only[ge_,ae]
 refine eM (fun z=>p (s.1,.v (.int x),s.2.2) i) fun z=>?_
 try dsimp only[ge_,ae]
 refine aT (WM (WH pl hn) (by decide)) ?_
 try dsimp only[ge_,ae]
 refine cU (lp hx) ?_
 try dsimp only[ge_,ae]
 have D':=i.1.push (c:=(s.1.pv++[V.int x]).length) hx (Zd.inj z) nofun (Ic i.2)
 exact LU (s7:=.v (.int x)) (s0:=⟨_,_,_,_,_,_,_,_,_,_,_,_⟩) hn hr hC ⟨D',qP i.2,rfl⟩ fun s D e=>p (s,_,_) ⟨D,e⟩
end
section
variable{d:Nat}{Q:V->H->Prop}{n i s a c lo:Nat}{h0 h h':H}{names:List (List Nat)}{tc:Nat}{rs:List Rl}{x:St}{L ys:List St}{us fs:List Nat}{vs:List V}{T:List K2}{sel:St->List Nat}{v:V}
structure Tq(sel:St->List Nat)(lo:Nat)(ys:List St)(us:List Nat)(T:List K2):Prop where
 nd:T.Nodup
 mem:∀i s,(i,s)∈T↔lo<=s/\((∃x,ys[i]? =some x/\s∈sel x)\/i=ys.length/\s∈us)
theorem Tq.nil:Tq sel lo [] [] []:=⟨.nil,fun i s=>⟨nofun,fun c=>c.2.elim (fun⟨_,e,_⟩=>nomatch e) fun e=>nomatch e.2⟩⟩
theorem Tq.skip(t:Tq sel lo ys us T)(l:s<lo):Tq sel lo ys (us++[s]) T:=⟨t.nd,fun i u=>(t.mem i u).trans ⟨fun c=>⟨c.1,c.2.imp id fun c=>⟨c.1,Xh _ c.2⟩⟩,fun c=>⟨c.1,c.2.imp id fun e=>⟨e.1,(Xv.mp e.2).resolve_right fun m=>abu c.1 (WW.mp m▸l)⟩⟩⟩⟩
theorem Tq.out(t:Tq sel lo ys us T)(n:s∉us):(ys.length,s)∉T:=fun m=>((t.mem _ _).mp m).2.elim (fun⟨_,e,_⟩=>Yq _ (WL.mp e).1) fun e=>n e.2
theorem Tq.add(t:Tq sel lo ys us T)(l:lo<=s)(n:s∉us):Tq sel lo ys (us++[s]) (T++[(ys.length,s)]):=⟨kO t.nd (t.out n),fun i u=>Xv.trans ⟨fun c=>c.elim (fun m=>((t.mem i u).mp m).imp id fun c=>c.imp id fun c=>⟨c.1,Xh _ c.2⟩) fun m=>by cases WW.mp m;exact⟨l,.inr ⟨rfl,dI⟩⟩,
 fun c=>c.2.elim (fun e=>.inl ((t.mem i u).mpr ⟨c.1,.inl e⟩)) fun e=>(Xv.mp e.2).imp (fun m=>(t.mem i u).mpr ⟨c.1,.inr ⟨e.1,m⟩⟩) fun m=>WW.mpr (Prod.ext e.1 (WW.mp m))⟩⟩
theorem Tq.next(t:Tq sel lo ys (sel x) T):Tq sel lo (ys++[x]) [] T:=⟨t.nd,fun i u=>(t.mem i u).trans ⟨fun c=>⟨c.1,.inl (c.2.elim (fun⟨y,e,m⟩=>⟨y,kH e,m⟩) fun e=>⟨x,e.1▸rk,e.2⟩)⟩,
 fun c=>⟨c.1,c.2.elim (fun⟨y,e,m⟩=>(ja e).imp (fun e=>⟨y,e,m⟩) fun(e:i=ys.length/\y=x)=>⟨e.1,e.2▸m⟩) fun e=>nomatch e.2⟩⟩⟩
theorem Tq.at(t:Tq sel lo ys [] T):(i,s)∈T↔lo<=s/\∃x,ys[i]? =some x/\s∈sel x:=(t.mem i s).trans ⟨fun c=>⟨c.1,c.2.resolve_right fun e=>nomatch e.2⟩,fun c=>⟨c.1,.inl c.2⟩⟩
theorem El(nd:T.Nodup)(hb:∀t∈T,t.1<n/\lo<=t.2/\t.2<lo+c):T.length<=n*c:=by
 refine WH (nd.length_le_of_subset (l₂:=(Xq n).flatMap fun i=>(aaI lo c).map (Prod.mk i)) fun t m=>?_) (WO ?_)
 ·have b:=hb t m
  exact abq.mpr ⟨t.1,Yz.mpr b.1,XN.mpr ⟨t.2,List.mem_range'_1.mpr b.2,rfl⟩⟩
 ·rw[aaT,show(fun i=>((aaI lo c).map (Prod.mk i)).length)=fun _:Nat=>c from funext fun i=>(WK _).trans List.length_range',aaA,List.sum_replicate_nat,Xb]
noncomputable def Rx(sel:St->List Nat)(lo c:Nat)(L:List St):Prop:=∀x∈L,(sel x).Nodup/\∀s∈sel x,s<lo+c
theorem Tq.len{zs:List St}(t:Tq sel lo ys us T)(e:L=ys++x::zs)(f:Rx sel lo c L)(u:∀s∈us,s∈sel x):T.length<=L.length*c:=
 El t.nd fun⟨i,s⟩ m=>by
  have q:=(t.mem i s).mp m
  rcases q.2 with ⟨y,ey,my⟩|⟨rfl,my⟩
  ·exact⟨Yw (WL.mp ey).1 (dP e),q.1,(f y (e▸Xh _ (Xc ey))).2 s my⟩
  ·exact⟨dP e,q.1,(f x (e▸Xa _ (.head _))).2 s (u s my)⟩
theorem bc.at(A:bc rs L){x:St}(m:x∈L):Done rs (L.map St.ks) x:=(XH.mp m).elim fun i e=>A.dn i x e
theorem kA(ok:gP names tc rs)(A:bc rs L):Rx St.ss tc 3 L:=fun x m=>⟨(A.at m).asc.imp WT,fun s hs=>(((A.at m).ss s).mp hs).elim fun i c=>mq ok c.2⟩
theorem Dv(ok:gP names tc rs)(A:bc rs L):Rx St.rd 0 6 L:=fun x m=>⟨(wt (A.at m)).imp WT,fun s hs=>WY (xS (A.at m) hs) ok.tY⟩
theorem xd(ok:gP names tc rs)(A:bc rs L){x:St}(m:x∈L):qT .sorted [.bL (x.ss.map kI) vs] h=some (.lst (aj x.ss)):=by
 show(iW ((x.ss.map kI).map Key.v)).bind fA=_
 rw[LV]
 exact(rJ (WM (WH (aQ _ _ (kA ok A x m).1 (kA ok A x m).2) ok.n8) (by decide))).trans (congrArg (fun z=>some (V.lst (aj z))) (oT (A.at m).asc))
theorem mem_mid{α:Type}{xs ys zs:List α}{x:α}(e:xs=ys++x::zs):x∈xs:=e▸Xa _ (.head _)
theorem xv{xs ys zs:List Nat}{x:Nat}(e:xs=ys++x::zs)(nd:xs.Nodup):x∉ys:=fun m=>(Yi.mp (e▸nd:(ys++x::zs).Nodup)).2.2 x m x (.head _) rfl
theorem BG{α:Type}{xs ys zs:List α}{x:α}(e:xs=ys++x::zs):∀y∈ys,y∈xs:=fun y m=>e▸Xh _ m
structure NT(tc:Nat)(c:Nat)(h0:H)(ys:List St)(us:List Nat)(T:List K2)(h:H):Prop where
 tp:Tq St.ss tc ys us T
 kp:∀b,b<c->h.get b=h0.get b
 sz:h.size=h0.size
 g1:h.get c=some (.list (T.map kV))
 g2:h.get (c+1)=some (.dict (T.map kP) (eX T.length))
theorem NT.add(N:NT tc c h0 ys us T h)(l:tc<=s)(n:s∉us):NT tc c h0 ys (us++[s]) (T++[(ys.length,s)]) ((h.set (c+1) (some (.dict ((T++[(ys.length,s)]).map kP) (eX T.length++[.int T.length])))).set c (some (.list (T.map kV++[kV (ys.length,s)])))) where
 tp:=N.tp.add l n
 kp:=fun b l=>(ah (WT l)).trans ((ah (WT (WV l))).trans (N.kp b l))
 sz:=N.sz
 g1:=(aG (aE (h:=h.set _ _) ((ah (WT (Xk c))).trans N.g1))).trans (congrArg (fun z=>some (O.list z)) aS)
 g2:=(ah (XU c)).trans ((aG (aE N.g2)).trans (congrArg (fun z=>some (O.dict ((T++[(ys.length,s)]).map kP) z)) (ints_snoc.trans (congrArg eX aN.symm))))
theorem Kv(ok:gP names tc rs)(A:bc rs L)(g:h.get a=some (.inst 3 fs vs))(Ez:ae 30 fs vs=some (aV names tc rs L))(JN:ae 33 fs vs=some (.ref c))(e4:ae 4 fs vs=some (.ref (c+1)))(ac:a<c)(g1:h.get c=some (.list []))(g2:h.get (c+1)=some (.dict [] []))
  (q:∀T h',NT tc c h L [] T h'->Q .none h'):WC (d+2) 21 [.ref a] h Q:=by
 refine aD ba [.v (.ref a),.no,.no,.no] rfl rfl ?_
 dsimp only[ge_,ba,bM]
 refine bp g Ez ?_
 try dsimp only[ge_,ae]
 refine bp g Ez ?_
 try dsimp only[ge_,ae]
 refine kM (xs:=L) jP (fun s:List K2×H×Sl×Sl=>[.v (.ref a),.v (au names tc rs),s.2.2.1,s.2.2.2]) (fun s=>s.2.1) (fun ys _ s=>NT tc c h ys [] s.1 s.2.1) ([],h,.no,.no) rfl ⟨.nil,fun _ _=>rfl,rfl,g1,g2⟩ (fun ys x zs s P e p N=>?_) fun s N=>q _ _ N
 have mx:x∈L:=mem_mid e
 have tY:=kA ok A
 try dsimp only[ge_,ae]
 refine ag (xd ok A mx) ?_
 refine cC (xs:=x.ss) (g:=fun s:Nat=>V.int s) (fun u:List K2×H×Sl=>[.v (.ref a),.v (au names tc rs),.v (jP ys.length x),u.2.2]) (fun u=>u.2.1) (fun us _ u=>NT tc c h ys us u.1 u.2.1) (s.1,s.2.1,s.2.2.2) rfl N (fun us t ws u P e' p N=>?_) fun u N=>p (u.1,u.2.1,_,u.2.2) ⟨N.tp.next,N.kp,N.sz,N.g1,N.g2⟩
 have g:=(N.kp a ac).trans g
 have no:=xv e' (tY x mx).1
 have le:u.1.length<SZ:=WM (WH (N.tp.len e tY (BG e')) (YH 3 A.len)) (by decide)
 try dsimp only[ge_,ae]
 refine vt ?_
 try dsimp only[ge_,ae]
 refine eM (fun z=>?_) fun z=>p (u.1,u.2.1,.v (.int t)) ⟨N.tp.skip (XJ.mp z),N.kp,N.sz,N.g1,N.g2⟩
 try dsimp only[ge_,ae]
 refine bp g JN (ag (qz N.g1) ?_)
 try dsimp only[ge_,ae]
 refine bp g e4 ?_
 try dsimp only[ge_,ae]
 refine gB N.g2 ((vd.oJ (x:=(ys.length,t)) rfl (N.tp.out no) gr le).trans (congrArg (fun z:Nat=>some (O.dict _ (_++[V.int z]))) (WK _))) ?_
 try dsimp only[ge_,ae]
 refine bp ((ah (WT (WV ac))).trans g) JN ?_
 have g3:=(ah (o:=some (.dict ((u.1++[(ys.length,t)]).map kP) (eX u.1.length++[.int u.1.length]))) (WT (Xk c))).trans N.g1
 refine cV rfl g3 ?_
 try dsimp only[ge_,ae]
 refine dC g3 (WM (WO (WK _)) le) ?_
 exact p (_,_,.v (.int t)) (N.add (XX.mp (YU.mp z)) no)
end
section
variable{d:Nat}{Q:V->H->Prop}{n i s a c k m j:Nat}{h0 h h':H}{names:List (List Nat)}{tc:Nat}{rs:List Rl}{x:St}{L:List St}{us fs row qs:List Nat}{vs:List V}{T:List K2}{v:V}{df:Nat->Nat}{rel:Nat->List Nat}
noncomputable def yN(tc:Nat)(L:List St)(T:List K2):Prop:=Tq St.ss tc L [] T
theorem yN.len(ok:gP names tc rs)(A:bc rs L)(t:yN tc L T):T.length<=7000000:=by
 refine WH (El (n:=L.length) (lo:=tc) (c:=3) t.nd fun⟨i,s⟩ m=>?_) (WH (YH 3 A.len) (by decide))
 obtain⟨l,x,e,m⟩:=(Tq.at t).mp m
 exact⟨(WL.mp e).1,l,(kA ok A x (Xc e)).2 s m⟩
theorem Iq(A:bc rs L)(e:L[i]? =some x)(m:s∈x.ss):∃y,L[x.go s]? =some y/\y.ks=mF rs x.aJ s:=Xe.mp (Xj.symm.trans ((A.dn i x e).go s m))
theorem NM(t:yN tc L T){t0:K2}(m:t0∈T):∃j,j<T.length/\∀h,cL (.bL (T.map kP) (eX T.length)) (kV t0) h=some (.int (j:Nat)):=by
 obtain⟨j,e⟩:=XH.mp m
 have l:=(WL.mp e).1
 exact⟨j,l,fun h=>vd.cL (x:=t0) rfl ((vd.look t.nd gr e).trans (jK l))⟩
theorem tw(ok:gP names tc rs)(A:bc rs L)(e:L[i]? =some x)(m:s∈x.ss):s<tc+3:=(kA ok A x (Xc e)).2 s m
theorem qS{β:Type}{φ:β->V}{f:Nat->β}{u:β}:(Xq k).map (fun i=>φ (f i))++[φ u]=(Xq (k+1)).map fun i=>φ (put f k u i):=by
 rw[Zj,Xr,Zb (g:=fun i=>φ (put f k u i)) fun i m=>congrArg φ (if_neg (WT (Yz.mp m))).symm]
 exact congrArg (fun z=>_++[φ z]) (if_pos rfl).symm
noncomputable def NC(n:Nat)(rel:Nat->List Nat):List V:=(Xq n).map fun i=>.lst (aj (rel i))
structure OF(n c:Nat)(h0:H)(k:Nat)(df:Nat->Nat)(rel:Nat->List Nat)(h:H):Prop where
 kp:∀b,b<c->h.get b=h0.get b
 sz:h.size=h0.size
 g1:h.get c=some (.list (bA k df))
 g2:h.get (c+1)=some (.list (NC k rel))
 lt:∀v,∀w∈rel v,w<n
 ln:∀v,(rel v).length<=8
theorem te{β:Type}{R:β->Prop}{f:Nat->β}{u:β}(a:∀v,R (f v))(b:R u)(v:Nat):R (put f k u v):=by
 show R (if v=k then u else f v)
 by_cases q:v=k
 ·rw[if_pos q];exact b
 ·rw[if_neg q];exact a v
theorem OF.add(N:OF n c h0 k df rel h)(l:∀w∈row,w<n)(z:row.length<=8):OF n c h0 (k+1) (put df k m) (put rel k row) ((h.set c (some (.list (bA k df++[.int m])))).set (c+1) (some (.list (NC k rel++[.lst (aj row)])))) where
 kp:=fun b l=>(ah (WT (WV l))).trans ((ah (WT l)).trans (N.kp b l))
 sz:=N.sz
 g1:=(ah (WT (Xk c))).trans ((aG (aE N.g1)).trans (congrArg (fun z=>some (O.list z)) (qS (φ:=fun n:Nat=>V.int n))))
 g2:=(aG (aE (h:=h.set _ _) ((ah (XU c)).trans N.g2))).trans (congrArg (fun z=>some (O.list z)) (qS (φ:=fun r=>V.lst (aj r))))
 lt:=te (R:=fun l:List Nat=>∀w∈l,w<n) N.lt l
 ln:=te (R:=fun l:List Nat=>l.length<=8) N.ln z
noncomputable def NS(a:Nat)(G:V)(s:Sl×Sl×Sl×Sl×Sl×Sl×Sl):Env:=[.v (.ref a),.v G,s.1,s.2.1,s.2.2.1,s.2.2.2.1,s.2.2.2.2.1,s.2.2.2.2.2.1,s.2.2.2.2.2.2]
theorem wB(ok:gP names tc rs)(A:bc rs L)(t:yN tc L T)(g:h.get a=some (.inst 3 fs vs))(Ez:ae 30 fs vs=some (aV names tc rs L))(Sd:ae 31 fs vs=some (.lst (eB (tc+3) qs)))(JN:ae 33 fs vs=some (.lst (T.map kV)))(e4:ae 4 fs vs=some (.bL (T.map kP) (eX T.length)))
  (e35:ae 35 fs vs=some (.ref c))(e36:ae 36 fs vs=some (.ref (c+1)))(ac:a<c)(g1:h.get c=some (.list []))(g2:h.get (c+1)=some (.list []))(q:∀df rel h',OF T.length c h T.length df rel h'->Q .none h'):WC (d+3) 22 [.ref a] h Q:=by
 have n7:=t.len ok A
 refine aD bU [.v (.ref a),.no,.no,.no,.no,.no,.no,.no,.no] rfl rfl ?_
 dsimp only[ge_,bU,dM]
 refine bp g Ez ?_
 try dsimp only[ge_,ae]
 refine bp g JN ?_
 refine cC (xs:=T) (g:=kV) (fun s:((Nat->Nat)×(Nat->List Nat)×H)×Sl×Sl×Sl×Sl×Sl×Sl×Sl=>NS a (au names tc rs) s.2) (fun s=>s.1.2.2) (fun ys _ s=>OF T.length c h ys.length s.1.1 s.1.2.1 s.1.2.2) ((fun _=>0,fun _=>[],h),.no,.no,.no,.no,.no,.no,.no) rfl ⟨fun _ _=>rfl,rfl,g1,g2,nofun,fun _=>XI _⟩ (fun ys t0 zs s P e p N=>?_) fun s N=>q _ _ _ N
 have g:=(N.kp a ac).trans g
 obtain⟨_,x,ex,mx⟩:=(Tq.at t).mp (mem_mid e:(t0.1,t0.2)∈T)
 obtain⟨y,ey,_⟩:=Iq A ex mx
 have my:=Xc ey
 have l8:y.ss.length<=8:=WH (aQ _ _ (kA ok A y my).1 (kA ok A y my).2) ok.n8
 have yl:ys.length<SZ:=WY (dP e) (WH n7 (by decide))
 dsimp only[ge_,NS,kV]
 refine bp g Ez ?_
 try dsimp only[ge_,ae]
 refine yu ex mx ?_
 try dsimp only[ge_,ae]
 refine bp g Ez ?_
 try dsimp only[ge_,ae]
 refine ag (AI ey) ?_
 try dsimp only[ge_,ae]
 refine ag (xd ok A my) ?_
 refine cC (xs:=y.ss) (g:=fun s:Nat=>V.int s) (fun u:Nat×List Nat×Sl=>NS a (au names tc rs) (.v (.int t0.1),.v (.int t0.2),.v (.int (x.go t0.2)),.v (.int u.1),.o (.list (aj u.2.1)),.v (.bL (y.ss.map kI) (y.ss.map fun s=>.int (y.go s))),u.2.2)) (fun _=>s.1.2.2) (fun us _ u=>(∀w∈u.2.1,w<T.length)/\u.2.1.length<=us.length) (0,[],s.2.2.2.2.2.2.2) rfl ⟨nofun,WQ _⟩ (fun us l ws u P e p I=>?_) fun u I=>?_
 ·have ml:=mem_mid e
  have lt:=tw ok A ey ml
  have up:=WH (XS I.2) (WO (aN (x:=l)).symm)
  dsimp only[ge_,NS]
  refine vt ?_
  try dsimp only[ge_,ae]
  refine dm (fun z=>?_) fun z=>?_
  ·try dsimp only[ge_,ae]
   exact ag (yi (WH (Xl lt) (WH ok.n8 (by decide)))) (ag wF (p (_,u.2.1,.v (.int l)) ⟨I.1,up⟩))
  ·try dsimp only[ge_,ae]
   refine bp g Sd ?_
   try dsimp only[ge_,ae]
   refine ag (bY (dR lt)) ?_
   refine dm (fun _=>?_) fun _=>p (u.1,u.2.1,.v (.int l)) ⟨I.1,up⟩
   try dsimp only[ge_,ae]
   obtain⟨j,lj,ej⟩:=NM t ((Tq.at t).mpr ⟨XX.mp (YU.mp z),y,ey,ml⟩)
   refine bp g e4 ?_
   try dsimp only[ge_,ae]
   refine ag (ej _) ?_
   try dsimp only[ge_,ae]
   refine aT (WM (WO az) (WM (WH I.2 (WH (Xl (dP e)) l8)) (by decide))) ?_
   exact(qP (y:=j) rfl).symm▸p (u.1,u.2.1++[j],.v (.int l)) ⟨aU I.1 lj,WH (WO aN) (WH (Xi I.2) (WO aN.symm))⟩
 ·dsimp only[ge_,NS]
  refine bp g e35 (cV rfl N.g1 ?_)
  try dsimp only[ge_,ae]
  refine dC N.g1 (WM (WO gr) yl) ?_
  try dsimp only[ge_,ae]
  have g3:=(ah (o:=some (.list (bA ys.length s.1.1++[.int u.1]))) (XU c)).trans N.g2
  refine bp ((ah (WT ac)).trans g) e36 (cV rfl g3 ?_)
  try dsimp only[ge_,ae]
  refine dC g3 (WM (WO ((WK _).trans Xb)) yl) ?_
  exact p ((_,_,_),.v (.int t0.1),.v (.int t0.2),.v (.int (x.go t0.2)),.v (.int u.1),.v (.lst (aj u.2.1)),.v (.bL (y.ss.map kI) (y.ss.map fun s=>.int (y.go s))),u.2.2) (aN.symm▸N.add I.1 (WH I.2 l8))
end
section
variable{d:Nat}{Q:V->H->Prop}{n i s a c k m j b N2 M r:Nat}{o:O}{h h1 h':H}{names:List (List Nat)}{tc:Nat}{rs:List Rl}{x y:St}{L:List St}{fs qs:List Nat}{vs:List V}{T Kb:List K2}{v:V}{U:Nat->List Nat}{rl:Rl}
structure Wc(h1:H)(b N2 M:Nat)(o:O)(n:Nat)(U:Nat->List Nat)(h:H):Prop where
 kp:∀a,a<b->h.get a=h1.get a
 sz:h1.size<=h.size
 gl:∀s,s<M->s≠N2->h.get (b+s)=some (.list (aj (U s)))
 nd:∀s,(U s).Nodup/\∀v∈U s,v<n
 dc:h.get (b+N2)=some o
theorem vi{v:Nat}(W:Wc h1 b N2 M o n U h)(hs:s<M)(hs2:s≠N2)(hv:v<n)(z:n<=7000000)(q:∀U' h',Wc h1 b N2 M o n U' h'->Q .none h'):WC (d+1) 26 [.ref (b+s),.int v] h Q:=by
 have c:=W.nd s
 refine BR (W.gl s hs hs2) (WM (WH (aQ _ _ c.1 c.2) z) (by decide)) (fun _=>q U h W) fun nm=>q (put U s (U s++[v])) _
  ⟨fun a l=>(ah (WT (WY l (WZ _ _)))).trans (W.kp a l),W.sz,fun t ht nt=>?_,te (R:=fun l:List Nat=>l.Nodup/\∀v∈l,v<n) W.nd ⟨kO c.1 nm,aU c.2 hv⟩,(ah fun e=>hs2 (YL e).symm).trans W.dc⟩
 by_cases e:t=s
 ·rw[e,ig];exact aG (aE (W.gl s hs hs2))
 ·rw[dT e];exact(ah fun z=>e (YL z)).trans (W.gl t ht nt)
theorem CN(e:rs[r]? =some rl)(hk:k<=rl.2.length):aK rs (oj rs r+k) r k rl:=(aK.mk' e).elim fun o c=>(wA c.1).symm▸(c.2 k hk).1
noncomputable def KC(L:List St)(rs:List Rl)(r k i:Nat):Prop:=∃Y,L[i]? =some Y/\oj rs r+k∈Y.aJ
theorem RU(A:bc rs L)(t:yN tc L T){t0:K2}(m:t0∈T)(e:rs[r]? =some rl)(el:rl.1=t0.2):KC L rs r 0 t0.1:=
 ((Tq.at t).mp (m:(t0.1,t0.2)∈T)).2.imp fun Y c=>⟨c.1,(((A.dn _ Y c.1).ss _).mp c.2).elim fun i ci=>(A.dn _ Y c.1).it.NP i ci.1 _ ci.2 r rl e el⟩
theorem RO(A:bc rs L)(e:rs[r]? =some rl)(es:rl.2[k]? =some s)(p:KC L rs r k i):∃Y,L[i]? =some Y/\s∈Y.ss/\KC L rs r (k+1) (Y.go s):=
 p.imp fun Y c=>by
  have D:=A.dn i Y c.1
  have es:=(CN e (Xl (WL.mp es).1)).yY.trans es
  have m:=(D.ss s).mpr ⟨_,c.2,es⟩
  refine⟨c.1,m,(Iq A c.1 m).imp fun y (cy:L[Y.go s]? =some y/\y.ks=mF rs Y.aJ s)=>⟨cy.1,(A.dn _ y cy.1).it.sub _ (cy.2▸bG.mpr (XN.mpr ⟨_,aaz.mpr ⟨c.2,decide_eq_true es⟩,rfl⟩))⟩⟩
theorem RC(A:bc rs L)(t:Tq St.rd 0 L [] Kb)(e:rs[r]? =some rl)(n:r≠0)(p:KC L rs r rl.2.length i):(i,r)∈Kb:=
 (Tq.at t).mpr ⟨XI _,p.imp fun Y c=>⟨c.1,(AS (A.dn i Y c.1)).mpr ⟨_,c.2,by
  have it:=CN e (WQ _)
  unfold dN
  rw[it.yY,it.uW,XD (WQ _)]
  exact if_neg n⟩⟩⟩
theorem RH(t:Kb.Nodup){t0:K2}(m:t0∈Kb)(g:h.get a=some (.dict (Kb.map kP) (refs (b+c) Kb.length))):∃j,j<Kb.length/\cL (.ref a) (kV t0) h=some (.ref (b+(c+j))):=by
 obtain⟨j,e⟩:=XH.mp m
 have l:=(WL.mp e).1
 exact⟨j,l,XO b c j▸IK vd (x:=t0) rfl g ((vd.look t kR e).trans (dR l))⟩
noncomputable def fE(a:Nat)(G:V)(x2 x4 x5 x6:Sl)(s:Sl×Sl×Sl×Sl×Sl×Sl×Sl):Env:=[.v (.ref a),.v G,x2,s.1,x4,x5,x6,s.2.1,s.2.2.1,s.2.2.2.1,s.2.2.2.2.1,s.2.2.2.2.2.1,s.2.2.2.2.2.2]
structure Nn(names:List (List Nat))(tc:Nat)(rs:List Rl)(L:List St)(T:List K2)(qs:List Nat)(b:Nat)(fs:List Nat)(vs:List V):Prop where
 Ez:ae 30 fs vs=some (aV names tc rs L)
 Sd:ae 31 fs vs=some (.lst (eB (tc+3) qs))
 JN:ae 33 fs vs=some (.lst (T.map kV))
 e4:ae 4 fs vs=some (.bL (T.map kP) (eX T.length))
 Vu:ae 38 fs vs=some (.lst (refs b T.length))
 VV:ae 39 fs vs=some (.lst (refs (b+T.length) T.length))
 Pc:ae 40 fs vs=some (.ref (b+(T.length+T.length)))
 Wm:ae 52 fs vs=none
noncomputable def IZ:S:=(.seq (.asg 11 (.sub (.loc 7) (.loc 10)))
  (.seq (.ite (.and (.cmp .ge (.loc 10) (.loc 8)) (.not (.aq (.loc 1) 48 (.aa (.loc 11) .af)))) (.seq (.asg 12 (.sub (.attr (.loc 0) 4) (.aa (.loc 9) (.aa (.loc 11) .af))))
  (.seq (.ex (.call 26 (.aa (.sub (.attr (.loc 0) 38) (.loc 12)) (.aa (.loc 4) .af))))
  (.ite (.cmp .eq (.loc 10) (.lit (.int 0))) (.ex (.call 26 (.aa (.sub (.attr (.loc 0) 39) (.loc 12)) (.aa (.loc 4) .af)))) S.skip))) S.skip)
  (.asg 9 (.aq (.attr (.loc 0) 30) 49 (.aa (.loc 9) (.aa (.loc 11) .af))))))
theorem Lc{x2 x5 x6 s3 gO lN:Sl}{v e:Nat}{P:Env->H->Prop}{R:V->Env->H->Prop}(ok:gP names tc rs)(A:bc rs L)(t:yN tc L T)(ab:a<b)(F:Nn names tc rs L T qs b fs vs)(g:h1.get a=some (.inst 3 fs vs))(M2:T.length+T.length+1<=M)(hv:v<T.length)
  (er:rs[r]? =some rl)(es:rl.2[k]? =some s)(p:KC L rs r k i)(W:Wc h1 b (T.length+T.length) M o T.length U h)(q:∀U' h' i lN,Wc h1 b (T.length+T.length) M o T.length U' h'->KC L rs r (k+1) i->P (fE a (au names tc rs) x2 (.v (.int v)) x5 x6 (s3,.v (.tup (aj rl.2)),.v (.int e),.v (.int i),.v (.int k),.v (.int s),lN)) h'):
  KX (d+2) [.s IZ] [] (fE a (au names tc rs) x2 (.v (.int v)) x5 x6 (s3,.v (.tup (aj rl.2)),.v (.int e),.v (.int i),.v (.int k),gO,lN)) h ⟨P,P,R⟩:=by
 refine(RO A er es p).elim fun Y c=>?_
 have n7:=t.len ok A
 have lt:=tw ok A c.1 c.2.1
 have g:∀{U h},Wc h1 b (T.length+T.length) M o T.length U h->h.get a=some (.inst 3 fs vs):=fun W=>(W.kp a ab).trans g
 have rest:∀U h lN,Wc h1 b (T.length+T.length) M o T.length U h->KX (d+2) [.s (.asg 9 (.aq (.attr (.loc 0) 30) 49 (.aa (.loc 9) (.aa (.loc 11) .af))))] [] (fE a (au names tc rs) x2 (.v (.int v)) x5 x6 (s3,.v (.tup (aj rl.2)),.v (.int e),.v (.int i),.v (.int k),.v (.int s),lN)) h ⟨P,P,R⟩:=fun U h lN W=>by
  dsimp only[ge_,fE]
  refine bp (g W) F.Ez ?_
  try dsimp only[ge_,ae]
  exact yu c.1 c.2.1 (q U h _ lN W c.2.2)
 dsimp only[ge_,IZ,fE]
 refine ag (tC (gg es)) ?_
 try dsimp only[ge_,ae]
 refine nq (fun _=>?_) fun _=>rest U h lN W
 try dsimp only[ge_,ae]
 refine vt ?_
 try dsimp only[ge_,ae]
 refine eM (fun z=>?_) fun _=>rest U h lN W
 refine(NM t ((Tq.at t).mpr ⟨XX.mp (YU.mp z),Y,c.1,c.2.1⟩)).elim fun j cj=>?_
 have j2:j<T.length+T.length:=WY cj.1 (WZ _ _)
 try dsimp only[ge_,ae]
 refine bp (g W) F.e4 ?_
 try dsimp only[ge_,ae]
 refine ag (cj.2 _) ?_
 try dsimp only[ge_,ae]
 refine bp (g W) F.Vu ?_
 try dsimp only[ge_,ae]
 refine ag (bY (dR cj.1)) ?_
 try dsimp only[ge_,ae]
 refine vi W (WY j2 (Yk M2)) (WT j2) hv n7 fun U1 h2 W1=>?_
 try dsimp only[ge_,ae]
 refine dm (fun _=>?_) fun _=>rest U1 h2 _ W1
 try dsimp only[ge_,ae]
 refine bp (g W1) F.VV ?_
 try dsimp only[ge_,ae]
 refine ag (bY ((dR cj.1).trans (congrArg (fun z=>some (V.ref z)) (XO b _ j)))) ?_
 try dsimp only[ge_,ae]
 have j3:=Xy cj.1 T.length
 exact vi W1 (WY j3 (Yk M2)) (WT j3) hv n7 fun U2 h3 W2=>rest U2 h3 _ W2
end
section
variable{d:Nat}{Q:V->H->Prop}{n i s a c k m j b n2 r:Nat}{h h1 h':H}{names:List (List Nat)}{tc:Nat}{rs:List Rl}{x:St}{L ys:List St}{us fs qs:List Nat}{vs:List V}{T Kb:List K2}{v:V}{U:Nat->List Nat}{rl:Rl}
noncomputable def MG(b n2:Nat)(Kb:List K2):O:=.dict (Kb.map kP) (refs (b+(n2+1)) Kb.length)
structure FI(h1:H)(b n2 n:Nat)(ys:List St)(us:List Nat)(Kb:List K2)(h:H):Prop where
 tp:Tq St.rd 0 ys us Kb
 w:Wc h1 b n2 (n2+1+Kb.length) (MG b n2 Kb) n (fun _=>[]) h
 sz:h.size=b+(n2+1+Kb.length)
theorem FI.add(N:FI h1 b n2 n ys us Kb h)(no:s∉us):FI h1 b n2 n ys (us++[s]) (Kb++[(ys.length,s)]) ((h.push (.list [])).set (b+n2) (some (.dict ((Kb++[(ys.length,s)]).map kP) (refs (b+(n2+1)) Kb.length++[.ref h.size])))):=by
 have ld:=aE N.w.dc
 refine⟨N.tp.add (XI _) no,⟨fun a l=>(ah (WT (WY l (WZ _ _)))).trans ((ay (Yw (WY l (WZ _ _)) ld)).trans (N.w.kp a l)),XS N.w.sz,fun s hs n2'=>(ah fun e=>n2' (YL e)).trans ?_,N.w.nd,(aG (WV ld)).trans ?_⟩,?_⟩
 ·rw[aN]at hs
  rcases YC.mp hs with l|l
  ·exact(ay (N.sz▸Xy l b)).trans (N.w.gl s l n2')
  ·rw[show s=n2+1+Kb.length from l, <-N.sz];exact aL
 ·unfold MG
  rw[aN, <-qB,XO, <-N.sz]
 ·rw[aN];exact congrArg (· +1) N.sz
theorem Ei(ok:gP names tc rs)(A:bc rs L)(t:yN tc L T)(ab:a<b)(F:Nn names tc rs L T qs b fs vs)(g:h.get a=some (.inst 3 fs vs))(sz:h.size=b+(T.length+T.length+1))(gl:∀s,s<T.length+T.length->h.get (b+s)=some (.list []))(gd:h.get (b+(T.length+T.length))=some (.dict [] []))
  (q:∀Kb U h',Tq St.rd 0 L [] Kb->Wc h b (T.length+T.length) (T.length+T.length+1+Kb.length) (MG b (T.length+T.length) Kb) T.length U h'->Q .none h'):WC (d+3) 23 [.ref a] h Q:=by
 have n7:=t.len ok A
 refine aD bx [.v (.ref a),.no,.no,.no,.no,.no,.no,.no,.no,.no,.no,.no,.no] rfl rfl ?_
 dsimp only[ge_,bx,cQ]
 refine bp g F.Ez ?_
 try dsimp only[ge_,ae]
 refine bp g F.Ez ?_
 try dsimp only[ge_,ae]
 refine kM (xs:=L) jP (fun s:List K2×H×Sl×Sl=>fE a (au names tc rs) s.2.2.1 .no .no .no (s.2.2.2,.no,.no,.no,.no,.no,.no)) (fun s=>s.2.1) (fun ys _ s=>FI h b (T.length+T.length) T.length ys [] s.1 s.2.1) ([],h,.no,.no) rfl ⟨.nil,⟨fun _ _=>rfl,WQ _,fun s l n2=>gl s (aac (XY l) n2),fun _=>⟨.nil,nofun⟩,gd⟩,sz⟩ (fun ys x zs s P e p N=>?_) fun s N=>?_
 ·have mx:=mem_mid e
  have tY:=Dv ok A
  dsimp only[ge_,fE]
  refine cC (xs:=x.rd) (g:=fun s:Nat=>V.int s) (fun u:List K2×H×Sl=>fE a (au names tc rs) (.v (jP ys.length x)) .no .no .no (u.2.2,.no,.no,.no,.no,.no,.no)) (fun u=>u.2.1) (fun us _ u=>FI h b (T.length+T.length) T.length ys us u.1 u.2.1) (s.1,s.2.1,s.2.2.2) rfl N (fun us r ws u P e' p N=>?_) fun u N=>p (u.1,u.2.1,_,u.2.2) ⟨N.tp.next,N.w,N.sz⟩
  have no:=xv e' (tY x mx).1
  have le:u.1.length<SZ:=WM (WH (N.tp.len e tY (BG e')) (YH 6 A.len)) (by decide)
  have la:=Yw (WY ab (WZ _ _)) (aE N.w.dc)
  dsimp only[ge_,fE]
  refine bp ((ay la).trans ((N.w.kp a ab).trans g)) F.Pc ?_
  try dsimp only[ge_,ae]
  refine gB ((ay (aE N.w.dc)).trans N.w.dc) (vd.oJ (x:=(ys.length,r)) rfl (N.tp.out no) kR le) ?_
  exact p (_,_,.v (.int r)) (N.add no)
 ·have N:=N
  have nd:=N.tp.nd
  have tp:=N.tp
  dsimp only[ge_,fE]
  refine bp ((N.w.kp a ab).trans g) F.JN ?_
  try dsimp only[ge_,ae]
  refine ag kW (ag (fq (cX (WU _) (Yb (XX.mpr n7) (by decide)))) ?_)
  refine cC (fun u:(Nat->List Nat)×H×Sl×Sl×Sl×Sl×Sl×Sl×Sl×Sl×Sl×Sl=>fE a (au names tc rs) s.2.2.1 u.2.2.1 u.2.2.2.1 u.2.2.2.2.1 u.2.2.2.2.2) (fun u=>u.2.1) (fun _ _ u=>Wc h b (T.length+T.length) (T.length+T.length+1+s.1.length) (MG b (T.length+T.length) s.1) T.length u.1 u.2.1) (fun _=>[],s.2.1,.no,.no,.no,s.2.2.2,.no,.no,.no,.no,.no,.no) cZ N.w (fun ys v zs u P e p W=>?_) fun u W=>q _ _ _ tp W
  have hv:=(kB e).2
  have et:=WR hv
  have mt:=Yh hv
  generalize T[v]=t0 at et mt
  have lt:=((Tq.at t).mp (mt:(t0.1,t0.2)∈T)).2.elim fun x c=>tw ok A c.1 c.2
  have ne:t0.2≠tc:=((Tq.at t).mp (mt:(t0.1,t0.2)∈T)).2.elim fun x c=>(((A.dn _ x c.1).ss _).mp c.2).elim fun i c=>(XB.mp c.2).elim fun r c=>((ok.lo r (Xc c.1)).2.2 _ (Xc c.2)).2
  dsimp only[ge_,fE]
  refine bp ((W.kp a ab).trans g) F.JN ?_
  try dsimp only[ge_,ae]
  refine ag (bY (Xj.trans (congrArg (XF kV) et))) ?_
  dsimp only[ge_,kV]
  refine qO (ok.nm.symm▸lt) (WH ok.tY (by decide)) ?_
  refine cC (xs:=ko t0.2 rs 0) (g:=fun r:Nat=>V.int r) (fun w:(Nat->List Nat)×H×Sl×Sl×Sl×Sl×Sl×Sl×Sl=>fE a (au names tc rs) s.2.2.1 (.v (.int v)) (.v (.int t0.1)) (.v (.int t0.2)) w.2.2) (fun w=>w.2.1) (fun _ _ w=>Wc h b (T.length+T.length) (T.length+T.length+1+s.1.length) (MG b (T.length+T.length) s.1) T.length w.1 w.2.1) (u.1,u.2.1,u.2.2.2.2.2) rfl W (fun us r ws w P e' p' W=>?_) fun w W=>p (w.1,w.2.1,_,_,_,w.2.2) W
  refine(ik.mp (mem_mid e')).elim fun r' c=>c.elim fun rl c=>?_
  have er:rs[r]? =some rl:=(c.1.trans (XG r'))▸c.2.1
  have r0:r≠0:=fun z=>ne (by rw[z,ok.r0]at er;cases er;exact c.2.2.symm)
  dsimp only[ge_,fE]
  refine ag (uc er) ?_
  try dsimp only[ge_,ae]
  refine fQ (kQ ((W.kp a ab).trans g) (by rw[F.Wm];rfl)) ?_
  try dsimp only[ge_,ae]
  refine zF ((W.kp a ab).trans g) F.Sd (fun t m=>((ok.lo rl (Xc er)).2.2 t m).1) fun e=>?_
  try dsimp only[ge_,ae]
  refine ag mz (ag (fq (cX (WU _) ?_)) ?_)
  ·exact Yb (XX.mpr (WH (WH (YK _ _) (Xl (CN er (WQ _)).lt)) ok.Bh)) (by decide)
  refine cC (fun z:(Nat->List Nat)×H×Nat×Sl×Sl×Sl=>fE a (au names tc rs) s.2.2.1 (.v (.int v)) (.v (.int t0.1)) (.v (.int t0.2)) (.v (.int r),.v (.tup (aj rl.2)),.v (.int e),.v (.int z.2.2.1),z.2.2.2)) (fun z=>z.2.1) (fun ks _ z=>Wc h b (T.length+T.length) (T.length+T.length+1+s.1.length) (MG b (T.length+T.length) s.1) T.length z.1 z.2.1/\KC L rs r ks.length z.2.2.1) (w.1,w.2.1,t0.1,w.2.2.2.2.2.2) cZ ⟨W,RU A t mt er c.2.2⟩ (fun ks k ls z P e'' p'' I=>?_) fun z I=>?_
  ·obtain⟨rfl,hk⟩:=kB e''
   exact Lc (gO:=z.2.2.2.2.1) (lN:=z.2.2.2.2.2) ok A t ab F g (WZ _ _) hv er (WR hk) I.2 I.1 fun U' h' i lN W a=>p'' (U',h',i,_,_,lN) ⟨W,aN.symm▸a⟩
  ·rw[Xb]at I
   refine(RH nd (RC A tp er r0 I.2) I.1.dc).elim fun j c=>?_
   dsimp only[ge_,fE]
   refine bp ((I.1.kp a ab).trans g) F.Pc ?_
   try dsimp only[ge_,ae]
   refine ag c.2 ?_
   try dsimp only[ge_,ae]
   exact vi I.1 (Xy c.1 _) (Xz (WY (Xk _) (WZ _ _))) hv n7 fun U h' W=>p' (U,h',_,_,_,_,z.2.2.2) W
end
section
variable{d:Nat}{ρ:Env}{Q:V->H->Prop}{K:List C}{sk:List V}{QX:Qs}{n s a c k m j b f:Nat}{o:O}{h0 h h2 h':H}{us fs fs':List Nat}{vs vs':List V}{Kb:List K2}{v w:V}{U:Nat->List Nat}{ff:Nat->Nat}{e:E}
theorem joined(g:h.get a=some (.inst 3 fs vs))(Pc:ae 40 fs vs=some (.bL (Kb.map kP) ((Xq Kb.length).map fun j=>.lst (aj (U j)))))(e43:ae 43 fs vs=some (.lst (bA n ff)))(nd:Kb.Nodup)(z:Kb.length<SZ)(lt:∀s,∀v∈U s,v<n)(q:∀ms,Q (.bL (Kb.map kP) (aj ms)) h):WC (d+1) 25 [.ref a] h Q:=by
 refine aD bD [.v (.ref a),.no,.no,.no,.no] rfl rfl ?_
 dsimp only[ge_,bD,dj]
 refine bp g Pc ?_
 refine cC (xs:=Kb) (g:=kV) (fun s:(List K2×List Nat)×Sl×Sl×Sl=>[.v (.ref a),.o (.dict (s.1.1.map kP) (aj s.1.2)),s.2.1,s.2.2.1,s.2.2.2]) (fun _=>h) (fun ys _ s=>s.1.1=ys/\s.1.2.length=ys.length) (([],[]),.no,.no,.no) (congrArg some Yd) ⟨rfl,rfl⟩ (fun ys t0 zs s P e p I=>?_) fun s I=>by rw[I.1];exact q _
 refine(XH.mp (mem_mid e)).elim fun j ej=>?_
 have nk:t0∉s.1.1:=I.1▸fun m=>(Yi.mp (e▸nd:(ys++t0::zs).Nodup)).2.2 t0 m t0 (.head _) rfl
 dsimp only[ge_,ae]
 refine bp g Pc (ag (vd.cL (x:=t0) rfl ((vd.look nd ((WK _).trans Xb) ej).trans (dR (WL.mp ej).1))) ?_)
 refine cC (xs:=U j) (g:=fun n:Nat=>V.int n) (fun u:Nat×Sl=>[.v (.ref a),.o (.dict (s.1.1.map kP) (aj s.1.2)),.v (kV t0),.v (.int u.1),u.2]) (fun _=>h) (fun _ _ _=>True) (0,s.2.2.2) rfl trivial (fun us x ws u P e' p _=>?_) fun u _=>?_
 ·try dsimp only[ge_,ae]
  refine bp g e43 ?_
  try dsimp only[ge_,ae]
  exact ag (bY (jK (lt j x (mem_mid e')))) (ag wF (p (_,.v (.int x)) trivial))
 ·try dsimp only[ge_,ae]
  refine cU (vd.oJ (x:=t0) rfl nk (az.trans (I.2.trans (congrArg YN I.1.symm))) (I.1▸Yw (dP e) z)) ?_
  exact(qP (y:=u.1) rfl).symm▸p ((s.1.1++[t0],s.1.2++[u.1]),.v (kV t0),.v (.int u.1),u.2) ⟨I.1▸rfl,aN.trans ((congrArg (· +1) I.2).trans aN.symm)⟩
theorem pL:KX d (.s (.uZ e f)::K) sk ρ h QX=KX d (.e e::.uZ f::K) sk ρ h QX:=rfl
theorem HS{c f:Nat}(e:mp.init c=some f)(q:∀R:V->H->Prop,(∀h',KX d K (.ref h.size::sk) ρ h' QX->R .none h')->WC d f (.ref h.size::vs) (h.push (.inst c [] [])) R):KX d (.qr c::K) (.tup vs::sk) ρ h QX:=by
 show match mp.init c with|some f=>_|.none=>False
 rw[e];exact q _ fun _ x=>x
structure Ko(h0:H)(a:Nat)(fs:List Nat)(vs:List V)(h:H):Prop where
 lo:∀b,b<a->h.get b=h0.get b
 g:h.get a=some (.inst 3 fs vs)
theorem Ko.of(k:Ko h0 a fs vs h)(l:∀b,b<=a->h'.get b=h.get b):Ko h0 a fs vs h':=⟨fun b e=>(l b (Xl e)).trans (k.lo b e),(l a (WQ _)).trans k.g⟩
theorem Ko.push(k:Ko h0 a fs vs h):Ko h0 a fs vs (h.push o):=k.of fun b e=>ay (WM e (aE k.g))
theorem Ko.ge(k:Ko h0 a fs vs h)(G:Ge h h'):Ko h0 a fs vs h':=k.of fun b e=>G.kp b (WM e (aE k.g))
theorem Ko.self(k:Ko h0 a fs vs h):Ko h0 a fs' vs' (h.set a (some (.inst 3 fs' vs'))):=⟨fun b e=>(ah (WT e)).trans (k.lo b e),aG (aE k.g)⟩
theorem Ko.nW(k:Ko h0 a fs vs h)(e2:jR mp.ok (.inst 3 fs vs) f v=some (.inst 3 fs' vs'))(q:∀h',Ko h0 a fs' vs' h'->h'.size=h.size->(∀b,a<b->h'.get b=h.get b)->KX d K sk ρ h' QX):KX d (.eT f::K) (.ref a::v::sk) ρ h QX:=
 rH k.g e2 (q _ k.self rfl fun b e=>ah (Xz e))
theorem Ko.Lw(k:Ko h0 a fs vs h)(e:ae f fs vs=some v)(e2:Mine.bP 8 v h=some (w,h2))(l:∀b,b<=a->h2.get b=h.get b)(q:∀h',Ko h0 a fs (dQ f w fs vs) h'->h'.size=h2.size->(∀b,a<b->h'.get b=h2.get b)->KX d K sk ρ h' QX):KX d (.uZ f::K) (.ref a::sk) ρ h QX:=by
 have k2:=k.of l
 show match h.get a with
   |some (.inst c fs vs)=>(match ae f fs vs with
    |some v=>(match Mine.bP 8 v h with|some r=>(match r.2.get a with|some _=>KX d K sk ρ (r.2.set a (some (.inst c fs (dQ f r.1 fs vs)))) QX|.none=>False)|.none=>False)
    |.none=>False)
   |_=>False
 rw[k.g]
 show match ae f fs vs with
    |some v=>(match Mine.bP 8 v h with|some r=>(match r.2.get a with|some _=>KX d K sk ρ (r.2.set a (some (.inst 3 fs (dQ f r.1 fs vs)))) QX|.none=>False)|.none=>False)
    |.none=>False
 rw[e]
 show match Mine.bP 8 v h with|some r=>(match r.2.get a with|some _=>KX d K sk ρ (r.2.set a (some (.inst 3 fs (dQ f r.1 fs vs)))) QX|.none=>False)|.none=>False
 rw[e2]
 show match h2.get a with|some _=>KX d K sk ρ (h2.set a (some (.inst 3 fs (dQ f w fs vs)))) QX|.none=>False
 rw[k2.g]
 exact q _ k2.self rfl fun b e=>ah (Xz e)
end
section
variable{d:Nat}{Q:V->H->Prop}{n i s a c m j b N:Nat}{o:O}{h h1 h2 h':H}{names:List (List Nat)}{tc:Nat}{rs:List Rl}{L:List St}{us qs:List Nat}{vs:List V}{T Kb:List K2}{v w:V}{U rel:Nat->List Nat}{df rf ff:Nat->Nat}{e:E}{ks:List Key}
theorem pO(g:∀s,s<N->h.get (b+s)=some (.list (aj (U s)))):∃h2,jj (Mine.bP 7) (refs b N) h=some ((Xq N).map fun s=>.lst (aj (U s)),h2)/\h2.size=h.size/\∀a,a<b\/b+N<=a->h2.get a=h.get a:=by
 have c:=jM (n:=6) (us:=fun j=>aj (U j)) (b:=b) (fun s=>eV) N 0 h fun t _ l=>g t (XG N▸l)
 rw[<-Zm,XG]at c
 exact c
theorem xC{us:List V}(e:jj (Mine.bP n) vs h=some (us,h2)):Mine.bP (n+1) (.lst vs) h=some (.lst us,h2):=congrArg (fun z=>gN (XF (fun r:List V×H=>(O.list r.1,r.2)) z)) e
theorem Jz{us:List V}(g:h.get a=some (.dict ks vs))(e:jj (Mine.bP n) vs (h.set a none)=some (us,h2)):Mine.bP (n+1) (.ref a) h=some (.bL ks us,h2):=by
 show(h.get a).bind _=_
 rw[g]
 exact congrArg (fun z=>gN (XF (fun r:List V×H=>(O.dict ks r.1,r.2)) z)) e
theorem mS(e:h.size=a):(h.push o).get a=some o:=e▸aL
noncomputable def Zr(rel:Nat->List Nat)(df:Nat->Nat)(x t:Nat):Prop:=∀S:Nat->Prop,(∀v,S v->∀w∈rel v,S w)->S x->∃v,S v/\(df v).testBit t=true
noncomputable def EF:List Nat:=[30,31,33,4,35,36,38,39,40,42,43,44]
noncomputable def AF(o:Nat)(U:Nat->List Nat)(Kb:List K2):V:=.bL (Kb.map kP) ((Xq Kb.length).map fun j=>.lst (aj (U (o+j))))
noncomputable def Kn(A:V)(qs:List V)(T:List K2)(df:Nat->Nat)(rel:Nat->List Nat)(U:Nat->List Nat)(Kb:List K2)(rf ff:Nat->Nat)(ms:List Nat):List V:=
 [A,.lst qs,.lst (T.map kV),.bL (T.map kP) (eX T.length),.lst (bA T.length df),mB T.length rel,mB T.length U,mB T.length fun s=>U (T.length+s),AF (T.length+T.length+1) U Kb,.lst (bA T.length rf),.lst (bA T.length ff),.bL (Kb.map kP) (aj ms)]
structure Pd(tc:Nat)(L:List St)(T:List K2)(df:Nat->Nat)(rel U:Nat->List Nat)(Kb:List K2)(rf:Nat->Nat):Prop where
 t:yN tc L T
 rl:∀v,∀w∈rel v,w<T.length
 kb:Tq St.rd 0 L [] Kb
 ul:∀s,(U s).Nodup/\∀v∈U s,v<T.length
 z:∀v,v<T.length->∀t,(rf v).testBit t=true->Zr rel df v t
theorem jO:qp (n+1) (bA m df):=bH fun _ _=>rfl
theorem FR(ok:gP names tc rs)(A:bc rs L)(k0:Ko h a [] [] h)(q:∀qs T df rel U Kb rf ff ms h',Pd tc L T df rel U Kb rf->Ko h a EF (Kn (aV names tc rs L) (eB (tc+3) qs) T df rel U Kb rf ff ms) h'->Q .none h'):WC (d+4) 20 [.ref a,aV names tc rs L] h Q:=by
 refine aD ee [.v (.ref a),.v (aV names tc rs L),.no,.no,.no] rfl rfl ?_
 dsimp only[ge_,ee,gy]
 refine k0.nW rfl fun h1 k1 z1 u1=>?_
 try dsimp only[ge_,ae]
 refine CU ok fun qs h2 G2=>?_
 try dsimp only[ge_,ae]
 refine(k1.ge G2).nW rfl fun h3 k3 z3 u3=>?_
 try dsimp only[ge_,ae]
 refine k3.push.nW rfl fun h4 k4 z4 u4=>?_
 try dsimp only[ge_,ae]
 refine k4.push.nW rfl fun h5 k5 z5 u5=>?_
 have ac:=aE k3.g
 have e4:=congrArg (fun z=>some (V.ref z)) z4
 try dsimp only[ge_,ae]
 refine fQ (kQ k5.g rfl) ?_
 try dsimp only[ge_,ae]
 refine Kv ok A k5.g rfl rfl e4 ac ((u5 _ ac).trans ((ay (z4▸Xk _)).trans ((u4 _ ac).trans aL))) ((u5 _ (WV ac)).trans (mS z4)) fun T h6 N=>?_
 have t:yN tc L T:=N.tp
 have n7:=t.len ok A
 dsimp only[ge_,pL]
 refine(k5.of fun b e=>N.kp b (WM e ac)).Lw rfl (hS (n:=7) N.g1 (bH fun _ _=>rfl)) (fun b e=>ah (WT (WM e ac))) fun h7 k7 z7 u7=>?_
 dsimp only[ge_,pL]
 refine k7.Lw e4 (uz (n:=7) ((u7 _ (WV ac)).trans ((ah (XU _)).trans N.g2)) jO) (fun b e=>ah (WT (WV (WM e ac)))) fun h8 k8 z8 u8=>?_
 try dsimp only[ge_,ae]
 refine k8.push.nW rfl fun h9 k9 z9 u9=>?_
 try dsimp only[ge_,ae]
 refine k9.push.nW rfl fun h10 k10 z10 u10=>?_
 have ac:=aE k8.g
 have e36:=congrArg (fun z=>some (V.ref z)) z9
 try dsimp only[ge_,ae]
 refine fQ (kQ k10.g rfl) ?_
 try dsimp only[ge_,ae]
 refine wB ok A t k10.g rfl rfl rfl rfl rfl e36 ac ((u10 _ ac).trans ((ay (z9▸Xk _)).trans ((u9 _ ac).trans aL))) ((u10 _ (WV ac)).trans (mS z9)) fun df rel h11 R=>?_
 dsimp only[ge_,pL]
 refine(k10.of fun b e=>R.kp b (WM e ac)).Lw rfl (hS (n:=7) R.g1 jO) (fun b e=>ah (WT (WM e ac))) fun h12 k12 z12 u12=>?_
 dsimp only[ge_,pL]
 refine k12.Lw e36 (hS (n:=7) ((u12 _ (WV ac)).trans ((ah (XU _)).trans R.g2)) (bH fun _=>bR)) (fun b e=>ah (WT (WV (WM e ac)))) fun h13 k13 z13 u13=>?_
 have b0:=aE k13.g
 try dsimp only[ge_,ae]
 refine bp k13.g rfl (gC kV rfl (WH n7 (by decide)) fun h14 G14 z14 g14=>?_)
 try dsimp only[ge_,ae]
 refine(k13.ge G14).nW rfl fun h15 k15 z15 u15=>?_
 try dsimp only[ge_,ae]
 refine bp k15.g rfl (gC kV rfl (WH n7 (by decide)) fun h16 G16 z16 g16=>?_)
 have e15:h15.size=h13.size+T.length:=z15.trans z14
 rw[e15]at z16 g16
 try dsimp only[ge_,ae]
 refine(k15.ge G16).nW rfl fun h17 k17 z17 u17=>?_
 try dsimp only[ge_,ae]
 refine k17.push.nW rfl fun h18 k18 z18 u18=>?_
 have e17:h17.size=h13.size+(T.length+T.length):=(z17.trans z16).trans (XO _ _ _)
 have lb:∀s,a<h13.size+s:=fun s=>WY b0 (WZ _ _)
 try dsimp only[ge_,ae]
 refine fQ (kQ k18.g rfl) ?_
 try dsimp only[ge_,ae]
 refine Ei (qs:=qs) ok A t b0 ?_ k18.g (z18.trans (congrArg (· +1) e17)) (fun s l=>(u18 _ (lb s)).trans ((ay (e17▸Xy l _)).trans ((u17 _ (lb s)).trans ?_))) ((u18 _ (lb _)).trans (mS e17)) fun Kb U h19 tp W=>?_
 ·exact⟨rfl,rfl,rfl,rfl,rfl,congrArg (fun z=>some (V.lst (refs z T.length))) e15,congrArg (fun z=>some (V.ref z)) e17,rfl⟩
 ·by_cases c:s<T.length
  ·exact(G16.kp _ (e15▸Xy c _)).trans ((u15 _ (lb s)).trans (g14 s c))
  ·have c:=YB c
   have e:=g16 (s-T.length) (Nat.sub_lt_left_of_lt_add c l)
   rw[XO,aaR c]at e
   exact e
 have kz:Kb.length<SZ:=WM (El (n:=L.length) (lo:=0) (c:=6) tp.nd fun⟨i,s⟩ m=>((Tq.at tp).mp m).2.elim fun x c=>⟨(WL.mp c.1).1,XI _,(Dv ok A x (Xc c.1)).2 s c.2⟩) (WM (YH 6 A.len) (by decide))
 have lt2:∀s,s<T.length->s<T.length+T.length/\T.length+s<T.length+T.length:=fun s l=>⟨WY l (WZ _ _),Xy l _⟩
 have gl:∀s,s<T.length+T.length->h19.get (h13.size+s)=some (.list (aj (U s))):=fun s l=>W.gl s (WY l (WH (Yj _) (WZ _ _))) (WT l)
 refine(pO (U:=U) (N:=T.length) fun s l=>gl s (lt2 s l).1).elim fun h20 c20=>?_
 dsimp only[ge_,pL]
 refine(k18.of fun b e=>W.kp b (WM e b0)).Lw rfl (xC c20.1) (fun b e=>c20.2.2 b (.inl (WM e b0))) fun h21 k21 z21 u21=>?_
 refine(pO (h:=h21) (b:=h13.size+T.length) (U:=fun s=>U (T.length+s)) (N:=T.length) fun s l=>?_).elim fun h22 c22=>?_
 ·rw[XO]
  exact(u21 _ (lb _)).trans ((c20.2.2 _ (.inr (Xf (WZ _ _) _))).trans (gl _ (lt2 s l).2))
 dsimp only[ge_,pL]
 refine k21.Lw (congrArg (fun z=>some (V.lst (refs z T.length))) e15) (xC c22.1) (fun b e=>c22.2.2 b (.inl (WM e (lb _)))) fun h23 k23 z23 u23=>?_
 have PC:∀s,T.length+T.length<=s->h23.get (h13.size+s)=h19.get (h13.size+s):=fun s l=>(u23 _ (lb s)).trans ((c22.2.2 _ (.inr (WH (WO (XO _ _ _)) (Xf l _)))).trans ((u21 _ (lb s)).trans (c20.2.2 _ (.inr (Xf (WH (WZ _ _) l) _)))))
 refine(pO (h:=h23.set (h13.size+(T.length+T.length)) none) (b:=h13.size+(T.length+T.length+1)) (U:=fun s=>U (T.length+T.length+1+s)) (N:=Kb.length) fun s l=>?_).elim fun h24 c24=>?_
 ·have l2:T.length+T.length<T.length+T.length+1+s:=WY (Xk _) (WZ _ _)
  rw[XO,ah (Xz (Xy l2 _)),PC _ (Xl l2)]
  exact W.gl _ (Xy l _) (Xz l2)
 dsimp only[ge_,pL]
 refine k23.Lw (congrArg (fun z=>some (V.ref z)) e17) (Jz (n:=7) ((PC _ (WQ _)).trans W.dc) c24.1) (fun b e=>(c24.2.2 b (.inl (WM e (lb _)))).trans (ah (WT (WM e (lb _))))) fun h25 k25 z25 u25=>?_
 have nn:T.length<=15000000:=WH n7 (by decide)
 try dsimp only[ge_,ae]
 refine bp k25.g rfl ?_
 try dsimp only[ge_,ae]
 refine ag kW ?_
 try dsimp only[ge_,ae]
 refine bp k25.g rfl ?_
 try dsimp only[ge_,ae]
 refine bp k25.g rfl ?_
 try dsimp only[ge_,ae]
 refine xU (C:=8) (rel:=rel) (Z:=Zr rel df) nn (fun v _ w m=>⟨R.lt v w m,fun t z S c s=>z S c (c v s w m)⟩) (fun v _=>R.ln v) (fun v _ t e S c s=>⟨v,s,e⟩) fun rf h26 G26 z26=>?_
 try dsimp only[ge_,ae]
 refine(k25.ge G26).nW rfl fun h27 k27 _ _=>?_
 try dsimp only[ge_,ae]
 refine bp k27.g rfl ?_
 try dsimp only[ge_,ae]
 refine bp k27.g rfl ?_
 try dsimp only[ge_,ae]
 refine xU (C:=T.length) (rel:=U) (Z:=fun _ _=>True) nn (fun v _ w m=>⟨(W.nd v).2 w m,fun _ _=>trivial⟩) (fun v _=>aQ _ _ (W.nd v).1 (W.nd v).2) (fun _ _ _ _=>trivial) fun ff h28 G28 _=>?_
 try dsimp only[ge_,ae]
 refine(k27.ge G28).nW rfl fun h29 k29 _ _=>?_
 try dsimp only[ge_,ae]
 refine fQ (kQ k29.g rfl) ?_
 try dsimp only[ge_,ae]
 refine joined (n:=T.length) (U:=fun s=>U (T.length+T.length+1+s)) k29.g rfl rfl tp.nd kz (fun s v m=>(W.nd _).2 v m) fun ms=>?_
 try dsimp only[ge_,ae]
 refine k29.nW rfl fun h30 k30 _ _=>?_
 exact q qs T df rel U Kb rf ff ms h30 ⟨t,R.lt,tp,W.nd,z26⟩ k30
end
section
variable{n m t x y v k:Nat}{rel:Nat->List Nat}{mf:Nat->Nat}{bs tl us ys:List Nat}{r:V}
noncomputable abbrev Bs:=List Nat×(Nat->List Nat)
variable{s s':Bs}
noncomputable def nx(tl:List Nat)(s:Bs)(y:Nat):Bs:=if y∈s.1 then s else(s.1++[y],put s.2 y (y::tl))
noncomputable def Tl(n:Nat)(s:Bs)(tl:List Nat):Prop:=(∀u∈tl,u<n)/\(tl=[]\/∃u∈s.1,tl=s.2 u)
structure BW(n:Nat)(s:Bs):Prop where
 nd:s.1.Nodup
 lt:∀v∈s.1,v<n
 cf:∀v∈s.1,∃tl,s.2 v=v::tl/\Tl n s tl
 ln:∀v∈s.1,(s.2 v).length<=s.1.length
theorem BW.len(b:BW n s)(m:v∈s.1):(s.2 v).length<=n:=WH (b.ln v m) (aQ _ _ b.nd b.lt)
structure FO(n:Nat)(s:Bs)(tl:List Nat)(ys:List Nat)(s':Bs):Prop where
 bw:BW n s'
 tn:tl.length<=s'.1.length
 tl:Tl n s' tl
 pre:∃zs,s'.1=s.1++zs
 all:∀y∈ys,y∈s'.1
theorem Tl.put(a:Tl n s us)(ny:y∉s.1):Tl n (s.1++[y],put s.2 y (y::tl)) us:=⟨a.1,a.2.imp id fun⟨u,m,e⟩=>⟨u,Xh _ m,e.trans (dT fun z:u=y=>ny (z▸m)).symm⟩⟩
theorem Dc(ny:y∉s.1):nx tl s y=(s.1++[y],put s.2 y (y::tl)):=if_neg ny
theorem Cq(my:y∈s.1):nx tl s y=s:=if_pos my
theorem FO.new(f:FO n s tl ys s')(ny:y∉s'.1)(l:y<n):FO n s tl (ys++[y]) (s'.1++[y],put s'.2 y (y::tl)) where
 bw:=⟨kO f.bw.nd ny,aU f.bw.lt l,aU (fun v m=>(f.bw.cf v m).imp fun us c=>⟨(dT fun z:v=y=>ny (z▸m)).trans c.1,c.2.put ny⟩) ⟨tl,ig,f.tl.put ny⟩,aU (fun v m=>WH (WO (congrArg YN (dT fun z:v=y=>ny (z▸m)))) (WH (f.bw.ln v m) (WH (Yj _) (WO aN.symm)))) (WH (WO (congrArg YN ig)) (WH (Xi f.tn) (WO aN.symm)))⟩
 tl:=f.tl.put ny
 tn:=WH f.tn (WH (Yj _) (WO aN.symm))
 pre:=f.pre.imp' (· ++[y]) fun zs e=>(congrArg (· ++[y]) e).trans (Xn _ _ _)
 all:=aU (fun v m=>Xh _ (f.all v m)) dI
theorem FO.old(f:FO n s tl ys s')(my:y∈s'.1):FO n s tl (ys++[y]) s':=⟨f.bw,f.tn,f.tl,f.pre,aU f.all my⟩
theorem FO.nx(f:FO n s tl ys s')(l:y<n):FO n s tl (ys++[y]) (nx tl s' y):=by
 by_cases q:y∈s'.1
 ·rw[Cq q];exact f.old q
 ·rw[Dc q];exact f.new q l
theorem yB(us:List Nat):∀(ys:List Nat)(s':Bs),FO n s tl ys s'->(∀y∈us,y<n)->FO n s tl (ys++us) (us.foldl (nx tl) s'):=by
 induction us with
 |nil=>exact fun ys s' f _=>(Xo ys).symm▸f
 |cons u us ih=>exact fun ys s' f l=>List.append_cons ys u us▸ih _ _ (f.nx (l u (.head _))) fun y m=>l y (.tail _ m)
theorem FO.nil(b:BW n s)(a:Tl n s tl)(l:tl.length<=s.1.length):FO n s tl [] s:=⟨b,l,a,⟨[],(Xo _).symm⟩,nofun⟩
noncomputable def res(rel:Nat->List Nat)(mf:Nat->Nat)(t:Nat):Nat->Nat->Bs->V:=Nat.rec (fun _ _=>.none) fun _ r k s=>s.1[k]?.elim .none fun x=>if(mf x).testBit t=true then .tup (aj (s.2 x).reverse) else r (k+1) ((rel x).foldl (nx (s.2 x)) s)
noncomputable def Ch(n:Nat)(xs:List Nat):Prop:=xs.length<=n/\∀v∈xs,v<n
noncomputable def xp(n:Nat)(rel:Nat->List Nat)(mf:Nat->Nat)(t:Nat)(bs:List Nat)(r:V):Prop:=
 (r=.none/\∃S:Nat->Prop,(∀b∈bs,S b)/\(∀v,S v->∀w∈rel v,S w)/\∀v,S v->(mf v).testBit t≠true)\/∃xs x,r=.tup (aj (xs++[x]))/\Ch n (xs++[x])/\(mf x).testBit t=true
theorem LC(hr:∀v,v<n->∀w∈rel v,w<n):∀(m k:Nat)(s:Bs),BW n s->k+m=n+1->k<=s.1.length->(∀b∈bs,b∈s.1)->(∀(i v:Nat),i<k->s.1[i]? =some v->(mf v).testBit t≠true/\∀w∈rel v,w∈s.1)->xp n rel mf t bs (res rel mf t m k s):=fun m=>by
 induction m with
 |zero=>exact fun k s B e l=>absurd (WH l (aQ _ _ B.nd B.lt)) (show ¬ k<=n from(show k=n+1 from e)▸aaN n)
 |succ m ih=>
  intro k s B e l hb hc
  show xp n rel mf t bs (s.1[k]?.elim .none fun x=>if(mf x).testBit t=true then .tup (aj (s.2 x).reverse) else res rel mf t m (k+1) ((rel x).foldl (nx (s.2 x)) s))
  cases ex:s.1[k]? with
  |none=>
   refine .inl ⟨rfl,(· ∈s.1),hb,fun v m=>?_,fun v m=>?_⟩
   all_goals exact(XH.mp m).elim fun i ei=>have c:=hc i v (WY (WL.mp ei).1 (XR.mp ex)) ei;by first|exact c.1|exact c.2
  |some x=>
   have mx:=Xc ex
   obtain⟨tl,ec,a⟩:=B.cf x mx
   show xp n rel mf t bs (if(mf x).testBit t=true then .tup (aj (s.2 x).reverse) else res rel mf t m (k+1) ((rel x).foldl (nx (s.2 x)) s))
   by_cases q:(mf x).testBit t=true
   ·rw[if_pos q]
    refine .inr ⟨tl.reverse,x,by rw[ec,Zy],⟨?_,aU (fun v m=>a.1 v (aau.mp m)) (B.lt x mx)⟩,q⟩
    rw[<-Zy,Yc, <-ec];exact B.len mx
   ·rw[if_neg q]
    have f:=yB (rel x) [] s (FO.nil (tl:=s.2 x) B ⟨ec▸fun u m=>(Xp.mp m).elim (fun e=>e▸B.lt x mx) (a.1 u),.inr ⟨x,mx,rfl⟩⟩ (B.ln x mx)) (hr x (B.lt x mx))
    obtain⟨zs,ez⟩:=f.pre
    have up:∀v∈s.1,v∈((rel x).foldl (nx (s.2 x)) s).1:=fun v m=>ez▸Xh _ m
    have lk:=(WL.mp ex).1
    refine ih (k+1) _ f.bw ((YE k m).trans e) (ez▸len_app (xs:=s.1)▸WH lk (WZ _ _)) (fun b m=>up b (hb b m)) fun i v l ei=>?_
    rw[ez]at ei
    have ei:=(XQ (WM (XY l) lk)).symm.trans ei
    rcases YC.mp l with l|rfl
    ·exact(hc i v l ei).imp id fun c w m=>up w (c w m)
    ·cases ex.symm.trans ei
     exact⟨q,f.all⟩
end
section
variable{d:Nat}{Q:V->H->Prop}{K:List C}{sk:List V}{QX:Qs}{h:H}{n m t x y v k:Nat}{rel:Nat->List Nat}{mf:Nat->Nat}{bs tl ys:List Nat}{r:V}{s s':Bs}{vv lv:List V}{w:Int}
noncomputable def nV(l:List Nat):Int:=l.tail.head?.elim (-1) fun u=>(u:Nat)
noncomputable def jV(s:Bs):List V:=s.1.map fun v=>.int (nV (s.2 v))
theorem AR(ny:y∉s.1):jV s++[.int (nV (y::tl))]=jV (s.1++[y],put s.2 y (y::tl)):=by
 unfold jV
 rw[Xr,Zb (g:=fun v=>V.int (nV (put s.2 y (y::tl) v))) fun v m=>congrArg (fun l=>V.int (nV l)) (dT fun z:v=y=>ny (z▸m)).symm]
 exact congrArg (fun l=>s.1.map (fun v=>V.int (nV (put s.2 y (y::tl) v)))++[V.int (nV l)]) ig.symm
structure BS(n:Nat)(s:Bs)(tl ys:List Nat)(s':Bs)(vv lv:List V):Prop where
 f:FO n s tl ys s'
 e:s'=ys.foldl (nx tl) s
 v:vv=jV s'
 l:lv=aj s'.1
theorem xy{α β:Type}{f:β->α->β}{b:β}{xs:List α}{x:α}:(xs++[x]).foldl f b=f (xs.foldl f b) x:=aai
theorem BS.old(B:BS n s tl ys s' vv lv)(my:y∈s'.1):BS n s tl (ys++[y]) s' vv lv:=⟨B.f.old my,((Cq (tl:=tl) my).symm.trans (congrArg (nx tl · y) B.e)).trans xy.symm,B.v,B.l⟩
theorem BS.new(B:BS n s tl ys s' vv lv)(ny:y∉s'.1)(l:y<n)(ew:w=nV (y::tl)):BS n s tl (ys++[y]) (s'.1++[y],put s'.2 y (y::tl)) (vv++[.int w]) (lv++[.int y]):=
 ⟨B.f.new ny l,((Dc (tl:=tl) ny).symm.trans (congrArg (nx tl · y) B.e)).trans xy.symm,ew▸B.v▸AR ny,qP B.l⟩
theorem BS.len(B:BS n s tl ys s' vv lv):s'.1.length<=n:=aQ _ _ B.f.bw.nd B.f.bw.lt
theorem uM:(jV s).length=s.1.length:=WK _
noncomputable def bE(n:Nat)(rel:Nat->List Nat)(mf:Nat->Nat)(t:Nat)(bs:List Nat)(s:Bs)(vv lv:List V)(s6 s7 s8 s9:Sl):Env:=[.v (.lst (aj bs)),.v (mB n rel),.v (.lst (bA n mf)),.v (.int t),.o (.dict (s.1.map kI) vv),.o (.list lv),s6,s7,s8,s9]
theorem HX{s6 s7 s9:Sl}(B:BW n s)(q:KX d K sk (bE n rel mf t bs s (jV s) lv s6 s7 (.o (.list (aj (s.2 x)))) s9) h QX)(hn:n<=7000000)(mx:x∈s.1):
  KX d (.s (.dd (.cmp .ne (.aH 4 (.aH 8 (.neg (.lit (.int 1))))) (.neg (.lit (.int 1)))) (.mO 8 0 (.aa (.aH 4 (.aH 8 (.neg (.lit (.int 1))))) .af)))::K) sk (bE n rel mf t bs s (jV s) lv s6 s7 (.o (.list [.int x])) s9) h QX:=by
 refine jk (fun u:List Nat×Nat×List V=>bE n rel mf t bs s (jV s) lv s6 s7 (.o (.list u.2.2)) s9) (fun _=>h) (fun u=>(s.2 u.2.1).length) (fun u=>u.2.2=aj u.1++[.int u.2.1]/\u.2.1∈s.1/\u.1++s.2 u.2.1=s.2 x) ([],x,[.int x]) ⟨rfl,mx,rfl⟩ fun u P I p=>?_
 refine(B.cf u.2.1 I.2.1).elim fun tl c=>?_
 have e2:aH (.dict (s.1.map kI) (jV s)) (.int u.2.1)=some (.int (nV (s.2 u.2.1))):=th.sub rfl (th.yc I.2.1)
 dsimp only[ge_,bE]
 refine bS (lT I.1) ?_
 try dsimp only[ge_,ae]
 refine bS e2 ?_
 try dsimp only[ge_,ae]
 refine c.2.2.elim (fun z=>?_) fun z=>z.elim fun w cw=>?_
 ·refine GJ (congrArg (!·) (decide_eq_true (by rw[c.1,z];rfl))) ?_
  have e:u.2.2=aj (s.2 x):=by rw[I.1, <-I.2.2,c.1,z, <-bf];rfl
  exact e▸q
 ·have ew:s.2 u.2.1=u.2.1::s.2 w:=c.1.trans (congrArg _ cw.2)
  have ep:nV (s.2 u.2.1)=(w:Nat):=(B.cf w cw.1).elim fun tl' c'=>by rw[ew,c'.1];rfl
  refine HQ (congrArg (!·) (decide_eq_false fun z:nV (s.2 u.2.1)= -1=>absurd (WU w) (by rw[<-ep,z];decide))) ?_
  try dsimp only[ge_,ae]
  refine bS (lT I.1) ?_
  try dsimp only[ge_,ae]
  refine bS e2 ?_
  try dsimp only[ge_,ae]
  refine aT ?_ (p (u.1++[u.2.1],w,_) ⟨?_,cw.1,?_⟩ ?_)
  ·have l:(u.1++s.2 u.2.1).length<=n:=I.2.2▸B.len mx
   rw[ew,len_app]at l
   rw[I.1,aN,az]
   exact WM (WH (Xf (XK _) _) (WH l hn)) (by decide)
  ·show u.2.2++[.int (nV (s.2 u.2.1))]=_
   rw[ep, <-bf,I.1];rfl
  ·show u.1++[u.2.1]++s.2 w=_
   rw[Xn, <-I.2.2,ew];rfl
  ·show(s.2 w).length<(s.2 u.2.1).length
   rw[ew];exact Xk _
structure BM(n:Nat)(rel:Nat->List Nat)(mf:Nat->Nat)(t k m:Nat)(s:Bs)(vv lv:List V)(r:V):Prop where
 b:BW n s
 v:vv=jV s
 l:lv=aj s.1
 le:k<=s.1.length
 su:k+m=n+1
 rs:res rel mf t m k s=r
theorem BM.some(B:BM n rel mf t k m s vv lv r)(e:s.1[k]? =some x):∃m',m=m'+1/\(if(mf x).testBit t=true then V.tup (aj (s.2 x).reverse) else res rel mf t m' (k+1) ((rel x).foldl (nx (s.2 x)) s))=r:=by
 cases m with
 |zero=>exact absurd (WH B.le (aQ _ _ B.b.nd B.b.lt)) (show ¬ k<=n from(show k=n+1 from B.su)▸aaN n)
 |succ m=>
  refine⟨m,rfl,Eq.trans ?_ B.rs⟩
  show _=s.1[k]?.elim V.none _
  rw[e];rfl
theorem BM.none(B:BM n rel mf t k m s vv lv r)(l:s.1.length<=k):V.none=r:=by
 refine Eq.trans ?_ B.rs
 cases m with
 |zero=>rfl
 |succ m=>
  show _=s.1[k]?.elim V.none _
  rw[XD l];rfl
theorem chain(hn:n<=7000000)(ht:t<=1000)(hr:∀v,v<n->∀w∈rel v,w<n)(hb:∀b∈bs,b<n):∃r,xp n rel mf t bs r/\∀{d h}{Q:V->H->Prop},Q r h->WC (d+1) 28 [.lst (aj bs),mB n rel,.lst (bA n mf),.int t] h Q:=by
 have B0:BW n ([],fun _=>[]):=⟨.nil,nofun,nofun,nofun⟩
 have F0:FO n ([],fun _=>[]) [] [] ([],fun _=>[]):=FO.nil B0 ⟨nofun,.inl rfl⟩ (WQ _)
 have F1:=yB bs [] _ F0 hb
 refine⟨res rel mf t (n+1) 0 (bs.foldl (nx []) ([],fun _=>[])),LC hr _ _ _ F1.bw (XG _) (XI _) F1.all fun i v l=>absurd l (ZR i),fun{d h Q} q=>?_⟩
 refine aD eQ [.v (.lst (aj bs)),.v (mB n rel),.v (.lst (bA n mf)),.v (.int t),.no,.no,.no,.no,.no,.no] rfl rfl ?_
 dsimp only[ge_,eQ,gX]
 refine cC (xs:=bs) (g:=fun n:Nat=>V.int n) (fun u:Bs×List V×List V×Sl=>bE n rel mf t bs u.1 u.2.1 u.2.2.1 u.2.2.2 .no .no .no) (fun _=>h) (fun ys _ u=>BS n ([],fun _=>[]) [] ys u.1 u.2.1 u.2.2.1) (([],fun _=>[]),[],[],.no) rfl ⟨F0,rfl,rfl,rfl⟩ (fun ys y zs u P e p B=>?_) fun u B=>?_
 ·dsimp only[ge_,bE]
  refine xg (th.mem (x:=y) rfl) ?_
  rw[Bool.true_xor]
  have lz:u.1.1.length<SZ:=WM (WH B.len hn) (by decide)
  refine eM (fun ny=>?_) fun my=>p (u.1,u.2.1,u.2.2.1,.v (.int y)) (B.old my)
  try dsimp only[ge_,ae]
  refine cU (th.oJ rfl ny (B.v▸uM) lz) ?_
  try dsimp only[ge_,ae]
  exact aT (B.l▸az▸lz) (p ((_,put u.1.2 y [y]),_,_,.v (.int y)) (B.new ny (hb y (mem_mid e)) rfl))
 dsimp only[ge_,bE]
 refine jk (fun z:(Nat×Nat)×Bs×List V×List V×Sl×Sl×Sl=>bE n rel mf t bs z.2.1 z.2.2.1 z.2.2.2.1 z.2.2.2.2.1 (.v (.int z.1.1)) z.2.2.2.2.2.1 z.2.2.2.2.2.2) (fun _=>h) (fun z=>z.1.2) (fun z=>BM n rel mf t z.1.1 z.1.2 z.2.1 z.2.2.1 z.2.2.2.1 _) ((0,n+1),u.1,u.2.1,u.2.2.1,u.2.2.2,.no,.no) ⟨B.f.bw,B.v,B.l,XI _,XG _,congrArg (res rel mf t (n+1) 0) B.e⟩ fun z P M p=>?_
 have ll:z.2.2.2.1.length=z.2.1.1.length:=M.l▸az
 dsimp only[ge_,bE]
 refine dm (fun l=>?_) fun l=>?_
 ·have l:z.1.1<z.2.1.1.length:=ll▸XJ.mp l
  have ex:=WR l
  have mx:=Yh l
  generalize z.2.1.1[z.1.1]=x at ex mx
  have hx:=M.b.lt x mx
  refine(M.some ex).elim fun m' c=>?_
  try dsimp only[ge_,ae]
  refine bS (M.l▸gg ex) ?_
  try dsimp only[ge_,ae]
  refine ag (bY (jK hx)) (ag (Co ht) (ag Df ?_))
  try dsimp only[ge_,ae]
  rw[CT]
  refine vS (fun qb=>?_) fun qb=>?_
  ·try dsimp only[ge_,ae]
   have e:V.tup (aj (z.2.1.2 x)).reverse=_:=(congrArg V.tup YR.symm).trans ((if_pos qb).symm.trans c.2)
   rw[M.v]
   refine HX M.b ?_ hn mx
   dsimp only[ge_,bE]
   exact e▸q
  ·have e:=(if_neg (by rw[qb];exact Bool.false_ne_true)).symm.trans c.2
   have f:=(M.b.cf x mx).elim fun tl c'=>FO.nil (tl:=z.2.1.2 x) M.b ⟨c'.1▸fun u m=>(Xp.mp m).elim (fun e=>e▸hx) (c'.2.1 u),.inr ⟨x,mx,rfl⟩⟩ (M.b.ln x mx)
   have hp:∀y:Nat,(x:Int)=nV (y::z.2.1.2 x):=fun y=>(M.b.cf x mx).elim fun tl c'=>by rw[c'.1];rfl
   try dsimp only[ge_,ae]
   refine ag (bY (dR hx)) ?_
   refine cC (xs:=rel x) (g:=fun n:Nat=>V.int n) (fun w:Bs×List V×List V×Sl=>bE n rel mf t bs w.1 w.2.1 w.2.2.1 (.v (.int x)) (.v (.int (z.1.1+1:Nat))) z.2.2.2.2.2.1 w.2.2.2) (fun _=>h) (fun ys _ w=>BS n z.2.1 (z.2.1.2 x) ys w.1 w.2.1 w.2.2.1) (z.2.1,z.2.2.1,z.2.2.2.1,z.2.2.2.2.2.2) rfl ⟨f,rfl,M.v,M.l⟩ (fun ys y zs w P e p B=>?_) fun w B=>?_
   ·dsimp only[ge_,bE]
    refine xg (th.mem (x:=y) rfl) ?_
    rw[Bool.true_xor]
    have lz:w.1.1.length<SZ:=WM (WH B.len hn) (by decide)
    refine eM (fun ny=>?_) fun my=>p (w.1,w.2.1,w.2.2.1,.v (.int y)) (B.old my)
    try dsimp only[ge_,ae]
    refine cU (th.oJ rfl ny (B.v▸uM) lz) ?_
    try dsimp only[ge_,ae]
    exact aT (B.l▸az▸lz) (p ((_,put w.1.2 y (y::z.2.1.2 x)),_,_,.v (.int y)) (B.new ny (hr x hx y (mem_mid e)) (hp y)))
   ·refine p ((z.1.1+1,m'),w.1,w.2.1,w.2.2.1,.v (.int x),z.2.2.2.2.2.1,w.2.2.2) ⟨B.f.bw,B.v,B.l,?_,?_,?_⟩ (c.1▸Xk m')
    ·exact B.f.pre.elim fun zs e=>e▸len_app (xs:=z.2.1.1)▸WH l (WZ _ _)
    ·exact(YE _ _).trans ((congrArg (z.1.1+·) c.1).symm.trans M.su)
    ·exact B.e▸e
 ·try dsimp only[ge_,ae]
  exact M.none (ll▸YB fun c=>l (XJ.mpr c))▸q
end
section
variable{d:Nat}{ρ:Env}{Q:V->H->Prop}{K:List C}{sk:List V}{QX:Qs}{h:H}{n t x y i r:Nat}{xs ys:List Nat}{L:List St}{D:DP}{A v:V}
structure LK where
 qs:List V
 T:List K2
 df:Nat->Nat
 rel:Nat->List Nat
 U:Nat->List Nat
 Kb:List K2
 rf:Nat->Nat
 ff:Nat->Nat
 ms:List Nat
noncomputable def LK.w(A:V)(l:LK):V:=.obj 3 EF (Kn A l.qs l.T l.df l.rel l.U l.Kb l.rf l.ff l.ms)
variable{l:LK}
theorem UI{vs:List V}:isNone (.tup vs)=false:=rfl
theorem UU:KX d (.attr 30::K) (LK.w A l::sk) ρ h QX=KX d K (A::sk) ρ h QX:=rfl
theorem Vf:KX d (.attr 33::K) (LK.w A l::sk) ρ h QX=KX d K (.lst (l.T.map kV)::sk) ρ h QX:=rfl
theorem Uo:KX d (.attr 35::K) (LK.w A l::sk) ρ h QX=KX d K (.lst (bA l.T.length l.df)::sk) ρ h QX:=rfl
theorem SV:KX d (.attr 36::K) (LK.w A l::sk) ρ h QX=KX d K (mB l.T.length l.rel::sk) ρ h QX:=rfl
theorem Vp:KX d (.attr 38::K) (LK.w A l::sk) ρ h QX=KX d K (mB l.T.length l.U::sk) ρ h QX:=rfl
theorem SW:KX d (.attr 40::K) (LK.w A l::sk) ρ h QX=KX d K (AF (l.T.length+l.T.length+1) l.U l.Kb::sk) ρ h QX:=rfl
theorem Vs:KX d (.attr 42::K) (LK.w A l::sk) ρ h QX=KX d K (.lst (bA l.T.length l.rf)::sk) ρ h QX:=rfl
end
open Lean.Parser.Tactic in
local macro_rules
 | `(tactic| dsimp only [gf_, $a:simpLemma,*]) => do let n <- ("ge_ UI UU Vf Uo SV Vp SW Vs".splitOn " ").toArray.mapM fun x => `(simpLemma| $(Lean.mkIdent x.toName):term); let n := n ++ a.getElems; `(tactic| dsimp only [$n,*])
section
variable{d:Nat}{ρ:Env}{Q:V->H->Prop}{K:List C}{sk:List V}{QX:Qs}{h:H}{n t x y i r:Nat}{xs ys:List Nat}{L:List St}{D:DP}{A v:V}
variable{l:LK}
noncomputable def LK.ok(tc:Nat)(L:List St)(l:LK):Prop:=Pd tc L l.T l.df l.rel l.U l.Kb l.rf
noncomputable def RE(n:Nat)(r:V):Prop:=r=.none\/∃x xs y ys,r=.tup [.tup (aj (x::xs)),.tup (aj (y::ys))]/\Ch n (x::xs)/\Ch n (y::ys)
theorem Ci(xs:List Nat):∃y ys,xs++[x]=y::ys:=List.exists_cons_of_ne_nil (List.append_ne_nil_of_right_ne_nil _ nofun)
theorem trace(O:LK.ok D.tc L l)(n7:l.T.length<=7000000)(m:(i,r)∈l.Kb)(ht:t<=1000):∃v,RE l.T.length v/\∀{d h}{Q:V->H->Prop},Q v h->WC (d+2) 27 [LK.w A l,.int i,.int r,.int t] h Q:=by
 obtain⟨j,ej⟩:=XH.mp m
 have eb:∀h,cL (AF (l.T.length+l.T.length+1) l.U l.Kb) (.tup [.int i,.int r]) h=some (.lst (aj (l.U (l.T.length+l.T.length+1+j)))):=fun h=>vd.cL (x:=(i,r)) rfl ((vd.look O.kb.nd ((WK _).trans Xb) ej).trans (dR (WL.mp ej).1))
 obtain⟨r1,c1,w1⟩:=chain (mf:=l.rf) n7 ht (fun v _=>(O.ul v).2) (O.ul (l.T.length+l.T.length+1+j)).2
 rcases c1 with ⟨rfl,_⟩|⟨xs,x,rfl,lt,b⟩
 ·refine⟨.none,.inl rfl,fun{d h Q} q=>?_⟩
  refine aD kZ [.v (LK.w A l),.v (.int i),.v (.int r),.v (.int t),.no,.no,.no] rfl rfl ?_
  dsimp only[gf_,kZ,sT]
  refine ag (eb h) ?_
  try dsimp only[gf_,ae]
  exact w1 q
 ·obtain⟨r2,c2,w2⟩:=chain (mf:=l.df) (bs:=[x]) n7 ht (fun v _=>O.rl v) fun b m=>WW.mp m▸lt.2 x dI
  rcases c2 with ⟨_,S,c,c',c''⟩|⟨ys,y,rfl,lt2,_⟩
  ·exact absurd ((O.z x (lt.2 x dI) t b S c' (c x (.head _))).choose_spec.2) (c'' _ (O.z x (lt.2 x dI) t b S c' (c x (.head _))).choose_spec.1)
  obtain⟨x0,xs0,ex⟩:=Ci (x:=x) xs
  obtain⟨y0,ys0,ey⟩:=Ci (x:=y) ys
  refine⟨.tup [.tup (aj (xs++[x])),.tup (aj (ys++[y]))],.inr ⟨x0,xs0,y0,ys0,by rw[ex,ey],ex▸lt,ey▸lt2⟩,fun{d h Q} q=>?_⟩
  refine aD kZ [.v (LK.w A l),.v (.int i),.v (.int r),.v (.int t),.no,.no,.no] rfl rfl ?_
  dsimp only[gf_,kZ,sT]
  refine ag (eb h) ?_
  try dsimp only[gf_,ae]
  refine w1 ?_
  try dsimp only[gf_,ae]
  refine ag (lT (us:=aj (xs++[x])) (vs:=aj xs) bf.symm) ?_
  try dsimp only[gf_,ae]
  exact w2 q
noncomputable def Mh(T:List K2)(x:Nat):K2:=(T[x]?).getD (0,0)
noncomputable def Ih(D:DP)(t:K2):List Nat:=jQ D.names t.2++[32,105,110,32,115,116,97,116,101,32]++digits (t.1:Nat)
noncomputable def Ac(D:DP)(T:List K2)(x:Nat):List Nat:=Ih D (Mh T x)
theorem JW{T:List K2}(z:x<T.length):T[x]? =some (Mh T x):=by
 unfold Mh
 rw[WR z];rfl
theorem Ke{T:List K2}(Au:bc D.rs L)(t:yN D.tc L T)(z:x<T.length):(Mh T x).1<=100000000/\(Mh T x).2<D.tc+3:=
 ((Tq.at t).mp (Xc (JW z):((Mh T x).1,(Mh T x).2)∈T)).2.elim fun y c=>⟨WH (Xl (WL.mp c.1).1) (WH Au.len (by decide)),tw D.Ah Au c.1 c.2⟩
theorem oI{T:List K2}(Au:bc D.rs L)(t:yN D.tc L T)(z:x<T.length):Sh 29 (Ac D T x):=((lF _ _ (Ke Au t z).2).app (n:=10) (WQ _)).app (bT (Ke Au t z).1)
theorem rp(Au:bc D.rs L)(t:yN D.tc L l.T)(z:x<l.T.length)(q:Q (.str (Ac D l.T x)) h):WC (d+1) 30 [LK.w (aV D.names D.tc D.rs L) l,.int x] h Q:=by
 have c:=Ke Au t z
 refine aD eg [.v (LK.w (aV D.names D.tc D.rs L) l),.v (.int x),.no,.no] rfl rfl ?_
 dsimp only[gf_,eg,gA]
 refine ag (bY (Xj.trans (congrArg (XF kV) (JW z)))) ?_
 dsimp only[gf_,kV]
 refine ag (fS (aX _▸c.2)) (cat (lF _ _ c.2) (n:=10) (WQ _) rfl fun a=>?_)
 try dsimp only[gf_,ae]
 exact ag (gL c.1) (cat a (bT c.1) rfl fun _=>q)
end
section
variable{d:Nat}{ρ:Env}{Q:V->H->Prop}{K:List C}{sk:List V}{QX:Qs}{h:H}{n t x y i r k:Nat}{xs ys c:List Nat}{L:List St}{D:DP}{l:LK}{T:List K2}
noncomputable def oD:List Nat:=[103,111,101,115,32,98,97,99,107,32,116,111]
noncomputable def yf:List Nat:=[101,110,100,115,32,116,104,101,32,114,117,108,101,32,111,102]
noncomputable def Og:List Nat:=[112,97,115,115,101,115,32,116,104,101,32,101,109,112,116,121,32]
noncomputable def Nu:List Nat:=[115,104,105,102,116,115,32]
noncomputable def uX(D:DP)(i r:Nat):List Nat:=[105,110,32,115,116,97,116,101,32]++digits (i:Nat)++[58,32]++oQ (qo D r) (qo D r).2.length
noncomputable def qX(D:DP)(T:List K2)(v:Nat):List Nat:=yf++[32]++Ac D T v
noncomputable def tS(D:DP)(T:List K2)(v:Nat):List Nat:=Og++Ac D T v
noncomputable def QD(D:DP)(T:List K2)(i r t x:Nat)(xs ys:List Nat):List (List Nat):=uX D i r::(oD++[32]++Ac D T x)::xs.map (qX D T)++ys.map (tS D T)++[Nu++jQ D.names t]
noncomputable def spT(D:DP)(T:List K2)(c:List Nat)(k:Nat):List Nat:=(if(k:Int)=0 then oD else yf)++[32]++Ac D T (c[k]?.getD 0)
theorem Jy:(Xq (x::xs).length).map (spT D T (x::xs))=(oD++[32]++Ac D T x)::xs.map (qX D T):=by
 show(Xq (xs.length+1)).map _=_
 rw[List.range_succ_eq_map,Za,Yd, <-map_range (qX D T)];rfl
theorem Jw(z:k<c.length):c[k]? =some (c[k]?.getD 0):=by rw[WR z];rfl
theorem EO{p:Prop}{_:Decidable p}{u w:List Nat}(q:KX d K (.str (if p then u else w)::sk) ρ h QX):KX d (.ite (.lit (.str u)) (.lit (.str w))::K) (.bool (decide p)::sk) ρ h QX:=by
 by_cases e:p
 ·rw[if_pos e]at q;rw[decide_eq_true e];exact q
 ·rw[if_neg e]at q;rw[decide_eq_false e];exact q
theorem lP{vs:List V}{v:V}(z:(v::vs).length<=SZ)(q:KX d K (.tup vs::sk) ρ h QX):KX d (.aW::K) (.int 1::.tup (v::vs)::sk) ρ h QX:=
 ag (k:=fun v=>KX d K (v::sk) ρ h QX) (r:=Mine.aW (.tup (v::vs)) 1) (iE (eC (eC rfl (decide_eq_true (XK vs.length))) (decide_eq_true z))) q
theorem Gd{p:Prop}{_:Decidable p}:Sh 16 (if p then oD else yf):=by
 by_cases e:p
 ·rw[if_pos e];exact(Yg rfl:12<=16)
 ·rw[if_neg e];exact(WQ 16)
theorem IX(z:r<D.rs.length):D.rs[r]? =some (iX D.b (qo D r)):=by rw[D.vB,Xj,lO z];rfl
theorem rB{xs:List (List Nat)}(z:xs.length<=15000000):(xs.map V.str).length<SZ:=WM (WH (WO (WK _)) z) (by decide)
noncomputable def lE(D:DP)(L:List St)(l:LK)(i r t:Nat)(x:Nat)(xs ys:List Nat)(ls:List (List Nat))(s9 mZ gO:Sl):Env:=[.v (LK.w (aV D.names D.tc D.rs L) l),.v (.int i),.v (.int r),.v (.int t),.v (au D.names D.tc D.rs),.v (.tup [.tup (aj (x::xs)),.tup (aj (y::ys))]),.v (.tup (aj (x::xs))),.v (.tup (aj (y::ys))),.o (.list (ls.map .str)),s9,mZ,gO]
theorem wx(Au:bc D.rs L)(O:LK.ok D.tc L l)(n7:l.T.length<=7000000)(li:i<=100000000)(lr:r<D.rs.length)(lt:t<D.tc+3)(cx:Ch l.T.length (x::xs))(cy:Ch l.T.length (y::ys))
  (w:∀{d h}{Q:V->H->Prop},Q (.tup [.tup (aj (x::xs)),.tup (aj (y::ys))]) h->WC (d+2) 27 [LK.w (aV D.names D.tc D.rs L) l,.int i,.int r,.int t] h Q)(q:Q (.lst ((QD D l.T i r t x xs ys).map .str)) h):WC (d+3) 29 [LK.w (aV D.names D.tc D.rs L) l,.int i,.int r,.int t] h Q:=by
 have po:=qI lr
 refine aD dX [.v (LK.w (aV D.names D.tc D.rs L) l),.v (.int i),.v (.int r),.v (.int t),.no,.no,.no,.no,.no,.no,.no,.no] rfl rfl ?_
 dsimp only[gf_,dX,ip]
 refine w ?_
 try dsimp only[gf_,ae]
 refine ag (gL li) (cat (m:=9) (WQ _) (bT li) rfl fun a=>?_)
 try dsimp only[gf_,ae]
 refine cat a (n:=2) (WQ _) rfl fun a=>?_
 try dsimp only[gf_,ae]
 refine ag (uc (IX lr)) ?_
 try dsimp only[gf_,ae]
 refine ag (mz.trans (congrArg (fun n:Nat=>some (V.int n)) (WK _))) ?_
 try dsimp only[gf_,ae]
 refine mR rfl (lO lr) (aaO _) ?_
 try dsimp only[gf_,ae]
 refine cat a (fM po _) rfl fun _=>?_
 try dsimp only[gf_,ae]
 refine ag mz (ag (fq (cX (WU _) (Yb (XX.mpr (WH cx.1 n7)) (by decide)))) ?_)
 refine cF (fun us (s:Sl×Sl)=>lE (y:=y) D L l i r t x xs ys (uX D i r::(Xq us.length).map (spT D l.T (x::xs))) s.1 s.2 .no) (.no,.no) cZ (fun us k zs s P e p=>?_) fun s=>?_
 ·obtain⟨rfl,hk⟩:=kB e
  have zk:=Jw hk
  have lk:(x::xs)[us.length]?.getD 0<l.T.length:=cx.2 _ (Xc zk)
  have p:=p (.v (.int us.length),.v (.str (if(us.length:Int)=0 then oD else yf)))
  rw[aN,Zj, <-aS (f:=spT D l.T (x::xs)), <-Zp,lE, <-aS (f:=V.str)]at p
  dsimp only[gf_,lE]
  refine EO ?_
  try dsimp only[gf_,ae]
  refine cat Gd (n:=1) (WQ _) rfl fun a=>?_
  try dsimp only[gf_,ae]
  refine ag (tC (gg zk)) ?_
  try dsimp only[gf_,ae]
  refine rp Au O.t lk ?_
  try dsimp only[gf_,ae]
  refine cat a (oI Au O.t lk) rfl fun _=>?_
  try dsimp only[gf_,ae]
  exact aT (rB (WH (WO (congrArg (· +1) ((WK _).trans Xb))) (WH hk (WH cx.1 (WH n7 (by decide)))))) p
 rw[show uX D i r::(Xq (Xq (x::xs).length).length).map (spT D l.T (x::xs))=(uX D i r::(oD++[32]++Ac D l.T x)::xs.map (qX D l.T))++([]:List Nat).map (tS D l.T) by rw[Xb,Jy];exact(Xo _).symm]
 dsimp only[gf_,lE]
 refine lP (WH (WO (az (xs:=y::ys))) (WH cy.1 (WH n7 (by decide)))) ?_
 refine cF (xs:=ys) (g:=fun n:Nat=>V.int n) (fun us (u:Sl)=>lE (y:=y) D L l i r t x xs ys (uX D i r::(oD++[32]++Ac D l.T x)::xs.map (qX D l.T)++us.map (tS D l.T)) s.1 s.2 u) .no rfl (fun us v zs u P e p=>?_) fun u=>?_
 ·have p:=p (.v (.int v))
  have lv:=cy.2 v (.tail _ (mem_mid e))
  rw[<-aS (f:=tS D l.T), <-Xn,lE, <-aS (f:=V.str)]at p
  dsimp only[gf_,lE]
  refine rp Au O.t lv ?_
  try dsimp only[gf_,ae]
  refine cat (m:=17) (WQ _) (oI Au O.t lv) rfl fun _=>?_
  try dsimp only[gf_,ae]
  refine aT (rB ?_) p
  rw[len_app,WK,XT,XT,WK]
  exact WH (XM (Xi (WH cx.1 n7)) (WH (Xl (dP e)) (WH (Yj _) (WH cy.1 n7)))) (by decide)
 ·dsimp only[gf_,lE]
  refine ag (fS (aX _▸lt)) (cat (m:=7) (WQ _) (lF _ _ lt) rfl fun _=>?_)
  try dsimp only[gf_,ae]
  rw[QD, <-aS (f:=V.str)]at q
  refine aT (rB ?_) q
  rw[len_app,WK,XT,XT,WK]
  exact WH (XM (Xi (WH cx.1 n7)) (WH (Yj _) (WH cy.1 n7))) (by decide)
theorem zp{i r t:V}(w:∀{d h}{Q:V->H->Prop},Q .none h->WC (d+2) 27 [LK.w (aV D.names D.tc D.rs L) l,i,r,t] h Q)(q:Q (.lst []) h):WC (d+3) 29 [LK.w (aV D.names D.tc D.rs L) l,i,r,t] h Q:=by
 refine aD dX [.v (LK.w (aV D.names D.tc D.rs L) l),.v i,.v r,.v t,.no,.no,.no,.no,.no,.no,.no,.no] rfl rfl ?_
 dsimp only[gf_,dX,ip]
 refine w ?_
 exact q
end
section
variable{d:Nat}{K:List C}{sk:List V}{QX:Qs}{h h0:H}{n t x y i r k a tc:Nat}{xs ys c:List Nat}{L:List St}{D:DP}{l:LK}{T:List K2}{v:V}{ls us:List (List Nat)}{s:List Nat}{names:List (List Nat)}{rs:List Rl}{g:St}
theorem LF:Ab (n+6) (au names tc rs):=lJ fun h=>ak (cK (n:=n+4) (bH (f:=V.str) (xs:=names) fun _ _=>rfl) h) (ak (v:=.int tc) rfl (ak (vE (n:=n+2) (tc:=tc) (rs:=rs) _) (ak (v:=.bL [] []) rfl (ak (v:=.none) rfl (ak (v:=.int (tc+1:Nat)) rfl
  (ak (cK (n:=n+4) (bH (xs:=Xq names.length) (f:=fun s=>.lst (aj (ko s rs 0))) fun _=>bR (n:=n+2)) _) (ak (bR (n:=n+3)  (xs:=eE rs 0) _) (ak (bR (n:=n+3) (xs:=gp rs 0) _) (ak (v:=.int (total rs)) (vs:=[]) rfl rfl)))))))))
theorem Lf:Ab (n+4) (jP i g):=lJ fun h=>ak (v:=.int i) rfl (ak (v:=.tup (aj g.ks)) rfl (ak (v:=.int g.sy) rfl (ak (bR (n:=n+1) (xs:=g.aJ) _) (ak (oi (n:=n+2) (bH fun _ _=>rfl) _) (ak (bR (n:=n+1) (xs:=g.rd) _) (rfl:jj (bP (n+3)) [] _=_))))))
theorem Mz:Ab 7 (aV names tc rs L):=lJ fun h=>ak (LF (n:=0) h) (ak (cK (n:=5) (Io fun v m=>(abB.mp m).elim fun i c=>c.elim fun z e=>e▸Lf (n:=1)) h) (vs:=[]) rfl)
theorem rO{U:Nat->List Nat}:Ab (n+3) (mB x U):=cK (bH fun _=>bR)
theorem KZ(k:Ko h0 a EF (Kn (aV names tc rs L) (eB x c) l.T l.df l.rel l.U l.Kb l.rf l.ff l.ms) h):Mine.bP 8 (.ref a) h=some (LK.w (aV names tc rs L) { l with qs:=eB x c},h.set a none):=by
 show(h.get a).bind _=_
 rw[k.g]
 refine congrArg (fun z=>gN (XF (fun r:List V×H=>(O.inst 3 EF r.1,r.2)) z)) (?_:jj (Mine.bP 7) _ _=some (_,_))
 exact ak (Mz _) (ak (cK (n:=6) (bH fun _ _=>rfl) _) (ak (cK (n:=6) (bH fun _ _=>rfl) _) (ak (oi (n:=6) jO _) (ak (cK (n:=6) jO _) (ak (rO (n:=4) _) (ak (rO (n:=4) _) (ak (rO (n:=4) _) (ak (oi (n:=6) (bH fun _=>bR) _) (ak (cK (n:=6) jO _) (ak (cK (n:=6) jO _) (ak (oi (n:=6) eV _) (vs:=[]) rfl)))))))))))
theorem gb{k:V->Sl->Prop}(z:ls.length<=15000000)(q:k .none (.o (.list ((ls++[s]).map .str)))):EU (.o (.list (ls.map .str))) 0 [.str s] k:=aT (rB z) (aS (f:=V.str)▸q)
theorem oK{k:V->Sl->Prop}(z:ls.length+us.length<=15000000)(q:k .none (.o (.list ((ls++us).map .str)))):EU (.o (.list (ls.map .str))) 2 [.lst (us.map .str)] k:=HT (by rw[WK,WK];exact WH z (by decide)) (Xr (f:=V.str)▸q)
theorem qW:zH .ne (.lst (ls.map V.str)) (.lst (ls.map V.str)) h=some false:=congrArg (XF (!·)) (sj (h:=h) (xs:=ls))
theorem vH{α β:Type}(φ:α->β)(z:α)(xs:List α):(Xq xs.length).map (fun j=>φ ((xs[j]?).getD z))=xs.map φ:=abt ((WK _).trans (Xb.trans (WK _).symm)) fun i h1 h2=>by
 rw[ZL,ZL,aaZ,WR (by rwa [WK]at h2)];rfl
noncomputable def Az(D:DP)(T:List K2):V:=.lst ((T.map (Ih D)).map .str)
theorem sH(z:x<T.length):cL (Az D T) (.int x) h=some (.str (Ac D T x)):=bY (Xj.trans (congrArg (XF V.str) (Xj.trans (congrArg (XF (Ih D)) (JW z)))))
noncomputable def tE(D:DP)(L:List St)(l:LK)(s6 s7 s8 s9 mZ gO:Sl):Env:=[.v (.ref 0),.v D.V,.v (aV D.names D.tc D.rs L),.v (LK.w (aV D.names D.tc D.rs L) l),.v (.lst (D.names.map .str)),.v (Az D l.T),s6,s7,s8,s9,mZ,gO,.no,.no,.no,.no,.no]
noncomputable def Dw:S:=(.seq (.asg 11 (.sub (.sub (.bin .add (.list (.aa (.aa (.lit (.str [36,97,99,99,101,112,116])) (.aa (.list (.aa (.lit (.str [115])) (.aa (.lit (.str [36,101,110,100])) .af))) .af)) .af)) (.loc 1)) (.loc 7)) (.lit (.int 1))))
  (.seq (.mO 10 0 (.aa (.bin .add (.bin .add (.bin .add (.lit (.str [105,110,32,115,116,97,116,101,32])) (.bi .str (.aa (.attr (.loc 6) 12) .af))) (.lit (.str [58,32]))) (.call 69 (.aa (.loc 1) (.aa (.loc 7) (.aa (.bi .len (.aa (.loc 11) .af)) .af))))) .af))
  (.seq (.mO 10 0 (.aa (.bin .add (.lit (.str [103,111,101,115,32,98,97,99,107,32,116,111,32])) (.sub (.loc 5) (.sub (.sub (.loc 9) (.lit (.int 0))) (.lit (.int 0))))) .af))
  (.seq (.mO 10 2 (.aa (.aM (.bin .add (.lit (.str [101,110,100,115,32,116,104,101,32,114,117,108,101,32,111,102,32])) (.sub (.loc 5) (.loc 15))) (.one 15) (.aW (.sub (.loc 9) (.lit (.int 0))) (.lit (.int 1)))) .af))
  (.seq (.mO 10 2 (.aa (.aM (.bin .add (.lit (.str [112,97,115,115,101,115,32,116,104,101,32,101,109,112,116,121,32])) (.sub (.loc 5) (.loc 16))) (.one 16) (.aW (.sub (.loc 9) (.lit (.int 1))) (.lit (.int 1)))) .af))
  (.mO 10 0 (.aa (.bin .add (.lit (.str [115,104,105,102,116,115,32])) (.sub (.loc 4) (.loc 8))) .af)))))))
theorem LL{gO:Sl}(Au:bc D.rs L)(O:LK.ok D.tc L l)(n7:l.T.length<=7000000)(li:i<=100000000)(lr:r<D.rs.length)(lt:t<D.tc+3)(cx:Ch l.T.length (x::xs))(cy:Ch l.T.length (y::ys))
  (q:∀gO,KX (d+1) K sk (tE D L l (.v (jP i g)) (.v (.int r)) (.v (.int t)) (.v (.tup [.tup (aj (x::xs)),.tup (aj (y::ys))])) (.o (.list ((QD D l.T i r t x xs ys).map .str))) gO) h QX):
  KX (d+1) (.s Dw::K) sk (tE D L l (.v (jP i g)) (.v (.int r)) (.v (.int t)) (.v (.tup [.tup (aj (x::xs)),.tup (aj (y::ys))])) (.o (.list [])) gO) h QX:=by
 have po:=qI lr
 have hx:=WH cx.1 n7
 have hy:=WH cy.1 n7
 have lx:=cx.2 x (.head _)
 dsimp only[gf_,Dw,tE]
 refine ag (v:=.lst (D.Im.map gq)) (bu ?_) ?_
 ·show([gq (vk,[[115],N0])]:List V).length+(D.P.map gq).length<=SZ
  rw[WK]
  exact WH (Xf D.Be 1) (by decide)
 try dsimp only[gf_,ae]
 refine ag (bY (Xj.trans (congrArg (XF gq) (lO lr)))) ?_
 try dsimp only[gf_,ae]
 refine ag (v:=.lst ((qo D r).2.map .str)) rfl ?_
 try dsimp only[gf_,ae]
 refine ag (gL li) (cat (m:=9) (WQ _) (bT li) rfl fun a=>?_)
 try dsimp only[gf_,ae]
 refine cat a (n:=2) (WQ _) rfl fun a=>?_
 try dsimp only[gf_,ae]
 refine ag kW ?_
 try dsimp only[gf_,ae]
 refine pq (lO lr) (aaO _) ?_
 try dsimp only[gf_,ae]
 refine cat a (fM po _) rfl fun _=>?_
 try dsimp only[gf_,ae]
 refine gb (ls:=[]) (XI _) ?_
 try dsimp only[gf_,ae]
 refine ag (v:=.tup (aj (x::xs))) rfl ?_
 try dsimp only[gf_,ae]
 refine ag (v:=.int x) rfl ?_
 try dsimp only[gf_,ae]
 refine ag (sH lx) (cat (m:=13) (WQ _) (oI Au O.t lx) rfl fun _=>?_)
 try dsimp only[gf_,ae]
 refine gb (Yg rfl:1<=15000000) ?_
 try dsimp only[gf_,ae]
 refine ag (v:=.tup (aj (x::xs))) rfl ?_
 try dsimp only[gf_,ae]
 refine lP (WH (WO (az (xs:=x::xs))) (WH hx (by decide))) ?_
 refine bj (xs:=xs) (fun n:Nat=>V.int n) (fun v=>.str (qX D l.T v)) rfl (WH (Yj _) (WH hx (by decide))) (fun v m P q=>?_) ?_
 ·have lv:=cx.2 v (.tail _ m)
  try dsimp only[gf_,ae]
  exact ag (sH lv) (cat (m:=17) (WQ _) (oI Au O.t lv) rfl fun _=>q)
 rw[show xs.map (fun v=>V.str (qX D l.T v))=(xs.map (qX D l.T)).map .str from Yd.symm]
 try dsimp only[gf_,ae]
 refine oK ?_ ?_
 ·rw[WK];exact WH (Xf (WH (Yj _) hx) 2) (by decide)
 try dsimp only[gf_,ae]
 refine ag (v:=.tup (aj (y::ys))) rfl ?_
 try dsimp only[gf_,ae]
 refine lP (WH (WO (az (xs:=y::ys))) (WH hy (by decide))) ?_
 refine bj (xs:=ys) (fun n:Nat=>V.int n) (fun v=>.str (tS D l.T v)) rfl (WH (Yj _) (WH hy (by decide))) (fun v m P q=>?_) ?_
 ·have lv:=cy.2 v (.tail _ m)
  try dsimp only[gf_,ae]
  exact ag (sH lv) (cat (m:=17) (WQ _) (oI Au O.t lv) rfl fun _=>q)
 rw[show ys.map (fun v=>V.str (tS D l.T v))=(ys.map (tS D l.T)).map .str from Yd.symm]
 try dsimp only[gf_,ae]
 have z1:(xs.map (qX D l.T)).length+2<=7000001:=WH (WO (congrArg (· +2) (WK _))) (Xi hx)
 have z2:(ys.map (tS D l.T)).length<=7000000:=WH (WO (WK _)) (WH (Yj _) hy)
 refine oK (WH (XM z1 z2) (by decide)) ?_
 try dsimp only[gf_,ae]
 refine ag (fS (aX _▸lt)) (cat (m:=7) (WQ _) (lF _ _ lt) rfl fun _=>?_)
 try dsimp only[gf_,ae]
 refine gb (WH (WO len_app) (WH (XM z1 z2) (by decide))) ?_
 exact q _
end
section
variable{d:Nat}{Q:V->H->Prop}{h h' h0:H}{n t x y i r k a tc:Nat}{xs ys c:List Nat}{L:List St}{D:DP}{l:LK}{g:St}
theorem Ol(hn:n<3):∃t:Nat,cL (.lst [.int 0,.int 3,.int ((D.tc:Int)-1)]) (.int n) h=some (.int t)/\t<D.tc+3:=match n,hn with
 |0,_=>⟨0,rfl,XK _⟩
 |1,_=>⟨3,rfl,Nat.lt_add_of_pos_left (vY D.b)⟩
 |2,_=>⟨D.tc-1,congrArg (fun z=>some (V.int z)) (Int.ofNat_sub (vY D.b)).symm,WM (aav _ _) (Xx (XK _))⟩
noncomputable def AP:S:=(.seq (.asg 8 (.sub (.list (.aa (.lit (.int 0)) (.aa (.lit (.int 3)) (.aa (.bin .sub (.attr (.attr (.loc 2) 32) 20) (.lit (.int 1))) .af)))) (.call 67 (.aa (.loc 0) (.aa (.lit (.int 3)) .af)))))
  (.seq (.asg 9 (.call 27 (.aa (.loc 3) (.aa (.attr (.loc 6) 12) (.aa (.loc 7) (.aa (.loc 8) .af))))))
  (.seq (.aY 10 (.list .af))
  (.seq (.ite (.cmp .pG (.loc 9) (.lit .none)) Dw S.skip)
  (.seq (.fz 10)
  (.ite (.cmp .ne (.call 29 (.aa (.loc 3) (.aa (.attr (.loc 6) 12) (.aa (.loc 7) (.aa (.loc 8) .af))))) (.loc 10)) (.ret (.lit (.bool false))) S.skip))))))
theorem EH{s8 s9 mZ gO:Sl}{P:Env->H->Prop}{R:V->Env->H->Prop}(Au:bc D.rs L)(O:LK.ok D.tc L l)(n7:l.T.length<=7000000)(li:i<=100000000)(lr:r<D.rs.length)(mk:(i,r)∈l.Kb)(pen:gn h (k+1))
  (q:∀s8 s9 mZ gO h',gn h' k->P (tE D L l (.v (jP i g)) (.v (.int r)) s8 s9 mZ gO) h'):KX (d+3) [.s AP] [] (tE D L l (.v (jP i g)) (.v (.int r)) s8 s9 mZ gO) h ⟨P,P,R⟩:=by
 dsimp only[gf_,AP,tE]
 refine draw (many:=3) (by decide) (by decide) pen fun n h1 hn P1 _=>?_
 refine(Ol (D:=D) (h:=h1) hn).elim fun t ct=>?_
 try dsimp only[gf_,ae]
 refine ag ct.1 ?_
 try dsimp only[gf_,ae]
 refine(trace (A:=aV D.names D.tc D.rs L) O n7 mk (WH (Xl ct.2) (WH (Xw (jT _) 3) (by decide)))).elim fun v c=>?_
 refine c.2 ?_
 have w:=@c.2
 rcases c.1 with e|⟨x,xs,y,ys,e,cx,cy⟩
 ·rw[e]at w ⊢
  try dsimp only[gf_,ae]
  exact zp w (cN (qW (ls:=[])) (q _ _ _ _ _ P1))
 ·rw[e]at w ⊢
  try dsimp only[gf_,ae]
  refine LL Au O n7 li lr ct.2 cx cy fun gO=>?_
  dsimp only[gf_,tE]
  exact wx Au O n7 li lr ct.2 cx cy w (cN qW (q _ _ _ _ _ P1))
theorem sx(Au:bc D.rs L)(pen:gn h (k+100000000))(q:∀h',gn h' k->Q (.bool true) h'):WC (d+5) 71 [.ref 0,D.V,aV D.names D.tc D.rs L] h Q:=by
 refine aD dw [.v (.ref 0),.v D.V,.v (aV D.names D.tc D.rs L),.no,.no,.no,.no,.no,.no,.no,.no,.no,.no,.no,.no,.no,.no] rfl rfl ?_
 dsimp only[gf_,dw,fB]
 have h0:0<h.size:=let ⟨cs,sp,st,p⟩:=pen;aE p.g
 refine HS (c:=3) rfl fun R hR=>FR D.Ah Au ⟨fun _ _=>rfl,aL⟩ fun qs T df rel U Kb rf ff ms h' O k'=>hR h' ?_
 have n7:=yN.len D.Ah Au O.t
 have pen:gn (h'.set h.size none) (k+100000000):=let ⟨cs,sp,st,p⟩:=pen;⟨cs,sp,st,(ah (WT h0)).trans ((k'.lo 0 h0).trans ((ay h0).trans p.g)),p.s0,p.s1,p.t0⟩
 refine vC (KZ (l:=⟨[],T,df,rel,U,Kb,rf,ff,ms⟩) k') ?_
 generalize h'.set h.size none=h1 at pen ⊢
 show KX _ _ (LK.w _ ⟨_,T,df,rel,U,Kb,rf,ff,ms⟩::_) _ h1 _
 generalize el:LK.mk (eB (D.tc+3) qs) T df rel U Kb rf ff ms=l
 have O:LK.ok D.tc L l:=el▸O
 have n7:l.T.length<=7000000:=el▸n7
 have sz:l.T.length<=SZ:=WH n7 (by decide)
 try dsimp only[gf_,ae]
 refine bj (xs:=l.T) kV (fun t=>.str (Ih D t)) rfl sz (fun t m P q=>?_) ?_
 ·have c:=((Tq.at O.t).mp (m:(t.1,t.2)∈l.T)).2.elim fun y c=>show t.1<=100000000/\t.2<D.tc+3 from⟨WH (Xl (WL.mp c.1).1) (WH Au.len (by decide)),tw D.Ah Au c.1 c.2⟩
  dsimp only[gf_,kV]
  refine ag (fS (aX _▸c.2)) (cat (lF _ _ c.2) (n:=10) (WQ _) rfl fun a=>?_)
  try dsimp only[gf_,ae]
  exact ag (gL c.1) (cat a (bT c.1) rfl fun _=>q)
 rw[show l.T.map (fun t=>V.str (Ih D t))=(l.T.map (Ih D)).map .str from Yd.symm]
 try dsimp only[gf_,ae]
 refine ag (kW.trans (congrArg (fun n:Nat=>some (V.int n)) (WK _))) (ag (fq (cX (WU _) (Yb (XX.mpr n7) (by decide)))) ?_)
 refine bj (fun x:Nat=>V.int x) (fun x=>.str (Ac D l.T x)) cZ (WH (WO Xb) sz) (fun x m P q=>?_) ?_
 ·try dsimp only[gf_,ae]
  exact rp Au O.t (Yz.mp m) q
 rw[show(Xq l.T.length).map (fun x=>V.str (Ac D l.T x))=(l.T.map (Ih D)).map .str from(vH (fun t=>V.str (Ih D t)) (0,0) l.T).trans Yd.symm]
 try dsimp only[gf_,ae]
 refine cN qW ?_
 try dsimp only[gf_,ae]
 refine kM (xs:=L) jP (fun s:H×Sl×Sl×Sl×Sl×Sl×Sl=>tE D L l s.2.1 s.2.2.1 s.2.2.2.1 s.2.2.2.2.1 s.2.2.2.2.2.1 s.2.2.2.2.2.2) (fun s=>s.1) (fun _ zs s=>gn s.1 (va 6 k zs)) (h1,.no,.no,.no,.no,.no,.no) rfl (pen.le ?_) (fun us g zs s P e p pen=>?_) fun s pen=>q _ pen
 ·rw[fV];exact Xf (WH (XW 6 Au.len) (by decide)) k
 ·have mg:=mem_mid e
  have dn:=Au.at mg
  have hl:=dP e
  dsimp only[gf_,tE]
  refine cC (xs:=g.rd) (g:=fun n:Nat=>V.int n) (fun u:H×Sl×Sl×Sl×Sl×Sl=>tE D L l (.v (jP us.length g)) u.2.1 u.2.2.1 u.2.2.2.1 u.2.2.2.2.1 u.2.2.2.2.2) (fun u=>u.1) (fun _ ws u=>gn u.1 (va 1 (va 6 k zs) ws)) (s.1,s.2.2) rfl (pen.le ?_) (fun vs r ws u P e' p pen=>?_) fun u pen=>p (u.1,_,u.2) pen
  ·rw[fV,aaF];exact Xf (Bc D.Ah dn) _
  ·have mr:=mem_mid e'
   exact EH (s8:=u.2.2.1) (s9:=u.2.2.2.1) (mZ:=u.2.2.2.2.1) (gO:=u.2.2.2.2.2) Au O n7 (WH (Xl hl) (WH Au.len (by decide))) (xS dn mr) ((Tq.at O.kb).mpr ⟨XI _,g,e▸(Ye (WQ _)).trans (by rw[ZA];rfl),mr⟩) pen fun s8 s9 mZ gO h' pen=>p (h',_,s8,s9,mZ,gO) pen
end
section
variable{d:Nat}{ρ:Env}{Q:V->H->Prop}{R:O->H->Prop}{K:List C}{sk:List V}{QX:Qs}{h:H}{n k i:Nat}{xs ys:List Nat}{D:DP}{b:E}{v w:V}{s:List Nat}
noncomputable abbrev Xm:=List Nat×List Nat×Nat
variable{e:Xm}{es:List Xm}
noncomputable def Sy(D:DP)(xs:List Nat):Prop:=xs.length<=2/\∀s∈xs,s<D.tc+3
structure vX(D:DP)(e:Xm):Prop where
 p:Sy D e.1
 s:Sy D e.2.1
 i:e.2.2<total D.rs
noncomputable def tv(e:Xm):V:=.obj 4 [53,54,55,56] [.tup (aj e.1),.int 3,.tup (aj e.2.1),.int e.2.2]
noncomputable def Fl(n:Nat)(s:List Nat):V:=.obj 11 [72,54,73,21,81] [.int n,.int 3,.str s,.tup [.int 1,.int 2],.int (-1)]
theorem UP:KX d (.attr 53::K) (tv e::sk) ρ h QX=KX d K (.tup (aj e.1)::sk) ρ h QX:=rfl
theorem TO:KX d (.attr 54::K) (tv e::sk) ρ h QX=KX d K (.int 3::sk) ρ h QX:=rfl
theorem Ub:KX d (.attr 55::K) (tv e::sk) ρ h QX=KX d K (.tup (aj e.2.1)::sk) ρ h QX:=rfl
theorem Ug:KX d (.attr 56::K) (tv e::sk) ρ h QX=KX d K (.int e.2.2::sk) ρ h QX:=rfl
theorem UA:KX d (.iN 74 b::K) (tv e::sk) ρ h QX=KX d (.e b::.aq 74 (some 33)::K) (tv e::sk) ρ h QX:=rfl
theorem Uc:KX d (.attr 72::K) (Fl n s::sk) ρ h QX=KX d K (.int n::sk) ρ h QX:=rfl
theorem Tn:KX d (.attr 54::K) (Fl n s::sk) ρ h QX=KX d K (.int 3::sk) ρ h QX:=rfl
theorem UW:KX d (.attr 73::K) (Fl n s::sk) ρ h QX=KX d K (.str s::sk) ρ h QX:=rfl
end
open Lean.Parser.Tactic in
local macro_rules
 | `(tactic| dsimp only [gg_, $a:simpLemma,*]) => do let n <- ("gf_ UP TO Ub Ug UA Uc Tn UW".splitOn " ").toArray.mapM fun x => `(simpLemma| $(Lean.mkIdent x.toName):term); let n := n ++ a.getElems; `(tactic| dsimp only [$n,*])
section
variable{d:Nat}{ρ:Env}{Q:V->H->Prop}{R:O->H->Prop}{K:List C}{sk:List V}{QX:Qs}{h:H}{n k i:Nat}{xs ys:List Nat}{D:DP}{b:E}{v w:V}{s:List Nat}
variable{e:Xm}{es:List Xm}
theorem EE{u v w x:V}(q:R (.inst 4 [53,54,55,56] [u,v,w,x]) h):WI (d+1) 32 4 [u,v,w,x] h R:=ji jB [.o (.inst 4 [] []),.v u,.v v,.v w,.v x] rfl rfl q
theorem EL{u v w x z:V}(q:R (.inst 11 [72,54,73,21,81] [u,v,w,x,z]) h):WI (d+1) 57 11 [u,v,w,x,z] h R:=ji iC [.o (.inst 11 [] []),.v u,.v v,.v w,.v x,.v z] rfl rfl q
noncomputable def iV(D:DP)(e:Xm):List (List Nat):=e.1.map (jQ D.names)++[[46]]++(3::e.2.1).map (jQ D.names)
noncomputable def MO(D:DP)(e:Xm):List (List Nat):=[[32,32,32,32]++eI [32] (iV D e),[32,32,32,32,32,32]++digits (fU D.rs e.2.2:Nat)++[32]++oQ (qo D (fU D.rs e.2.2)) (yI D.rs e.2.2:Nat)]
noncomputable def MJ(n:Nat)(s:List Nat):List Nat:=[83,116,97,116,101,32]++digits (n:Nat)++[58,32]++s++[32,99,111,110,102,108,105,99,116,32,111,110,32,116,111,107,101,110,32]
theorem OB:∀b,jQ (cO b) 3=[97]:=by decide
theorem HH:∀b,3<rx b+3:=by decide
theorem ou(o:vX D e):(∀x∈iV D e,Sh 10 x)/\(iV D e).length<=6:=by
 refine⟨fun x m=>?_,?_⟩
 ·rcases Xv.mp m with m|m
  ·rcases Xv.mp m with m|m
   ·obtain⟨s,ms,rfl⟩:=XN.mp m
    exact lF _ _ (o.p.2 s ms)
   ·cases WW.mp m;exact(Yg rfl:1<=10)
  ·obtain⟨s,ms,rfl⟩:=XN.mp m
   exact lF _ _ ((Xp.mp ms).elim (fun e=>e▸HH D.b) (o.s.2 s))
 ·unfold iV
  rw[len_app,aN,WK,WK]
  exact XM (Xi o.p.1) (Xi o.s.1)
theorem By{el:List Nat}{j:Nat}(a:∀s∈xs,s<D.tc+3)(z:xs.length<=2)(hv:bZ v=some (aj xs))(he:∀s∈xs,∀P:V->H->Prop,P (.str (jQ D.names s)) h->xV (.one j) (.int s) ρ fun ρ=>KX d [.e b,.ret] [] ρ h ⟨fun _ _=>False,fun _ _=>False,fun v _ h=>P v h⟩)
  (q:KX d K (.lst ((xs.map (jQ D.names)).map .str)::sk) ρ h QX):KX d (.aM b (.one j)::K) (v::sk) ρ h QX:=by
 rw[Yd]at q
 exact bj (fun n:Nat=>V.int n) _ hv (WH z (by decide)) he q
theorem Hl(o:vX D e)(q:Q (.str (eI [32] (iV D e))) h):WC (d+1) 33 [tv e,D.G] h Q:=by
 have wo:=ou o
 refine aD fP [.v (tv e),.v D.G,.no,.no,.no] rfl rfl ?_
 dsimp only[gg_,fP,jg,DP.G]
 refine By (el:=[]) o.p.2 o.p.1 rfl (fun s m P q=>?_) ?_
 ·try dsimp only[gg_,ae]
  exact ag (fS (aX _▸o.p.2 s m)) q
 try dsimp only[gg_,ae]
 refine ag (lW (xs:=e.1.map (jQ D.names)) (ys:=[[46]]) ?_) ?_
 ·rw[aN,WK];exact WH (Xi o.p.1) (by decide)
 try dsimp only[gg_,ae]
 refine ag (v:=.tup (aj (3::e.2.1))) (bu (WH (Xf (WH (WO az) o.s.1) 1) (by decide))) ?_
 have en:e.1.map (jQ D.names)++[[46]]=e.1.map (jQ D.names)++[[46]]++([]:List Nat).map (jQ D.names):=(Xo _).symm
 rw[en]
 refine cF (v:=.tup (aj (3::e.2.1))) (xs:=3::e.2.1) (g:=fun n:Nat=>V.int n) (fun us (u:Sl)=>[.v (tv e),.v (au D.names D.tc D.rs),.o (.list ((e.1.map (jQ D.names)++[[46]]++us.map (jQ D.names)).map .str)),u,.no]) .no rfl (fun us s zs u P e' p=>?_) fun u=>?_
 ·have p:=p (.v (.int s))
  rw[<-aS (f:=jQ D.names), <-Xn]at p
  try dsimp only[gg_,ae]
  refine ag (fS (aX _▸(Xp.mp (mem_mid e')).elim (fun e=>e▸HH D.b) (o.s.2 s))) ?_
  try dsimp only[gg_,ae]
  refine gb (WH (WO ?_) (WH (XM (Xi o.p.1) (WH (Xl (dP e')) (Xi o.s.1))) (Yg rfl:3+3<=15000000))) p
  rw[len_app,aN,WK,WK]
 ·try dsimp only[gg_,ae]
  exact mh wo.1 wo.2 rfl fun _=>q
theorem x_at(o:vX D e):fU D.rs e.2.2<D.rs.length/\(yI D.rs e.2.2:Nat)<=(qo D (fU D.rs e.2.2)).2.length:=by
 obtain⟨r,k,x,it⟩:=aK.ex o.i
 have l:=(WL.mp it.rule).1
 rw[it.uW,it.Js]
 have ex:=it.rule.symm.trans (IX l)
 cases ex
 exact⟨l,WH it.dot (WO (WK _))⟩
noncomputable def Cf(n:Nat)(s:List Nat):Prop:=n<=9/\Sh 13 s
theorem BQ{φ:Xm->List (List Nat)}{es:List Xm}:(es++[e]).flatMap φ=es.flatMap φ++φ e:=by rw[ZU,Zh]
theorem uS:(es.flatMap (MO D)).length=2*es.length:=by
 induction es with
 |nil=>rfl
 |cons e es ih=>rw[List.flatMap_cons,len_app,ih,XT,aba,Yx];rfl
noncomputable def Sw(D:DP)(n:Nat)(s:List Nat)(es:List Xm)(u:List Xm)(s6 s7:Sl)(ps:V):Env:=[.v (au D.names D.tc D.rs),.v ps,.o (.list ((([MJ n s++[97]]:List (List Nat))++u.flatMap (MO D)).map .str)),.v (Fl n s),.v (.lst (es.map tv)),.v (.str (MJ n s)),s6,s7]
theorem Ca(c:Cf n s)(o:∀e∈es,vX D e)(z:es.length<=2)(q:Q (.lst (((MJ n s++[97])::es.flatMap (MO D)).map .str)) h):WC (d+2) 50 [D.G,.lst [.tup [Fl n s,.lst (es.map tv)]]] h Q:=by
 refine aD dH [.v D.G,.v (.lst [.tup [Fl n s,.lst (es.map tv)]]),.no,.no,.no,.no,.no,.no] rfl rfl ?_
 dsimp only[gg_,dH,iA,DP.G]
 refine rQ ?_
 have l9:n<=100000000:=WH c.1 (by decide)
 try dsimp only[gg_,ae]
 refine ag (gL l9) (cat (m:=6) (WQ _) (bT l9) rfl fun a=>?_)
 try dsimp only[gg_,ae]
 refine cat a (n:=2) (WQ _) rfl fun a=>?_
 try dsimp only[gg_,ae]
 refine cat a c.2 rfl fun a=>?_
 try dsimp only[gg_,ae]
 refine cat a (n:=19) (WQ _) rfl fun a=>?_
 try dsimp only[gg_,ae]
 refine ag ((fS (t:=3) (aX _▸HH D.b)).trans (congrArg (fun s=>some (V.str s)) (OB D.b))) (cat a (n:=1) (WQ _) rfl fun _=>?_)
 try dsimp only[gg_,ae]
 refine gb (ls:=[]) (XI _) ?_
 refine cF (xs:=es) (g:=tv) (fun us (u:Sl×Sl)=>Sw D n s es us u.1 u.2 (.lst [.tup [Fl n s,.lst (es.map tv)]])) (.no,.no) rfl (fun us e zs u P e' p=>?_) fun u=>q
 have xo:=o e (mem_mid e')
 have xa:=x_at xo
 have wo:=ou xo
 have ln:([MJ n s++[97]]++us.flatMap (MO D):List (List Nat)).length<=5:=by
  rw[len_app,uS]
  exact Xf (XW 2 (WH (Xl (dP e')) z)) 1
 have po:=qI xa.1
 have l6:fU D.rs e.2.2<=100000000:=WH (Xl xa.1) (WH D.Ah.tY (by decide))
 dsimp only[gg_,Sw]
 refine jL xo.i ?_
 try dsimp only[gg_,ae]
 refine Hl xo ?_
 try dsimp only[gg_,ae]
 refine cat (m:=4) (WQ _) (ru wo.1 wo.2) rfl fun _=>?_
 try dsimp only[gg_,ae]
 refine gb (WH ln (by decide)) ?_
 try dsimp only[gg_,ae]
 refine ag (gL l6) (cat (m:=6) (WQ _) (bT l6) rfl fun a=>?_)
 try dsimp only[gg_,ae]
 refine cat a (n:=1) (WQ _) rfl fun a=>?_
 try dsimp only[gg_,ae]
 refine tO xo.i ?_
 try dsimp only[gg_,ae]
 refine mR rfl (lO xa.1) (XX.mpr xa.2) ?_
 try dsimp only[gg_,ae]
 refine cat a (fM po _) rfl fun _=>?_
 try dsimp only[gg_,ae]
 refine gb (WH (WO aN) (WH (Xi ln) (by decide))) ?_
 have p:=p (.v (tv e),.v (.int (fU D.rs e.2.2)))
 unfold Sw at p
 rw[BQ, <-Xn]at p
 rw[Xn]
 exact p
end
section
variable{d:Nat}{ρ:Env}{Q:V->H->Prop}{R:O->H->Prop}{K:List C}{sk:List V}{QX:Qs}{h h':H}{n k i:Nat}{xs ys:List Nat}{D:DP}{b:E}{v w:V}{s y:List Nat}{e:Xm}{es:List Xm}
theorem uD(m:y∈D.names)(q:Q (.int (qd D.b y:Nat)) h):WC (d+1) 7 [D.G,.str y] h Q:=by
 refine aD eO [.v D.G,.v (.str y)] rfl rfl ?_
 dsimp only[gg_,eO,gT,DP.G]
 refine cN (b:=true) (mD.trans (congrArg some (decide_eq_true m))) ?_
 try dsimp only[gg_,ae]
 exact tq m q
noncomputable def JL(D:DP):V:=.lst [.int 3,.int (qd D.b [115]:Nat),.int (qd D.b [116]:Nat)]
theorem BL:∀b,([115]∈cO b/\qd b [115]<rx b+3)/\[116]∈cO b/\qd b [116]<rx b+3:=by decide
theorem LQ(hn:n<3):∃t:Nat,cL (JL D) (.int n) h=some (.int t)/\t<D.tc+3:=match n,hn with
 |0,_=>⟨3,rfl,HH _⟩
 |1,_=>⟨_,rfl,(BL D.b).1.2⟩
 |2,_=>⟨_,rfl,(BL D.b).2.2⟩
noncomputable def HG(i:Nat):E:=.bi .tuple (.aa (.aM (.sub (.loc 4) (.call 67 (.aa (.loc 0) (.aa (.lit (.int 3)) .af)))) (.one i) (.bi .range (.aa (.call 67 (.aa (.loc 0) (.aa (.lit (.int 3)) .af))) .af))) .af)
theorem row(P:gn h (k+3))(e0:gt ρ 0=.v (.ref 0))(e1:∀x,gt (st ρ i x) 0=.v (.ref 0))(e4:∀x,gt (st ρ i x) 4=.v (JL D))(q:∀xs h',Sy D xs->gn h' k->KX (d+1) K (.tup (aj xs)::sk) ρ h' QX):KX (d+1) (.e (HG i)::K) sk ρ h QX:=by
 dsimp only[gg_,HG]
 rw[e0]
 try dsimp only[gg_,ae]
 refine draw (many:=3) (by decide) (by decide) P fun m h1 hm P1 _=>?_
 try dsimp only[gg_,ae]
 refine ag (fq (cX (WU m) (Yb (XX.mpr (Xl hm)) (by decide)))) ?_
 refine jD _ (fun ys zs us h=>∃xs:List Nat,us=aj xs/\xs.length=ys.length/\(∀s∈xs,s<D.tc+3)/\gn h (va 1 k zs)) cZ (WH (WO Xb) (WH (Xl hm) (by decide))) ⟨[],rfl,rfl,nofun,P1.le ?_⟩ (fun ys x zs us h P e p I=>?_) fun us h l I=>?_
 ·rw[fV,Xb,aaF];exact Xf (XY hm) k
 ·refine I.elim fun xs c=>?_
  dsimp only[gg_,ae]
  rw[e4,e1]
  try dsimp only[gg_,ae]
  refine draw (many:=3) (by decide) (by decide) c.2.2.2 fun n h2 hn P2 _=>?_
  refine(LQ (D:=D) (h:=h2) hn).elim fun t ct=>?_
  try dsimp only[gg_,ae]
  exact ag ct.1 (p _ _ ⟨xs++[t],qP c.1,kK c.2.1,aU c.2.2.1 ct.2,P2⟩)
 ·refine I.elim fun xs c=>?_
  try dsimp only[gg_,ae]
  refine ag (v:=.tup us) rfl (c.1▸q xs h ⟨?_,c.2.2.1⟩ c.2.2.2)
  rw[c.2.1,Xb];exact XY hm
noncomputable def Dt:List (List Nat):=[[115,104,105,102,116,47,114,101,100,117,99,101],[114,101,100,117,99,101,47,114,101,100,117,99,101]]
noncomputable def xE(D:DP)(n:Nat)(s:List Nat)(es:List Xm)(u:Sl×Sl×Sl×Sl×Sl×Sl):Env:=[.v (.ref 0),.v D.V,.v (au D.names D.tc D.rs),.v (.lst (D.names.map .str)),.v (JL D),.v (Fl n s),.o (.list (((MJ n s++[97])::es.flatMap (MO D)).map .str)),.o (.list (es.map tv)),u.1,u.2.1,u.2.2.1,u.2.2.2.1,u.2.2.2.2.1,u.2.2.2.2.2,.no,.no,.no,.no]
theorem AB:e.1.map (jQ D.names)++[[46],[97]]++e.2.1.map (jQ D.names)=iV D e:=by
 unfold iV
 rw[Za,show jQ D.names 3=[97] from OB D.b,Xn,Xn];rfl
noncomputable def IP:S:=(.seq (.asg 9 (HG 14))
  (.seq (.asg 10 (HG 15))
  (.seq (.asg 11 (.call 67 (.aa (.loc 0) (.aa (.attr (.loc 2) 28) .af))))
  (.seq (.mO 7 0 (.aa (.new 4 (.aa (.loc 9) (.aa (.lit (.int 3)) (.aa (.loc 10) (.aa (.loc 11) .af))))) .af))
  (.seq (.asg 12 (.bin .add (.bin .add (.aM (.sub (.loc 3) (.loc 16)) (.one 16) (.loc 9)) (.list (.aa (.lit (.str [46])) (.aa (.lit (.str [97])) .af)))) (.aM (.sub (.loc 3) (.loc 17)) (.one 17) (.loc 10))))
  (.seq (.asg 13 (.aq (.loc 2) 65 (.aa (.loc 11) .af)))
  (.mO 6 2 (.aa (.list (.aa (.bin .add (.lit (.str [32,32,32,32])) (.aq (.lit (.str [32])) 7 (.aa (.loc 12) .af))) (.aa (.bin .add (.bin .add (.bin .add (.lit (.str [32,32,32,32,32,32])) (.bi .str (.aa (.loc 13) .af))) (.lit (.str [32]))) (.call 69 (.aa (.loc 1) (.aa (.loc 13) (.aa (.aq (.loc 2) 64 (.aa (.loc 11) .af)) .af))))) .af))) .af))))))))
theorem Ji{P:Env->H->Prop}{R:V->Env->H->Prop}{u:Sl×Sl×Sl×Sl×Sl×Sl}(pen:gn h (k+7))(z:es.length<=2)(q:∀e u h',vX D e->gn h' k->P (xE D n s (es++[e]) u) h'):KX (d+2) [.s IP] [] (xE D n s es u) h ⟨P,P,R⟩:=by
 dsimp only[IP,ym,Ey]
 refine row (k:=k+4) (D:=D) pen rfl (fun _=>rfl) (fun _=>rfl) fun xs h1 cx pen=>?_
 dsimp only[xE,ym,Ey,LW,Qm,RG]
 refine row (k:=k+1) (D:=D) pen rfl (fun _=>rfl) (fun _=>rfl) fun ys h2 cy pen=>?_
 try dsimp only[gg_,ae]
 have ti:total D.rs<=22:=D.Ah.Bh
 refine draw (many:=total D.rs) (AY D.Ah).2 (WM ti (by decide)) pen fun i h3 hi pen _=>?_
 have xo:vX D (xs,ys,i):=⟨cx,cy,hi⟩
 have xa:=x_at xo
 have wo:=ou xo
 have po:=qI xa.1
 have l6:fU D.rs i<=100000000:=WH (Xl xa.1) (WH D.Ah.tY (by decide))
 try dsimp only[gg_,ae]
 refine fg rfl (EE ?_)
 try dsimp only[gg_,ae]
 refine aT (WM (WO (WK _)) (WM z (by decide))) ?_
 refine By (el:=[]) cx.2 cx.1 rfl (fun s m P q=>?_) ?_
 ·try dsimp only[gg_,ae]
  exact ag (fS (aX _▸cx.2 s m)) q
 try dsimp only[gg_,ae]
 refine ag (lW (xs:=xs.map (jQ D.names)) (ys:=[[46],[97]]) ?_) ?_
 ·rw[len_app,WK];exact WH (Xw cx.1 2) (by decide)
 refine By (el:=[]) cy.2 cy.1 rfl (fun s m P q=>?_) ?_
 ·try dsimp only[gg_,ae]
  exact ag (fS (aX _▸cy.2 s m)) q
 try dsimp only[gg_,ae]
 refine ag ((lW (xs:=xs.map (jQ D.names)++[[46],[97]]) (ys:=ys.map (jQ D.names)) ?_).trans (congrArg (fun z=>some (V.lst (z.map V.str))) (AB (e:=(xs,ys,i))))) ?_
 ·rw[len_app,len_app,WK,WK];exact WH (XM (Xw cx.1 2) cy.1) (by decide)
 try dsimp only[gg_,ae]
 refine jL hi ?_
 try dsimp only[gg_,ae]
 refine mh wo.1 wo.2 rfl fun j=>?_
 try dsimp only[gg_,ae]
 refine cat (m:=4) (WQ _) j rfl fun _=>?_
 try dsimp only[gg_,ae]
 refine ag (gL l6) (cat (m:=6) (WQ _) (bT l6) rfl fun a=>?_)
 try dsimp only[gg_,ae]
 refine cat a (n:=1) (WQ _) rfl fun a=>?_
 try dsimp only[gg_,ae]
 refine tO hi ?_
 try dsimp only[gg_,ae]
 refine pq (lO xa.1) (XX.mpr xa.2) ?_
 try dsimp only[gg_,ae]
 refine cat a (fM po _) rfl fun _=>?_
 try dsimp only[gg_,ae]
 refine oK (us:=MO D (xs,ys,i)) ?_ ?_
 ·rw[XT,uS]
  exact WH (Xw (Xi (XW 2 z)) _) (Yg rfl:5+2<=15000000)
 have q:=fun u=>q (xs,ys,i) u h3 xo pen
 unfold xE at q
 rw[BQ, <-aS (f:=tv)]at q
 exact q (u.1,.v (.tup (aj xs)),.v (.tup (aj ys)),.v (.int i),.v (.lst ((iV D (xs,ys,i)).map .str)),.v (.int (fU D.rs i)))
theorem JY{G:V}(q:Q (.lst []) h):WC (d+1) 50 [G,.lst []] h Q:=aD dH [.v G,.v (.lst []),.no,.no,.no,.no,.no,.no] rfl rfl q
theorem oW(pen:gn h (k+1000))(q:∀h',gn h' k->Q (.bool true) h'):WC (d+3) 72 [.ref 0,D.V,D.G] h Q:=by
 refine aD cD [.v (.ref 0),.v D.V,.v D.G,.no,.no,.no,.no,.no,.no,.no,.no,.no,.no,.no,.no,.no,.no,.no] rfl rfl ?_
 have ix:=BL D.b
 dsimp only[gg_,cD,eH,DP.G]
 refine uD ix.1.1 ?_
 try dsimp only[gg_,ae]
 refine uD ix.2.1 ?_
 try dsimp only[gg_,ae]
 refine draw (many:=9) (by decide) (by decide) pen fun n h1 hn pen _=>?_
 try dsimp only[gg_,ae]
 refine draw (many:=2) (by decide) (by decide) pen fun m h2 hm pen _=>?_
 try dsimp only[gg_,ae]
 refine ag (pick (xs:=Dt) hm) ?_
 have c:Cf n Dt[m]:=⟨Xl hn,match m,hm with
  |0,_=>(Yg rfl:12<=13)
  |1,_=>WQ 13⟩
 have e0:MJ n Dt[m]++[97]=[83,116,97,116,101,32]++digits (n:Nat)++[58,32]++Dt[m]++[32,99,111,110,102,108,105,99,116,32,111,110,32,116,111,107,101,110,32,97]:=Xn _ _ _
 generalize Dt[m]=s at c e0 ⊢
 have l9:n<=100000000:=WH c.1 (by decide)
 try dsimp only[gg_,ae]
 refine fg rfl (EL ?_)
 show KX _ _ (Fl n s::_) _ _ _
 try dsimp only[gg_,ae]
 refine ag (gL l9) (cat (m:=6) (WQ _) (bT l9) rfl fun a=>?_)
 try dsimp only[gg_,ae]
 refine cat a (n:=2) (WQ _) rfl fun a=>?_
 try dsimp only[gg_,ae]
 refine cat a c.2 rfl fun a=>?_
 try dsimp only[gg_,ae]
 refine cat a (n:=20) (WQ _) rfl fun _=>?_
 rw[<-e0]
 try dsimp only[gg_,ae]
 refine draw (many:=3) (by decide) (by decide) pen fun m h3 hm pen _=>?_
 try dsimp only[gg_,ae]
 refine ag (fq (cX (WU m) (Yb (XX.mpr (Xl hm)) (by decide)))) ?_
 refine cC (fun u:List Xm×H×Sl×Sl×Sl×Sl×Sl×Sl=>xE D n s u.1 u.2.2) (fun u=>u.2.1) (fun ys zs u=>gn u.2.1 (va 7 k zs)/\u.1.length=ys.length/\∀e∈u.1,vX D e) ([],h3,.no,.no,.no,.no,.no,.no) cZ ⟨pen.le ?_,rfl,nofun⟩ (fun ys x zs u P e p I=>?_) fun u I=>?_
 ·rw[fV,Xb];exact Xf (WH (XW 7 (Xl hm)) (by decide)) k
 ·exact Ji (u:=(.v (.int x),u.2.2.2)) I.1 (WH (Xl (vh e I.2.1)) (XY hm)) fun e' w h' o pen=>p (u.1++[e'],h',w) ⟨pen,kK I.2.1,aU I.2.2 o⟩
 ·have lz:u.1.length<=2:=by rw[I.2.1,Xb];exact XY hm
  dsimp only[gg_,xE]
  refine Ca c I.2.2 lz ?_
  try dsimp only[gg_,ae]
  refine cN sj ?_
  try dsimp only[gg_,ae]
  refine JY ?_
  try dsimp only[gg_,ae]
  exact cN (b:=true) rfl (q _ I.1)
end
section
variable{d:Nat}{Q:V->H->Prop}{K:List C}{h:H}{n:Nat}{v w:V}{x y:List Nat}{us:List V}{t:T}{b:S}
noncomputable abbrev Tt:=V×V×List Nat×List V
variable{c:Tt}{cs ds:List Tt}
noncomputable def textOf(cs:List Tt):List Nat:=[40,101,32]++eI [32] (cs.map fun c=>c.2.2.1)++[41]
noncomputable def ED(cs:List Tt):V:=oP (cs.map Prod.fst)
noncomputable def kF(cs:List Tt):List V:=cs.flatMap fun c=>c.2.2.2
noncomputable def EC(cs:List Tt):List V:=cs.map fun c=>c.2.1
noncomputable def Nj(cs:List Tt):Tt:=(ED cs,.tup (.str [101]::EC cs),textOf cs,kF cs++[ED cs])
noncomputable def MR(x y:List Nat):Tt:=(gZ x y,.tup [.str x,.str y],y,[gZ x y])
noncomputable def Lb(t:Tt):Prop:=∃x y,y.length<=2/\t=MR x y
noncomputable def kU:Nat->Tt->Prop:=Nat.rec Lb fun _ P t=>Lb t\/∃cs:List Tt,(2<=cs.length/\cs.length<=3)/\(∀c∈cs,P c)/\t=Nj cs
theorem xu{R:Nat->Tt->Prop}(lf:∀n x y,y.length<=2->R n (MR x y))(nd:∀n (cs:List Tt),2<=cs.length->cs.length<=3->(∀c∈cs,kU n c/\R n c)->R (n+1) (Nj cs)):∀n t,kU n t->R n t:=fun n=>by
 induction n with
 |zero=>exact fun t ⟨x,y,l,e⟩=>e▸lf 0 x y l
 |succ n ih=>exact fun t o=>o.elim (fun⟨x,y,l,e⟩=>e▸lf _ x y l) fun⟨cs,l,a,e⟩=>e▸nd n cs l.1 l.2 fun c m=>⟨a c m,ih c (a c m)⟩
noncomputable def tB:Nat->Nat:=Nat.rec 2 fun _ b=>b*3+7
theorem b0(n:Nat):2<=tB n:=by
 cases n with
 |zero=>exact WQ 2
 |succ n=>exact WH (by decide:2<=7) (YK 7 _)
theorem Hu{m:Nat}(a:∀c∈cs,c.2.2.2.length<=m):(kF cs).length<=m*cs.length:=by
 unfold kF
 rw[aaT]
 exact rn a
theorem Jx:∀n t,kU n t->Sh (tB n) t.2.2.1/\t.2.2.2.length<=tB n:=by
 refine xu (fun n x y l=>⟨WH l (b0 n),WH (Yj 1) (b0 n)⟩) fun n cs _ l a=>⟨?_,?_⟩
 ·show Sh (tB n*3+7) _
  have j:=ru (s:=[32]) (xs:=cs.map fun c=>c.2.2.1) (fun x m=>(XN.mp m).elim fun c z=>z.2▸(a c z.1).2.1) (WH (WO (WK _)) l)
  exact WH ((Sh.app (m:=3) (WQ _) j).app (n:=1) (WQ _)) (WO (by rw[Yx 3];rfl))
 ·show(kF cs++[ED cs]).length<=tB n*3+7
  rw[aN]
  exact WH (Xi (WH (Hu fun c m=>(a c m).2.2) (XW _ l))) (Xf (by decide:1<=7) _)
noncomputable def Tk(t:Tt):Prop:=∃n,kU n t
theorem sS{R:Tt->Prop}(lf:∀x y,R (MR x y))(nd:∀cs:List Tt,(∀c∈cs,Tk c)->R (Nj cs)):∀t,Tk t->R t:=fun t o=>o.elim fun n o=>xu (R:=fun _ t=>R t) (fun _ x y _=>lf x y) (fun n cs _ _ a=>nd cs fun c m=>⟨n,(a c m).1⟩) n t o
theorem Mp:∀t,Tk t->1<=t.2.2.2.length:=sS (fun x y=>WQ 1) fun cs _=>WH (YK 1 _) (WO aN.symm)
theorem Ae(a:∀c∈cs,Tk c):cs.length<=(kF cs).length:=by
 induction cs with
 |nil=>exact WQ 0
 |cons c cs ih=>
  show cs.length+1<=(c.2.2.2++kF cs).length
  rw[len_app,Yx]
  exact XM (Mp c (a c (.head _))) (ih fun c m=>a c (.tail _ m))
theorem sF:kF (cs++ds)=kF cs++kF ds:=ZU
theorem Jg:kF (cs++[c])=kF cs++c.2.2.2:=sF.trans (congrArg (kF cs++·) (Zh _ _))
noncomputable def uO(cs:List Tt):List V:=cs.map Prod.fst
theorem IV:uO cs++[c.1]=uO (cs++[c]):=(Xr (f:=Prod.fst) (l₂:=[c])).symm
theorem NQ{α:Type}{xs:List α}{x:α}:xs.length<(xs++[x]).length:=YT (Xk _) aN.symm
theorem OL{f:List V}{v:V}{a b:List V}:(f++[v])++(a++b).reverse=f++(a++(b++[v])).reverse:=by
 rw[Zu (as:=a) (bs:=b++[v]),Zu (as:=b),Zu,Xn];rfl
noncomputable def zY(v:V)(f l:List V)(s3 s4:Sl):Env:=[.v v,.o (.list f),.o (.list l),s3,s4]
noncomputable def ox:S:=(.seq (.iY 3 2 3 .af) (.seq (.mO 1 0 (.aa (.loc 3) .af)) (.loop (.one 4) (.attr (.loc 3) 77) (.mO 2 0 (.aa (.loc 4) .af)))))
theorem xP{v w:V}{f l:List V}{N P:Env->H->Prop}{R:V->Env->H->Prop}{s3 s4:Sl}(el:l=uO cs++[v])(zf:f.length<=1000)(zl:cs.length+ds.length<=1000)(e:∀{K:List C},KX d (.attr 77::K) (v::[])=KX d K (.lst (uO ds)::[]))(p:∀s4,P (zY w (f++[v]) (uO (cs++ds)) (.v v) s4) h):KX d [.s (.seq ox .cont)] [] (zY w f l s3 s4) h ⟨N,P,R⟩:=by
 dsimp only[gg_,ox,zY]
 refine rG el ?_
 try dsimp only[gg_,ae]
 refine aT (yA (WH zf (by decide))) ?_
 try dsimp only[gg_,ae]
 rw[e,show uO cs=uO (cs++[]) from congrArg uO (Xo cs).symm]
 refine cF (xs:=ds) (g:=Prod.fst) (fun us (u:Sl)=>zY w (f++[v]) (uO (cs++us)) (.v v) u) s4 rfl (fun us x zs u P e p=>?_) p
 have p:=p (.v x.1)
 rw[<-Xn, <-IV]at p
 dsimp only[gg_,zY]
 refine aT (yA ?_) p
 unfold uO
 rw[WK,len_app]
 exact WH (Xf (Xl (dP e)) _) (WH zl (by decide))
theorem zR(o:Tk c)(z:c.2.2.2.length<=1000)(q:Q (.lst c.2.2.2) h):WC (d+1) 56 [c.1] h Q:=by
 refine aD jz [.v c.1,.no,.no,.no,.no] rfl rfl ?_
 dsimp only[gg_,jz,mW]
 refine jk (fun s:List V×List Tt×List V×Sl×Sl=>zY c.1 s.1 s.2.2.1 s.2.2.2.1 s.2.2.2.2) (fun _=>h) (fun s=>(kF s.2.1).length) (fun s=>(∀c∈s.2.1,Tk c)/\s.2.2.1=uO s.2.1/\s.1++(kF s.2.1).reverse=c.2.2.2.reverse) ([],[c],[c.1],.no,.no) ⟨fun x m=>WW.mp m▸o,rfl,congrArg acq (Zh _ _)⟩ fun s P I p=>?_
 have ln:s.1.length+(kF s.2.1).length<=1000:=by rw[<-Yc (as:=kF s.2.1), <-len_app,I.2.2,Yc];exact z
 have lc:=WH (Ae I.1) (WH (YK _ _) ln)
 refine Aq (R:=fun cs=>s.2.1=cs->KX d [.e (.zV 2),.eU (.seq ox .cont) .skip] [] (zY c.1 s.1 s.2.2.1 s.2.2.2.1 s.2.2.2.2) h ⟨_,P,_⟩) (fun e=>?_) (fun cs x e=>?_) s.2.1 rfl
 ·have e1:s.2.2.1=[]:=I.2.1.trans (congrArg uO e)
  have e2:s.1=c.2.2.2.reverse:=(Xo _).symm.trans ((congrArg (fun z=>s.1++(kF z).reverse) e).symm.trans I.2.2)
  dsimp only[gg_,zY]
  refine GJ (by rw[e1];rfl) ?_
  try dsimp only[gg_,ae]
  refine tR (WH (WZ _ _) (WH ln (by decide))) ?_
  rw[e2,ZP]
  exact q
 ·have el:s.2.2.1=uO cs++[x.1]:=(I.2.1.trans (congrArg uO e)).trans IV.symm
  have ac:∀c∈cs,Tk c:=fun c m=>I.1 c (e▸Xh _ m)
  have le:cs.length+1<=1000:=by rw[e,aN]at lc;exact lc
  have zf:=WH (WZ _ _) ln
  have I2:=I.2.2
  rw[e,Jg]at I2 ln
  rw[e,Jg]at p
  dsimp only[gg_,zY]
  refine HQ (by rw[el];cases uO cs<;>rfl) ?_
  show KX d [.s (.seq ox .cont)] [] (zY c.1 s.1 s.2.2.1 s.2.2.2.1 s.2.2.2.2) h _
  refine sS (R:=fun x=>s.2.2.1=uO cs++[x.1]->s.1++(kF cs++x.2.2.2).reverse=c.2.2.2.reverse->s.1.length+(kF cs++x.2.2.2).length<=1000->(∀s':List V×List Tt×List V×Sl×Sl,((∀c∈s'.2.1,Tk c)/\s'.2.2.1=uO s'.2.1/\s'.1++(kF s'.2.1).reverse=c.2.2.2.reverse)->(kF s'.2.1).length<(kF cs++x.2.2.2).length->P (zY c.1 s'.1 s'.2.2.1 s'.2.2.2.1 s'.2.2.2.2) h)->KX d [.s (.seq ox .cont)] [] (zY c.1 s.1 s.2.2.1 s.2.2.2.1 s.2.2.2.2) h ⟨_,P,_⟩) (fun x y el I2 ln p=>?_) (fun ds ad el I2 ln p=>?_) x (I.1 x (e▸dI)) el I2 ln p
  ·refine xP (ds:=[]) el zf (Yk le) rfl fun s4=>p (s.1++[gZ x y],cs++[],_,_,s4) ⟨by rw[Xo];exact ac,rfl,?_⟩ ?_
   ·rw[Xo, <-I2];exact(OL (b:=[])).symm▸congrArg (fun z=>s.1++[gZ x y]++acq z) (Xo _).symm
   ·rw[Xo];exact NQ (xs:=kF cs) (x:=gZ x y)
  ·have ln:s.1.length+((kF cs++kF ds)++[ED ds]).length<=1000:=by rw[Xn];exact ln
   rw[aN,len_app]at ln
   refine xP (ds:=ds) el zf (WH (XM (Ae ac) (Ae ad)) (WH (Yj _) (WH (YK _ _) ln))) rfl fun s4=>p (s.1++[ED ds],cs++ds,_,_,s4) ⟨fun c m=>(Xv.mp m).elim (ac c) (ad c),rfl,?_⟩ ?_
   ·rw[sF, <-I2];exact OL
   ·rw[sF];exact YT (NQ (x:=ED ds)) (congrArg YN (Xn (kF cs) (kF ds) [ED ds]))
end
section
variable{d:Nat}{ρ:Env}{Q:V->H->Prop}{K:List C}{sk:List V}{QX:Qs}{h:H}{n:Nat}{v:V}{x y s:List Nat}{vs us ys:List V}{t:T}{b:S}{c:Tt}{cs:List Tt}
theorem VZ:KX d (.isStr::K) (.str s::sk) ρ h QX=KX d K (.bool true::sk) ρ h QX:=rfl
end
open Lean.Parser.Tactic in
local macro_rules
 | `(tactic| dsimp only [gh_, $a:simpLemma,*]) => do let n <- ("gg_ VZ".splitOn " ").toArray.mapM fun x => `(simpLemma| $(Lean.mkIdent x.toName):term); let n := n ++ a.getElems; `(tactic| dsimp only [$n,*])
section
variable{d:Nat}{ρ:Env}{Q:V->H->Prop}{K:List C}{sk:List V}{QX:Qs}{h:H}{n:Nat}{v:V}{x y s:List Nat}{vs us ys:List V}{t:T}{b:S}{c:Tt}{cs:List Tt}
theorem AX(q:KX d K sk ρ h QX):KX d (.loop t b::K) (.lst []::sk) ρ h QX:=q
theorem Ri(z:us.length+vs.length<=SZ):pU .add (.tup us) (.tup vs)=some (.tup (us++vs)):=bu z
theorem Ql{a b:List V}{m:Nat}(e:b.length=m):((a++b).length:Int)-(m:Int)=(a.length:Nat):=by rw[<-e,len_app,ZQ,YS]
noncomputable def Iy(v:V)(done:List V)(s:Sl×Sl):Env:=[.v v,.o (.list done),s.1,s.2]
noncomputable def Kx:S:=(.ite (.aq (.loc 2) 78 .af) (.mO 1 0 (.aa (.aq (.attr (.loc 2) 79) 80 .af) .af)) (.seq (.asg 3 (.bin .sub (.cM 1) (.bi .len (.aa (.attr (.loc 2) 77) .af))))
  (.seq (.fz 1)
  (.aY 1 (.bin .add (.dY (.loc 1) (.loc 3)) (.list (.aa (.bin .add (.aa (.attr (.loc 2) 75) .af) (.bi .tuple (.aa (.aW (.loc 1) (.loc 3)) .af))) .af)))))))
noncomputable def ME(d:Nat)(h:H)(n:Nat)(c:Tt):Prop:=∀(v:V)(K:List C)(sk:List V)(QX:Qs)(ys done:List V)(s:Sl×Sl),done.length+3*n<=1000->(∀s,KX d (.loop (.one 2) Kx::K) (.lst ys::sk) (Iy v (done++[c.2.1]) s) h QX)->KX d (.loop (.one 2) Kx::K) (.lst (c.2.2.2++ys)::sk) (Iy v done s) h QX
theorem MA(a:∀c∈cs,ME d h n c):∀(v:V)(K:List C)(sk:List V)(QX:Qs)(ys done:List V)(s:Sl×Sl),done.length+cs.length+3*n<=1000->(∀s,KX d (.loop (.one 2) Kx::K) (.lst ys::sk) (Iy v (done++EC cs) s) h QX)->KX d (.loop (.one 2) Kx::K) (.lst (kF cs++ys)::sk) (Iy v done s) h QX:=by
 induction cs with
 |nil=>exact fun v K sk QX ys done s _ q=>(Xo done)▸q s
 |cons c cs ih=>
  intro v K sk QX ys done s l q
  show KX d _ (.lst (c.2.2.2++kF cs++ys)::sk) _ h QX
  rw[Xn]
  refine a c (.head _) v K sk QX _ done s (WH (Xw (WZ _ _) _) l) fun s=>ih (fun c m=>a c (.tail _ m)) v K sk QX ys _ s (by rw[aN,YE];exact l) fun s=>?_
  rw[Xn]
  exact q s
theorem Kq(z:(us++vs).length<=SZ)(q:KX d K (.lst us::sk) ρ h QX):KX d (.dY::K) (.int us.length::.lst (us++vs)::sk) ρ h QX:=vD (WH (WZ _ _) (len_app (xs:=us)▸z)) z (List.take_left.symm▸q)
theorem Ce(z:(us++vs).length<=SZ)(q:KX d K (.lst vs::sk) ρ h QX):KX d (.aW::K) (.int us.length::.lst (us++vs)::sk) ρ h QX:=ux (WH (WZ _ _) (len_app (xs:=us)▸z)) z (List.drop_left.symm▸q)
theorem Hf{v:V}{done:List V}{N:Env->H->Prop}{R:V->Env->H->Prop}{s:Sl×Sl}(l:cs.length<=3)(z:done.length<=1000)(q:∀s,N (Iy v (done++[.tup (.str [101]::EC cs)]) s) h):KX (d+1) [.s Kx] [] (Iy v (done++EC cs) (.v (ED cs),s.2)) h ⟨N,N,R⟩:=by
 have lt:(EC cs).length<=3:=WH (WO (WK _)) l
 have le:(done++EC cs).length<=SZ:=WH (WO len_app) (WH (XM z lt) (by decide))
 dsimp only[gh_,Kx,Iy,ED]
 refine Hh ?_
 try dsimp only[gh_,ae]
 refine ag kW ?_
 try dsimp only[gh_,ae]
 rw[Ql (b:=EC cs) (WK _)]
 refine Kq le ?_
 try dsimp only[gh_,ae]
 refine Ce le ?_
 try dsimp only[gh_,ae]
 refine ag (v:=.tup (EC cs)) rfl ?_
 try dsimp only[gh_,ae]
 refine ag (Ri (us:=[.str [101]]) (WH (Xf lt 1) (by decide))) ?_
 try dsimp only[gh_,ae]
 exact ag (bu (WH (Xi z) (by decide))) (q (_,.v (.int done.length)))
theorem OT:∀n c,kU n c->ME (d+1) h n c:=xu (R:=fun n c=>ME (d+1) h n c) (fun n x y _ v K sk QX ys done s z q=>by
  refine rQ ?_
  dsimp only[gh_,Kx,Iy,MR]
  refine ES ?_
  try dsimp only[gh_,ae]
  refine CM ?_
  try dsimp only[gh_,ae]
  exact aT (yA (WH (WH (WZ _ _) z) (by decide))) (q (.v (gZ x y),s.2)))
 fun n cs _ l a v K sk QX ys done s z q=>by
  show KX _ _ (.lst ((kF cs++[ED cs])++ys)::sk) _ h QX
  rw[Xn]
  have z':done.length+cs.length+3*n<=1000:=WH (WO (XO _ _ _)) (WH (Xf (WH (Xw l _) (WO ((Yx _ _).trans (aba 3 n).symm))) _) z)
  exact MA (fun c m=>(a c m).2) v K sk QX _ done s z' fun s=>rQ (Hf (s:=s) l (WH (WZ _ _) z) q)
theorem told(o:kU 3 c)(q:Q c.2.1 h):WC (d+2) 53 [c.1] h Q:=by
 refine aD jv [.v c.1,.no,.no,.no] rfl rfl ?_
 dsimp only[gh_,jv,nJ]
 refine zR ⟨3,o⟩ (WH (Jx 3 c o).2 (by decide)) ?_
 have x:=OT (d:=d) (h:=h) 3 c o c.1 [.s (.ret (.aH 1 (.lit (.int 0))))] [] (Rt Q) [] [] (.no,.no) (by decide) fun s=>AX (K:=[.s (.ret (.aH 1 (.lit (.int 0))))]) ?_
 ·rw[Xo]at x;exact x
 ·exact q
theorem Ij:∀n,n<3->tB n<=46:=by decide
theorem Gh(l:2<=cs.length):[40]++eI [32] ([[101]]++cs.map fun c=>c.2.2.1)++[41]=textOf cs:=by
 cases cs with
 |nil=>exact nomatch l
 |cons c cs=>rfl
theorem zK:∀n t,kU n t->n<=3->∀{d}{Q:V->H->Prop},Q (.str t.2.2.1) h->WC (d+n+1) 64 [t.2.1] h Q:=xu (R:=fun n t=>n<=3->∀{d}{Q:V->H->Prop},Q (.str t.2.2.1) h->WC (d+n+1) 64 [t.2.1] h Q) (fun n x y l _ d Q q=>by
  refine aD eZ [.v (.tup [.str x,.str y]),.no] rfl rfl ?_
  dsimp only[gh_,eZ,iP,MR]
  refine ag (v:=.int 2) rfl ?_
  try dsimp only[gh_,ae]
  refine nq (fun _=>?_) fun z=>absurd rfl z
  try dsimp only[gh_,ae]
  refine ag (v:=.str y) rfl ?_
  try dsimp only[gh_,ae]
  exact ag (v:=.str y) rfl q)
 fun n cs l l3 a nl d Q q=>by
  have lm:(cs.map fun c=>c.2.2.1).length<=3:=WH (WO (WK _)) l3
  have sh:∀x∈[[101]]++cs.map (fun c=>c.2.2.1),Sh 46 x:=fun x m=>WH ((Xp.mp m).elim (fun e=>e▸WH (by decide:1<=2) (b0 n)) fun m=>(XN.mp m).elim fun c z=>z.2▸(Jx n c (a c z.1).1).1:Sh (tB n) x) (Ij n nl)
  refine aD eZ [.v (.tup (.str [101]::EC cs)),.no] rfl rfl ?_
  dsimp only[gh_,eZ,iP,Nj]
  refine ag (v:=.int (EC cs).length.succ) rfl ?_
  try dsimp only[gh_,ae]
  refine nq (fun z=>?_) fun _=>?_
  ·have e:=Nat.succ.inj (Zd.inj z)
   exact absurd l (by rw[<-WK (f:=fun c:Tt=>c.2.1),show(cs.map fun c=>c.2.1).length=1 from e];decide)
  try dsimp only[gh_,ae]
  refine ag (v:=.str [101]) rfl ?_
  try dsimp only[gh_,ae]
  refine lP (WH (Xi (WH (WO (WK _)) l3)) (by decide)) ?_
  refine bj (xs:=cs) (fun c=>c.2.1) (fun c=>.str c.2.2.1) rfl (WH l3 (by decide)) (fun c m P q=>?_) ?_
  ·try dsimp only[gh_,ae]
   exact(a c m).2 (Yk nl) q
  rw[show cs.map (fun c=>V.str c.2.2.1)=(cs.map fun c=>c.2.2.1).map .str from Yd.symm]
  try dsimp only[gh_,ae]
  refine ag (lW (f:=V.str) (xs:=[[101]]) (ys:=cs.map fun c:Tt=>c.2.2.1) (WH (Xi lm) (by decide))) ?_
  try dsimp only[gh_,ae]
  refine mh sh (Xi lm) rfl fun j=>?_
  try dsimp only[gh_,ae]
  refine cat (m:=1) (WQ _) j rfl fun b=>?_
  try dsimp only[gh_,ae]
  exact cat b (n:=1) (WQ _) rfl fun _=>Gh l▸q
end
section
variable{d:Nat}{Q:V->H->Prop}{K:List C}{sk:List V}{h h':H}{n k:Nat}{v:V}{x y s:List Nat}{us ys:List V}{t:T}{b:S}{c:Tt}{cs:List Tt}
noncomputable def Ja:S:=(.seq (.asg 2 (.sub (.list (.aa (.lit (.str [97])) (.aa (.lit (.str [43])) (.aa (.lit (.str [120,49])) .af)))) (.call 67 (.aa (.loc 0) (.aa (.lit (.int 3)) .af)))))
  (.ret (.aa (.new 10 (.aa (.new 0 (.aa (.sub (.list (.aa (.lit (.str [65])) (.aa (.lit (.str [97])) .af))) (.call 67 (.aa (.loc 0) (.aa (.lit (.int 2)) .af)))) (.aa (.loc 2) (.aa (.lit .none) .af)))) .af)) (.aa (.loc 2) .af))))
noncomputable def UX:List (List Nat):=[[97],[43],[120,49]]
noncomputable def VL:List (List Nat):=[[65],[97]]
theorem Jt:∀y∈UX,y.length<=2:=by decide
noncomputable def NF(n:Nat)(s:Sl×Sl×Sl):Env:=[.v (.ref 0),.v (.int n),s.1,s.2.1,s.2.2,.no,.no,.no,.no,.no]
theorem uf{s:Sl×Sl×Sl}(P:gn h (k+2))(q:∀c h',Lb c->gn h' k->Q (.tup [c.1,.str c.2.2.1]) h'):KX (d+1) (.s Ja::K) sk (NF n s) h (Rt Q):=by
 dsimp only[gh_,Ja,NF]
 refine draw (many:=3) (by decide) (by decide) P fun m h1 hm P1 _=>?_
 try dsimp only[gh_,ae]
 refine ag (pick (xs:=UX) hm) ?_
 try dsimp only[gh_,ae]
 refine draw (many:=2) (by decide) (by decide) P1 fun l h2 hl P2 _=>?_
 try dsimp only[gh_,ae]
 refine ag (pick (xs:=VL) hl) ?_
 try dsimp only[gh_,ae]
 refine fg rfl (BH ?_)
 try dsimp only[gh_,ae]
 refine fg rfl (ze ?_)
 try dsimp only[gh_,ae]
 exact q (MR _ _) h2 ⟨_,_,Jt _ (Yh hm),rfl⟩ P2
noncomputable def dB:Nat->Nat:=Nat.rec 2 fun _ b=>b*3+3
noncomputable def MK(c:Tt):V:=.tup [c.1,.str c.2.2.1]
theorem BJ:∀n,n<=3->∀{d k:Nat}{h:H}{Q:V->H->Prop},gn h (k+dB n)->(∀c h',kU n c->gn h' k->Q (MK c) h')->WC (d+n+2) 73 [.ref 0,.int n] h Q:=fun n=>by
 induction n with
 |zero=>
  intro _ d k h Q P q
  refine aD eW (NF 0 (.no,.no,.no)) rfl rfl ?_
  dsimp only[eW,jo,ym,My]
  show KX _ (.e (.or _ _)::_) _ _ _ _
  dsimp only[QE,OO]
  exact uf P fun c h' o P=>q c h' o P
 |succ n ih=>
  intro l3 d k h Q P q
  have P:gn h (k+(dB n*3+1)+2):=P
  refine aD eW (NF (n+1) (.no,.no,.no)) rfl rfl ?_
  dsimp only[gh_,eW,jo,NF]
  refine Qr (fun z=>absurd (Zd.inj z) (YQ n)) fun _=>?_
  try dsimp only[gh_,ae]
  refine draw (many:=3) (by decide) (by decide) P fun m h1 hm P1 _=>?_
  try dsimp only[gh_,ae]
  refine dm (fun _=>uf (n:=n+1) (s:=(.no,.no,.no)) (k:=k) (P1.le ?_) fun c h' o P=>q c h' (.inl o) P) fun _=>?_
  ·exact Xw (Xf (YK 1 (dB n*3)) k) 1
  try dsimp only[gh_,ae]
  refine draw (many:=2) (by decide) (by decide) (P1:gn h1 (k+(dB n*3+1)+1)) fun m h2 hm P2 _=>?_
  try dsimp only[gh_,ae]
  refine ag (fq (n:=2+m) (cX (WU _) (Yb (XX.mpr (Xf (Xl hm) 2)) (by decide)))) ?_
  have l2:2+m<=3:=Xf (XY hm) 2
  refine jD _ (fun ys zs us h=>∃cs:List Tt,us=cs.map MK/\cs.length=ys.length/\(∀c∈cs,kU n c)/\gn h (va (dB n) k zs)) cZ (WH (WO Xb) (WH l2 (by decide))) ⟨[],rfl,rfl,nofun,P2.le ?_⟩ (fun ys x zs us h P e p I=>?_) fun us h l I=>?_
  ·rw[fV,Xb];exact Xf (WH (XW _ l2) (Yj _)) k
  ·refine I.elim fun cs c=>?_
   try dsimp only[gh_,ae]
   rw[show((n+1:Nat):Int)-1=n from YS n 1]
   exact ih (Yk l3) c.2.2.2 fun t h' o P=>p _ _ ⟨cs++[t],(congrArg (· ++[MK t]) c.1).trans aS,kK c.2.1,aU c.2.2.1 o,P⟩
  ·refine I.elim fun cs c=>?_
   have lc:cs.length=2+m:=c.2.1.trans Xb
   have l3':cs.length<=3:=lc▸l2
   have lm:(cs.map fun c=>c.2.2.1).length<=3:=WH (WO (WK _)) l3'
   have sh:∀x∈cs.map (fun c=>c.2.2.1),Sh 46 x:=fun x m=>WH ((XN.mp m).elim fun c' z=>z.2▸(Jx n c' (c.2.2.1 c' z.1)).1:Sh (tB n) x) (Ij n l3)
   rw[c.1]
   try dsimp only[gh_,ae]
   refine bj (xs:=cs) MK (fun c=>c.1) rfl (WH l3' (by decide)) (fun c m P q=>q) ?_
   try dsimp only[gh_,ae]
   refine fg rfl (zT (WH (WO (WK _)) (WH l3' (by decide))) ?_)
   try dsimp only[gh_,ae]
   refine bj (xs:=cs) MK (fun c=>.str c.2.2.1) rfl (WH l3' (by decide)) (fun c m P q=>q) ?_
   rw[show cs.map (fun c=>V.str c.2.2.1)=(cs.map fun c=>c.2.2.1).map .str from Yd.symm]
   try dsimp only[gh_,ae]
   refine mh sh lm rfl fun j=>?_
   try dsimp only[gh_,ae]
   refine cat (m:=3) (WQ _) j rfl fun b=>?_
   try dsimp only[gh_,ae]
   refine cat b (n:=1) (WQ _) rfl fun _=>?_
   exact q (Nj cs) h (.inr ⟨cs,⟨lc▸WZ 2 m,l3'⟩,c.2.2.1,rfl⟩) c.2.2.2
end
section
noncomputable def Su(c:Env->H->(V->H->Bool)->Bool)(b:Env->H->(Env->H->Bool)->(V->Env->H->Bool)->Bool)(kn:Env->H->Bool)(kr:V->Env->H->Bool):Nat->Env->H->Bool:=Nat.rec (fun _ _=>false) fun _ r ρ h=>c ρ h fun v h=>gk false v (b ρ h r kr) (kn ρ h)
noncomputable def mG:Nat->M Bool:=Nat.rec ⟨false,fun _ _ _ _=>false,fun _ _ _ _ _=>false,fun _ _ _ _ _ _=>false⟩ fun _ m=>⟨false,
 fun f vs h k=>match mp.fn f with|some F=>(match iI F vs with|some ρ=>Eg mp m F ρ h k|none=>false)|none=>false,
 fun f c vs h k=>match mp.fn f with|some F=>(match oy F c vs with|some ρ=>Bi mp m F ρ h k|none=>false)|none=>false,
 fun c b ρ h kn kr=>Su c b kn kr 200 ρ h⟩
noncomputable def mI:V:=.lst [.tup [.str [115],.lst [.str [115],.str [115]]],.tup [.str [115],.lst [.str [97]]]]
noncomputable def Ws(f:Nat)(n:Int):E:=.call f (.aa (.call 15 (.aa (.loc 7) .af)) (.aa (.lit (.int n)) .af))
noncomputable def SH(f:Nat)(n:Int)(t:V->Bool):Bool:=ev mp (mG 40) (Ws f n) (st (XA 9 .no) 7 (.v mI)) .nil fun v _=>t v
noncomputable def xB(s:List Nat)(v:V):Bool:=match v with|.str u=>decide (u=s)|_=>false
noncomputable def Rc:List Nat:=[97,32,97,32,97,10,32,32,32,32,40,115,32,40,115,32,97,41,32,40,115,32,40,115,32,97,41,32,40,115,32,97,41,41,41,10,32,32,32,32,40,115,32,40,115,32,40,115,32,97,41,32,40,115,32,97,41,41,32,40,115,32,97,41,41]
theorem Uv:SH 65 3 (xB Rc)=true:=by decide+kernel
theorem Wn:SH 65 2 (xB [])=true:=by decide+kernel
noncomputable def rE(v:V):Bool:=nj 20 v&&(match v with|.tup (.tup [_,_,_]::_)=>true|_=>false)
theorem Wl:SH 63 3 rE=true:=by decide+kernel
end
section
noncomputable abbrev KM(k:V->H->Bool)(k':V->H->Prop):Prop:=∀v h,k v h=true->k' v h
noncomputable abbrev EM(k:Env->H->Bool)(k':Env->H->Prop):Prop:=∀ρ h,k ρ h=true->k' ρ h
noncomputable abbrev RM(k:V->Env->H->Bool)(k':V->Env->H->Prop):Prop:=∀v ρ h,k v ρ h=true->k' v ρ h
structure Mo(m:M Bool)(n:M Prop):Prop where
 ff:m.ff=false
 call:∀f vs h k k',KM k k'->m.call f vs h k=true->n.call f vs h k'
 init:∀f c vs h (k:O->H->Bool) (k':O->H->Prop),(∀o h,k o h=true->k' o h)->m.init f c vs h k=true->n.init f c vs h k'
 wh:∀c c' b b',(∀ρ h k k',KM k k'->c ρ h k=true->c' ρ h k')->(∀ρ h kn kn' kr kr',EM kn kn'->RM kr kr'->b ρ h kn kr=true->b' ρ h kn' kr')->∀ρ h kn kn' kr kr',EM kn kn'->RM kr kr'->m.wh c b ρ h kn kr=true->n.wh c' b' ρ h kn' kr'
section
variable{m:M Bool}{n:M Prop}{α:Type}{v w:V}{vs:List V}{h:H}{ρ:Env}{t:T}{k:V->H->Bool}{k':V->H->Prop}
theorem Mo.x(mo:Mo m n){p:Prop}(e:m.ff=true):p:=nomatch mo.ff.symm.trans e
@[elab_as_elim] theorem oE{α:Type}{C:Option α->Prop}(r:Option α)(b:C none)(a:∀v,C (some v)):C r:=by
 cases r with
 |none=>exact b
 |some v=>exact a v
@[elab_as_elim] theorem Ly{C:Bool->Prop}(r:Bool)(b:C false)(a:C true):C r:=by
 cases r with
 |false=>exact b
 |true=>exact a
theorem Mo.o1(mo:Mo m n){r:Option V}{k:V->Bool}{k':V->Prop}(a:∀v,k v=true->k' v):fJ m.ff r k=true->fJ n.ff r k':=by
 cases r with
 |none=>exact mo.x
 |some v=>exact a v
theorem Mo.mc(mo:Mo m n){r:Option (Option Nat)}{k:Option Nat->Bool}{k':Option Nat->Prop}(a:∀v,k v=true->k' v):MQ m r k=true->MQ n r k':=by
 cases r with
 |none=>exact mo.x
 |some v=>exact a v
theorem Mo.sz(mo:Mo m n){a:Bool}{a':Prop}(x:a=true->a'):wI m.ff vs a=true->wI n.ff vs a':=by
 unfold wI
 exact Ly (decide (vs.length<=SZ)) mo.x x
theorem Mo.tk(mo:Mo m n){k:List Int->Bool}{k':List Int->Prop}(a:∀v,k v=true->k' v):tupK m.ff v k=true->tupK n.ff v k':=by
 cases v with
 |tup us=>
  dsimp only[Mine.tupK]
  exact oE (ints? us) mo.x a
 |_=>exact mo.x
theorem Mo.iO(mo:Mo m n){k:List V->Bool}{k':List V->Prop}(a:∀v,k v=true->k' v):iO m.ff v k=true->Mine.iO n.ff v k':=by
 cases v with
 |tup vs=>exact a vs
 |_=>exact mo.x
theorem Mo.dy(mo:Mo m n){s:Sl}{k:O->Bool}{k':O->Prop}(a:∀v,k v=true->k' v):dy m.ff s k=true->Mine.dy n.ff s k':=by
 cases s with
 |o o=>exact a o
 |_=>exact mo.x
theorem Mo.gk(mo:Mo m n){a b:Bool}{a' b':Prop}(x:a=true->a')(y:b=true->b'):gk m.ff v a b=true->Mine.gk n.ff v a' b':=by
 unfold Mine.gk
 cases truth v with
 |none=>exact mo.x
 |some c=>cases c with
  |true=>exact x
  |false=>exact y
theorem Mo.comp(mo:Mo m n){el:Env->H->(Option α->H->Bool)->Bool}{el':Env->H->(Option α->H->Prop)->Prop}(he:∀ρ h k k',(∀v h,k v h=true->k' v h)->el ρ h k=true->el' ρ h k'):∀vs h (k:List α->H->Bool) (k':List α->H->Prop),(∀v h,k v h=true->k' v h)->cJ m.ff t ρ el vs h k=true->cJ n.ff t ρ el' vs h k':=fun vs=>by
 induction vs with
 |nil=>exact fun h k k' a=>a [] h
 |cons v vs ih=>
  intro h k k' a
  show(match dF t v ρ with|some ρ'=>el ρ' h (fun x h=>cJ m.ff t ρ el vs h fun xs h=>k (match x with|some x=>x::xs|.none=>xs) h)|.none=>m.ff)=true->(match dF t v ρ with|some ρ'=>el' ρ' h (fun x h=>cJ n.ff t ρ el' vs h fun xs h=>k' (match x with|some x=>x::xs|.none=>xs) h)|.none=>n.ff)
  exact oE (dF t v ρ) mo.x fun ρ'=>he _ _ _ _ fun x h=>ih _ _ _ fun xs h=>a _ h
theorem Mo.loop(mo:Mo m n){b:Env->H->(Env->H->Bool)->Bool}{b':Env->H->(Env->H->Prop)->Prop}{kn:Env->H->Bool}{kn':Env->H->Prop}(hb:∀ρ h k k',EM k k'->b ρ h k=true->b' ρ h k')(a:EM kn kn'):∀vs ρ h,forL m.ff t b kn vs ρ h=true->forL n.ff t b' kn' vs ρ h:=fun vs=>by
 induction vs with
 |nil=>exact a
 |cons v vs ih=>
  intro ρ h
  show(match dF t v ρ with|some ρ'=>b ρ' h (forL m.ff t b kn vs)|.none=>m.ff)=true->(match dF t v ρ with|some ρ'=>b' ρ' h (forL n.ff t b' kn' vs)|.none=>n.ff)
  exact oE (dF t v ρ) mo.x fun ρ'=>hb _ _ _ _ ih
theorem Mo.nB(mo:Mo m n){f:Nat}(a:KM k k'):nB m v f vs h k=true->Mine.nB n v f vs h k':=by
 cases v with
 |ref b=>
  dsimp only[Mine.nB]
  cases h.get b with
  |none=>exact mo.x
  |some o=>
   dsimp only
   exact oE (dh o f vs) (mo.o1 fun v=>a v h) fun r=>a _ _
 |_=>
  dsimp only[Mine.nB]
  exact mo.o1 fun v=>a v h
theorem Mo.pA(mo:Mo m n){f:Nat}{g:Option Nat}(a:KM k k'):pA m v f g vs h k=true->Mine.pA n v f g vs h k':=by
 cases g with
 |none=>exact mo.nB a
 |some g=>exact mo.call _ _ _ _ _ a
theorem cs{e:E}(ie:∀ρ h k k',KM k k'->ev mp m e ρ h k=true->ev mp n e ρ h k'):∀ρ h (k:Option V->H->Bool) (k':Option V->H->Prop),(∀v h,k v h=true->k' v h)->(ev mp m e ρ h fun v h=>k (some v) h)=true->ev mp n e ρ h fun v h=>k' (some v) h:=fun ρ h k k' b=>ie _ _ _ _ fun v h=>b _ h
theorem Mo.ci(mo:Mo m n){c:E}{f:Env->H->(Option α->H->Bool)->Bool}{f':Env->H->(Option α->H->Prop)->Prop}(ic:∀ρ h k k',KM k k'->Mine.ev mp m c ρ h k=true->Mine.ev mp n c ρ h k')(ie:∀ρ h k k',(∀v h,k v h=true->k' v h)->f ρ h k=true->f' ρ h k'):∀ρ h (k:Option α->H->Bool) (k':Option α->H->Prop),(∀v h,k v h=true->k' v h)->(Mine.ev mp m c ρ h fun b h=>Mine.gk m.ff b (f ρ h k) (k .none h))=true->Mine.ev mp n c ρ h fun b h=>Mine.gk n.ff b (f' ρ h k') (k' .none h):=fun ρ h k k' b=>ic _ _ _ _ fun u h=>mo.gk (ie _ _ _ _ b) (b _ h)
theorem Mo.ev(mo:Mo m n)(e:E):∀ρ h k k',KM k k'->ev mp m e ρ h k=true->Mine.ev mp n e ρ h k':=by
 induction e with
 |lit v=>exact fun ρ h k k' a=>a v h
 |loc i=>
  exact fun ρ h k k' a=>by
   show(match gt ρ i with|.v v=>k v h|_=>m.ff)=true->(match gt ρ i with|.v v=>k' v h|_=>n.ff)
   cases gt ρ i with
   |v v=>exact a v h
   |_=>exact mo.x
 |glob i v=>exact fun ρ h k k' a=>a v h
 |af=>exact fun ρ h k k' a=>a _ h
 |aa x y ix iy=>exact fun ρ h k k' a=>ix _ _ _ _ fun v h=>iy _ _ _ _ fun w h=>mo.iO fun vs=>a _ h
 |list x ix=>exact fun ρ h k k' a=>ix _ _ _ _ fun w h=>mo.iO fun vs=>mo.o1 fun v=>a v h
 |bN=>exact fun ρ h k k' a=>a _ h
 |iD x y ix iy=>exact fun ρ h k k' a=>ix _ _ _ _ fun v h=>iy _ _ _ _ fun w h=>oE v.key? mo.x fun q=>a _ h
 |aM el t it ie ii=>exact fun ρ h k k' a=>ii _ _ _ _ fun v h=>oE (bZ v) mo.x fun vs=>mo.sz (mo.comp (cs ie) vs h _ _ fun xs h=>a _ h)
 |je el t i ie=>
  exact fun ρ h k k' a=>mo.dy fun o=>by
   cases o with
   |list vs=>exact mo.comp (cs ie) vs h _ _ fun xs h=>a _ h
   |_=>exact mo.x
 |bQ el t it c ie ii ic=>exact fun ρ h k k' a=>ii _ _ _ _ fun v h=>oE (bZ v) mo.x fun vs=>mo.sz (mo.comp (mo.ci ic (cs ie)) vs h _ _ fun xs h=>a _ h)
 |kY x y t it c ix iy ii ic=>
  exact fun ρ h k k' a=>ii _ _ _ _ fun v h=>oE (bZ v) mo.x fun vs=>mo.sz (mo.comp (mo.ci ic fun ρ h k k' b=>ix ρ h _ _ fun v h=>iy ρ h _ _ fun w h=>mo.tk (v:=v) fun q=>b (some (q,w)) h) vs h _ _ fun xs h=>a _ h)
 |cell e ie=>
  exact fun ρ h k k' a=>ie _ _ _ _ fun v h=>by
   cases v with
   |lst vs=>exact a _ _
   |bL ks vs=>exact a _ _
   |obj c fs vs=>exact a _ _
   |_=>exact mo.x
 |bP e ie=>exact fun ρ h k k' a=>ie _ _ _ _ fun v h=>oE (bP 8 v h) mo.x fun r=>a _ _
 |attr e f ie=>
  exact fun ρ h k k' a=>ie _ _ _ _ fun v h=>by
   show(match rd v h with|some (.inst _ fs vs)=>fJ m.ff (ae f fs vs) (k · h)|_=>m.ff)=true->(match rd v h with|some (.inst _ fs vs)=>fJ n.ff (ae f fs vs) (k' · h)|_=>n.ff)
   cases rd v h with
   |none=>exact mo.x
   |some o=>cases o with
    |inst c fs vs=>exact mo.o1 fun v=>a v h
    |_=>exact mo.x
 |gH f=>
  exact fun ρ h k k' a=>mo.dy fun o=>by
   cases o with
   |inst c fs vs=>exact mo.o1 fun v=>a v h
   |_=>exact mo.x
 |aq e f b ie ib=>exact fun ρ h k k' a=>ie _ _ _ _ fun v h=>mo.mc fun g=>ib _ _ _ _ fun w h=>mo.iO fun vs=>mo.pA a
 |call f b ib=>exact fun ρ h k k' a=>ib _ _ _ _ fun w h=>mo.iO fun vs=>mo.call _ _ _ _ _ a
 |new c b ib=>exact fun ρ h k k' a=>ib _ _ _ _ fun w h=>mo.iO fun vs=>oE (mp.init c) mo.x fun f=>mo.init _ _ _ _ _ _ fun o h=>a _ h
 |qr c b ib=>
  exact fun ρ h k k' a=>ib _ _ _ _ fun w h=>mo.iO fun vs=>oE (mp.init c) mo.x fun f=>mo.call _ _ _ _ _ fun v h=>by
   cases v with
   |none=>exact a _ h
   |_=>exact mo.x
 |bi b e ie=>exact fun ρ h k k' a=>ie _ _ _ _ fun w h=>mo.iO fun vs=>mo.o1 fun v=>a v h
 |cM i=>exact fun ρ h k k' a=>mo.dy fun o=>oE (cM o) mo.x fun n=>a _ h
 |isStr e ie=>
  exact fun ρ h k k' a=>ie _ _ _ _ fun v h=>by
   cases v with
   |str s=>exact a _ h
   |tup vs=>exact a _ h
   |_=>exact mo.x
 |dK e ie=>
  exact fun ρ h k k' a=>ie _ _ _ _ fun v h=>by
   cases v with
   |lst vs=>exact a _ h
   |_=>exact mo.x
 |bin op x y ix iy=>exact fun ρ h k k' a=>ix _ _ _ _ fun v h=>iy _ _ _ _ fun w h=>mo.o1 fun v=>a v h
 |neg e ie=>
  exact fun ρ h k k' a=>ie _ _ _ _ fun v h=>by
   cases v with
   |int i=>exact a _ h
   |_=>exact mo.x
 |not e ie=>exact fun ρ h k k' a=>ie _ _ _ _ fun v h=>oE (truth v) mo.x fun b=>a _ h
 |and x y ix iy=>exact fun ρ h k k' a=>ix _ _ _ _ fun v h=>mo.gk (iy _ _ _ _ a) (a v h)
 |or x y ix iy=>exact fun ρ h k k' a=>ix _ _ _ _ fun v h=>mo.gk (a v h) (iy _ _ _ _ a)
 |cmp op x y ix iy=>exact fun ρ h k k' a=>ix _ _ _ _ fun v h=>iy _ _ _ _ fun w h=>oE (zH op v w h) mo.x fun b=>a _ h
 |bX ng x i ix=>exact fun ρ h k k' a=>ix _ _ _ _ fun v h=>mo.dy fun o=>oE (bX v o) mo.x fun b=>a _ h
 |zV i=>
  exact fun ρ h k k' a=>mo.dy fun o=>by
   cases o with
   |list vs=>exact a _ h
   |_=>exact mo.x
 |Ju i=>
  exact fun ρ h k k' a=>mo.dy fun o=>by
   cases o with
   |list vs=>exact a _ h
   |_=>exact mo.x
 |ite c x y ic ix iy=>exact fun ρ h k k' a=>ic _ _ _ _ fun v h=>mo.gk (ix _ _ _ _ a) (iy _ _ _ _ a)
 |sub x y ix iy=>exact fun ρ h k k' a=>ix _ _ _ _ fun v h=>iy _ _ _ _ fun w h=>mo.o1 fun v=>a v h
 |aH i x ix=>exact fun ρ h k k' a=>mo.dy fun _=>ix _ _ _ _ fun v h=>mo.dy fun o=>mo.o1 fun v=>a v h
 |vM i x ix=>exact fun ρ h k k' a=>mo.dy fun o=>Ly (wb o 5) mo.x (ix _ _ _ _ fun w h=>mo.iO fun vs=>mo.dy fun o=>mo.o1 fun v=>a v h)
 |dY x y ix iy=>
  exact fun ρ h k k' a=>ix _ _ _ _ fun v h=>iy _ _ _ _ fun w h=>by
   cases w with
   |int i=>dsimp only;exact Ly (decide (0<=i)&&decide (i.toNat<=SZ)) mo.x (mo.o1 fun v=>a v h)
   |_=>exact mo.x
 |aW x y ix iy=>
  exact fun ρ h k k' a=>ix _ _ _ _ fun v h=>iy _ _ _ _ fun w h=>by
   cases w with
   |int i=>dsimp only;exact Ly (decide (0<=i)&&decide (i.toNat<=SZ)) mo.x (mo.o1 fun v=>a v h)
   |_=>exact mo.x
 |fR e ie=>
  exact fun ρ h k k' a=>ie _ _ _ _ fun v h=>by
   cases v with
   |lst vs=>exact mo.o1 fun v=>a v h
   |_=>exact mo.x
 |iso i e ie=>
  exact fun ρ h k k' a=>by
   show(match gt ρ i with|.v u=>(match nj 20 u with|true=>Mine.ev mp m e (st (XA ρ.length .no) i (.v u)) H.nil fun v _=>(match nj 20 v with|true=>k v h|false=>m.ff)|false=>m.ff)|_=>m.ff)=true->(match gt ρ i with|.v u=>(match nj 20 u with|true=>Mine.ev mp n e (st (XA ρ.length .no) i (.v u)) H.nil fun v _=>(match nj 20 v with|true=>k' v h|false=>n.ff)|false=>n.ff)|_=>n.ff)
   cases gt ρ i with
   |v u=>
    dsimp only
    refine Ly (nj 20 u) mo.x (ie _ _ _ _ fun v h'=>?_)
    exact Ly (nj 20 v) mo.x (a v h)
   |_=>exact mo.x
theorem Mo.zW(mo:Mo m n){sl:Sl}{f:Nat}{a:Bool}{a':Prop}(x:a=true->a'):zW m sl f a=true->Mine.zW n sl f a':=mo.dy fun o=>Ly (wb o f) mo.x x
theorem Mo.ex(mo:Mo m n)(s:S):∀ρ h kn kn' kc kc' kr kr',EM kn kn'->EM kc kc'->RM kr kr'->ex mp m s ρ h kn kc kr=true->Mine.ex mp n s ρ h kn' kc' kr':=by
 induction s with
 |skip=>exact fun ρ h kn kn' kc kc' kr kr' a b c=>a ρ h
 |seq x y ix iy=>exact fun ρ h kn kn' kc kc' kr kr' a b c=>ix _ _ _ _ _ _ _ _ (fun ρ h=>iy _ _ _ _ _ _ _ _ a b c) b c
 |asg i e=>exact fun ρ h kn kn' kc kc' kr kr' a b c=>mo.ev e _ _ _ _ fun v h=>a _ h
 |aY i e=>exact fun ρ h kn kn' kc kc' kr kr' a b c=>mo.ev e _ _ _ _ fun v h=>oE (own v) mo.x fun o=>a _ h
 |md is e=>
  exact fun ρ h kn kn' kc kc' kr kr' a b c=>mo.ev e _ _ _ _ fun v h=>by
   cases v with
   |tup vs=>dsimp only;exact oE (cu is vs ρ) mo.x fun ρ=>a ρ h
   |lst vs=>dsimp only;exact oE (cu is vs ρ) mo.x fun ρ=>a ρ h
   |_=>exact mo.x
 |eT o f e=>
  exact fun ρ h kn kn' kc kc' kr kr' a b c=>mo.ev e _ _ _ _ fun v h=>mo.ev o _ _ _ _ fun w h=>by
   cases w with
   |ref x=>dsimp only;exact oE ((h.get x).bind (jR mp.ok · f v)) mo.x fun o=>a ρ _
   |_=>exact mo.x
 |aB f e=>exact fun ρ h kn kn' kc kc' kr kr' a b c=>mo.ev e _ _ _ _ fun v h=>mo.dy fun o=>oE (jR mp.ok o f v) mo.x fun o=>a _ h
 |eS o i e=>
  exact fun ρ h kn kn' kc kc' kr kr' a b c=>mo.ev e _ _ _ _ fun v h=>mo.ev o _ _ _ _ fun w h=>mo.ev i _ _ _ _ fun j h=>by
   cases w with
   |ref x=>dsimp only;exact oE ((h.get x).bind (fN · j v)) mo.x fun o=>a ρ _
   |_=>exact mo.x
 |aP i j e=>exact fun ρ h kn kn' kc kc' kr kr' a b c=>mo.ev e _ _ _ _ fun v h=>mo.dy fun _=>mo.ev j _ _ _ _ fun w h=>mo.dy fun o=>oE (fN o w v) mo.x fun o=>a _ h
 |ex e=>exact fun ρ h kn kn' kc kc' kr kr' a b c=>mo.ev e _ _ _ _ fun _ h=>a ρ h
 |mO i f e=>exact fun ρ h kn kn' kc kc' kr kr' a b c=>mo.zW (mo.ev e _ _ _ _ fun w h=>mo.iO fun vs=>mo.dy fun o=>oE (dh o f vs) mo.x fun r=>a _ h)
 |iY j i f e=>exact fun ρ h kn kn' kc kc' kr kr' a b c=>mo.zW (mo.ev e _ _ _ _ fun w h=>mo.iO fun vs=>mo.dy fun o=>oE (dh o f vs) mo.x fun r=>a _ h)
 |ite e x y ix iy=>exact fun ρ h kn kn' kc kc' kr kr' a b c=>mo.ev e _ _ _ _ fun v h=>mo.gk (ix _ _ _ _ _ _ _ _ a b c) (iy _ _ _ _ _ _ _ _ a b c)
 |loop t e x ix=>exact fun ρ h kn kn' kc kc' kr kr' a b c=>mo.ev e _ _ _ _ fun v h=>oE (bZ v) mo.x fun vs=>mo.loop (fun ρ h k k' a=>ix ρ h k k' k k' kr kr' a a c) a vs ρ h
 |dd e x ix=>exact fun ρ h kn kn' kc kc' kr kr' a b c=>mo.wh _ _ _ _ (mo.ev e) (fun ρ h k k' r r' a c=>ix ρ h k k' k k' r r' a a c) _ _ _ _ _ _ a c
 |ret e=>exact fun ρ h kn kn' kc kc' kr kr' a b c=>mo.ev e _ _ _ _ fun v h=>c v ρ h
 |cont=>exact fun ρ h kn kn' kc kc' kr kr' a b c=>b ρ h
 |stop=>exact fun ρ h kn kn' kc kc' kr kr' a b c=>mo.x
 |fz i=>
  exact fun ρ h kn kn' kc kc' kr kr' a b c=>by
   show(match gt ρ i with|.o o=>kn (st ρ i (.v o.v)) h|_=>m.ff)=true->(match gt ρ i with|.o o=>kn' (st ρ i (.v o.v)) h|_=>n.ff)
   cases gt ρ i with
   |o o=>exact a _ h
   |_=>exact mo.x
 |Bj i=>
  exact fun ρ h kn kn' kc kc' kr kr' a b c=>by
   show(match gt ρ i with|.o o=>(match bP 8 o.v h with|some r=>kn (st ρ i (.v r.1)) r.2|.none=>m.ff)|.v v=>(match bP 8 v h with|some r=>kn (st ρ i (.v r.1)) r.2|.none=>m.ff)|.no=>m.ff)=true->(match gt ρ i with|.o o=>(match bP 8 o.v h with|some r=>kn' (st ρ i (.v r.1)) r.2|.none=>n.ff)|.v v=>(match bP 8 v h with|some r=>kn' (st ρ i (.v r.1)) r.2|.none=>n.ff)|.no=>n.ff)
   cases gt ρ i with
   |o o=>dsimp only;exact oE (bP 8 o.v h) mo.x fun r=>a _ _
   |v v=>dsimp only;exact oE (bP 8 v h) mo.x fun r=>a _ _
   |no=>exact mo.x
 |uZ e f=>
  exact fun ρ h kn kn' kc kc' kr kr' a b c=>mo.ev e _ _ _ _ fun w h=>by
   cases w with
   |ref x=>
    dsimp only
    cases h.get x with
    |none=>exact mo.x
    |some o=>cases o with
     |inst c' fs vs=>
      dsimp only
      cases ae f fs vs with
      |none=>exact mo.x
      |some v=>
       dsimp only
       cases bP 8 v h with
       |none=>exact mo.x
       |some r=>dsimp only;exact oE (r.2.get x) mo.x fun _=>a _ _
     |_=>exact mo.x
   |_=>exact mo.x
end
theorem RZ{c c' b b'}{kn kn' kr kr'}(hc:∀ρ h k k',KM k k'->c ρ h k=true->c' ρ h k')(hb:∀ρ h kn kn' kr kr',EM kn kn'->RM kr kr'->b ρ h kn kr=true->b' ρ h kn' kr')(a:EM kn kn')(r:RM kr kr')(N:Nat)(ρ:Env)(h:H)(e:Su c b kn kr N ρ h=true):PA c' b' ρ h kn' kr':=by
 have B:∀{v:V}{a b:Bool}{a' b':Prop},(a=true->a')->(b=true->b')->gk false v a b=true->gk False v a' b':=fun{v} {a b} {a' b'} x y=>by
  unfold gk
  cases truth v with
  |none=>exact nofun
  |some c=>cases c with
   |true=>exact x
   |false=>exact y
 refine⟨fun m ρ h=>Su c b kn kr m ρ h=true,⟨N,e⟩,fun m ρ h e=>?_⟩
 cases m with
 |zero=>exact nomatch e
 |succ m=>exact hc _ _ _ _ (fun v h=>B (hb _ _ _ _ _ _ (fun ρ h e=>⟨m,Xk m,e⟩) r) (a ρ h)) e
theorem Sk(d:Nat):Mo (mG d) (mP d):=by
 induction d with
 |zero=>exact⟨rfl,(fun _ _ _ _ _ _ e=>nomatch e),(fun _ _ _ _ _ _ _ e=>nomatch e),(fun _ _ _ _ _ _ _ _ _ _ _ _ _ _ e=>nomatch e)⟩
 |succ d ih=>
  refine⟨rfl,fun f vs h k k' a e=>?_,fun f c vs h k k' a e=>?_,fun c c' b b' hc hb ρ h kn kn' kr kr' a r e=>RZ hc hb a r 200 ρ h e⟩
  ·have e:(match mp.fn f with|some F=>(match iI F vs with|some ρ=>Eg mp (mG d) F ρ h k|none=>false)|none=>false)=true:=e
   cases e1:mp.fn f with
   |none=>rw[e1]at e;exact nomatch e
   |some F=>
    rw[e1]at e
    have e:(match iI F vs with|some ρ=>Eg mp (mG d) F ρ h k|none=>false)=true:=e
    cases e2:iI F vs with
    |none=>rw[e2]at e;exact nomatch e
    |some ρ=>
     rw[e2]at e
     exact⟨F,ρ,e1,e2,ih.ex F.body ρ h _ _ _ _ _ _ (fun _ h=>a .none h) (fun _ _ e=>ih.x e) (fun v _ h=>a v h) e⟩
  ·have e:(match mp.fn f with|some F=>(match oy F c vs with|some ρ=>Bi mp (mG d) F ρ h k|none=>false)|none=>false)=true:=e
   cases e1:mp.fn f with
   |none=>rw[e1]at e;exact nomatch e
   |some F=>
    rw[e1]at e
    have e:(match oy F c vs with|some ρ=>Bi mp (mG d) F ρ h k|none=>false)=true:=e
    cases e2:oy F c vs with
    |none=>rw[e2]at e;exact nomatch e
    |some ρ=>
     rw[e2]at e
     exact⟨F,ρ,e1,e2,ih.ex F.body ρ h _ _ _ _ _ _ (fun ρ h=>ih.dy fun o=>a o h) (fun _ _ e=>ih.x e) (fun _ _ _ e=>ih.x e) e⟩
end
section
variable{d:Nat}{ρ:Env}{Q:V->H->Prop}{K:List C}{sk:List V}{QX:Qs}{h h':H}{k i:Nat}{u v:V}{s x:List Nat}{e:E}{t:V->Bool}{c:Tt}
theorem CV(r:ev mp (mG d) e (st (XA ρ.length .no) i (.v u)) .nil (fun v _=>t v)=true)(eu:gt ρ i=.v u)(nu:nj 20 u=true)(q:∀v,t v=true->nj 20 v=true/\KX d K (v::sk) ρ h QX):KX d (.e (.iso i e)::K) sk ρ h QX:=by
 show match gt ρ i with|.v u=>(match nj 20 u with|true=>ev mp (mP d) e (st (XA ρ.length .no) i (.v u)) H.nil fun v _=>(match nj 20 v with|true=>KX d K (v::sk) ρ h QX|false=>False)|false=>False)|_=>False
 rw[eu]
 show match nj 20 u with|true=>ev mp (mP d) e (st (XA ρ.length .no) i (.v u)) H.nil fun v _=>(match nj 20 v with|true=>KX d K (v::sk) ρ h QX|false=>False)|false=>False
 rw[nu]
 refine(Sk d).ev e _ _ _ _ (fun v h' z=>?_) r
 have c:=q v z
 show match nj 20 v with|true=>_|false=>False
 rw[c.1];exact c.2
theorem str_inv(e:xB s v=true):v=.str s:=by
 cases v with
 |str u=>exact congrArg V.str (of_decide_eq_true e)
 |_=>exact nomatch e
theorem AZ(r:ev mp (mG d) e (st (XA ρ.length .no) i (.v u)) .nil (fun v _=>xB s v)=true)(eu:gt ρ i=.v u)(nu:nj 20 u=true)(q:KX d K (.str s::sk) ρ h QX):KX d (.e (.iso i e)::K) sk ρ h QX:=CV r eu nu fun v z=>by
 rw[str_inv z];exact⟨rfl,q⟩
theorem zS(e:rE v=true):nj 20 v=true/\∃a b c r,v=.tup (.tup [a,b,c]::r):=by
 have e:=Bool.and_eq_true_iff.mp e
 refine⟨e.1,?_⟩
 have e:=e.2
 revert e
 split
 ·exact fun _=>⟨_,_,_,_,rfl⟩
 ·exact nofun
theorem ne_str{x y:List Nat}{b:Bool}(e:decide (x=y)=!b):zH .ne (.str x) (.str y) h=some b:=(congrArg (fun z=>some (!z)) e).trans (congrArg some (Bool.not_not b))
theorem Eh{is:List Int}(z:is.length<=SZ)(q:KX d K (.lst ((is.take 24).map V.int)::sk) ρ h QX):KX d (.dY::K) (.int 24::.uH is::sk) ρ h QX:=ag (k:=fun v=>KX d K (v::sk) ρ h QX) (r:=Mine.dY (.uH is) 24) (bu z) q
theorem Ph:∀c,Tk c->iN mp c.1 80 h=some (some 53):=sS (fun _ _=>rfl) fun _ _=>rfl
theorem FC{ns:List Int}(l:ns.length<=63)(q:∀h,gn h 1000000000->Q (.ref 0) h):WC (d+1) 66 [.uH ns] H.nil Q:=by
 have l2:((ns.take 24).map V.int).length<=63:=WH (WO (WK _)) (WH (aaM 24 ns) l)
 refine aD kq [.v (.uH ns)] rfl rfl ?_
 dsimp only[gh_,kq,oM]
 refine Eh (WH l (by decide)) ?_
 try dsimp only[gh_,ae]
 refine ag (bu (WH l2 (by decide))) ?_
 try dsimp only[gh_,ae]
 exact q _ ⟨ns.take 24,0,0,aL,aaO 0,by decide,aaO 0⟩
theorem Rb(ns:List Int)(l:ns.length<=63):WC 41 74 [.uH ns] H.nil fun v _=>v=.bool true:=by
 refine aD Ep [.v (.uH ns),.no,.no,.no,.no,.no,.no,.no,.no] rfl rfl ?_
 dsimp only[gh_,Ep,IE]
 refine FC (d:=39) l fun h1 pen=>?_
 try dsimp only[gh_,ae]
 refine pairs (d:=38) (k:=900000000) (pen.le (by decide)) fun D h2 pen=>?_
 try dsimp only[gh_,ae]
 refine plain (d:=38) D fun h3 G3=>?_
 have pen:=pen.ge G3
 try dsimp only[gh_,ae]
 refine build (d:=33) D.Ah fun L h4 Au G4=>?_
 have pen:=pen.ge G4
 try dsimp only[gh_,ae]
 refine tU (d:=37) (k:=700000000) Au (pen.le (by decide)) fun h5 pen=>?_
 try dsimp only[gh_,ae]
 refine sx (d:=35) (k:=500000000) Au (pen.le (by decide)) fun h6 pen=>?_
 try dsimp only[gh_,ae]
 refine BJ 3 (by decide) (d:=35) (k:=400000000) (pen.le (by decide)) fun c h7 o pen=>?_
 dsimp only[gh_,MK]
 refine oW (d:=37) (k:=0) (pen.le (by decide)) fun h8 _=>?_
 try dsimp only[gh_,ae]
 refine fQ (Ph c ⟨3,o⟩) ?_
 try dsimp only[gh_,ae]
 refine told (d:=38) o ?_
 try dsimp only[gh_,ae]
 refine zK 3 c o (by decide) (d:=36) ?_
 try dsimp only[gh_,ae]
 refine cN (b:=false) (ne_str (decide_eq_true rfl)) ?_
 try dsimp only[gh_,ae]
 have nt:nj 20 mI=true:=by decide
 refine AZ (s:=Rc) (u:=mI) Uv rfl nt ?_
 refine cN (b:=true) (ne_str (decide_eq_false (by decide))) ?_
 try dsimp only[gh_,ae]
 refine AZ (s:=Rc) (u:=mI) Uv rfl nt ?_
 refine cN (b:=false) (ne_str (decide_eq_true rfl)) ?_
 try dsimp only[gh_,ae]
 refine CV (t:=rE) (u:=mI) Wl rfl nt fun v z=>?_
 obtain⟨z,a,b,c,r,rfl⟩:=zS z
 refine⟨z,?_⟩
 try dsimp only[gh_,ae]
 refine ag (v:=.tup [a,b,c]) rfl ?_
 try dsimp only[gh_,ae]
 refine ag (v:=.int 3) rfl ?_
 try dsimp only[gh_,ae]
 refine nq (fun _=>?_) fun z=>absurd rfl z
 try dsimp only[gh_,ae]
 refine AZ (s:=[]) (u:=mI) Wn rfl nt ?_
 try dsimp only[gh_,ae]
 refine cN (b:=true) rfl ?_
 rfl
end
end Mine
theorem PySem.Challenge.cw_nn0415_01_holds : PySem.Challenge.rw_nn0415_01.Holds :=
  Mine.join Mine.Ox Mine.left Mine.Rb
