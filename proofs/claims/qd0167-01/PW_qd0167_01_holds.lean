import PyProof.Rows.All
import OpenK.KOwn
import OpenK.KList
import KE.KClos
import KE.KSuper
import KE.KNest
import Open.Head
import Wide.All
import OpenK.ZHead
import Open.Tops
import KE.KTypeName
import PyProof.RangeFor
import PyProof.DictDisplay
import KE.KIsAll
import PyProof.ReprRoads
import PyProof.Rows.MaxTwoN
import PyProof.Rows.Lst
import PyProof.Rows.Tup
import PyProof.AutoSeq1
import PyProof.ListCopy
import KE.KIntText
import ObjForm.ListNI
import PyProof.DictUpdate
import PyProof.RaisesDict
import KE.KMatchCls
import PyProof.Rows.FactsExc_Exception
import PyProof.CompFree
import PySem.Challenge.RW_qd0167_01
set_option maxRecDepth 1000000
set_option linter.all false
set_option genSizeOf false
set_option backward.match.sparseCases false
set_option bootstrap.genMatcherCode false
set_option Elab.async false
open PySem renaming wpAny_bind→aag,wpAny_pure→aaq,wpAny_holding→acE,wpAny_standAt→adj,wpAny_field→adT,wpAny_mono→adX,sizeLine_eq→adZ,wpAny_callSpecial?_slot→aeg,wpAny_newObj_type→aeO,getMethod_builtin→aeR,wpAny_loadPart→afU,wpAny_setField→afV,wpAny_items_cons→afW,wpAny_call_entry→afX,wpAny_rule→agk,wpAny_list_append_plain→agz,wpAny_pyNext_list_item→agF,strKind_is→agN,slot_dict_setitem→agO,wpAny_storeName_local→agU,wpAny_isInstance→agZ,codeAny_call_builtin→ahc,wpAny_items_nil→ahe,codeAny_of_tree→ahf,wpAny_isSubtype_exc→ahg,wpAny_seqItems→aht,wpAny_bindName→ahu,intKind_is→ahz,slot_list_getitem→ahA,wpAny_call→ahB,wpAny_pyIter_list→ahD,wpAny_loadPart_at→ahE,wpAny_evalAll_nil→ahF,wpAny_attempt→ahQ,wpAny_alloc→ahR,wpAny_pyNext_tuple_item→ahS,wpAny_mkText→aii,wpAny_execs_nil→ail,wpAny_Name→aio,wpAny_load→aip,isSubtype_stop→aiu,wpAt_of_wpAny→aiy
open Option.some renaming inj→aap
open PySem.Heap renaming get?_push_of_some→aas,get?_push_size→abX,size_push→acR,get?_update_other→adb,lt_size→ado,get?_update_self→adJ,size_after_update→aes,get?_some_iff→aiE
open List renaming forall_mem_cons→aaw,mem_cons→adN,append_nil→adO,contains_cons→adS,length_append→adV,getElem?_eq_none_iff→aed,length_map→aek,forIn_cons→ael,forIn_nil→aeA,getElem?_toArray→afs,nodup_cons→afI,getElem?_append_left→afT,getElem?_cons_succ→agu,append_assoc→agG,lookup_cons→agW,length_cons→aha,getElem?_eq_some_iff→ahq,nodup_nil→ahv,reverse_cons→ahw,getElem?_eq_getElem→ahx,push_toArray→ahK,length_erase_of_mem→ahL,getElem?_map→ahM,map_cons→ahT,not_mem_nil→ahW,length_take→ahZ,length_drop→aic,map_reverse→aie,reverse_reverse→aiq,mem_erase_of_ne→ait,filterMap_cons→aix,any_cons→aiz,getElem?_drop→aiC
open Nat renaming eq_of_beq_eq_true→aax,le_refl→abv,le_of_ble_eq_true→abV,le_add_right→abW,le_trans→aco,le_of_succ_le→acH,le_succ→adq,zero_le→adK,add_le_add_left→adL,lt_of_succ_lt_succ→adM,not_lt_zero→adP,lt_of_le_of_lt→adQ,lt_of_succ_lt→adU,le_of_eq→adW,lt_succ_self→adY,zero_add→aeb,lt_irrefl→aec,ne_of_lt→aee,sub_add_cancel→aef,add_comm→aeh,le_add_left→aeq,lt_of_lt_of_le→aet,ble_eq_true_of_le→aeu,add_assoc→aez,not_lt→afJ,mul_le_mul_right→afP,add_le_add_right→afQ,add_sub_cancel'→age,beq_refl→agf,ne_of_gt→agt,lt_succ_of_lt→agL,succ_mul→ahn,add_right_comm→aho,lt_succ_iff_lt_or_eq→ahO,add_sub_cancel_left→ahV,succ_le_succ→ahX,le_zero→aiv,succ_pos→aiH,log2_lt→aiK
open Int renaming le_add_of_nonneg_right→adR,le_refl→aen,ofNat_lt→afr,le_trans→agV,natCast_nonneg→ahk,lt_irrefl→aiD
open Bool renaming false_ne_true→aea,false_eq_true→afb,and_eq_true→agY,and_eq_true_iff→ahb,or_eq_true_iff→ahi,and_false→ahp,not_not→aih,or_true→aiI,true_or→aiJ
open PySem.Obj renaming isFreed_of_fields→aew,data_mapFields→aeV,cls_mapFields→ahC
open Array renaming size_setIfInBounds→aeH,eq_empty_of_size_eq_zero→aeT,mem_toList_iff→afN,getElem?_toList→agT,not_mem_empty→ahd,getElem?_eq_getElem→ahs,mem_iff_getElem→aik,getElem_modify→air,length_toList→aiw,find?_toList→aiA,getElem_mem→aiF,size_modify→aiG
open PySem.F renaming plainAttrs_list→aeU,slot_range_iterator_next→agE,slot_tuple_iterator_next→ahj,slot_list_append→ahG,type_list_append→ahH,slot_list_extend→ahI,slot_dict_update→ahJ,plainAttrs_dict→ahU,attr_Exception→aif,slot_dict_pop→ain
open PySem.W renaming boot_heap→afp,isStr_of→agX,looks_mroIn→ahh,looks_findIn→ahl
open PyProof.Rows renaming Subscript_→agy,tail_any→aij
open Option renaming bind_eq_some_iff→agD,isSome_none→ahm,bind_some→aid
open PySem.Value.type renaming inj→ahr
open PySem.W.BT renaming beq_eq→ahy
open PySem.W.KIN renaming call_num→ais
open PySem.Code renaming quiet_builtin→aiB
open PyProof.Rows.Copied renaming pop_at→aiL
open PySem.Value.ref renaming inj→aiM
open PySem
namespace aT
noncomputable section
theorem ff{α:Type}{P:α->Prop}:∀p∈([]:List α),P p:=λ_ h=>(ahW h).elim
theorem bB{P:Prop}(h:¬P->False):P:=Classical.byContradiction h
inductive P1(A:Prop):Prop where
 |mk (a:A)
inductive P2(A B:Prop):Prop where
 |mk (a:A) (b:B)
inductive P3(A B C:Prop):Prop where
 |mk (a:A) (b:B) (c:C)
inductive P4(A B C D:Prop):Prop where
 |mk (a:A) (b:B) (c:C) (d:D)
inductive P5(A B C D E:Prop):Prop where
 |mk (a:A) (b:B) (c:C) (d:D) (e:E)
inductive P6(A B C D E F:Prop):Prop where
 |mk (a:A) (b:B) (c:C) (d:D) (e:E) (f:F)
inductive P7(A B C D E F G:Prop):Prop where
 |mk (a:A) (b:B) (c:C) (d:D) (e:E) (f:F) (g:G)
inductive P8(A B C D E F G H:Prop):Prop where
 |mk (a:A) (b:B) (c:C) (d:D) (e:E) (f:F) (g:G) (h:H)
inductive P9(A B C D E F G H I:Prop):Prop where
 |mk (a:A) (b:B) (c:C) (d:D) (e:E) (f:F) (g:G) (h:H) (i:I)
inductive P13(A B C D E F G H I J K L M:Prop):Prop where
 |mk (a:A) (b:B) (c:C) (d:D) (e:E) (f:F) (g:G) (h:H) (i:I) (j:J) (k:K) (l:L) (m:M)
inductive At where
 |none|int (i:Int)|str (s:Str)
 deriving Inhabited,DecidableEq
inductive CV where
 |none|bool (b:Bool)|int (i:Int)|str (s:Str)|at (a:At)|aA (a:Addr)|type (n:String)|blt (id:String)|tup (l:List CV)|lst (l:List CV)|obj (C:Addr) (fs:List (Str×CV))|dct (es:List (Str×CV))
 deriving Inhabited
structure Fn where
 qual:Str
 ps:List Str
 dflt:List CV
 body:List Stmt
 sc:Scope
 deriving Inhabited
inductive MV where
 |c (v:CV)|ref (n:Nat)|tup (l:List MV)|clo (f:Fn) (cl:List (Str×Nat))
 deriving Inhabited
inductive SC where
 |nil|inst (C:Addr) (fs:List (Str×CV))|dict (fs:List (Str×CV))|list (l:List CV)
inductive MO where
 |gone|inst (C:Addr) (fs:List (Str×MV))|exc (C:Addr) (fs:List (Str×MV)) (aei bare:Bool)|list (pre:List CV) (back:List MV)|dict (es:List (Str×MV))|known (v:CV) (ks:List Int)|vB (n:Nat)|cell (v:Option MV)|box (l:List (Addr×SC))|uU (v:MV) (a:Addr)
 deriving Inhabited
abbrev aq:=List MO
abbrev az:=List CV
abbrev bU:=List Value
abbrev aY:=List MV
abbrev bR:=List Addr
abbrev cL:=List Stmt
abbrev cI:=List Nat
abbrev cK:=Option Value
abbrev fy:=Option Obj
abbrev ig:=Array Value
abbrev gI:=List Int
abbrev iF:=List (Str×Value)
abbrev ja:=List (Str×Nat)
abbrev mV:=List (Nat×Nat)
abbrev b7:=Value->Shared->Prop
structure pH where
 name:Str
 isExc:Bool
 init:Addr
 mro:az
 attrs:List (Str×Option Addr)
structure Top where
 glob:List (Str×CV)
 fns:List (Addr×Fn)
 cls:List (Addr×pH)
 cH:List (Addr×Obj):=[]
abbrev M(P α:Type):=aq->(α->aq->P)->P
inductive cB where
 |next|ret (v:MV)|brk|cont|err (n:Nat)
 deriving Inhabited
inductive Hd where
 |no|at (n:Nat)|other
structure En where
 sc:Scope
 cells:ja
 m:List (Str×MV)
 hd:Hd
 dp:Nat
inductive It where
 |seq (v:MV) (i:Nat)|dO (l:az)|range (i stop:Int)
abbrev Lo:=List (Str×MV)
abbrev Spec(P:Type):=Hd->Nat->aY->aq->(Except Nat MV->aq->P)->P
structure Cx(P:Type) where
 top:Top
 T8:List (Nat×Nat×CV)
 T9:mV
 spec:List (Addr×Spec P)
 ora:Pos->aq->Option Bool:=λ_ _=>none
 BG:List (Nat×(En->Expr->It->cL->M P (cB×Lo))):=[]
 BH:List (Nat×(En->Expr->cL->M P (cB×Lo))):=[]
noncomputable def uV:cI->cI->Bool
 | [],[]=>true|a::r,b::t=>match Nat.beq a b with|true=>uV r t|false=>false
 |_,_=>false
def cD(a b:Str):Bool:=uV a.cps.toList b.cps.toList
noncomputable def look{α:Type}(x:Str):List (Str×α)->Option α
 | []=>none|p::r=>match cD p.1 x with|true=>some p.2|false=>look x r
noncomputable def put{α:Type}(x:Str)(v:α):List (Str×α)->List (Str×α)
 | []=>[(x,v)]|p::r=>match cD p.1 x with|true=>(p.1,v)::r|false=>p::put x v r
noncomputable def drop{α:Type}(x:Str):List (Str×α)->List (Str×α)
 | []=>[]|p::r=>match cD p.1 x with|true=>drop x r|false=>p::drop x r
noncomputable def aD{α:Type}(a:Addr):List (Addr×α)->Option α
 | []=>none|p::r=>match Nat.beq p.1 a with|true=>some p.2|false=>aD a r
noncomputable def vC(p:Pos):List (Nat×Nat×CV)->Option CV
 | []=>none|q::r=>match Nat.beq q.1 p.line,Nat.beq q.2.1 p.col with|true,true=>some q.2.2|_,_=>vC p r
noncomputable def setAt{α:Type}:List α->Nat->α->List α
 | [],_,_=>[]|_::r,0,v=>v::r|x::r,n+1,v=>x::setAt r n v
noncomputable def af{α:Type}:List α->Nat->Option α
 | [],_=>none|x::_,0=>some x|_::r,n+1=>af r n
noncomputable def app{α:Type}:List α->α->List α
 | [],v=>[v]|x::r,v=>x::app r v
noncomputable def len{α:Type}:List α->Nat
 | []=>0|_::r=>len r+1
noncomputable def rev{α:Type}:List α->List α->List α
 | [],acc=>acc|x::r,acc=>rev r (x::acc)
noncomputable def cat{α:Type}:List α->List α->List α
 | [],l=>l|x::r,l=>x::cat r l
section
noncomputable def bindM{α β:Type}(m:M Prop α)(f:α->M Prop β):M Prop β:=λσ k=>m σ λa σ'=>f a σ' k
noncomputable def aE{α:Type}(a:α):M Prop α:=λσ k=>k a σ
noncomputable def bJ{α:Type}:M Prop α:=λ_ _=>False
def aR{α:Type}:Option α->M Prop α
 |some a=>aE a|none=>bJ
noncomputable def iG(p:Prop):M Prop Unit:=λσ k=>p/\k () σ
def cellAt(n:Nat):M Prop MO:=λσ k=>match af σ n with
 |some o=>k o σ|none=>False
def cU(n:Nat)(o:MO):M Prop Unit:=λσ k=>k () (setAt σ n o)
def alloc(o:MO):M Prop Nat:=λσ k=>k (len σ) (app σ o)
noncomputable def aW:Nat:=1000000
inductive Tv where
 |yes|no|sym (t:Bool)
noncomputable def tv:Bool->Tv
 |true=>.yes|false=>.no
noncomputable def BI:Tv->Tv
 |.yes=>.no|.no=>.yes|.sym t=>.sym (!t)
noncomputable def Sd:Option CV->Option Bool
 |some v=>match v with
  |.bool b=>some b|_=>none
 |none=>none
def Zb(cx:Cx Prop)(p:Pos):Tv->M Prop Bool
 |.yes=>aE true|.no=>aE false|.sym t=>match Sd (vC p cx.T8) with
  |some b=>λσ k=>(t=b)/\k b σ|none=>λσ k=>match cx.ora p σ with
   |some b=>(t=b)/\k b σ|none=>(t=true->k true σ)/\(t=false->k false σ)
noncomputable def BJ:aY->Option az
 | []=>some []|.c v::r=>match BJ r with|some l=>some (v::l)|none=>none
 |_::_=>none
def IU(l:aY):MV:=match BJ l with
 |some cs=>.c (.tup cs)|none=>.tup l
noncomputable def bT:az->aY
 | []=>[]|v::r=>.c v::bT r
noncomputable def gX:List (Str×CV)->List (Str×MV)
 | []=>[]|p::r=>(p.1,.c p.2)::gX r
def items(o:MO):Option aY:=match o with
 |.list pre back=>some (cat (bT pre) (rev back []))|_=>none
def aej(o:MO):Option Nat:=match o with
 |.list pre back=>some (len pre+len back)|_=>none
noncomputable def atP(p:Pos):mV->Bool
 | []=>false|q::r=>match Nat.beq q.1 p.line,Nat.beq q.2 p.col with|true,true=>true|_,_=>atP p r
end
noncomputable def gJ:List (Str×MV)->Bool
 | []=>true|(x,_)::r=>match look x r with
  |some _=>false|none=>gJ r
section
mutual
noncomputable def IV:Nat->MV->M Prop CV
 |0,_=>bJ|k+1,v=>match v with
  |.c v=>aE v|.tup l=>bindM (IW k l) λcs=>aE (.tup cs)|.ref n=>bindM (cellAt n) λo=>match o with
   |.list pre back=>bindM (cU n .gone) λ_=>bindM (IW k (rev back [])) λcs=>aE (.lst (cat pre cs))|.inst C fs=>match gJ fs with
    |true=>bindM (cU n .gone) λ_=>bindM (Oj k fs) λgs=>aE (.obj C gs)|false=>bJ
   |_=>bJ
  |.clo _ _=>bJ
noncomputable def IW:Nat->aY->M Prop az
 |0,_=>bJ|_+1,[]=>aE []|k+1,v::r=>bindM (IV k v) λc=>bindM (IW k r) λcs=>aE (c::cs)
noncomputable def Oj:Nat->List (Str×MV)->M Prop (List (Str×CV))
 |0,_=>bJ|_+1,[]=>aE []|k+1,p::r=>bindM (IV k p.2) λc=>bindM (Oj k r) λcs=>aE ((p.1,c)::cs)
end
def T9(cx:Cx Prop)(p:Pos)(v:MV):M Prop MV:=match atP p cx.T9 with
 |true=>bindM (IV 30 v) λc=>aE (.c c)|false=>aE v
noncomputable def eE{α:Type}(f:aq->Option α):M Prop α:=λσ k=>match f σ with
 |some a=>k a σ|none=>False
def jb(σ:aq):MV->Option (aY×Bool)
 |.c c=>match c with
  |.tup l=>some (bT l,true)|.lst l=>some (bT l,false)|_=>none
 |.tup l=>some (l,true)|.ref n=>match af σ n with
  |some o=>match o with
   |.list pre back=>some (cat (bT pre) (rev back []),false)|_=>none
  |none=>none
 |.clo _ _=>none
def q8(n:Nat)(σ:aq):Option (List (Str×MV)):=match af σ n with
 |some o=>match o with
  |.dict es=>some es|_=>none
 |none=>none
def DQ(σ:aq):MV->Option (List (Str×MV))
 |.c c=>match c with
  |.dct es=>some (gX es)|_=>none
 |.ref n=>q8 n σ|_=>none
def objOf(σ:aq):MV->Option (Addr×List (Str×MV))
 |.c c=>match c with
  |.obj C fs=>some (C,gX fs)|_=>none
 |.ref n=>match af σ n with
  |some o=>match o with
   |.inst C fs=>some (C,fs)|_=>none
  |none=>none
 |_=>none
def itemsOf(v:MV):M Prop aY:=bindM (eE λσ=>jb σ v) λl=>aE l.1
noncomputable def b8:CV->Option (Int×Bool)
 |.int i=>some (i,false)|.at a=>match a with
  |.int i=>some (i,true)|_=>none
 |_=>none
noncomputable def nF:CV->Option (Str×Bool)
 |.str s=>some (s,false)|.at a=>match a with
  |.str s=>some (s,true)|_=>none
 |_=>none
noncomputable def mkInt(i:Int):Bool->CV
 |true=>.at (.int i)|false=>.int i
noncomputable def mkStr(s:Str):Bool->CV
 |true=>.at (.str s)|false=>.str s
noncomputable def isStr:MV->Option Str
 |.c c=>match c with
  |.str s=>some s|_=>none
 |_=>none
noncomputable def w7{α:Type}(l:List α)(a b:Nat):List α:=(l.drop a).take (b-a)
noncomputable def bound(n:Nat)(i:Int):Nat:=match i with
 |.ofNat k=>match Nat.ble k n with|true=>k|false=>n
 |.negSucc k=>n-(k+1)
noncomputable def nz:Int->Bool
 |.ofNat n=>match n with|0=>false|_+1=>true
 |.negSucc _=>true
def DS(v:MV):Option Bool:=match v with
 |.c c=>match c with
  |.none=>some false|.bool b=>some b|.int i=>some (nz i)|_=>none
 |_=>none
noncomputable def DT:At->Bool
 |.none=>true|_=>false
def ru:MV->Option Tv
 |.c c=>match c with
  |.none=>some .yes|.at a=>some (.sym (DT a))|.blt _=>none|_=>some .no
 |_=>some .no
noncomputable def dP:CV->Option At
 |.none=>some .none|.int i=>some (.int i)|.str s=>some (.str s)|.at a=>some a|_=>none
noncomputable def Ol:CV->Bool
 |.at _=>true|_=>false
noncomputable def mW(a b:At):Bool:=decide (a=b)
noncomputable def IX(a b:Int):Bool:=match a with
 |.ofNat x=>match b with
  |.ofNat y=>Nat.beq x y|.negSucc _=>false
 |.negSucc x=>match b with
  |.ofNat _=>false|.negSucc y=>Nat.beq x y
def eqA(a b:At):Bool:=match a with
 |.none=>match b with
  |.none=>true|_=>false
 |.int i=>match b with
  |.int j=>IX i j|_=>false
 |.str x=>match b with
  |.str y=>cD x y|_=>false
def Ua(a b:CV):Option Tv:=match dP a with
 |some x=>match dP b with
  |some y=>match Ol a with
   |true=>some (.sym (mW x y))|false=>match Ol b with
    |true=>some (.sym (mW x y))|false=>some (tv (eqA x y))
  |none=>none
 |none=>none
noncomputable def isNil{α:Type}:List α->Bool
 | []=>true|_::_=>false
def eqL(a b:aY):Option Tv:=match a with
 | []=>match b with
  | []=>some .yes|_::_=>none
 |v::r=>match b with
  | []=>some .no|u::t=>match r with
   | []=>match t with
    | []=>match v with
     |.c x=>match u with
      |.c y=>Ua x y|_=>none
     |_=>none
    |_::_=>none
   |_::_=>none
def sf(σ:aq)(n:Nat):Option aY:=match af σ n with
 |some o=>match o with
  |.list pre back=>match pre with
   | []=>some back|_::_=>none
  |_=>none
 |none=>none
def IY(σ:aq)(n:Nat):Option Unit:=match af σ n with
 |some o=>match o with
  |.list _ _=>some ()|_=>none
 |none=>none
noncomputable def Se:CV->Option Unit
 |.none=>some ()|_=>none
def Ub(x:CV)(n:Nat):M Prop Tv:=bindM (aR (Se x)) λ_=>bindM (eE λσ=>IY σ n) λ_=>aE .no
def eqR(n k:Nat):M Prop Tv:=bindM (eE λσ=>sf σ n) λl=>bindM (eE λσ=>sf σ k) λl'=>aR (eqL l l')
def eqV(a b:MV):M Prop Tv:=match a with
 |.c x=>match b with
  |.c y=>aR (Ua x y)|.ref k=>Ub x k|_=>bJ
 |.ref n=>match b with
  |.c y=>Ub y n|.ref k=>eqR n k|_=>bJ
 |_=>bJ
noncomputable def sj(x:CV):az->Option Tv
 | []=>some .no|y::r=>match Ua y x with
  |some t=>match t with
   |.yes=>match sj x r with|some _=>some .yes|none=>none
   |.no=>sj x r|.sym _=>none
  |none=>none
noncomputable def lS{α:Type}:Option α->Bool
 |some _=>true|none=>false
noncomputable def q9:CV->Option Str
 |.str s=>some s|_=>none
noncomputable def Uc:CV->Option az
 |.tup l=>some l|_=>none
noncomputable def qu:MV->Option CV
 |.c v=>some v|_=>none
noncomputable def refOf:MV->Option Nat
 |.ref n=>some n|_=>none
def sr(n:Nat)(σ:aq):Option (CV×gI):=match af σ n with
 |some o=>match o with
  |.known v ks=>some (v,ks)|_=>none
 |none=>none
def IZ(x:CV)(es:List (Str×MV)):M Prop Tv:=match q9 x with
 |some x=>aE (tv (lS (look x es)))|none=>match es with
  | []=>bindM (aR (b8 x)) λ_=>aE .no|_::_=>bJ
def Zr(x:CV)(q:CV×gI):M Prop Tv:=bindM (aR (b8 x)) λi=>aE (.sym (decide (i.1∈q.2)))
def I0(x:CV)(n:Nat):M Prop Tv:=λσ k=>match q8 n σ with
 |some es=>IZ x es σ k|none=>bindM (eE (sr n)) (Zr x) σ k
def Zs(x y:CV):M Prop Tv:=bindM (aR (q9 x)) λx=>bindM (aR (q9 y)) λy=>aE (tv (PySem.Txt.contains y x))
def inC(x y:CV):M Prop Tv:=match Uc y with
 |some l=>aR (sj x l)|none=>Zs x y
def isIn(a b:MV):M Prop Tv:=bindM (aR (qu a)) λx=>match qu b with
 |some y=>inC x y|none=>bindM (aR (refOf b)) (I0 x)
noncomputable def fX(a b:Int):Bool:=decide (a<b)
noncomputable def Zt(a b:Int):Bool:=decide (a<=b)
def Zu(s:Bool)(b:Bool):Tv:=match s with
 |true=>.sym b|false=>tv b
def I3(v:MV):Option (Int×Bool):=match v with
 |.c x=>b8 x|_=>none
def BK(f:Int->Int->Bool)(a b:MV):Option Tv:=match I3 a with
 |some i=>match I3 b with
  |some j=>some (Zu (i.2||j.2) (f i.1 j.1))|none=>none
 |none=>none
noncomputable def lT:MV->Option Unit
 |.c c=>match c with
  |.none=>some ()|_=>none
 |_=>none
def Ud(op:CmpOp)(a b:MV):M Prop Tv:=match op with
 |.Eq=>eqV a b|.NotEq=>bindM (eqV a b) λt=>aE (BI t)|.Is=>bindM (aR (lT b)) λ_=>aR (ru a)|.IsNot=>bindM (aR (lT b)) λ_=>bindM (aR (ru a)) λt=>aE (BI t)|.In=>isIn a b|.NotIn=>bindM (isIn a b) λt=>aE (BI t)|.Lt=>aR (BK fX a b)|.LtE=>aR (BK Zt a b)|.Gt=>aR (BK (λx y=>fX y x) a b)|.GtE=>aR (BK (λx y=>Zt y x) a b)
def Zv(cx:Cx Prop)(p:Pos)(op:CmpOp)(a b:MV):M Prop Bool:=bindM (Ud op a b) λt=>Zb cx p t
def intOp(a b:CV)(f:Int->Int->Int):Option MV:=match b8 a with
 |some i=>match b8 b with
  |some j=>some (.c (mkInt (f i.1 j.1) (i.2||j.2)))|none=>none
 |none=>none
noncomputable def isSmall:CV->Bool
 |.int i=>match i with
  |.ofNat k=>Nat.ble k 1000000|.negSucc _=>false
 |_=>false
noncomputable def DU:CV->Bool
 |.int i=>match i with
  |.ofNat k=>match k with
   |0=>false|k+1=>Nat.ble k 1000000
  |.negSucc _=>false
 |_=>false
noncomputable def iB:Bool->Option Unit
 |true=>some ()|false=>none
def Ue(op:Operator)(x y:CV):M Prop MV:=match op with
 |.Add=>match nF x with
  |some u=>match nF y with
   |some v=>bindM (iG (u.1.cps.size+v.1.cps.size<aW)) λ_=>aE (.c (mkStr (u.1++v.1) (u.2||v.2)))|none=>bJ
  |none=>aR (intOp x y (· + ·))
 |.Sub=>aR (intOp x y (· - ·))|.Mult=>bindM (aR (iB (isSmall x))) λ_=>aR (intOp x y (· * ·))|.Mod=>bindM (aR (iB (DU y))) λ_=>aR (intOp x y Int.fmod)|.FloorDiv=>bindM (aR (iB (DU y))) λ_=>aR (intOp x y Int.fdiv)|_=>bJ
def listOf(σ:aq)(n:Nat):Option (az×aY):=match af σ n with
 |some o=>match o with
  |.list pre back=>some (pre,back)|_=>none
 |none=>none
def glue(pre:az)(back:aY)(Zw:az)(Sf:aY):Option (az×aY):=match BJ (rev back []) with
 |some cs=>some (cat pre (cat cs Zw),Sf)|none=>match Zw with
  | []=>some (pre,cat Sf back)|_::_=>none
def newL(l:az×aY):M Prop MV:=bindM (alloc (.list l.1 l.2)) λr=>aE (.ref r)
def Zx(n k:Nat):M Prop MV:=bindM (eE λσ=>listOf σ n) λa=>bindM (eE λσ=>listOf σ k) λb=>
 bindM (iG (len a.1+len a.2+(len b.1+len b.2)<aW)) λ_=>bindM (aR (glue a.1 a.2 b.1 b.2)) newL
def isZero:CV->Bool
 |.int i=>IX i 0|_=>false
noncomputable def isAdd:Operator->Option Unit
 |.Add=>some ()|_=>none
noncomputable def isMul:Operator->Option Unit
 |.Mult=>some ()|_=>none
def Zy(n:Nat)(y:CV):M Prop MV:=bindM (aR (iB (isZero y))) λ_=>bindM (eE λσ=>sf σ n) λ_=>newL ([],[])
def BL(op:Operator)(b:MV)(n:Nat):M Prop MV:=match refOf b with
 |some k=>bindM (aR (isAdd op)) λ_=>Zx n k|none=>bindM (aR (isMul op)) λ_=>bindM (aR (qu b)) (Zy n)
def Ug(op:Operator)(a b:MV):M Prop MV:=match qu a with
 |some x=>bindM (aR (qu b)) (Ue op x)|none=>bindM (aR (refOf a)) (BL op b)
def Zz(op:Operator)(x y:CV):M Prop MV:=match op with
 |.Add=>aR (intOp x y (· + ·))|.Sub=>aR (intOp x y (· - ·))|.FloorDiv=>bindM (aR (iB (DU y))) λ_=>aR (intOp x y Int.fdiv)|_=>bJ
def Om(op:Operator)(a b:MV):M Prop MV:=bindM (aR (qu a)) λx=>bindM (aR (qu b)) (Zz op x)
def I4(cx:Cx Prop)(p:Pos)(l:aY)(i:CV):M Prop MV:=match i with
 |.int i=>match i with
  |.ofNat k=>bindM (aR (iB (Nat.ble k 1000000))) λ_=>aR (af l k)|.negSucc _=>bJ
 |.at a=>match a with
  |.int i=>bindM (aR (vC p cx.T8)) λv=>bindM (iG (0<=i/\i<1000000/\af l i.toNat=some (.c v))) λ_=>aE (.c v)|_=>bJ
 |_=>bJ
def lastOf(σ:aq)(a:MV)(i:CV):Option MV:=match i with
 |.int i=>match i with
  |.negSucc k=>match k with
   |0=>match a with
    |.ref n=>match af σ n with
     |some o=>match o with
      |.list _ back=>match back with
       |v::_=>some v | []=>none
      |_=>none
     |none=>none
    |_=>none
   |_+1=>none
  |_=>none
 |_=>none
def signOf(s:Str)(i:CV):Option MV:=match i with
 |.int i=>match i with
  |.ofNat k=>match Nat.ble k 1000000 with
   |true=>match af s.cps.toList k with
    |some c=>some (.c (.str ⟨#[c]⟩))|none=>none
   |false=>none
  |.negSucc _=>none
 |_=>none
def ZA(i:CV)(q:CV×gI):M Prop MV:=bindM (aR (b8 i)) λj=>bindM (iG (j.1∈q.2)) λ_=>aE (.c q.1)
def Uh(cx:Cx Prop)(p:Pos)(a:MV)(i:CV):M Prop MV:=λσ k=>match lastOf σ a i with
 |some v=>k v σ|none=>match jb σ a with
  |some l=>I4 cx p l.1 i σ k|none=>bindM (aR (refOf a)) (λn=>bindM (eE (sr n)) (ZA i)) σ k
def I5(a:MV)(i:CV):Option (Option MV):=match a with
 |.c c=>match c with
  |.str s=>some (signOf s i)|_=>none
 |_=>none
def Ui(cx:Cx Prop)(p:Pos)(a:MV)(i:CV):M Prop MV:=match I5 a i with
 |some v=>aR v|none=>Uh cx p a i
def ZC(a:MV)(x:Str):M Prop MV:=bindM (eE λσ=>DQ σ a) λes=>aR (look x es)
def ZD(cx:Cx Prop)(p:Pos)(a:MV)(i:CV):M Prop MV:=match q9 i with
 |some x=>ZC a x|none=>Ui cx p a i
def Uj(cx:Cx Prop)(p:Pos)(a i:MV):M Prop MV:=bindM (aR (qu i)) (ZD cx p a)
noncomputable def I6(v:MV):Option (Option Int):=match v with
 |.c c=>match c with
  |.none=>some none|.int i=>some (some i)|_=>none
 |_=>none
def su(n:Nat):Option Int->Nat
 |none=>0|some i=>bound n i
def j5(n:Nat):Option Int->Nat
 |none=>n|some i=>bound n i
def aem(pre:az)(back:aY)(lo hi:Option Int):Option (az×aY):=match pre with
 | []=>some ([],rev (w7 (rev back []) (su (len back) lo) (j5 (len back) hi)) [])|_::_=>match back with
  | []=>some (w7 pre (su (len pre) lo) (j5 (len pre) hi),[])|_::_=>none
def Gp(pre:az)(back:aY)(lo hi:Option Int):Option (az×aY):=match back with
 | []=>some (w7 pre (su (len pre) lo) (j5 (len pre) hi),[])|_::_=>aem pre back lo hi
def I7(n:Nat):Bool->M Prop Unit
 |true=>iG (n<aW)|false=>aR (iB (Nat.ble n 999999))
noncomputable def lsV:CV->Option az
 |.lst l=>some l|_=>none
def BN(c:CV)(lo hi:Option Int):M Prop MV:=match lsV c with
 |some l=>bindM (iG (len l<aW)) λ_=>bindM (aR (Gp l [] lo hi)) newL|none=>bindM (aR (nF c)) λs=>bindM (I7 s.1.cps.size s.2) λ_=>aE (.c (mkStr (PySem.Txt.slice s.1 lo hi) s.2))
def BO(a lo hi:MV):M Prop MV:=bindM (aR (I6 lo)) λlo=>bindM (aR (I6 hi)) λhi=>match a with
 |.c c=>BN c lo hi|.ref n=>bindM (eE λσ=>listOf σ n) λl=>bindM (aR (Gp l.1 l.2 lo hi)) newL|_=>bJ
def gf(cx:Cx Prop)(C:Addr)(fs:List (Str×MV))(x:Str):Option (MV×Bool):=match aD C cx.top.cls with
 |some c=>match look x c.attrs with
  |some r=>match r with
   |some f=>match look x fs with
    |some _=>none|none=>some (.c (.aA f),true)
   |none=>match look x fs with
    |some v=>match v with
     |.c u=>match u with
      |.blt _=>none|u=>some (.c u,false)
     |v=>some (v,false)
    |none=>none
  |none=>none
 |none=>none
def bare(cx:Cx Prop)(C:Addr)(x:Str):Bool:=match aD C cx.top.cls with
 |some c=>match look x c.attrs with
  |some r=>match r with
   |some _=>false|none=>true
  |none=>false
 |none=>false
def cM(cx:Cx Prop)(C:Addr):Bool:=match aD C cx.top.cls with
 |some c=>c.isExc|none=>false
def lU(cx:Cx Prop)(C:Addr)(x:Str):Option MV:=match aD C cx.top.cls with
 |some c=>match look x c.attrs with
  |some r=>match r with
   |some f=>some (.c (.aA f))|none=>none
  |none=>none
 |none=>none
def excOf(σ:aq):MV->Option (Addr×List (Str×MV))
 |.ref n=>match af σ n with
  |some o=>match o with
   |.exc C fs _ _=>some (C,fs)|_=>none
  |none=>none
 |_=>none
noncomputable def jr:MV->Option Addr
 |.c c=>match c with
  |.aA C=>some C|_=>none
 |_=>none
noncomputable def eF{α:Type}(b:Bool)(o:Option α):Option α:=match b with
 |true=>o|false=>none
def sy(cx:Cx Prop)(v:MV)(x:Str)(σ:aq):Option (MV×Bool):=match objOf σ v with
 |some o=>eF (!(cM cx o.1)) (gf cx o.1 o.2 x)|none=>match excOf σ v with
  |some o=>eF (cM cx o.1) (gf cx o.1 o.2 x)|none=>match jr v with
   |some C=>match lU cx C x with
    |some f=>some (f,false)|none=>none
   |none=>none
def zl(cx:Cx Prop)(v:MV)(x:Str):M Prop (MV×Bool):=eE (sy cx v x)
def sA(v:MV)(x:Str):Option (MV×Bool):=match v with
 |.c c=>match c with
  |.type n=>match cD x "__init__" with
   |true=>match n=="Exception" with
    |true=>some (.c (.blt "Exception.__init__"),false)|false=>none
   |false=>none
  |_=>none
 |_=>none
def pI(cx:Cx Prop)(v:MV)(x:Str)(σ:aq):Option (MV×Bool):=match refOf v with
 |some _=>match objOf σ v with
  |some o=>eF (!(cM cx o.1)) (gf cx o.1 o.2 x)|none=>none
 |none=>match jr v with
  |some C=>match lU cx C x with
   |some f=>some (f,false)|none=>none
  |none=>sA v x
def I8(cx:Cx Prop)(v:MV)(x:Str):M Prop (MV×Bool):=eE (pI cx v x)
def zm(cx:Cx Prop)(x:Str)(w:MV)(o:MO):Option MO:=match o with
 |.inst C fs=>eF (bare cx C x&&!(cM cx C)&&Nat.ble (len fs) 900) (some (.inst C (put x w fs)))|.exc C fs t b=>eF (bare cx C x&&cM cx C&&Nat.ble (len fs) 900) (some (.exc C (put x w fs) t b))|_=>none
def nH(cx:Cx Prop)(v:MV)(x:Str)(w:MV):M Prop Unit:=bindM (aR (refOf v)) λn=>bindM (cellAt n) λo=>bindM (aR (zm cx x w o)) λo'=>cU n o'
noncomputable def j6(D:Addr):az->Bool
 | []=>false|v::r=>match v with
  |.aA a=>match Nat.beq a D with|true=>true|false=>j6 D r
  |_=>j6 D r
noncomputable def ZE:CV->cK
 |.none=>some (.type "NoneType")|.bool _=>some (.type "bool")|.int _=>some (.type "int")|.str _=>some (.type "str")|.tup _=>some (.type "tuple")|.lst _=>some (.type "list")|.obj C _=>some (.ref C)|_=>none
def Uk(cx:Cx Prop)(v:MV)(σ:aq):cK:=match v with
 |.c v=>ZE v|.tup _=>some (.type "tuple")|.ref n=>match af σ n with
  |some o=>match o with
   |.list _ _=>some (.type "list")|.inst C _=>eF (!(cM cx C)) (some (.ref C))|_=>none
  |none=>none
 |.clo _ _=>none
noncomputable def iH(n:String):Bool:=n=="int" ||n=="str" ||n=="list" ||n=="tuple"
def I9(cx:Cx Prop)(t:Value)(c:CV):Option Bool:=match t with
 |.type T=>match c with
  |.type n=>eF (iH n) (some (T==n||(T=="bool" && n=="int")))|.aA D=>match aD D cx.top.cls with|some _=>some false|none=>none
  |_=>none
 |.ref C=>match aD C cx.top.cls with
  |some k=>match c with
   |.type n=>eF (iH n&&!k.isExc) (some false)|.aA D=>match aD D cx.top.cls with
    |some _=>eF (!k.isExc) (some (j6 D k.mro))|none=>none
   |_=>none
  |none=>none
 |_=>none
noncomputable def kM(a:At)(n:String):Bool:=match a with
 |.int _=>n=="int" |.str _=>n=="str" |.none=>false
def atT(cx:Cx Prop)(a:At)(t:CV):Option Tv:=match t with
 |.type n=>eF (iH n) (some (.sym (kM a n)))|.aA D=>match aD D cx.top.cls with|some _=>some .no|none=>none
 |_=>none
noncomputable def Ul:MV->Option At
 |.c c=>match c with
  |.at a=>some a|_=>none
 |_=>none
def BP(cx:Cx Prop)(v t:MV):M Prop Tv:=bindM (aR (qu t)) λt=>match Ul v with
 |some a=>aR (atT cx a t)|none=>bindM (eE (Uk cx v)) λtg=>bindM (aR (I9 cx tg t)) λb=>aE (tv b)
def kindOf(sc:Scope)(x:Str):Option NameKind:=look x sc.names
def sC(σ:aq)(n:Nat):Option (Option MV):=match af σ n with
 |some o=>match o with
  |.cell v=>some v|_=>none
 |none=>none
def loadCell(cells:ja)(x:Str):M Prop MV:=bindM (aR (look x cells)) λn=>bindM (eE λσ=>sC σ n) λv=>aR v
def dunder(x:Str):Bool:=cD x "__debug__" ||cD x "__classdict__"
def load(cx:Cx Prop)(e:En)(x:Str):M Prop MV:=bindM (aR (iB (!(dunder x)))) λ_=>bindM (aR (kindOf e.sc x)) λk=>match k with
 |.local=>aR (look x e.m)|.cell=>loadCell e.cells x|.free=>loadCell e.cells x|.globalImplicit=>bindM (aR (look x cx.top.glob)) λv=>aE (.c v)|_=>bJ
def Ja(sc:Scope)(cells:ja)(m:List (Str×MV))(x:Str)(v:MV):M Prop (List (Str×MV)):=bindM (aR (kindOf sc x)) λk=>match k with
 |.local=>aE (put x v m)|.cell=>bindM (aR (look x cells)) λn=>bindM (eE λσ=>sC σ n) λ_=>bindM (cU n (.cell (some v))) λ_=>aE m|_=>bJ
def store(e:En)(x:Str)(v:MV):M Prop (List (Str×MV)):=Ja e.sc e.cells e.m x v
end
abbrev Ex(α:Type):=Except Nat α
structure dZ(P:Type) where
 ev:En->Expr->M P (Ex MV)
 uW:En->Expr->M P (Ex Bool)
 exs:En->cL->M P (cB×Lo)
 call:Hd->Nat->MV->aY->Lo->M P (Ex MV)
 gh:En->Expr->It->cL->M P (cB×Lo)
 DW:En->Expr->cL->M P (cB×Lo)
noncomputable def one{α:Type}:List α->Option α
 | []=>none|x::r=>match r with
  | []=>some x|_::_=>none
def two{α:Type}:List α->Option (α×α)
 | []=>none|x::r=>match one r with
  |some y=>some (x,y)|none=>none
noncomputable def pJ{α:Type}:List α->Option Unit
 | []=>some ()|_::_=>none
noncomputable def zo{α:Type}:Option α->Option Unit
 |none=>some ()|some _=>none
section
noncomputable def ZF{α:Type}(f:α->aq->Prop)(g:Nat->aq->Prop)(x:Ex α)(σ:aq):Prop:=match x with
 |.ok a=>f a σ|.error n=>g n σ
def bg{α β:Type}(m:M Prop (Ex α))(f:α->M Prop (Ex β)):M Prop (Ex β):=λσ k=>m σ (ZF (λa σ'=>f a σ' k) λn σ'=>k (.error n) σ')
noncomputable def dF{α:Type}(a:α):M Prop (Ex α):=λσ k=>k (.ok a) σ
noncomputable def iI{α:Type}(m:M Prop α):M Prop (Ex α):=λσ k=>m σ λa σ'=>k (.ok a) σ'
noncomputable def fixed(e:En)(m:Lo):En:=⟨e.sc,e.cells,m,e.hd,e.dp⟩
noncomputable def under(e:En)(n:Nat):En:=⟨e.sc,e.cells,e.m,.at n,e.dp⟩
def dZ.dead:dZ Prop where
 ev _ _:=bJ
 uW _ _:=bJ
 exs _ _:=bJ
 call _ _ _ _ _:=bJ
 gh _ _ _ _:=bJ
 DW _ _ _:=bJ
noncomputable def fV:Expr->Bool
 |.Starred _ _=>false|_=>true
noncomputable def IM(r:dZ Prop)(e:En):List Expr->M Prop (Ex aY)
 | []=>dF []|x::rest=>bindM (aR (iB (fV x))) λ_=>bg (r.ev e x) λv=>bg (IM r e rest) λvs=>dF (v::vs)
noncomputable def fj:List Expr->Bool
 | []=>true|x::r=>fV x&&fj r
noncomputable def Jb:Keyword->Option Str
 |⟨n,_,_⟩=>n
noncomputable def ZG:Keyword->Expr
 |⟨_,x,_⟩=>x
noncomputable def bf{α:Type}:Option α->Bool
 |some _=>true|none=>false
noncomputable def qv:List Keyword->Bool
 | []=>true|k::r=>bf (Jb k)&&qv r
def Jc(args:List Expr)(kws:List Keyword):Bool:=fj args&&qv kws&&Nat.ble (len args+len kws) 20
noncomputable def qw(r:dZ Prop)(e:En):List Keyword->M Prop (Ex Lo)
 | []=>dF []|k::rest=>bindM (aR (Jb k)) λn=>bg (r.ev e (ZG k)) λv=>bg (qw r e rest) λvs=>dF ((n,v)::vs)
noncomputable def sD:List (Option Expr)->List Expr->Bool
 | [],xs=>match xs with
  | []=>true|_::_=>false
 |k::ks,xs=>match xs with
  | []=>false|_::xs=>bf k&&sD ks xs
noncomputable def w9(r:dZ Prop)(e:En):List (Option Expr)->List Expr->M Prop (Ex Lo)
 | [],xs=>bindM (aR (pJ xs)) λ_=>dF []|k::ks,xs=>match xs with
  | []=>bJ|x::xs=>bindM (aR k) λk=>bg (r.ev e k) λkv=>bindM (aR (isStr kv)) λn=>bg (r.ev e x) λv=>bg (w9 r e ks xs) λes=>dF ((n,v)::es)
noncomputable def putAll:Lo->Lo->Lo
 |es,[]=>es|es,p::r=>putAll (put p.1 p.2 es) r
def vD(r:dZ Prop)(e:En):Option Expr->M Prop (Ex MV)
 |some x=>r.ev e x|none=>dF (.c .none)
mutual
noncomputable def mX:CV->PyData
 |.none=>.none|.bool b=>.bool b|.int i=>.int i|.str s=>.str s|.at a=>match a with
  |.none=>.none|.int i=>.int i|.str s=>.str s
 |.lst l=>.list (eG l)|_=>.none
noncomputable def eG:az->List PyData
 | []=>[]|v::r=>mX v::eG r
end
mutual
noncomputable def Gq:CV->Bool
 |.none=>true|.bool _=>true|.int _=>true|.str _=>true|.at _=>true|.lst l=>kN l|_=>false
noncomputable def kN:az->Bool
 | []=>true|v::r=>Gq v&&kN r
end
abbrev DX(d:PyData):Prop:=P4 (d.showable=true) (d.depth<=20) (d.hasDict=false) (d.shown.length<aW)
def Jd(v:MV)(σ:aq):Option Nat:=match v with
 |.c c=>match nF c with
  |some s=>some s.1.cps.size|none=>match c with
   |.tup l=>some (len l)|.lst l=>some (len l)|_=>none
 |.tup l=>some (len l)|.ref n=>match af σ n with
  |some o=>aej o|none=>none
 |.clo _ _=>none
noncomputable def Um(v:MV)(b:Bool):Bool:=match v with
 |.c c=>match c with
  |.at _=>true|.str _=>false|_=>b
 |_=>b
def DY(σ:aq)(v:MV):Option az:=match v with
 |.ref n=>match listOf σ n with
  |some l=>match BJ (rev l.2 []) with
   |some cs=>some (cat l.1 cs)|none=>none
  |none=>none
 |_=>none
def Un(cx:Cx Prop)(p:Pos)(id:String)(a:MV):M Prop (Ex MV):=match id=="len" with
 |true=>bindM (eE (Jd a)) λk=>bindM (iG (k<aW)) λ_=>dF (.c (mkInt k (Um a (atP p cx.T9))))|false=>match id=="repr" with
  |true=>bindM (eE λσ=>DY σ a) λl=>bindM (iG (kN l=true/\DX (.list (eG l)))) λ_=>dF (.c (.at (.str (PyData.list (eG l)).shown)))|false=>bJ
noncomputable def aeo:MV->Option Unit
 |.c c=>match c with
  |.tup _=>none|_=>some ()
 |_=>some ()
noncomputable def Uo:Hd->Option Unit
 |.no=>some ()|_=>none
def Oo(a b:CV):Option CV:=match b8 a with
 |some i=>match b8 b with
  |some j=>some (mkInt (match fX j.1 i.1 with|true=>j.1|false=>i.1) (i.2||j.2))
  |none=>none
 |none=>none
def zp(cx:Cx Prop)(a:MV):M Prop (Ex MV):=bindM (eE λσ=>excOf σ a) λC=>bindM (aR (iB (cM cx C.1))) λ_=>dF (.c .none)
def Up(cx:Cx Prop)(hd:Hd)(p:Pos)(id:String)(a b:MV):M Prop (Ex MV):=match id=="isinstance" with
 |true=>bindM (aR (aeo b)) λ_=>iI (bindM (BP cx a b) λt=>bindM (Zb cx p t) λt=>aE (.c (.bool t)))|false=>match id=="min" with
  |true=>bindM (aR (Uo hd)) λ_=>bindM (aR (qu a)) λx=>bindM (aR (qu b)) λy=>bindM (aR (Oo x y)) λv=>dF (.c v)|false=>match id=="Exception.__init__" with
   |true=>zp cx a|false=>bJ
def blt(cx:Cx Prop)(hd:Hd)(p:Pos)(id:String)(as:aY):M Prop (Ex MV):=match one as with
 |some a=>Un cx p id a|none=>bindM (aR (two as)) λq=>Up cx hd p id q.1 q.2
noncomputable def digits:cI->Nat->Option Nat
 | [],n=>some n|c::r,n=>match Nat.ble 48 c&&Nat.ble c 57 with
  |true=>digits r (n*10+(c-48))|false=>none
def intOf(cx:Cx Prop)(p:Pos)(s:Str×Bool):M Prop (Ex MV):=match vC p cx.T8 with
 |some v=>bindM (aR (b8 v)) λi=>bindM (iG (0<=i.1/\i.1<100/\s.1=Str.ofString (toString i.1))) λ_=>dF (.c (.at (.int i.1)))|none=>bindM (aR (iB (!s.2))) λ_=>bindM (aR (digits s.1.cps.toList 0)) λn=>bindM (iG (n<100/\s.1=Str.ofString (toString (n:Int)))) λ_=>dF (.c (.int n))
def BQ(σ:aq)(v:MV):Option (az×aY):=match v with
 |.ref n=>listOf σ n|_=>none
def mkType(cx:Cx Prop)(p:Pos)(n:String)(as:aY):M Prop (Ex MV):=bindM (aR (one as)) λa=>match n=="list" with
 |true=>bindM (eE λσ=>BQ σ a) λl=>bindM (iG (len l.1+len l.2<aW)) λ_=>iI (newL l)|false=>bindM (aR (qu a)) λa=>match n=="str" with
  |true=>bindM (aR (b8 a)) λi=>bindM (iG (0<=i.1/\i.1<1000000)) λ_=>dF (.c (mkStr (Str.ofString (toString i.1)) i.2))|false=>match n=="int" with
   |true=>bindM (aR (nF a)) λs=>intOf cx p s|false=>bJ
def Sg(x:Str):Option Nat:=match cD x "append" with
 |true=>some 0|false=>match cD x "pop" with
  |true=>some 1|false=>match cD x "extend" with
   |true=>some 2|false=>none
def Sh(x:Str):Option Nat:=match cD x "pop" with
 |true=>some 3|false=>match cD x "update" with
  |true=>some 4|false=>none
def Je(o:MO)(x:Str):Option (Option Nat):=match o with
 |.list _ _=>match Sg x with|some i=>some (some i)|none=>none
 |.vB _=>match cD x "append" with|true=>some (some 0)|false=>none
 |.dict _=>match Sh x with|some i=>some (some i)|none=>none
 |.known _ _=>none|_=>some none
def BS(v:MV)(x:Str)(σ:aq):Option (Option Nat):=match v with
 |.ref n=>match af σ n with
  |some o=>Je o x|none=>none
 |.c c=>match c with
  |.str _=>match cD x "endswith" with|true=>some (some 5)|false=>none
  |_=>some none
 |_=>some none
def Oq(n:Nat)(v:MV)(σ:aq):Option aY:=match v with
 |.c c=>match c with
  |.lst l=>some (bT l)|_=>none
 |.ref k=>match Nat.beq k n with
  |true=>none|false=>match af σ k with
   |some o=>items o|none=>none
 |_=>none
def DZ(s t:Str):Bool:=uV (s.cps.toList.drop (s.cps.size-t.cps.size)) t.cps.toList&&Nat.ble t.cps.size s.cps.size
def Si(o:MO)(v:MV):Option (Nat×MO):=match o with
 |.list pre back=>some (len pre+len back,.list pre (v::back))|.vB k=>some (k,.vB (k+1))|_=>none
noncomputable def ZH(o:MO):Option (MV×MO):=match o with
 |.list pre back=>match back with
  | []=>none|v::r=>some (v,.list pre r)
 |_=>none
noncomputable def dictOf:MO->Option Lo
 |.dict es=>some es|_=>none
def Uq(n:Nat)(o:MO)(v:MV)(σ:aq):Option MO:=match dictOf o with
 |some es=>match v with
  |.ref k=>match af σ k with
   |some o'=>match dictOf o' with
    |some fs=>eF (!(Nat.beq k n)&&gJ es&&gJ fs&&Nat.ble (len es+len fs) 900) (some (.dict (putAll es fs)))|none=>none
   |none=>none
  |_=>none
 |none=>none
def Jf(o:MO)(k d:MV):Option MV:=match dictOf o with
 |some es=>match es with
  | []=>match k with
   |.c k=>match b8 k with
    |some _=>some d|none=>none
   |_=>none
  |_::_=>none
 |none=>none
def sE(n:Nat)(o:MO)(i:Nat)(as:aY):M Prop (Ex MV):=match i with
 |0=>bindM (aR (one as)) λv=>bindM (aR (Si o v)) λq=>bindM (iG (q.1<aW)) λ_=>bindM (cU n q.2) λ_=>dF (.c .none)|1=>bindM (aR (pJ as)) λ_=>bindM (aR (ZH o)) λq=>bindM (cU n q.2) λ_=>dF q.1|2=>bindM (aR (one as)) λv=>bindM (eE (Oq n v)) λl=>bindM (eE λσ=>listOf σ n) λq=>
   bindM (iG (len q.1+len q.2+len l<aW)) λ_=>bindM (cU n (.list q.1 (rev l q.2))) λ_=>dF (.c .none)
 |3=>bindM (aR (two as)) λq=>bindM (aR (Jf o q.1 q.2)) λv=>dF v|4=>bindM (aR (one as)) λv=>bindM (eE (Uq n o v)) λo'=>bindM (cU n o') λ_=>dF (.c .none)|_=>bJ
def uX(o:MV)(i:Nat)(as:aY):M Prop (Ex MV):=match o with
 |.ref n=>bindM (cellAt n) λc=>sE n c i as|.c c=>match i with
  |5=>bindM (aR (q9 c)) λs=>bindM (aR (one as)) λt=>bindM (aR (isStr t)) λt=>bindM (iG (PySem.Txt.endswith s t=DZ s t)) λ_=>dF (.c (.bool (DZ s t)))|_=>bJ
 |_=>bJ
def xd(v:MV):M Prop Bool:=aR (DS v)
noncomputable def plainQ:Expr->Bool
 |.Set _ _ _=>false|_=>true
noncomputable def Jg:Expr->Option Str
 |.Call f as ks _=>match f with
  |.Name id _=>match as with
   | []=>match ks with
    | []=>some id|_::_=>none
   |_::_=>none
  |_=>none
 |_=>none
def xe(x:Expr):Bool:=match Jg x with
 |some id=>!(cD id "super")|none=>true
noncomputable def plainT:Expr->Bool
 |.Name _ _=>true|.Constant _ _ _=>true|.Call _ _ _ _=>true|.Attribute _ _ _=>true|.Subscript _ _ _=>true|_=>false
structure zq where
 C:Addr
 fs:List (Str×MV)
 t:Bool
 b:Bool
noncomputable def aep:MO->Option zq
 |.exc C fs t b=>some ⟨C,fs,t,b⟩|_=>none
def xg(n:Nat)(σ:aq):Option zq:=match af σ n with
 |some o=>aep o|none=>none
def excAt(n:Nat):M Prop zq:=eE (xg n)
def pL(hd:Hd)(σ:aq):Option Unit:=match hd with
 |.no=>some ()|.at h=>match xg h σ with
  |some x=>iB x.b|none=>none
 |.other=>none
def kO(e:En):M Prop Unit:=eE (pL e.hd)
def sF(it:It):M Prop (Option (MV×It)):=match it with
 |.seq v i=>bindM (aR (refOf v)) λn=>bindM (eE λσ=>jb σ (.ref n)) λl=>aE (match af l.1 i with
   |some x=>some (x,.seq v (i+1))|none=>none)
 |.dO l=>aE (match l with
  |x::r=>some (.c x,.dO r) | []=>none)
 |.range i stop=>aE (match fX i stop with
  |true=>some (.c (.int i),.range (i+1) stop)|false=>none)
noncomputable def isFree:NameKind->Bool
 |.free=>true|_=>false
noncomputable def freeOf(cells:ja):List (Str×NameKind)->ja->Option ja
 | [],acc=>some acc|p::r,acc=>match isFree p.2 with
  |true=>match look p.1 cells with|some n=>freeOf cells r ((p.1,n)::acc)|none=>none
  |false=>freeOf cells r acc
noncomputable def Jh:NameKind->Option Unit
 |.globalImplicit=>some ()|_=>none
noncomputable def isLocal:NameKind->Option Unit
 |.local=>some ()|_=>none
def Ot(k:NameKind):Option Unit:=iB (isFree k)
def Ji(cx:Cx Prop)(sc:Scope)(x:Str):M Prop MV:=bindM (aR (iB (!(dunder x)))) λ_=>bindM (aR (kindOf sc x)) λk=>bindM (aR (Jh k)) λ_=>bindM (aR (look x cx.top.glob)) λv=>aE (.c v)
def fName(sc:Scope)(cl:ja)(x:Str):M Prop MV:=bindM (aR (iB (!(dunder x)))) λ_=>bindM (aR (kindOf sc x)) λk=>bindM (aR (Ot k)) λ_=>loadCell cl x
noncomputable def exO{α:Type}:Ex α->Option α
 |.ok a=>some a|.error _=>none
def D0(cx:Cx Prop)(r:dZ Prop)(e:En)(sc:Scope)(cl:ja)(f x g:Str)(u:MV):M Prop MV:=
 bindM (Ji cx sc f) λfv=>bindM (fName sc cl x) λxv=>bindM (Ji cx sc g) λgv=>
  bindM (r.call e.hd e.dp gv [u] []) λa=>bindM (aR (exO a)) λa=>bindM (r.call e.hd e.dp fv [xv,a] []) λb=>aR (exO b)
noncomputable def sG(cx:Cx Prop)(r:dZ Prop)(e:En)(sc:Scope)(cl:ja)(f x g:Str)(v:MV):Nat->Nat->aY->M Prop aY
 |0,i,acc=>bindM (sF (.seq v i)) λn=>bindM (aR (zo n)) λ_=>bindM (kO e) λ_=>aE acc|k+1,i,acc=>bindM (sF (.seq v i)) λn=>bindM (aR n) λu=>bindM (D0 cx r e sc cl f x g u.1) λb=>sG cx r e sc cl f x g v k (i+1) (b::acc)
def Ur(sc:Scope)(p:Str×NameKind):Bool:=match p.2 with
 |.cell=>false|.local=>match kindOf sc p.1 with
  |some k=>bf (isLocal k)|none=>false
 |_=>true
noncomputable def namesOk(sc:Scope):List (Str×NameKind)->Bool
 | []=>true|p::r=>Ur sc p&&namesOk sc r
noncomputable def isFun:ScopeKind->Bool
 |.function=>true|_=>false
def iC(sc:Scope)(y:Str):Bool:=match kindOf sc y with
 |some k=>bf (isLocal k)|none=>false
def Jj(sc:Scope)(y z f g:Str):Bool:=isFun sc.kind&&cD y z&&iC sc y&&namesOk sc sc.names&&!(cD y "__debug__")&&!(cD f "super")&&!(cD g "super")
def Us(v:MV)(σ:aq):Option Nat:=match BQ σ v with
 |some l=>eF (Nat.ble (len l.1+len l.2) 100) (some (len l.1+len l.2))|none=>none
structure Jk where
 f:Str
 x:Str
 g:Str
 y:Str
 z:Str
 it:Expr
noncomputable def nI:Expr->Option Str
 |.Name n _=>some n|_=>none
noncomputable def D3:Expr->Option (Expr×List Expr)
 |.Call f as ks _=>match ks with
  | []=>some (f,as)|_::_=>none
 |_=>none
def Ut:Comprehension->Option (Str×Expr)
 |⟨t,it,ifs,a⟩=>match nI t with
  |some z=>match ifs with
   | []=>match a with
    |.ofNat a=>match a with
     |0=>some (z,it)|_+1=>none
    |.negSucc _=>none
   |_::_=>none
  |none=>none
def Sj(elt:Expr)(gens:List Comprehension):Option Jk:=
 (D3 elt).bind λc=>(nI c.1).bind λf=>(two c.2).bind λas=>(nI as.1).bind λx=>(D3 as.2).bind λd=>(nI d.1).bind λg=>(one d.2).bind λb=>(nI b).bind λy=>
  (one gens).bind λq=>(Ut q).bind λz=>some ⟨f,x,g,y,z.1,z.2⟩
def Jl(cx:Cx Prop)(r:dZ Prop)(e:En)(elt:Expr)(gens:List Comprehension)(sc:Scope):M Prop (Ex MV):=bindM (aR (Sj elt gens)) λq=>bindM (aR (iB (Jj sc q.y q.z q.f q.g&&plainQ q.it))) λ_=>
 bindM (aR (freeOf e.cells sc.names [])) λcl=>bg (r.ev e q.it) λv=>bindM (eE (Us v)) λn=>bindM (sG cx r e sc cl q.f q.x q.g v n 0 []) λvs=>iI (newL ([],vs))
noncomputable def Ou:Const->Option CV
 |.none=>some .none|.bool b=>some (.bool b)|.int i=>some (.int i)|.str s=>some (.str s)|_=>none
noncomputable def Uu:Expr->Option (Option Expr×Option Expr)
 |.Slice lo hi st _=>match st with
  |none=>some (lo,hi)|some _=>none
 |_=>none
noncomputable def vE:Expr->Bool
 |.Slice _ _ _ _=>true|_=>false
def ZI(cx:Cx Prop)(r:dZ Prop)(e:En)(o i:Expr)(p:Pos):M Prop (Ex MV):=bg (r.ev e o) λv=>match vE i with
 |true=>bindM (aR (Uu i)) λq=>bg (vD r e q.1) λa=>bg (vD r e q.2) λb=>iI (BO v a b)|false=>bg (r.ev e i) λw=>iI (Uj cx p v w)
noncomputable def zu:Expr->Option (Expr×Str×Pos)
 |.Attribute o n q=>some (o,n,q)|_=>none
noncomputable def Uv:MV->Option String
 |.c c=>match c with
  |.blt id=>some id|_=>none
 |_=>none
noncomputable def Uw:MV->Option String
 |.c c=>match c with
  |.type id=>some id|_=>none
 |_=>none
def vF(cx:Cx Prop)(r:dZ Prop)(e:En)(p:Pos)(typ:Bool)(g:MV)(as:aY)(ks:Lo):M Prop (Ex MV):=match ks with
 |_::_=>r.call e.hd e.dp g as ks | []=>match Uv g with
  |some id=>blt cx e.hd p id as|none=>match eF typ (Uw g) with
   |some n=>mkType cx p n as|none=>r.call e.hd e.dp g as []
def Jm(cx:Cx Prop)(r:dZ Prop)(e:En)(o:Expr)(n:Str)(args:List Expr)(kws:List Keyword)(p:Pos):M Prop (Ex MV):=bg (r.ev e o) λv=>bindM (eE (BS v n)) λi=>match i with
 |some i=>bindM (aR (pJ kws)) λ_=>bg (IM r e args) λas=>uX v i as|none=>bindM (I8 cx v n) λw=>bg (IM r e args) λas=>bg (qw r e kws) λks=>match w.2 with
  |true=>r.call e.hd e.dp w.1 (v::as) ks|false=>vF cx r e p false w.1 as ks
def Ux(cx:Cx Prop)(r:dZ Prop)(e:En)(f:Expr)(args:List Expr)(kws:List Keyword)(p:Pos):M Prop (Ex MV):=bindM (aR (iB (Jc args kws))) λ_=>match zu f with
 |some q=>bindM (aR (iB (xe q.1&&Nat.beq q.2.2.endLine p.line))) λ_=>Jm cx r e q.1 q.2.1 args kws p|none=>bg (r.ev e f) λg=>bg (IM r e args) λas=>bg (qw r e kws) λks=>vF cx r e p true g as ks
def Jo(cx:Cx Prop)(r:dZ Prop)(e:En)(l:Expr)(ops:List CmpOp)(qs:List Expr)(p:Pos){α:Type}(f:Bool->α):M Prop (Ex α):=bindM (aR (one ops)) λop=>bindM (aR (one qs)) λq=>bindM (aR (iB (plainQ q))) λ_=>
 bg (r.ev e l) λa=>bg (r.ev e q) λb=>iI (bindM (Zv cx p op a b) λt=>aE (f t))
noncomputable def Sk(op:PySem.BoolOp)(t:Bool):Bool:=match op with
 |.And=>!t|.Or=>t
noncomputable def nJ(r:dZ Prop)(e:En)(op:PySem.BoolOp):List Expr->M Prop (Ex MV)
 | []=>bJ|x::rest=>match rest with
  | []=>r.ev e x|_::_=>bg (r.ev e x) λv=>bindM (xd v) λt=>match Sk op t with
   |true=>dF v|false=>nJ r e op rest
noncomputable def sH(r:dZ Prop)(e:En)(op:PySem.BoolOp):List Expr->M Prop (Ex Bool)
 | []=>bJ|x::rest=>match rest with
  | []=>r.uW e x|_::_=>bg (r.uW e x) λt=>match Sk op t with
   |true=>dF t|false=>sH r e op rest
noncomputable def Jp:UnaryOp->Option Unit
 |.Not=>some ()|_=>none
noncomputable def Jq:UnaryOp->Option Unit
 |.USub=>some ()|_=>none
noncomputable def Jr:Expr->Option Int
 |.Constant c _ _=>match c with
  |.int i=>some i|_=>none
 |_=>none
def Oa(cx:Cx Prop)(r:dZ Prop)(e:En)(x:Expr):M Prop (Ex MV):=match x with
 |.Constant c _ _=>bindM (aR (Ou c)) λv=>dF (.c v)|.Name n _=>iI (load cx e n)|.Attribute o n _=>bindM (aR (iB (xe o))) λ_=>bg (r.ev e o) λv=>bindM (zl cx v n) λw=>bindM (aR (iB (!w.2))) λ_=>dF w.1|.Subscript o i p=>ZI cx r e o i p|.Call f args kws p=>Ux cx r e f args kws p|.Compare l ops qs p=>Jo cx r e l ops qs p λt=>.c (.bool t)|.BoolOp op xs _=>nJ r e op xs|.UnaryOp op x _=>bindM (aR (Jq op)) λ_=>bindM (aR (Jr x)) λi=>dF (.c (.int (-i)))|.IfExp t a b _=>bg (r.uW e t) λz=>match z with
  |true=>r.ev e a|false=>r.ev e b
 |.BinOp a op b _=>bg (r.ev e a) λv=>bg (r.ev e b) λw=>iI (Ug op v w)|.List xs _=>bg (IM r e xs) λvs=>bindM (aR (iB (Nat.ble (len vs) 1000))) λ_=>iI (newL ([],rev vs []))|.Tuple xs _ _=>bg (IM r e xs) λvs=>bindM (aR (iB (Nat.ble (len vs) 1000))) λ_=>dF (IU vs)|.Dict ks vs _=>bindM (aR (iB (sD ks vs&&Nat.ble (len ks) 15))) λ_=>bg (w9 r e ks vs) λes=>bindM (alloc (.dict (putAll [] es))) λn=>dF (.ref n)|.ListComp elt gens sc _=>Jl cx r e elt gens sc|_=>bJ
def Js(cx:Cx Prop)(r:dZ Prop)(e:En)(x:Expr):M Prop (Ex MV):=bg (Oa cx r e x) λv=>iI (T9 cx x.pos v)
def D4(cx:Cx Prop)(r:dZ Prop)(e:En)(x:Expr):M Prop (Ex Bool):=match plainT x with
 |true=>bg (r.ev e x) λv=>iI (xd v)|false=>match x with
  |.UnaryOp op a _=>bindM (aR (Jp op)) λ_=>bg (r.uW e a) λt=>dF (!t)|.BoolOp op xs _=>sH r e op xs|.Compare l ops qs p=>Jo cx r e l ops qs p λt=>t|_=>bJ
def jG(m:Lo){α:Type}(x:M Prop (Ex α))(f:α->M Prop (cB×Lo)):M Prop (cB×Lo):=λσ k=>x σ (ZF (λa σ'=>f a σ' k) λn σ'=>k (.err n,m) σ')
def nK(o:MO)(i:CV)(w:MV):Option MO:=match o with
 |.dict es=>match q9 i with
  |some x=>eF (Nat.ble (len es) 900) (some (.dict (put x w es)))|none=>match es with
   | []=>match b8 i with
    |some j=>match qu w with
     |some v=>some (.known v [j.1])|none=>none
    |none=>none
   |_::_=>none
 |_=>none
def Jt(n:Nat)(o:MO)(i:CV)(w:MV):M Prop Unit:=match o with
 |.known u ks=>bindM (aR (b8 i)) λj=>bindM (aR (qu w)) λv=>bindM (iG (u=v/\len ks<900)) λ_=>cU n (.known u (j.1::ks))|o=>bindM (aR (nK o i w)) λo'=>cU n o'
def zv(v i w:MV):M Prop Unit:=bindM (aR (refOf v)) λn=>bindM (aR (qu i)) λi=>bindM (cellAt n) λo=>Jt n o i w
def kP(cx:Cx Prop)(r:dZ Prop)(e:En)(t:Expr)(v:MV):M Prop (cB×Lo):=match t with
 |.Name n _=>bindM (store e n v) λm=>aE (.next,m)|.Attribute o n _=>jG e.m (r.ev e o) λw=>bindM (nH cx w n v) λ_=>aE (.next,e.m)|.Subscript o i _=>bindM (aR (iB (!(vE i)))) λ_=>jG e.m (r.ev e o) λw=>jG e.m (r.ev e i) λj=>bindM (zv w j v) λ_=>aE (.next,e.m)|_=>bJ
def BU(fm:cB×Lo)(k:Lo->M Prop (cB×Lo)):M Prop (cB×Lo):=match fm.1 with
 |.next=>k fm.2|_=>aE fm
noncomputable def mY(cx:Cx Prop)(r:dZ Prop)(e:En):List Expr->aY->M Prop (cB×Lo)
 | [],vs=>bindM (aR (pJ vs)) λ_=>aE (.next,e.m)|t::ts,vs=>match vs with
  | []=>bJ|v::vs=>bindM (kP cx r e t v) λfm=>BU fm λm=>mY cx r (fixed e m) ts vs
noncomputable def xh:Expr->Option (List Expr)
 |.Tuple ts _ _=>some ts|_=>none
def gy(cx:Cx Prop)(r:dZ Prop)(e:En)(t:Expr)(v:MV):M Prop (cB×Lo):=match xh t with
 |some ts=>bindM (kO e) λ_=>bindM (itemsOf v) λl=>bindM (aR (iB (fj ts&&Nat.beq (len ts) (len l)))) λ_=>mY cx r e ts l|none=>kP cx r e t v
noncomputable def xj:List Arg->Bool
 | []=>true|p::r=>match p.annotation with|none=>xj r|some _=>false
def ZJ(name bind:Str)(ps:List Arg)(sc:Scope):Bool:=cD name bind&&xj ps&&!sc.isGenerator&&!sc.isCoroutine&&isFun sc.kind
def ZK(e:En)(name bind:Str)(ps:List Arg)(body:cL)(sc:Scope):M Prop (cB×Lo):=bindM (aR (iB (ZJ name bind ps sc))) λ_=>
 bindM (aR (freeOf e.cells sc.names [])) λcl=>bindM (store e name (.clo ⟨name,ps.map (·.arg),[],body,sc⟩ cl)) λm=>aE (.next,m)
noncomputable def sI(cx:Cx Prop):aY->Bool
 | []=>true|v::r=>match jr v with
  |some D=>cM cx D&&sI cx r|none=>false
noncomputable def kQ(cx:Cx Prop)(C:Addr):aY->Option Bool
 | []=>some false|v::r=>match jr v with
  |some D=>match aD C cx.top.cls with
   |some c=>match j6 D c.mro with
    |true=>some true|false=>kQ cx C r
   |none=>none
  |none=>none
def zw(n:Nat)(m:Lo):M Prop (cB×Lo):=bindM (excAt n) λC=>bindM (aR (iB C.t)) λ_=>aE (.err n,m)
def D5(tv:MV):aY:=match tv with
 |.c c=>match c with
  |.tup l=>bT l|c=>[.c c]
 |tv=>[tv]
def Ju(r:dZ Prop)(e:En)(n:Nat)(nm:Option Str)(body:cL):M Prop (cB×Lo):=bindM (aR (iB (!(isNil body)))) λ_=>match nm with
 |none=>r.exs (under e n) body|some x=>bindM (aR (iB (iC e.sc x))) λ_=>bindM (store e x (.ref n)) λm=>bindM (r.exs (under (fixed e m) n) body) λfm=>aE (fm.1,drop x fm.2)
structure ZL where
 t:Expr
 nm:Option Str
 body:cL
noncomputable def ZM:ExceptHandler->Option ZL
 |.ExceptHandler t nm body _=>match t with
  |some t=>some ⟨t,nm,body⟩|none=>none
noncomputable def handle(cx:Cx Prop)(r:dZ Prop)(e:En)(n:Nat):List ExceptHandler->M Prop (cB×Lo)
 | []=>zw n e.m|h::hs=>bindM (aR (ZM h)) λq=>jG e.m (r.ev (under e n) q.t) λtv=>bindM (excAt n) λC=>bindM (aR (iB (sI cx (D5 tv)))) λ_=>bindM (aR (kQ cx C.C (D5 tv))) λhit=>match hit with
  |false=>handle cx r e n hs|true=>Ju r e n q.nm q.body
def noted(n:Nat):M Prop Unit:=bindM (excAt n) λC=>cU n (.exc C.C C.fs true C.b)
noncomputable def nL{α:Type}:List Str->List α->List (Str×α)
 | [],_=>[]|p::ps,as=>match as with
  |a::as=>(p,a)::nL ps as | []=>[]
noncomputable def bindAll(sc:Scope)(cells:ja):Lo->Lo->M Prop Lo
 | [],m=>aE m|p::r,m=>bindM (Ja sc cells m p.1 p.2) λm'=>bindAll sc cells r m'
def nameAt(sc:Scope)(line:Nat):Expr->Option Str
 |.Name id pos=>if kindOf sc id==some .local&&pos.line==line then some id else none
 |_=>none
def Jv(sc:Scope)(ts vs:List Expr):Option (Option (List Str)):=
 if !(ts.length==2||ts.length==3)||vs.length != ts.length then some none
 else if vs.any λx=>!fV x then some none
 else if (ts.filterMap (nameAt sc ((ts.head?.map (·.pos.line)).getD 0))).length != ts.length||(ts.filterMap (nameAt sc ((ts.head?.map (·.pos.line)).getD 0))).eraseDups.length != (ts.filterMap (nameAt sc ((ts.head?.map (·.pos.line)).getD 0))).length then some none
 else if vs.all (foldedForSure 8) then some none
 else if vs.all (constantsAlone 8) then none
 else some (some (ts.filterMap (nameAt sc ((ts.head?.map (·.pos.line)).getD 0))))
def Uy(cx:Cx Prop)(r:dZ Prop)(e:En)(body:cL)(hs:List ExceptHandler)(orelse:cL):M Prop (cB×Lo):=bindM (r.exs e body) λfm=>match fm.1 with
 |.next=>r.exs (fixed e fm.2) orelse|.err n=>match hs with
  | []=>aE fm|h::hs=>bindM (noted n) λ_=>handle cx r (fixed e fm.2) n (h::hs)
 |_=>aE fm
noncomputable def Uz:cB->Option Unit
 |.next=>some ()|_=>none
def Ov(r:dZ Prop)(e:En)(fin:cL)(fm:cB×Lo):M Prop (cB×Lo):=match fm.1 with
 |.err n=>bindM (noted n) λ_=>bindM (r.exs (under (fixed e fm.2) n) fin) λgm=>bindM (aR (Uz gm.1)) λ_=>zw n gm.2|f=>bindM (r.exs (fixed e fm.2) fin) λgm=>match gm.1 with
  |.next=>aE (f,gm.2)|.err n=>aE (.err n,gm.2)|_=>bJ
noncomputable def xm:Expr->Bool
 |.ListComp _ _ _ _=>false|.SetComp _ _ _ _=>false|.DictComp _ _ _ _ _=>false|_=>true
def zx(cx:Cx Prop)(r:dZ Prop)(e:En)(t x:Expr):M Prop (cB×Lo):=bindM (aR (iB (xm x))) λ_=>jG e.m (r.ev e x) λv=>match xh t with
 |none=>gy cx r e t v|some ts=>match xh x with
  |none=>gy cx r e t v|some vs=>bindM (aR (Jv e.sc ts vs)) λsw=>match sw with
   |none=>gy cx r e t v|some names=>bindM (kO e) λ_=>bindM (itemsOf v) λl=>bindM (aR (iB (Nat.beq (len names) (len l)))) λ_=>
    bindM (bindAll e.sc e.cells (rev (nL names l) []) e.m) λm=>aE (.next,m)
def Sl(cx:Cx Prop)(r:dZ Prop)(e:En)(t:Expr)(op:Operator)(x:Expr):M Prop (cB×Lo):=match t with
 |.Name n _=>bindM (load cx e n) λv=>jG e.m (r.ev e x) λw=>bindM (Om op v w) λu=>bindM (store e n u) λm=>aE (.next,m)|.Attribute o n _=>jG e.m (r.ev e o) λov=>bindM (zl cx ov n) λv=>bindM (aR (iB (!v.2))) λ_=>jG e.m (r.ev e x) λw=>bindM (Om op v.1 w) λu=>bindM (nH cx ov n u) λ_=>aE (.next,e.m)|_=>bJ
structure Jw where
 f:Str
 x:Expr
def BV(it:Expr):Option Jw:=(D3 it).bind λc=>(nI c.1).bind λf=>(one c.2).bind λx=>some ⟨f,x⟩
def vG(v:MV)(σ:aq):Option It:=match v with
 |.c c=>match c with
  |.lst l=>some (.dO l)|.tup l=>some (.dO l)|_=>none
 |.ref n=>match listOf σ n with
  |some _=>some (.seq (.ref n) 0)|none=>none
 |_=>none
def ry:MV->Option Unit
 |.c c=>match c with
  |.type n=>iB (n=="range")|_=>none
 |_=>none
def Sm(cx:Cx Prop)(r:dZ Prop)(e:En)(t it:Expr)(body:cL):M Prop (cB×Lo):=match BV it with
 |some q=>bindM (load cx e q.f) λg=>bindM (aR (ry g)) λ_=>bindM (aR (iB (fV q.x&&!(cD q.f "super")))) λ_=>
   jG e.m (r.ev e q.x) λv=>bindM (aR (qu v)) λv=>bindM (aR (b8 v)) λk=>bindM (iG (0<=k.1/\k.1<aW)) λ_=>r.gh e t (.range 0 k.1) body
 |none=>bindM (aR (iB (plainQ it))) λ_=>jG e.m (r.ev e it) λv=>bindM (eE (vG v)) λi=>r.gh e t i body
noncomputable def Jx(hd:Hd)(n:Nat):Bool:=match hd with
 |.at h=>!(Nat.beq h n)|_=>true
noncomputable def raiseO(hd:Hd)(x:zq):zq:=match hd with
 |.at _=>⟨x.C,x.fs,x.t,false⟩|_=>x
def D6(cx:Cx Prop)(r:dZ Prop)(e:En)(x:Expr):M Prop (cB×Lo):=jG e.m (r.ev e x) λv=>bindM (aR (refOf v)) λn=>bindM (excAt n) λC=>bindM (aR (iB (cM cx C.C&&Jx e.hd n))) λ_=>bindM (kO e) λ_=>
 bindM (cU n (.exc C.C C.fs C.t (raiseO e.hd C).b)) λ_=>aE (.err n,e.m)
noncomputable def UA:Hd->Option Nat
 |.at n=>some n|_=>none
noncomputable def Sn:Arguments->Option (List Arg)
 |⟨po,ps,va,ko,kd,kw,df⟩=>match po with
  | []=>match va with
   |none=>match ko with
    | []=>match kd with
     | []=>match kw with
      |none=>match df with
       | []=>some ps|_::_=>none
      |some _=>none
     |_::_=>none
    |_::_=>none
   |some _=>none
  |_::_=>none
def So(cx:Cx Prop)(r:dZ Prop)(e:En)(body:cL)(hs:List ExceptHandler)(orelse fin:cL):M Prop (cB×Lo):=match fin with
 | []=>bindM (aR (iB (!(isNil hs)))) λ_=>Uy cx r e body hs orelse|f::fs=>bindM (Uy cx r e body hs orelse) (Ov r e (f::fs))
def mZ(cx:Cx Prop)(r:dZ Prop)(e:En)(s:Stmt):M Prop (cB×Lo):=match s with
 |.Expr x _=>bindM (aR (iB (xm x))) λ_=>jG e.m (r.ev e x) λ_=>aE (.next,e.m)|.Pass _=>aE (.next,e.m)|.Return x _=>jG e.m (vD r e x) λv=>aE (.ret v,e.m)|.Assign ts x _=>bindM (aR (one ts)) λt=>zx cx r e t x|.AugAssign t op x _=>Sl cx r e t op x|.If t a b _=>jG e.m (r.uW e t) λz=>match z with
  |true=>r.exs e a|false=>r.exs e b
 |.While t body els _=>bindM (aR (pJ els)) λ_=>r.DW e t body|.For t it body els _=>bindM (aR (pJ els)) λ_=>Sm cx r e t it body|.Raise x c _=>bindM (aR (zo c)) λ_=>match x with
  |some x=>D6 cx r e x|none=>bindM (aR (UA e.hd)) λn=>zw n e.m
 |.Try body hs orelse fin _=>So cx r e body hs orelse fin|.FunctionDef name args body decs Ow tps sc tsc bind _=>bindM (aR (Sn args)) λps=>bindM (aR (pJ decs)) λ_=>bindM (aR (zo Ow)) λ_=>bindM (aR (pJ tps)) λ_=>bindM (aR (zo tsc)) λ_=>ZK e name bind ps body sc|_=>bJ
def D7(cx:Cx Prop)(r:dZ Prop)(e:En):cL->M Prop (cB×Lo)
 | []=>aE (.next,e.m)|s::rest=>bindM (mZ cx r e s) λfm=>BU fm λm=>r.exs (fixed e m) rest
def turnF(fm:cB×Lo)(k:Lo->M Prop (cB×Lo)):M Prop (cB×Lo):=match fm.1 with
 |.next=>k fm.2|.cont=>k fm.2|.brk=>aE (.next,fm.2)|_=>aE fm
def dg(cx:Cx Prop)(r:dZ Prop)(e:En)(t:Expr)(it:It)(body:cL):M Prop (cB×Lo):=
 bindM (sF it) λn=>match n with
  |none=>bindM (kO e) λ_=>aE (.next,e.m)|some v=>bindM (gy cx r e t v.1) λam=>BU am λm=>bindM (r.exs (fixed e m) body) λfm=>turnF fm λm'=>r.gh (fixed e m') t v.2 body
def xo(cx:Cx Prop)(r:dZ Prop)(e:En)(t:Expr)(it:It)(body:cL):M Prop (cB×Lo):=match aD t.pos.line cx.BG with
 |some L=>L e t it body|none=>dg cx r e t it body
def xq(cx:Cx Prop)(r:dZ Prop)(e:En)(t:Expr)(body:cL):M Prop (cB×Lo):=
 jG e.m (r.uW e t) λz=>match z with
  |false=>aE (.next,e.m)|true=>bindM (r.exs e body) λfm=>turnF fm λm=>r.DW (fixed e m) t body
def xr(cx:Cx Prop)(r:dZ Prop)(e:En)(t:Expr)(body:cL):M Prop (cB×Lo):=match aD t.pos.line cx.BH with
 |some L=>L e t body|none=>xq cx r e t body
noncomputable def Zc(k:Str):List Str->Bool
 | []=>false|p::r=>match cD p k with|true=>true|false=>Zc k r
noncomputable def nM{α:Type}(ps:List Str):List (Str×α)->List (Str×α)->Option (List (Str×α))
 |sl,[]=>some sl|sl,p::r=>match Zc p.1 ps with
  |true=>match look p.1 sl with
   |none=>nM ps (app sl p) r|some _=>none
  |false=>none
noncomputable def nN{α:Type}:List (Str×α)->List (Str×α)->List (Str×α)
 |sl,[]=>sl|sl,p::r=>match look p.1 sl with
  |some _=>nN sl r|none=>nN (app sl p) r
noncomputable def qy{α:Type}(sl:List (Str×α)):List Str->List (Str×α)
 | []=>[]|p::ps=>match look p sl with|some v=>(p,v)::qy sl ps|none=>qy sl ps
noncomputable def zy{α:Type}(sl:List (Str×α)):List Str->Bool
 | []=>true|p::ps=>match look p sl with|some _=>zy sl ps|none=>false
def zA{α:Type}(ps:List Str)(ds:List α):List α:=ds.drop (len ds-len ps)
def pM{α:Type}(ps:List Str)(as:List α)(ks:List (Str×α))(ds:List α):Option (List (Str×α)):=match nM ps (nL ps as) ks with
 |some sl=>eF (Nat.ble (len as) (len ps)&&zy sl (ps.take (len ps-len (zA ps ds)))) (some (qy (nN sl (nL (ps.drop (len ps-len (zA ps ds))) (zA ps ds))) ps))|none=>none
noncomputable def isCell:NameKind->Bool
 |.cell=>true|_=>false
noncomputable def nO:List (Str×NameKind)->ja->M Prop ja
 | [],acc=>aE acc|p::r,acc=>match isCell p.2 with
  |true=>bindM (alloc (.cell none)) λn=>nO r ((p.1,n)::acc)|false=>nO r acc
def UB(fm:cB×Lo):M Prop (Ex MV):=match fm.1 with
 |.ret v=>dF v|.next=>dF (.c .none)|.err n=>bindM (noted n) λ_=>aE (.error n)|_=>bJ
def zB(cx:Cx Prop)(r:dZ Prop)(hd:Hd)(dp:Nat)(f:Fn)(cl:ja)(as:aY)(ks:Lo):M Prop (Ex MV):=
 bindM (aR (pM f.ps as ks (bT f.dflt))) λbs=>bindM (nO f.sc.names cl) λcells=>bindM (bindAll f.sc cells bs []) λm=>
 bindM (r.exs ⟨f.sc,cells,m,hd,dp⟩ f.body) UB
def nP(v:MV):M Prop Unit:=aR (lT v)
def mkInst(cx:Cx Prop)(r:dZ Prop)(hd:Hd)(dp:Nat)(a:Addr)(c:pH)(as:aY)(ks:Lo):M Prop (Ex MV):=match c.isExc with
 |false=>bindM (alloc (.inst a [])) λn=>bg (r.call hd dp (.c (.aA c.init)) (.ref n::as) ks) λv=>bindM (nP v) λ_=>dF (.ref n)|true=>bindM (aR (iB (isNil ks&&Nat.ble (len as) 100))) λ_=>bindM (alloc (.exc a [] false true)) λn=>bg (r.call hd dp (.c (.aA c.init)) (.ref n::as) []) λv=>bindM (nP v) λ_=>dF (.ref n)
def xu(cx:Cx Prop)(r:dZ Prop)(hd:Hd)(dp:Nat)(a:Addr)(f:Fn)(as:aY)(ks:Lo):M Prop (Ex MV):=match aD a cx.spec with
 |some S=>bindM (aR (pJ ks)) λ_=>S hd dp as|none=>zB cx r hd dp f [] as ks
noncomputable def ZN:MV->Option (Fn×ja)
 |.clo f cl=>some (f,cl)|_=>none
def sJ(cx:Cx Prop)(r:dZ Prop)(hd:Hd)(dp:Nat)(g:MV)(as:aY)(ks:Lo):M Prop (Ex MV):=match dp with
 |0=>bJ|dp+1=>match jr g with
  |some a=>match aD a cx.top.fns with
   |some f=>xu cx r hd dp a f as ks|none=>bindM (aR (aD a cx.top.cls)) λc=>mkInst cx r hd dp a c as ks
  |none=>bindM (aR (ZN g)) λq=>zB cx r hd dp q.1 q.2 as ks
def Sp(cx:Cx Prop)(r:dZ Prop):dZ Prop where
 ev:=Js cx r
 uW:=D4 cx r
 exs:=D7 cx r
 call:=sJ cx r
 gh:=xo cx r
 DW:=xr cx r
noncomputable def R(cx:Cx Prop):Nat->dZ Prop
 |0=>.dead|n+1=>Sp cx (R cx n)
end
noncomputable def zC(w:World):Option Shared:=PySem.W.openEnds treeTable PySem.Challenge.pw_qd0167_01 w 25000
noncomputable def ZO(o:Option Shared):Heap:=match o with
 |some s=>s.heap|none=>{}
def fH(w:World):Heap:=ZO (zC w)
theorem Ox{o:Option Shared}{s:Shared}(h:o=some s):ZO o=s.heap:=by subst h;rfl
def Aim(w:World):Prop:=∀(s:Shared)(its:bU),s.heap=(fH w).push { cls:=.type "list",data:=.seq its.toArray 0 }->(∀v∈its,∃i t,v =.int i t)->its.length<=63->
 ∀(Q:b7)(E:b7),(∀s',OldK s.heap s'.heap->s'.os=s.os->s'.gens=s.gens->Q (.bool true) s')->wpAny (model PySem.Challenge.pw_qd0167_01 w) callerA (PySem.call (.ref 1557) [.ref (fH w).objs.size]) Q E s
def w:World:=@Classical.epsilon World ⟨⟨λ_ _=>0,{ strHash:=λ_=>0,shareClass:=λ_=>0,mergeTok:=λt=>t,idOf:=λ_=>0,idOfShared:=λ_ _=>0,followText:=λ_=>true,idOfImm:=λ_=>0 }⟩⟩ λw=>¬Aim w
@[irreducible] noncomputable def prog:Program:=PySem.Challenge.pw_qd0167_01
abbrev Md:Model:=model prog w
abbrev Pm:Params:=w.params
inductive aH where
 |slot (i:Nat)|kL (o:Obj)|kept (o:Obj)|cur|tab (ps:ig)
structure Wd where
 aU:Addr->fy
 own:Addr->Option aH
 ρ:bR
structure Pt where
 W:Wd
 σ:aq
 s:Shared
structure Fr(cx:Cx Prop) where
 e:En
 env:Env
 A:Around
inductive Wd.Le(W W':Wd):Prop where
 |mk (aU:∀a o,W.aU a=some o->W'.aU a=some o) (kept:∀a o,W.own a=some (.kept o)->W'.own a=some (.kept o)) (kL:∀a o,W.own a=some (.kL o)->W'.own a=some (.kL o)) (cur:∀a,W.own a=some .cur->W'.own a=some .cur) (tab:∀a ps,W.own a=some (.tab ps)->W'.own a=some (.tab ps)) (ρ:∀i a,af W.ρ i=some a->af W'.ρ i=some a)
inductive kR(s s':Shared):Prop where
 |mk (gens:s'.gens=s.gens) (drawn:s'.drawn=s.drawn) (os:s'.os=s.os)
inductive Le(S S':Pt):Prop where
 |mk (W:S.W.Le S'.W) (same:kR S.s S'.s)
noncomputable abbrev aX(aj:ig)(n:Nat):Obj:={ cls:=.type "list",data:=.seq aj n }
noncomputable abbrev d7(aj:ig):Obj:={ cls:=.type "tuple",data:=.seq aj 0 }
noncomputable abbrev fL(C d:Addr):Obj:={ cls:=.ref C,dict:=some d,data:=.plain }
noncomputable abbrev kU(es:Array DictEntry)(ep:Nat):Obj:={ cls:=.type "dict",dict:=none,data:=.dict es ep,slots:= #[] }
inductive pN(g:Str->cK)(n:Nat)(es:Array DictEntry):Prop where
 |mk (ks:∀d∈es,∃x t,d.key =.str x t/\d.hash=PyData.keyHash Pm x) (sz:es.size<=n) (say:∀x,nsFind es x=g x)
inductive dU(g:Str->cK)(o:Obj)(n:Nat):Prop
 |mk (es:Array DictEntry) (ep:Nat) (e:o=kU es ep) (h:pN g n es)
inductive cW(i:Int):Value->Prop|mk (t:Nat):cW i (.int i t)
inductive cP(x:Str):Value->Prop|mk (t:Nat):cP x (.str x t)
inductive fY(F:Addr->fy)(R:bU->Prop):Value->Prop
 |mk (a:Addr) (xs:bU) (h:F a=some (d7 xs.toArray)) (r:R xs):fY F R (.ref a)
inductive uY(F:Addr->fy)(R:bU->Prop):Value->Prop
 |mk (a:Addr) (xs:bU) (n:Nat) (h:F a=some (aX xs.toArray n)) (r:R xs):uY F R (.ref a)
inductive Jy(F:Addr->fy)(n:Nat)(R:(Str->cK)->Prop):Value->Prop
 |mk (a:Addr) (o:Obj) (g:Str->cK) (h:F a=some o) (say:dU g o n) (r:R g):Jy F n R (.ref a)
inductive Gr(F:Addr->fy)(C:Addr)(n:Nat)(R:(Str->cK)->Prop):Value->Prop
 |mk (a d:Addr) (o:Obj) (g:Str->cK) (h:F a=some (fL C d)) (hd:F d=some o) (say:dU g o n) (r:R g):Gr F C n R (.ref a)
mutual
noncomputable def bw(F:Addr->fy):CV->Value->Prop
 |.none=>λx=>x =.none|.bool b=>λx=>x =.bool b|.int i=>cW i|.str s=>cP s|.at a=>match a with
  |.none=>λx=>x =.none|.int i=>cW i|.str s=>cP s
 |.aA a=>λx=>x =.ref a|.type n=>λx=>x =.type n|.blt n=>λx=>x =.builtin n|.tup l=>fY F (bO F l)|.lst l=>uY F (bO F l)|.obj C fs=>Gr F C (len fs) (jK F fs)|.dct es=>Jy F (len es) (jK F es)
noncomputable def bO(F:Addr->fy):az->bU->Prop
 | []=>λx=>x=[]|v::l=>λx=>∃y r,x=y::r/\bw F v y/\bO F l r
noncomputable def jK(F:Addr->fy):List (Str×CV)->(Str->cK)->Prop
 | []=>λg=>∀x,g x=none|p::r=>λg=>(∃y,g p.1=some y/\zD F p y)/\jK F r λx=>if p.1=x then none else g x
noncomputable def zD(F:Addr->fy):Str×CV->Value->Prop
 |(_,v)=>bw F v
end
noncomputable def eZ(ρ:bR):ja->List (Str×Addr)->Prop
 | []=>λl=>l=[]|p::r=>λl=>∃a l',l=(p.1,a)::l'/\af ρ p.2=some a/\eZ ρ r l'
noncomputable def lV(p:Arguments):Bool:=p.posonlyargs.isEmpty&&p.vararg.isNone&&p.kwonlyargs.isEmpty&&p.kw_defaults.isEmpty&&p.kwarg.isNone
inductive vH(oc:Obj):Prop
 |mk (vs:ig) (P:Addr) (q:Str) (t:Nat) (file:Str) (tf:Nat) (flags:Int) (tg:Nat) (inF:Bool) (text:Int) (tt:Nat) (e1:oc.cls =.type "code") (e2:oc.data =.fields vs) (e3:vs[1]?=some (.str q t)) (e4:vs[11]?=some (.ref P)) (e5:vs.getD 11 .none =.ref P) (e6:vs.getD 18 .none =.str file tf)
   (e7:vs.getD 7 .none =.int flags tg) (e8:vs.getD 9 .none =.bool inF) (e9:vs.getD 10 .none =.int text tt)
def jc(oc:Obj)(P:Addr):Prop:=oc.cls =.type "code" /\∃vs,oc.data =.fields vs/\vs[11]?=some (.ref P)
inductive jt(F:Addr->fy)(v:Value):Prop|mk (c:Addr) (oc:Obj) (e:v =.ref c) (h:F c=some oc) (k:vH oc)
inductive kW(F:Addr->fy)(f:Fn)(o:Obj)(fd:FuncData):Prop where
 |mk (data:o.data =.func fd) (cls:o.cls =.type "function") (body:fd.body =.stmts f.body) (sc:fd.scope=f.sc) (ps:fd.params.args.map (·.arg)=f.ps) (plain:lV fd.params=true) (globals:fd.globals=mainGlobals) (builtins:fd.builtins=builtinsNs) (code:jt F fd.code) (dflt:(f.dflt=[]/\fd.defaults =.none)∨fY F (bO F f.dflt) fd.defaults) (gen:f.sc.isGenerator=false) (cor:f.sc.isCoroutine=false) (kind:f.sc.kind =.function)
inductive iw(ρ:bR)(n:Nat):Value->Prop|mk (a:Addr) (h:af ρ n=some a):iw ρ n (.ref a)
inductive Oz(W:Wd)(f:Fn)(cl:ja):Value->Prop
 |mk (a:Addr) (o:Obj) (fd:FuncData) (h:W.aU a=some o) (r:kW W.aU f o fd) (c:eZ W.ρ cl fd.closure):Oz W f cl (.ref a)
mutual
noncomputable def ao(W:Wd):MV->Value->Prop
 |.c v=>bw W.aU v|.ref n=>iw W.ρ n|.tup l=>fY W.aU (ah W l)|.clo f cl=>Oz W f cl
noncomputable def ah(W:Wd):aY->bU->Prop
 | []=>λx=>x=[]|v::l=>λx=>∃y r,x=y::r/\ao W v y/\ah W l r
end
def nQ(W:Wd):Option MV->cK->Prop
 |some v,y=>∃z,y=some z/\ao W v z|none,y=>y=none
def gK(W:Wd)(m:Lo)(g:Str->cK):Prop:=∀x,nQ W (look x m) (g x)
def mz(W:Wd)(m:Lo)(g:Str->cK):Prop:=∀x v,look x m=some v->∃y,g x=some y/\ao W v y
def xw(ρ:bR)(l:ja)(l':List (Str×Addr)):Prop:=∀x n,look x l=some n->∃a,af ρ n=some a/\l'.lookup x=some a
inductive gY(W:Wd)(i:Nat)(a:Addr)(h:Heap)(l:aY):Prop
 |mk (xs:bU) (n:Nat) (ow:W.own a=some (.slot i)) (g:h.get? a=some (aX xs.toArray n)) (r:ah W l xs) (sz:xs.length<=2*aW)
inductive Gs(W:Wd)(i:Nat)(a:Addr)(h:Heap)(k:Nat):Prop
 |mk (xs:bU) (n:Nat) (ow:W.own a=some (.slot i)) (g:h.get? a=some (aX xs.toArray n)) (e:xs.length=k) (sz:xs.length<=2*aW)
inductive d8(W:Wd)(i:Nat)(fs:Lo)(d:Addr)(h:Heap):Prop
 |mk (o:Obj) (g:Str->cK) (ow:W.own d=some (.slot i)) (e:h.get? d=some o) (say:dU g o (len fs)) (r:gK W fs g)
inductive uZ(W:Wd)(i:Nat)(a:Addr)(h:Heap)(v:CV)(ks:gI):Prop
 |mk (o:Obj) (es:Array DictEntry) (ep:Nat) (ow:W.own a=some (.slot i)) (e:h.get? a=some o) (x:o.ExactDict) (d:o.data =.dict es ep) (k:IntKeys es) (sz:es.size<=len ks)
   (dom:∀k,(findBy Value.isInt es k).isSome=decide (k∈ks)) (val:∀k x,findBy Value.isInt es k=some x->bw W.aU v x)
inductive nR(W:Wd)(i:Nat)(a:Addr)(h:Heap)(C:Addr)(fs:Lo):Prop
 |mk (d:Addr) (ow:W.own a=some (.slot i)) (ne:a≠d) (g:h.get? a=some (fL C d)) (c:d8 W i fs d h)
inductive Zd(W:Wd)(i:Nat)(a:Addr)(h:Heap)(vs:ig):Bool->Prop
 |no (e:vs[1]?=some .none):Zd W i a h vs false|yes (t:Bool) (T:Addr) (o:Obj) (ts:ig) (e:vs[1]?=some (.ref T)) (ow:W.own T=some (.slot i)) (ne:T≠a) (g:h.get? T=some o) (d:o.data =.fields ts) (sz:3<ts.size):Zd W i a h vs t
inductive xx(W:Wd)(i:Nat)(a:Addr)(h:Heap)(vs:ig):Lo->Option Addr->Prop
 |no:xx W i a h vs [] none|yes (fs:Lo) (d:Addr) (ne:d≠a) (nt:vs[1]?≠some (.ref d)) (c:d8 W i fs d h):xx W i a h vs fs (some d)
inductive zE(W:Wd)(i:Nat)(a:Addr)(h:Heap)(C:Addr)(fs:Lo)(t b:Bool):Prop
 |mk (o:Obj) (vs:ig) (ow:W.own a=some (.slot i)) (g:h.get? a=some o) (cls:o.cls =.ref C) (d:o.data =.fields vs) (sz:6<=vs.size) (tb:Zd W i a h vs t) (cx:b=true->vs[2]?=some .none) (di:xx W i a h vs fs o.dict)
inductive zF(W:Wd)(i:Nat)(a:Addr)(h:Heap):Option MV->Prop
 |no (o:Obj) (ow:W.own a=some (.slot i)) (g:h.get? a=some o) (d:o.data =.cell none):zF W i a h none|yes (v:MV) (x:Value) (o:Obj) (ow:W.own a=some (.slot i)) (g:h.get? a=some o) (d:o.data =.cell (some x)) (r:ao W v x):zF W i a h (some v)
def u0(W:Wd)(i:Nat)(a:Addr)(h:Heap):SC->Prop
 |.nil=>True|.inst C fs=>nR W i a h C (gX fs)|.dict fs=>d8 W i (gX fs) a h|.list l=>gY W i a h (bT l)
inductive sL(W:Wd)(i:Nat)(a:Addr)(h:Heap)(l:List (Addr×SC)):Prop
 |mk (own:Addr->Option aH) (e:∀b j,own b=some (.slot j)->W.own b=some (.slot i)) (top:∀p,af l 0=some p->p.1=a) (c:∀j p,af l j=some p->u0 ⟨W.aU,own,[]⟩ j p.1 h p.2)
def br(W:Wd)(i:Nat)(a:Addr)(h:Heap):MO->Prop
 |.gone=>True|.list pre back=>gY W i a h (cat (bT pre) (rev back []))|.vB k=>Gs W i a h k|.dict fs=>d8 W i fs a h|.known v ks=>uZ W i a h v ks|.inst C fs=>nR W i a h C fs|.exc C fs t b=>zE W i a h C fs t b|.cell v=>zF W i a h v|.box l=>sL W i a h l|.uU v A=>ao W v (.ref A)
inductive TabsOk(W:Wd)(h:Heap):Prop where
 |mk (codes:∀a o P,W.aU a=some o->jc o P->∃q,W.own P=some (.tab q)) (tabs:∀P q,W.own P=some (.tab q)->∃ps,h.get? P=some (PySem.W.tabObj ps)/\TriplesOk ps.toList/\(∀pos v,codeAmong pos ps.toList=some v->jt W.aU v)/\∃more,ps=q++more)
inductive Inv(W:Wd)(σ:aq)(h:Heap):Prop where
 |mk (aU:∀a o,W.aU a=some o->h.get? a=some o) (kept:∀a o,W.own a=some (.kept o)->h.get? a=some o) (kL:∀a o,W.own a=some (.kL o)->∃sl,h.get? a=some { o with slots:=sl }) (apart:∀a r,W.own a=some r->W.aU a=none) (fresh:∀a,h.objs.size<=a->W.own a=none) (len:len σ=len W.ρ) (cell:∀i o a,af σ i=some o->af W.ρ i=some a->br W i a h o) (tabs:TabsOk W h) (ahN:∀a,W.own a=some .cur->∃o,h.get? a=some o)
inductive dH(W:Wd):Hd->cK->Prop
 |no:dH W .no none|at (n:Nat) (a:Addr) (h:af W.ρ n=some a):dH W (.at n) (some (.ref a))|other (a:Addr):dH W .other (some (.ref a))
noncomputable def sM:Nat:=6
noncomputable def kX:Nat:=60
inductive Sq(W:Wd)(x:Env):Prop|mk (k:x.scope.kind≠ .module) (L:Addr) (o:Obj) (f:x.frame=some L) (ow:W.own L=some (.kL o)) (nf:∀vs,o.data≠ .fields vs)
inductive xy(W:Wd)(e:En)(env:Env)(A:Around):Prop where
 |mk (hd:dH W e.hd A.handled) (depth:A.depth+sM*e.dp<recursionLimit) (units:A.units+kX*e.dp+kX<cLine) (frames:∃outer,A.frames=some (env::outer)/\∀x∈outer,Sq W x) (guards:A.guards=some [])
inductive mG(W:Wd)(e:En)(env:Env)(h:Heap):Prop where
 |mk (sc:env.scope=e.sc) (kind:e.sc.kind =.function) (cur:W.own env.locals=some .cur) (ns:∃g,h.Ns env.locals g/\mz W e.m g) (cells:xw W.ρ e.cells env.cells) (globals:env.globals=mainGlobals) (builtins:env.builtins=builtinsNs) (frame:env.frame=some env.locals) (code:jt W.aU env.code)
noncomputable def sN(K:PySem.W.Frag)(C:Addr)(f:Addr):Bool:=
 PySem.W.findIn K (.ref C) "__init__" == some (some (.ref f))&&PySem.W.typeIn K (.ref f)==some (.type "function")
noncomputable def Jz(K:PySem.W.Frag)(C C':Addr)(bm:bU)(n:String)(cd:ClassData):Bool:=
 C'==C&&n=="Exception.__new__" && !cd.hasDel&&bm.contains (.type "Exception")&&!bm.contains (.type "AttributeError")&&!bm.contains (.type "NameError") &&
  PySem.W.specialIn K (.ref C) "__call__" == some (some (.builtin "type.__call__"))&&PySem.W.instIn K (.ref C) (.type "type")==some true
inductive iJ(K:PySem.W.Frag)(C:Addr):Prop
 |mk (C':Addr) (bm:bU) (n:String) (cd:ClassData) (di:Option Addr) (sl:Array cK) (s0 s1 s2 s3 s5:cK) (e:K.lookup C=some ⟨.type "type",di,.cls cd,sl⟩) (m:cd.mro =.ref C'::bm) (l:sl.toList=[s0,s1,s2,s3,some (.builtin n),s5]) (c:Jz K C C' bm n cd=true)
abbrev mH(K:PySem.W.Frag)(C:Addr)(c:pH):Prop:=P13 (PySem.W.typeIn K (.ref C)=some (.type "type")) (j6 C c.mro=true) (c.isExc=false->PySem.W.findIn K (.ref C) "__class__" = some (some (.builtin "object.__class__"))/\PySem.W.mroIn K C (.type "object")=some true) (∃cd,PySem.W.clsIn K C=some cd/\cd.hasDict=true/\(∀D,j6 D c.mro=cd.mro.contains (.ref D))/\cd.mro.isEmpty=false/\(∀n∈["int","str","list","tuple","dict"],cd.mro.contains (.type n)=false)) (∀x f,look x c.attrs=some (some f)->PySem.W.findIn K (.ref C) x=some (some (.ref f))/\PySem.W.typeIn K (.ref f)=some (.type "function")/\∃mc,PySem.W.readsIn K C mc=true/\PySem.W.findCls K (.ref C) mc x=some (.val (.ref f))) (∀x,look x c.attrs=some none->PySem.W.findIn K (.ref C) x=some none) (sN K C c.init=true) (PySem.W.specialIn K (.ref C) "__getattribute__" = some (some (.builtin "type.__getattribute__"))) (c.isExc=false->PySem.W.makesIn K C=true) (c.isExc=false->PySem.W.findIn K (.ref C) "__getattribute__" = some (some (.builtin "object.__getattribute__"))) (c.isExc=false->PySem.W.findIn K (.ref C) "__getattr__" = some none) (c.isExc=false->PySem.W.findIn K (.ref C) "__setattr__" = some (some (.builtin "object.__setattr__"))) (c.isExc=false->PySem.W.plainOver K C=true)
noncomputable def lW:bU->Bool
 | []=>false|v::r=>match v with
  |.ref _=>lW r|v=>v::r==[.type "Exception",.type "BaseException",.type "object"]
abbrev zG(K:PySem.W.Frag)(C:Addr):Prop:=P7 (iJ K C) (PySem.W.typeIn K (.ref C)=some (.type "type")) (PySem.W.mroIn K C (.type "BaseException")=some true) (∃cd,PySem.W.clsIn K C=some cd/\cd.hasDict=true/\lW cd.mro=true) (PySem.W.findIn K (.ref C) "__getattribute__" = some (some (.builtin "BaseException.__getattribute__"))) (PySem.W.findIn K (.ref C) "__getattr__" = some none) (PySem.W.findIn K (.ref C) "__setattr__" = some (some (.builtin "object.__setattr__")))
inductive aer(F:Addr->fy):Prop|mk (o:Obj) (es:Array DictEntry) (ep:Nat) (h:F cStatics=some o) (d:o.data =.dict es ep) (k:StrKeys es) (e:nsFind es "sys.recursionlimit" = none)
inductive BmF(F:Addr->fy):Prop
 |mk (og:Obj) (g:Str->cK) (n:Nat) (bm:Addr) (ob:Obj) (h:F mainGlobals=some og) (say:dU g og n) (e:g "__builtins__" = some (.ref bm)) (n1:bm≠builtinsNs) (n2:bm≠mainGlobals) (hb:F bm=some ob) (c:ob.cls =.type "module") (d:ob.dict=some builtinsNs) (p:ob.data =.plain)
inductive FnF(F:Addr->fy)(a:Addr)(f:Fn):Prop|mk (o:Obj) (fd:FuncData) (h:F a=some o) (r:kW F f o fd) (c:fd.closure=[])
inductive ZP(F:Addr->fy)(m:List (Str×CV)):Prop
 |mk (og ob:Obj) (mg mb:Str->cK) (n1 n2:Nat) (hg:F mainGlobals=some og) (sg:dU mg og n1) (hb:F builtinsNs=some ob) (sb:dU mb ob n2)
   (v:∀x v,look x m=some v->(∃y,mg x=some y/\bw F v y)∨(mg x=none/\∃y,mb x=some y/\bw F v y))
inductive iK(cx:Cx Prop)(F:Addr->fy):Prop where
 |mk (sys:∃o,F sysModules=some o) (limit:aer F) (cH:∀a o,cx.top.cH.lookup a=some o->F a=some o) (bmain:BmF F) (cls:∀C c,aD C cx.top.cls=some c->mH cx.top.cH C c) (exc:∀C c,aD C cx.top.cls=some c->c.isExc=true->zG cx.top.cH C) (fns:∀a f,aD a cx.top.fns=some f->FnF F a f) (glob:ZP F cx.top.glob)
inductive Ok{cx:Cx Prop}(F:Fr cx)(S:Pt):Prop where
 |mk (inv:Inv S.W S.σ S.s.heap) (en:mG S.W F.e F.env S.s.heap) (top:iK cx S.W.aU) (ahP:xy S.W F.e F.env F.A)
inductive bH{cx:Cx Prop}(F:Fr cx)(S S':Pt):Prop where
 |mk (le:Le S S') (ok:Ok F S')
inductive eL(σ:aq)(n:Nat):Prop|mk (C:Addr) (fs:Lo) (t b:Bool) (h:af σ n=some (.exc C fs t b))
def Ev{cx:Cx Prop}(F:Fr cx){α β:Type}(V:Wd->β->α->Prop)(k:β->aq->Prop)(S:Pt)(Q:α->Shared->Prop):Prop:=∀S' b a,bH F S S'->V S'.W b a->k b S'.σ->Q a S'.s
def Er{cx:Cx Prop}(F:Fr cx)(k:Nat->aq->Prop)(S:Pt)(E:b7):Prop:=∀S' n a,bH F S S'->af S'.W.ρ n=some a->eL S'.σ n->k n S'.σ->E (.ref a) S'.s
set_option genInjectivity false
noncomputable def prg:cL:=PySem.Challenge.pw_qd0167_01.main.body
def stA(i:Nat):Stmt:=match af prg i with|some s=>s|none=>.Pass ⟨0,0,0,0⟩
def clA(i j:Nat):Stmt:=match stA i with
 |.ClassDef _ _ _ b _ _ _ _ _ _ _=>(match af b j with|some s=>s|none=>.Pass ⟨0,0,0,0⟩)
 |_=>.Pass ⟨0,0,0,0⟩
noncomputable def psA:List Arg->List Str
 | []=>[]|p::r=>p.arg::psA r
def ZQ(s:Stmt)(d:az):Fn:=match s with
 |.FunctionDef n a b _ _ _ sc _ _ _=>⟨n,psA a.args,d,b,sc⟩|_=>⟨Str.empty,[],[],[],⟨.module,[],false,false,[]⟩⟩
noncomputable def fnL(f:Nat->Stmt):List (Addr×Nat)->List (Addr×Fn)
 | []=>[]|p::r=>(p.1,ZQ (f p.2) [])::fnL f r
noncomputable def clL:List (Nat×List (Addr×Nat))->List (Addr×Fn)
 | []=>[]|p::r=>cat (fnL (clA p.1) p.2) (clL r)
def fM:List (Addr×Fn):=cat (fnL stA [(28,3),(257,18),(264,19),(271,20),(301,29),(329,33),(336,34),(343,35),(350,36),(414,46),(421,47),(635,67),(642,68),(649,69),(712,75),(719,76),(726,81),(733,82),(740,83),(747,84),(754,85),(761,86),(768,87),(775,88),(782,89),(789,90),(796,91),(872,107),(879,108),(886,109),(893,110),(900,111),(907,112),(1087,122),(1115,127),(1129,131),(1134,132),(1141,133),(1148,134),(1155,137),(1162,138),(1247,145),(1254,146),(1261,147),(1268,148),(1275,149),(1282,150),(1289,151),(1296,152),(1466,163),(1473,164),(1480,165),(1487,167),(1494,168),(1501,169),(1508,170),(1515,171),(1522,172),(1529,173),(1536,174),(1543,175),(1550,176),(1557,177)]) (cat (clL [(6,[(42,0)]),(7,[(63,0)]),(8,[(82,0)]),(10,[(120,0)]),(11,[(139,0)]),(13,[(180,0),(187,1),(194,2),(201,3),(208,4),(215,5),(222,6)]),(53,[(463,0)]),(54,[(483,0)]),(55,[(502,0)]),(56,[(521,0)]),(57,[(540,0)]),(58,[(559,0)]),(65,[(621,0)]),(71,[(663,0)]),(72,[(684,0)]),(93,[(810,0)]),(94,[(831,0)]),(105,[(855,0)]),(142,[(1191,0),(1198,1),(1205,2),(1212,3),(1219,4),(1226,5),(1233,6)]),(159,[(1355,0),(1362,1),(1369,2),(1376,3),(1383,4),(1388,5),(1395,6),(1402,7),(1409,8),(1416,9),(1423,10),(1430,11)])]) [(159,ZQ (clA 12 0) [(.bool false)]),(1170,ZQ (stA 139) [(.bool false)]),(1452,ZQ (clA 161 0) [(.int 64),(.int 50),(.int 1000000),(.int 100000),(.int 10000)])])
noncomputable def gE(x:String)(v:CV):Str×CV:=(Str.ofString x,v)
noncomputable def aN:List String->List (Str×Option Addr)
 | []=>[]|x::r=>(Str.ofString x,none)::aN r
noncomputable def aS(l:List String):List (String×Addr)->List (Str×Option Addr)
 | []=>aN l|p::r=>(Str.ofString p.1,some p.2)::aS l r
noncomputable def faL:bR->az
 | []=>[]|a::r=>.aA a::faL r
def cE(C:Addr)(e:Bool)(i:Addr)(m:bR)(s:List (String×Addr))(n:List String):Addr×pH:=(C,⟨Str.empty,e,i,faL m,aS n s⟩)
def BW:List (Addr×pH):=[
 cE 45 false 42 [45] [("__init__",42)] ["blessed","count","is_destroyed","is_freed","number","weak"],
 cE 66 false 63 [66,45] [("__init__",63)] ["magic","value","blessed","count","is_destroyed","is_freed","number","weak"],
 cE 85 false 82 [85,45] [("__init__",82)] ["items","tied","blessed","count","is_destroyed","is_freed","number","weak"],
 cE 123 false 120 [123,45] [("__init__",120)] ["builtin","captures","package","sub","blessed","count","is_destroyed","is_freed","number","weak"],
 cE 142 false 139 [142,45] [("__init__",139)] ["array","code","hash","name","scalar","blessed","count","is_destroyed","is_freed","number","weak"],
 cE 162 false 159 [162] [("__init__",159)] ["is_weak","target"],
 cE 225 false 180 [225] [("__init__",180),("next_number",187),("new_scalar",194),("new_array",201),("new_hash",208),("new_code",215),("new_glob",222)] ["last","limits","zero"],
 cE 466 true 463 [466] [("__init__",463)] ["text"],
 cE 486 true 483 [486,466] [("__init__",483)] ["value","text"],
 cE 505 true 502 [505,466] [("__init__",502)] ["kind","label","text"],
 cE 524 true 521 [524,466] [("__init__",521)] ["value","text"],
 cE 543 true 540 [543,466] [("__init__",540)] ["line","text"],
 cE 562 true 559 [562,466] [("__init__",559)] ["at","text"],
 cE 574 true 463 [574,466] [("__init__",463)] ["text"],
 cE 624 false 621 [624] [("__init__",621)] ["args","code","line","package","pad","want"],
 cE 666 false 663 [666] [("__init__",663)] ["call_code","compile_sub","compile_text","counter","err","frames","funcs","heap","limits","lvs","match","methods","operators","out","patterns","rows","saves","stash","steps"],
 cE 687 false 684 [687] [("__init__",684)] ["code","frame","loops","marks","stack","starts"],
 cE 813 false 810 [813] [("__init__",810)] ["captures","name","pad_size","rows","subs"],
 cE 834 false 831 [834,813] [("__init__",831)] ["weights","captures","name","pad_size","rows","subs"],
 cE 858 false 855 [858,624] [("__init__",855)] ["known","piled","weights","args","code","line","package","pad","want"],
 cE 1236 false 1191 [1236] [("__init__",1191),("glob_of",1198),("scalar_of",1205),("array_of",1212),("hash_of",1219),("code_of",1226),("find_array",1233)] ["generation","globs","heap"],
 cE 1433 false 1355 [1433] [("__init__",1355),("hold",1362),("let_go",1369),("note",1376),("take",1383),("put_off",1388),("store",1395),("fresh",1402),("drop",1409),("settle",1416),("finish",1423),("free",1430)] ["destroy","empties","heap","places"],
 cE 1455 false 1452 [1455] [("__init__",1452)] ["depth","items","steps","text","width"]]
noncomputable def gL:List (String×Addr)->List (Str×CV)
 | []=>[]|p::r=>(Str.ofString p.1,.aA p.2)::gL r
def jd:List (Str×CV):=cat (gL [("number_text",28),("Thing",45),("Scalar",66),("Array",85),("Code",123),("Glob",142),("Ref",162),("Heap",225),("value_of",257),("to_text",264),("truth_value",271),("local_scalar",301),("local_array",308),("local_hash",315),("let_go_of",329),("leave",414),("is_match_name",421),("PerlError",466),("Die",486),("LoopLeave",505),("SubReturn",524),("SyntaxDie",543),("BadPattern",562),("BadTemplate",574),("Frame",624),("blank_value",635),("with_line",642),("count_step",649),("Machine",666),("Act",687),("row_done",712),("run_rows",719),("taken_last",726),("push_given",733),("row_const",740),("row_drop",747),("row_wrap",754),("row_fetch",761),("row_wanted",768),("row_return_nothing",775),("row_return_entry",782),("row_subreturn",789),("row_line",796),("OpsCode",813),("WeighedCode",834),("CallFrame",858),("code_weights",872),("weights_seen",879),("piled_behind",886),("check_pile",893),("called_frame",900),("check_reading",907),("lv_glob_scalar",1087),("lv_glob_array",1094),("lv_glob_hash",1101),("kept_value",1115),("captured_things",1129),("copied_result",1134),("lay_args",1141),("check_call",1148),("set_error",1155),("left_by",1162),("guarded_value",1170),("Stash",1236),("given_by",1247),("ops_code_made",1254),("entered_ops",1261),("call_ops_with",1268),("row_func",1275),("row_evalblock",1282),("row_evalstr",1289),("eval_rows",1296),("Counter",1433),("Limits",1455),("row_glob",1466),("row_assign",1473),("row_localglob",1480),("_law_faults",1487),("_law_lot",1494),("_law_deeds",1501),("_law_end",1508),("_law_code",1515),("_law_eval_rows",1522),("_law_with_line",1529),("_law_go",1536),("_law_guard",1543),("_law_machine",1550),("law",1557)]) [
 gE "FIGURES" ((.str "0123456789")),
 gE "MATCH_SIGNS" ((.tup [(.str "&"),(.str "`"),(.str "'"),(.str "+")])),
 gE "UNDOERS" ((.dct [gE "scalar" ((.aA 336)),gE "array" ((.aA 343)),gE "hash" ((.aA 350)),gE "code" ((.aA 357)),gE "elem" ((.aA 364)),gE "helem" ((.aA 371)),gE "pad" ((.aA 385)),gE "slot" ((.aA 392)),gE "match" ((.aA 399)),gE "package" ((.aA 406)),gE "tiedelem" ((.aA 378)),gE "tiedkey" ((.aA 378))])),
 gE "VOID_frames" ((.int 0)),
 gE "LIST_frames" ((.int 2)),
 gE "VOID_machinerows" ((.int 0)),
 gE "SCALAR" ((.int 1)),
 gE "LIST_machinerows" ((.int 2)),
 gE "MOST_PILED" ((.int 880)),
 gE "CALL_COST" ((.int 4)),
 gE "LEAF_COST" ((.int 10)),
 gE "SIGN_COST" ((.int 5)),
 gE "READING_COST" ((.int 500)),
 gE "UNTOLD" ((.tup [(.int 0),(.int 0)])),
 gE "ARGS_NAME" ((.str "main::_")),
 gE "ERROR_NAME" ((.str "main::@")),
 gE "TOPIC" ((.str "main::_")),
 gE "len" (.blt "len"),gE "isinstance" (.blt "isinstance"),gE "min" (.blt "min"),gE "repr" (.blt "repr"),gE "range" (.type "range"),gE "str" (.type "str"),gE "int" (.type "int"),gE "list" (.type "list"),gE "tuple" (.type "tuple"),gE "Exception" (.type "Exception")]
noncomputable def BX:bR:=[2,45,44,66,65,85,84,123,122,142,141,162,161,225,224,466,465,486,485,505,504,524,523,543,542,562,561,574,573,624,623,666,665,687,686,813,812,834,833,858,857,1236,1235,1433,1432,1455,1454,42,63,82,120,139,159,180,187,194,201,208,215,222,463,483,502,521,540,559,621,663,684,810,831,855,1191,1198,1205,1212,1219,1226,1233,1355,1362,1369,1376,1383,1388,1395,1402,1409,1416,1423,1430,1452]
noncomputable def fragOf(g:Addr->fy):bR->List (Addr×Obj)
 | []=>[]|a::r=>match g a with
  |some o=>(a,o)::fragOf g r|none=>fragOf g r
def OA:List (Addr×Obj):=fragOf (fH w).get? BX
def cg:Top:={ glob:=jd,fns:=fM,cls:=BW,cH:=OA }
noncomputable def mC(v:Value)(n:String):Bool:=match v with
 |.type m=>m==n|_=>false
noncomputable def zH{α:Type}:Option α->Bool
 |none=>true|some _=>false
def zI(o:Obj):Bool:=zH o.dict&&isNil o.slots.toList
noncomputable def zJ:Value->Option Str
 |.str s _=>some s|_=>none
noncomputable def BY:List DictEntry->Bool
 | []=>true|e::r=>lS (zJ e.key)&&BY r
def sO(x:Str)(v:Value):Bool:=match zJ v with
 |some s=>cD s x|none=>false
noncomputable def fc(x:Str):List DictEntry->cK
 | []=>none|e::r=>match sO x e.key with
  |true=>some e.val|false=>fc x r
def Ze(v:CV)(y:Value):Bool:=match v with
 |.none=>match y with
  |.none=>true|_=>false
 |.bool b=>match y with
  |.bool c=>b==c|_=>false
 |.int i=>match y with
  |.int j _=>IX i j|_=>false
 |.str s=>match y with
  |.str t _=>cD s t|_=>false
 |.aA a=>match y with
  |.ref b=>Nat.beq a b|_=>false
 |.type n=>mC y n|.blt n=>match y with
  |.builtin m=>m==n|_=>false
 |_=>false
noncomputable def OB:az->bU->Bool
 | [],l=>isNil l|v::r,l=>match l with
  | []=>false|y::t=>Ze v y&&OB r t
def aev(x:Str)(e:DictEntry):Bool:=sO x e.key
noncomputable def UC:List (Str×CV)->List DictEntry->Bool
 | [],l=>isNil l|p::r,l=>match l with
  | []=>false|e::t=>aev p.1 e&&Ze p.2 e.val&&zH (fc p.1 t)&&UC r t
section
variable(g:Addr->fy)
def nS(a:Addr):Option (List DictEntry):=match g a with
 |some o=>match o.data with
  |.dict es _=>eF (mC o.cls "dict" && zI o&&BY es.toList) (some es.toList)|_=>none
 |none=>none
def OC(a:Addr):Option bU:=match g a with
 |some o=>match o.data with
  |.seq xs n=>eF (mC o.cls "tuple" && zI o&&Nat.beq n 0) (some xs.toList)|_=>none
 |none=>none
noncomputable def nT{α:Type}(o:Option α)(p:α->Bool):Bool:=match o with
 |some a=>p a|none=>false
noncomputable def sP:Value->Option Addr
 |.ref a=>some a|_=>none
def crB(v:CV)(y:Value):Bool:=match v with
 |.tup l=>nT (sP y) λa=>nT (OC g a) (OB l)|.dct es=>nT (sP y) λa=>nT (nS g a) (UC es)|v=>Ze v y
noncomputable def OD(m b:List DictEntry):List (Str×CV)->Bool
 | []=>true|p::r=>(match fc p.1 m with
  |some y=>crB g p.2 y|none=>nT (fc p.1 b) (Ze p.2))&&OD m b r
def BZ(o:cK):Bool:=match o with
 |some v=>lS (zJ v)|none=>false
noncomputable def sQ(o:cK):Bool:=match o with
 |some v=>match v with
  |.int _ _=>true|_=>false
 |none=>false
noncomputable def D8(o:cK):Bool:=match o with
 |some v=>match v with
  |.bool _=>true|_=>false
 |none=>false
def aex(l:bU):Bool:=BZ (af l 1)&&lS ((af l 11).bind sP)&&BZ (af l 18)&&sQ (af l 7)&&D8 (af l 9)&&sQ (af l 10)
def B0(o:Obj):Bool:=match o.data with
 |.fields vs=>aex vs.toList&&mC o.cls "code" |_=>false
def UD(v:Value):Bool:=nT ((sP v).bind g) B0
noncomputable def JA:bU->Bool
 | []=>true|v::r=>sQ (some v)&&match r with
  | []=>false|u::r=>sQ (some u)&&match r with
   | []=>false|c::r=>UD g c&&JA r
noncomputable def rz(v:Value):Bool:=match v with
 |.none=>true|_=>false
def JB(o:Obj):Bool:=match o.data with
 |.fields vs=>rz o.cls&&zI o&&JA g vs.toList|_=>false
def ZR(o:Obj):Bool:=match o.data with
 |.fields vs=>match (af vs.toList 11).bind sP with
  |some P=>!(mC o.cls "code")||nT (g P) (JB g)|none=>true
 |_=>true
noncomputable def D9:Nat->(Nat->Bool)->Bool
 |0,_=>true|n+1,f=>f n&&D9 n f
def JC(a:Addr):Option FuncData:=match g a with
 |some o=>match o.data with
  |.func fd=>eF (mC o.cls "function") (some fd)|_=>none
 |none=>none
def UE(l:az)(v:Value):Bool:=match sP v with
 |some a=>nT (OC g a) (OB l)|none=>rz v&&isNil l
noncomputable def kindB:ScopeKind->Bool
 |.function=>true|_=>false
def fnB(f:Fn)(fd:FuncData):Bool:=lV fd.params&&Nat.beq fd.globals mainGlobals&&Nat.beq fd.builtins builtinsNs&&UD g fd.code&&UE g f.dflt fd.defaults&&!f.sc.isGenerator&&!f.sc.isCoroutine&&kindB f.sc.kind&&isNil fd.closure
noncomputable def UG:List (Addr×Fn)->Bool
 | []=>true|p::r=>nT (JC g p.1) (fnB g p.2)&&UG r
noncomputable def fnD(f:FuncData):FuncBody×Scope×List Str:=(f.body,f.scope,f.params.args.map (·.arg))
noncomputable def B3:List (Addr×Fn)->List (Option (FuncBody×Scope×List Str))
 | []=>[]|p::r=>(JC g p.1).map fnD::B3 r
noncomputable def B4:List (Addr×Fn)->List (Option (FuncBody×Scope×List Str))
 | []=>[]|p::r=>some (.stmts p.2.body,p.2.sc,p.2.ps)::B4 r
noncomputable def B5:bR->List gI
 | []=>[]|a::r=>(match nS g a with|some l=>l.map (·.hash)|none=>[])::B5 r
noncomputable def B6(P:Params):bR->List gI
 | []=>[]|a::r=>(match nS g a with|some l=>l.map λe=>PyData.keyHash P (match zJ e.key with|some s=>s|none=>Str.empty)|none=>[])::B6 P r
end
section
variable(K:List (Addr×Obj))(C:Addr)
noncomputable def sR:az->cI
 | []=>[]|v::r=>match v with
  |.aA a=>a::sR r|_=>sR r
def Ss{α:Type}(l:List α)(f:α->List α->Bool):Bool:=match l with
 | []=>false|a::r=>f a r
def ZS(v:Value)(f:Addr->Bool):Bool:=match v with
 |.ref a=>f a|_=>false
def ZT(v:Value)(f:String->Bool):Bool:=match v with
 |.builtin a=>f a|_=>false
noncomputable def refsOf:bU->cI
 | []=>[]|v::r=>match v with
  |.ref a=>a::refsOf r|_=>refsOf r
def oB(o:Option cK)(p:Value->Bool):Bool:=match o with
 |some r=>nT r p|none=>false
noncomputable def qz(n:String)(v:Value):Bool:=match v with
 |.builtin m=>m==n|_=>false
noncomputable def isRef(a:Addr)(v:Value):Bool:=match v with
 |.ref b=>Nat.beq b a|_=>false
def OE{α:Type}(o:Option (Option α)):Bool:=match o with
 |some r=>zH r|none=>false
def ZU(o:Option PySem.W.CFound)(f:Addr):Bool:=match o with
 |some r=>match r with
  |.val v=>isRef f v|_=>false
 |none=>false
noncomputable def JD:List (Str×Option Addr)->Bool
 | []=>true|p::r=>(match p.2 with
  |some f=>oB (PySem.W.findIn K (.ref C) p.1) (isRef f)&&nT (PySem.W.typeIn K (.ref f)) (mC · "function")&&ZU (PySem.W.findCls K (.ref C) (.type "type") p.1) f|none=>OE (PySem.W.findIn K (.ref C) p.1))&&JD r
def Su(r:List (Str×Option Addr)):Bool:=isNil r||PySem.W.readsIn K C (.type "type")&&JD K C r
def cdB(c:pH)(cd:ClassData):Bool:=cd.hasDict&&uV (sR c.mro) (refsOf cd.mro)&&!cd.mro.isEmpty&&["int","str","list","tuple","dict"].all λn=>!(cd.mro.contains (.type n))
def ZV(c:pH):Bool:=
 nT (PySem.W.typeIn K (.ref C)) (mC · "type")&&j6 C c.mro&&nT (PySem.W.clsIn K C) (cdB c)&&Su K C c.attrs&&sN K C c.init&&oB (PySem.W.specialIn K (.ref C) "__getattribute__") (qz "type.__getattribute__") &&
  (c.isExc||(oB (PySem.W.findIn K (.ref C) "__class__") (qz "object.__class__")&&PySem.W.mroIn K C (.type "object")==some true&&PySem.W.makesIn K C&&oB (PySem.W.findIn K (.ref C) "__getattribute__") (qz "object.__getattribute__") &&
   OE (PySem.W.findIn K (.ref C) "__getattr__")&&oB (PySem.W.findIn K (.ref C) "__setattr__") (qz "object.__setattr__")&&PySem.W.plainOver K C))
def mkB(o:Obj):Bool:=match o.data with
 |.cls cd=>Ss cd.mro λv bm=>ZS v λC'=>Ss o.slots.toList λ_ l=>Ss l λ_ l=>Ss l λ_ l=>Ss l λ_ l=>Ss l λb l=>Ss l λ_ l=>isNil l&&nT b λb=>ZT b λn=>mC o.cls "type" && Jz K C C' bm n cd|_=>false
def ZW:Bool:=nT (K.lookup C) (mkB K C)&&nT (PySem.W.typeIn K (.ref C)) (mC · "type")&&PySem.W.mroIn K C (.type "BaseException")==some true&&nT (PySem.W.clsIn K C) (λcd=>cd.hasDict&&lW cd.mro) &&
 oB (PySem.W.findIn K (.ref C) "__getattribute__") (qz "BaseException.__getattribute__")&&OE (PySem.W.findIn K (.ref C) "__getattr__")&&oB (PySem.W.findIn K (.ref C) "__setattr__") (qz "object.__setattr__")
end
noncomputable def JE(K:List (Addr×Obj)):List (Addr×pH)->Bool
 | []=>true|p::r=>ZV K p.1 p.2&&(!p.2.isExc||ZW K p.1)&&JE K r
def j7(o:Obj):Bool:=match o.data with
 |.fields _=>!(rz o.cls)|_=>true
noncomputable def JF:List (Addr×Obj)->Bool
 | []=>true|p::r=>j7 p.2&&JF r
def bmB(g:Addr->fy)(m:List DictEntry):Bool:=nT ((fc "__builtins__" m).bind sP) λb=>!(Nat.beq b builtinsNs)&&!(Nat.beq b mainGlobals)&&nT (g b) λo=>mC o.cls "module" && nT o.dict (Nat.beq builtinsNs)&&match o.data with|.plain=>true|_=>false
def aey(g:Addr->fy):Bool:=nT (g cStatics) λo=>match o.data with
 |.dict es _=>BY es.toList&&zH (fc "sys.recursionlimit" es.toList)|_=>false
def mJ(g:Addr->fy)(n:Nat):Bool:=
 D9 n (λa=>nT (g a) (ZR g))&&nT (g sysModules) j7&&aey g&&nT (nS g mainGlobals) (λm=>nT (nS g builtinsNs) λb=>bmB g m&&OD g m b jd)&&UG g fM&&(λK=>JF K&&JE K BW) (fragOf g BX)
noncomputable def qA(m:List DictEntry):List (Str×CV)->bR
 | []=>[]|p::r=>match p.2 with
  |.dct _=>match (fc p.1 m).bind sP with
   |some a=>a::qA m r|none=>qA m r
  |_=>qA m r
def kY(g:Addr->fy):bR:=mainGlobals::builtinsNs::match nS g mainGlobals with
 |some m=>qA m jd|none=>[]
section
set_option maxHeartbeats 0
open PySem PySem.W PyProof.Rows
noncomputable abbrev pw:Program:=PySem.Challenge.pw_qd0167_01
abbrev JG:=PySem.W.Fast.tw10156331382660048174
abbrev Ea:=PySem.W.Fast.tw11892475500146522536
abbrev JH:=PySem.W.Fast.tw14364793385576792824
abbrev Eb:=PySem.W.Fast.tw6613529449190102663
abbrev ZX:=PySem.W.Fast.tw4187177175401517315
noncomputable def ri(s:SharedT)(T:BT)(n k:Nat):SharedT:=⟨T,n,s.life,s.gens,s.drawn,k,s.os⟩
noncomputable def upA(a:Nat):Bool:=Nat.ble 11 a||Nat.beq a 3||Nat.beq a 2||Nat.beq a 6
def UH(w:World)(ih:SharedT->BT->Nat->Nat->Sem PySem.Fin->Code->Pos->List Frame->Option SharedT)(s:SharedT)(t:Thread):Option SharedT:=match through t with
 |true=>some s|false=>match Eb 11 (some (.ref 6)) t with
  |false=>none|true=>match JG (Ea JH) pw w s t with
   |some r=>ih r.1 r.1.tree r.1.n r.1.toks r.2.cur r.2.code r.2.pos r.2.stack|none=>none
def ZY{α:Type}(b:Bool)(x:Option α):Option α:=match b with
 |true=>x|false=>none
def bd{α:Type}{β:Type}(o:Option α)(f:α->Option β):Option β:=match o with
 |some x=>f x|none=>none
def OG(w:World)(n:Nat):SharedT->BT->Nat->Nat->Sem PySem.Fin->Code->Pos->List Frame->Option SharedT:=
 @Nat.rec (λ_=>SharedT->BT->Nat->Nat->Sem PySem.Fin->Code->Pos->List Frame->Option SharedT) (λ_ _ _ _ _ _ _ _=>none) (λ_ ih s T n x cur code pos stack=>match cur with
  |.rule _ k=>ih s T n x (k ()) code pos stack|.at p k=>ih s T n x (k ()) code p stack|.point _ k=>ih s T n x (k ()) code pos stack|.ask k=>ih s T n x (k ⟨pw,w.params⟩) code pos stack|.fresh k=>ih s T n (x+1) (k x) code pos stack|.load a _ k=>ZY (Nat.blt a n) (bd (T.get a) λo=>bd (alive o) λo'=>ih s T n x (k o') code pos stack)|.update a _ f k=>ZY (upA a) (ZY (Nat.blt a n) (bd (T.get a) λo=>bd (alive o) λ_=>ih s (T.set a f) n x (k ()) code pos stack))|.alloc o k=>ZY ((T.ins n o).get n).isSome (ih s (T.ins n o) (n+1) x (k n) code pos stack)|c=>UH w ih (ri s T n x) ⟨c,code,pos,stack⟩) n
theorem jL{w:World}{m:Nat}{s s':SharedT}{t t':Thread}{r:Shared}(h1:through t=false)(h2:stepOk 11 (some (.ref 6)) t=true)(h3:stepT (denote treeTable) pw w s t=some (s',t'))(h:topRun treeTable pw w 11 (some (.ref 6)) m s'.abs t'=some r):topRun treeTable pw w 11 (some (.ref 6)) (m+1) s.abs t=some r:=by
 unfold topRun;rw [h1];dsimp only;rw [h2];dsimp only;rw [stepT_spec h3];exact h
set_option backward.match.sparseCases true in
theorem dM{c:Sem PySem.Fin}{code:Code}{pos:Pos}{stack:List Frame}(h:(match c with|.pure (.done _)=>true|_=>false)=false):through ⟨c,code,pos,stack⟩=false:=by
 exact (congrArg (λb=>stack.isEmpty&&b) h).trans (ahp _)
theorem OH{w:World}{m:Nat}(IH:∀s T n x cur code pos stack r,OG w m s T n x cur code pos stack=some r->topRun treeTable pw w 11 (some (.ref 6)) m (ri s T n x).abs ⟨cur,code,pos,stack⟩=some r.abs){s:SharedT}{t:Thread}{r:SharedT}(h:UH w (OG w m) s t=some r):topRun treeTable pw w 11 (some (.ref 6)) (m+1) s.abs t=some r.abs:=by
 unfold UH at h;cases q:through t with
 |true=>rw [q] at h;cases h;unfold topRun;rw [q]
 |false=>
  rw [q] at h;dsimp only at h;induction z:Eb 11 (some (.ref 6)) t with
  |false=>rw [z] at h;cases h
  |true=>
   rw [z] at h;dsimp only at h;induction y:JG (Ea JH) pw w s t with
   |none=>rw [y] at h;cases h
   |some p=>
    rw [y] at h;refine jL q ((congrFun (congrFun (congrFun PySem.W.Fast.te6613529449190102663 11) _) t).trans z) (s':=p.1) (t':=p.2) ?_ (IH _ _ _ _ _ _ _ _ _ h);rw [PySem.W.Fast.te10156331382660048174,PySem.W.Fast.te11892475500146522536,PySem.W.Fast.te14364793385576792824];exact y
theorem UI{a:Nat}(h:upA a=true):(Nat.ble 11 a||a==mainNs||a==cStatics||some (.ref 6)==some (Value.ref a))=true:=by
 unfold upA at h;induction h1:Nat.ble 11 a with
 |true=>rfl|false=>
  rw [h1] at h;induction h2:Nat.beq a 3 with
  |true=>rw [aax h2];rfl|false=>
   rw [h2] at h;induction h3:Nat.beq a 2 with
   |true=>rw [aax h3];rfl|false=>rw [h3] at h;rw [aax (h:Nat.beq a 6=true)];rfl
theorem sS{α:Type}{b:Bool}{x:Option α}{r:α}(h:ZY b x=some r){G:Prop}(c:b=true->x=some r->G):G:=by
 induction b with
 |true=>exact c rfl h|false=>exact Option.noConfusion rfl (heq_of_eq h)
theorem Ec{α:Type}{β:Type}{o:Option α}{f:α->Option β}{r:β}(h:bd o f=some r){G:Prop}(c:∀x,o=some x->f x=some r->G):G:=by
 induction o with
 |some x=>exact c x rfl h|none=>exact Option.noConfusion rfl (heq_of_eq h)
section
variable{den:_}{w:World}{s:SharedT}{T:BT}{n x a:Nat}{code:Code}{pos:Pos}{stack:List Frame}{o o':Obj}
theorem JI{p:_}{k:_}(h1:Nat.blt a n=true)(h2:T.get a=some o)(h3:alive o=some o'):stepT den pw w (ri s T n x) ⟨.load a p k,code,pos,stack⟩=some (ri s T n x,⟨k o',code,pos,stack⟩):=by simp only [stepT,ri,h1,h2,h3]
theorem B7{p:_}{f:_}{k:_}(h1:Nat.blt a n=true)(h2:T.get a=some o)(h3:alive o=some o'):stepT den pw w (ri s T n x) ⟨.update a p f k,code,pos,stack⟩=some (ri s (T.set a f) n x,⟨k (),code,pos,stack⟩):=by simp only [stepT,ri,h1,h2,h3]
theorem Gu{k:_}(h1:((T.ins n o).get n).isSome=true):stepT den pw w (ri s T n x) ⟨.alloc o k,code,pos,stack⟩=some (ri s (T.ins n o) (n+1) x,⟨k n,code,pos,stack⟩):=by simp only [stepT,ri,h1]
end
theorem OI{w:World}:∀{m:Nat}(s:SharedT)(T:BT)(n x:Nat)(cur:Sem PySem.Fin)(code:Code)(pos:Pos)(stack:List Frame)(r:SharedT),OG w m s T n x cur code pos stack=some r->topRun treeTable pw w 11 (some (.ref 6)) m (ri s T n x).abs ⟨cur,code,pos,stack⟩=some r.abs:=by
 intro m;induction m with
 |zero=>exact λ_ _ _ _ _ _ _ _ _ h=>sS (b:=false) (x:=none) h λe=>Bool.noConfusion e|succ m IH=>
  intro s T n x cur code pos stack r;induction cur using Sem.casesOn with
  |rule _ k=>exact λh=>jL (dM rfl) rfl rfl (IH _ _ _ _ _ _ _ _ _ h)|«at» p k=>exact λh=>jL (dM rfl) rfl rfl (IH _ _ _ _ _ _ _ _ _ h)|point _ k=>exact λh=>jL (dM rfl) rfl rfl (IH _ _ _ _ _ _ _ _ _ h)|ask k=>exact λh=>jL (dM rfl) rfl rfl (IH _ _ _ _ _ _ _ _ _ h)|fresh k=>exact λh=>jL (dM rfl) rfl rfl (IH _ _ _ _ _ _ _ _ _ h)|load a p k=>exact λh=>sS h λh1 h=>Ec h λo h2 h=>Ec h λo' h3 h=>jL (dM rfl) rfl (JI h1 h2 h3) (IH _ _ _ _ _ _ _ _ _ h)|update a p f k=>exact λh=>sS h λh0 h=>sS h λh1 h=>Ec h λo h2 h=>Ec h λo' h3 h=>jL (dM rfl) (UI h0) (B7 h1 h2 h3) (IH _ _ _ _ _ _ _ _ _ h)|alloc o k=>exact λh=>sS h λh1 h=>jL (dM rfl) rfl (Gu h1) (IH _ _ _ _ _ _ _ _ _ h)|_=>exact OH IH
noncomputable def treeOf(l:List Obj):BT×Nat:=l.foldl (λx o=>(x.1.ins x.2 o,x.2+1)) (.nil,0)
def s0(w:World)(os:OsState):SharedT:=⟨(treeOf (afp w.params).objs.toList).1,(treeOf (afp w.params).objs.toList).2,(afp w.params).life,#[],boot_drawn,boot_toks,os⟩
abbrev Boot(w:World):Prop:=P2 (∀os,(s0 w os).abs=⟨afp w.params,#[],boot_drawn,boot_toks,os⟩) (((afp w.params).isNs mainGlobals,(afp w.params).objs.size,(afp w.params).nsMap mainGlobals "__annotations__")=(true,11,some (.ref 6)))
theorem Ed(w:World):Boot w:=⟨by intros;kernel_rfl,by kernel_rfl⟩
noncomputable def q1:Program:={ pw with main:={ pw.main with body:=match pw.main.body.getLast? with|some s=>[s]|none=>[] } }
noncomputable def fB:List Str:=pw.boundNames.filter λn=>n != "law"
noncomputable def mods:List Str:=importedModules pw.main.body
def goT(w:World)(s:SharedT)(t:Thread):Option SharedT:=OG w 25000 s s.tree s.n s.toks t.cur t.code t.pos t.stack
def fin(w:World)(os:OsState):Option SharedT:=goT w (s0 w os) (topStub pw)
noncomputable def gS(s:SharedT)(a:Addr):fy:=match Nat.blt a s.n with
 |true=>match s.tree.get a with
  |some o=>alive o|none=>none
 |false=>none
noncomputable def JJ(x:Str):List Str->Bool
 | []=>false|y::r=>match cD y x with
  |true=>true|false=>JJ x r
def nmB(h:Heap):Bool:=h.isNs mainGlobals&&(h.nsKeys mainGlobals).all λk=>JJ k startupNames||JJ k pw.boundNames
def tpB(P:Params)(s:SharedT):Bool:=staticsOk mods (afp P) s.abs.heap&&nmB s.abs.heap&&gensDone s.abs&&laidKept (afp P) s.abs.heap
def Sv(s:SharedT):=ZX q1 fB mods (λ_=>true) true s.abs
abbrev UJ(w:World):Prop:=P1 (∀os,((fin w os).isSome,(fin w os).map λs=>(tpB w.params s,Sv s))=(true,(fin w os).map λs=>(true,openGood q1 fB)))
abbrev UK(w:World):Prop:=P1 (∀os,((fin w os).map λs=>(mJ (gS s) s.n,B3 (gS s) fM,B5 (gS s) (kY (gS s))))=(fin w os).map λs=>(true,B4 fM,B6 (gS s) w.params (kY (gS s))))
end
section
set_option maxHeartbeats 0
open PySem PySem.W PyProof.Rows
theorem UL(w:World):UJ (w.withFollow "special-get-raises" false):=⟨by intros;kernel_rfl⟩
theorem UM(w:World):UJ (w.withFollow "special-get-raises" true):=⟨by intros;kernel_rfl⟩
theorem UN(w:World):UK (w.withFollow "special-get-raises" false):=⟨by intros;kernel_rfl⟩
theorem UO(w:World):UK (w.withFollow "special-get-raises" true):=⟨by intros;kernel_rfl⟩
theorem ZZ(w:World):UJ w:=byRow2 "special-get-raises" UL UM w
theorem Z0(w:World):UK w:=byRow2 "special-get-raises" UN UO w
end
section
variable{α β:Type}
theorem JK(l l':cI):uV l l'=true↔l=l':=by
 induction l generalizing l' with
 |nil=>cases l'<;>simp [uV]
 |cons a r ih=>
  induction l' with
  |nil=>simp [uV]|cons b t=>
   rw [List.cons.injEq,← ih t];show (match Nat.beq a b with|true=>uV r t|false=>false)=true↔_
   induction e:Nat.beq a b with
   |true=>exact ⟨λh=>⟨aax e,h⟩,λh=>h.2⟩|false=>exact ⟨λh=>Bool.noConfusion h,λh=>by rw [h.1,show Nat.beq b b=true from agf b] at e;cases e⟩
theorem dI{a b:Str}:cD a b=true↔a=b:=by
 unfold cD;rw [JK];constructor
 ·intro h;obtain ⟨⟨l⟩⟩:=a;obtain ⟨⟨l'⟩⟩:=b;exact congrArg (λl=>Str.mk (Array.mk l)) h
 ·rintro rfl;rfl
theorem dh{a b:Str}:cD a b=false↔a≠b:=by rw [← Bool.not_eq_true,dI]
theorem aC(x y:Str)(v:α)(r:List (Str×α)):look x ((y,v)::r)=if y=x then some v else look x r:=by
 show (match cD y x with|true=>some v|false=>look x r)=_
 induction e:cD y x with
 |true=>rw [if_pos (dI.mp e)]|false=>rw [if_neg (dh.mp e)]
theorem cJ(x:Str)(l:List (Str×α)):look x l=l.lookup x:=by
 induction l with
 |nil=>rfl|cons p r ih=>
  rw [show p=(p.1,p.2) from rfl,aC,agW,ih]
  by_cases e:p.1=x
  ·rw [if_pos e,e,beq_self_eq_true]
  ·rw [if_neg e,beq_false_of_ne (Ne.symm e)]
theorem nV(x y:Str)(v:α)(l:List (Str×α)):look y (put x v l)=if y=x then some v else look y l:=by
 induction l with
 |nil=>
  show look y [(x,v)]=_;rw [aC];by_cases e:y=x
  ·rw [if_pos e,if_pos e.symm]
  ·rw [if_neg e,if_neg (Ne.symm e)]
 |cons p r ih=>
  show look y (match cD p.1 x with|true=>(p.1,v)::r|false=>p::put x v r)=_
  rw [show look y (p::r)=_ from aC y p.1 p.2 r]
  induction q:cD p.1 x with
  |true=>
   rw [dI] at q;show look y ((p.1,v)::r)=_;rw [aC,q];by_cases e:y=x
   ·rw [if_pos e,if_pos e.symm]
   ·rw [if_neg e,if_neg (Ne.symm e),if_neg (Ne.symm e)]
  |false=>
   rw [dh] at q;show look y ((p.1,p.2)::put x v r)=_;rw [aC,ih];by_cases e:p.1=y
   ·rw [if_pos e,if_pos e,if_neg λz=>q (e.trans z)]
   ·rw [if_neg e,if_neg e]
theorem bl(l:List α):len l=l.length:=by
 induction l with
 |nil=>rfl|cons x r ih=>exact congrArg (· + 1) ih
theorem bW(l:List α)(i:Nat):af l i=l[i]?:=by
 induction l generalizing i with
 |nil=>rfl|cons x r ih=>induction i with
  |zero=>rfl|succ i=>rw [agu];exact ih i
theorem gZ(a b:List α):cat a b=a++b:=by
 induction a with
 |nil=>rfl|cons x r ih=>exact congrArg (x :: ·) ih
theorem pO(l:List α)(v:α):app l v=l++[v]:=by
 induction l with
 |nil=>rfl|cons x r ih=>exact congrArg (x :: ·) ih
theorem rev_eq(l acc:List α):rev l acc=l.reverse++acc:=by
 induction l generalizing acc with
 |nil=>rfl|cons x r ih=>rw [ahw,agG];exact ih _
theorem nW(l:List α)(i:Nat)(v:α):setAt l i v=l.set i v:=by
 induction l generalizing i with
 |nil=>rfl|cons x r ih=>induction i with
  |zero=>rfl|succ i=>exact congrArg (x :: ·) (ih i)
theorem nY(l:az):bT l=l.map .c:=by
 induction l with
 |nil=>rfl|cons a l ih=>exact congrArg (MV.c a :: ·) ih
theorem Ef(l:List (Str×CV)):gX l=l.map λp=>(p.1,.c p.2):=by
 induction l with
 |nil=>rfl|cons a l ih=>exact congrArg (_ :: ·) ih
theorem cz(v:α)(l:List α):af (app l v) (len l)=some v:=by rw [bW,pO,bl,List.getElem?_concat_length]
theorem cQ{l:List α}{i:Nat}{x:α}(h:af l i=some x):i<len l:=by rw [bW] at h;rw [bl];exact (ahq.mp h).1
theorem aB(v:α){l:List α}{i:Nat}{x:α}(h:af l i=some x):af (app l v) i=some x:=by
 rw [bW,pO,afT (bl l▸cQ h),← bW];exact h
theorem bF{v:α}{l:List α}{i:Nat}{x:α}(h:af (app l v) i=some x):af l i=some x∨(i=len l/\x=v):=by
 rw [bW,pO,List.getElem?_append] at h;split at h
 ·exact .inl (by rw [bW];exact h)
 ·rename_i n
  rw [List.getElem?_singleton] at h;split at h
  ·exact .inr ⟨by rw [bl];lia,(aap h).symm⟩
  ·cases h
theorem bu(v:α)(l:List α):len (app l v)=len l+1:=by rw [bl,bl,pO,adV];rfl
theorem bL(v:α)(l:List α)(i:Nat):len (setAt l i v)=len l:=by rw [bl,bl,nW,List.length_set]
theorem av(v:α){l:List α}{i:Nat}{x:α}(h:af l i=some x):af (setAt l i v) i=some v:=by
 have:=cQ h;rw [bl] at this;rw [bW,nW,List.getElem?_set_self this]
theorem ay(v:α)(l:List α){i j:Nat}(h:i≠j):af (setAt l i v) j=af l j:=by rw [bW,bW,nW,List.getElem?_set_ne h]
theorem dQ{l:List α}{i:Nat}{x:α}(h:af l i=some x):setAt l i x=l:=by
 have:=cQ h;rw [bl] at this;rw [bW,ahx this] at h;rw [nW,← aap h,List.set_getElem_self]
theorem sU{l:List α}{l':List β}{i:Nat}{x:α}(e:len l=len l')(h:af l i=some x):∃y,af l' i=some y:=by
 have:=cQ h;rw [e,bl] at this;exact ⟨_,(bW ..).trans (ahx this)⟩
theorem au(a:List α):cat a []=a:=by rw [gZ,adO]
theorem aP(a b c:List α):cat (cat a b) c=cat a (cat b c):=by simp only [gZ,agG]
theorem rA(a acc:List α):rev a acc=cat (rev a []) acc:=by simp only [rev_eq,gZ,adO]
theorem iL(a b:List α):rev (cat a b) []=cat (rev b []) (rev a []):=by simp only [rev_eq,gZ,adO,List.reverse_append]
theorem rev_rev(a:List α):rev (rev a []) []=a:=by simp only [rev_eq,adO,aiq]
theorem len_cat(a b:List α):len (cat a b)=len a+len b:=by simp only [bl,gZ,adV]
theorem je(a acc:List α):len (rev a acc)=len a+len acc:=by simp only [bl,rev_eq,adV,List.length_reverse]
theorem gM(a:az):len (bT a)=len a:=by rw [nY,bl,bl,aek]
theorem ju(a b:az):cat (bT a) (bT b)=bT (cat a b):=by simp only [nY,gZ,List.map_append]
theorem u5(v:α)(r l:List α):cat l (rev (v::r) [])=cat (cat l (rev r [])) [v]:=by simp only [rev_eq,gZ,ahw,adO,agG]
theorem Gv(x:Str)(l:List (Str×CV)):look x (gX l)=(look x l).map .c:=by
 induction l with
 |nil=>rfl|cons p l ih=>
  show look x ((p.1,MV.c p.2)::gX l)=(look x ((p.1,p.2)::l)).map .c;rw [aC,aC,ih];by_cases e:p.1=x
  ·rw [if_pos e,if_pos e];rfl
  ·rw [if_neg e,if_neg e]
theorem zK(l:List (Str×CV)):len (gX l)=len l:=by rw [Ef,bl,bl,aek]
end
theorem Wd.Le.refl(W:Wd):W.Le W:=⟨λ_ _ e=>e,λ_ _ e=>e,λ_ _ e=>e,λ_ e=>e,λ_ _ e=>e,λ_ _ e=>e⟩
theorem Wd.Le.trans{Z1 Z2 Z3:Wd}(x:Z1.Le Z2)(y:Z2.Le Z3):Z1.Le Z3:=
 ⟨λa o e=>y.1 a o (x.1 a o e),λa o e=>y.2 a o (x.2 a o e),λa o e=>y.3 a o (x.3 a o e),λa e=>y.4 a (x.4 a e),λa p e=>y.5 a p (x.5 a p e),λi a e=>y.6 i a (x.6 i a e)⟩
theorem kR.refl(s:Shared):kR s s:=⟨rfl,rfl,rfl⟩
theorem kR.trans{a b c:Shared}(x:kR a b)(y:kR b c):kR a c:=⟨y.1.trans x.1,y.2.trans x.2,y.3.trans x.3⟩
theorem Le.refl(S:Pt):Le S S:=⟨.refl _,.refl _⟩
theorem Le.trans{a b c:Pt}(x:Le a b)(y:Le b c):Le a c:=⟨x.1.trans y.1,x.2.trans y.2⟩
section
variable{F F':Addr->fy}
theorem fY.mono(k:∀a o,F a=some o->F' a=some o){R R':bU->Prop}(kr:∀l,R l->R' l){x:Value}(h:fY F R x):fY F' R' x:=by
 induction h with|mk a xs h r=>exact .mk a xs (k _ _ h) (kr _ r)
mutual
theorem bw.mono(k:∀a o,F a=some o->F' a=some o)(v:CV)(x:Value)(h:bw F v x):bw F' v x:=match v with
 |.none=>h|.bool _=>h|.int _=>h|.str _=>h|.aA _=>h|.type _=>h|.blt _=>h|.at a=>match a with|.none=>h|.int _=>h|.str _=>h
 |.tup l=>fY.mono k (bO.mono k l) h|.lst l=>by induction h with|mk a xs n h r=>exact .mk a xs n (k _ _ h) (bO.mono k l xs r)
 |.obj C fs=>by induction h with|mk a d o g h1 h2 s r=>exact .mk a d o g (k _ _ h1) (k _ _ h2) s (jK.mono k fs g r)
 |.dct fs=>by induction h with|mk a o g h s r=>exact .mk a o g (k _ _ h) s (jK.mono k fs g r)
theorem bO.mono(k:∀a o,F a=some o->F' a=some o)(l:az)(x:bU)(h:bO F l x):bO F' l x:=match l with
 | []=>h|v::l=>h.elim λy h=>h.elim λr h=>⟨y,r,h.1,bw.mono k v y h.2.1,bO.mono k l r h.2.2⟩
theorem jK.mono(k:∀a o,F a=some o->F' a=some o)(l:List (Str×CV))(g:Str->cK)(h:jK F l g):jK F' l g:=match l with
 | []=>h|p::r=>⟨h.1.elim λy h=>⟨y,h.1,zD.mono k p y h.2⟩,jK.mono k r _ h.2⟩
theorem zD.mono(k:∀a o,F a=some o->F' a=some o)(p:Str×CV)(y:Value)(h:zD F p y):zD F' p y:=match p with
 |(_,v)=>bw.mono k v y h
end
theorem eZ.mono{ρ ρ':bR}(k:∀i a,af ρ i=some a->af ρ' i=some a){l:ja}{l':List (Str×Addr)}(h:eZ ρ l l'):eZ ρ' l l':=by
 induction l generalizing l' with
 |nil=>exact h|cons p r ih=>exact h.elim λa h=>h.elim λl h=>⟨a,l,h.1,k _ _ h.2.1,ih h.2.2⟩
theorem jt.mono(k:∀a o,F a=some o->F' a=some o){v:Value}(h:jt F v):jt F' v:=by induction h with|mk c oc e h q=>exact ⟨c,oc,e,k _ _ h,q⟩
theorem kW.mono(k:∀a o,F a=some o->F' a=some o){f:Fn}{o:Obj}{fd:FuncData}(h:kW F f o fd):kW F' f o fd:=
 ⟨h.1,h.2,h.3,h.4,h.5,h.6,h.7,h.8,h.9.mono k,h.10.imp id (fY.mono k (bO.mono k _)),h.11,h.12,h.13⟩
end
inductive Wd.Gw(W W':Wd):Prop where
 |mk (aU:∀a o,W.aU a=some o->W'.aU a=some o) (ρ:∀i a,af W.ρ i=some a->af W'.ρ i=some a)
section
variable{W W':Wd}
theorem Wd.Le.low(k:W.Le W'):W.Gw W':=⟨k.1,k.6⟩
mutual
theorem ao.up'(k:W.Gw W')(v:MV)(x:Value)(h:ao W v x):ao W' v x:=match v with
 |.c v=>bw.mono k.1 v x h|.ref _=>by induction h with|mk a h=>exact ⟨a,k.2 _ _ h⟩
 |.tup l=>fY.mono k.1 (ah.up' k l) h|.clo _ _=>by induction h with|mk a o fd h r c=>exact ⟨a,o,fd,k.1 _ _ h,r.mono k.1,c.mono k.2⟩
theorem ah.up'(k:W.Gw W')(l:aY)(x:bU)(h:ah W l x):ah W' l x:=match l with
 | []=>h|v::l=>h.elim λy h=>h.elim λr h=>⟨y,r,h.1,ao.up' k v y h.2.1,ah.up' k l r h.2.2⟩
end
theorem ao.up{v:MV}{x:Value}(h:ao W v x)(k:W.Le W'):ao W' v x:=ao.up' k.low v x h
theorem ah.up{v:aY}{x:bU}(h:ah W v x)(k:W.Le W'):ah W' v x:=ah.up' k.low v x h
theorem nQ.up{v:Option MV}{x:cK}(h:nQ W v x)(k:W.Le W'):nQ W' v x:=by
 induction v with
 |none=>exact h|some v=>exact h.elim λz h=>⟨z,h.1,h.2.up k⟩
theorem gK.up{m:Lo}{g:Str->cK}(h:gK W m g)(k:W.Le W'):gK W' m g:=λx=>(h x).up k
theorem mz.up{m:Lo}{g:Str->cK}(h:mz W m g)(k:W.Le W'):mz W' m g:=λx v e=>(h x v e).elim λy h=>⟨y,h.1,h.2.up k⟩
theorem xw.up{ρ ρ':bR}{l:ja}{l':List (Str×Addr)}(h:xw ρ l l')(k:∀i a,af ρ i=some a->af ρ' i=some a):xw ρ' l l':=λx n q=>(h x n q).elim λa h=>⟨a,k _ _ h.1,h.2⟩
theorem jK.look{F:Addr->fy}{fs:List (Str×CV)}{g:Str->cK}(h:jK F fs g)(x:Str):match look x fs with|some v=>∃y,g x=some y/\bw F v y|none=>g x=none:=by
 induction fs generalizing g with
 |nil=>exact h x|cons p r ih=>
  obtain ⟨z,v⟩:=p;rw [aC];by_cases e:z=x
  ·rw [if_pos e];subst e;exact h.1
  ·rw [if_neg e]
   have:=ih h.2;dsimp only at this;rw [if_neg e] at this;exact this
theorem jK.Z4{fs:List (Str×CV)}{g:Str->cK}(h:jK W.aU fs g):gK W (gX fs) g:=λx=>by
 rw [Gv];have:=h.look x;induction q:aT.look x fs with
 |none=>rw [q] at this;exact this|some v=>rw [q] at this;exact this
theorem bO.vs{l:az}{x:bU}(h:bO W.aU l x):ah W (bT l) x:=by
 induction l generalizing x with
 |nil=>exact h|cons v l ih=>exact h.elim λy h=>h.elim λr h=>⟨y,r,h.1,h.2.1,ih h.2.2⟩
theorem ah.cat{a b:aY}{x y:bU}(h:ah W a x)(h':ah W b y):ah W (aT.cat a b) (x++y):=by
 induction a generalizing x with
 |nil=>rw [show x=[] from h];exact h'|cons v a ih=>exact h.elim λz h=>h.elim λr h=>⟨z,r++y,by rw [h.1];rfl,h.2.1,ih h.2.2⟩
theorem ah.len{a:aY}{x:bU}(h:ah W a x):aT.len a=x.length:=by
 induction a generalizing x with
 |nil=>rw [show x=[] from h];rfl|cons v a ih=>exact h.elim λz h=>h.elim λr h=>by rw [h.1];exact congrArg (· + 1) (ih h.2.2)
theorem ah.af{a:aY}{x:bU}{i:Nat}{v:MV}(h:ah W a x)(q:aT.af a i=some v):∃y,x[i]?=some y/\ao W v y:=by
 induction a generalizing x i with
 |nil=>cases q
 |cons u a ih=>
  obtain ⟨z,r,h1,h⟩:=h;rw [h1];induction i with
  |zero=>cases q;exact ⟨z,rfl,h.1⟩
  |succ i=>rw [agu];exact ih h.2 q
theorem ah.split{a b:aY}{x:bU}(h:ah W (aT.cat a b) x):∃y z,x=y++z/\ah W a y/\ah W b z:=by
 induction a generalizing x with
 |nil=>exact ⟨[],x,rfl,rfl,h⟩|cons v a ih=>exact bB λgg=>h.elim λz h=>h.elim λr h=>(ih h.2.2).elim λy q=>q.elim λu q=>gg <|⟨z::y,u,by rw [h.1,q.1];rfl,⟨z,y,rfl,h.2.1,q.2.1⟩,q.2.2⟩
theorem ah.drop{a:aY}{x:bU}(n:Nat)(h:ah W a x):ah W (a.drop n) (x.drop n):=by
 induction n generalizing a x with
 |zero=>exact h|succ n ih=>induction a with
  |nil=>rw [show x=[] from h];rfl|cons v a=>exact bB λgg=>h.elim λz h=>h.elim λr h=>gg <|by rw [h.1];exact ih h.2.2
theorem ah.take{a:aY}{x:bU}(n:Nat)(h:ah W a x):ah W (a.take n) (x.take n):=by
 induction n generalizing a x with
 |zero=>rfl|succ n ih=>induction a with
  |nil=>rw [show x=[] from h];rfl|cons v a=>exact bB λgg=>h.elim λz h=>h.elim λr h=>gg <|by rw [h.1];exact ⟨z,_,rfl,h.2.1,ih h.2.2⟩
theorem ah.single{v:MV}{x:bU}(h:ah W [v] x):∃y,x=[y]/\ao W v y:=h.elim λz h=>h.elim λr h=>⟨z,by rw [h.1,show r=[] from h.2.2],h.2.1⟩
theorem ah.cons{v:MV}{y:Value}{l:aY}{x:bU}(h:ao W v y)(t:ah W l x):ah W (v::l) (y::x):=⟨y,x,rfl,h,t⟩
theorem gK.put{m:Lo}{g:Str->cK}{v:MV}{y:Value}(h:gK W m g)(hv:ao W v y)(x:Str):gK W (put x v m) (λz=>if z=x then some y else g z):=λz=>by
 show nQ W (look z (aT.put x v m)) (if z=x then some y else g z);rw [nV];by_cases e:z=x
 ·rw [if_pos e,if_pos e];exact ⟨y,rfl,hv⟩
 ·rw [if_neg e,if_neg e];exact h z
theorem xA{l:aY}{cs:az}(h:BJ l=some cs):l=bT cs:=by
 induction l generalizing cs with
 |nil=>cases h;rfl
 |cons v l ih=>induction v using MV.casesOn with
  |c v=>
   dsimp only [BJ] at h;induction q:BJ l with
   |none=>rw [q] at h;cases h
   |some cs'=>rw [q] at h;cases h;exact congrArg (_ :: ·) (ih q)
  |_=>cases h
theorem UP{vs:aY}{cs:az}{xs:bU}(h:ah W vs xs)(q:BJ vs=some cs):bO W.aU cs xs:=by
 induction vs generalizing cs xs with
 |nil=>cases q;exact h
 |cons v l ih=>induction v using MV.casesOn with
  |c v=>
   dsimp only [BJ] at q;induction q1:BJ l with
   |none=>rw [q1] at q;cases q
   |some cs'=>rw [q1] at q;cases q;exact h.elim λy h=>h.elim λr h=>⟨y,r,h.1,h.2.1,ih h.2.2 q1⟩
  |_=>cases q
theorem JL{vs:aY}{xs:bU}{a:Addr}(h:ah W vs xs)(ha:W.aU a=some (d7 xs.toArray)):ao W (IU vs) (.ref a):=by
 unfold IU;induction q:BJ vs with
 |none=>exact fY.mk a xs ha h|some cs=>exact fY.mk a xs ha (UP h q)
theorem Eg{x:Value}(h:ao W (.c .none) x):x =.none:=h
end
inductive Keeps(W W':Wd)(i:Nat)(h h':Heap):Prop where
 |mk (lo:W.Gw W') (ow:∀a o,W.own a=some (.slot i)->h.get? a=some o->W'.own a=some (.slot i)) (kh:∀a o,W.own a=some (.slot i)->h.get? a=some o->h'.get? a=some o)
theorem Keeps.le{W W':Wd}{i:Nat}{h h':Heap}(k:Keeps W W' i h h')(v:MV)(x:Value):ao W v x->ao W' v x:=ao.up' k.1 v x
theorem Keeps.heap{W:Wd}{i:Nat}{h h':Heap}(k:∀a o,W.own a=some (.slot i)->h.get? a=some o->h'.get? a=some o):Keeps W W i h h':=⟨⟨λ_ _ e=>e,λ_ _ e=>e⟩,λ_ _ e _=>e,k⟩
theorem Keeps.low{W W':Wd}{i:Nat}{h h':Heap}(k:W.Gw W')(ow:∀a,W.own a=some (.slot i)->W'.own a=some (.slot i))(kh:∀a o,W.own a=some (.slot i)->h.get? a=some o->h'.get? a=some o):Keeps W W' i h h':=
 ⟨k,λa _ e _=>ow a e,kh⟩
theorem Keeps.le'{W W':Wd}{i:Nat}{h h':Heap}(k:W.Le W')(ow:∀a,W.own a=some (.slot i)->W'.own a=some (.slot i))(kh:∀a o,W.own a=some (.slot i)->h.get? a=some o->h'.get? a=some o):Keeps W W' i h h':=.low k.low ow kh
section
variable{W W':Wd}{i:Nat}{h h':Heap}{a:Addr}
theorem d8.move(k:Keeps W W' i h h'){fs:Lo}(c:d8 W i fs a h):d8 W' i fs a h':=by
 induction c with|mk o g ow e say r=>
 refine ⟨o,g,k.2 _ _ ow e,k.3 _ _ ow e,say,λx=>?_⟩;have:=r x;induction q:look x fs with
 |none=>rw [q] at this;exact this|some v=>rw [q] at this;exact this.elim λy z=>⟨y,z.1,k.le _ _ z.2⟩
theorem nR.move(k:Keeps W W' i h h'){C:Addr}{fs:Lo}(c:nR W i a h C fs):nR W' i a h' C fs:=by
 induction c with|mk d ow ne g c=>exact ⟨d,k.2 _ _ ow g,ne,k.3 _ _ ow g,c.move k⟩
theorem gY.move(k:Keeps W W' i h h'){l:aY}(c:gY W i a h l):gY W' i a h' l:=by
 induction c with|mk xs n ow g r sz=>exact ⟨xs,n,k.2 _ _ ow g,k.3 _ _ ow g,ah.up' k.1 _ _ r,sz⟩
theorem u0.move(k:Keeps W W' i h h'){o:SC}(c:u0 W i a h o):u0 W' i a h' o:=by
 induction o with
 |nil=>trivial|inst C fs=>exact nR.move k c|dict fs=>exact d8.move k c|list l=>exact gY.move k c
noncomputable def pP(h:Heap)(own:Addr->Option aH):Addr->Option aH:=λb=>(h.get? b).bind λ_=>own b
theorem rB{own:Addr->Option aH}{b:Addr}{r:aH}(e:pP h own b=some r):own b=some r/\∃o,h.get? b=some o:=by
 unfold pP at e;induction q:h.get? b with
 |none=>rw [q] at e;cases e
 |some o=>rw [q] at e;exact ⟨e,o,rfl⟩
theorem sL.move(k:Keeps W W' i h h'){l:List (Addr×SC)}(c:sL W i a h l):sL W' i a h' l:=by
 induction c with|mk own e top c=>
 exact ⟨pP h own,λb j q=>(rB q).2.elim λo g=>k.2 b o (e b j (rB q).1) g,top,λj p q=>u0.move (W:=⟨W.aU,own,[]⟩) (W':=⟨W'.aU,pP h own,[]⟩) ⟨⟨k.1.1,λ_ _ e=>e⟩,λb o w g=>by show (h.get? b).bind _=_;rw [g];exact w,λb o w g=>k.3 b o (e b j w) g⟩ (c j p q)⟩
theorem br.move(k:Keeps W W' i h h'){o:MO}(c:br W i a h o):br W' i a h' o:=by
 induction o with
 |gone=>trivial|list pre back=>exact gY.move k c|vB n=>induction c with|mk xs n ow g e sz=>exact ⟨xs,n,k.2 _ _ ow g,k.3 _ _ ow g,e,sz⟩
 |dict fs=>exact d8.move k c|known v ks=>induction c with|mk o es ep ow e x d q sz dom val=>exact ⟨o,es,ep,k.2 _ _ ow e,k.3 _ _ ow e,x,d,q,sz,dom,λy z e=>(val y z e).mono k.1.1⟩
 |inst C fs=>exact nR.move k c|box l=>exact sL.move k c|uU v A=>exact k.le v _ c|exc C fs t b=>
  induction c with|mk o vs ow g cls d sz tb cx di=>
  refine ⟨o,vs,k.2 _ _ ow g,k.3 _ _ ow g,cls,d,sz,?_,cx,?_⟩
  ·induction tb with
   |no e=>exact .no e|yes t T o ts e ow ne g d sz=>exact .yes t T o ts e (k.2 _ _ ow g) ne (k.3 _ _ ow g) d sz
  ·revert di
   induction o.dict with
   |none=>intro di;cases di;exact .no
   |some d=>intro di;cases di with|yes fs d ne nt c=>exact .yes fs d ne nt (c.move k)
 |cell v=>induction c with
  |no o ow g d=>exact .no o (k.2 _ _ ow g) (k.3 _ _ ow g) d|yes v x o ow g d r=>exact .yes v x o (k.2 _ _ ow g) (k.3 _ _ ow g) d (k.le _ _ r)
theorem TabsOk.move(x:TabsOk W h)(kf:∀a o,W.aU a=some o->W'.aU a=some o)(hf:∀a o P,W'.aU a=some o->jc o P->W.aU a=some o)
  (k1:∀P q,W.own P=some (.tab q)->W'.own P=some (.tab q)) (k2:∀P q,W'.own P=some (.tab q)->W.own P=some (.tab q)) (kh:∀P q o,W.own P=some (.tab q)->h.get? P=some o->h'.get? P=some o):TabsOk W' h':=
 ⟨λa o P e t=>(x.1 a o P (hf a o P e t) t).imp λq=>k1 P q,λP q e=>(x.2 P q (k2 _ _ e)).elim λps z=>⟨ps,kh _ _ _ (k2 _ _ e) z.1,z.2.1,λpos v c=>(z.2.2.1 pos v c).mono kf,z.2.2.2⟩⟩
end
noncomputable def cO(own:Addr->Option aH)(a:Addr)(r:Option aH):Addr->Option aH:=λb=>if b=a then r else own b
theorem aL{own:Addr->Option aH}{a:Addr}{r:Option aH}:cO own a r a=r:=if_pos rfl
theorem aM{own:Addr->Option aH}{a b:Addr}{r:Option aH}(h:b≠a):cO own a r b=own b:=if_neg h
theorem bX{own:Addr->Option aH}{a b:Addr}{r q:Option aH}(h:cO own a r b=q):(b=a/\r=q)∨(b≠a/\own b=q):=by
 by_cases e:b=a
 ·exact .inl ⟨e,by rw [← h,e,aL]⟩
 ·exact .inr ⟨e,by rw [← h,aM e]⟩
section
variable{W:Wd}{σ:aq}{h h':Heap}
theorem Inv.sV(I:Inv W σ h){a:Addr}{o:Obj}(e:W.aU a=some o):a<h.objs.size:=ado (I.1 a o e)
theorem Inv.pQ(I:Inv W σ h){a:Addr}{r:aH}(e:W.own a=some r):a<h.objs.size:=by
 induction Nat.lt_or_ge a h.objs.size with
 |inl z=>exact z|inr z=>rw [I.5 a z] at e;cases e
theorem Inv.keep'(I:Inv W σ h)(k:∀b o,W.own b≠some .cur->h.get? b=some o->h'.get? b=some o)(hc:∀b,W.own b=some .cur->(∃o,h.get? b=some o)->∃o,h'.get? b=some o)(sz:h.objs.size<=h'.objs.size):Inv W σ h':=
 ⟨λa o e=>k _ _ (λq=>by rw [I.4 _ _ q] at e;cases e) (I.1 a o e),
 λa o e=>k _ _ (λq=>by rw [e] at q;cases q) (I.2 a o e),
 λa o e=>(I.3 a o e).elim λsl q=>⟨sl,k _ _ (λq=>by rw [e] at q;cases q) q⟩,
 I.4,
 λa e=>I.5 a (aco sz e),
 I.6,
 λi o a e1 e2=>(I.7 i o a e1 e2).move (.heap λb o q e=>k b o (λz=>by rw [q] at z;cases z) e),
 I.8.move (λ_ _ e=>e) (λ_ _ _ e _=>e) (λ_ _ e=>e) (λ_ _ e=>e) λb _ o q e=>k b o (λz=>by rw [q] at z;cases z) e,
 λa e=>hc a e (I.9 a e)⟩
theorem Inv.keep(I:Inv W σ h)(k:∀b o,h.get? b=some o->h'.get? b=some o)(sz:h.objs.size<=h'.objs.size):Inv W σ h':=I.keep' (λb o _=>k b o) (λ_ _ h=>h.elim λo e=>⟨o,k _ _ e⟩) sz
theorem Inv.but{L:Addr}(I:Inv W σ h)(hL:W.own L=some .cur)(hs:Heap.SameBut L h h')(hl:∃o,h'.get? L=some o):Inv W σ h':=
 I.keep' (λb o n e=>(hs.2 b λ(z:b=L)=>n (z▸hL)).trans e) (λb _ q=>(Decidable.em (b=L)).elim (λz=>z▸hl) λz=>q.elim λo e=>⟨o,(hs.2 b z).trans e⟩) (adW hs.1.symm)
theorem Inv.Z5{a:Addr}{o:Obj}(I:Inv W σ h)(k:∀b o,h.get? b=some o->h'.get? b=some o)(sz:h.objs.size<=h'.objs.size)(ha:h.objs.size<=a)(ho:h'.get? a=some o)(hc:∀P,¬jc o P) :
  W.Le ⟨λb=>if b=a then some o else W.aU b,W.own,W.ρ⟩/\Inv ⟨λb=>if b=a then some o else W.aU b,W.own,W.ρ⟩ σ h':=by
 have nf:∀b x,W.aU b=some x->(if b=a then some o else W.aU b)=some x:=λb x e=>(if_neg λ(z:b=a)=>afJ.mpr ha (z▸I.sV e)).trans e;have le:W.Le ⟨λb=>if b=a then some o else W.aU b,W.own,W.ρ⟩:=⟨nf,λ_ _ e=>e,λ_ _ e=>e,λ_ e=>e,λ_ _ e=>e,λ_ _ e=>e⟩;have J:=I.keep k sz;have cs:∀b x,(if b=a then some o else W.aU b)=some x->(b=a/\o=x)∨W.aU b=some x:=λb x e=>by
  by_cases z:b=a
  ·rw [if_pos z] at e;exact .inl ⟨z,aap e⟩
  ·rw [if_neg z] at e;exact .inr e
 exact ⟨le,λb x e=>(cs b x e).elim (λz=>by rw [z.1,ho,z.2]) (J.1 b x),J.2,J.3,λb r e=>(if_neg λ(z:b=a)=>afJ.mpr ha (z▸I.pQ e)).trans (I.4 b r e),J.5,J.6,
  λi x b e1 e2=>(J.7 i x b e1 e2).move (.le' le (λ_ e=>e) λ_ _ _ e=>e),J.8.move nf (λb x P e t=>(cs b x e).elim (λz=>(hc P (z.2▸t)).elim) id) (λ_ _ e=>e) (λ_ _ e=>e) λ_ _ _ _ e=>e,J.9⟩
theorem Inv.grow{own':Addr->Option aH}{ρ':bR}{σ':aq}{i:Nat}(I:Inv W σ h)(k:∀b o,W.own b≠some (.slot i)->h.get? b=some o->h'.get? b=some o)(sz:h.objs.size<=h'.objs.size)
  (f9:∀b r,W.own b=some r->own' b=some r) (hnew:∀b r,own' b=some r->W.own b=some r∨(h.objs.size<=b/\b<h'.objs.size/\r =.slot i)) (hρ:∀i a,af W.ρ i=some a->af ρ' i=some a) (hl:aT.len σ'=aT.len ρ')
  (c:∀j o a,af σ' j=some o->af ρ' j=some a->(af σ j=some o/\af W.ρ j=some a/\j≠i)∨br ⟨W.aU,own',ρ'⟩ j a h' o):Inv ⟨W.aU,own',ρ'⟩ σ' h':=by
 have le:W.Le ⟨W.aU,own',ρ'⟩:=⟨λ_ _ e=>e,λ_ _=>f9 _ _,λ_ _=>f9 _ _,λ_=>f9 _ _,λ_ _=>f9 _ _,hρ⟩;have old:∀b r,r≠ .slot i->own' b=some r->W.own b=some r:=λb r n e=>(hnew b r e).elim id λz=>(n z.2.2).elim;have kk:∀b o r,W.own b=some r->r≠ .slot i->h.get? b=some o->h'.get? b=some o:=λb o r e n=>k b o λz=>n (aap (e.symm.trans z));refine ⟨λb o e=>k _ _ (λz=>by rw [I.4 b _ z] at e;cases e) (I.1 b o e),λb o e=>?_,λb o e=>?_,λb r e=>?_,λb e=>?_,hl,λj o a e1 e2=>?_,?_,λb e=>?_⟩
 ·have:=old b _ (by simp) e;exact kk b o _ this (by simp) (I.2 b o this)
 ·have:=old b _ (by simp) e;exact (I.3 b o this).elim λsl q=>⟨sl,kk b _ _ this (by simp) q⟩
 ·induction hnew b r e with
  |inl q=>exact I.4 b r q|inr q=>induction z:W.aU b with
   |none=>rfl|some o=>exact (afJ.mpr q.1 (I.sV z)).elim
 ·induction q:own' b with
  |none=>exact q|some r=>induction hnew b r q with
   |inl z=>exact (afJ.mpr (aco sz e) (I.pQ z)).elim|inr z=>exact (afJ.mpr e z.2.1).elim
 ·exact (c j o a e1 e2).elim (λz=>(I.7 j o a z.1 z.2.1).move (.le' le (λb e=>f9 b _ e) λb o q e=>k b o (λy=>by rw [q] at y;cases y;exact z.2.2 rfl) e)) id
 ·exact I.8.move (W':=⟨W.aU,own',ρ'⟩) (λ_ _ e=>e) (λ_ _ _ e _=>e) (λb _ e=>f9 b _ e) (λb _ e=>old b _ (by simp) e) λb _ o q e=>kk b o _ q (by simp) e
 ·have:=old b _ (by simp) e;exact (I.9 b this).elim λo q=>⟨o,kk b o _ this (by simp) q⟩
inductive B8(h:Heap)(b:Addr):aH->Prop
 |kept (o:Obj) (e:h.get? b=some o):B8 h b (.kept o)|kL (o:Obj) (sl:Array cK) (e:h.get? b=some { o with slots:=sl }):B8 h b (.kL o)|cur (o:Obj) (e:h.get? b=some o):B8 h b .cur
theorem B8.get{b:Addr}{r:aH}(x:B8 h b r):∃o,h.get? b=some o:=by
 induction x with
 |kept o e=>exact ⟨o,e⟩|kL o sl e=>exact ⟨_,e⟩|cur o e=>exact ⟨o,e⟩
theorem Inv.own'{own':Addr->Option aH}(I:Inv W σ h)(k:∀b o,(W.aU b≠none∨W.own b≠none)->h.get? b=some o->h'.get? b=some o)(fr:∀b r,own' b=some r->b<h'.objs.size)(slot:∀b i o,W.own b=some (.slot i)->h.get? b=some o->own' b=some (.slot i))(tab:∀b q,W.own b=some (.tab q)->own' b=some (.tab q))
  (new:∀b r,own' b=some r->W.own b=some r∨(W.aU b=none/\B8 h' b r)):Inv ⟨W.aU,own',W.ρ⟩ σ h':=by
 have kf:∀b o r,W.own b=some r->h.get? b=some o->h'.get? b=some o:=λb o r e=>k b o (.inr λz=>nomatch z.symm.trans e);refine ⟨λa o e=>k a o (.inl λz=>nomatch z.symm.trans e) (I.1 a o e),λa o e=>?_,λa o e=>?_,λa r e=>(new a r e).elim (I.4 a r) And.left,λa e=>?_,I.6,λi o a e1 e2=>?_,?_,λa e=>?_⟩
 ·exact (new a _ e).elim (λz=>kf a o _ z (I.2 a o z)) λz=>by cases z.2 with|kept o e=>exact e
 ·exact (new a _ e).elim (λz=>(I.3 a o z).elim λsl q=>⟨sl,kf a _ _ z q⟩) λz=>by cases z.2 with|kL o sl e=>exact ⟨sl,e⟩
 ·induction q:own' a with
  |none=>exact q|some r=>exact (afJ.mpr e (fr a r q)).elim
 ·exact (I.7 i o a e1 e2).move (show Keeps W ⟨W.aU,own',W.ρ⟩ i h h' from ⟨⟨λ_ _ e=>e,λ_ _ e=>e⟩,λb o=>slot b i o,λb o e=>kf b o _ e⟩)
 ·exact I.8.move (W':=⟨W.aU,own',W.ρ⟩) (λ_ _ e=>e) (λ_ _ _ e _=>e) tab (λb q e=>(new b _ e).elim id λz=>nomatch z.2) λb q o e=>kf b o _ e
 ·exact (new a _ e).elim (λz=>(I.9 a z).elim λo q=>⟨o,kf a o _ z q⟩) λz=>z.2.get
theorem Inv.own{own':Addr->Option aH}(I:Inv W σ h)(k:∀b o,(W.aU b≠none∨W.own b≠none)->h.get? b=some o->h'.get? b=some o)(sz:h.objs.size<=h'.objs.size)(slot:∀b i,W.own b=some (.slot i)->own' b=some (.slot i))(tab:∀b q,W.own b=some (.tab q)->own' b=some (.tab q))
  (new:∀b r,own' b=some r->W.own b=some r∨(W.aU b=none/\B8 h' b r)):Inv ⟨W.aU,own',W.ρ⟩ σ h':=
 I.own' k (λb r e=>(new b r e).elim (λz=>aet (I.pQ z) sz) λz=>z.2.get.elim λo y=>ado y) (λb i _ e _=>slot b i e) tab new
noncomputable def vI(own:Addr->Option aH)(n:Nat):Addr->Option aH:=λa=>if n<=a then none else own a
theorem JM{own:Addr->Option aH}{n a:Nat}(h:a<n):vI own n a=own a:=if_neg (Nat.not_le.mpr h)
theorem sW{own:Addr->Option aH}{n a:Nat}{r:aH}(h:vI own n a=some r):a<n/\own a=some r:=by
 by_cases e:n<=a
 ·exact nomatch (show (none:Option aH)=some r from (if_pos e).symm.trans h)
 ·exact ⟨Nat.not_le.mp e,(if_neg e).symm.trans h⟩
theorem Inv.more(I:Inv W σ h)(k:∀b o,h.get? b=some o->h'.get? b=some o):W.Le ⟨W.aU,vI W.own h'.objs.size,W.ρ⟩/\Inv ⟨W.aU,vI W.own h'.objs.size,W.ρ⟩ σ h':=by
 have al:∀{a ob r},h.get? a=some ob->W.own a=some r->vI W.own h'.objs.size a=some r:=λq e=>(JM (ado (k _ _ q))).trans e;exact ⟨⟨λ_ _ q=>q,λa ob q=>al (I.2 a ob q) q,λa ob q=>(I.3 a ob q).elim λ_ z=>al z q,λa q=>(I.9 a q).elim λ_ z=>al z q,λa p q=>(I.8.2 a p q).elim λ_ z=>al z.1 q,λ_ _ q=>q⟩,
  I.own' (λb o _=>k b o) (λb r e=>(sW e).1) (λb i o e q=>al q e) (λb p e=>(I.8.2 b p e).elim λ_ z=>al z.1 e) λb r e=>.inl (sW e).2⟩
end
section
variable{cx:Cx Prop}{W W':Wd}{F:Fr cx}{S S' vJ:Pt}
theorem iK.up{F F':Addr->fy}(k:∀a o,F a=some o->F' a=some o)(T:iK cx F):iK cx F':=
 ⟨T.1.elim λo e=>⟨o,k _ _ e⟩,
 by induction T.2 with|mk o es n h d s e=>exact ⟨o,es,n,k _ _ h,d,s,e⟩,
 λa o e=>k _ _ (T.3 a o e),
 by induction T.4 with|mk og g n bm ob h s e n1 n2 hb c d p=>exact ⟨og,g,n,bm,ob,k _ _ h,s,e,n1,n2,k _ _ hb,c,d,p⟩,
 T.5,
 T.6,
 λa f e=>by induction T.7 a f e with|mk o fd h r c=>exact ⟨o,fd,k _ _ h,r.mono k,c⟩,
 by induction T.8 with|mk og ob mg mb n1 n2 hg sg hb sb v=>exact ⟨og,ob,mg,mb,n1,n2,k _ _ hg,sg,k _ _ hb,sb,λx u e=>(v x u e).imp (λq=>q.elim λy q=>⟨y,q.1,q.2.mono k⟩) λq=>⟨q.1,q.2.elim λy q=>⟨y,q.1,q.2.mono k⟩⟩⟩⟩
theorem dH.low(k:W.Gw W'){d:Hd}{v:cK}(x:dH W d v):dH W' d v:=by
 induction x with
 |no=>exact .no|«at» n a h=>exact .at n a (k.2 _ _ h)|other a=>exact .other a
theorem dH.up(k:W.Le W'){d:Hd}{v:cK}(x:dH W d v):dH W' d v:=x.low k.low
theorem xy.up{e:En}{env:Env}{A:Around}(k:W.Le W')(x:xy W e env A):xy W' e env A:=
 ⟨x.1.up k,x.2,x.3,x.4.elim λo q=>⟨o,q.1,λy hy=>by induction q.2 y hy with|mk k1 L o f ow nf=>exact ⟨k1,L,o,f,k.3 _ _ ow,nf⟩⟩,x.5⟩
theorem mG.up{e:En}{env:Env}{h h':Heap}(k:W.Le W')(x:mG W e env h)(kh:∀o,h.get? env.locals=some o->h'.get? env.locals=some o):mG W' e env h':=
 ⟨x.1,
 x.2,
 k.4 _ x.3,
 x.4.elim λg q=>⟨g,q.1.elim λo q=>q.elim λes q=>q.elim λep q=>⟨o,es,ep,kh _ q.1,q.2⟩,q.2.up k⟩,
 x.5.up k.6,
 x.6,
 x.7,
 x.8,
 x.9.mono k.1⟩
theorem bH.refl(o:Ok F S):bH F S S:=⟨.refl _,o⟩
theorem bH.trans(x:bH F S S')(y:bH F S' vJ):bH F S vJ:=⟨x.1.trans y.1,y.2⟩
theorem Ok.up(x:Ok F S)(k:Le S S')(I:Inv S'.W S'.σ S'.s.heap)(kh:∀o,S.s.heap.get? F.env.locals=some o->S'.s.heap.get? F.env.locals=some o):bH F S S':=
 ⟨k,I,x.2.up k.1 kh,iK.up k.1.1 x.3,x.4.up k.1⟩
noncomputable def Pt.tok(S:Pt)(t:Nat):Pt:=⟨S.W,S.σ,{ S.s with toks:=t }⟩
noncomputable def Pt.at(S:Pt)(h:Heap)(t:Nat):Pt:=⟨S.W,S.σ,{ S.s with heap:=h,toks:=t }⟩
theorem Ok.tok(x:Ok F S)(t:Nat):bH F S (S.tok t):=⟨⟨.refl _,rfl,rfl,rfl⟩,x.1,x.2,x.3,x.4⟩
theorem Ok.grown(x:Ok F S){h':Heap}(k:∀b o,S.s.heap.get? b=some o->h'.get? b=some o)(sz:S.s.heap.objs.size<=h'.objs.size)(t:Nat):bH F S (S.at h' t):=
 x.up ⟨.refl _,rfl,rfl,rfl⟩ (x.1.keep k sz) λo q=>k _ _ q
theorem Ok.pushed(x:Ok F S)(ob:Obj):bH F S (S.at (S.s.heap.push ob) S.s.toks):=x.grown (λ_ _ q=>aas _ q) (by rw [acR];exact adq _) _
def Pt.more(S:Pt)(h:Heap)(t:Nat):Pt:=⟨⟨S.W.aU,vI S.W.own h.objs.size,S.W.ρ⟩,S.σ,{ S.s with heap:=h,toks:=t }⟩
theorem Ok.more(x:Ok F S){h':Heap}(k:∀b o,S.s.heap.get? b=some o->h'.get? b=some o)(t:Nat):bH F S (S.more h' t):=x.up ⟨(x.1.more k).1,rfl,rfl,rfl⟩ (x.1.more k).2 λ_=>k _ _
def Pt.add(S:Pt)(ob:Obj)(mo:MO):Pt:=
 ⟨⟨S.W.aU,cO S.W.own S.s.heap.objs.size (some (.slot (len S.σ))),app S.W.ρ S.s.heap.objs.size⟩,app S.σ mo,{ S.s with heap:=S.s.heap.push ob }⟩
theorem Inv.JN(I:Inv S.W S.σ S.s.heap){ob:Obj}{mo:MO}(hf:ob.isFreed=false)(c:S.W.Le (S.add ob mo).W->(S.add ob mo).W.own S.s.heap.objs.size=some (.slot (aT.len S.σ))->(S.s.heap.push ob).get? S.s.heap.objs.size=some ob->br (S.add ob mo).W (aT.len S.σ) S.s.heap.objs.size (S.s.heap.push ob) mo) :
  S.W.Le (S.add ob mo).W/\Inv (S.add ob mo).W (S.add ob mo).σ (S.add ob mo).s.heap/\af (S.add ob mo).W.ρ (aT.len S.σ)=some S.s.heap.objs.size:=by
 have no:S.W.own S.s.heap.objs.size=none:=I.5 _ (abv _);have ho:∀b r,S.W.own b=some r->(S.add ob mo).W.own b=some r:=λb r q=>(aM λz=>by rw [z,no] at q;cases q).trans q
 have le:S.W.Le (S.add ob mo).W:=⟨λ_ _ e=>e,λ_ _=>ho _ _,λ_ _=>ho _ _,λ_=>ho _ _,λ_ _=>ho _ _,λ_ _ e=>aB _ e⟩;have hn:af (S.add ob mo).W.ρ (aT.len S.σ)=some S.s.heap.objs.size:=by rw [I.6];exact cz _ _
 refine ⟨le,I.grow (i:=aT.len S.σ) (λb x _ q=>aas _ q) ?_ ho (λb r q=>?_) (λ_ _ e=>aB _ e) (((bu ..).trans (congrArg (· + 1) I.6)).trans (bu ..).symm) λj x a e1 e2=>?_,hn⟩
 ·show _<=(S.s.heap.push ob).objs.size;rw [acR];exact adq _
 ·refine (bX q).elim (λz=>.inr ⟨adW z.1.symm,?_,(aap z.2).symm⟩) λz=>.inl z.2
  show b<(S.s.heap.push ob).objs.size;rw [acR,z.1];exact adY _
 ·induction bF e1 with
  |inl q=>induction bF e2 with
   |inl z=>exact .inl ⟨q,z,aee (cQ q)⟩|inr z=>exact (aec _ (I.6▸z.1▸cQ q)).elim
  |inr q=>
   rw [q.1] at e2;have e2:=hn.symm.trans e2;rw [q.1,q.2,← aap e2];exact .inr (c le aL (abX _ hf))
theorem Ok.add(o:Ok F S){ob:Obj}{mo:MO}(hf:ob.isFreed=false)(c:S.W.Le (S.add ob mo).W->(S.add ob mo).W.own S.s.heap.objs.size=some (.slot (len S.σ))->(S.s.heap.push ob).get? S.s.heap.objs.size=some ob->br (S.add ob mo).W (len S.σ) S.s.heap.objs.size (S.s.heap.push ob) mo) :
  bH F S (S.add ob mo)/\ao (S.add ob mo).W (.ref (len S.σ)) (.ref S.s.heap.objs.size):=
 have x:=o.1.JN hf c;⟨o.up ⟨x.1,rfl,rfl,rfl⟩ x.2.1 λ_ q=>aas _ q,_,x.2.2⟩
def Pt.sX(S:Pt)(ob uQ:Obj)(mo:MO):Pt:=
 ⟨⟨S.W.aU,cO (cO S.W.own S.s.heap.objs.size (some (.slot (len S.σ)))) (S.s.heap.objs.size+1) (some (.slot (len S.σ))),app S.W.ρ (S.s.heap.objs.size+1)⟩,app S.σ mo,{ S.s with heap:=(S.s.heap.push ob).push uQ }⟩
theorem Ok.sX(o:Ok F S){ob uQ:Obj}{mo:MO}(hf:uQ.isFreed=false)(c:(S.sX ob uQ mo).W.own S.s.heap.objs.size=some (.slot (len S.σ))->(S.sX ob uQ mo).W.own (S.s.heap.objs.size+1)=some (.slot (len S.σ))->((S.s.heap.push ob).push uQ).get? (S.s.heap.objs.size+1)=some uQ->
  br (S.sX ob uQ mo).W (len S.σ) (S.s.heap.objs.size+1) ((S.s.heap.push ob).push uQ) mo):bH F S (S.sX ob uQ mo)/\af (S.sX ob uQ mo).W.ρ (len S.σ)=some (S.s.heap.objs.size+1):=by
 have no:∀b r,S.W.own b=some r->b<S.s.heap.objs.size:=λb r=>o.1.pQ;have ho:∀b r,S.W.own b=some r->(S.sX ob uQ mo).W.own b=some r:=λb r q=>(aM (aee (agL (no b r q)))).trans ((aM (aee (no b r q))).trans q);have le:S.W.Le (S.sX ob uQ mo).W:=⟨λ_ _ e=>e,λ_ _=>ho _ _,λ_ _=>ho _ _,λ_=>ho _ _,λ_ _=>ho _ _,λ_ _ e=>aB _ e⟩;have hn:af (S.sX ob uQ mo).W.ρ (len S.σ)=some (S.s.heap.objs.size+1):=by rw [o.1.6];exact cz _ _
 have kp:∀b x,S.s.heap.get? b=some x->((S.s.heap.push ob).push uQ).get? b=some x:=λb x q=>aas _ (aas _ q);have sz:((S.s.heap.push ob).push uQ).objs.size=S.s.heap.objs.size+1+1:=by rw [acR,acR]
 refine ⟨o.up ⟨le,rfl,rfl,rfl⟩ (o.1.grow (i:=len S.σ) (λb x _ q=>kp b x q) (sz▸aco (adq _) (adq _)) ho (λb r q=>?_) (λ_ _ e=>aB _ e) (((bu ..).trans (congrArg (· + 1) o.1.6)).trans (bu ..).symm) λj x a e1 e2=>?_) λx q=>kp _ _ q,hn⟩
 ·refine (bX q).elim (λz=>.inr ⟨z.1▸adq _,?_,(aap z.2).symm⟩) λz=>(bX z.2).elim (λz=>.inr ⟨adW z.1.symm,?_,(aap z.2).symm⟩) λz=>.inl z.2
  ·show b<((S.s.heap.push ob).push uQ).objs.size;rw [sz,z.1];exact adY _
  ·show b<((S.s.heap.push ob).push uQ).objs.size;rw [sz,z.1];exact agL (adY _)
 ·induction bF e1 with
  |inl q=>induction bF e2 with
   |inl z=>exact .inl ⟨q,z,aee (cQ q)⟩|inr z=>exact (aec _ (o.1.6▸z.1▸cQ q)).elim
  |inr q=>
   rw [q.1] at e2;have e2:=hn.symm.trans e2;rw [q.1,q.2,← aap e2];exact .inr (c ((aM (aee (adY _))).trans aL) aL (Heap.get?_push_at (by rw [acR]) hf))
def Pt.put(S:Pt)(own':Addr->Option aH)(i:Nat)(mo:MO)(h:Heap)(t:Nat):Pt:=⟨⟨S.W.aU,own',S.W.ρ⟩,setAt S.σ i mo,{ S.s with heap:=h,toks:=t }⟩
theorem Ok.UQ(o:Ok F S){own':Addr->Option aH}{i:Nat}{o₀ mo:MO}{a:Addr}{h':Heap}{t:Nat}(hi:af S.σ i=some o₀)(ha:af S.W.ρ i=some a)
  (k:∀b o,S.W.own b≠some (.slot i)->S.s.heap.get? b=some o->h'.get? b=some o) (sz:S.s.heap.objs.size<=h'.objs.size)
  (f9:∀b r,S.W.own b=some r->own' b=some r) (hnew:∀b r,own' b=some r->S.W.own b=some r∨(S.s.heap.objs.size<=b/\b<h'.objs.size/\r =.slot i))
  (c:br ⟨S.W.aU,own',S.W.ρ⟩ i a h' mo):bH F S (S.put own' i mo h' t):=by
 refine o.up ⟨⟨λ_ _ e=>e,λ_ _=>f9 _ _,λ_ _=>f9 _ _,λ_=>f9 _ _,λ_ _=>f9 _ _,λ_ _ e=>e⟩,rfl,rfl,rfl⟩ (o.1.grow k sz f9 hnew (λ_ _ e=>e) ((bL ..).trans o.1.6) λj x b e1 e2=>?_) λx q=>k _ _ (λz=>by have:=o.2.3;rw [z] at this;cases this) q
 by_cases q:i=j
 ·subst q
  have e1:=(av mo hi).symm.trans e1;rw [ha] at e2;rw [← aap e1,← aap e2];exact .inr c
 ·exact .inl ⟨(ay _ _ q).symm.trans e1,e2,Ne.symm q⟩
theorem Ok.put(o:Ok F S){i:Nat}{o₀ mo:MO}{a:Addr}{h':Heap}{t:Nat}(hi:af S.σ i=some o₀)(ha:af S.W.ρ i=some a)
  (k:∀b o,S.W.own b≠some (.slot i)->S.s.heap.get? b=some o->h'.get? b=some o) (sz:S.s.heap.objs.size<=h'.objs.size) (c:br S.W i a h' mo):bH F S (S.put S.W.own i mo h' t):=
 o.UQ hi ha k sz (λ_ _ q=>q) (λ_ _ q=>.inl q) c
theorem Ok.u6(o:Ok F S){i:Nat}{o₀ mo:MO}{a b:Addr}{h':Heap}{t:Nat}(hi:af S.σ i=some o₀)(ha:af S.W.ρ i=some a)(hb:S.W.own b=some (.slot i))(k:Heap.SameBut b S.s.heap h')(c:br S.W i a h' mo):bH F S (S.put S.W.own i mo h' t):=
 o.put hi ha (λx o n e=>(k.2 x λ(z:x=b)=>n (z▸hb)).trans e) (adW k.1.symm) c
noncomputable def Pt.fz(S:Pt)(ob:Obj):Pt:=⟨⟨λb=>if b=S.s.heap.objs.size then some ob else S.W.aU b,S.W.own,S.W.ρ⟩,S.σ,{ S.s with heap:=S.s.heap.push ob }⟩
theorem Ok.fz(o:Ok F S){ob:Obj}(hf:ob.isFreed=false)(hc:∀P,¬jc ob P):bH F S (S.fz ob)/\(S.fz ob).W.aU S.s.heap.objs.size=some ob:=by
 have:=o.1.Z5 (h':=S.s.heap.push ob) (λb x q=>aas _ q) (by rw [acR];exact adq _) (abv _) (abX _ hf) hc
 exact ⟨o.up ⟨this.1,rfl,rfl,rfl⟩ this.2 λx q=>aas _ q,if_pos rfl⟩
end
section
variable{α β:Type}{σ:aq}{k:β->aq->Prop}{G:Prop}
theorem pR{r:Option α}{k:α->aq->Prop}(h:(aR r:M Prop α) σ k)(c:∀a,r=some a->k a σ->G):G:=by
 induction r with
 |none=>exact h.elim|some a=>exact c a rfl h
theorem aQ{r:Option α}{g:α->M Prop β}(h:bindM (aR r) g σ k)(c:∀a,r=some a->g a σ k->G):G:=pR (k:=λa σ'=>g a σ' k) h c
theorem aeB{f:aq->Option α}{k:α->aq->Prop}(h:(eE f:M Prop α) σ k)(c:∀a,f σ=some a->k a σ->G):G:=by
 revert h c;show (match f σ with|some a=>k a σ|none=>False)->_
 induction f σ with
 |none=>exact λh=>h.elim|some a=>exact λh c=>c a rfl h
theorem eH{f:aq->Option α}{g:α->M Prop β}(h:bindM (eE f) g σ k)(c:∀a,f σ=some a->g a σ k->G):G:=aeB (k:=λa σ'=>g a σ' k) h c
theorem OJ{n:Nat}{g:MO->M Prop β}(h:bindM (cellAt n) g σ k)(c:∀o,af σ n=some o->g o σ k->G):G:=by
 revert h c;show (match af σ n with|some o=>g o σ k|none=>False)->_
 induction af σ n with
 |none=>exact λh=>h.elim|some a=>exact λh c=>c a rfl h
theorem dK{b:Bool}{g:Unit->M Prop β}(h:bindM (aR (iB b)) g σ k)(c:b=true->g () σ k->G):G:=by
 induction b with
 |true=>exact c rfl h|false=>exact h.elim
theorem xB{b:Bool}{u:Unit}(h:iB b=some u):b=true:=by
 induction b with
 |true=>rfl|false=>cases h
theorem bz{b:Bool}{o:Option α}{a:α}(h:eF b o=some a):b=true/\o=some a:=by
 induction b with
 |true=>exact ⟨rfl,h⟩|false=>cases h
theorem fN{l:List α}{a:α}(h:one l=some a):l=[a]:=by
 induction l with
 |nil=>cases h
 |cons x r=>induction r with
  |nil=>cases h;rfl
  |cons _ _=>cases h
theorem Ca{l:List α}{p:α×α}(h:two l=some p):l=[p.1,p.2]:=by
 induction l with
 |nil=>cases h
 |cons x r=>induction r with
  |nil=>cases h
  |cons y t=>induction t with
   |nil=>cases h;rfl
   |cons _ _=>cases h
theorem gz{l:List α}{u:Unit}(h:pJ l=some u):l=[]:=by
 induction l with
 |nil=>rfl|cons _ _=>cases h
theorem sY{o:Option α}{u:Unit}(h:zo o=some u):o=none:=by
 induction o with
 |none=>rfl|some _=>cases h
end
theorem bx{a b:Bool}(h:(a&&b)=true):a=true/\b=true:=ahb.mp h
theorem nZ{a:Bool}(h:(!a)=true):a=false:=by induction a with|true=>cases h|false=>rfl
def aZ{α:Type}(p:α->Prop):Option α->Prop
 |none=>True|some a=>p a
theorem aZ.get{α:Type}{p:α->Prop}{o:Option α}{a:α}(h:aZ p o)(e:o=some a):p a:=by rw [e] at h;exact h
theorem aZ.mono{α:Type}{p q:α->Prop}{o:Option α}(h:aZ p o)(f:∀a,p a->q a):aZ q o:=by
 induction o with
 |none=>trivial|some a=>exact f a h
theorem bq{α:Type}{a:α}{G:Prop}(h:(none:Option α)=some a):G:=Option.noConfusion rfl (heq_of_eq h)
theorem iM(σ:aq)(n:Nat):aZ (λl=>af σ n=some (.list l.1 l.2)) (listOf σ n):=by
 unfold listOf;induction af σ n with
 |none=>trivial|some o=>induction o with
  |list p b=>rfl|_=>trivial
theorem sZ(σ:aq)(n:Nat):aZ (λl=>af σ n=some (.list [] l)) (sf σ n):=by
 unfold sf;induction af σ n with
 |none=>trivial|some o=>induction o with
  |list p b=>induction p with
   |nil=>rfl|cons _ _=>trivial
  |_=>trivial
theorem zL(σ:aq)(n:Nat):aZ (λv=>af σ n=some (.cell v)) (sC σ n):=by
 unfold sC;induction af σ n with
 |none=>trivial|some o=>induction o with
  |cell w=>rfl|_=>trivial
inductive u7(W:Wd)(h:Heap)(l:aY):Bool->Value->Prop
 |tup (a:Addr) (xs:bU) (e:h.get? a=some (d7 xs.toArray)) (r:ah W l xs):u7 W h l true (.ref a)|lst (a:Addr) (xs:bU) (n:Nat) (e:h.get? a=some (aX xs.toArray n)) (r:ah W l xs):u7 W h l false (.ref a)
inductive JO(W:Wd)(h:Heap)(es:Lo):Value->Prop
 |mk (a:Addr) (o:Obj) (g:Str->cK) (e:h.get? a=some o) (say:dU g o (len es)) (r:gK W es g):JO W h es (.ref a)
inductive zM(W:Wd)(h:Heap)(C:Addr)(fs:Lo):Value->Prop
 |mk (a d:Addr) (o:Obj) (g:Str->cK) (e:h.get? a=some (fL C d)) (ed:h.get? d=some o) (say:dU g o (len fs)) (r:gK W fs g):zM W h C fs (.ref a)
section
variable{cx:Cx Prop}{F:Fr cx}{S:Pt}{v:MV}{x:Value}
theorem Ok.cell(o:Ok F S){n:Nat}{a:Addr}{mo:MO}(ha:af S.W.ρ n=some a)(h:af S.σ n=some mo):br S.W n a S.s.heap mo:=o.1.7 n mo a h ha
theorem Ok.lst(o:Ok F S){n:Nat}{a:Addr}{p:az}{b:aY}(ha:af S.W.ρ n=some a)(h:af S.σ n=some (.list p b)):gY S.W n a S.s.heap (cat (bT p) (rev b [])):=o.cell ha h
theorem Ok.Eh(o:Ok F S){n:Nat}{a:Addr}{fs:Lo}(ha:af S.W.ρ n=some a)(h:af S.σ n=some (.dict fs)):d8 S.W n fs a S.s.heap:=o.cell ha h
theorem Ok.kno(o:Ok F S){n:Nat}{a:Addr}{v:CV}{ks:gI}(ha:af S.W.ρ n=some a)(h:af S.σ n=some (.known v ks)):uZ S.W n a S.s.heap v ks:=o.cell ha h
theorem Ok.ins(o:Ok F S){n:Nat}{a C:Addr}{fs:Lo}(ha:af S.W.ρ n=some a)(h:af S.σ n=some (.inst C fs)):nR S.W n a S.s.heap C fs:=o.cell ha h
theorem Ok.exc(o:Ok F S){n:Nat}{a C:Addr}{fs:Lo}{t b:Bool}(ha:af S.W.ρ n=some a)(h:af S.σ n=some (.exc C fs t b)):zE S.W n a S.s.heap C fs t b:=o.cell ha h
@[elab_as_elim] theorem MV.el{p:MV->Prop}(v:MV)(c:∀u,p (.c u))(r:∀n,p (.ref n))(t:∀l,p (.tup l))(k:∀f l,p (.clo f l)):p v:=MV.casesOn (motive_1:=p) v c r t k
theorem Z6(o:Ok F S){c:CV}(hx:bw S.W.aU c x):aZ (λp=>u7 S.W S.s.heap p.1 p.2 x) (jb S.σ (.c c)):=by
 induction c using CV.casesOn with
 |tup l=>exact fY.casesOn hx λa xs h r=>.tup a xs (o.1.1 _ _ h) r.vs|lst l=>exact uY.casesOn hx λa xs n h r=>.lst a xs n (o.1.1 _ _ h) r.vs|_=>trivial
theorem Z7(o:Ok F S){n:Nat}(hx:ao S.W (.ref n) x):aZ (λp=>u7 S.W S.s.heap p.1 p.2 x) (jb S.σ (.ref n)):=by
 refine iw.casesOn hx λa ha=>?_;dsimp only [jb];induction q:af S.σ n with
 |none=>trivial|some mo=>induction mo with
  |list pre back=>exact (o.lst ha q).casesOn λxs n _ e r _=>.lst a xs n e r|_=>trivial
theorem Ei(o:Ok F S):∀hx:ao S.W v x,aZ (λp=>u7 S.W S.s.heap p.1 p.2 x) (jb S.σ v):=by
 refine MV.el v (λ_=>Z6 o) (λ_=>Z7 o) (λ_ hx=>?_) λ_ _ _=>trivial;exact fY.casesOn hx λa xs h r=>.tup a xs (o.1.1 _ _ h) r
theorem Z8(o:Ok F S){c:CV}(hx:bw S.W.aU c x):aZ (λp=>JO S.W S.s.heap p x) (DQ S.σ (.c c)):=by
 induction c using CV.casesOn with
 |dct l=>exact Jy.casesOn hx λa ob g e s r=>.mk a ob g (o.1.1 _ _ e) (zK l▸s) r.Z4|_=>trivial
theorem zN(o:Ok F S){n:Nat}{a:Addr}(ha:af S.W.ρ n=some a):aZ (λp=>d8 S.W n p a S.s.heap) (q8 n S.σ):=by
 unfold q8;induction q:af S.σ n with
 |none=>trivial|some mo=>induction mo with
  |dict es=>exact o.Eh ha q|_=>trivial
theorem s6(o:Ok F S){n:Nat}{a:Addr}(ha:af S.W.ρ n=some a):aZ (λp=>uZ S.W n a S.s.heap p.1 p.2) (sr n S.σ):=by
 unfold sr;induction q:af S.σ n with
 |none=>trivial|some mo=>induction mo with
  |known _ _=>exact o.kno ha q|_=>trivial
theorem d8.Eh{W:Wd}{i:Nat}{fs:Lo}{a:Addr}{h:Heap}(c:d8 W i fs a h):JO W h fs (.ref a):=c.casesOn λob g _ e s r=>.mk a ob g e s r
theorem OL(o:Ok F S):∀hx:ao S.W v x,aZ (λes=>JO S.W S.s.heap es x) (DQ S.σ v):=by
 refine MV.el v (λ_=>Z8 o) (λn hx=>?_) (λ_ _=>trivial) λ_ _ _=>trivial;exact iw.casesOn hx λa ha=>aZ.mono (o:=q8 n S.σ) (zN o ha) λ_ c=>c.Eh
theorem Z9(o:Ok F S){c:CV}(hx:bw S.W.aU c x):aZ (λp=>zM S.W S.s.heap p.1 p.2 x) (objOf S.σ (.c c)):=by
 induction c using CV.casesOn with
 |obj C l=>exact Gr.casesOn hx λa d ob g e ed s r=>.mk a d ob g (o.1.1 _ _ e) (o.1.1 _ _ ed) (zK l▸s) r.Z4|_=>trivial
theorem nR.ins{W:Wd}{i:Nat}{fs:Lo}{a C:Addr}{h:Heap}(c:nR W i a h C fs):zM W h C fs (.ref a):=bB λgg=>c.casesOn λd _ _ e c=>c.casesOn λob g _ ed s r=>gg <|.mk a d ob g e ed s r
theorem aaa(o:Ok F S){n:Nat}(hx:ao S.W (.ref n) x):aZ (λp=>zM S.W S.s.heap p.1 p.2 x) (objOf S.σ (.ref n)):=by
 refine iw.casesOn hx λa ha=>?_;dsimp only [objOf];induction q:af S.σ n with
 |none=>trivial|some mo=>induction mo with
  |inst C fs=>exact (o.ins ha q).ins|_=>trivial
theorem OM(o:Ok F S):∀hx:ao S.W v x,aZ (λp=>zM S.W S.s.heap p.1 p.2 x) (objOf S.σ v):=by
 refine MV.el v (λ_=>Z9 o) (λ_=>aaa o) (λ_ _=>trivial) λ_ _ _=>trivial
theorem UR(o:Ok F S)(hx:ao S.W v x){p:aY×Bool}(h:jb S.σ v=some p):u7 S.W S.s.heap p.1 p.2 x:=(Ei o hx).get h
theorem US(o:Ok F S)(hx:ao S.W v x){es:Lo}(h:DQ S.σ v=some es):JO S.W S.s.heap es x:=(OL o hx).get h
theorem JP(o:Ok F S)(hx:ao S.W v x){p:Addr×Lo}(h:objOf S.σ v=some p):zM S.W S.s.heap p.1 p.2 x:=(OM o hx).get h
theorem Ev.here{α β:Type}{V:Wd->β->α->Prop}{k:β->aq->Prop}{Q:α->Shared->Prop}(q:Ev F V k S Q)(o:Ok F S){b:β}{a:α}(v:V S.W b a)(h:k b S.σ)(t:Nat):Q a { S.s with toks:=t }:=q (S.tok t) b a (o.tok t) v h
theorem Ev.same{α β:Type}{V:Wd->β->α->Prop}{k:β->aq->Prop}{Q:α->Shared->Prop}(q:Ev F V k S Q)(o:Ok F S){b:β}{a:α}(v:V S.W b a)(h:k b S.σ):Q a S.s:=q S b a (.refl o) v h
theorem Ev.aA{α β:Type}{V:Wd->β->α->Prop}{k:β->aq->Prop}{Q:α->Shared->Prop}{S':Pt}(q:Ev F V k S Q)(n:bH F S S'):Ev F V k S' Q:=λvJ b a m v h=>q vJ b a (n.trans m) v h
theorem Er.aA{k:Nat->aq->Prop}{E:b7}{S':Pt}(q:Er F k S E)(n:bH F S S'):Er F k S' E:=λvJ b a m h1 h2 h=>q vJ b a (n.trans m) h1 h2 h
theorem mG.kindOf{W:Wd}{e:En}{env:Env}{h:Heap}{x:Str}(E:mG W e env h):env.kindOf x=aT.kindOf e.sc x:=by
 unfold Env.kindOf aT.kindOf;rw [cJ,E.1]
theorem dU.ns{g:Str->cK}{o:Obj}{n:Nat}(h:dU g o n){hp:Heap}{a:Addr}(e:hp.get? a=some o):hp.Ns a g:=
 h.casesOn λes ep z h=>⟨_,es,ep,e.trans (congrArg some z),rfl,λd hd=>(h.1 d hd).elim λy q=>q.elim λt q=>⟨y,t,q.1⟩,h.3⟩
theorem lX{x:Str}(h:(!(dunder x))=true):(x==("__debug__" : Str))=false/\(x==("__classdict__" : Str))=false:=by
 have:=Bool.or_eq_false_iff.mp (nZ h);exact ⟨beq_false_of_ne (dh.mp this.1),beq_false_of_ne (dh.mp this.2)⟩
inductive aeC(W:Wd)(cells:List (Str×Addr))(h:Heap)(x:Str)(v:MV):Prop|mk (a:Addr) (y:Value) (e:cells.lookup x=some a) (c:h.IsCell a (some y)) (r:ao W v y)
theorem aeD(o:Ok F S){n:Nat}{a:Addr}{v:MV}(ha:af S.W.ρ n=some a)(h:sC S.σ n=some (some v)){G:Prop}(c:∀y,S.s.heap.IsCell a (some y)->ao S.W v y->G):G:=by
 cases (o.cell ha ((zL ..).get h):zF ..) with|yes v y ob ow g d r=>exact c y ⟨ob,g,d⟩ r
theorem kZ(o:Ok F S){cells:ja}{cl:List (Str×Addr)}(hc:xw S.W.ρ cells cl){n:Str}{k:MV->aq->Prop}(h:loadCell cells n S.σ k){G:Prop}(c:∀v,k v S.σ->aeC S.W cl S.s.heap n v->G):G:=
 aQ h λi e h=>eH h λv q h=>pR h λv z h=>(hc _ _ e).elim λa hc=>aeD o hc.1 (z▸q) λy d r=>c v h ⟨a,y,hc.2,d,r⟩
def Sw{cx:Cx Prop}(F:Fr cx)(S:Pt)(n:Str)(v:MV):Prop:=∀(Q:b7)(E:b7),(∀a,ao S.W v a->Q a S.s)->wpAny Md F.A (loadName F.env n) Q E S.s
theorem Ej(o:Ok F S){env:Env}(hf:env.scope.kind =.function)(hg:env.globals=mainGlobals)(hb:env.builtins=builtinsNs){n:Str}(hk:env.kindOf n=some .globalImplicit){v:CV}(z:look n cx.top.glob=some v)
  {Q:b7} {E:b7} (hQ:∀a,ao S.W (.c v) a->Q a S.s):wpAny Md F.A (loadName env n) Q E S.s:=by
 refine PySem.W.ks_loadName_global hf hk ?_;refine o.3.8.casesOn λog ob mg mb n1 n2 h1 sg h2 sb vs=>?_;unfold loadGlobal;rw [hg,hb];refine aag (wpAny_nsGet (sg.ns (o.1.1 _ _ h1)) ?_);refine (vs n v z).elim (λq=>q.elim λy q=>?_) λq=>?_
 ·rw [q.1];exact aaq (hQ y q.2)
 ·rw [q.1]
  refine aag (wpAny_nsGet (sb.ns (o.1.1 _ _ h2)) (q.2.elim λy q=>?_));rw [q.1];exact aaq (hQ y q.2)
theorem Gx(o:Ok F S){n:Str}(hk:F.env.kindOf n=some .globalImplicit){v:CV}(z:look n cx.top.glob=some v):Sw F S n (.c v):=λQ E hQ=>
 Ej o (by rw [o.2.1];exact o.2.2) o.2.6 o.2.7 hk z hQ
theorem xC(o:Ok F S){n:Str}{k:MV->aq->Prop}(h:load cx F.e n S.σ k){G:Prop}(c:(n==("__debug__" : Str))=false->∀v,k v S.σ->Sw F S n v->G):G:=by
 have hk:=o.2.kindOf (x:=n);have hf:F.env.scope.kind =.function:=by rw [o.2.1];exact o.2.2
 refine dK h λhd h=>aQ h λkd q h=>?_;have hb:=lX hd;rw [q] at hk;induction kd with
 |«local» =>exact pR h λv z h=>o.2.4.elim λg ns=>(ns.2 n v z).elim λy hy=>c hb.1 v h λQ E hQ=>wpAny_loadName_local hf hk ns.1 hy.1 (hQ y hy.2)|cell=>exact kZ o o.2.5 h λv h r=>c hb.1 v h λQ E hQ=>r.casesOn λa y e d r=>wpAny_loadName_cell hf hk e d (hQ y r)|free=>exact kZ o o.2.5 h λv h r=>c hb.1 v h λQ E hQ=>r.casesOn λa y e d r=>wpAny_loadName_free hf hk e d (hQ y r) hb.2|globalImplicit=>exact aQ h λv z h=>c hb.1 (.c v) h (Gx o hk z)|globalExplicit=>exact h.elim
end
def Tv.Is:Tv->Bool->Prop
 |.yes,b=>b=true|.no,b=>b=false|.sym t,b=>t=b
theorem vK{c b:Bool}(h:(tv c).Is b):c=b:=by cases c<;>exact Eq.symm h
theorem ON{T:Tv}{b:Bool}(h:(BI T).Is b):T.Is (!b):=by
 induction T with
 |yes=>rw [show b=false from h];rfl|no=>rw [show b=true from h];rfl|sym t=>rw [← show (!t)=b from h,aih];rfl
theorem OO{s t b:Bool}(h:(Zu s t).Is b):t=b:=by
 induction s with
 |true=>exact h|false=>exact vK h
section
variable{cx:Cx Prop}{F:Fr cx}{S:Pt}{A:Around}{s:Shared}
theorem JQ{σ:aq}{p:Pos}{T:Tv}{k:Bool->aq->Prop}(h:Zb cx p T σ k):∃b,k b σ/\T.Is b:=by
 induction T with
 |yes=>exact ⟨true,h,rfl⟩|no=>exact ⟨false,h,rfl⟩|sym t=>
  revert h;dsimp only [Zb];induction Sd (vC p cx.T8) with
  |some b=>exact λh=>⟨b,h.2,h.1⟩|none=>
   dsimp only;induction cx.ora p σ with
   |some b=>exact λh=>⟨b,h.2,h.1⟩|none=>exact λh=>⟨t,by cases t<;>first|exact h.1 rfl|exact h.2 rfl,rfl⟩
inductive Zf:At->Value->Prop
 |none:Zf .none .none|int (i:Int) (t:Nat):Zf (.int i) (.int i t)|str (s:Str) (t:Nat):Zf (.str s) (.str s t)
theorem JR{G:Addr->fy}{u:CV}{x:Value}(hx:bw G u x):aZ (λa=>Zf a x) (dP u):=by
 induction u using CV.casesOn with
 |none=>rw [show x =.none from hx];exact .none|int i=>exact cW.casesOn hx λt=>.int i t|str s=>exact cP.casesOn hx λt=>.str s t|«at» a=>induction a with
  |none=>rw [show x =.none from hx];exact .none|int i=>exact cW.casesOn hx λt=>.int i t|str s=>exact cP.casesOn hx λt=>.str s t
 |_=>trivial
theorem n7(a b:Int):IX a b=decide (a=b):=by
 induction a with
 |ofNat x=>induction b with
  |ofNat y=>show Nat.beq x y=_;rw [show Nat.beq x y=decide (x=y) from ahy x y];exact decide_eq_decide.mpr ⟨congrArg _,Int.ofNat.inj⟩|negSucc y=>rfl
 |negSucc x=>induction b with
  |ofNat y=>rfl|negSucc y=>show Nat.beq x y=_;rw [show Nat.beq x y=decide (x=y) from ahy x y];exact decide_eq_decide.mpr ⟨congrArg _,Int.negSucc.inj⟩
theorem n8(a b:Str):cD a b=decide (a=b):=by
 induction e:cD a b with
 |true=>exact (decide_eq_true (dI.mp e)).symm|false=>exact (decide_eq_false (dh.mp e)).symm
theorem Cb(a b:At):eqA a b=mW a b:=by
 induction a with
 |none=>cases b<;>rfl
 |int i=>induction b with
  |int j=>exact (n7 i j).trans (decide_eq_decide.mpr ⟨congrArg _,At.int.inj⟩)|_=>rfl
 |str i=>induction b with
  |str j=>exact (n8 i j).trans (decide_eq_decide.mpr ⟨congrArg _,At.str.inj⟩)|_=>rfl
noncomputable def jv:Value->Value->Bool
 |.none,y=>match y with|.none=>true|_=>false
 |.int i _,y=>match y with|.int j _=>i==j|_=>false
 |.str i _,y=>match y with|.str j _=>i==j|_=>false
 |_,_=>false
structure IP(A:Around)(s:Shared)(x y:Value)(k:Bool):Prop where
 rc:SeqAt.RcAt A s x y k
 ne:SeqAt.RcNeAt A s x y (!k)
structure aab(A:Around)(s:Shared)(x y:Value)(k:Bool):Prop extends IP A s x y k where
 it:SeqAt.EqAt A s x y k
theorem UT{x y:Value}{a b:At}(hx:Zf a x)(hy:Zf b y):(∀A s,aab A s x y (jv x y))/\mW a b=jv x y:=by
 induction hx with
 |none=>induction hy with
  |none=>exact ⟨λA s=>⟨⟨SeqAt.RcAt.none_none,SeqAt.RcNeAt.none_none⟩,SeqAt.EqAt.same _⟩,rfl⟩|int j t=>exact ⟨λA s=>⟨⟨SeqAt.RcAt.none_int _ _,SeqAt.RcNeAt.none_int _ _⟩,SeqAt.EqAt.none_int _ _⟩,rfl⟩|str j t=>exact ⟨λA s=>⟨⟨SeqAt.RcAt.none_str _ _,SeqAt.RcNeAt.none_str _ _⟩,SeqAt.EqAt.none_str _ _⟩,rfl⟩
 |int i t=>induction hy with
  |none=>exact ⟨λA s=>⟨⟨SeqAt.RcAt.int_none _ _,SeqAt.RcNeAt.int_none _ _⟩,SeqAt.EqAt.int_none _ _⟩,rfl⟩|int j u=>exact ⟨λA s=>⟨⟨SeqAt.RcAt.int_int _ _ _ _,SeqAt.RcNeAt.int_int _ _ _ _⟩,SeqAt.EqAt.int_int _ _ _ _⟩,(Cb ..).symm.trans (n7 i j)⟩|str j u=>exact ⟨λA s=>⟨⟨SeqAt.RcAt.int_str _ _ _ _,SeqAt.RcNeAt.int_str _ _ _ _⟩,SeqAt.EqAt.int_str _ _ _ _⟩,rfl⟩
 |str i t=>induction hy with
  |none=>exact ⟨λA s=>⟨⟨SeqAt.RcAt.str_none _ _,SeqAt.RcNeAt.str_none _ _⟩,SeqAt.EqAt.str_none _ _⟩,rfl⟩|int j u=>exact ⟨λA s=>⟨⟨SeqAt.RcAt.str_int _ _ _ _,SeqAt.RcNeAt.str_int _ _ _ _⟩,SeqAt.EqAt.str_int _ _ _ _⟩,rfl⟩|str j u=>exact ⟨λA s=>⟨⟨SeqAt.RcAt.str_str _ _ _ _,SeqAt.RcNeAt.str_str _ _ _ _⟩,SeqAt.EqAt.str_str _ _ _ _⟩,(Cb ..).symm.trans (n8 i j)⟩
inductive EqT(x y:Value)(T:Tv):Prop|mk (e:∀A s,aab A s x y (jv x y)) (t:∀k,T.Is k->jv x y=k)
theorem xD{G H:Addr->fy}{u v:CV}{x y:Value}(hx:bw G u x)(hy:bw H v y):aZ (EqT x y) (Ua u v):=by
 unfold Ua;induction q1:dP u with
 |none=>trivial|some a=>
  dsimp only;induction q2:dP v with
  |none=>trivial|some b=>
   have h1:=(JR hx).get q1;have h2:=(JR hy).get q2;have e:=UT h1 h2;dsimp only;induction Ol u with
   |true=>exact ⟨e.1,λk hk=>e.2.symm.trans hk⟩|false=>induction Ol v with
    |true=>exact ⟨e.1,λk hk=>e.2.symm.trans hk⟩|false=>exact ⟨e.1,λk hk=>e.2.symm.trans ((Cb a b).symm.trans (vK hk))⟩
theorem xy.room{W:Wd}{e:En}{env:Env}(h:xy W e env A):A.units<cLine:=by have:=h.3;lia
theorem Cc{l b:Addr}{x y:Value}{t:Bool}(l1:s.heap.IsList l [x].toArray)(l2:s.heap.IsList b [y].toArray)(hu:A.units<cLine)(hi:∀A':Around,SeqAt.EqAt A' s x y t):IP A s (.ref l) (.ref b) t:=by
 have he:∀A':Around,∀j (h1:j<[x].toArray.size) (h2:j<[y].toArray.size),SeqAt.EqAt A' s [x].toArray[j] [y].toArray[j] t:=by
  intro A' j h1 h2;obtain rfl:j=0:=by simp at h1;lia
  exact hi A'
 have hl:(List.range [x].toArray.size).all (λ_=>t)=t:=by simp [List.range,List.range.loop]
 have z1:=SeqAt.RcAt.lists (A:=A) (e:=λ_=>t) l1 l2 (by rfl) hu (he A.in1)
 have z2:=SeqAt.RcNeAt.lists (A:=A) (e:=λ_=>t) l1 l2 (by rfl) hu (he A.in1)
 rw [hl] at z1 z2;exact ⟨z1,z2⟩
theorem ie{h:Heap}{a:Addr}{xs:bU}{n:Nat}(e:h.get? a=some (aX xs.toArray n)):h.IsList a xs.toArray:=⟨_,e,rfl,n,rfl⟩
inductive LsR(W:Wd)(h:Heap)(l:aY):Value->Prop|mk (a:Addr) (xs:bU) (n:Nat) (g:h.get? a=some (aX xs.toArray n)) (r:ah W l xs) (sz:xs.length<=2*aW):LsR W h l (.ref a)
theorem gO(o:Ok F S){n:Nat}{x:Value}(hx:ao S.W (.ref n) x){pre:az}{back:aY}(h:af S.σ n=some (.list pre back)):LsR S.W S.s.heap (cat (bT pre) (rev back [])) x:=
 iw.casesOn hx λa ha=>(o.lst ha h).casesOn λxs n _ g r sz=>.mk a xs n g r sz
section
variable{l l':aY}{v u:MV}{a b:Addr}{xs ys:bU}{n m:Nat}
theorem OP(hu:A.units<cLine)(g:s.heap.get? a=some (aX #[] n))(g':s.heap.get? b=some (aX #[] m)):IP A s (.ref a) (.ref b) true:=
 ⟨SeqAt.RcAt.lists (e:=λ_=>true) ⟨_,g,rfl,n,rfl⟩ ⟨_,g',rfl,m,rfl⟩ rfl hu (λj h1=>absurd h1 (adP _)),SeqAt.RcNeAt.lists (e:=λ_=>true) ⟨_,g,rfl,n,rfl⟩ ⟨_,g',rfl,m,rfl⟩ rfl hu (λj h1=>absurd h1 (adP _))⟩
theorem JS(hu:A.units<cLine)(g:s.heap.get? a=some (aX xs.toArray n))(g':s.heap.get? b=some (aX #[] m))(hs:xs.length≠0):IP A s (.ref a) (.ref b) false:=
 have hs:(xs.toArray.size != (#[]:ig).size)=true:=bne_iff_ne.mpr hs;⟨SeqAt.RcAt.lists_lengths ⟨_,g,rfl,n,rfl⟩ ⟨_,g',rfl,m,rfl⟩ hs hu,SeqAt.RcNeAt.lists_lengths ⟨_,g,rfl,n,rfl⟩ ⟨_,g',rfl,m,rfl⟩ hs hu⟩
theorem OQ(hu:A.units<cLine)(g:s.heap.get? a=some (aX xs.toArray n))(g':s.heap.get? b=some (aX ys.toArray m))(r:ah S.W [v] xs)(r':ah S.W [u] ys):aZ (λT=>∀t,T.Is t->IP A s (.ref a) (.ref b) t) (eqL [v] [u]):=by
 induction v using MV.casesOn with
 |c v=>induction u using MV.casesOn with
  |c u=>
   refine (ah.single r).elim λx hx=>(ah.single r').elim λy hy=>aZ.mono (o:=Ua v u) (xD hx.2 hy.2) λT e t ht=>?_;rw [hx.1] at g;rw [hy.1] at g';exact e.casesOn λe z=>z t ht▸Cc (ie g) (ie g') hu λA'=>(e A' s).it
  |_=>trivial
 |_=>trivial
theorem OR(hu:A.units<cLine)(g:s.heap.get? a=some (aX xs.toArray n))(g':s.heap.get? b=some (aX ys.toArray m))(r:ah S.W (rev l []) xs)(r':ah S.W (rev l' []) ys):aZ (λT=>∀t,T.Is t->IP A s (.ref a) (.ref b) t) (eqL l l'):=by
 induction l with
 |nil=>induction l' with
  |nil=>
   rw [show xs=[] from r] at g
   rw [show ys=[] from r'] at g'
   exact λt ht=>(show t=true from ht)▸OP hu g g'
  |cons _ _=>trivial
 |cons v l=>induction l' with
  |nil=>
   rw [show ys=[] from r'] at g'
   exact λt ht=>(show t=false from ht)▸JS hu g g' (by rw [← r.len,je];exact Nat.succ_ne_zero _)
  |cons u l'=>induction l with
   |cons _ _=>trivial|nil=>induction l' with
    |cons _ _=>trivial|nil=>exact OQ hu g g' r r'
end
theorem Gy(o:Ok F S){n:Nat}{x:Value}(hx:ao S.W (.ref n) x):aZ (λ_=>(IP F.A S.s x .none false)/\IP F.A S.s .none x false) (IY S.σ n):=by
 have hu:=o.4.room;unfold IY;induction q:af S.σ n with
 |none=>trivial|some mo=>induction mo with
  |list pre back=>exact (gO o hx q).casesOn λa xs n g r sz=>⟨⟨SeqAt.RcAt.list_none (ie g) hu,SeqAt.RcNeAt.list_none (ie g) hu⟩,⟨SeqAt.RcAt.none_list (ie g) hu,SeqAt.RcNeAt.none_list (ie g) hu⟩⟩|_=>trivial
inductive Tells(S:Pt)(k:Tv->aq->Prop)(p:Bool->Prop):Prop|mk (T:Tv) (h:k T S.σ) (t:∀t,T.Is t->p t)
theorem JT{u:CV}{z:Unit}(h:Se u=some z):u =.none:=by
 induction u using CV.casesOn with
 |none=>rfl|_=>cases h
section
variable{k:Tv->aq->Prop}{x y:Value}
theorem Ek(o:Ok F S){u:CV}{n:Nat}(hx:bw S.W.aU u x)(hy:ao S.W (.ref n) y)(h:Ub u n S.σ k):Tells S k (IP F.A S.s x y)/\Tells S k (IP F.A S.s y x):=by
 refine aQ h λ_ e h=>eH h λ_ q h=>?_;rw [JT e] at hx;rw [show x =.none from hx]
 have:=(Gy o hy).get q;exact ⟨⟨.no,h,λt ht=>(show t=false from ht)▸this.2⟩,⟨.no,h,λt ht=>(show t=false from ht)▸this.1⟩⟩
theorem UU(o:Ok F S){n m:Nat}(hx:ao S.W (.ref n) x)(hy:ao S.W (.ref m) y)(h:eqR n m S.σ k):Tells S k (IP F.A S.s x y):=by
 refine eH h λl q1 h=>eH h λl' q2 h=>pR h λT q h=>⟨T,h,?_⟩;exact (gO o hx ((sZ ..).get q1)).casesOn λa xs n g r _=>(gO o hy ((sZ ..).get q2)).casesOn λb ys m g' r' _=>(OR o.4.room g g' r r').get q
theorem JU(o:Ok F S){a b:MV}(hx:ao S.W a x)(hy:ao S.W b y)(h:eqV a b S.σ k):Tells S k (IP F.A S.s x y):=by
 induction a using MV.casesOn with
 |c u=>induction b using MV.casesOn with
  |c v=>exact pR h λT q h=>((xD hx hy).get q).casesOn λe z=>⟨T,h,λt ht=>z t ht▸(e _ _).toIP⟩|ref n=>exact (Ek o hx hy h).1|_=>exact h.elim
 |ref n=>induction b using MV.casesOn with
  |c u=>exact (Ek o hy hx h).2|ref m=>exact UU o hx hy h|_=>exact h.elim
 |_=>exact h.elim
end
theorem Gz{G H:Addr->fy}{u:CV}{x:Value}(hx:bw G u x){l:az}{ys:bU}(hl:bO H l ys):aZ (λT=>(∀A s,∀y∈ys,SeqAt.EqAt A s y x (jv y x))/\T=tv (ys.any λy=>jv y x)) (sj u l):=by
 induction l generalizing ys with
 |nil=>rw [show ys=[] from hl];exact ⟨λA s y hy=>(ahW hy).elim,rfl⟩|cons v l ih=>
  refine bB λgg=>hl.elim λy hl=>hl.elim λr hl=>gg <|?_
  rw [hl.1];have ih:=ih hl.2.2;have e:=xD hl.2.1 hx;dsimp only [sj];clear hl hx;revert e ih;induction Ua v u with
  |none=>exact λ_ _=>trivial|some T=>
   intro ih e;refine e.casesOn λe z=>?_;have he:∀A s,(∀y∈r,SeqAt.EqAt A s y x (jv y x))->∀y'∈y::r,SeqAt.EqAt A s y' x (jv y' x):=λA s h y' hy=>(adN.mp hy).elim (λz=>z▸(e A s).it) (h y');clear e;revert ih;induction T with
   |yes=>dsimp only;induction sj u l with
    |none=>exact λ_=>trivial|some T2=>exact λih=>⟨λA s=>he A s (ih.1 A s),by rw [aiz,z true rfl];rfl⟩
   |no=>dsimp only;induction sj u l with
    |none=>exact λ_=>trivial|some T2=>exact λih=>⟨λA s=>he A s (ih.1 A s),by rw [aiz,z false rfl];exact ih.2⟩
   |sym t=>exact λ_=>trivial
theorem jM{P Q:Str->Value->Bool}(h:∀k v,P k v=Q k v)(es:Array DictEntry)(k:Str):findBy P es k=findBy Q es k:=by
 unfold findBy;rw [show (λe:DictEntry=>P k e.key)=λe=>Q k e.key from funext λe=>h k e.key]
theorem dU.mapOf{g:Str->cK}{o:Obj}{n:Nat}(h:dU g o n){hp:Heap}{a:Addr}(e:hp.get? a=some o):hp.MapOf (strKind prog w) a g:=
 h.casesOn λes ep z h=>⟨_,es,ep,e.trans (congrArg some z),⟨rfl,rfl,rfl⟩,rfl,λd hd=>(h.1 d hd).elim λx q=>q.elim λt q=>⟨x,by rw [q.1];exact agN prog w x t,q.2⟩,λk=>(jM (λk v=>(agX k v).symm) es k).trans (h.3 k)⟩
inductive aeE(W:Wd)(h:Heap)(a:Addr)(v:CV)(ks:gI):Prop|mk (g:Int->cK) (m:h.MapOf (intKind prog w) a g) (dom:∀k,(g k).isSome=decide (k∈ks)) (val:∀k x,g k=some x->bw W.aU v x)
theorem uZ.mapOf{W:Wd}{i:Nat}{a:Addr}{h:Heap}{v:CV}{ks:gI}(c:uZ W i a h v ks):aeE W h a v ks:=
 c.casesOn λo es ep ow e x d k sz dom val=>⟨_,Heap.IntMap.mapOf ⟨o,es,ep,e,x.1,d,k,λ_=>rfl⟩ (λo' h'=>(aap (e.symm.trans h'))▸x.2),dom,val⟩
theorem uZ.own{W:Wd}{i:Nat}{a:Addr}{h:Heap}{v:CV}{ks:gI}(c:uZ W i a h v ks):W.own a=some (.slot i):=c.casesOn λ_ _ _ ow _ _ _ _ _ _ _=>ow
theorem jf(o:Ok F S){a:Addr}{i:Nat}(h:S.W.own a=some (.slot i)):(a==sysModules)=false:=by
 refine beq_false_of_ne λz=>o.3.1.elim λob q=>?_;rw [z] at h;rw [o.1.4 _ _ h] at q;cases q
theorem cC{G:Addr->fy}{u:CV}{x:Value}(hx:bw G u x):aZ (λi=>cW i.1 x) (b8 u):=by
 induction u using CV.casesOn with
 |int i=>exact hx|«at» a=>induction a with
  |int i=>exact hx|_=>trivial
 |_=>trivial
theorem lY{G:Addr->fy}{u:CV}{x:Value}(hx:bw G u x):aZ (λi=>cP i.1 x) (nF u):=by
 induction u using CV.casesOn with
 |str i=>exact hx|«at» a=>induction a with
  |str i=>exact hx|_=>trivial
 |_=>trivial
theorem lq{G:Addr->fy}{u:CV}{x:Value}(hx:bw G u x):aZ (λi=>cP i x) (q9 u):=by
 induction u using CV.casesOn with
 |str i=>exact hx|_=>trivial
theorem JV{G:Addr->fy}{u:CV}{x:Value}(hx:bw G u x):aZ (λl=>fY G (bO G l) x) (Uc u):=by
 induction u using CV.casesOn with
 |tup i=>exact hx|_=>trivial
theorem fO{v:MV}{x:Value}{W:Wd}(hx:ao W v x):aZ (λu=>bw W.aU u x) (qu v):=by
 induction v using MV.casesOn with
 |c u=>exact hx|_=>trivial
theorem iD{v:MV}{x:Value}{W:Wd}(hx:ao W v x):aZ (λn=>iw W.ρ n x) (refOf v):=by
 induction v using MV.casesOn with
 |ref n=>exact hx|_=>trivial
theorem zO{v:MV}{x:Value}{W:Wd}(hx:ao W v x):aZ (λi=>cW i.1 x) (I3 v):=by
 induction v using MV.casesOn with
 |c u=>exact cC hx|_=>trivial
def qB(A:Around)(s:Shared)(x y:Value)(t:Bool):Prop:=∀(Q:b7)(E:b7),
 ((∀tk,Q (.bool t) { s with toks:=tk })->wpAny Md A (compareOp .In x y) Q E s)/\((∀tk,Q (.bool (!t)) { s with toks:=tk })->wpAny Md A (compareOp .NotIn x y) Q E s)
theorem nQ.JW{W:Wd}{v:Option MV}{y:cK}(h:nQ W v y):y.isSome=lS v:=by
 induction v with
 |none=>rw [show y=none from h];rfl|some v=>exact h.elim λz h=>h.1▸rfl
section
variable{k:Tv->aq->Prop}{x y:Value}{b:Addr}
theorem in_str{u z:Str}(hx:cP u x)(hy:cP z y){t:Bool}(e:PySem.Txt.contains z u=t):qB A s x y t:=λQ E=>
 cP.casesOn hx λt1=>cP.casesOn hy λt2=>
  have e:(!(Builtin.Str.occurrences z u 0 z.length 1).isEmpty)=t:=e;⟨λq=>P.in_str (by rw [e];exact q s.toks),λq=>P.notIn_str (by rw [e];exact q s.toks)⟩
theorem UW{xs:bU}(g:s.heap.get? b=some (d7 xs.toArray))(p:∀A s,∀y∈xs,SeqAt.EqAt A s y x (jv y x)){t:Bool}(e:(xs.any λy=>jv y x)=t):qB A s x (.ref b) t:=λQ E=>
 have hl:s.heap.IsTuple b xs.toArray:=⟨_,g,rfl,0,rfl⟩;have he:xs.toArray.any (λy=>jv y x)=t:=by rw [← e];simp
 ⟨λq=>SeqAt.in_tupleAt (λy=>jv y x) hl (λy hy=>p _ _ y (List.mem_toArray.mp hy)) (by rw [he];exact q s.toks),
  λq=>SeqAt.notIn_tupleAt (λy=>jv y x) hl (λy hy=>p _ _ y (List.mem_toArray.mp hy)) (by rw [he];exact q s.toks)⟩
theorem JX{i:Int}{g:Int->cK}{t:Bool}(hx:cW i x)(hs:(b==sysModules)=false)(hm:s.heap.MapOf (intKind prog w) b g)(ht:(g i).isSome=t):qB A s x (.ref b) t:=λQ E=>
 cW.casesOn hx λt1=>⟨λq=>wpAny_in_of (ahz prog w _ t1) hs hm (by rw [ht];exact q _),λq=>wpAny_notIn_of (ahz prog w _ t1) hs hm (by rw [ht];exact q _)⟩
theorem UX{i:Str}{g:Str->cK}{t:Bool}(hx:cP i x)(hs:(b==sysModules)=false)(hm:s.heap.MapOf (strKind prog w) b g)(ht:(g i).isSome=t):qB A s x (.ref b) t:=λQ E=>
 cP.casesOn hx λt1=>⟨λq=>wpAny_in_of (agN prog w _ t1) hs hm (by rw [ht];exact q _),λq=>wpAny_notIn_of (agN prog w _ t1) hs hm (by rw [ht];exact q _)⟩
theorem dU.empty{g:Str->cK}{o:Obj}(h:dU g o 0){hp:Heap}{a:Addr}(e:hp.get? a=some o):hp.MapOf (intKind prog w) a λ_=>none:=by
 refine h.casesOn λes ep z h=>?_;rw [z,aeT (aiv.mp h.2)] at e;exact Heap.IntMap.mapOf ⟨_,#[],ep,e,rfl,rfl,λ_ he=>(ahd _ he).elim,λ_=>rfl⟩ λo' h'=>(aap (e.symm.trans h'))▸⟨rfl,rfl⟩
theorem UY(o:Ok F S){u v:CV}(hx:bw S.W.aU u x)(hy:bw S.W.aU v y)(h:inC u v S.σ k):Tells S k (qB F.A S.s x y):=by
 revert h;dsimp only [inC];induction q:Uc v with
 |some l=>
  exact λh=>pR h λT e h=>((JV hy).get q).casesOn λta xs hf hv=>⟨T,h,λt ht=>have p:=(Gz hx hv).get e;UW (o.1.1 _ _ hf) p.1 (vK (p.2▸ht))⟩
 |none=>exact λh=>aQ h λz q1 h=>aQ h λz' q2 h=>⟨_,h,λt ht=>in_str ((lq hx).get q1) ((lq hy).get q2) (vK ht)⟩
theorem JY(o:Ok F S){u:CV}(hx:bw S.W.aU u x){n:Nat}{es:Lo}(c:d8 S.W n es b S.s.heap)(h:IZ u es S.σ k):Tells S k (qB F.A S.s x (.ref b)):=by
 refine c.casesOn λob g ow e say r=>?_;have hs:=jf o ow;revert h;dsimp only [IZ];induction q:q9 u with
 |some z=>exact λh=>⟨_,h,λt ht=>UX ((lq hx).get q) hs (say.mapOf e) ((r z).JW.trans (vK ht))⟩|none=>
  revert say;clear r c;induction es with
  |nil=>exact λsay h=>aQ h λi q h=>⟨.no,h,λt ht=>JX ((cC hx).get q) hs (dU.empty say e) (show t=false from ht).symm⟩|cons _ _=>exact λ_ h=>h.elim
theorem JZ(o:Ok F S){u:CV}(hx:bw S.W.aU u x){n:Nat}(hn:af S.W.ρ n=some b)(h:I0 u n S.σ k):Tells S k (qB F.A S.s x (.ref b)):=by
 revert h;unfold I0;have c:=zN o hn;revert c;induction q8 n S.σ with
 |some es=>exact λc h=>JY o hx c h|none=>exact λ_ h=>eH h λq e h=>aQ h λi hi h=>have c:=(s6 o hn).get e;c.mapOf.casesOn λg m dom _=>⟨_,h,λt ht=>JX ((cC hx).get hi) (jf o c.own) m ((dom _).trans ht)⟩
theorem El(o:Ok F S){a b:MV}(hx:ao S.W a x)(hy:ao S.W b y)(h:isIn a b S.σ k):Tells S k (qB F.A S.s x y):=by
 refine aQ h λu e h=>?_;have hx:=(fO hx).get e;revert h;induction q:qu b with
 |some v=>exact λh=>UY o hx ((fO hy).get q) h|none=>exact λh=>aQ h λn q h=>iw.casesOn ((iD hy).get q) λb hn=>JZ o hx hn h
end
section
variable{a b:MV}{x y:Value}{k:Tv->aq->Prop}
theorem Cd(hx:ao S.W a x):aZ (λT=>plainIs x .none=true/\∀k,T.Is k->(x ==.none)=k) (ru a):=by
 have no:∀k,Tv.no.Is k->false=k:=λk hk=>Eq.symm hk;revert hx;refine MV.el a (λu=>?_) (λn hx=>iw.casesOn hx λ_ _=>⟨rfl,no⟩) (λl hx=>fY.casesOn hx λ_ _ _ _=>⟨rfl,no⟩) λf l hx=>Oz.casesOn hx λ_ _ _ _ _ _=>⟨rfl,no⟩;induction u using CV.casesOn with
 |none=>intro hx;rw [show x =.none from hx];exact ⟨rfl,λk hk=>Eq.symm hk⟩|bool b=>exact λhx=>(show x =.bool b from hx)▸⟨rfl,no⟩|int i=>exact λhx=>cW.casesOn hx λ_=>⟨rfl,no⟩|str i=>exact λhx=>cP.casesOn hx λ_=>⟨rfl,no⟩|aA a=>exact λhx=>(show x =.ref a from hx)▸⟨rfl,no⟩|type a=>exact λhx=>(show x =.type a from hx)▸⟨rfl,no⟩|blt _=>exact λ_=>trivial|tup l=>exact λhx=>fY.casesOn hx λ_ _ _ _=>⟨rfl,no⟩|lst l=>exact λhx=>uY.casesOn hx λ_ _ _ _ _=>⟨rfl,no⟩|obj _ l=>exact λhx=>Gr.casesOn hx λ_ _ _ _ _ _ _ _=>⟨rfl,no⟩|dct l=>exact λhx=>Jy.casesOn hx λ_ _ _ _ _ _=>⟨rfl,no⟩|«at» a=>induction a with
  |none=>intro hx;rw [show x =.none from hx];exact ⟨rfl,λk hk=>hk⟩|int i=>exact λhx=>cW.casesOn hx λ_=>⟨rfl,λk hk=>hk⟩|str i=>exact λhx=>cP.casesOn hx λ_=>⟨rfl,λk hk=>hk⟩
theorem zP(hy:ao S.W b y):aZ (λ_=>y =.none) (lT b):=by
 induction b using MV.casesOn with
 |c u=>induction u using CV.casesOn with
  |none=>exact hy|_=>trivial
 |_=>trivial
def Sx(op:CmpOp)(A:Around)(s:Shared)(x y:Value)(t:Bool):Prop:=∀(Q:b7)(E:b7),(∀tk,Q (.bool t) { s with toks:=tk })->wpAny Md A (compareOp op x y) Q E s
theorem Tells.not{p q:Bool->Prop}(h:Tells S (λt σ=>k (BI t) σ) p)(f:∀t,p (!t)->q t):Tells S k q:=h.casesOn λT h t=>⟨BI T,h,λb hb=>f b (t _ (ON hb))⟩
theorem Tells.mono{p q:Bool->Prop}(h:Tells S k p)(f:∀t,p t->q t):Tells S k q:=h.casesOn λT h t=>⟨T,h,λb hb=>f b (t _ hb)⟩
theorem Sy(hx:ao S.W a x)(hy:ao S.W b y)(h:bindM (aR (lT b)) (λ_=>aR (ru a)) S.σ k):y =.none/\Tells S k λt=>plainIs x .none=true/\(x ==.none)=t:=
 bB λgg=>aQ h λ_ q h=>pR h λT q2 h=>gg <|have z:=(Cd hx).get q2;⟨(zP hy).get q,T,h,λt ht=>⟨z.1,z.2 t ht⟩⟩
inductive aac(x y:Value)(i j:Int):Prop|mk (t u:Nat) (ex:x =.int i t) (ey:y =.int j u)
theorem Em{i j:Int}(hx:cW i x)(hy:cW j y):aac x y i j:=cW.casesOn hx λt=>cW.casesOn hy λu=>⟨t,u,rfl,rfl⟩
theorem J0{f:Int->Int->Bool}(hx:ao S.W a x)(hy:ao S.W b y):aZ (λT=>∃i j,aac x y i j/\∀k,T.Is k->f i j=k) (BK f a b):=by
 dsimp only [BK];have h1:=zO hx;have h2:=zO hy;revert h1;induction I3 a with
 |none=>exact λ_=>trivial|some i=>
  dsimp only;revert h2;induction I3 b with
  |none=>exact λ_ _=>trivial|some j=>exact λh2 h1=>⟨i.1,j.1,Em h1 h2,λk=>OO⟩
theorem xE{f:Int->Int->Bool}(hx:ao S.W a x)(hy:ao S.W b y)(h:(aR (BK f a b):M Prop Tv) S.σ k){p:Value->Value->Bool->Prop}(g:∀i j t u,p (.int i t) (.int j u) (f i j)):Tells S k (p x y):=
 bB λgg=>pR h λT q h=>((J0 hx hy).get q).elim λi z=>z.elim λj z=>z.1.casesOn λt u e1 e2=>gg <|⟨T,h,λb hb=>e1▸e2▸z.2 b hb▸g i j t u⟩
theorem OS(o:Ok F S){op:CmpOp}(hx:ao S.W a x)(hy:ao S.W b y)(h:Ud op a b S.σ k):Tells S k (Sx op F.A S.s x y):=by
 induction op with
 |Eq=>exact (JU o hx hy h).mono λt z Q E q=>z.rc prog w E Q (q S.s.toks)|NotEq=>exact (JU o hx hy (show eqV a b S.σ _ from h)).not λt z Q E q=>(aih t▸z.ne:SeqAt.RcNeAt F.A S.s x y t) prog w E Q (q S.s.toks)|Is=>exact have z:=Sy hx hy h;z.1▸z.2.mono λt y Q E q=>wpAny_is_plain y.1 (by rw [y.2];exact q S.s.toks)|IsNot=>exact have z:=Sy (k:=λt σ=>k (BI t) σ) hx hy h;z.1▸z.2.not λt y Q E q=>wpAny_isNot_plain y.1 (by rw [y.2,aih];exact q S.s.toks)|In=>exact (El o hx hy (show isIn a b S.σ _ from h)).mono λt z Q E q=>(z Q E).1 q|NotIn=>exact (El o hx hy (show isIn a b S.σ _ from h)).not λt z Q E q=>(z Q E).2 (by rw [aih];exact q)|Lt=>exact xE hx hy h λi j t u Q E q=>P.lt_int (q S.s.toks)|LtE=>exact xE hx hy h λi j t u Q E q=>P.le_int (q S.s.toks)|Gt=>exact xE hx hy h λi j t u Q E q=>P.gt_int (q S.s.toks)|GtE=>exact xE hx hy h λi j t u Q E q=>P.ge_int (q S.s.toks)
theorem Eo(o:Ok F S){p:Pos}{op:CmpOp}(hx:ao S.W a x)(hy:ao S.W b y){k:Bool->aq->Prop}(h:Zv cx p op a b S.σ k){G:Prop}(c:∀t,k t S.σ->Sx op F.A S.s x y t->G):G:=
 bB λgg=>(OS o hx hy (show Ud op a b S.σ _ from h)).casesOn λT h t=>(JQ h).elim λb z=>gg <|c b z.1 (t b z.2)
end
end
theorem bM{G:Prop}(h:false=true):G:=Bool.noConfusion h
theorem s7{b:CV}{j:Int×Bool}:DU b=true->b8 b=some j->0<j.1/\j.1<=1000001:=by
 induction b using CV.casesOn with
 |int i=>induction i with
  |ofNat k=>induction k with
   |zero=>exact bM|succ k=>exact λh q=>(aap q)▸⟨afr.mpr (aiH _),Int.ofNat_le.mpr (ahX (abV h))⟩
  |negSucc k=>exact bM
 |_=>exact bM
theorem Ce{b:CV}{j:Int×Bool}:isSmall b=true->b8 b=some j->0<=j.1/\j.1<=1000000:=by
 induction b using CV.casesOn with
 |int i=>induction i with
  |ofNat k=>exact λh q=>(aap q)▸⟨ahk _,Int.ofNat_le.mpr (abV h)⟩|negSucc k=>exact bM
 |_=>exact bM
theorem GA{v:CV}:isZero v=true->v =.int 0:=by
 induction v using CV.casesOn with
 |int i=>exact λh=>congrArg _ (of_decide_eq_true ((n7 i 0).symm.trans h))|_=>exact bM
theorem J1{op:Operator}{z:Unit}:isAdd op=some z->op =.Add:=by
 induction op with
 |Add=>exact λ_=>rfl|_=>exact bq
theorem J2{op:Operator}{z:Unit}:isMul op=some z->op =.Mult:=by
 induction op with
 |Mult=>exact λ_=>rfl|_=>exact bq
theorem noPylong{a b:Int}(h0:0<b)(h1:b<=1000001):¬(Builtin.divisionGoesByPylong a b)=true:=by
 unfold Builtin.divisionGoesByPylong;dsimp only;have hb:b.natAbs<=1000001:=by lia
 have hl:b.natAbs.log2<=20:=by
  have:b.natAbs.log2<21:=(aiK (by lia)).mpr (by lia)
  lia
 have:¬((if (b==0)=true then 0 else b.natAbs.log2 / 30+1) > 300):=by
  split
  ·lia
  ·lia
 simp only [agY,decide_eq_true_eq,not_and];intro q;exact (this q).elim
theorem aad{a b:Int}(h0:0<=a)(h1:a<=1000000):IntMulOk a b:=IntMulOk.of_left (by
 unfold Builtin.Int.intBits;have:a.natAbs.log2<=30:=by
  by_cases z:a.natAbs=0
  ·rw [z];decide
  ·have:a.natAbs.log2<21:=(aiK z).mpr (by lia)
   lia
 first
  |lia|(split<;>lia)|(simp only [];split<;>lia))
def VR(W:Wd)(v:MV)(x:Value):Prop:=ao W v x
section
variable{cx:Cx Prop}{F:Fr cx}{S:Pt}{x y:Value}{k:MV->aq->Prop}{Q:b7}{E:b7}
theorem lZ{G:Addr->fy}(i:Int)(b:Bool)(t:Nat):bw G (mkInt i b) (.int i t):=by
 induction b with
 |true=>exact cW.mk t|false=>exact cW.mk t
theorem pS{G:Addr->fy}(i:Str)(b:Bool)(t:Nat):bw G (mkStr i b) (.str i t):=by
 induction b with
 |true=>exact cP.mk t|false=>exact cP.mk t
inductive OpI(S:Pt)(a b:CV)(f:Int->Int->Int)(k:MV->aq->Prop)(x y:Value):Prop
 |mk (i j:Int×Bool) (t u:Nat) (ei:b8 a=some i) (ej:b8 b=some j) (ex:x =.int i.1 t) (ey:y =.int j.1 u) (v:CV) (r:∀t,bw S.W.aU v (.int (f i.1 j.1) t)) (h:k (.c v) S.σ)
theorem Sz{a b:CV}{f:Int->Int->Int}(hx:bw S.W.aU a x)(hy:bw S.W.aU b y)(h:(aR (intOp a b f):M Prop MV) S.σ k):OpI S a b f k x y:=by
 refine pR h λv q h=>?_;revert q;dsimp only [intOp];induction q1:b8 a with
 |none=>exact λq=>bq q|some i=>
  dsimp only;cases q2:b8 b with
  |none=>exact λq=>bq q|some j=>
   intro q;cases q;exact (Em ((cC hx).get q1) ((cC hy).get q2)).casesOn λt u e1 e2=>⟨i,j,t,u,q1,q2,e1,e2,_,λt=>lZ _ _ t,h⟩
theorem GB(o:Ok F S){u v:Str×Bool}(hx:cP u.1 x)(hy:cP v.1 y)(h:u.1.cps.size+v.1.cps.size<aW/\k (.c (mkStr (u.1++v.1) (u.2||v.2))) S.σ)(hQ:Ev F VR k S Q):wpAny Md F.A (binaryOp .Add x y) Q E S.s:=by
 refine cP.casesOn hx λt1=>cP.casesOn hy λt2=>?_;exact PySem.SB.add (λt' tk=>hQ.here o (b:=.c _) (pS _ _ _) h.2 _) (by
  have:u.1.cps.size+v.1.cps.size<1000000:=h.1;show u.1.cps.size+v.1.cps.size<=sizeLine;rw [adZ];lia)
theorem OT(o:Ok F S){op:Operator}{a b:CV}(hx:bw S.W.aU a x)(hy:bw S.W.aU b y)(h:Ue op a b S.σ k)(hQ:Ev F VR k S Q):wpAny Md F.A (binaryOp op x y) Q E S.s:=by
 have go:∀{v:CV}{i:Int},(∀t,bw S.W.aU v (.int i t))->k (.c v) S.σ->∀t,Q (.int i t) { S.s with toks:=S.s.toks+1 }:=λr h t=>hQ.here o (b:=.c _) (r t) h _
 induction op with
 |Add=>
  revert h;dsimp only [Ue];induction q1:nF a with
  |some u=>
   dsimp only;induction q2:nF b with
   |some v=>exact λh=>GB o ((lY hx).get q1) ((lY hy).get q2) h hQ|none=>exact λh=>h.elim
  |none=>exact λh=>(Sz hx hy h).casesOn λi j t u _ _ ex ey v r h=>ex▸ey▸P.add_int (go r h _)
 |Sub=>exact (Sz hx hy h).casesOn λi j t u _ _ ex ey v r h=>ex▸ey▸P.sub_int (go r h _)|Mult=>exact dK h λq h=>(Sz hx hy h).casesOn λi j t u ei _ ex ey v r h=>have z:=Ce q ei;ex▸ey▸P.mul_int (go r h _) (aad z.1 z.2)|Mod=>exact dK h λq h=>(Sz hx hy h).casesOn λi j t u _ ej ex ey v r h=>have z:=s7 q ej;ex▸ey▸PySem.AutoIntOps.mod_1 (by simp;lia) (go r h _)|FloorDiv=>exact dK h λq h=>(Sz hx hy h).casesOn λi j t u _ ej ex ey v r h=>have z:=s7 q ej;ex▸ey▸PySem.AutoIntOps.floordiv_1 (by simp;lia) (noPylong z.1 z.2) (go r h _)|_=>exact h.elim
theorem OU(o:Ok F S){op:Operator}{a b:CV}(hx:bw S.W.aU a x)(hy:bw S.W.aU b y)(h:Zz op a b S.σ k)(hQ:Ev F VR k S Q):wpAny Md F.A (inplaceOp op x y) Q E S.s:=by
 have go:∀{v:CV}{i:Int},(∀t,bw S.W.aU v (.int i t))->k (.c v) S.σ->∀t,Q (.int i t) { S.s with toks:=S.s.toks+1 }:=λr h t=>hQ.here o (b:=.c _) (r t) h _
 induction op with
 |Add=>exact (Sz hx hy h).casesOn λi j t u _ _ ex ey v r h=>ex▸ey▸P.iadd_int (go r h _)|Sub=>exact (Sz hx hy h).casesOn λi j t u _ _ ex ey v r h=>ex▸ey▸P.isub_int (go r h _)|FloorDiv=>exact dK h λq h=>(Sz hx hy h).casesOn λi j t u _ ej ex ey v r h=>have z:=s7 q ej;ex▸ey▸PySem.AutoIntOps.ifloordiv_1 (by simp;lia) (noPylong z.1 z.2) (go r h _)|_=>exact h.elim
theorem Ep(o:Ok F S){op:Operator}{a b:MV}(hx:ao S.W a x)(hy:ao S.W b y)(h:Om op a b S.σ k)(hQ:Ev F VR k S Q):wpAny Md F.A (inplaceOp op x y) Q E S.s:=
 aQ h λ_ e1 h=>aQ h λ_ e2 h=>OU o ((fO hx).get e1) ((fO hy).get e2) h hQ
theorem rC(o:Ok F S){l:az×aY}{xs:bU}{n:Nat}(hv:ah S.W (cat (bT l.1) (rev l.2 [])) xs)(hz:xs.length<=2*aW)(h:newL l S.σ k)(hQ:Ev F VR k S Q):Q (.ref S.s.heap.objs.size) { S.s with heap:=S.s.heap.push (aX xs.toArray n) }:=
 have z:=o.add (ob:=aX xs.toArray n) (mo:=.list l.1 l.2) rfl λle ow g=>⟨xs,n,ow,g,hv.up le,hz⟩;hQ _ _ _ z.1 z.2 h
theorem OV{W:Wd}{p:az}{b:aY}{p2:az}{b2:aY}:aZ (λl:az×aY=>cat (cat (bT p) (rev b [])) (cat (bT p2) (rev b2 []))=cat (bT l.1) (rev l.2 [])) (glue p b p2 b2):=by
 unfold glue;induction q:BJ (rev b []) with
 |some cs=>show _=cat (bT (cat p (cat cs p2))) _;rw [xA q,aP,← aP (bT cs),ju,← aP,ju]|none=>induction p2 with
  |nil=>show _=cat (bT p) (rev (cat b2 b) []);rw [iL,aP];rfl|cons _ _=>trivial
theorem OW(o:Ok F S){n m:Nat}(hx:ao S.W (.ref n) x)(hy:ao S.W (.ref m) y)(h:Zx n m S.σ k)(hQ:Ev F VR k S Q):wpAny Md F.A (binaryOp .Add x y) Q E S.s:=by
 refine bB λgg=>eH h λa q1 h=>eH h λb q2 h=>gg <|?_
 refine (gO o hx ((iM ..).get q1)).casesOn λp xs n g r _=>(gO o hy ((iM ..).get q2)).casesOn λp' ys n' g' r' _=>?_;have z1:=r.len;have z2:=r'.len;rw [len_cat,gM,je] at z1 z2;have hz:xs.length+ys.length<1000000:=by rw [← z1,← z2];exact h.1
 refine PySem.P.add_list g g' ?_ (by rw [adZ];show xs.length+ys.length<=_;lia)
 refine aQ h.2 λl q h=>?_;have e:=(OV (W:=S.W)).get q;have:=rC (n:=0) o (e▸r.cat r') (by rw [adV];show _<=2*1000000;lia) h hQ
 rw [show (xs++ys).toArray=xs.toArray++ys.toArray from by apply Array.ext';simp] at this
 exact this
theorem GD{A:Around}{s:Shared}{l:Addr}{items:ig}{n:Nat}{u:Tok}(hl:s.heap.get? l=some (aX items n))(hz:items.size<=2*aW)
  (h:Q (.ref s.heap.objs.size) { s with heap:=s.heap.push (aX #[] 0) }):wpAny Md A (binaryOp .Mult (.ref l) (.int 0 u)) Q E s:=
 wpAny_binaryOp_repeat_ref (T:="list") (U:="int") (by decide) ⟨_,hl,rfl⟩ (λs'=>typeIs_int s' 0 u) noFill_list_mul F.fills_int_mul F.slot_int_rmul repeat_list F.slot_int_index.lookup
  (call_meets F.slot_int_rmul (typeIs_int s 0 u) F.entry_int_rmul (F.args_int_rmul_2 _ _) (int___rmul___int_list 0 u l items n)
   ⟨hl,rfl,⟨_,hl,rfl⟩,call_meets F.slot_list_mul ⟨_,hl,rfl⟩ F.entry_list_mul (F.args_list_mul_2 _ _)
    (AutoListH.list___mul___list_int_3 l items n 0 u (by simp [Builtin.List.listFitsIndex]) (by simp) (by simp [Builtin.List.listTooLong]))
    ⟨hl,by simpa [aX] using h⟩⟩)
theorem OX(o:Ok F S){n:Nat}{b:CV}(hx:ao S.W (.ref n) x)(hy:bw S.W.aU b y)(h:Zy n b S.σ k)(hQ:Ev F VR k S Q):wpAny Md F.A (binaryOp .Mult x y) Q E S.s:=by
 refine dK h λe h=>eH h λl q h=>?_;rw [GA e] at hy;exact cW.casesOn hy λu=>(gO o hx ((sZ ..).get q)).casesOn λa xs n g r sz=>GD g sz (rC (xs:=[]) (l:=([],[])) o rfl (adK _) h hQ)
theorem GF(o:Ok F S){op:Operator}{n:Nat}{b:MV}(hx:ao S.W (.ref n) x)(hy:ao S.W b y)(h:BL op b n S.σ k)(hQ:Ev F VR k S Q):wpAny Md F.A (binaryOp op x y) Q E S.s:=by
 revert h;unfold BL;induction q:refOf b with
 |some m=>exact λh=>aQ h λ_ e h=>J1 e▸OW o hx ((iD hy).get q) h hQ|none=>exact λh=>aQ h λ_ e h=>aQ h λv e2 h=>J2 e▸OX o hx ((fO hy).get e2) h hQ
theorem OY(o:Ok F S){op:Operator}{a b:MV}(hx:ao S.W a x)(hy:ao S.W b y)(h:Ug op a b S.σ k)(hQ:Ev F VR k S Q):wpAny Md F.A (binaryOp op x y) Q E S.s:=by
 revert h;unfold Ug;induction q:qu a with
 |some u=>exact λh=>aQ h λv e h=>OT o ((fO hx).get q) ((fO hy).get e) h hQ|none=>exact λh=>aQ h λn e h=>GF o ((iD hx).get e) hy h hQ
inductive jN(A:Around)(s:Shared)(x y:Value)(Q:b7):Prop
 |mk (T id:String) (ty:s.TypeIs x T) (sl:typeLookup (.type T) "__getitem__" = pure (some (.builtin id))) (g:∀E,wpAny Md A (getItem x y) Q E s)
theorem oh{j n:Nat}(h:j<n):seqIndex? (j:Int) n=some j:=by
 unfold seqIndex?;rw [if_neg (show ¬((j:Int)<0) from by lia)]
 simp [h]
section
variable{A:Around}{s:Shared}{a:Addr}{xs:bU}{n j u:Nat}{z:Value}
theorem GG(g:s.heap.get? a=some (aX xs.toArray n))(hj:j<=1000000)(hx:xs[j]?=some z)(q:Q z s):jN A s (.ref a) (.int j u) Q:=
 ⟨"list",_,(ie g).typeIs,ahA.lookup,λE=>wpAny_getItem_list (ie g) (by lia) (by lia) (by simpa using hx) q⟩
theorem J3(g:s.heap.get? a=some (d7 xs.toArray))(hj:j<=1000000)(hx:xs[j]?=some z)(q:Q z s):jN A s (.ref a) (.int j u) Q:=
 have ht:PyProof.Rows.IsTup s.heap a xs.toArray:=⟨_,g,rfl,0,rfl⟩;⟨"tuple",_,ht.typeIs,PyProof.Rows.slot_tuple_getitem.lookup,λE=>PyProof.Rows.getItem_tuple ht (j:=j) (by lia) (by lia) (oh (by simpa using (ahq.mp hx).1)) (by simpa using hx) q⟩
theorem GH{init:bU}(g:s.heap.get? a=some (aX (init++[z]).toArray n))(q:Q z s):jN A s (.ref a) (.int (.negSucc 0) u) Q:=by
 refine ⟨"list",_,(ie g).typeIs,ahA.lookup,λE=>?_⟩;have hsz:(init++[z]).toArray.size=init.length+1:=by simp
 refine wpAny_getItem_list_neg (ie g) (by decide) (by rw [hsz];show -((init.length+1:Nat):Int)<= -1;lia) (by decide) ?_ q
 rw [hsz,show (Int.negSucc 0+((init.length+1:Nat):Int)).toNat=init.length from by lia]
 simp
theorem J4{d:Addr}{ob:Obj}{g:Str->cK}{n:Nat}{i:Str}(e:s.heap.get? d=some ob)(h:dU g ob n)(hi:cP i y)(h3:g i=some z)(q:Q z { s with toks:=s.toks+1 }):jN A s (.ref d) y Q:=
 have hm:=h.mapOf e;cP.casesOn hi λt=>⟨"dict",_,hm.typeIs,slot_dict_getitem.lookup,λE=>wpAny_getItem_of (agN prog w i t) hm h3 q⟩
theorem J5{d:Addr}{g:Int->cK}{i:Int}(hm:s.heap.MapOf (intKind prog w) d g)(hi:cW i y)(h3:g i=some z)(q:Q z { s with toks:=s.toks+1 }):jN A s (.ref d) y Q:=
 cW.casesOn hi λt=>⟨"dict",_,hm.typeIs,slot_dict_getitem.lookup,λE=>wpAny_getItem_of (ahz prog w i t) hm h3 q⟩
theorem GI{x:Str}{i c t u:Nat}(hi:i<=1000000)(hc:af x.cps.toList i=some c)(q:∀t tk,Q (.str ⟨#[c]⟩ t) { s with toks:=tk }):jN A s (.str x t) (.int i u) Q:=by
 refine ⟨"str",_,typeIs_str s _ t,F.slot_str_getitem.lookup,λE=>?_⟩;have hlt:i<x.length:=by have:=cQ hc;rw [bl,aiw] at this;exact this
 rw [bW,agT] at hc;refine PySem.P.getItem_str (c:=c) (by simp;lia) ?_ (q _ _)
 rw [oh hlt];exact hc
end
theorem zQ{l:aY}{b:Bool}{j u:Nat}(hs:u7 S.W S.s.heap l b x)(hj:j<=1000000){v:MV}(hv:af l j=some v)(q:∀z,ao S.W v z->Q z S.s):jN F.A S.s x (.int j u) Q:=
 hs.casesOn (λa xs e r=>(r.af hv).elim λz h=>J3 e hj h.1 (q z h.2)) λa xs n e r=>(r.af hv).elim λz h=>GG e hj h.1 (q z h.2)
theorem GJ(o:Ok F S){l:aY}{b:Bool}{i:CV}{p:Pos}(hs:u7 S.W S.s.heap l b x)(hy:bw S.W.aU i y)(h:I4 cx p l i S.σ k)(hQ:Ev F VR k S Q):jN F.A S.s x y Q:=by
 induction i using CV.casesOn with
 |int i=>induction i with
  |ofNat j=>exact dK h λq h=>pR h λv e h=>cW.casesOn hy λu=>zQ hs (abV q) e λz hz=>hQ.same o hz h|negSucc j=>exact h.elim
 |«at» a=>induction a with
  |int i=>
   refine aQ h λv _ h=>?_;exact (Int.eq_ofNat_of_zero_le h.1.1).elim λj e=>by
    subst e;exact cW.casesOn hy λu=>zQ hs (by have:=h.1.2.1;lia) h.1.2.2 λz hz=>hQ.same o hz h.2
  |_=>exact h.elim
 |_=>exact h.elim
theorem J6(o:Ok F S){a:MV}{i:CV}(hx:ao S.W a x)(hy:bw S.W.aU i y):aZ (λv=>(∀z,ao S.W v z->Q z S.s)->jN F.A S.s x y Q) (lastOf S.σ a i):=by
 induction i using CV.casesOn with
 |int i=>induction i with
  |negSucc j=>induction j with
   |zero=>induction a using MV.casesOn with
    |ref n=>
     dsimp only [lastOf];induction q:af S.σ n with
     |none=>trivial|some mo=>induction mo with
      |list p b=>induction b with
       |nil=>trivial|cons v b=>
        intro hQ;refine cW.casesOn hy λu=>(gO o hx q).casesOn λa xs n g r _=>?_;rw [u5] at r;refine r.split.elim λi r=>r.elim λl r=>r.2.2.single.elim λz hz=>?_;rw [r.1,hz.1] at g;exact GH g (hQ z hz.2)
      |_=>trivial
    |_=>trivial
   |succ j=>trivial
  |ofNat j=>trivial
 |_=>trivial
theorem OZ(o:Ok F S){n:Nat}{i:CV}(hx:iw S.W.ρ n x)(hy:bw S.W.aU i y)(h:bindM (eE (sr n)) (ZA i) S.σ k)(hQ:Ev F VR k S Q):jN F.A S.s x y Q:=by
 refine iw.casesOn hx λb hn=>eH h λq e h=>aQ h λj ej h=>?_;refine ((s6 o hn).get e).mapOf.casesOn λg m dom val=>?_;exact (Option.isSome_iff_exists.mp ((dom j.1).trans (decide_eq_true h.1))).elim λz hz=>J5 m ((cC hy).get ej) hz (hQ.here o (b:=.c q.1) (val _ z hz) h.2 _)
theorem O0(o:Ok F S){a:MV}{i:CV}{p:Pos}(hx:ao S.W a x)(hy:bw S.W.aU i y)(h:Uh cx p a i S.σ k)(hQ:Ev F VR k S Q):jN F.A S.s x y Q:=by
 revert h;unfold Uh;have h1:=J6 (Q:=Q) o hx hy;revert h1;induction lastOf S.σ a i with
 |some v=>exact λh1 h=>h1 λz hz=>hQ.same o hz h|none=>
  have h2:=Ei o hx;revert h2;induction jb S.σ a with
  |some l=>exact λh2 _ h=>GJ o h2 hy h hQ|none=>exact λ_ _ h=>aQ h λn e h=>OZ o ((iD hx).get e) hy h hQ
theorem O1(o:Ok F S){a:MV}{i:Str}(hx:ao S.W a x)(hy:cP i y)(h:ZC a i S.σ k)(hQ:Ev F VR k S Q):jN F.A S.s x y Q:=by
 refine eH h λes q h=>pR h λv e h=>(US o hx q).casesOn λa ob g e2 say r=>?_;have z:=r i;rw [e] at z;exact z.elim λz hz=>J4 e2 say hy hz.1 (hQ.here o (b:=v) hz.2 h _)
theorem J7{s:Str}{i:CV}:aZ (λv=>∃j c,i =.int (.ofNat j)/\j<=1000000/\af s.cps.toList j=some c/\v =.c (.str ⟨#[c]⟩)) (signOf s i):=by
 induction i using CV.casesOn with
 |int i=>induction i with
  |ofNat j=>
   dsimp only [signOf];induction q:Nat.ble j 1000000 with
   |false=>trivial|true=>
    dsimp only;induction q2:af s.cps.toList j with
    |none=>trivial|some c=>exact ⟨j,c,rfl,abV q,q2,rfl⟩
  |negSucc j=>trivial
 |_=>trivial
theorem GK{a:MV}{i:CV}:aZ (λv=>∃s,a =.c (.str s)/\v=signOf s i) (I5 a i):=by
 induction a using MV.casesOn with
 |c a=>induction a using CV.casesOn with
  |str s=>exact ⟨s,rfl,rfl⟩|_=>trivial
 |_=>trivial
theorem O2(o:Ok F S){a:MV}{i:CV}{p:Pos}(hx:ao S.W a x)(hy:bw S.W.aU i y)(h:Ui cx p a i S.σ k)(hQ:Ev F VR k S Q):jN F.A S.s x y Q:=by
 revert h;unfold Ui;have z:=GK (a:=a) (i:=i);revert z;induction I5 a i with
 |none=>exact λ_ h=>O0 o hx hy h hQ|some v=>
  refine λz h=>z.elim λs z=>pR h λu e h=>?_;rw [z.2] at e;rw [z.1] at hx;refine (J7.get e).elim λj z=>z.elim λc z=>?_;rw [z.1] at hy;rw [z.2.2.2] at h;exact cP.casesOn hx λt=>cW.casesOn hy λu=>GI z.2.1 z.2.2.1 λt tk=>hQ.here o (b:=.c (.str ⟨#[c]⟩)) (cP.mk t) h _
theorem O3(o:Ok F S){a b:MV}{p:Pos}(hx:ao S.W a x)(hy:ao S.W b y)(h:Uj cx p a b S.σ k)(hQ:Ev F VR k S Q):jN F.A S.s x y Q:=by
 refine aQ h λi e h=>?_;have hy:=(fO hy).get e;revert h;unfold ZD;induction q:q9 i with
 |some s=>exact λh=>O1 o hx ((lq hy).get q) h hQ|none=>exact λh=>O2 o hx hy h hQ
inductive aae(x:Value)(i:Option Int):Prop|mk (h:IsPart x i) (u:Option (Int×Tok)) (e:x=partValue u) (m:u.map (·.1)=i)
theorem vL{v:MV}(hx:ao S.W v x):aZ (aae x) (I6 v):=by
 induction v using MV.casesOn with
 |c c=>induction c using CV.casesOn with
  |none=>rw [Eg hx];exact ⟨.none,none,rfl,rfl⟩|int i=>exact cW.casesOn hx λt=>⟨.int _ _,some (i,t),rfl,rfl⟩|_=>trivial
 |_=>trivial
theorem s8(n:Nat)(i:Int):clipAt n i=bound n i:=by
 induction i with
 |ofNat k=>
  rw [show (Int.ofNat k)=(k:Int) from rfl,clipAt_nat]
  show _=(match Nat.ble k n with|true=>k|false=>n)
  cases q:Nat.ble k n with
  |true=>exact Nat.min_eq_left (abV q)|false=>exact Nat.min_eq_right (Nat.le_of_not_le λz=>by rw [aeu z] at q;cases q)
 |negSucc k=>rw [show Int.negSucc k = -((k+1:Nat):Int) from rfl,clipAt_neg _ _ (aiH _)];rfl
theorem GN(n:Nat)(i:Option Int):i.elim 0 (clipAt n)=su n i:=by induction i with|none=>rfl|some i=>exact s8 n i
theorem Cf(n:Nat)(i:Option Int):i.elim n (clipAt n)=j5 n i:=by induction i with|none=>rfl|some i=>exact s8 n i
theorem O4{p:az}{b:aY}{lo hi:Option Int}:aZ (λl:az×aY=>cat (bT l.1) (rev l.2 [])=w7 (cat (bT p) (rev b [])) (su (len p+len b) lo) (j5 (len p+len b) hi)) (Gp p b lo hi):=by
 have e:cat (bT (w7 p (su (len p) lo) (j5 (len p) hi))) []=w7 (cat (bT p) []) (su (len p) lo) (j5 (len p) hi):=by rw [au,au];unfold w7;rw [nY,nY,List.map_take,List.map_drop]
 induction b with
 |nil=>exact e|cons v b=>induction p with
  |nil=>show cat [] (rev (rev (w7 (rev (v::b) []) (su (len (v::b)) lo) (j5 (len (v::b)) hi)) []) [])=_;rw [rev_rev,show len ([]:az)+len (v::b)=len (v::b) from aeb _];rfl|cons u p=>trivial
theorem vM(o:Ok F S){l:az×aY}{a:Addr}{xs:bU}{n:Nat}{sl:Addr}{lo hi:Option Int}{vl vu:Value}(g:S.s.heap.get? a=some (aX xs.toArray n))(r:ah S.W (cat (bT l.1) (rev l.2 [])) xs)(sz:xs.length<=2*aW)(hs:S.s.heap.IsSliceOf sl vl vu .none)(pl:IsPart vl lo)(pu:IsPart vu hi)
  (h:bindM (aR (Gp l.1 l.2 lo hi)) newL S.σ k) (hQ:Ev F VR k S Q):jN F.A S.s (.ref a) (.ref sl) Q:=by
 refine aQ h λc e h=>?_;refine ⟨"list",_,(ie g).typeIs,ahA.lookup,λE=>?_⟩;have hl:=r.len;rw [len_cat,gM,je,show len ([]:aY)=0 from rfl,Nat.add_zero] at hl
 have sz':xs.length<=2000000:=sz;refine wpAny_getItem_list_slice (ie g) hs pl pu .none (by simp) ?_ (by rw [adZ];show xs.length<=_;lia)
 rw [slicePick_plain,GN,Cf,show xs.toArray.size=xs.length from rfl,← hl]
 have hv:=(r.drop (su (len l.1+len l.2) lo)).take (j5 (len l.1+len l.2) hi-su (len l.1+len l.2) lo);exact rC (n:=0) o (show ah S.W _ _ from (O4.get e)▸hv) (by rw [ahZ,aic];exact aco (Nat.min_le_right ..) (aco (Nat.sub_le ..) sz)) h hQ
theorem GO(o:Ok F S){n:Nat}{sl:Addr}{lo hi:Option Int}{vl vu:Value}(hx:ao S.W (.ref n) x)(hs:S.s.heap.IsSliceOf sl vl vu .none)(pl:IsPart vl lo)(pu:IsPart vu hi)
  (h:bindM (eE λσ=>listOf σ n) (λl=>bindM (aR (Gp l.1 l.2 lo hi)) newL) S.σ k) (hQ:Ev F VR k S Q):jN F.A S.s x (.ref sl) Q:=by
 exact eH h λl q h=>(gO o hx ((iM ..).get q)).casesOn λa xs n g r sz=>vM o g r sz hs pl pu h hQ
theorem J8{n:Nat}{b:Bool}{g:Unit->M Prop MV}{σ:aq}(h:bindM (I7 n b) g σ k):n<aW/\g () σ k:=by
 induction b with
 |true=>exact h|false=>exact dK h λq h=>⟨Nat.lt_succ_of_le (abV q),h⟩
theorem UZ{a:CV}{c:az}:lsV a=some c->a =.lst c:=by cases a<;>first|exact λh=>congrArg _ (aap h)|exact bq
theorem Cg(o:Ok F S){c:az}{sl:Addr}{lo hi:Option Int}{vl vu:Value}(hx:bw S.W.aU (.lst c) x)(hs:S.s.heap.IsSliceOf sl vl vu .none)(pl:IsPart vl lo)(pu:IsPart vu hi)
  (h:bindM (iG (len c<aW)) (λ_=>bindM (aR (Gp c [] lo hi)) newL) S.σ k) (hQ:Ev F VR k S Q):jN F.A S.s x (.ref sl) Q:=by
 induction hx with|mk a xs n g r=>
 have rl:ah S.W (cat (bT c) (rev [] [])) xs:=by show ah S.W (cat (bT c) []) xs;rw [au];exact r.vs
 have hl:=rl.len;rw [len_cat,gM,je] at hl;have h1:len c<1000000:=h.1;exact vM (l:=(c,[])) o (o.1.1 _ _ g) rl (by rw [← hl];show len c+(0+0)<=2*1000000;lia) hs pl pu h.2 hQ
theorem GR(o:Ok F S){v:CV}{sl:Addr}{lo hi:Option Int}{l u:Option (Int×Tok)}(hx:bw S.W.aU v x)(hs:S.s.heap.IsSlice sl l u none)(hl:l.map (·.1)=lo)(hu:u.map (·.1)=hi)
  (h:bindM (aR (nF v)) (λs=>bindM (I7 s.1.cps.size s.2) λ_=>aE (.c (mkStr (PySem.Txt.slice s.1 lo hi) s.2))) S.σ k) (hQ:Ev F VR k S Q):jN F.A S.s x (.ref sl) Q:=by
 refine aQ h λz e h=>cP.casesOn ((lY hx).get e) λt=>⟨"str",_,typeIs_str S.s _ t,PySem.F.slot_str_getitem.lookup,λE=>wpAny_getItem_str_slice (l:=l) (u:=u) (st:=none) hs rfl ?_⟩;have h:=J8 h;subst hl hu;exact post_val_or_str ⟨aco (Txt.slice_le z.1 _ _) (by rw [adZ];have:z.1.cps.size<1000000:=h.1;show z.1.cps.size<=_;lia),λt' tk=>hQ.here o (b:=.c _) (pS _ _ _) h.2 _⟩
end
def BR(_:Wd)(b a:Bool):Prop:=a=b
def VsR(W:Wd)(v:aY)(x:bU):Prop:=ah W v x
def Runs{cx:Cx Prop}(F:Fr cx){α β:Type}(V:Wd->β->α->Prop)(t:Sem α)(m:M Prop (Ex β))(S:Pt):Prop:=
 ∀k Q E,m S.σ k->Ev F V (λb=>k (.ok b)) S Q->Er F (λn=>k (.error n)) S E->wpAny Md F.A t Q E S.s
structure fJ(cx:Cx Prop)(r:dZ Prop):Prop where
 ev:∀(F:Fr cx) x S,Ok F S->Runs F VR (eval x F.env) (r.ev F.e x) S
 uW:∀(F:Fr cx) x S,Ok F S->Runs F BR (isTrue x F.env (eval x F.env)) (r.uW F.e x) S
section
variable{cx:Cx Prop}{F:Fr cx}{S:Pt}{r:dZ Prop}{α β γ δ:Type}{V:Wd->β->α->Prop}{t:Sem α}{m:M Prop (Ex β)}{Q:α->Shared->Prop}{E:b7}
theorem Runs.go{f:β->M Prop (Ex δ)}{k:Ex δ->aq->Prop}(x:Runs F V t m S)(h:bg m f S.σ k)(er:Er F (λn=>k (.error n)) S E)(ok:Ev F V (λb σ'=>f b σ' k) S Q):wpAny Md F.A t Q E S.s:=x _ Q E h ok er
theorem J9{c:Const}{n:Nat}{p:Pos}(o:Ok F S):Runs F VR (eval (.Constant c n p) F.env) (Oa cx r F.e (.Constant c n p)) S:=λk Q E h q _=>by
 induction c with
 |none=>exact aaq (q.here o (b:=.c .none) rfl h S.s.toks)|bool b=>exact aaq (q.here o (b:=.c (.bool b)) rfl h S.s.toks)|int i=>exact wpAny_Constant_int (q.here o (b:=.c (.int i)) (cW.mk _) h _)|str x=>exact aii (q.here o (b:=.c (.str x)) (cP.mk _) h _)|_=>exact h.elim
theorem O5{n:Str}{p:Pos}(o:Ok F S):Runs F VR (eval (.Name n p) F.env) (Oa cx r F.e (.Name n p)) S:=λk Q E h q _=>
 xC o (k:=λv σ'=>k (.ok v) σ') h λhb v h l=>aio (l _ _ λa ha=>q.same o ha h) hb
theorem vN{q:Expr}{op:CmpOp}:plainQ q=true->behindInMarks op q=false:=by
 cases q with
 |Set a b c=>exact bM|_=>exact λ_=>rfl
theorem Ci(H:fJ cx r)(o:Ok F S){l:Expr}{ops:List CmpOp}{qs:List Expr}{p:Pos}:Runs F VR (eval (.Compare l ops qs p) F.env) (Oa cx r F.e (.Compare l ops qs p)) S:=λk Q E h q er=>
 bB λgg=>aQ h λop e1 h=>aQ h λx e2 h=>dK h λe3 h=>gg <|by
  rw [fN e1,fN e2];exact wpAny_Compare1 ((H.ev F l S o).go h er λS1 a x n1 v1 h1=>(H.ev F _ S1 n1.2).go h1 (er.aA n1) λS2 b y n2 v2 h2=>
   Eo n2.2 (ao.up v1 n2.1.1) v2 (k:=λt σ'=>k (.ok (.c (.bool t))) σ') h2 λt h3 c=>c _ _ λtk=>(q.aA (n1.trans n2)).here n2.2 (b:=.c (.bool t)) rfl h3 tk) (vN e3)
theorem zR(H:fJ cx r)(o:Ok F S){l:Expr}{ops:List CmpOp}{qs:List Expr}{p:Pos}{whole:Sem Value}:Runs F BR (isTrue (.Compare l ops qs p) F.env whole) (Jo cx r F.e l ops qs p λt=>t) S:=λk Q E h q er=>
 bB λgg=>aQ h λop e1 h=>aQ h λx e2 h=>dK h λe3 h=>gg <|by
  rw [fN e1,fN e2];exact wpAny_isTrue_Compare1 ((H.ev F l S o).go h er λS1 a x n1 v1 h1=>(H.ev F _ S1 n1.2).go h1 (er.aA n1) λS2 b y n2 v2 h2=>
   Eo n2.2 (ao.up v1 n2.1.1) v2 (k:=λt σ'=>k (.ok t) σ') h2 λt h3 c=>c _ _ λtk=>wpAny_truthy_bool ((q.aA (n1.trans n2)).here n2.2 rfl h3 tk)) (vN e3)
theorem Cj{W:Wd}{v:MV}{x:Value}(hx:ao W v x){A:Around}{s:Shared}{E:b7}:aZ (λb=>∀Q:Bool->Shared->Prop,(∀tk,Q b { s with toks:=tk })->wpAny Md A (truthy x) Q E s) (DS v):=by
 induction v using MV.casesOn with
 |c u=>induction u using CV.casesOn with
  |none=>rw [Eg hx];exact λQ q=>PyProof.Rows.truthy_none (q s.toks)|bool b=>rw [show x =.bool b from hx];exact λQ q=>wpAny_truthy_bool (q s.toks)|int i=>
   have hi:(i != 0)=nz i:=by
    induction i with
    |ofNat n=>cases n<;>rfl
    |negSucc n=>rfl
   exact λQ q=>cW.casesOn hx λt=>PySem.P.truthy_int (hi▸q s.toks)
  |_=>trivial
 |_=>trivial
theorem zS{v:MV}{x:Value}(hx:ao S.W v x){β:Type}{g:Bool->M Prop β}{k:β->aq->Prop}(h:bindM (xd v) g S.σ k){Q:Bool->Shared->Prop}(c:∀b,g b S.σ k->∀tk,Q b { S.s with toks:=tk }):wpAny Md F.A (truthy x) Q E S.s:=
 aQ h λb e h=>(Cj hx).get e Q (c b h)
theorem jw(H:fJ cx r)(o:Ok F S){x:Expr}(hw:isTrue x F.env (eval x F.env)=(do let v ← eval x F.env;standAt x.pos;holding [v] (truthy v))) :
  Runs F BR (isTrue x F.env (eval x F.env)) (bg (r.ev F.e x) λv=>iI (xd v)) S:=λk Q E h q er=>by
 rw [hw];exact aag ((H.ev F x S o).go h er λS1 a x n1 v1 h1=>aag (adj (acE (zS (g:=λb=>aE b) v1 (k:=λb σ'=>k (.ok b) σ') h1 λb h tk=>(q.aA n1).here n1.2 rfl h tk))))
theorem Ka{op:UnaryOp}{z:Unit}:Jp op=some z->op =.Not:=by
 induction op with
 |Not=>exact λ_=>rfl|_=>exact bq
theorem O6(H:fJ cx r)(o:Ok F S){op:UnaryOp}{x:Expr}{p:Pos}{whole:Sem Value}:Runs F BR (isTrue (.UnaryOp op x p) F.env whole) (bindM (aR (Jp op)) λ_=>bg (r.uW F.e x) λt=>dF (!t)) S:=λk Q E h q er=>by
 refine aQ h λ_ e h=>?_;rw [Ka e,arm_isTrue_UnaryOp];exact aag ((H.uW F x S o).go h er λS1 a x n1 v1 h1=>aaq ((q.aA n1).same n1.2 (by rw [show x=a from v1];rfl) h1))
theorem GU(H:fJ cx r){op:PySem.BoolOp}(xs:List Expr){S:Pt}(o:Ok F S):Runs F BR (allTrue op xs F.env) (sH r F.e op xs) S:=by
 induction xs generalizing S with
 |nil=>exact λk Q E h=>h.elim|cons x rest ih=>induction rest with
  |nil=>
   intro k Q E h q er;refine aag (H.uW F x S o k _ E h (λS1 b a n1 v1 h1=>?_) er);cases op<;>cases a<;>exact aaq (q S1 b _ n1 v1 h1)
  |cons y rest=>
   intro k Q E h q er;refine aag ((H.uW F x S o).go h er λS1 b a n1 v1 h1=>?_);rw [show a=b from v1]
   cases op<;>cases b<;>first|exact aaq (q S1 _ _ n1 rfl h1)|exact ih n1.2 k Q E h1 (q.aA n1) (er.aA n1)
theorem Kc(H:fJ cx r){op:PySem.BoolOp}{p:Pos}(xs:List Expr){S:Pt}(o:Ok F S):Runs F VR (boolOp p op (xs.map λx=>eval x F.env)) (nJ r F.e op xs) S:=by
 induction xs generalizing S with
 |nil=>exact λk Q E h=>h.elim|cons x rest ih=>induction rest with
  |nil=>exact λk Q E h q er=>H.ev F x S o k Q E h q er|cons y rest=>
   intro k Q E h q er;show wpAny _ _ (boolOp p op (eval x F.env::eval y F.env::rest.map λx=>eval x F.env)) _ _ _;refine aag ((H.ev F x S o).go h er λS1 b a n1 v1 h1=>aag (adj (aag (acE (zS v1 h1 λt h2 tk=>?_)))));have n2:=n1.trans (n1.2.tok tk);have go:∀h:nJ r F.e op (y::rest) S1.σ k,wpAny Md F.A (boolOp p op (eval y F.env::rest.map λx=>eval x F.env)) Q E { S1.s with toks:=tk }:=λh=>ih n2.2 k Q E h (q.aA n2) (er.aA n2)
   cases op<;>cases t<;>first|exact aaq (q (S1.tok tk) b a n2 v1 h2)|exact go h2
theorem aaf(H:fJ cx r)(o:Ok F S){t a b:Expr}{p:Pos}:Runs F VR (eval (.IfExp t a b p) F.env) (Oa cx r F.e (.IfExp t a b p)) S:=λk Q E h q er=>by
 rw [arm_eval_IfExp];refine aag ((H.uW F t S o).go h er λS1 z x n1 v1 h1=>?_);rw [show x=z from v1]
 cases z
 ·exact H.ev F b S1 n1.2 k Q E h1 (q.aA n1) (er.aA n1)
 ·exact H.ev F a S1 n1.2 k Q E h1 (q.aA n1) (er.aA n1)
theorem U0(H:fJ cx r)(o:Ok F S){a b:Expr}{op:Operator}{p:Pos}:Runs F VR (eval (.BinOp a op b p) F.env) (Oa cx r F.e (.BinOp a op b p)) S:=λk Q E h q er=>
 wpAny_BinOp ((H.ev F a S o).go h er λS1 v x n1 v1 h1=>(H.ev F b S1 n1.2).go h1 (er.aA n1) λS2 u y n2 v2 h2=>OY n2.2 (ao.up v1 n2.1.1) v2 (k:=λv σ'=>k (.ok v) σ') h2 (q.aA (n1.trans n2)))
theorem gk{x:Expr}{rest:List Expr}{env:Env}(h:fV x=true):starEach (x::rest) env=(false,eval x env)::starEach rest env:=by
 cases x<;>first|rfl|exact bM h
theorem Ck(H:fJ cx r){pos:Pos}(xs:List Expr){S:Pt}(o:Ok F S):Runs F VsR (spliced (backTo pos (starEach xs F.env))) (IM r F.e xs) S:=by
 induction xs generalizing S with
 |nil=>exact λk Q E h q _=>ahe (q.same o (b:=[]) rfl h)|cons x rest ih=>exact λk Q E h q er=>dK h λz h=>afW ((H.ev F x S o).go h er λS1 a x n1 v1 h1=>(ih n1.2).go h1 (er.aA n1) λS2 b y n2 v2 h2=>q S2 (a::b) _ (n1.trans n2) (ah.cons (ao.up v1 n2.1.1) v2) h2) (gk z)
theorem O7(H:fJ cx r)(o:Ok F S){xs:List Expr}{p:Pos}:Runs F VR (eval (.List xs p) F.env) (Oa cx r F.e (.List xs p)) S:=λk Q E h q er=>
 wpAny_List_spliced ((Ck H xs o).go h er λS1 vs xs n1 v1 h1=>dK h1 λz h1=>by
  have hl:xs.length<=1000:=by rw [← v1.len];exact abV z
  exact ⟨by rw [adZ];lia,rC (n:=0) (l:=([],rev vs [])) n1.2 (by show ah _ (rev (rev vs []) []) _;rw [rev_rev];exact v1) (aco hl (by decide)) (k:=λv σ'=>k (.ok v) σ') h1 (q.aA n1)⟩)
theorem Kd(H:fJ cx r)(o:Ok F S){xs:List Expr}{n:Nat}{p:Pos}:Runs F VR (eval (.Tuple xs n p) F.env) (Oa cx r F.e (.Tuple xs n p)) S:=λk Q E h q er=>
 wpAny_Tuple_spliced ((Ck H xs o).go h er λS1 vs xs n1 v1 h1=>dK h1 λz h1=>by
  have hl:xs.length<=1000:=by rw [← v1.len];exact abV z
  have y:=n1.2.fz (ob:=d7 xs.toArray) rfl λ_ z=>absurd (ahr z.1) (by decide)
  exact ⟨by rw [adZ];lia,q _ _ _ (n1.trans y.1) (JL (v1.up y.1.1.1) y.2) h1⟩)
theorem GV{i:Expr}{x y:Value}:vE i=false->subscripted i false x y=operate [x,y] (getItem x y):=by
 cases i with
 |Slice a b c d=>exact λh=>bM h.symm|_=>exact λ_=>rfl
theorem U1(H:fJ cx r)(o:Ok F S){v i:Expr}{p:Pos}(hi:vE i=false):Runs F VR (eval (.Subscript v i p) F.env) (bg (r.ev F.e v) λv=>bg (r.ev F.e i) λw=>iI (Uj cx p v w)) S:=λk Q E h q er=>
 agy ((H.ev F v S o).go h er λS1 a x n1 v1 h1=>(H.ev F i S1 n1.2).go h1 (er.aA n1) λS2 b y n2 v2 h2=>by
  exact (O3 n2.2 (ao.up v1 n2.1.1) v2 (k:=λv σ'=>k (.ok v) σ') h2 (q.aA (n1.trans n2))).casesOn λT id ty sl g=>aij (ops:=[x,y]) ty sl (g E) (GV hi))
theorem zT(H:fJ cx r)(o:Ok F S)(x:Option Expr):Runs F VR (evalPart x F.env) (vD r F.e x) S:=by
 induction x with
 |none=>exact λk Q E h q _=>aaq (q.same o (b:=.c .none) rfl h)|some x=>exact H.ev F x S o
theorem Ke(o:Ok F S){a b c:MV}{x y z:Value}{k:MV->aq->Prop}{Q:b7}(hx:ao S.W a x)(hy:ao S.W b y)(hz:ao S.W c z)(h:BO a b c S.σ k)(q:Ev F VR k S Q) :
  jN F.A { S.s with heap:=S.s.heap.push { cls:=.type "slice",data:=.fields #[y,z,.none] } } x (.ref S.s.heap.objs.size) Q:=by
 refine bB λgg=>aQ h λl q1 h=>aQ h λu q2 h=>((vL hy).get q1).casesOn λpl l' e1 m1=>((vL hz).get q2).casesOn λpu u' e2 m2=>gg <|?_
 have n:=o.pushed { cls:=.type "slice",data:=.fields #[y,z,.none] };induction a using MV.casesOn with
 |c a=>
  revert h;show BN a l u S.σ k->_;unfold BN;induction z:lsV a with
  |some c=>exact λh=>Cg n.2 (UZ z▸hx) (Heap.IsSliceOf.new ..) pl pu h (q.aA n)|none=>exact λh=>GR n.2 hx ⟨_,abX _ rfl,rfl,by rw [e1,e2];rfl⟩ m1 m2 h (q.aA n)
 |ref i=>exact GO n.2 hx (Heap.IsSliceOf.new ..) pl pu h (q.aA n)|_=>exact h.elim
theorem Kf(H:fJ cx r)(o:Ok F S){v:Expr}{lo hi:Option Expr}{p p':Pos}:Runs F VR (eval (.Subscript v (.Slice lo hi none p') p) F.env) (bg (r.ev F.e v) λv=>bg (vD r F.e lo) λa=>bg (vD r F.e hi) λb=>iI (BO v a b)) S:=λk Q E h q er=>
 agy ((H.ev F v S o).go h er λS1 a x n1 v1 h1=>wpAny_Slice ((zT H n1.2 lo).go h1 (er.aA n1) λS2 b y n2 v2 h2=>(zT H n2.2 hi).go h2 (er.aA (n1.trans n2)) λS3 c z n3 v3 h3=>
  aaq ((Ke n3.2 (ao.up v1 (n2.trans n3).1.1) (ao.up v2 n3.1.1) v3 (k:=λv σ'=>k (.ok v) σ') h3 (q.aA (n1.trans (n2.trans n3)))).casesOn λT id ty sl g=>aij (ops:=[.ref S3.s.heap.objs.size,x]) ty sl (g E) rfl)))
end
section
open PySem PySem.W
noncomputable def u9(g:Str->cK)(x:Str)(v:Value):Str->cK:=λy=>if y=x then some v else g y
section
variable{g:Str->cK}{es:Array DictEntry}{n:Nat}{x:Str}{v:Value}
theorem pN.modify(h:pN g n es){i:Nat}(hi:es.findIdx? (λe=>e.key.isStr x)=some i):pN (u9 g x v) n (es.modify i λe=>{ e with val:=v }):=
 ⟨λd hd=>by
  obtain ⟨j,hj,rfl⟩:=aik.mp hd;have hj':j<es.size:=by simpa using hj
  rw [air];split<;>exact h.1 es[j] (aiF hj'),
 by rw [aiG];exact h.2,
 λy=>by unfold u9;rw [← h.3];exact findBy_modify (λn v=>v.isStr n) Value.isStr_inj es x y v i hi⟩
theorem pN.new(h:pN g n es)(hi:es.findIdx? (λe=>e.key.isStr x)=none):g x=none:=by rw [← h.3 x];unfold nsFind;rw [findBy_of_findIdx?,hi]
theorem pN.push(h:pN g n es){t:Nat}(hi:es.findIdx? (λe=>e.key.isStr x)=none):pN (u9 g x v) (n+1) (es.push ⟨PyData.keyHash Pm x,.str x t,v⟩):=
 ⟨λd hd=>(Array.mem_push.mp hd).elim (h.1 d) λz=>z▸⟨x,t,rfl,rfl⟩,
 by rw [Array.size_push];exact ahX h.2,
 λy=>by
  unfold u9;rw [← h.3];exact findBy_push (λn v=>v.isStr n) es x y _ _ v (λz=>by
   show (x==z)=decide (z=x);by_cases q:z=x
   ·rw [q,decide_eq_true rfl];exact beq_self_eq_true x
   ·rw [decide_eq_false q];exact beq_false_of_ne (Ne.symm q)) hi⟩
theorem pN.le{m:Nat}(h:pN g n es)(hm:n<=m):pN g m es:=⟨h.1,aco h.2 hm,h.3⟩
abbrev GW(g:Str->cK)(x:Str)(n m:Nat):Prop:=P2 (n<=m) (g x =.none->n+1<=m)
theorem dU.put{o:Obj}{m:Nat}(h:dU g o n)(x:Str)(t:Nat)(v:Value)(hm:GW g x n m):dU (u9 g x v) (Obj.putName x (PyData.keyHash Pm x) (.str x t) v o) m:=by
 refine h.casesOn λes ep z h=>?_;rw [z,Obj.putName_eq];unfold Obj.putNameByArray;dsimp only;induction hi:es.findIdx? (λe=>e.key.isStr x) with
 |some i=>exact ⟨_,_,rfl,(h.modify hi).le hm.1⟩|none=>exact ⟨_,_,rfl,(h.push hi).le (hm.2 (h.new hi))⟩
end
theorem Et{α:Type}(x:Str)(v:α)(l:List (Str×α)):len (aT.put x v l)=match look x l with|some _=>len l|none=>len l+1:=by
 induction l with
 |nil=>rfl|cons p r ih=>
  show len (match cD p.1 x with|true=>(p.1,v)::r|false=>p::aT.put x v r)=_
  rw [show look x (p::r)=_ from aC x p.1 p.2 r]
  induction q:cD p.1 x with
  |true=>rw [if_pos (dI.mp q)];rfl|false=>
   rw [if_neg (dh.mp q)];show len (aT.put x v r)+1=_;rw [ih];cases look x r<;>rfl
theorem gn{α:Type}(x:Str)(v:α)(l:List (Str×α)):len l<=len (aT.put x v l)/\len (aT.put x v l)<=len l+1:=by
 rw [Et];cases look x l
 ·exact ⟨adq _,abv _⟩
 ·exact ⟨abv _,adq _⟩
theorem gK.room{W:Wd}{fs:Lo}{g:Str->cK}(r:gK W fs g)(x:Str)(v:MV):GW g x (len fs) (len (aT.put x v fs)):=⟨(gn x v fs).1,λhg=>by
 have:=r x;rw [hg] at this;rw [Et];induction z:look x fs with
 |none=>exact abv _|some u=>rw [z] at this;exact this.elim λy h=>bq h.1⟩
section
variable{A:Around}{s:Shared}{d:Addr}{ob:Obj}{g:Str->cK}{n m:Nat}{x:Str}{v y:Value}{E:b7}
def Puts(s:Shared)(d:Addr)(g:Str->cK)(m:Nat)(Q:Heap->Nat->Prop):Prop:=∀vO h' t,dU g vO m->h'.get? d=some vO->Heap.SameBut d s.heap h'->Q h' t
theorem qC{Q:Unit->Shared->Prop}{t:Nat}(ho:s.heap.get? d=some ob)(h:dU g ob n)(hz:m<=1000)(hm:GW g x n m)(q:Puts s d (u9 g x v) m λh t=>Q () { s with heap:=h,toks:=t }):wpAny Md A (dictSet d (.str x t) v) Q E s:=by
 refine h.casesOn λes ep z h=>?_;rw [z] at ho;have hkey:=agN prog w x t;have hko:KeysOf (strKind prog w) es:=λdd U3=>(h.1 dd U3).elim λy q=>q.elim λu q=>⟨y,by rw [q.1];exact agN prog w y u,q.2⟩
 unfold dictSet;try with_reducible refine acE ?_;refine aag ((strKind prog w).pyHash hkey ?_);unfold dictSetHashed;try with_reducible refine acE ?_;refine aag (wpAny_dictFind_of (s:={ s with toks:=s.toks+1 }) hkey ho rfl hko ?_)
 have hfun:(λe:DictEntry=>(strKind prog w).is x e.key)=λe=>e.key.isStr x:=funext λe=>(agX x e.key).symm;rw [hfun];induction hi:es.findIdx? (λe=>e.key.isStr x) with
 |some i=>exact aag (agk (aag (wpAny_updateDict (s:={ s with toks:=s.toks+1 }) ho rfl (wpAny_point (q _ _ _ ⟨_,_,rfl,(h.modify hi).le hm.1⟩ (adJ _ ho rfl) (Heap.SameBut.update ..))))))|none=>exact aag (agk (wpAny_updateDictKeys (hz:=by rw [adZ];have:=h.2;have:=hm.1;lia) (s:={ s with toks:=s.toks+1 }) ho rfl (q _ _ _ ⟨_,_,rfl,(h.push hi).le (hm.2 (h.new hi))⟩ (adJ _ ho rfl) (Heap.SameBut.update ..))))
theorem zU{Q:Unit->Shared->Prop}(ho:s.heap.get? d=some ob)(h:dU g ob n)(hz:m<=1000)(hm:GW g x n m)(hy:cP x y)(q:Puts s d (u9 g x v) m λh t=>Q () { s with heap:=h,toks:=t }):wpAny Md A (setItem (.ref d) y v) Q E s:=by
 refine cP.casesOn hy λt=>?_;have hM:=h.mapOf ho;unfold setItem;try with_reducible refine acE ?_;refine aag (wpAny_sequenceKey hM.typeIs (by decide) ?_)
 refine aag (aeg (name:=Str.ofString "__setitem__") hM.typeIs agO
  (afX agO hM.typeIs entry_dict_setitem ?_ (args_dict_setitem _ _ _)))
 show wpAny _ _ (Builtin.Dict.notOrdered "__setitem__" ⟨[.ref d,.str x t,v],[]⟩ >>= _) _ _ s;refine aag (wpAny_notOrdered_dict hM.typeIs ?_);show wpAny _ _ (dictSet d (.str x t) v >>= _) _ _ s;exact aag (qC ho h hz hm λvO h' t q1 q2 q3=>aaq ⟨.none,rfl,aaq (q vO h' t q1 q2 q3)⟩)
theorem lu{Q:Fin->Shared->Prop}{tk:Tok}(ho:s.heap.get? d=some ob)(h:dU g ob n)(hz:m<=1000)(hm:GW g x n m)(q:Puts s d (u9 g x y) m λh t=>Q (.done (.ret .none)) { s with heap:=h,toks:=t }) :
  wpAny Md A (Builtin.ObjectAttr.storeInDict d (.str x tk) x y) Q E s:=by
 refine aag (aaq (aag ?_));unfold nsSet;refine aag (aag (wpAny_askSetting (aaq (aag (aii (aag (afU ho ?_)))))));have S':=h.put x s.toks y hm;have hz':∀es ep,ob=kU es ep->pN g n es->es.any (·.refKey)=false:=λes ep _ h=>by
  rw [Array.any_eq_false'];intro dd he;obtain ⟨nn,t,hh,_⟩:=h.1 dd he;simp [DictEntry.refKey,hh]
 have D':=adJ (Obj.putName x (PyData.keyHash w.params x) (.str x s.toks) y) ho (S'.casesOn λes ep z _=>z▸rfl);have fin:=q _ _ (s.toks+1) S' D' (Heap.SameBut.update ..);revert D' fin S' ho;refine h.casesOn λes ep z h=>?_;rw [z];intro ho S' D' fin;dsimp only;rw [aRefKeyMayBeTheName_at,hz' es ep z h,ahp,if_neg aea];refine wpAny_updatePart ho ?_;refine S'.casesOn λes' SA z' h'=>?_;rw [z'] at D';exact aag (wpAny_lookBehind D' (pastItsLine_dict (by rw [adZ];have:=h'.2;lia)) (aaq fin))
end
section
variable{cx:Cx Prop}{F:Fr cx}{S:Pt}
theorem Ok.cH(o:Ok F S):Frag.In cx.top.cH S.s.heap:=λa ob q=>o.1.1 a ob (o.3.3 a ob q)
theorem dU.lookIn{g:Str->cK}{ob:Obj}{n:Nat}(h:dU g ob n)(x:Str):PySem.W.lookIn x ob=some (g x):=by
 refine h.casesOn λes ep z h=>?_;rw [z];unfold PySem.W.lookIn;dsimp only;rw [← h.3 x];unfold nsFind findBy;rw [← aiA];induction q:es.toList.find? (λe=>e.key.isStr x) with
 |some en=>rfl|none=>
  dsimp only;rw [if_neg]
  ·rfl
  ·rw [List.any_eq_true]
   rintro ⟨d,hd,hr⟩
   obtain ⟨y,t,q1,_⟩:=h.1 d (afN.mp hd);simp [DictEntry.refKey,q1] at hr
theorem findObj_own{K:Frag}{C:Addr}{c:pH}(hc:mH K C c){x:Str}{g:Str->cK}{ob:Obj}{n:Nat}{y:Value}(hs:dU g ob n)(h0:look x c.attrs=some none)(hy:g x=some y):findObj K C (some ob) x=some (.value y):=
 hc.4.elim λcd q=>by
  unfold findObj;rw [q.1,hc.6 x h0];simp only [aid,ownOf,q.2.1,if_true,hs.lookIn x,hy]
theorem vP{W:Wd}{v:MV}{y:Value}(h:ao W v y):(∀i,v≠ .c (.blt i))->handedIn y=true:=by
 revert h;refine MV.el v (λu=>?_) (λn hx _=>iw.casesOn hx λ_ _=>rfl) (λl hx _=>fY.casesOn hx λ_ _ _ _=>rfl) λf l hx _=>Oz.casesOn hx λ_ _ _ _ _ _=>rfl;induction u using CV.casesOn with
 |none=>exact λhx _=>(show y =.none from hx)▸rfl|bool b=>exact λhx _=>(show y =.bool b from hx)▸rfl|int i=>exact λhx _=>cW.casesOn hx λ_=>rfl|str i=>exact λhx _=>cP.casesOn hx λ_=>rfl|aA a=>exact λhx _=>(show y =.ref a from hx)▸rfl|type a=>exact λhx _=>(show y =.type a from hx)▸rfl|blt i=>exact λ_ h=>(h i rfl).elim|tup l=>exact λhx _=>fY.casesOn hx λ_ _ _ _=>rfl|lst l=>exact λhx _=>uY.casesOn hx λ_ _ _ _ _=>rfl|obj _ l=>exact λhx _=>Gr.casesOn hx λ_ _ _ _ _ _ _ _=>rfl|dct l=>exact λhx _=>Jy.casesOn hx λ_ _ _ _ _ _=>rfl|«at» a=>induction a with
  |none=>exact λhx _=>(show y =.none from hx)▸rfl|int i=>exact λhx _=>cW.casesOn hx λ_=>rfl|str i=>exact λhx _=>cP.casesOn hx λ_=>rfl
inductive Kg(cx:Cx Prop)(C:Addr)(fs:Lo)(x:Str):MV×Bool->Prop
 |uX (c:pH) (f:Addr) (h:aD C cx.top.cls=some c) (a:look x c.attrs=some (some f)) (n:look x fs=none):Kg cx C fs x (.c (.aA f),true)|own (c:pH) (u:MV) (h:aD C cx.top.cls=some c) (a:look x c.attrs=some none) (n:look x fs=some u) (b:∀i,u≠ .c (.blt i)):Kg cx C fs x (u,false)
theorem m6{C:Addr}{fs:Lo}{x:Str}:aZ (Kg cx C fs x) (gf cx C fs x):=by
 unfold gf;induction q:aD C cx.top.cls with
 |none=>trivial|some c=>
  dsimp only;induction q1:look x c.attrs with
  |none=>trivial|some r=>
   dsimp only;induction r with
   |some f=>
    dsimp only;induction q2:look x fs with
    |none=>exact .uX c f q q1 q2|some _=>trivial
   |none=>
    dsimp only;induction q2:look x fs with
    |none=>trivial|some u=>
     revert q2;refine MV.el u (λv=>?_) (λn q2=>.own c _ q q1 q2 λi=>MV.noConfusion) (λl q2=>.own c _ q q1 q2 λi=>MV.noConfusion) λf l q2=>.own c _ q q1 q2 λi=>MV.noConfusion;induction v using CV.casesOn with
     |blt i=>exact λ_=>trivial|_=>exact λq2=>.own c _ q q1 q2 λi z=>CV.noConfusion (MV.c.inj z)
theorem pT{C:Addr}{c:pH}(h:aD C cx.top.cls=some c):cM cx C=c.isExc:=by unfold cM;rw [h]
theorem rD{h:Heap}{x C d:Addr}{ob:Obj}(h1:h.get? x=some (fL C d))(h2:h.get? d=some ob):InstAt h x (fL C d) C (some ob):=⟨h1,rfl,rfl,h2⟩
inductive U4(W:Wd)(h:Heap)(a C:Addr)(fs:Lo):Prop
 |mk (oe:Obj) (od:fy) (I:InstAt h a oe C od) (own:∀x v,look x fs=some v->∃ob g m y,od=some ob/\dU g ob m/\g x=some y/\ao W v y)
theorem zE.inst{W:Wd}{i:Nat}{a C:Addr}{h:Heap}{fs:Lo}{t b:Bool}(c:zE W i a h C fs t b):U4 W h a C fs:=by
 refine c.casesOn λo vs ow g cls d sz tb cx di=>?_;have hnc:notCls o=true:=by unfold notCls;rw [d]
 cases q:o.dict with
 |none=>rw [q] at di;cases di;exact ⟨o,none,⟨g,cls,hnc,by rw [q];trivial⟩,λx v h=>bq h⟩
 |some d=>
  rw [q] at di;cases di with|yes fs d ne nt c=>exact c.casesOn λob gg _ e say r=>⟨o,some ob,⟨g,cls,hnc,by rw [q];exact e⟩,λx v h=>by
   have:=r x;rw [h] at this;exact this.elim λy z=>⟨ob,gg,_,y,rfl,say,z.1,z.2⟩⟩
theorem O8(o:Ok F S){v:MV}{y:Value}(hx:ao S.W v y):aZ (λp:Addr×Lo=>∃a,y =.ref a/\U4 S.W S.s.heap a p.1 p.2) (excOf S.σ v):=by
 revert hx;refine MV.el v (λu _=>trivial) (λn hx=>?_) (λl _=>trivial) λf l _=>trivial;refine iw.casesOn hx λa ha=>?_;dsimp only [excOf];induction q:af S.σ n with
 |none=>trivial|some mo=>induction mo with
  |exc C fs t b=>exact ⟨a,rfl,(o.exc ha q).inst⟩|_=>trivial
def Eu(F:Fr cx)(S:Pt)(y:Value)(x:Str)(v:MV):Prop:=∀(b:Bool)(Q:b7)(E:b7),(∀z tk,ao S.W v z->Q z { S.s with toks:=tk })->wpAny Md F.A (getAttr y x b) Q E S.s
theorem get_ins(o:Ok F S){C:Addr}{fs:Lo}{y:Value}{x:Str}(h:zM S.W S.s.heap C fs y)(he:cM cx C=false){u:MV×Bool}(hu:gf cx C fs x=some u)(hf:u.2=false):Eu F S y x u.1:=λb Q E q=>by
 refine h.casesOn λa d ob g e ed say r=>?_;induction m6.get hu with
 |uX c f hc ha hn=>cases hf
 |own c v hc ha hn hb=>
  have hk:=o.3.5 C c hc;have:=r x;rw [hn] at this;exact this.elim λz hz=>get_value o.cH (rD e ed) (hk.10 ((pT hc).symm.trans he)) (findObj_own hk say ha hz.1) (vP hz.2 hb) (q _ _ hz.2)
theorem Kh:builtinKind "BaseException.__getattribute__" = some .slot:=by decide +kernel
theorem GZ:splitId "BaseException.__getattribute__" = some ("BaseException","__getattribute__"):=by decide +kernel
theorem zV{A:Around}{E:b7}{s:Shared}{K:Frag}{x C:Addr}{ox:Obj}{od:fy}{name:Str}{expr:Bool}{Q:b7}{v:Value}(X:K.In s.heap)(I:InstAt s.heap x ox C od)
  (hga:findIn K (.ref C) "__getattribute__" = some (some (.builtin "BaseException.__getattribute__"))) (hk:findIn K (.ref C) "__getattr__" = some none) (hsub:mroIn K C (.type "BaseException")=some true)
  (hf:findObj K C od name=some (.value v)) (hh:handedIn v=true) (h:∀tk,Q v { s with toks:=tk }):wpAny Md A (getAttr (.ref x) name expr) Q E s:=by
 have ht:=I.type (M:=Md);refine aag (aii (acE (aag (ht _ _ _ _ (λ_ _ e=>e) (aag (ahl X hga _ _ _ _ (λ_ _ e=>e) ?_))))));dsimp only;rw [show (onTheHeap (Value.ref C)&&Value.builtin "BaseException.__getattribute__" == Value.builtin "object.__getattribute__")=false from by rw [show (Value.builtin "BaseException.__getattribute__" == Value.builtin "object.__getattribute__")=false from by decide +kernel,ahp],if_neg (by decide)]
 have hb:Looks Md s.heap (hookBefore (.ref C)) none:=looks_hook X (show (if onTheHeap (Value.ref C)=true then findIn K (.ref C) "__getattr__" else some none)=some none from (if_pos (show onTheHeap (Value.ref C)=true from rfl)).trans hk)
 refine aag (hb _ _ _ _ (λ_ _ e=>e) (aag (ahQ (acE ?_))));unfold callGetattribute;rw [show (expr&&onTheHeap (Value.builtin "BaseException.__getattribute__"))=false from ahp _,if_neg (by decide)]
 unfold boundAndCalled;rw [aif.ga.bind];refine aag (aaq ?_);show wpAny _ _ (call (.builtin "BaseException.__getattribute__") [.ref x,.str name s.toks]) _ _ _;refine ahB ?_;refine ahc aif.ga.plain PySem.F.entry_bexc_ga ?_;refine @check_slot Md _ _ { s with toks:=s.toks+1 } "BaseException.__getattribute__" "BaseException" "__getattribute__" (.ref x) [.str name s.toks] [] _ Kh GZ (ht.andThen (looks_mroIn X hsub)) (PySem.F.args_bexc_ga (.ref x) (.str name s.toks)) ?_
 have L1:=looks_find (M:=Md) X I hf;unfold Builtin.«object.__getattribute__»;refine aag (aaq (aag (aaq (aag (ht _ _ _ _ (λ_ _ e=>e) (aag (L1 _ _ _ _ (λ_ _ e=>e) ?_)))))));refine aaq ?_;show wpAny _ _ (handedOut v) _ _ _;rw [handedOut_of hh];exact aaq (h _)
theorem O9(o:Ok F S){C a:Addr}{fs:Lo}{x:Str}(h:U4 S.W S.s.heap a C fs)(he:cM cx C=true){u:MV×Bool}(hu:gf cx C fs x=some u)(hf:u.2=false):Eu F S (.ref a) x u.1:=λb Q E q=>by
 refine h.casesOn λoe od I own=>?_;induction m6.get hu with
 |uX c f hc ha hn=>cases hf
 |own c v hc ha hn hb=>
  have hE:=o.3.6 C c hc ((pT hc).symm.trans he);exact bB λgg=>(own x v hn).elim λob z=>z.elim λg z=>z.elim λm z=>z.elim λy z=>gg <|by
   rw [z.1] at I;exact zV o.cH I hE.5 hE.6 hE.3 (findObj_own (o.3.5 C c hc) z.2.1 ha z.2.2.1) (vP z.2.2.2 hb) λtk=>q y tk z.2.2.2
theorem Pa{v:MV}{y:Value}{W:Wd}(hx:ao W v y):aZ (λa=>y =.ref a) (jr v):=by
 induction v using MV.casesOn with
 |c u=>induction u using CV.casesOn with
  |aA a=>exact hx|_=>trivial
 |_=>trivial
inductive Pb(cx:Cx Prop)(C:Addr)(x:Str):MV->Prop|mk (c:pH) (f:Addr) (h:aD C cx.top.cls=some c) (a:look x c.attrs=some (some f)):Pb cx C x (.c (.aA f))
theorem qD{C:Addr}{x:Str}:aZ (Pb cx C x) (lU cx C x):=by
 unfold lU;induction q:aD C cx.top.cls with
 |none=>trivial|some c=>
  dsimp only;induction q1:look x c.attrs with
  |none=>trivial|some r=>induction r with
   |none=>trivial|some f=>exact .mk c f q q1
theorem get_cls(o:Ok F S){C:Addr}{x:Str}{f:MV}(h:Pb cx C x f):Eu F S (.ref C) x f:=λb Q E q=>by
 induction h with|mk c f hc ha=>
 exact ((o.3.5 C c hc).5 x f ha).2.2.elim λmc z=>cls_value o.cH z.1 z.2 rfl (q _ _ rfl)
theorem zW(o:Ok F S){v:MV}{y:Value}(hx:ao S.W v y)(x:Str):aZ (λu:MV×Bool=>u.2=false->Eu F S y x u.1) (sy cx v x S.σ):=by
 unfold sy;induction q:objOf S.σ v with
 |some p=>
  dsimp only;induction q2:cM cx p.1 with
  |true=>trivial|false=>
   show aZ _ (gf cx p.1 p.2 x);induction q3:gf cx p.1 p.2 x with
   |none=>trivial|some u=>exact get_ins o (JP o hx q) q2 q3
 |none=>
  dsimp only;induction q:excOf S.σ v with
  |some p=>
   dsimp only;induction q2:cM cx p.1 with
   |false=>trivial|true=>
    show aZ _ (gf cx p.1 p.2 x);induction q3:gf cx p.1 p.2 x with
    |none=>trivial|some u=>exact ((O8 o hx).get q).elim λa z hf=>z.1▸O9 o z.2 q2 q3 hf
  |none=>
   dsimp only;induction q:jr v with
   |none=>trivial|some C=>
    dsimp only;have z:=qD (cx:=cx) (C:=C) (x:=x);revert z;induction lU cx C x with
    |none=>exact λ_=>trivial|some f=>exact λz _=>(Pa hx).get q▸get_cls o z
end
end
section
open PySem PySem.W Builtin Builtin.ObjectAttr
section
variable{A:Around}{s:Shared}{K:Frag}{C a d:Addr}{oe ob:Obj}{cd:ClassData}{g:Str->cK}{n m:Nat}{x:Str}{tk:Tok}{y:Value}{Q:PySem.Fin->Shared->Prop}{E:b7}
theorem oi{b:Bool}(X:K.In s.heap)(hc:clsIn K C=some cd)(hd:cd.hasDict=true)(he:s.heap.get? a=some oe)(h1:oe.cls =.ref C)(h3:oe.dict=some d)(ho:s.heap.get? d=some ob)(h:dU g ob n)(hz:m<=1000)(hm:GW g x n m)
  (q:Puts s d (u9 g x y) m λh t=>Q (.done (.ret .none)) { s with heap:=h,toks:=t }):wpAny Md A (storeInOwnDict (.ref a) (.ref C) (.str x tk) x y b) Q E s:=by
 refine aag (aaq (aag (aag (afU he ?_))));rw [h3,h1];refine aag (looks_clsIn (M:=Md) X hc _ _ _ _ (λ_ _ e=>e) ?_);rw [hd];exact aaq (a:=some d) (lu ho h hz hm q)
noncomputable def upD(s:Shared):Obj->Obj:=λo=>{ cls:=o.cls,dict:=some s.heap.objs.size,data:=o.data,slots:=o.slots }
theorem xF{vs:ig}(X:K.In s.heap)(hc:clsIn K C=some cd)(hd:cd.hasDict=true)(he:s.heap.get? a=some oe)(h1:oe.cls =.ref C)(h2:oe.data =.fields vs)(h3:oe.dict=none)
  (q:Puts { s with heap:=(s.heap.push emptyDict).update a (upD s) } s.heap.objs.size (u9 (λ_=>none) x y) 1 λh t=>Q (.done (.ret .none)) { s with heap:=h,toks:=t }) :
  wpAny Md A (storeInOwnDict (.ref a) (.ref C) (.str x tk) x y false) Q E s:=by
 refine bB λgg=>?_;obtain ⟨oc,odi,oda,osl⟩:=oe;refine gg ?_;dsimp only at h1 h2 h3;subst h1 h2 h3;refine aag (aaq (aag (aag (afU he (aag (looks_clsIn (M:=Md) X hc _ _ _ _ (λ_ _ e=>e) ?_))))));rw [hd];have he':=aas emptyDict he;refine aag (ahR (aag (wpAny_update he' (aaq ?_))));have ne:a≠s.heap.objs.size:=aee (ado he);have hd0:((s.heap.push emptyDict).update a (upD s)).get? s.heap.objs.size=some emptyDict:=(adb _ _ ne).trans (abX _ rfl);exact lu (s:={ s with heap:=(s.heap.push emptyDict).update a (upD s) }) hd0 ⟨#[],0,rfl,λ_ he=>(ahd _ he).elim,abv _,λ_=>rfl⟩ (by decide) ⟨adK 1,λ_=>abv 1⟩ q
theorem Ew:∀{l:bU},lW l=true->l.contains (.type "object")=true/\l.isEmpty=false/\∀self,refuseLoop self "__setattr__" l=pure ()
 | [],e=>bM e|v::r,e=>by
  have three:(v::r==[.type "Exception",.type "BaseException",.type "object"])=true->(v::r).contains (.type "object")=true/\(v::r).isEmpty=false/\∀self,refuseLoop self "__setattr__" (v::r)=pure ():=λz=>by
   rw [eq_of_beq z];exact ⟨by decide,rfl,λself=>by kernel_rfl⟩
  induction v with
  |ref c=>
   have ih:=Ew (l:=r) e;exact ⟨by rw [adS,ih.1,aiI],rfl,λself=>by rw [refuseLoop_ref];exact ih.2.2 self⟩
  |_=>exact three e
theorem Pc{ox:Obj}{od:fy}{v:Value}{R:Result->Shared->Prop}(X:K.In s.heap)(I:InstAt s.heap a ox C od)(hc:clsIn K C=some cd)(ho:lW cd.mro=true)(ha:findIn K (.ref C) x=some none)
  (h:wpAny Md A.in1 (storeInOwnDict (.ref a) (.ref C) (.str x tk) x v false)
   (λfin s'=>match fin with|.done f=>R (.ok f) s'|.again c'=>c'.quiet=true/\codeAny Md A c' R s') (λe s'=>R (.error e) s') s) :
  codeAny Md A (.call (.builtin "object.__setattr__") ⟨[.ref a,.str x tk,v],[]⟩) R s:=by
 have SF:=PySem.F.store_object;have z:=Ew ho;have sub:Looks Md s.heap (isInstance (.ref a) (.type "object")) true:=I.type.andThen (looks_mroIn X (by unfold mroIn;rw [hc,aid,if_neg (by rw [z.2.1];decide),z.1]))
 refine ahc SF.slot.plain SF.entry (@check_slot Md _ _ s "object.__setattr__" "object" "__setattr__" (.ref a) [.str x tk,v] [] _ SF.kind SF.split sub (SF.args (.ref a) (.str x tk) v) ?_);have hm:Looks Md s.heap (mroOf (.ref C)) cd.mro:=(looks_clsIn X hc).andThen .now;rw [osa_eq,refuse_eq];refine aag (aag (I.type.here (aag (hm.here ?_))));rw [z.2.2];exact aaq (aag (I.type.here (aag ((ahl X ha).here (aag (aaq h))))))
end
section
variable{cx:Cx Prop}{F:Fr cx}{S:Pt}{k:Unit->aq->Prop}{Q:Unit->Shared->Prop}{E:b7}{x:Str}{v:MV}{y:Value}
def Es(F:Fr cx)(k:Unit->aq->Prop)(S:Pt)(Q:Unit->Shared->Prop):Prop:=∀S',bH F S S'->k () S'.σ->Q () S'.s
theorem zX(o:Ok F S){C:Addr}{c:pH}{fs:Lo}{n:Nat}{a:Addr}(hv:ao S.W v y)(hc:aD C cx.top.cls=some c)(hx:c.isExc=false)(h0:look x c.attrs=some none)
  (hn:af S.W.ρ n=some a) (hi:af S.σ n=some (.inst C fs)) (hz:len fs<=900) (hk:k () (setAt S.σ n (.inst C (put x v fs)))) (q:Es F k S Q):wpAny Md F.A (setAttr (.ref a) x y) Q E S.s:=by
 have K:=o.3.5 C c hc;refine (o.ins hn hi).casesOn λd ow ne g c=>c.casesOn λob gg U5 e say r=>K.4.elim λcd hcd=>?_;have I:=rD g e;refine set_plain o.cH I (K.12 hx) ?_;have I':InstAt ({ S.s with toks:=S.s.toks+1 }:Shared).heap a (fL C d) C (some ob):=I
 refine osa_open (s:={ S.s with toks:=S.s.toks+1 }) (r:=none) o.cH I' (K.13 hx) (by unfold takerIn;rw [K.6 x h0];rfl) λb=>?_
 refine oi (s:={ S.s with toks:=S.s.toks+1 }) o.cH hcd.1 hcd.2.1 g rfl rfl e say (by have:=(gn x v fs).2;lia) (r.room x v) λvO h' t q1 q2 q3=>?_
 exact q _ (o.u6 (mo:=.inst C (put x v fs)) (t:=t) hi hn U5 q3 ⟨d,ow,ne,(q3.2 a ne).trans g,vO,_,U5,q2,q1,r.put hv x⟩) hk
theorem zY(o:Ok F S){C:Addr}{c:pH}{fs:Lo}{n:Nat}{a:Addr}{t b:Bool}(hv:ao S.W v y)(hc:aD C cx.top.cls=some c)(hx:c.isExc=true)(h0:look x c.attrs=some none)
  (hn:af S.W.ρ n=some a) (hi:af S.σ n=some (.exc C fs t b)) (hz:len fs<=900) (hk:k () (setAt S.σ n (.exc C (put x v fs) t b))) (q:Es F k S Q):wpAny Md F.A (setAttr (.ref a) x y) Q E S.s:=by
 have hE:=o.3.6 C c hc hx;have K:=o.3.5 C c hc;refine (o.exc hn hi).casesOn λoe vs ow g cls dat sz tb ctx di=>hE.4.elim λcd hcd=>?_;have I:∃od,InstAt S.s.heap a oe C od:=(o.exc hn hi).inst.casesOn λoe' od I _=>⟨od,aap (I.at_.symm.trans g)▸I⟩;refine I.elim λod I=>set_plain o.cH I hE.7 ?_;have I':InstAt ({ S.s with toks:=S.s.toks+1 }:Shared).heap a oe C od:=I
 refine Pc (s:={ S.s with toks:=S.s.toks+1 }) o.cH I' hcd.1 hcd.2.2 (K.6 x h0) ?_
 induction hd:oe.dict with
 |some d=>
  rw [hd] at di;cases di with|yes fs d ne nt c=>
  refine c.casesOn λob gg U5 e say r=>oi (s:={ S.s with toks:=S.s.toks+1 }) o.cH hcd.1 hcd.2.1 g cls hd e say (by have:=(gn x v fs).2;lia) (r.room x v) λvO h' t' q1 q2 q3=>?_
  refine q _ (o.u6 (mo:=.exc C (put x v fs) t b) (t:=t') hi hn U5 q3 ⟨oe,vs,ow,(q3.2 a (Ne.symm ne)).trans g,cls,dat,sz,?_,ctx,hd▸ .yes _ d ne nt ⟨vO,_,U5,q2,q1,r.put hv x⟩⟩) hk;cases tb with
  |no e=>exact .no e|yes t T o ts e ow ne g d sz=>exact .yes t T o ts e ow ne ((q3.2 T λz=>nt (z▸e)).trans g) d sz
 |none=>
  rw [hd] at di;cases di;refine xF (s:={ S.s with toks:=S.s.toks+1 }) o.cH hcd.1 hcd.2.1 g cls dat hd λvO h' t' q1 q2 q3=>?_
  have ha:a≠S.s.heap.objs.size:=aee (ado g);have he2:h'.get? a=some (upD S.s oe):=(q3.2 a ha).trans (adJ _ (aas _ g) (aew dat));have kp:∀b' o',b'≠a->S.s.heap.get? b'=some o'->h'.get? b'=some o':=λb' o' n1 n2=>(q3.2 b' (aee (ado n2))).trans ((adb _ _ (Ne.symm n1)).trans (aas _ n2));have fresh:S.W.own S.s.heap.objs.size=none:=o.1.5 _ (abv _);have f9:∀b' r,S.W.own b'=some r->cO S.W.own S.s.heap.objs.size (some (.slot n)) b'=some r:=λb' r z=>(aM λy=>by rw [y,fresh] at z;exact bq z).trans z
  have hle:S.W.Le ⟨S.W.aU,cO S.W.own S.s.heap.objs.size (some (.slot n)),S.W.ρ⟩:=⟨λ_ _ e=>e,λ_ _=>f9 _ _,λ_ _=>f9 _ _,λ_=>f9 _ _,λ_ _=>f9 _ _,λ_ _ e=>e⟩;have hsz:h'.objs.size=S.s.heap.objs.size+1:=by
   have:=q3.1;dsimp only at this;rw [aes,acR] at this;exact this
  refine q _ (o.UQ (own':=cO S.W.own S.s.heap.objs.size (some (.slot n))) (mo:=.exc C (put x v []) t b) (h':=h') (t:=t') hi hn (λb' o' n1 n2=>kp b' o' (λz=>n1 (z▸ow)) n2) (by rw [hsz];exact adq _) f9
   (λb' r z=>(bX z).elim (λy=>.inr ⟨adW y.1.symm,by rw [hsz,y.1];exact adY _,(aap y.2).symm⟩) λy=>.inl y.2)
   ⟨upD S.s oe,vs,f9 _ _ ow,he2,cls,dat,sz,?_,ctx,.yes _ _ (Ne.symm ha) (λz=>?_) ⟨vO,_,aL,q2,q1,gK.put (m:=[]) (λ_=>rfl) (ao.up hv hle) x⟩⟩) hk
  ·induction tb with
   |no e=>exact .no e|yes t T o ts e ow ne g d sz=>exact .yes t T o ts e (f9 _ _ ow) ne (kp T o ne g) d sz
  ·cases tb with
   |no e=>rw [e] at z;cases z
   |yes t T o ts e ow ne g d sz=>rw [e] at z;cases z;exact aec _ (ado g)
inductive U6(cx:Cx Prop)(x:Str)(w:MV):MO->MO->Prop
 |inst (C:Addr) (fs:Lo) (c:pH) (h:aD C cx.top.cls=some c) (e:c.isExc=false) (a:look x c.attrs=some none) (z:len fs<=900):U6 cx x w (.inst C fs) (.inst C (put x w fs))|exc (C:Addr) (fs:Lo) (t b:Bool) (c:pH) (h:aD C cx.top.cls=some c) (e:c.isExc=true) (a:look x c.attrs=some none) (z:len fs<=900):U6 cx x w (.exc C fs t b) (.exc C (put x w fs) t b)
theorem Ey{C:Addr}{x:Str}(h:bare cx C x=true):∃c,aD C cx.top.cls=some c/\look x c.attrs=some none:=by
 revert h;unfold bare;induction aD C cx.top.cls with
 |none=>exact bM|some c=>
  dsimp only;induction q:look x c.attrs with
  |none=>exact bM|some r=>induction r with
   |none=>exact λ_=>⟨c,rfl,q⟩|some _=>exact bM
theorem zZ{x:Str}{w:MV}{mo:MO}:aZ (U6 cx x w mo) (zm cx x w mo):=by
 induction mo with
 |inst C fs=>
  show aZ _ (eF _ _);induction q:(bare cx C x&&!(cM cx C)&&Nat.ble (len fs) 900) with
  |false=>trivial|true=>have z:=bx q;have y:=bx z.1;exact (Ey y.1).elim λc h=>.inst C fs c h.1 (by rw [← pT h.1];exact nZ y.2) h.2 (abV z.2)
 |exc C fs t b=>
  show aZ _ (eF _ _);induction q:(bare cx C x&&cM cx C&&Nat.ble (len fs) 900) with
  |false=>trivial|true=>have z:=bx q;have y:=bx z.1;exact (Ey y.1).elim λc h=>.exc C fs t b c h.1 (by rw [← pT h.1];exact y.2) h.2 (abV z.2)
 |_=>trivial
theorem s9(o:Ok F S){a:MV}{z:Value}(ha:ao S.W a z)(hv:ao S.W v y)(h:nH cx a x v S.σ k)(q:Es F k S Q):wpAny Md F.A (setAttr z x y) Q E S.s:=by
 refine aQ h λn e h=>OJ h λmo hi h=>aQ h λmo' e' h=>iw.casesOn ((iD ha).get e) λa hn=>?_;induction zZ.get e' with
 |inst C fs c hc he ha hz=>exact zX o hv hc he ha hn hi hz h q|exc C fs t b c hc he ha hz=>exact zY o hv hc he ha hn hi hz h q
theorem isInt_inj:∀v a b,Value.isInt a v=true->Value.isInt b v=true->a=b:=λv a b h1 h2=>by
 cases v<;>simp [Value.isInt] at h1 h2
 lia
def SD(s:Shared)(d:Addr)(es:Array DictEntry)(n:Nat)(i:Int)(v:Value)(Q:Heap->Nat->Prop):Prop:=
 ∀es' SA h' t,IntKeys es'->es'.size<=n+1->(∀x,findBy Value.isInt es' x=if x=i then some v else findBy Value.isInt es x)->h'.get? d=some (kU es' SA)->Heap.SameBut d s.heap h'->Q h' t
theorem z0{A:Around}{s:Shared}{d:Addr}{es:Array DictEntry}{ep n:Nat}{i:Int}{t:Nat}{v:Value}(ho:s.heap.get? d=some (kU es ep))(hk:IntKeys es)(hz:es.size<=n)(hn:n<=1000)(q:SD s d es n i v λh t=>Q () { s with heap:=h,toks:=t }) :
  wpAny Md A (dictSet d (.int i t) v) Q E s:=by
 have hkey:=ahz prog w i t;have hko:KeysOf (intKind prog w) es:=λdd U3=>(hk dd U3).elim λy q=>q.elim λu q=>⟨y,by rw [q.1];exact ahz prog w y u,q.2⟩
 unfold dictSet;try with_reducible refine acE ?_;refine aag ((intKind prog w).pyHash hkey ?_);unfold dictSetHashed;try with_reducible refine acE ?_;refine aag (wpAny_dictFind_of (s:={ s with toks:=s.toks+1 }) hkey ho rfl hko ?_)
 have hfun:(λe:DictEntry=>(intKind prog w).is i e.key)=λe=>e.key.isInt i:=funext λe=>rfl;rw [hfun];induction hi:es.findIdx? (λe=>e.key.isInt i) with
 |some j=>
  refine aag (agk (aag (wpAny_updateDict (s:={ s with toks:=s.toks+1 }) ho rfl (wpAny_point (q _ _ _ _ (λdd U3=>?_) (by rw [aiG];lia) (λy=>findBy_modify Value.isInt isInt_inj es i y v j hi) (adJ _ ho rfl) (Heap.SameBut.update ..))))))
  obtain ⟨l,hl,rfl⟩:=aik.mp U3;have hl':l<es.size:=by simpa using hl
  rw [air];split<;>exact hk es[l] (aiF hl')
 |none=>
  refine aag (agk (wpAny_updateDictKeys (hz:=by rw [adZ];lia) (s:={ s with toks:=s.toks+1 }) ho rfl (q _ _ _ _ (λdd U3=>(Array.mem_push.mp U3).elim (hk dd) λz=>z▸⟨i,t,rfl,rfl⟩) (by rw [Array.size_push];lia) (λy=>?_) (adJ _ ho rfl) (Heap.SameBut.update ..))))
  exact findBy_push Value.isInt es i y _ _ v (λz=>by
    show (i==z)=decide (z=i);by_cases q:z=i
    ·rw [q,decide_eq_true rfl];exact beq_self_eq_true i
    ·rw [decide_eq_false q];exact beq_false_of_ne (Ne.symm q)) hi
theorem z5{A:Around}{s:Shared}{d:Addr}{es:Array DictEntry}{ep n:Nat}{i:Int}{j v:Value}(ho:s.heap.get? d=some (kU es ep))(hj:cW i j)(hk:IntKeys es)(hz:es.size<=n)(hn:n<=1000)(q:SD s d es n i v λh t=>Q () { s with heap:=h,toks:=t }) :
  wpAny Md A (setItem (.ref d) j v) Q E s:=by
 have hT:s.TypeIs (.ref d) "dict" :=⟨_,ho,rfl⟩;refine cW.casesOn hj λt=>?_;unfold setItem;try with_reducible refine acE ?_;refine aag (wpAny_sequenceKey hT (by decide) ?_)
 refine aag (aeg (name:=Str.ofString "__setitem__") hT agO
  (afX agO hT entry_dict_setitem ?_ (args_dict_setitem _ _ _)))
 show wpAny _ _ (Builtin.Dict.notOrdered "__setitem__" ⟨[.ref d,.int i t,v],[]⟩ >>= _) _ _ s;refine aag (wpAny_notOrdered_dict hT ?_);show wpAny _ _ (dictSet d (.int i t) v >>= _) _ _ s;exact aag (z0 ho hk hz hn λes' SA h' t q1 q2 q3 q4 q5=>aaq ⟨.none,rfl,aaq (q es' SA h' t q1 q2 q3 q4 q5)⟩)
theorem G0(o:Ok F S){n:Nat}{d:Addr}{fs:Lo}{j:Value}(hn:af S.W.ρ n=some d)(hi:af S.σ n=some (.dict fs))(hj:cP x j)(hv:ao S.W v y)(hz:len fs<=900)(hk:k () (setAt S.σ n (.dict (put x v fs))))(q:Es F k S Q):wpAny Md F.A (setItem (.ref d) j y) Q E S.s:=
 (o.Eh hn hi).casesOn λob g ow e say r=>zU e say (by have:=(gn x v fs).2;lia) (r.room x v) hj λvO h' t q1 q2 q3=>q _ (o.u6 (mo:=.dict (put x v fs)) (t:=t) hi hn ow q3 ⟨vO,_,ow,q2,q1,r.put hv x⟩) hk
inductive U7(W:Wd)(n:Nat)(d:Addr)(h:Heap)(v:CV)(ks:gI):Prop
 |mk (es:Array DictEntry) (ep:Nat) (ow:W.own d=some (.slot n)) (e:h.get? d=some (kU es ep)) (k:IntKeys es) (sz:es.size<=len ks) (dom:∀k,(findBy Value.isInt es k).isSome=decide (k∈ks)) (val:∀k x,findBy Value.isInt es k=some x->bw W.aU v x)
theorem vQ(o:Ok F S){n:Nat}{d:Addr}{mo:MO}{u:CV}{ks:gI}{i:Int}{j:Value}(hn:af S.W.ρ n=some d)(hi:af S.σ n=some mo)(c:U7 S.W n d S.s.heap u ks)(hj:cW i j)(hv:bw S.W.aU u y)(hz:len ks<=900)
  (hk:k () (setAt S.σ n (.known u (i::ks)))) (q:Es F k S Q):wpAny Md F.A (setItem (.ref d) j y) Q E S.s:=by
 refine c.casesOn λes ep ow e ik sz dom val=>z5 e hj ik sz (by lia) λes' SA h' t f3 f4 f5 f6 f7=>q _ (o.u6 (mo:=.known u (i::ks)) (t:=t) hi hn ow f7 ⟨_,es',SA,ow,f6,⟨rfl,rfl,rfl⟩,rfl,f3,f4,λk=>?_,λk x e=>?_⟩) hk
 ·rw [f5 k]
  by_cases z:k=i
  ·rw [if_pos z,z];exact (decide_eq_true (.head _)).symm
  ·rw [if_neg z,dom k];exact decide_eq_decide.mpr ⟨.tail _,λh=>(adN.mp h).resolve_left z⟩
 ·rw [f5 k] at e
  by_cases z:k=i
  ·rw [if_pos z] at e;exact aap e▸hv
  ·rw [if_neg z] at e;exact val k x e
theorem uZ.more{W:Wd}{i:Nat}{a:Addr}{h:Heap}{v:CV}{ks:gI}(c:uZ W i a h v ks):U7 W i a h v ks:=by
 refine c.casesOn λo es ep ow e x d k sz dom val=>?_;refine bB λgg=>?_;obtain ⟨oc,od,dt,sl⟩:=o;obtain ⟨hc,hb1,hb2⟩:=x;refine gg ?_;dsimp only at hc hb1 hb2 d;subst hc hb1 hb2 d;exact ⟨es,ep,ow,e,k,sz,dom,val⟩
theorem d8.more{W:Wd}{i:Nat}{a:Addr}{h:Heap}{v:CV}(c:d8 W i [] a h):U7 W i a h v []:=c.casesOn λo g ow e say r=>say.casesOn λes ep z hs=>by
 rw [z,aeT (aiv.mp hs.2)] at e;exact ⟨#[],ep,ow,e,λ_ he=>(ahd _ he).elim,abv _,λk=>rfl,λk x he=>bq he⟩
inductive U8(x:CV)(w:MV):MO->MO->Prop
 |str (es:Lo) (i:Str) (h:q9 x=some i) (z:len es<=900):U8 x w (.dict es) (.dict (put i w es))|int (i:Int×Bool) (v:CV) (h:b8 x=some i) (c:qu w=some v):U8 x w (.dict []) (.known v [i.1])
theorem z6{x:CV}{w:MV}{mo:MO}:aZ (U8 x w mo) (nK mo x w):=by
 induction mo with
 |dict es=>
  dsimp only [nK];induction q:q9 x with
  |some i=>
   show aZ _ (eF _ _);induction z:Nat.ble (len es) 900 with
   |false=>trivial|true=>exact .str es i q (abV z)
  |none=>induction es with
   |cons _ _=>trivial|nil=>
    dsimp only;induction q1:b8 x with
    |none=>trivial|some i=>
     dsimp only;induction q2:qu w with
     |none=>trivial|some v=>exact .int i v q1 q2
 |_=>trivial
theorem Kl(o:Ok F S){n:Nat}{d:Addr}{mo:MO}{u:CV}{j:Value}(hn:af S.W.ρ n=some d)(hi:af S.σ n=some mo)(hj:bw S.W.aU u j)(hv:ao S.W v y)(h:Jt n mo u v S.σ k)(q:Es F k S Q):wpAny Md F.A (setItem (.ref d) j y) Q E S.s:=by
 have other:∀h:bindM (aR (nK mo u v)) (λo'=>cU n o') S.σ k,wpAny Md F.A (setItem (.ref d) j y) Q E S.s:=λh=>aQ h λmo' e h=>by
  induction z6.get e with
  |str es i e9 z=>exact G0 o hn hi ((lq hj).get e9) hv z h q|int i v' e9 c=>exact vQ o hn hi (o.Eh hn hi).more ((cC hj).get e9) ((fO hv).get c) (adK _) h q
 induction mo with
 |known z ks=>exact bB λgg=>aQ h λi e h=>aQ h λv' c h=>gg <|vQ o hn hi (o.kno hn hi).more ((cC hj).get e) (h.1.1▸(fO hv).get c) (Nat.le_of_lt h.1.2) h.2 q|_=>exact other h
theorem z7(o:Ok F S){a i:MV}{x j:Value}(ha:ao S.W a x)(hj:ao S.W i j)(hv:ao S.W v y)(h:zv a i v S.σ k)(q:Es F k S Q):wpAny Md F.A (setItem x j y) Q E S.s:=
 aQ h λn e1 h=>aQ h λu e2 h=>OJ h λmo hi h=>iw.casesOn ((iD ha).get e1) λd hn=>Kl o hn hi ((fO hj).get e2) hv h q
end
end
section
variable{cx:Cx Prop}{F:Fr cx}{S:Pt}{Q:Unit->Shared->Prop}{E:b7}
theorem Ok.slots(x:Ok F S){h':Heap}{outer:List Env}(hf:F.A.frames=some (F.env::outer))(hs:Heap.SlotsOnly ((F.env::outer).filterMap (·.frame)) S.s.heap h'):bH F S (S.at h' S.s.toks):=by
 have mem:∀b∈(F.env::outer).filterMap (·.frame),S.W.own b=some .cur∨∃o,S.W.own b=some (.kL o):=by
  intro b hb;rw [aix,x.2.8] at hb;refine (adN.mp hb).elim (λz=>.inl (z▸x.2.3)) λhb=>?_;obtain ⟨o',q1,q2⟩:=x.4.4;rw [hf] at q1;cases q1;obtain ⟨y,hy,e1⟩:=List.mem_filterMap.mp hb;cases q2 y hy with|mk k L o f ow nf=>rw [f] at e1;cases e1;exact .inr ⟨o,ow⟩
 have same:∀b,S.W.own b≠some .cur->(∀o,S.W.own b≠some (.kL o))->h'.get? b=S.s.heap.get? b:=λb n1 n2=>hs.2.1 b λhb=>(mem b hb).elim n1 λq=>q.elim n2;have aeF:∀a o,S.W.aU a=some o->h'.get? a=some o:=λa o q=>(same a (λz=>by rw [x.1.4 _ _ z] at q;cases q) λ_ z=>by rw [x.1.4 _ _ z] at q;exact bq q).trans (x.1.1 a o q)
 have hnc:∀b r,S.W.own b=some r->r≠ .cur->(∀o,r≠ .kL o)->h'.get? b=S.s.heap.get? b:=λb r q n1 n2=>same b (λz=>n1 (aap (q.symm.trans z))) λo z=>n2 o (aap (q.symm.trans z));have ns:∃g,h'.Ns F.env.locals g/\mz S.W F.e.m g:=x.2.4.elim λg q=>⟨g,q.1.elim λo q=>q.elim λes q=>q.elim λep q=>(hs.2.2 _ _ q.1).elim λsl z=>⟨_,es,ep,z,q.2⟩,q.2⟩;have I:Inv S.W S.σ h':=⟨aeF,λa o q=>(hnc a _ q aH.noConfusion λ_=>aH.noConfusion).trans (x.1.2 a o q),λa o q=>(x.1.3 a o q).elim λsl z=>(hs.2.2 a _ z).elim λrE z'=>⟨rE,z'⟩,x.1.4,λa q=>x.1.5 a (aco (adW hs.1.symm) q),x.1.6,
   λi o a e1 e2=>(x.1.7 i o a e1 e2).move (.heap λb o q e=>(hnc b _ q aH.noConfusion λ_=>aH.noConfusion).trans e),x.1.8.move (λ_ _ e=>e) (λ_ _ _ e _=>e) (λ_ _ e=>e) (λ_ _ e=>e) λb p o q z=>(hnc b _ q aH.noConfusion λ_=>aH.noConfusion).trans z,
   λa q=>(x.1.9 a q).elim λo z=>(hs.2.2 a _ z).elim λsl z'=>⟨_,z'⟩⟩
 have N:mG S.W F.e F.env h':=⟨x.2.1,x.2.2,x.2.3,ns,x.2.5,x.2.6,x.2.7,x.2.8,x.2.9⟩;exact ⟨⟨.refl _,rfl,rfl,rfl⟩,I,N,x.3,x.4⟩
theorem xG(x:Ok F S){outer:List Env}(hf:F.A.frames=some (F.env::outer)):S.s.heap.FunFrames ({}:Heap) (F.env::outer):=by
 have no:∀L,({}:Heap).get? L=none:=λL=>by
  cases z:({}:Heap).get? L with
  |none=>rfl|some o=>exact absurd (ado z) (adP _)
 have ho:∀y∈outer,Sq S.W y:=x.4.4.elim λo' q=>by
  rw [hf] at q;exact (List.cons.inj (aap q.1)).2▸q.2
 refine ⟨(by rw [x.2.1,x.2.2];exact λz=>nomatch z),bB λgg=>x.2.4.elim λg q=>q.1.elim λo q=>q.elim λes q=>q.elim λep q=>gg <|⟨_,o,x.2.8,no _,q.1,λvs z=>by rw [q.2.1] at z;cases z⟩,?_⟩
 clear hf;induction outer with
 |nil=>trivial|cons y l ih=>exact bB λgg=>(ho y (.head _)).casesOn λh1 L o a b c=>(x.1.3 L o b).elim λsl z=>gg <|⟨h1,⟨L,_,a,no _,z,c⟩,ih λy hy=>ho y (.tail _ hy)⟩
theorem xH{vs:ig}{i:Nat}(x:Value)(h:i<vs.size):(vs.setIfInBounds i x)[i]?=some x:=Array.getElem?_setIfInBounds_self_of_lt h
theorem jn{vs:ig}{i j:Nat}(x:Value)(h:i≠j):(vs.setIfInBounds i x)[j]?=vs[j]?:=Array.getElem?_setIfInBounds_ne h
theorem ly{o:Obj}{vs:ig}(hd:o.data =.fields vs)(f:ig->ig):(o.mapFields f).dict=o.dict:=by obtain ⟨_,_,d,_⟩:=o;cases hd;rfl
theorem xx.move{W W':Wd}{i:Nat}{a:Addr}{h h':Heap}{vs vs':ig}{fs:Lo}{d:Option Addr}(c:xx W i a h vs fs d)(k:∀d,d≠a->W.own d=some (.slot i)->vs[1]?≠some (.ref d)->vs'[1]?≠some (.ref d)/\(d8 W i fs d h->d8 W' i fs d h')):xx W' i a h' vs' fs d:=by
 induction c with
 |no=>exact .no|yes fs d ne nt c=>have z:=k d ne (c.casesOn λ_ _ ow _ _ _=>ow) nt;exact .yes fs d ne z.1 (z.2 c)
theorem d8.heap{W:Wd}{i:Nat}{fs:Lo}{d:Addr}{h h':Heap}(c:d8 W i fs d h)(k:∀o,h.get? d=some o->h'.get? d=some o):d8 W i fs d h':=c.casesOn λo g ow e say r=>⟨o,g,ow,k _ e,say,r⟩
abbrev aeG(S:Pt)(n:Nat)(a:Addr)(oe:Obj)(vs:ig)(T:Addr)(oT:Obj)(ts:ig):Prop:=P8 (S.s.heap.get? a=some oe) (oe.data =.fields vs) (vs[1]?=some (.ref T)) (S.W.own T=some (.slot n)) (T≠a) (S.s.heap.get? T=some oT) (oT.data =.fields ts) (3<ts.size)
theorem vR(x:Ok F S){n:Nat}{a T C:Addr}{fs:Lo}{t b:Bool}{oe oT:Obj}{vs ts:ig}(hn:af S.W.ρ n=some a)(hi:af S.σ n=some (.exc C fs t b))(B:aeG S n a oe vs T oT ts)(v:Value)(t':Bool) :
  bH F S (S.put S.W.own n (.exc C fs t' b) (S.s.heap.update T (Obj.mapFields (·.setIfInBounds 3 v))) S.s.toks):=by
 have ne:∀b',b'≠T->(S.s.heap.update T (Obj.mapFields (·.setIfInBounds 3 v))).get? b'=S.s.heap.get? b':=λb' q=>adb _ _ (Ne.symm q)
 refine (x.exc hn hi).casesOn λo vs' ow g cls d sz tb cx di=>?_;have eo:o=oe:=aap (g.symm.trans B.1);subst eo;have ev:vs'=vs:=by have:=d.symm.trans B.2;injection this
 subst ev;exact x.u6 hi hn B.4 (Heap.SameBut.update ..) ⟨o,vs',ow,(ne a (Ne.symm B.5)).trans g,cls,d,sz,.yes _ T _ _ B.3 B.4 B.5 (adJ _ B.6 (aew (aeV B.7 _))) (aeV B.7 _) (by rw [aeH];exact B.8),cx,
  di.move λd ne' ow nt=>⟨nt,λc=>c.heap λo e=>(ne d λz=>nt (z▸B.3)).trans e⟩⟩
inductive tu(h:Heap)(a:Addr):Prop|mk (oe:Obj) (vs:ig) (T:Addr) (g:h.get? a=some oe) (d:oe.data =.fields vs) (e:vs[1]?=some (.ref T))
abbrev Km(S:Pt)(n:Nat)(C:Addr)(fs:Lo)(t b:Bool)(S':Pt):Prop:=S'.σ=setAt S.σ n (.exc C fs t b)
theorem z8(x:Ok F S){n:Nat}{a C:Addr}{fs:Lo}{t b:Bool}(t':Bool)(hn:af S.W.ρ n=some a)(hi:af S.σ n=some (.exc C fs t b)){hd:Value}{hadNext:Bool}
  (q:∀S',bH F S S'->Km S n C fs t' b S'->tu S'.s.heap a->Q () S'.s) :
  wpAny Md F.A (do let a' ← frameOf F.env;let pl ← entryPlaceOf F.env.locals hadNext;let b ← EntryCells.newEntry hd a' .none (rawInt F.env.locals) .none pl;setField (.ref a) 1 b) Q E S.s:=by
 refine x.4.4.elim λouter hf=>aag (wpAny_frameOf_fun hf.1 (xG x hf.1) x.2.8 λh₁ hs₁=>?_);have n2:=x.slots hf.1 hs₁;refine aag (wpAny_entryPlaceOf λpl hpl=>?_);unfold EntryCells.newEntry newFields;refine aag (aeO ?_ (hpl.sizeOk5 _ _ _ _ _));refine (n2.2.exc hn hi).casesOn λoe vs ow g cls d sz tb cx di=>?_;generalize htb:({ cls:=.type "traceback",dict:=none,data:=.fields ([hd,.ref F.env.locals,.none,rawInt F.env.locals,.none]++(if pl.isEmpty then List.replicate 6 Value.none else pl)).toArray }:Obj)=SE;have htd:SE.isFreed=false/\∃ts,SE.data =.fields ts/\3<ts.size:=by subst htb;exact ⟨rfl,_,rfl,by simp⟩
 clear htb;have g:h₁.get? a=some oe:=g;have Ez:=aas (h:=h₁) SE g;refine afV Ez d (by lia) ?_
 have hTe:h₁.objs.size≠a:=agt (ado g);have hd₃:=aeV d (·.setIfInBounds 1 (Value.ref h₁.objs.size))
 have SH:=adJ (Obj.mapFields (·.setIfInBounds 1 (Value.ref h₁.objs.size))) Ez (aew hd₃)
 have aah:=(adb (h₁.push SE) (Obj.mapFields (·.setIfInBounds 1 (Value.ref h₁.objs.size))) (Ne.symm hTe)).trans (abX h₁ htd.1)
 have keep:∀b' o,b'≠a->h₁.get? b'=some o->((h₁.push SE).update a (Obj.mapFields (·.setIfInBounds 1 (Value.ref h₁.objs.size)))).get? b'=some o:=λb' o hbe hb=>(adb _ _ (Ne.symm hbe)).trans (aas _ hb)
 have fresh:S.W.own h₁.objs.size=none:=n2.2.1.5 _ (abv _);have f9:∀b' r,S.W.own b'=some r->cO S.W.own h₁.objs.size (some (.slot n)) b'=some r:=λb' r z=>(aM λy=>by rw [y,fresh] at z;cases z).trans z
 have hle:S.W.Le ⟨S.W.aU,cO S.W.own h₁.objs.size (some (.slot n)),S.W.ρ⟩:=⟨λ_ _ e=>e,λ_ _=>f9 _ _,λ_ _=>f9 _ _,λ_=>f9 _ _,λ_ _=>f9 _ _,λ_ _ e=>e⟩;have hsz:((h₁.push SE).update a (Obj.mapFields (·.setIfInBounds 1 (Value.ref h₁.objs.size)))).objs.size=h₁.objs.size+1:=by rw [aes,acR]
 have h1':=xH (vs:=vs) (i:=1) (Value.ref h₁.objs.size) (by lia)
 have fin:=n2.2.UQ (own':=cO S.W.own h₁.objs.size (some (.slot n))) (mo:=.exc C fs t' b) (h':=(h₁.push SE).update a (Obj.mapFields (·.setIfInBounds 1 (Value.ref h₁.objs.size)))) (t:=S.s.toks) hi hn
  (λb' o z1 z2=>keep b' o (λz=>z1 (z▸ow)) z2) (aco (adq _) (adW hsz.symm)) f9
  (λb' r z=>(bX z).elim (λy=>.inr ⟨adW y.1.symm,by rw [hsz,y.1];exact adY _,(aap y.2).symm⟩) λy=>.inl y.2)
  ⟨_,_,f9 _ _ ow,SH,(ahC _ _).trans cls,hd₃,by rw [aeH];exact sz,htd.2.elim λts z=>.yes _ h₁.objs.size SE ts h1' aL hTe aah z.1 z.2,λz=>(jn _ (by decide)).trans (cx z),(ly d _).symm▸
   di.move λd ne ow nt=>⟨λz=>by (have z:=aap (h1'.symm.trans z);cases z;exact bq (fresh.symm.trans ow)),λc=>d8.move (.le' hle (λ_=>f9 _ _) λ_ _ _ e=>e) (c.heap λo e=>keep d o ne e)⟩⟩
 exact q _ (n2.trans fin) rfl ⟨_,_,_,SH,hd₃,h1'⟩
theorem oj(x:Ok F S){n:Nat}{a C:Addr}{fs:Lo}{t b:Bool}(t':Bool)(hn:af S.W.ρ n=some a)(hi:af S.σ n=some (.exc C fs t b))
  (q:∀S',bH F S S'->Km S n C fs t' b S'->tu S'.s.heap a->Q () S'.s):wpAny Md F.A (noteFrame (.ref a) F.env) Q E S.s:=by
 unfold noteFrame;simp only [x.2.8];refine (x.exc hn hi).casesOn λoe vs ow g cls d sz tb cx di=>?_;have tb0:=tb;induction tb with
 |no e=>
  refine aag (adT g d e ?_);rw [if_neg (by decide)]
  exact z8 x t' hn hi q
 |yes t T oT ts e Ob ne gT dT G1=>
  refine aag (adT g d e ?_);rw [if_pos (show (Value.ref T != Value.none)=true from by simp)]
  refine aag (adT gT dT (ahs G1) ?_);by_cases hb:(ts[3]==rawInt F.env.locals)=true
  ·rw [if_pos hb]
   exact aaq (q (S.put S.W.own n (.exc C fs t' b) S.s.heap S.s.toks) (x.put (mo:=.exc C fs t' b) (h':=S.s.heap) (t:=S.s.toks) hi hn (λ_ _ _ z=>z) (abv _) ⟨oe,vs,ow,g,cls,d,sz,.yes _ T oT ts e Ob ne gT dT G1,cx,di⟩) rfl ⟨oe,vs,T,g,d,e⟩)
  ·rw [if_neg hb]
   have f:=vR x hn hi ⟨g,d,e,Ob,ne,gT,dT,G1⟩ .none t;have hi':af (S.put S.W.own n (.exc C fs t b) (S.s.heap.update T (Obj.mapFields (·.setIfInBounds 3 Value.none))) S.s.toks).σ n=some (.exc C fs t b):=(congrArg (af · n) (dQ hi)).trans hi
   exact aag (afV gT dT G1 (z8 f.2 t' hn hi' λS' n' m h=>q S' (f.trans n') (m.trans (congrArg (setAt · n _) (dQ hi))) h))
theorem cX(x:Ok F S){n:Nat}{a C:Addr}{fs:Lo}{t b:Bool}(hn:af S.W.ρ n=some a)(hi:af S.σ n=some (.exc C fs t b))(f:Option Addr){A':Around}(q:∀S',bH F S S'->S'.σ=S.σ->Q () S'.s):wpAny Md A' (setFlight (.ref a) f) Q E S.s:=by
 unfold setFlight;refine (x.exc hn hi).casesOn λoe vs ow g cls d sz tb cx di=>?_;induction tb with
 |no e=>
  refine aag (adT g d e ?_);rw [if_neg (by decide)]
  exact aaq (q S (.refl x) rfl)
 |yes t T oT ts e Ob ne gT dT G1=>
  refine aag (adT g d e ?_);rw [if_pos (show (Value.ref T != Value.none)=true from by simp)]
  exact afV gT dT G1 (q _ (vR x hn hi ⟨g,d,e,Ob,ne,gT,dT,G1⟩ _ t) (dQ hi))
theorem EA(x:Ok F S){n:Nat}{a:Addr}(hn:af S.W.ρ n=some a)(hi:eL S.σ n)(tb:tu S.s.heap a){A':Around}(q:∀S',bH F S S'->S'.σ=S.σ->E (.ref a) S'.s):cameBackBy Md A' F.env E (.ref a) S.s:=by
 refine tb.casesOn λoe vs T g d e=>hi.casesOn λC fs t b hi=>?_;unfold cameBackBy;refine aag (adT g d e ?_);rw [if_neg (by simp)]
 exact cX x hn hi _ q
theorem vU(x:Ok F S){n:Nat}{a:Addr}(hn:af S.W.ρ n=some a)(hi:eL S.σ n)(q:∀S',bH F S S'->S'.σ=S.σ->tu S'.s.heap a->E (.ref a) S'.s):notedBy Md F.A F.env E (.ref a) S.s:=by
 refine hi.casesOn λC fs t b hi=>?_;unfold notedBy;exact oj x t hn hi λS' n' m h=>q S' n' (m.trans (dQ hi)) h
inductive BD(W:Wd):cB->Flow->Prop
 |next:BD W .next .next|brk:BD W .brk .brk|cont:BD W .cont .cont|ret (v:MV) (x:Value) (h:ao W v x):BD W (.ret v) (.ret x)
def Fr.fix(F:Fr cx)(m:Lo):Fr cx:=⟨fixed F.e m,F.env,F.A⟩
def lz(F:Fr cx)(k:cB×Lo->aq->Prop)(S:Pt)(Q:Flow->Shared->Prop):Prop:=∀S' g m fl,Le S S'->Ok (F.fix m) S'->BD S'.W g fl->k (g,m) S'.σ->Q fl S'.s
def nE(F:Fr cx)(k:cB×Lo->aq->Prop)(S:Pt)(E:b7):Prop:=∀S' n a m,Le S S'->Ok (F.fix m) S'->af S'.W.ρ n=some a->eL S'.σ n->k (.err n,m) S'.σ->E (.ref a) S'.s
def vc(F:Fr cx)(k:cB×Lo->aq->Prop)(S:Pt)(E:b7):Prop:=∀S' n a m,Le S S'->Ok (F.fix m) S'->af S'.W.ρ n=some a->eL S'.σ n->tu S'.s.heap a->k (.err n,m) S'.σ->E (.ref a) S'.s
def jx(F:Fr cx)(t:Sem Flow)(m:M Prop (cB×Lo))(S:Pt):Prop:=∀k Q E,m S.σ k->lz F k S Q->nE F k S E->wpAny Md F.A t Q E S.s
section
variable{k:cB×Lo->aq->Prop}{S':Pt}{m:Lo}
theorem lz.on{Q:Flow->Shared->Prop}(q:lz F k S Q)(n:bH F S S'):lz F k S' Q:=λvJ g m fl le=>q vJ g m fl (n.1.trans le)
theorem nE.on(q:nE F k S E)(n:bH F S S'):nE F k S' E:=λvJ i a m le=>q vJ i a m (n.1.trans le)
theorem nE.er(q:nE F k S E):Er F (λn σ=>k (.err n,F.e.m) σ) S E:=λS' n a nx h1 h2 h=>q S' n a F.e.m nx.1 nx.2 h1 h2 h
theorem lz.end{Q:Flow->Shared->Prop}(q:lz F k S Q)(n:bH F S S')(h:k (.next,F.e.m) S'.σ):Q .next S'.s:=q S' .next F.e.m .next n.1 n.2 .next h
theorem Runs.out{α β:Type}{V:Wd->β->α->Prop}{t:Sem α}{m:M Prop (Ex β)}{f:β->M Prop (cB×Lo)}{Q:α->Shared->Prop}(x:Runs F V t m S)(h:jG F.e.m m f S.σ k)(er:nE F k S E)(ok:Ev F V (λb σ'=>f b σ' k) S Q):wpAny Md F.A t Q E S.s:=x _ Q E h ok er.er
theorem jx.go{γ:Type}{t:Sem Flow}{m:M Prop (cB×Lo)}{f:cB×Lo->M Prop γ}{k:γ->aq->Prop}{Q:Flow->Shared->Prop}(x:jx F t m S)(h:bindM m f S.σ k)(er:nE F (λfm σ'=>f fm σ' k) S E)(ok:lz F (λfm σ'=>f fm σ' k) S Q):wpAny Md F.A t Q E S.s:=x _ Q E h ok er
theorem vc.noted{R:Result->Shared->Prop}(q:vc F k S λe s'=>R (.error e) s'):nE F k S (notedBy Md F.A F.env λe s'=>R (.error e) s'):=λS' n a m le o h1 h2 h=>vU (F:=F.fix m) o h1 h2 λvJ n' e tb=>q vJ n a m (le.trans n'.1) n'.2 (n'.1.1.6 _ _ h1) (e▸h2) tb (e▸h)
theorem nE.back(q:nE F k S E):vc F k S λe s'=>cameBackBy Md F.A F.env E e s':=λS' n a m le o h1 h2 tb h=>EA (F:=F.fix m) o h1 h2 tb λvJ n' e=>q vJ n a m (le.trans n'.1) n'.2 (n'.1.1.6 _ _ h1) (e▸h2) (e▸h)
end
end
section
variable{cx:Cx Prop}{F:Fr cx}{S S':Pt}{k:cB×Lo->aq->Prop}{Q:Flow->Shared->Prop}{E:b7}{r:dZ Prop}
theorem lz.to(q:lz F k S Q)(n:Le S S'):lz F k S' Q:=λvJ g m fl le=>q vJ g m fl (n.trans le)
theorem nE.to(q:nE F k S E)(n:Le S S'):nE F k S' E:=λvJ i a m le=>q vJ i a m (n.trans le)
theorem vc.to(q:vc F k S E)(n:Le S S'):vc F k S' E:=λvJ i a m le=>q vJ i a m (n.trans le)
def aai(F:Fr cx)(t:Expr)(body:cL)(m:M Prop (cB×Lo))(S:Pt):Prop:=∀k (R:Result->Shared->Prop),m S.σ k->lz F k S (λf s=>R (.ok f) s)->vc F k S (λe s=>R (.error e) s)->codeAny Md F.A (.whileLoop t body [] F.env) R S.s
structure gb(cx:Cx Prop)(r:dZ Prop):Prop extends fJ cx r where
 exs:∀(F:Fr cx) ss S,Ok F S->jx F (execs ss F.env) (r.exs F.e ss) S
 DW:∀(F:Fr cx) t body S,Ok F S->aai F t body (r.DW F.e t body) S
def aaj(A:Around)(test:Expr)(body orelse:cL)(env:Env)(R:Result->Shared->Prop)(f:Flow)(s:Shared):Prop:=match f with
 |.brk=>R (.ok .next) s|.ret v=>R (.ok (.ret v)) s|_=>codeAny Md A (.whileLoop test body orelse env) R s
def aak(A:Around)(test:Expr)(body orelse:cL)(env:Env)(R:Result->Shared->Prop):Bool->Shared->Prop
 |true,s=>wpAny Md A (execs body env) (aaj A test body orelse env R) (notedBy Md A env λe s'=>R (.error e) s') s|false,s=>wpAny Md A (execs orelse env) (λf s=>R (.ok f) s) (notedBy Md A env λe s'=>R (.error e) s') s
theorem Cm{A:Around}{env:Env}{s:Shared}{test:Expr}{body orelse:cL}{R:Result->Shared->Prop}
  (h:wpAny Md A (isTrue test env (eval test env)) (aak A test body orelse env R) (notedBy Md A env λe s'=>R (.error e) s') s):codeAny Md A (.whileLoop test body orelse env) R s:=by
 refine ahf ?_;show wpAny _ A ((whileTurn test body orelse env).onRaise (λx=>do noteFrame x env;theTreesLotGoes x)) _ _ s
 refine wpAny_noted ?_;simp only [whileTurn];refine aag (adX h (λb s₂ h₂=>?_) λ_ _ h'=>h');induction b with
 |false=>exact aag (adX h₂ (λf s₃ h₃=>aaq h₃) λ_ _ h'=>h')|true=>
  refine aag (adX h₂ (λf s₃ h₃=>?_) λ_ _ h'=>h');induction f with
  |next=>exact aaq ⟨rfl,h₃⟩|cont=>exact aaq ⟨rfl,h₃⟩|brk=>exact aaq h₃|ret v=>exact aaq h₃
theorem EB(H:gb cx r){N:En->Expr->cL->M Prop (cB×Lo)}{t:Expr}{body:cL}(o:Ok F S){R:Result->Shared->Prop}(h:xq cx { r with DW:=N } F.e t body S.σ k)
  (hn:∀S' m,Le S S'->Ok (F.fix m) S'->N (fixed F.e m) t body S'.σ k->codeAny Md F.A (.whileLoop t body [] F.env) R S'.s) (ok:lz F k S λf s=>R (.ok f) s) (er:vc F k S λe s=>R (.error e) s) :
  codeAny Md F.A (.whileLoop t body [] F.env) R S.s:=by
 have er':=er.noted;refine Cm ((H.uW F t S o).out h er' λS1 z x n1 v1 h1=>?_);rw [show x=z from v1]
 induction z with
 |false=>exact ail (ok S1 .next F.e.m .next n1.1 n1.2 .next h1)|true=>
  refine (H.exs F body S1 n1.2).go h1 (λS2 n a m le=>er' S2 n a m (n1.1.trans le)) λS2 g m fl le o2 v2 h2=>?_;induction v2 with
  |next=>exact hn S2 m (n1.1.trans le) o2 h2|cont=>exact hn S2 m (n1.1.trans le) o2 h2|brk=>exact ok S2 .next m .next (n1.1.trans le) o2 .next h2|ret v x hv=>exact ok S2 _ m _ (n1.1.trans le) o2 (.ret v x hv) h2
def jg(cx:Cx Prop)(f:En->Expr->cL->M Prop (cB×Lo)):Prop:=∀(F:Fr cx) t body S,Ok F S->aai F t body (f F.e t body) S
theorem U9(H:gb cx r)(HL:∀n L,aD n cx.BH=some L->jg cx L):jg cx (xr cx r):=by
 intro F t body S o;unfold xr;induction q:aD t.pos.line cx.BH with
 |some L=>exact HL _ L q F t body S o|none=>exact λk R h ok er=>EB H (N:=r.DW) o h (λS' m le o' h'=>H.DW (F.fix m) t body S' o' k R h' (ok.to le) (er.to le)) ok er
theorem Ko(H:gb cx r){t:Expr}{body:cL}{p:Pos}(o:Ok F S):jx F (exec (.While t body [] p) F.env) (r.DW F.e t body) S:=λk _ _ h ok er=>wpAny_While (H.DW F t body S o k _ h ok er.back)
def Zg(F:Fr cx)(k:Lo->aq->Prop)(S:Pt)(Q:Unit->Shared->Prop):Prop:=∀S' m,Le S S'->Ok (F.fix m) S'->k m S'.σ->Q () S'.s
section
variable{A':Around}{k:Lo->aq->Prop}{Q:Unit->Shared->Prop}{x:Str}{v:MV}{y:Value}
theorem G2(o:Ok F S)(hv:ao S.W v y)(hk:F.env.kindOf x=some .local)(h:k (put x v F.e.m) S.σ)(q:Zg F k S Q):wpAny Md A' (storeName F.env x y) Q E S.s:=
 o.2.4.elim λg e=>agU hk e.1 (λh' hn hs=>q (S.at h' (S.s.toks+1)) (put x v F.e.m) ⟨.refl _,rfl,rfl,rfl⟩
  ⟨o.1.but o.2.3 hs (bB λgg=>hn.elim λo z=>z.elim λ_ z=>z.elim λ_ z=>gg <|⟨o,z.1⟩),⟨o.2.1,o.2.2,o.2.3,⟨_,hn,λy' v' (q':look y' (put x v F.e.m)=some v')=>by
   rw [nV] at q';by_cases e1:y'=x
   ·rw [if_pos e1] at q';cases q';exact ⟨y,if_pos e1,hv⟩
   ·rw [if_neg e1] at q';exact (e.2 y' v' q').elim λy2 z=>⟨y2,(if_neg e1).trans z.1,z.2⟩⟩,o.2.5,o.2.6,o.2.7,o.2.8,o.2.9⟩,o.3,⟨o.4.1,o.4.2,o.4.3,o.4.4,o.4.5⟩⟩ h) (by rw [o.2.1,o.2.2];rfl)
theorem zF.is{W:Wd}{i:Nat}{a:Addr}{h:Heap}{v:Option MV}(c:zF W i a h v):W.own a=some (.slot i)/\∃z,h.IsCell a z:=by
 induction c with
 |no o ow g d=>exact ⟨ow,_,o,g,d⟩|yes v x o ow g d r=>exact ⟨ow,_,o,g,d⟩
theorem G3(o:Ok F S)(hv:ao S.W v y)(hk:F.env.kindOf x=some .cell){n:Nat}{v0:Option MV}(h1:look x F.e.cells=some n)(h2:af S.σ n=some (.cell v0))(h:k F.e.m (setAt S.σ n (.cell (some v))))(q:Zg F k S Q) :
  wpAny Md A' (storeName F.env x y) Q E S.s:=
 (o.2.5 _ _ h1).elim λa ha=>(zF.is (o.cell ha.1 h2)).2.elim λz hc=>wpAny_storeName_cell (by rw [o.2.1];exact o.2.2) hk ha.2 hc λh' hc' hs'=>hc'.elim λoc d=>
  have ow:=(zF.is (o.cell ha.1 h2)).1;have n:=o.u6 (mo:=.cell (some v)) (t:=S.s.toks) h2 ha.1 ow hs' (.yes v y oc ow d.1 d.2 hv);q _ _ n.1 n.2 h
theorem jy(o:Ok F S)(hv:ao S.W v y)(h:store F.e x v S.σ k)(q:Zg F k S Q):wpAny Md A' (storeName F.env x y) Q E S.s:=by
 have hk:=o.2.kindOf (x:=x);refine aQ h λkd z h=>?_;rw [z] at hk;induction kd with
 |«local» =>exact G2 o hv hk h q|cell=>exact aQ h λn h1 h=>eH h λv0 h2 h=>G3 o hv hk h1 ((zL ..).get h2) h q|_=>exact h.elim
end
theorem Ok.inter(o:Ok F S):interactive F.env=false:=by
 unfold interactive;rw [o.2.1,o.2.2];rfl
theorem om{x:Expr}{t:Option Expr}{n:Nat}{env:Env}:xm x=true->swapsWith x t n env=pure false:=by
 cases x with
 |ListComp=>exact bM|SetComp=>exact bM|DictComp=>exact bM|_=>exact λ_=>rfl
theorem Pd(H:gb cx r){x:Expr}{p:Pos}(o:Ok F S):jx F (exec (.Expr x p) F.env) (mZ cx r F.e (.Expr x p)) S:=λk Q E h ok er=>dK h λz h=>by
 rw [exec_Expr F.env x p o.inter (om z)];exact aag (adj (aag ((H.ev F x S o).out h er λS1 a y n1 v1 h1=>wpAny_dropValue (ok.end n1 h1))))
theorem G4(H:gb cx r){x:Option Expr}{p:Pos}(o:Ok F S):jx F (exec (.Return x p) F.env) (mZ cx r F.e (.Return x p)) S:=λk Q E h ok er=>by
 induction x with
 |none=>exact wpAny_Return_none (ok S _ F.e.m _ (.refl _) o (.ret (.c .none) .none rfl) h)|some x=>exact wpAny_Return_some ((H.ev F x S o).out h er λS1 a y n1 v1 h1=>ok S1 _ F.e.m _ n1.1 n1.2 (.ret a y v1) h1)
theorem aal(H:gb cx r){t:Expr}{a b:cL}{p:Pos}(o:Ok F S):jx F (exec (.If t a b p) F.env) (mZ cx r F.e (.If t a b p)) S:=λk Q E h ok er=>
 wpAny_If ((H.uW F t S o).out h er λS1 z y n1 v1 h1=>by
  rw [show y=z from v1]
  induction z with
  |true=>exact H.exs F a S1 n1.2 k Q E h1 (ok.on n1) (er.on n1)|false=>exact H.exs F b S1 n1.2 k Q E h1 (ok.on n1) (er.on n1))
theorem z9(H:gb cx r){n:Str}{q p:Pos}{op:Operator}{x:Expr}(o:Ok F S):jx F (exec (.AugAssign (.Name n q) op x p) F.env) (mZ cx r F.e (.AugAssign (.Name n q) op x p)) S:=λk Q E h ok er=>
 xC o (k:=λv σ'=>(jG F.e.m (r.ev F.e x) λw=>bindM (Om op v w) λu=>bindM (store F.e n u) λm=>aE (cB.next,m)) σ' k) h λ_ v h1 l=>wpAny_AugAssign_Name (l _ _ λold v1=>(H.ev F x S o).out h1 er λS1 a y n1 v2 h2=>
  Ep n1.2 (ao.up v1 n1.1.1) v2 (k:=λu σ'=>(bindM (store F.e n u) λm=>aE (cB.next,m)) σ' k) h2 λS2 u z n2 v3 h3=>
   jy n2.2 v3 (k:=λm σ'=>k (.next,m) σ') h3 λS3 m le o3 h4=>ok S3 .next m .next ((n1.trans n2).1.trans le) o3 .next h4)
theorem Va(H:gb cx r)(hex:∀(F:Fr cx) st S,Ok F S->jx F (exec st F.env) (mZ cx r F.e st) S)(ss:cL)(o:Ok F S):jx F (execs ss F.env) (D7 cx r F.e ss) S:=λk Q E h ok er=>by
 induction ss with
 |nil=>exact ail (ok S .next F.e.m .next (.refl _) o .next h)|cons st rest=>
  refine wpAny_execs_cons ((hex F st S o).go h er λS1 g m fl le o1 v1 h1=>?_);induction v1 with
  |next=>exact H.exs (F.fix m) rest S1 o1 k Q E h1 (ok.to le) (er.to le)|brk=>exact ok S1 .brk m .brk le o1 .brk h1|cont=>exact ok S1 .cont m .cont le o1 .cont h1|ret v x hv=>exact ok S1 _ m _ le o1 (.ret v x hv) h1
theorem iN(σ:aq)(n:Nat):aZ (λx=>af σ n=some (.exc x.C x.fs x.t x.b)) (xg n σ):=by
 unfold xg;induction af σ n with
 |none=>trivial|some o=>induction o with
  |exc C fs t b=>rfl|_=>trivial
theorem Pe{hd:Hd}{n:Nat}:UA hd=some n->hd =.at n:=by
 induction hd with
 |«at» m=>exact λh=>congrArg _ (aap h)|_=>exact bq
theorem dH.at'{W:Wd}{n:Nat}{v:cK}(h:dH W (.at n) v):∃a,af W.ρ n=some a/\v=some (.ref a):=by cases h with|«at» n a h=>exact ⟨a,h,rfl⟩
theorem Cn{p:Pos}(o:Ok F S):jx F (exec (.Raise none none p) F.env) (bindM (aR (UA F.e.hd)) λn=>zw n F.e.m) S:=λk Q E h ok er=>
 aQ h λn e h=>eH h λx q h=>dK h λt h=>by
  have hh:=o.4.1;rw [Pe e] at hh;refine hh.at'.elim λa z=>?_;have q:=(iN ..).get q;rw [arm_exec_Raise];refine aag (adj ?_);show wpAny _ _ (raiseStmt F.env none none) _ _ _;unfold raiseStmt;refine aag (wpAny_handled ?_);rw [z.2];refine (o.exc z.1 q).casesOn λoe vs ow g cls d sz tb cx di=>?_;rw [t] at tb;cases tb with|yes _ T oT ts e Ob ne gT dT G1=>
  refine aag (agk (aag (adT g d e ?_)));rw [if_neg (by simp)]
  exact aag (cX o z.1 q _ λS' n' e=>wpAny_throw (er S' n a F.e.m n'.1 n'.2 (n'.1.1.6 _ _ z.1) (e▸⟨_,_,_,_,q⟩) (e▸h)))
end
section
open Sem (wp)
section
variable{A:Around}{E:b7}{s:Shared}
inductive d9(A:Around)(h:Heap):Prop
 |no (e:A.handled=none)|yes (b:Addr) (ob:Obj) (vs:ig) (e:A.handled=some (.ref b)) (g:h.get? b=some ob) (d:ob.data =.fields vs) (n:vs[2]?=some .none)
theorem vd:entryFor table "proto.unchain" = some Builtin.«proto.unchain» :=entryFor_of_tree (by kernel_rfl)
theorem qE{α:Type}{a:Addr}{oe:Obj}{vs:ig}{Q:α->Shared->Prop}(hc:d9 A s.heap)(he:s.heap.get? a=some oe)(hd:oe.data =.fields vs)(hz:2<vs.size)(hne:A.handled≠some (.ref a))
  (h0:A.handled=none->E (.ref a) s) (h1:A.handled≠none->∀v,E (.ref a) { s with heap:=s.heap.update a (Obj.mapFields (·.setIfInBounds 2 v)) }):wpAny Md A (raiseNew (.ref a):Sem α) Q E s:=by
 refine hc.casesOn (λhc=>wpAny_raiseNew_none hc (h0 hc)) λb ob vb hc hb hbd hbn=>?_;unfold raiseNew;refine aag (wpAny_handled ?_);rw [hc];dsimp only;rw [if_pos (show (Value.ref b != Value.ref a)=true from bne_iff_ne.mpr λz=>hne (hc.trans (congrArg some z)))]
 refine aag (acE (wpAny_runValue (codeAny_builtin vd ?_)));unfold Builtin.«proto.unchain»;refine aag (adT hb hbd hbn ?_);rw [if_pos (by decide)]
 refine aaq ?_;unfold updateField;refine aag (aag (aip he ?_));rw [hd];dsimp only;rw [if_pos hz];exact wpAny_update he (wpAny_throw (h1 (λz=>bq (z.symm.trans hc)) _))
theorem d9.ne{h:Heap}{a:Addr}(hc:d9 A h)(n:h.objs.size<=a):A.handled≠some (.ref a):=λz=>hc.casesOn (λe=>bq (e.symm.trans z)) λb ob vs e g _ _=>by
 rw [e] at z;cases z;exact absurd (ado g) (afJ.mpr n)
theorem d9.keeps{A A':Around}{h h':Heap}(hA:A'.handled=A.handled)(hc:d9 A h)(k:∀b ob,A.handled=some (.ref b)->h.get? b=some ob->h'.get? b=some ob):d9 A' h':=by
 exact hc.casesOn (λz=>.no (hA.trans z)) λb ob vs z h1 h2 h3=>.yes b ob vs (hA.trans z) (k b ob z h1) h2 h3
theorem m7{α:Type}{Q:α->Shared->Prop}(hc:d9 A s.heap)
  (h:∀e h',(∀b o,s.heap.get? b=some o->h'.get? b=some o)->s.heap.objs.size<=h'.objs.size->Shared.TypeIs { s with heap:=h' } e "StopIteration" ->E e { s with heap:=h' }) :
  wpAny Md A (newExc (.type "StopIteration") [] >>= raiseNew:Sem α) Q E s:=by
 refine aag ?_;simp only [newExc,newTuple];refine aag (aeO ?_ (by size_fits))
 refine aag (m:=firstArgMember _ _) (wpAny_of_eq (a:=Value.none) (by first|rfl|(simp only [firstArgMember];rfl)) ?_)
 refine aeO ?_ (by size_fits)
 have kp:∀(o1 o2:Obj) b o,s.heap.get? b=some o->((s.heap.push o1).push o2).get? b=some o:=λo1 o2 b o e=>aas _ (aas _ e);have hne:A.handled≠some (.ref (s.heap.objs.size+1)):=hc.ne (adq _);have hsz:∀o:Obj,(s.heap.push o).objs.size=s.heap.objs.size+1:=λo=>acR ..;have hs2:∀o1 o2:Obj,s.heap.objs.size<=((s.heap.push o1).push o2).objs.size:=λo1 o2=>by rw [acR,acR];exact aco (adq _) (adq _)
 refine qE (hc.keeps rfl λb ob _ e=>kp _ _ b ob e) (abX _ rfl) rfl (by simp;lia) (by rw [hsz];exact hne) (λ_=>h _ _ (kp _ _) (hs2 _ _) ⟨_,abX _ rfl,rfl⟩) λ_ v=>?_
 refine h _ _ (λb o e=>?_) (by rw [aes];exact hs2 _ _) ⟨_,adJ _ (abX _ rfl) rfl,rfl⟩
 exact (adb _ _ (by rw [hsz];exact agt (agL (ado e)))).trans (kp _ _ b o e)
theorem vf{it l:Addr}{i:Nat}{items}{Q:cK->Shared->Prop}(hc:d9 A s.heap)
  (hit:s.heap.IsListIter it l i) (hl:s.heap.IsList l items) (hx:items[i]?=none)
  (hQ:∀h',Heap.ExtBut it s.heap h'->s.heap.objs.size<=h'.objs.size->Q none { s with heap:=h' }) (hn:A.handled≠some (.ref it)):wpAny Md A (pyNext (.ref it)) Q E s:=by
 refine bB λgg=>?_;obtain ⟨o,ho,hc',hd⟩:=id hit;obtain ⟨ol,hol,_,nl,hdl⟩:=hl;refine gg ?_;unfold pyNext;refine aag (ahQ (aeg (name:=Str.ofString "__next__") hit.typeIs slot_listiter_next
  (afX slot_listiter_next hit.typeIs entry_listiter_next ?_ (args_listiter_next _))))
 show wpAny _ _ (field (.ref it) 0 >>= _) _ _ s;refine aag (adT ho hd (x:=.ref l) rfl ?_);show wpAny _ _ (if (Value.ref l==Value.none)=true then _ else _) _ _ s;rw [if_neg (show ¬((Value.ref l==Value.none)=true) from aea)]
 show wpAny _ _ (field (.ref it) 1 >>= _) _ _ s;refine aag (adT ho hd (x:=.int i 0) rfl ?_);show wpAny _ _ (seqItems? (.ref l) >>= _) _ _ s;refine aag (aht hol hdl ?_);simp only [Int.toNat_natCast,hx];refine aag (agk (aag (afV ho hd (by simp) ?_)))
 show wpAny _ _ (newExc (.type "StopIteration") [] >>= raiseNew) _ _ _;refine m7 (hc.keeps (A:=A) rfl λb ob z e=>(adb _ _ (by rintro rfl;exact hn z)).trans e) λx h' k hz hT=>?_
 refine aag (agZ (T:="StopIteration") (b:=true) hT aiu ?_);exact aaq (hQ _ (λb ob hb e=>k _ _ ((adb _ _ (Ne.symm hb)).trans e)) (by rw [aes] at hz;exact hz))
theorem next_tuple_end{it t:Addr}{i:Nat}{items}{Q:cK->Shared->Prop}(hc:d9 A s.heap)
  (hit:s.heap.IsTupleIter it t i) (ht:s.heap.IsTuple t items) (hx:items[i]?=none)
  (hQ:∀h',Heap.ExtBut it s.heap h'->s.heap.objs.size<=h'.objs.size->Q none { s with heap:=h' }) (hn:A.handled≠some (.ref it)):wpAny Md A (pyNext (.ref it)) Q E s:=by
 obtain ⟨o,ho,hc',hd⟩:=id hit;obtain ⟨ol,hol,_,nl,hdl⟩:=ht;unfold pyNext;refine aag (ahQ (aeg (name:=Str.ofString "__next__") hit.typeIs ahj
  (afX ahj hit.typeIs F.entry_tuple_iterator_next ?_ (F.args_tuple_iterator_next_1 _))))
 show wpAny _ _ (field (.ref it) 0 >>= _) _ _ s;refine aag (adT ho hd (x:=.ref t) rfl ?_);show wpAny _ _ (if (Value.ref t==Value.none)=true then _ else _) _ _ s;rw [if_neg (show ¬((Value.ref t==Value.none)=true) from aea)]
 show wpAny _ _ (field (.ref it) 1 >>= _) _ _ s;refine aag (adT ho hd (x:=.int i 0) rfl ?_);show wpAny _ _ (seqItems? (.ref t) >>= _) _ _ s;refine aag (aht hol hdl ?_);simp only [Int.toNat_natCast,hx];refine aag (agk (aag (afV ho hd (by simp) ?_)))
 show wpAny _ _ (newExc (.type "StopIteration") [] >>= raiseNew) _ _ _;refine m7 (hc.keeps (A:=A) rfl λb ob z e=>(adb _ _ (by rintro rfl;exact hn z)).trans e) λx h' k hz hT=>?_
 refine aag (agZ (T:="StopIteration") (b:=true) hT aiu ?_);exact aaq (hQ _ (λb ob hb e=>k _ _ ((adb _ _ (Ne.symm hb)).trans e)) (by rw [aes] at hz;exact hz))
def tB(h:Heap)(it a:Addr)(i:Nat)(items:ig):Prop:=(h.IsListIter it a i/\h.IsList a items)∨(h.IsTupleIter it a i/\h.IsTuple a items)
def Aa(h:Heap)(a:Addr)(items:ig):Prop:=h.IsList a items∨h.IsTuple a items
theorem Aa.lt{h:Heap}{a:Addr}{items:ig}(x:Aa h a items):a<h.objs.size:=by rcases x with ⟨o,ho,_⟩|⟨o,ho,_⟩<;>exact ado ho
theorem Kq{a:Addr}{items:ig}{Q:b7}(h:Aa s.heap a items)
  (hQ:∀o,tB (s.heap.push o) s.heap.objs.size a 0 items->Q (.ref s.heap.objs.size) { s with heap:=s.heap.push o }):wpAny Md A (pyIter (.ref a)) Q E s:=by
 rcases h with h|h
 ·exact ahD h (hQ _ (.inl ⟨⟨_,abX _ rfl,rfl,rfl⟩,h.push _⟩))
 ·exact wpAny_pyIter_tuple h (hQ _ (.inr ⟨⟨_,abX _ rfl,rfl,rfl⟩,h.push _⟩))
theorem Kr{it a:Addr}{i:Nat}{items:ig}{x:Value}{Q:cK->Shared->Prop}(h:tB s.heap it a i items)(hne:a≠it)(hx:items[i]?=some x)
  (hQ:∀h',tB h' it a (i+1) items->Heap.SameBut it s.heap h'->Q (some x) { s with heap:=h' }):wpAny Md A (pyNext (.ref it)) Q E s:=by
 rcases h with ⟨h,hl⟩|⟨h,hl⟩
 ·exact agF h hl hx λh' k sb=>hQ h' (.inl ⟨k,hl.extBut sb.extBut hne⟩) sb
 ·exact ahS h hl hx λh' k sb=>hQ h' (.inr ⟨k,hl.extBut sb.extBut hne⟩) sb
theorem EC{it a:Addr}{i:Nat}{items:ig}{Q:cK->Shared->Prop}(hc:d9 A s.heap)(hn:A.handled≠some (.ref it))(h:tB s.heap it a i items)(hx:items[i]?=none)
  (hQ:∀h',Heap.ExtBut it s.heap h'->s.heap.objs.size<=h'.objs.size->Q none { s with heap:=h' }):wpAny Md A (pyNext (.ref it)) Q E s:=by
 rcases h with ⟨h,hl⟩|⟨h,hl⟩
 ·exact vf hc h hl hx hQ hn
 ·exact next_tuple_end hc h hl hx hQ hn
theorem Ab{it a:Addr}{items:ig}(hne:a≠it):∀(n i:Nat)(s:Shared)(Q:bU->Shared->Prop),tB s.heap it a i items->i+n<=items.size->
  (∀h',tB h' it a (i+n) items->Heap.SameBut it s.heap h'->Q ((items.toList.drop i).take n) { s with heap:=h' })->wpAny Md A (draw (.ref it) n) Q E s
 |0,i,s,Q,hit,_,hQ=>by
  show wpAny _ _ (pure []) Q E s;exact aaq (by simpa using hQ s.heap hit (Heap.SameBut.refl ..))
 |n+1,i,s,Q,hit,hle,hQ=>by
  have hlt:i<items.size:=by lia
  show wpAny _ _ (pyNext (.ref it) >>= _) Q E s;refine aag (Kr hit hne (x:=items[i]) (by simp [hlt]) λh₁ Co hs₁=>?_)
  refine aag (acE (Ab hne n (i+1) _ _ Co (by lia) λh₂ Vb hs₂=>aaq ?_))
  have hd:items.toList.drop i=items[i]::items.toList.drop (i+1):=by simp [List.drop_eq_getElem_cons,hlt]
  have:=hQ h₂ (by rw [show i+(n+1)=i+1+n by lia];exact Vb) (hs₁.trans hs₂)
  rw [hd,List.take_succ_cons] at this;exact this
theorem Cp{a:Addr}{items:ig}{Q:bU->Shared->Prop}(hc:d9 A s.heap)(h:Aa s.heap a items)
  (hQ:∀h',(∀b o,s.heap.get? b=some o->h'.get? b=some o)->s.heap.objs.size<=h'.objs.size->Q items.toList { s with heap:=h' }):wpAny Md A (unpackItems (.ref a) items.size none) Q E s:=by
 have hlt:a≠s.heap.objs.size:=aee h.lt;have hni:∀{Q':Bool->Shared->Prop},Q' false s->wpAny Md A (notIterableAtAll (.ref a)) Q' E s:=by
  intro Q' q;unfold notIterableAtAll;rcases h with h|h
  ·refine aag (wpAny_specialOf h.typeIs slot_list_iter.lookup ?_)
   exact aaq q
  ·refine aag (wpAny_specialOf h.typeIs F.slot_tuple_iter.lookup ?_)
   exact aaq q
 unfold unpackItems;refine aag (hni ?_);simp only [afb,if_false];refine aag (acE (Kq h λob hit=>?_));refine aag (acE (Ab hlt items.size 0 _ _ hit (by lia) λh₁ Co hs₁=>?_))
 have hall:List.take items.size (List.drop 0 items.toList)=items.toList:=by
  rw [List.drop_zero];exact List.take_of_length_le (by simp)
 rw [hall];rw [if_neg (by simp)]
 have ne:∀b o,s.heap.get? b=some o->b≠s.heap.objs.size:=λb o e=>aee (ado e);have k1:∀b o,s.heap.get? b=some o->h₁.get? b=some o:=λb o e=>(hs₁.2 b (ne b o e)).trans (aas _ e);refine aag (acE (EC (hc.keeps rfl λb ob _ e=>k1 b ob e) (hc.ne (abv _)) Co (by simp) λh₂ Ez aam=>?_))
 ·simp only [ahm,afb,if_false]
  refine aaq (hQ h₂ (λb o e=>Ez b o (ne b o e) (k1 b o e)) ?_);have e1:=hs₁.1;rw [acR] at e1;have e2:h₁.objs.size<=h₂.objs.size:=aam;lia
end
end
section
variable{cx:Cx Prop}{F:Fr cx}{S S':Pt}{k:cB×Lo->aq->Prop}{Q:Flow->Shared->Prop}{E:b7}{r:dZ Prop}
theorem Ac{h:Nat}{σ:aq}{u:Unit}:pL (.at h) σ=some u->∃x,xg h σ=some x/\x.b=true:=by
 dsimp only [pL];induction xg h σ with
 |none=>exact bq|some x=>exact λz=>⟨x,rfl,xB z⟩
theorem dH.no'{W:Wd}{v:cK}(h:dH W .no v):v=none:=by cases h;rfl
theorem vV(o:Ok F S){u:Unit}(h:pL F.e.hd S.σ=some u):d9 F.A S.s.heap:=by
 have hh:=o.4.1;revert h hh;induction F.e.hd with
 |no=>exact λ_ hh=>.no hh.no'|other=>exact bq|«at» n=>exact λh hh=>hh.at'.elim λa z=>(Ac h).elim λx q=>(o.exc z.1 ((iN ..).get q.1)).casesOn λoe vs ow g cls d sz tb cx di=>.yes a oe vs z.2 g d (cx q.2)
theorem oq(o:Ok F S){β:Type}{g:Unit->M Prop β}{k:β->aq->Prop}(h:bindM (kO F.e) g S.σ k){G:Prop}(c:d9 F.A S.s.heap->g () S.σ k->G):G:=eH h λ_ q h=>c (vV o q) h
theorem Ks(o:Ok F S){n:Nat}{a C:Addr}{fs:Lo}{t b:Bool}(hn:af S.W.ρ n=some a)(hi:af S.σ n=some (.exc C fs t b))(ho:Jx F.e.hd n=true){u:Unit}(hc:pL F.e.hd S.σ=some u):F.A.handled≠some (.ref a):=λz=>by
 have hh:=o.4.1;rw [z] at hh;revert ho hc hh;cases F.e.hd with
 |no=>exact λ_ _ hh=>nomatch hh
 |other=>exact λ_ hc=>bq hc|«at» m=>
  exact λho hc hh=>hh.at'.elim λb y=>(Ac hc).elim λx q=>by
   have y2:=y.2;cases y2;exact (o.exc y.1 ((iN ..).get q.1)).casesOn λ_ _ o1 _ _ _ _ _ _ _=>(o.exc hn hi).casesOn λ_ _ o2 _ _ _ _ _ _ _=>by
    have:=aH.slot.inj (aap (o1.symm.trans o2));rw [this] at ho;exact bM ((nZ ho).symm.trans (agf n))
theorem Ok.Pf(o:Ok F S){n:Nat}{a C:Addr}{fs:Lo}{t b:Bool}(hn:af S.W.ρ n=some a)(hi:af S.σ n=some (.exc C fs t b))(v:Value) :
  bH F S (S.put S.W.own n (.exc C fs t false) (S.s.heap.update a (Obj.mapFields (·.setIfInBounds 2 v))) S.s.toks):=
 (o.exc hn hi).casesOn λoe vs ow g cls d sz tb cx di=>by
  have ne:∀b',b'≠a->(S.s.heap.update a (Obj.mapFields (·.setIfInBounds 2 v))).get? b'=S.s.heap.get? b':=λb' q=>adb _ _ (Ne.symm q)
  have hd:=aeV d (·.setIfInBounds 2 v)
  refine o.u6 hi hn ow (Heap.SameBut.update ..) ⟨_,_,ow,adJ _ g (aew hd),(ahC _ _).trans cls,hd,by rw [aeH];exact sz,?_,bM,?_⟩
  ·induction tb with
   |no e=>exact .no ((jn _ (by decide)).trans e)|yes t T oT ts e Ob neT gT dT G1=>exact .yes t T oT ts ((jn _ (by decide)).trans e) Ob neT ((ne T neT).trans gT) dT G1
  ·rw [ly d]
   exact di.move λd' ne' U5 nt=>⟨by rw [jn _ (by decide)];exact nt,λc=>c.heap λo e=>(ne d' ne').trans e⟩
open PySem.W in
inductive Raisable(A:Around)(Q:Flow->Shared->Prop)(E:b7):b7
 |mk (s:Shared) (K:Frag) (C a:Addr) (oe:Obj) (vs:ig) (X:K.In s.heap) (hE:zG K C) (g:s.heap.get? a=some oe) (cls:oe.cls =.ref C) (d:oe.data =.fields vs) (fin:wpAny Md A (do setFlight (.ref a) none;raiseNew (.ref a):Sem Flow) Q E s):Raisable A Q E (.ref a) s
open PySem.W in
theorem G5{A:Around}{s:Shared}{env:Env}{x:Sem Value}(hx:wpAny Md A x (Raisable A Q E) E s):wpAny Md A (raiseStmt env (some x) none) Q E s:=by
 unfold raiseStmt;refine aag (adX hx (λy s h=>?_) λ_ _ h=>h);cases h with|mk _ K C a oe vs X hE g cls d fin=>
 have L0:Looks Md s.heap (typeOf (.ref a)) (.ref C):=cls▸(Looks.ld g).andThen .now;have L1:=looks_mroIn (M:=Md) X hE.3;have L2:=looks_typeIn (M:=Md) X hE.2;refine aag (aaq (aag (acE ?_)));unfold excFromValue isExcClass isType;refine bB λgg=>?_;obtain ⟨oc,od,oda,osl⟩:=oe;refine gg ?_;dsimp only at cls d;subst cls d;refine aag (aag (aag (afU g (aaq ?_))));rw [if_neg aea];refine aaq ?_;rw [if_neg aea];refine aag (aag (L0.here (L1.here ?_)));rw [if_pos rfl];refine aaq ?_;refine aag (aag (afU g (aaq ?_)));rw [if_neg aea];unfold raisedInstance;refine aag (aag (L0.here (aag (L2.here ?_))));rw [if_pos (by decide)]
 exact aaq fin
theorem xJ{C:Addr}:cM cx C=true->∃c,aD C cx.top.cls=some c/\c.isExc=true:=by
 unfold cM;induction aD C cx.top.cls with
 |none=>exact bM|some c=>exact λh=>⟨c,rfl,h⟩
theorem dH.aan{W:Wd}{d:Hd}(h:dH W d none):d =.no:=by cases h;rfl
theorem G6{d:Hd}{x:zq}{W:Wd}{v:cK}{u:Unit}{σ:aq}(h:dH W d v)(hc:pL d σ=some u)(hv:v≠none):(raiseO d x).b=false:=by
 induction h with
 |no=>exact absurd rfl hv|«at» =>rfl|other=>exact bq hc
theorem ou{v:MV}{n:Nat}:refOf v=some n->v =.ref n:=by
 induction v using MV.casesOn with
 |ref m=>exact λh=>congrArg _ (aap h)|_=>exact bq
theorem Ku(H:gb cx r){x:Expr}{p:Pos}(o:Ok F S):jx F (exec (.Raise (some x) none p) F.env) (D6 cx r F.e x) S:=λk Q E h ok er=>by
 rw [arm_exec_Raise];refine aag (adj ?_);show wpAny _ _ (raiseStmt F.env (some (do let v ← eval x F.env;standAt p;pure v)) none) _ _ _
 refine G5 (aag ((H.ev F x S o).out h er λS1 v y n1 v1 h1=>aag (adj (aaq ?_))));refine bB λgg=>aQ h1 λn e1 h2=>eH h2 λX q h2=>dK h2 λt h2=>eH h2 λu hc h2=>gg <|?_
 rw [ou e1] at v1;refine iw.casesOn v1 λa hn=>(xJ (bx t).1).elim λc z=>?_;have hi:=(iN ..).get q;refine (n1.2.exc hn hi).casesOn λoe vs ow g cls d sz tb dN di=>?_;have fin:wpAny Md F.A (do setFlight (.ref a) none;raiseNew (.ref a):Sem Flow) Q E S1.s:=by
  refine aag (cX n1.2 hn hi _ λS2 n2 e2=>?_);have hn2:=n2.1.1.6 _ _ hn;rw [← e2] at hi hc h2;have hh:=n2.2.4.1;refine (n2.2.exc hn2 hi).casesOn λoe vs ow g cls d sz tb dN di=>qE (vV n2.2 hc) g d (by lia) (Ks n2.2 hn2 hi (bx t).2 hc) (λz=>?_) λz v=>?_
  ·rw [z] at hh
   rw [show F.e.hd =.no from hh.aan] at h2
   exact er S2 n a F.e.m (n1.trans n2).1 n2.2 hn2 ⟨_,_,_,_,hi⟩ (by have h3:=h2;rw [show bindM (cU n (MO.exc X.C X.fs X.t (raiseO Hd.no X).b)) (λ_=>(aE (cB.err n,F.e.m):M Prop _)) S2.σ k=k (.err n,F.e.m) (setAt S2.σ n (.exc X.C X.fs X.t X.b)) from rfl,dQ hi] at h3;exact h3)
  ·have n3:=n2.2.Pf hn2 hi v
   rw [G6 hh hc z] at h2;exact er _ n a F.e.m ((n1.trans n2).trans n3).1 n3.2 hn2 ⟨_,_,_,_,av _ hi⟩ h2
 exact .mk _ _ _ a oe vs n1.2.cH (n1.2.3.6 _ c z.1 z.2) g cls d fin
end
section
variable{cx:Cx Prop}{F:Fr cx}{S S':Pt}{k:cB×Lo->aq->Prop}{E:b7}{r:dZ Prop}{v:MV}{y:Value}
def AsR(F:Fr cx)(t:Sem Unit)(m:M Prop (cB×Lo))(S:Pt):Prop:=∀k Q E,m S.σ k->Zg F (λm σ=>k (.next,m) σ) S Q->nE F k S E->wpAny Md F.A t Q E S.s
theorem qF(H:fJ cx r)(o:Ok F S){t:Expr}(hv:ao S.W v y):AsR F (assign t F.env y) (kP cx r F.e t v) S:=λk Q E h ok er=>by
 cases t with
 |Name n p=>
  rw [arm_assign_Name];exact aag (adj (ahu (jy o hv (k:=λm σ'=>k (.next,m) σ') h ok)))
 |Attribute ob n p=>
  rw [arm_assign_Attribute];exact aag (acE ((H.ev F ob S o).out h er λS1 a x n1 v1 h1=>aag (adj (aag (acE (s9 n1.2 v1 (ao.up hv n1.1.1) (k:=λ_ σ'=>k (.next,F.e.m) σ') h1 λS2 n2 h2=>
   wpAny_release (ok S2 F.e.m (n1.trans n2).1 n2.2 h2)))))))
 |Subscript ob i p=>
  refine dK h λ_ h=>?_;rw [arm_assign_Subscript];exact aag (acE ((H.ev F ob S o).out h er λS1 a x n1 v1 h1=>aag (acE ((H.ev F i S1 n1.2).out h1 (er.on n1) λS2 b j n2 v2 h2=>aag (adj (aag (acE
   (z7 n2.2 (ao.up v1 n2.1.1) v2 (ao.up hv (n1.trans n2).1.1) (k:=λ_ σ'=>k (.next,F.e.m) σ') h2 λS3 n3 h3=>wpAny_release (ok S3 F.e.m (n1.trans (n2.trans n3)).1 n3.2 h3)))))))))
 |_=>exact h.elim
theorem qH{t:Expr}{ts:List Expr}{env:Env}:fV t=true->assignEach (t::ts) env=(false,assign t env)::assignEach ts env:=by
 cases t with
 |Starred=>exact bM|_=>exact λ_=>rfl
inductive Each(ts:List Expr)(env:Env):Prop where
 |mk (map:(assignEach ts env).map (·.2)=ts.map λt=>assign t env) (idx:(assignEach ts env).findIdx? (·.1)=none) (len:(assignEach ts env).length=ts.length)
theorem vg{env:Env}{ts:List Expr}:fj ts=true->Each ts env:=by
 induction ts with
 |nil=>exact λ_=>⟨rfl,rfl,rfl⟩|cons t ts ih=>
  intro h;have i:=ih (bx h).2;have e:=qH (ts:=ts) (env:=env) (bx h).1;exact ⟨by rw [e,ahT,i.1];rfl,by rw [e,List.findIdx?_cons];simp [i.2],by rw [e,aha,i.3];rfl⟩
theorem vh(H:fJ cx r)(ts:List Expr):∀(l:aY)(xs:bU)(F:Fr cx)(S:Pt),Ok F S->ah S.W l xs->AsR F (assignInOrder (ts.map λt=>assign t F.env) xs) (mY cx r F.e ts l) S:=by
 induction ts with
 |nil=>exact λl xs F S o hl k Q E h ok er=>aQ h λ_ _ h=>aaq (ok S F.e.m (.refl _) o h)|cons t ts ih=>
  intro l xs F S o hl k Q E h ok er;induction l with
  |nil=>exact h.elim|cons v l=>
   obtain ⟨y,xs,rfl,hv,hl⟩:=hl;show wpAny _ _ (do holding xs (assign t F.env y);assignInOrder (ts.map λt=>assign t F.env) xs) _ _ _
   exact aag (acE (qF H o hv _ _ _ h (λS1 m le o1 h1=>ih l xs (F.fix m) S1 o1 (hl.up le.1) k _ _ h1 (λS2 m' ir=>ok S2 m' (le.trans ir)) (er.to le)) er))
inductive Pg(W:Wd)(h:Heap)(l:aY):Value->Prop|mk (a:Addr) (xs:bU) (s:Aa h a xs.toArray) (r:ah W l xs):Pg W h l (.ref a)
theorem u7.d{W:Wd}{h:Heap}{l:aY}{b:Bool}(x:u7 W h l b y):Pg W h l y:=by
 induction x with
 |tup a xs e r=>exact ⟨a,xs,.inr ⟨_,e,rfl,0,rfl⟩,r⟩|lst a xs n e r=>exact ⟨a,xs,.inl ⟨_,e,rfl,n,rfl⟩,r⟩
theorem Ad(o:Ok F S)(hv:ao S.W v y){β:Type}{g:aY->M Prop β}{k:β->aq->Prop}(h:bindM (itemsOf v) g S.σ k){G:Prop}(c:∀l,Pg S.W S.s.heap l y->g l S.σ k->G):G:=
 eH (f:=λσ=>jb σ v) (g:=λl:aY×Bool=>(aE l.1:M Prop aY)) (k:=λl σ'=>g l σ' k) h λp q h=>c p.1 (UR o hv q).d h
theorem vW(o:Ok F S)(hc:d9 F.A S.s.heap){l:aY}(d:Pg S.W S.s.heap l y){n:Nat}(hn:n=len l){Q:bU->Shared->Prop}(q:∀S' xs,bH F S S'->S'.σ=S.σ->ah S'.W l xs->Q xs S'.s):wpAny Md F.A (unpackItems y n none) Q E S.s:=by
 induction d with|mk a xs s r=>
 rw [hn,show len l=xs.toArray.size from r.len]
 exact Cp hc s λh' k1 sz=>q (S.at h' S.s.toks) xs (o.grown k1 sz S.s.toks) rfl r
theorem tC(H:fJ cx r)(o:Ok F S){ts:List Expr}{n:Nat}{p:Pos}(hv:ao S.W v y):AsR F (assign (.Tuple ts n p) F.env y) (gy cx r F.e (.Tuple ts n p) v) S:=λk Q E h ok er=>
 oq o h λhc h=>Ad o hv h λl d h=>dK h λz h=>by
  have i:=vg (env:=F.env) (bx z).1;rw [arm_assign_Tuple];refine aag (adj ?_);unfold unpack;rw [i.2,i.3,i.1];exact aag (acE (vW o hc d ((bl ts).symm.trans (aax (bx z).2)) λS1 xs n1 e hl=>vh H ts l xs F S1 n1.2 hl k _ _ (e▸h) (λS2 m le=>ok S2 m (n1.1.trans le)) (er.on n1)))
theorem tD(H:fJ cx r)(o:Ok F S){t:Expr}(hv:ao S.W v y):AsR F (assign t F.env y) (gy cx r F.e t v) S:=by
 cases t with
 |Tuple ts n p=>exact tC H o hv|_=>exact qF H o hv
theorem mG.block{W:Wd}{e:En}{env:Env}{h:Heap}(E:mG W e env h):env.blockKind =.function:=by
 unfold Env.blockKind;rw [E.1,E.2];rfl
theorem Kv{c1 c2 c3 c4 c5:Bool}{names:List Str}{q:Option (List Str)}{u:Sem (Option (List Str))}:(if c1=true then some none else if c2=true then some none else if c3=true then some none else if c4=true then some none else if c5=true then none else some (some names))=some q->
  (if c1=true then pure none else if c2=true then pure none else if c3=true then pure none else if c4=true then pure none else if c5=true then u else pure (some names))=(pure q:Sem (Option (List Str))):=by
 cases c1<;>cases c2<;>cases c3<;>cases c4<;>cases c5<;>first|exact bq|exact λh=>congrArg pure (aap h)
theorem Ae{W:Wd}{e:En}{env:Env}{h:Heap}(E:mG W e env h){ts vs:List Expr}{k1 k2:Nat}{p1 p2:Pos}{q:Option (List Str)}(hq:Jv e.sc ts vs=some q):swappedStores [.Tuple ts k1 p1] (.Tuple vs k2 p2) env=pure q:=by
 unfold swappedStores;dsimp only;have h1:∀f:Expr->Bool,(∀x,f x=!fV x)->vs.any f=vs.any λx=>!fV x:=λf h=>by rw [funext h]
 have h2:∀(line:Nat)(f:Expr->Option Str),(∀x,f x=nameAt e.sc line x)->ts.filterMap f=ts.filterMap (nameAt e.sc line):=λline f h=>by rw [show f=nameAt e.sc line from funext h]
 have hb:(env.blockKind !=.function)=false:=by rw [E.block];rfl
 rw [hb,Bool.or_false,h1 _ (by intro x;cases x<;>rfl),h2 ((ts.head?.map (·.pos.line)).getD 0) _ (by
  intro x;cases x with
  |Name n p=>show (if (env.kindOf _==some .local&&_)=true then _ else _)=(if _ then _ else _);rw [E.kindOf]
  |_=>rfl)]
 exact Kv hq
noncomputable def bY(W:Wd):Lo->iF->Prop
 | []=>λx=>x=[]|p::r=>λx=>∃y l,x=(p.1,y)::l/\ao W p.2 y/\bY W r l
theorem bY.low{W W':Wd}{l:Lo}:∀{xs:iF},bY W l xs->W.Gw W'->bY W' l xs:=by
 induction l with
 |nil=>exact λq _=>q|cons p r ih=>exact λq h=>q.elim λy q=>q.elim λl q=>⟨y,l,q.1,ao.up' h _ _ q.2.1,ih q.2.2 h⟩
theorem bY.up{W W':Wd}{l:Lo}{xs:iF}(h:bY W l xs)(k:W.Le W'):bY W' l xs:=h.low k.low
theorem bY.zip{W:Wd}{ns:List Str}:∀{l:aY}{xs:bU},ah W l xs->bY W (nL ns l) (nL ns xs):=by
 induction ns with
 |nil=>exact λ_=>rfl|cons n ns ih=>
  intro l xs h;induction l with
  |nil=>rw [show xs=[] from h];rfl|cons v l=>obtain ⟨y,xs,rfl,hv,hl⟩:=h;exact ⟨y,_,rfl,hv,ih hl⟩
theorem bY.rev{W:Wd}{l:Lo}:∀{xs:iF}{a:Lo}{a':iF},bY W l xs->bY W a a'->bY W (aT.rev l a) (aT.rev xs a'):=by
 induction l with
 |nil=>intro xs a a' h1 h2;rw [show xs=[] from h1];exact h2|cons p l ih=>intro xs a a' h1 h2;obtain ⟨y,xs,rfl,hv,hl⟩:=h1;exact ih (xs:=xs) (a:=p::a) (a':=(p.1,y)::a') hl ⟨y,a',rfl,hv,h2⟩
theorem xK{A':Around}{k:Lo->aq->Prop}(bs:Lo):∀(binds:iF)(F:Fr cx)(S:Pt),Ok F S->bY S.W bs binds->bindAll F.e.sc F.e.cells bs F.e.m S.σ k->∀{Q:Unit->Shared->Prop}{E:b7},Zg F k S Q->
  wpAny Md A' (assignInOrder (binds.map λb=>bindName F.env b.1) (binds.map (·.2))) Q E S.s:=by
 induction bs with
 |nil=>intro binds F S o hb h Q E q;rw [show binds=[] from hb];exact aaq (q S F.e.m (.refl _) o h)|cons p bs ih=>
  intro binds F S o hb h Q E q;refine bB λgg=>?_;obtain ⟨y,l,rfl,hv,hl⟩:=hb;refine gg ?_;show wpAny _ _ (do holding (l.map (·.2)) (bindName F.env p.1 y);assignInOrder (l.map λb=>bindName F.env b.1) (l.map (·.2))) _ _ _
  exact aag (acE (ahu (jy o hv (k:=λm' σ'=>bindAll F.e.sc F.e.cells bs m' σ' k) h λS1 m le o1 h1=>ih l (F.fix m) S1 o1 (hl.up le.1) h1 λS2 m2 ir=>q S2 m2 (le.trans ir))))
theorem Kw{α:Type}(ns:List Str):∀{l:List α},ns.length=l.length->(nL ns l).map (·.1)=ns/\(nL ns l).map (·.2)=l:=by
 induction ns with
 |nil=>intro l h;induction l with|nil=>exact ⟨rfl,rfl⟩|cons _ _=>cases h
 |cons n ns ih=>intro l h;induction l with|nil=>cases h|cons x l=>have:=ih (Nat.succ.inj h);exact ⟨congrArg (n :: ·) this.1,congrArg (x :: ·) this.2⟩
theorem Cq(names:List Str)(xs:bU)(env:Env)(h:names.length=xs.length) :
  assignInOrder (names.reverse.map λn=>bindName env n) xs.reverse=assignInOrder ((rev (nL names xs) []).map λb=>bindName env b.1) ((rev (nL names xs) []).map (·.2)):=by
 have z:=Kw names h;rw [rev_eq,adO,aie,aie,aie,z.2];conv=>lhs;rw [← z.1]
 rw [List.map_map];rfl
inductive Ky(A:Around)(env:Env)(t x:Expr)(Q:Flow->Shared->Prop)(E:b7)(y:Value)(s:Shared):Prop
 |one (hs:swappedStores [t] x env=pure none) (hp:fV t=true) (h:wpAny Md A (assign t env y) (λ_ s=>Q .next s) E s):Ky A env t x Q E y s|swap (names:List Str) (hs:swappedStores [t] x env=pure (some names)) (h:wpAny Md A (assignStores env y (some names) []) Q E s):Ky A env t x Q E y s
theorem Vc{A:Around}{env:Env}{t x:Expr}{p:Pos}{Q:Flow->Shared->Prop}{s:Shared}(hx:xm x=true)(h:wpAny Md A (eval x env) (Ky A env t x Q E) E s):wpAny Md A (exec (.Assign [t] x p) env) Q E s:=by
 rw [arm_exec_Assign];refine aag (adj ?_);rw [show swapsWithSole [t] x p.line env=pure false from om hx]
 refine aag (aaq ?_);rw [if_neg (by decide)]
 refine aag (adX h (λy s h=>?_) λ_ _ h=>h);induction h with
 |one hs hp h=>
  rw [hs,show (assignEach [t] env).map (·.2)=[λv=>assign t env v] from by rw [qH hp];rfl]
  refine aag (aaq ?_);show wpAny _ _ (do assignAll y [λv=>assign t env v];pure Flow.next) _ _ _
  exact aag (adX h (λ_ _ h=>aaq h) λ_ _ h=>h)
 |swap names hs h=>
  rw [hs];exact aag (aaq h)
theorem G7(H:fJ cx r)(o:Ok F S){t x:Expr}(hs:swappedStores [t] x F.env=pure none)(hp:fV t=true)(hv:ao S.W v y){Q:Flow->Shared->Prop}(h:gy cx r F.e t v S.σ k)(ok:lz F k S Q)(er:nE F k S E):Ky F.A F.env t x Q E y S.s:=
 .one hs hp (tD H o hv k _ _ h (λS1 m le o1 h1=>ok S1 .next m .next le o1 .next h1) er)
theorem Kz(o:Ok F S){ts vs:List Expr}{k1 k2:Nat}{p1 p2:Pos}{names:List Str}(hv:ao S.W v y)(q:Jv F.e.sc ts vs=some (some names)){Q:Flow->Shared->Prop}
  (h:(bindM (kO F.e) λ_=>bindM (itemsOf v) λl=>bindM (aR (iB (Nat.beq (len names) (len l)))) λ_=>bindM (bindAll F.e.sc F.e.cells (rev (nL names l) []) F.e.m) λm=>aE (cB.next,m)) S.σ k) (ok:lz F k S Q) :
  Ky F.A F.env (.Tuple ts k1 p1) (.Tuple vs k2 p2) Q E y S.s:=
 oq o h λhc h=>Ad o hv h λl d h=>dK h λz h=>.swap names (Ae o.2 q) (by
  have hn:=(bl names).symm.trans (aax z);unfold assignStores;refine aag (agk (aag (vW o hc d hn λS1 xs n1 e hl=>?_)));rw [Cq names xs F.env (hn.trans hl.len)];exact aag (xK _ _ F S1 n1.2 (bY.rev (a:=[]) (a':=[]) (bY.zip hl) rfl) (k:=λm σ'=>k (.next,m) σ') (e▸h) λS2 m le o2 h2=>aaq (ok S2 .next m .next (n1.1.trans le) o2 .next h2)))
theorem xM{t:Expr}{ts:List Expr}:xh t=some ts->∃n p,t =.Tuple ts n p:=by
 cases t with
 |Tuple ts n p=>exact λh=>⟨n,p,by rw [aap h]⟩|_=>exact bq
theorem Cr{t x:Expr}{env:Env}:xh x=none->xh t≠none->swappedStores [t] x env=pure none:=by
 cases t with
 |Tuple ts n p=>cases x with
  |Tuple=>exact λh=>bq h.symm|_=>exact λ_ _=>rfl
 |_=>exact λ_ h=>absurd rfl h
theorem KA{t:Expr}{e:En}{σ:aq}:kP cx r e t v σ k->xh t=none->fV t=true/\∀x env,swappedStores [t] x env=pure none:=by
 cases t with
 |Name=>exact λ_ _=>⟨rfl,λ_ _=>rfl⟩|Attribute=>exact λ_ _=>⟨rfl,λ_ _=>rfl⟩|Subscript=>exact λ_ _=>⟨rfl,λ_ _=>rfl⟩|Tuple=>exact λ_ q=>bq q.symm|_=>exact λh=>h.elim
theorem G8(H:gb cx r){t x:Expr}{p:Pos}(o:Ok F S):jx F (exec (.Assign [t] x p) F.env) (zx cx r F.e t x) S:=λk Q E h ok er=>dK h λhx h=>Vc hx ((H.ev F x S o).out h er λS1 v y n1 v1 h1=>by
 have pl:=λhs hp h=>G7 (x:=x) H.tofJ n1.2 (t:=t) hs hp v1 h (ok.on n1) (er.on n1);revert h1;induction q:xh t with
 |none=>
  intro h1;have h2:kP cx r F.e t v S1.σ k:=by
   have h2:gy cx r F.e t v S1.σ k:=h1;unfold gy at h2;rw [q] at h2;exact h2
  have g:=KA h2 q;exact pl (g.2 x F.env) g.1 h1
 |some ts=>
  cases q2:xh x with
  |none=>exact λh=>pl (Cr q2 (by rw [q];exact λz=>nomatch z)) (by obtain ⟨n,p,rfl⟩:=xM q;rfl) h
  |some vs=>
   obtain ⟨n,p,rfl⟩:=xM q;obtain ⟨n',p',rfl⟩:=xM q2;intro h1;refine aQ h1 λsw e h2=>?_;induction sw with
   |none=>exact pl (Ae n1.2.2 e) rfl h2|some names=>exact Kz n1.2 v1 e h2 (ok.on n1))
theorem Af(H:fJ cx r){x u:Expr}{n:Str}{q p:Pos}{op:Operator}(o:Ok F S):jx F (exec (.AugAssign (.Attribute x n q) op u p) F.env) (Sl cx r F.e (.Attribute x n q) op u) S:=λk Q E h ok er=>
 wpAny_AugAssign_AttributeAny ((H.ev F x S o).out h er λS1 a y n1 v1 h1=>bB λgg=>eH h1 λw e h2=>dK h2 λz h2=>gg <|(zW n1.2 v1 n).get e (nZ z) _ _ _ λold tk hz=>by
  have n2:=n1.2.tok tk;exact (H.ev F u _ n2.2).out h2 (er.on (n1.trans n2)) λS3 b y2 n3 v3 h3=>Ep n3.2 (ao.up hz n3.1.1) v3 (k:=λu σ'=>(bindM (nH cx a n u) λ_=>(aE (cB.next,F.e.m):M Prop (cB×Lo))) σ' k) h3 λS4 u' nw n4 v4 h4=>
   s9 n4.2 (ao.up v1 (n2.trans (n3.trans n4)).1.1) v4 (k:=λ_ σ'=>k (.next,F.e.m) σ') h4 λS5 n5 h5=>ok.end (n1.trans (n2.trans (n3.trans (n4.trans n5)))) h5)
end
theorem Vd(k:Str)(ps:List Str):Zc k ps=ps.contains k:=by
 induction ps with
 |nil=>rfl|cons p r ih=>
  rw [adS];show (match cD p k with|true=>true|false=>Zc k r)=_
  induction q:cD p k with
  |true=>rw [dI.mp q,beq_self_eq_true];rfl|false=>rw [beq_false_of_ne λz=>dh.mp q z.symm,ih];rfl
theorem Ph{α:Type}(ps:List Str):∀as:List α,nL ps as=ps.zip as:=by
 induction ps with
 |nil=>exact λ_=>rfl|cons p ps ih=>intro as;induction as with|nil=>rfl|cons a as=>exact congrArg ((p,a) :: ·) (ih as)
theorem Pj{α:Type}{sl:List (Str×α)}{ps:List Str}:zy sl ps=true->ps.filter (λn=>(sl.lookup n).isNone)=[]:=by
 induction ps with
 |nil=>exact λ_=>rfl|cons p ps ih=>
  rw [List.filter_cons,← cJ];dsimp only [zy];induction look p sl with
  |none=>exact bM|some v=>exact ih
theorem KC{α:Type}(sl:List (Str×α))(ps:List Str):qy sl ps=ps.filterMap λn=>(sl.lookup n).map (n,·):=by
 induction ps with
 |nil=>rfl|cons p ps ih=>
  dsimp only [qy];rw [aix,← cJ,ih];cases look p sl<;>rfl
section
variable{M:Model}{A:Around}{E:b7}{s:Shared}
theorem Ve{ps:List Str}{body:Str×Value->iF×iF->Sem (ForInStep (iF×iF))}
  (hb:∀k v slots,ps.contains k=true->slots.lookup k=none->body (k,v) (slots,[])=pure (.yield (slots++[(k,v)],[]))) (kws:iF) :
  ∀(slots sl:iF),nM ps slots kws=some sl->∀{Q:iF×iF->Shared->Prop},Q (sl,[]) s->wpAny M A (forIn kws (slots,[]) body) Q E s:=by
 induction kws with
 |nil=>intro slots sl h Q q;rw [aeA];exact aaq (aap h▸q)|cons p r ih=>
  intro slots sl h Q q;dsimp only [nM] at h;revert h;induction h1:Zc p.1 ps with
  |false=>exact bq|true=>induction h2:look p.1 slots with
   |some _=>exact bq|none=>
    intro h;dsimp only at h;rw [pO] at h;rw [ael,hb p.1 p.2 slots ((Vd _ _).symm.trans h1) ((cJ _ _).symm.trans h2)];exact aag (aaq (ih _ sl h q))
theorem Vf{body:Str×Value->iF->Sem (ForInStep iF)}
  (hb:∀k v slots,body (k,v) slots=pure (.yield (if (slots.lookup k).isNone then slots++[(k,v)] else slots))) (kws:iF) :
  ∀(slots:iF){Q:iF->Shared->Prop},Q (nN slots kws) s->wpAny M A (forIn kws slots body) Q E s:=by
 induction kws with
 |nil=>intro slots Q q;rw [aeA];exact aaq q|cons p r ih=>
  intro slots Q q;rw [ael,hb p.1 p.2 slots,← cJ];revert q;dsimp only [nN];induction look p.1 slots with
  |some _=>exact λq=>aag (aaq (ih _ q))|none=>dsimp only;rw [pO];exact λq=>aag (aaq (ih _ q))
inductive DfR(h:Heap)(v:Value)(ds:bU):Prop
 |no (e:v =.none) (d:ds=[])|yes (T:Addr) (e:v =.ref T) (g:h.get? T=some (d7 ds.toArray))
theorem DfR.run{v:Value}{ds:bU}(d:DfR s.heap v ds){Q:Option ig->Shared->Prop}(q:∀dv:Option ig,(dv.getD #[]).toList=ds->Q dv s):wpAny M A (seqItems? v) Q E s:=by
 induction d with
 |no e d=>subst e d;exact aaq (q none rfl)|yes T e g=>subst e;exact aht g rfl (q _ rfl)
theorem Cs{α:Type}{c:Prop}[Decidable c]{a b:Sem α}{Q:α->Shared->Prop}(hc:¬c)(h:wpAny M A b Q E s):wpAny M A (if c then a else b) Q E s:=by rw [if_neg hc];exact h
theorem qJ{fd:FuncData}(hp:lV fd.params=true){aj:bU}{kws binds:iF}{ds:bU}(hd:DfR s.heap fd.defaults ds)
  (hb:pM (fd.params.args.map (·.arg)) aj kws ds=some binds) {Q:iF->Shared->Prop} (q:Q binds s):wpAny M A (bindArgs fd ⟨aj,kws⟩) Q E s:=by
 obtain ⟨fname,fq,fp,rest⟩:=fd;obtain ⟨pp,pa,pv,pk,pkd,pkw,pd⟩:=fp;unfold lV at hp;simp only [agY,List.isEmpty_iff,Option.isNone_iff_eq_none] at hp;obtain ⟨⟨⟨⟨rfl,rfl⟩,rfl⟩,rfl⟩,rfl⟩:=hp;dsimp only at hb hd;generalize hps:pa.map (·.arg)=ps at hb
 unfold pM at hb;revert hb;induction h1:nM ps (nL ps aj) kws with
 |none=>exact bq|some sl=>
  intro hb;have hb:=bz hb;have h2:=abV (bx hb.1).1;have h3:=Pj (bx hb.1).2;rw [← aap hb.2] at q;clear hb;unfold zA at h3 q;simp only [bl,Ph] at h1 h2 h3 q;rw [KC] at q;unfold bindArgs;refine aag (Ve (ps:=ps) (λk v slots c1 c2=>?_) kws _ sl (by rw [← hps] at h1 ⊢;exact h1) ?_)
  ·refine (if_pos ?_).trans (if_neg ?_)
   ·show ((List.map (λx=>x.arg) pa).contains k||([]:List Str).contains k)=true
    rw [hps,c1];rfl
   ·show ¬(slots.lookup k).isSome=true
    rw [c2];exact bM
  ·refine aag (hd.run λdv hq=>Cs ?_ (Cs ?_ (aag (Vf (λk v slots=>?_) _ _ (aag (m:=forIn [] _ _) (aaq ?_))))))
   ·show ¬(decide (aj.length > (List.map (·.arg) pa).length)&&Option.isNone (none:Option Arg))=true
    rw [hps];simp;lia
   ·show ¬(!(List.filter (λn=>(sl.lookup n).isNone) (List.take ((List.map (·.arg) pa).length-(List.drop ((dv.getD #[]).toList.length-(List.map (·.arg) pa).length) (dv.getD #[]).toList).length) (List.map (·.arg) pa))).isEmpty)=true
    rw [hq,hps,h3];exact bM
   ·dsimp only;split<;>rename_i z<;>simp [z]
   ·refine Cs bM (aaq ?_)
    show Q (List.filterMap (λn=>(List.lookup n (nN sl ((List.drop ((List.map (·.arg) pa).length-(List.drop ((dv.getD #[]).toList.length-(List.map (·.arg) pa).length) (dv.getD #[]).toList).length) (List.map (·.arg) pa)).zip (List.drop ((dv.getD #[]).toList.length-(List.map (·.arg) pa).length) (dv.getD #[]).toList)))).map (n,·)) (List.map (·.arg) pa++[])) s
    rw [hq,hps,adO];exact q
end
section
variable{W:Wd}
theorem bY.cons{n:Str}{v:MV}{y:Value}{l:Lo}{l':iF}(h:ao W v y)(t:bY W l l'):bY W ((n,v)::l) ((n,y)::l'):=⟨y,l',rfl,h,t⟩
theorem bY.look(x:Str){l:Lo}:∀{l':iF},bY W l l'->nQ W (aT.look x l) (aT.look x l'):=by
 induction l with
 |nil=>intro l' h;rw [show l'=[] from h];rfl|cons p r ih=>
  intro l' h;obtain ⟨y,l',rfl,hv,h⟩:=h;obtain ⟨n,v⟩:=p;rw [aC,aC];by_cases e:n=x
  ·rw [if_pos e,if_pos e];exact ⟨y,rfl,hv⟩
  ·rw [if_neg e,if_neg e];exact ih h
theorem bY.app{n:Str}{v:MV}{y:Value}(hv:ao W v y){l:Lo}:∀{l':iF},bY W l l'->bY W (aT.app l (n,v)) (aT.app l' (n,y)):=by
 induction l with
 |nil=>intro l' h;rw [show l'=[] from h];exact bY.cons hv rfl|cons p r ih=>intro l' h;obtain ⟨z,l',rfl,h1,h⟩:=h;exact ⟨z,_,rfl,h1,ih h⟩
theorem bY.kw{ps:List Str}{ks:Lo}:∀{kws:iF}{sl:Lo}{rE:iF},bY W ks kws->bY W sl rE->aZ (λr=>∃r',nM ps rE kws=some r'/\bY W r r') (nM ps sl ks):=by
 induction ks with
 |nil=>intro kws sl rE h1 h;rw [show kws=[] from h1];exact ⟨rE,rfl,h⟩|cons p r ih=>
  intro kws sl rE h1 h;refine bB λgg=>?_;obtain ⟨y,kws,rfl,hv,t⟩:=h1;refine gg ?_;have hl:=h.look p.1;revert hl;unfold nM;dsimp only;induction Zc p.1 ps with
  |false=>exact λ_=>trivial|true=>induction aT.look p.1 sl with
   |some _=>exact λ_=>trivial|none=>intro hl;rw [show aT.look p.1 rE=none from hl];exact ih t (h.app hv)
theorem bY.df{ks:Lo}:∀{kws:iF}{sl:Lo}{rE:iF},bY W ks kws->bY W sl rE->bY W (nN sl ks) (nN rE kws):=by
 induction ks with
 |nil=>intro kws sl rE h1 h;rw [show kws=[] from h1];exact h|cons p r ih=>
  intro kws sl rE h1 h;obtain ⟨y,kws,rfl,hv,t⟩:=h1;have hl:=h.look p.1;revert hl;unfold nN;dsimp only;induction aT.look p.1 sl with
  |some _=>exact λhl=>hl.elim λz e=>by rw [e.1];exact ih t h|none=>intro hl;rw [show aT.look p.1 rE=none from hl];exact ih t (h.app hv)
theorem bY.all{sl:Lo}{rE:iF}(h:bY W sl rE)(ps:List Str):zy sl ps=zy rE ps:=by
 induction ps with
 |nil=>rfl|cons p ps ih=>
  have hl:=h.look p;revert hl;dsimp only [zy];induction aT.look p sl with
  |some _=>exact λhl=>hl.elim λz e=>by rw [e.1];exact ih|none=>intro hl;rw [show aT.look p rE=none from hl]
theorem bY.pick{sl:Lo}{rE:iF}(h:bY W sl rE)(ps:List Str):bY W (qy sl ps) (qy rE ps):=by
 induction ps with
 |nil=>rfl|cons p ps ih=>
  have hl:=h.look p;revert hl;dsimp only [qy];induction aT.look p sl with
  |some _=>exact λhl=>hl.elim λz e=>by rw [e.1];exact bY.cons e.2 ih|none=>intro hl;rw [show aT.look p rE=none from hl];exact ih
theorem ah.len'{a:aY}{x:bU}(h:ah W a x):aT.len a=aT.len x:=h.len.trans (bl x).symm
theorem tE{ps:List Str}{as:aY}{aj:bU}{ks:Lo}{kws:iF}{ds:aY}{dvs:bU}(h1:ah W as aj)(h2:bY W ks kws)(h3:ah W ds dvs) :
  aZ (λbs=>∃binds,pM ps aj kws dvs=some binds/\bY W bs binds) (pM ps as ks ds):=by
 have hd:ah W (zA ps ds) (zA ps dvs):=by unfold zA;rw [h3.len'];exact h3.drop _
 have kw:=bY.kw (ps:=ps) h2 (bY.zip (ns:=ps) h1);unfold pM;rw [h1.len',hd.len'];revert kw;induction nM ps (nL ps as) ks with
 |none=>exact λ_=>trivial|some sl=>
  intro kw;refine bB λgg=>?_;obtain ⟨rE,c1,c2⟩:=kw;refine gg ?_;rw [c1];dsimp only;rw [c2.all];induction (Nat.ble (len aj) (len ps)&&zy rE (ps.take (len ps-len (zA ps dvs)))) with
  |false=>trivial|true=>exact ⟨_,rfl,(bY.df (bY.zip hd) c2).pick ps⟩
end
section
variable{cx:Cx Prop}{F:Fr cx}{S S' S2:Pt}{W W2:Wd}{A:Around}{E:b7}{r:dZ Prop}{L0 L:Addr}{o0:Obj}
theorem tF{body:Str×NameKind->List (Str×Addr)->Sem (ForInStep (List (Str×Addr)))}
  (hb:∀p acc,body p acc=if (p.2 ==.cell)=true then (do let a ← PySem.alloc { cls:=.type "cell",data:=.cell none };pure (.yield ((p.1,a)::acc))) else pure (.yield acc)) {k:ja->aq->Prop} (names:List (Str×NameKind)) :
  ∀(cl:ja)(SI:List (Str×Addr))(S:Pt),Inv S.W S.σ S.s.heap->eZ S.W.ρ cl SI->nO names cl S.σ k->
  ∀{Q:List (Str×Addr)->Shared->Prop}{E:b7},(∀S' c c',Le S S'->Inv S'.W S'.σ S'.s.heap->eZ S'.W.ρ c c'->k c S'.σ->(∀b o,S.s.heap.get? b=some o->S'.s.heap.get? b=some o)->Q c' S'.s)->wpAny Md A (forIn names SI body) Q E S.s:=by
 induction names with
 |nil=>intro cl SI S I hc h Q E q;rw [aeA];exact aaq (q S cl SI (.refl S) I hc h λ_ _ e=>e)|cons p rest ih=>
  intro cl SI S I hc h Q E q;rw [ael,hb];obtain ⟨n,kd⟩:=p;have no:∀h':nO rest cl S.σ k,wpAny Md A (pure (ForInStep.yield SI) >>= λx=>match x with|.done b=>pure b|.yield b=>forIn rest b body) Q E S.s:=λh'=>aag (aaq (ih cl SI S I hc h' q))
  induction kd with
  |cell=>
   have x:=I.JN (ob:={ cls:=.type "cell",data:=.cell none }) (mo:=.cell none) rfl λ_ ow g=>.no _ ow g rfl;rw [if_pos (by rfl)]
   exact aag (aag (ahR (aaq (ih ((n,len S.σ)::cl) ((n,S.s.heap.objs.size)::SI) (S.add { cls:=.type "cell",data:=.cell none } (.cell none)) x.2.1 ⟨_,_,rfl,x.2.2,hc.mono x.1.6⟩ h
    λS' c c' le I' hc' hk keep=>q S' c c' (Le.trans ⟨x.1,rfl,rfl,rfl⟩ le) I' hc' hk λb o e=>keep b o (aas _ e)))))
  |_=>rw [if_neg (by dsimp only;decide)];exact no h
theorem tG{A':Around}{k:Lo->aq->Prop}{env:Env}{body:Str×Value->PUnit->Sem (ForInStep PUnit)}(hb:∀p u,body p u=(do storeName env p.1 p.2;pure (.yield ⟨⟩)))(bs:Lo):∀(binds:iF)(F:Fr cx)(S:Pt),env=F.env->Ok F S->bY S.W bs binds->bindAll F.e.sc F.e.cells bs F.e.m S.σ k->
  ∀{Q:PUnit->Shared->Prop}{E:b7},Zg F k S Q->wpAny Md A' (forIn binds ⟨⟩ body) Q E S.s:=by
 induction bs with
 |nil=>intro binds F S _ o hb h Q E q;rw [show binds=[] from hb,aeA];exact aaq (q S F.e.m (.refl _) o h)|cons p bs ih=>
  intro binds F S he o hr h Q E q;refine bB λgg=>?_;obtain ⟨y,l,rfl,hv,hl⟩:=hr;refine gg ?_;rw [ael,hb,he];exact aag (aag (jy o hv (k:=λm' σ'=>bindAll F.e.sc F.e.cells bs m' σ' k) h λS1 m le o1 h1=>aaq (ih l (F.fix m) S1 he o1 (hl.up le.1) h1 λS2 m2 ir=>q S2 m2 (le.trans ir))))
def Wd.call(W:Wd)(L0:Addr)(o0:Obj)(L:Addr):Wd:=⟨W.aU,cO (cO W.own L (some .cur)) L0 (some (.kL o0)),W.ρ⟩
def Wd.back(W:Wd)(L0 L:Addr):Wd:=⟨W.aU,cO (cO W.own L none) L0 (some .cur),W.ρ⟩
theorem Inv.jh{σ:aq}{h:Heap}{a:Addr}(I:Inv W σ h)(ha:h.objs.size<=a):W.aU a=none:=by
 induction z:W.aU a with
 |none=>rfl|some o=>exact (afJ.mpr ha (I.sV z)).elim
theorem Wd.oz(hc:W.own L0=some .cur)(hL:W.own L=none){a:Addr}{r:aH}(h:W.own a=some r)(n:a≠L0):(W.call L0 o0 L).own a=some r:=(aM n).trans ((aM λz=>by rw [z,hL] at h;exact bq h).trans h)
theorem dj{a b:Addr}{r q:aH}(h:W.own a=some r)(h':W.own b=some q)(n:r≠q):a≠b:=λz=>n (aap (h.symm.trans (z▸h')))
theorem Inv.call{σ:aq}{h:Heap}(I:Inv W σ h){ob:Obj}(hc:W.own L0=some .cur)(h0:h.get? L0=some o0)(hf:ob.isFreed=false):Inv (W.call L0 o0 h.objs.size) σ (h.push ob):=by
 have hL:=I.5 _ (abv _);refine I.own (λb o _ e=>aas _ e) (by rw [acR];exact adq _) (λb i e=>Wd.oz hc hL e (dj e hc nofun)) (λb _ e=>Wd.oz hc hL e (dj e hc nofun)) λb r e=>?_
 refine (bX e).elim (λz=>.inr ?_) λz=>(bX z.2).elim (λz=>.inr ?_) λz=>.inl z.2
 ·obtain ⟨z1,z2⟩:=z
  rw [z1,← aap z2];exact ⟨I.4 _ _ hc,.kL o0 o0.slots (aas _ h0)⟩
 ·obtain ⟨z1,z2⟩:=z
  rw [z1,← aap z2];exact ⟨I.jh (abv _),.cur ob (abX _ hf)⟩
theorem Wd.Ag(h0:W2.own L0=some (.kL o0))(hL:W2.own L=some .cur){a:Addr}{r:aH}(h:W2.own a=some r)(n1:a≠L0)(n2:a≠L):(W2.back L0 L).own a=some r:=(aM n1).trans ((aM n2).trans h)
theorem Inv.back{σ:aq}{h:Heap}(I:Inv W2 σ h)(h0:W2.own L0=some (.kL o0))(hL:W2.own L=some .cur):Inv (W2.back L0 L) σ h:=by
 refine I.own (λb o _ e=>e) (abv _) (λb i e=>Wd.Ag h0 hL e (dj e h0 nofun) (dj e hL nofun)) (λb _ e=>Wd.Ag h0 hL e (dj e h0 nofun) (dj e hL nofun)) λb r e=>?_;refine (bX e).elim (λz=>.inr ?_) λz=>(bX z.2).elim (λz=>nomatch z.2) λz=>.inl z.2;obtain ⟨z1,z2⟩:=z;rw [z1,← aap z2];exact ⟨I.4 _ _ h0,(I.3 _ _ h0).elim λsl q=>.cur _ q⟩
theorem Wd.Pk(hc:W.own L0=some .cur)(hL:W.own L=none)(le:(W.call L0 o0 L).Le W2):W.Le (W2.back L0 L):=by
 have n2:∀a r,W.own a=some r->a≠L:=λa r e z=>by rw [z,hL] at e;exact bq e
 have out:∀{a r},a≠L0->W.own a=some r->((W.call L0 o0 L).own a=some r->W2.own a=some r)->(W2.back L0 L).own a=some r:=λn e q=>(aM n).trans ((aM (n2 _ _ e)).trans (q (Wd.oz hc hL e n)));exact ⟨le.1,λa o e=>out (dj e hc nofun) e (le.2 a o),λa o e=>out (dj e hc nofun) e (le.3 a o),λa e=>(Decidable.em (a=L0)).elim (λz=>z▸aL) λn=>out n e (le.4 a),λa p e=>out (dj e hc nofun) e (le.5 a p),le.6⟩
theorem Wd.Ah(h:L≠L0):(W.call L0 o0 L).own L=some .cur:=(aM h).trans aL
def Pt.back(S:Pt)(L0 L:Addr):Pt:=⟨S.W.back L0 L,S.σ,S.s⟩
theorem Ok.back(o:Ok F S)(h0:S.s.heap.get? F.env.locals=some o0)(le:(S.W.call F.env.locals o0 S.s.heap.objs.size).Le S2.W)(I:Inv S2.W S2.σ S2.s.heap)(hs:kR S.s S2.s):bH F S (S2.back F.env.locals S.s.heap.objs.size):=by
 have le':=Wd.Pk o.2.3 (o.1.5 _ (abv _)) le;have f0:S2.W.own F.env.locals=some (.kL o0):=le.3 _ _ aL;refine ⟨⟨le',hs⟩,I.back f0 (le.4 _ (Wd.Ah (agt (ado h0)))),?_,o.3.up le'.1,o.4.up le'⟩;refine ⟨o.2.1,o.2.2,le'.4 _ o.2.3,o.2.4.elim λg z=>⟨g,bB λgg=>z.1.elim λo'' z=>z.elim λes z=>z.elim λep z=>(I.3 _ _ f0).elim λsl y=>gg <|?_,z.2.up le'⟩,o.2.5.up le'.6,o.2.6,o.2.7,o.2.8,o.2.9.mono le'.1⟩
 have e:=aap (h0.symm.trans z.1);subst e;exact ⟨_,es,ep,y,z.2⟩
theorem Ok.nolimit(o:Ok F S):S.s.heap.NoLimit:=o.3.2.casesOn λob es ep h d k e=>⟨nsFind es,⟨ob,es,ep,o.1.1 _ _ h,d,k,λ_=>rfl⟩,e⟩
abbrev Callee(s:Shared)(a:Addr)(fd:FuncData)(body:cL)(q:Str):Prop:=P5 (∃ob,s.heap.get? a=some ob/\ob.data =.func fd) (fd.scope.isCoroutine=false) (fd.scope.isGenerator=false) (fd.body =.stmts body) (∃c oc vs t,fd.code =.ref c/\s.heap.get? c=some oc/\oc.data =.fields vs/\vs[1]?=some (.str q t))
theorem j8{s:Shared}{a:Addr}{args:Args}{fd:FuncData}{body:cL}{q:Str}{R:Result->Shared->Prop}(hroom:A.depth<recursionLimit)(c:Callee s a fd body q)
  (h:wpAny Md A.in1 (bindArgs fd args) (λbinds s1=>wpAny Md A.in1 (newFunctionEnv fd.scope fd.globals fd.closure binds (q++".<locals>.") (some a) fd.code none fd.builtins)
   (λenv s2=>s2.heap.NoLimit/\codeAny Md A (.func body env) R s2) (λe s'=>R (.error e) s') s1) (λe s'=>R (.error e) s') s):codeAny Md A (.call (.ref a) args) R s:=by
 refine bB λgg=>?_;obtain ⟨⟨ob,ho,hd⟩,hco,hgen,hbody,cA,oc,vs,t,hc,hoc,hdc,hq⟩:=c;refine gg ?_;refine ahf ?_;show wpAny _ A.in1 (callAny (.ref a) args) _ _ s;simp only [callAny];refine aag (aip ho ?_);rw [hd];rw [hc] at h;show wpAny Md A.in1 (callFunction a fd args) _ _ s;simp only [callFunction,hco,hgen,hbody,hc];exact aag (m:=field (.ref cA) 1) (adT hoc hdc hq (aag (aaq (aag (adX h (λb s1 h1=>aag (adX h1 (λv s2 h2=>
  aag (wpAny_enterFrame h2.1 hroom (aaq ⟨rfl,h2.2⟩))) λ_ _ z=>z)) λ_ _ z=>z)))))
end
section
variable{cx:Cx Prop}{F:Fr cx}{S S' S2:Pt}{W W2:Wd}{A:Around}{E:b7}{r:dZ Prop}{o0:Obj}{dp:Nat}{as:aY}{aj:bU}{ks:Lo}{kws:iF}
def Calls(F:Fr cx)(c:Code)(m:M Prop (Ex MV))(S:Pt):Prop:=∀k (R:Result->Shared->Prop),m S.σ k->Ev F VR (λb=>k (.ok b)) S (λv s=>R (.ok (.ret v)) s)->Er F (λn=>k (.error n)) S (λx s=>R (.error x) s)->codeAny Md F.A c R S.s
noncomputable abbrev Ct(f:Fn)(fd:FuncData)(L a:Addr)(c':List (Str×Addr))(q:Str):Env:={ scope:=f.sc,locals:=L,globals:=fd.globals,cells:=c',qual:=q,func:=some a,code:=fd.code,frame:=some L,builtins:=fd.builtins }
noncomputable def Fr.sub(F:Fr cx)(f:Fn)(c:ja)(dp:Nat)(env:Env):Fr cx:=⟨⟨f.sc,c,[],F.e.hd,dp⟩,env,F.A.deeper env⟩
noncomputable abbrev qK:Obj:={ cls:=.type "frame",data:=.dict #[] }
theorem xw.of{ρ:bR}{l:ja}:∀{l':List (Str×Addr)},eZ ρ l l'->xw ρ l l':=by
 induction l with
 |nil=>exact λ_ x n e=>bq e|cons p l ih=>
  intro l' h x n e;obtain ⟨a,l',rfl,ha,h⟩:=h;obtain ⟨y,m⟩:=p;rw [aC] at e;rw [← cJ,aC];by_cases z:y=x
  ·rw [if_pos z] at e;cases e;exact ⟨a,ha,if_pos z⟩
  ·rw [if_neg z] at e
   exact (ih h x n e).elim λb q=>⟨b,q.1,(if_neg z).trans ((cJ _ _).trans q.2)⟩
theorem Ok.enter(o:Ok F S)(h0:S.s.heap.get? F.env.locals=some o0)(hd0:∃es ep,o0.data =.dict es ep)(fK:F.e.dp=dp+1){f:Fn}{fd:FuncData}{ob:Obj}{a:Addr}(hF:kW S.W.aU f ob fd)(le:(S.W.call F.env.locals o0 S.s.heap.objs.size).Le S2.W)(I2:Inv S2.W S2.σ S2.s.heap)
  (hL:S2.s.heap.get? S.s.heap.objs.size=some qK) {c:ja} {c':List (Str×Addr)} (hc:eZ S2.W.ρ c c') {q:Str}:Ok (F.sub f c dp (Ct f fd S.s.heap.objs.size a c' q)) S2:=by
 have hd1:=o.4.2;have hu1:=o.4.3;rw [fK] at hd1 hu1;unfold sM at hd1;unfold kX at hu1;have aeI:S.s.heap.objs.size≠F.env.locals:=agt (ado h0);have aao:=o.2.3;refine ⟨I2,⟨rfl,hF.13,le.4 _ (Wd.Ah aeI),⟨λ_=>none,⟨qK,#[],0,hL,rfl,(λ_ he=>by simp at he),λ_=>rfl⟩,λx v z=>bq z⟩,.of hc,hF.7,hF.8,rfl,hF.9.mono le.1⟩,o.3.up le.1,
  ⟨dH.low (W:=S.W) (W':=S2.W) ⟨le.1,le.6⟩ o.4.1,?_,?_,o.4.4.elim λouter z=>⟨F.env::outer,by show F.A.frames.map (_ :: ·)=_;rw [z.1];rfl,λx hx=>?_⟩,o.4.5⟩⟩
 ·show F.A.depth+1+sM*dp<recursionLimit
  unfold sM;lia
 ·show F.A.units+3+kX*dp+kX<cLine
  unfold kX;lia
 ·refine (adN.mp hx).elim (λe=>?_) λhx=>(z.2 x hx).casesOn λk L oL f ow nf=>⟨k,L,oL,f,le.3 _ _ (Wd.oz aao (o.1.5 _ (abv _)) ow (dj ow aao nofun)),nf⟩
  rw [e];exact ⟨(by rw [o.2.1,o.2.2];exact nofun),_,o0,o.2.8,le.3 _ _ aL,λvs z=>hd0.elim λes d=>d.elim λep d=>nomatch d.symm.trans z⟩
theorem kW.callee{ob:Obj}{f:Fn}{fd:FuncData}{a:Addr}(I:Inv S.W S.σ S.s.heap)(ho:S.s.heap.get? a=some ob)(hF:kW S.W.aU f ob fd):∃q,Callee S.s a fd f.body q:=
 bB λgg=>hF.9.casesOn λcA oc hcA aeJ k=>k.casesOn λvs PT qn tt _ _ _ _ _ _ _ _ e2 e3 _ _ _ _ _ _=>gg <|⟨qn,⟨ob,ho,hF.1⟩,(by rw [hF.4];exact hF.12),(by rw [hF.4];exact hF.11),hF.3,cA,oc,vs,tt,hcA,I.1 _ _ aeJ,e2,e3⟩
theorem kW.SJ{ob:Obj}{f:Fn}{fd:FuncData}(I:Inv S.W S.σ S.s.heap)(hF:kW S.W.aU f ob fd):∃ds,DfR S.s.heap fd.defaults ds/\ah S.W (bT f.dflt) ds:=
 hF.10.elim (λe=>⟨[],.no e.2 rfl,by rw [e.1];rfl⟩) λh=>by
  generalize fd.defaults=d at h;induction h with|mk T xs g r=>exact ⟨xs,.yes T rfl (I.1 _ _ g),r.vs⟩
theorem tH{β:Type}{n:Nat}{σ:aq}{g:Unit->M Prop β}{k:β->aq->Prop}{G:Prop}(h:bindM (noted n) g σ k)(c:∀X:zq,af σ n=some (.exc X.C X.fs X.t X.b)->g () (setAt σ n (.exc X.C X.fs true X.b)) k->G):G:=
 eH (f:=xg n) (g:=λC:zq=>(cU n (.exc C.C C.fs true C.b):M Prop Unit)) (k:=λu σ'=>g u σ' k) h λX q h=>c X ((iN ..).get q) h
theorem xN(H:∀(F:Fr cx) ss S,Ok F S->jx F (execs ss F.env) (r.exs F.e ss) S)(o:Ok F S)(fK:F.e.dp=dp+1){f:Fn}{fd:FuncData}{a:Addr}{ob:Obj}{cl:ja}(ho:S.s.heap.get? a=some ob)(hF:kW S.W.aU f ob fd)(hcl:eZ S.W.ρ cl fd.closure)
  (has:ah S.W as aj) (hks:bY S.W ks kws):Calls F (.call (.ref a) ⟨aj,kws⟩) (zB cx r F.e.hd dp f cl as ks) S:=λk R h ok er=>aQ h λbs q1 h=>by
 refine bB λgg=>?_;obtain ⟨g0,⟨o0,es0,ep0,h0,hd0,_⟩,_⟩:=o.2.4;obtain ⟨ds,hdef,hdr⟩:=hF.SJ o.1;obtain ⟨binds,hb1,hb2⟩:=(tE has hks hdr).get q1;obtain ⟨qn,Vg⟩:=hF.callee o.1 ho;refine gg ?_;refine j8 (adQ (abW _ _) o.4.2) Vg (qJ hF.6 hdef (hF.5▸hb1) ?_);simp only [newFunctionEnv,ahm,afb,if_false,hF.4];refine aag (ahR ?_);have I1:=o.1.call (ob:=qK) o.2.3 h0 rfl;refine aag (tF (λp acc=>?_) f.sc.names cl fd.closure ⟨S.W.call F.env.locals o0 S.s.heap.objs.size,S.σ,{ S.s with heap:=S.s.heap.push qK }⟩ I1 hcl h λS2 c c' ir I2 hc2 h2 KD=>?_)
 ·dsimp only
 ·have o2:=o.enter (a:=a) (q:=qn++".<locals>.") h0 ⟨_,_,hd0⟩ fK hF ir.1 I2 (KD _ _ (abX _ rfl)) hc2
  have lw:S.W.Gw S2.W:=⟨ir.1.1,ir.1.6⟩;have bk:∀{S':Pt},Le S2 S'->Inv S'.W S'.σ S'.s.heap->bH F S (S'.back F.env.locals S.s.heap.objs.size):=λle I=>o.back h0 (ir.1.trans le.1) I (kR.trans ⟨ir.2.1,ir.2.2,ir.2.3⟩ le.2);refine aag (tG (F:=F.sub f c dp (Ct f fd S.s.heap.objs.size a c' (qn++".<locals>."))) (k:=λm σ'=>(bindM (r.exs ⟨f.sc,c,m,F.e.hd,dp⟩ f.body) UB) σ' k) (λp u=>?_) bs binds S2 rfl o2 (hb2.low lw) h2 λS3 m pG o3 h3=>?_)
  ·rfl
  ·refine aaq ⟨o3.nolimit,codeAny_func ((H _ f.body S3 o3).go h3 (λS4 n b m4 xO o4 e1 e2 h4=>?_) λS4 g m4 fl xO o4 v4 h4=>?_)⟩
   ·refine tH (n:=n) (σ:=S4.σ) (k:=k) (g:=λ_=>(aE (.error n):M Prop (Ex MV))) h4 λX hi h4=>?_
    unfold «leaving»;refine aag (oj o4 true e1 hi λS5 n5 mk _=>?_);have e5:=n5.1.1.6 _ _ e1;have i5:af S5.σ n=some (.exc X.C X.fs true X.b):=by rw [mk];exact av _ hi
    refine cX n5.2 e5 i5 _ λS6 n6 e6=>?_;exact er (S6.back F.env.locals S.s.heap.objs.size) n b (bk (((pG.trans xO).trans n5.1).trans n6.1) n6.2.1) (n6.1.1.6 _ _ e5) ⟨_,_,_,_,e6▸i5⟩ (by show k _ S6.σ;rw [e6,mk];exact h4)
   ·have n4:=bk (pG.trans xO) o4.1
    induction v4 with
    |next=>exact ok (S4.back F.env.locals S.s.heap.objs.size) (.c .none) _ n4 rfl h4|ret v x hv=>exact ok (S4.back F.env.locals S.s.heap.objs.size) v x n4 (ao.up' (W:=S4.W) (W':=(S4.back F.env.locals S.s.heap.objs.size).W) ⟨λ_ _ e=>e,λ_ _ e=>e⟩ v x hv) h4|brk=>exact h4.elim|cont=>exact h4.elim
end
section
open PySem PySem.W PySem.Calls PyProof.Rows
section
variable{cx:Cx Prop}{F:Fr cx}{S S1 S':Pt}{s:Shared}{A:Around}{r:dZ Prop}{dp n:Nat}{as:aY}{aj:bU}{ks:Lo}{kws:iF}{C:Addr}{x:Value}
inductive tK(f:Value)(s:Shared):Prop|mk (kp:Keeper) (h:∀(A:Around)(E:b7)(Q:Keeper->Shared->Prop),Q kp s->wpAny Md A (keeperOf f) Q E s)
theorem ED{a:Addr}{ob:Obj}{fd:FuncData}(h:s.heap.get? a=some ob)(hd:ob.data =.func fd):tK (.ref a) s:=⟨.frame,λA E Q q=>by
 unfold keeperOf;refine aag (aip h ?_);rw [hd];exact aaq q⟩
theorem Ai{oc:Value}{od:Option Addr}{cd:ClassData}{sl:Array cK}(h:s.heap.get? C=some ⟨oc,od,.cls cd,sl⟩)(hl:Looks Md s.heap (specialOf (.ref C) "__call__") (some (.builtin "type.__call__"))):tK (.ref C) s:=
 ⟨_,λA E Q q=>by
 unfold keeperOf;exact aag (aip h (aag (hl.here (aaq q))))⟩
def vX(F:Fr cx)(x:Value)(aj:bU)(kws:iF)(m:M Prop (Ex MV))(S:Pt):Prop:=∀k,m S.σ k->tK x S.s/\Calls F (.call x ⟨aj,kws⟩) (λ_ k'=>k'=k) S
def tL(cx:Cx Prop)(c:Hd->Nat->MV->aY->Lo->M Prop (Ex MV)):Prop:=∀(F:Fr cx) g as ks x aj kws S,Ok F S->ao S.W g x->ah S.W as aj->bY S.W ks kws->vX F x aj kws (c F.e.hd F.e.dp g as ks) S
theorem Calls.keep{m:M Prop (Ex MV)}(c:Calls F (.call x ⟨aj,kws⟩) m S)(kp:tK x S.s):vX F x aj kws m S:=λk h=>⟨kp,λk' R e ok er=>by subst e;exact c _ R h ok er⟩
theorem vX.run{m:M Prop (Ex MV)}(c:vX F x aj kws m S){k:Ex MV->aq->Prop}(h:m S.σ k){R:Result->Shared->Prop}(ok:Ev F VR (λb=>k (.ok b)) S (λv s=>R (.ok (.ret v)) s))(er:Er F (λn=>k (.error n)) S (λx s=>R (.error x) s)):codeAny Md F.A (.call x ⟨aj,kws⟩) R S.s:=(c k h).2 k R rfl ok er
def xP(cx:Cx Prop):Prop:=∀a S',aD a cx.spec=some S'->∀(F:Fr cx) as aj S dp,F.e.dp=dp+1->Ok F S->ah S.W as aj->Calls F (.call (.ref a) ⟨aj,[]⟩) (S' F.e.hd dp as) S
structure ef(cx:Cx Prop)(r:dZ Prop):Prop extends gb cx r where
 call:tL cx r.call
inductive In1(A' A:Around):Prop where
 |mk (h:A'.handled=A.handled) (f:A'.frames=A.frames) (g:A'.guards=A.guards) (d:A'.depth=A.depth+1) (u:A'.units=A.units+1)
noncomputable def Fr.inn(F:Fr cx)(dp:Nat)(A':Around):Fr cx:=⟨⟨F.e.sc,F.e.cells,F.e.m,F.e.hd,dp⟩,F.env,A'⟩
theorem Ok.inn{A':Around}(o:Ok F S)(i:In1 A' F.A)(fK:F.e.dp=dp+1):Ok (F.inn dp A') S:=by
 have d:=o.4.2;have u:=o.4.3;rw [fK] at d u;unfold sM at d;unfold kX at u;exact ⟨o.1,⟨o.2.1,o.2.2,o.2.3,o.2.4,o.2.5,o.2.6,o.2.7,o.2.8,o.2.9⟩,o.3,⟨i.1▸o.4.1,by show A'.depth+sM*dp<recursionLimit;rw [i.4];unfold sM;lia,by show A'.units+kX*dp+kX<cLine;rw [i.5];unfold kX;lia,i.2▸o.4.4,i.3▸o.4.5⟩⟩
theorem Ok.out{A':Around}(o:Ok (F.inn dp A') S')(i:In1 A' F.A)(o0:Ok F S):Ok F S':=
 ⟨o.1,⟨o.2.1,o.2.2,o.2.3,o.2.4,o.2.5,o.2.6,o.2.7,o.2.8,o.2.9⟩,o.3,⟨(show dH S'.W F.e.hd A'.handled from o.4.1) |> λz=>i.1▸z,o0.4.2,o0.4.3,(show ∃outer,A'.frames=_/\_ from o.4.4) |> λz=>i.2▸z,o0.4.5⟩⟩
theorem G9{v:MV}{u:Unit}:lT v=some u->v =.c .none:=by
 induction v using MV.casesOn with
 |c c=>induction c using CV.casesOn with
  |none=>exact λ_=>rfl|_=>exact bq
 |_=>exact bq
theorem EE{c:Hd->Nat->MV->aY->Lo->M Prop (Ex MV)}(H:tL cx c)(o:Ok F S)(n1:bH F S S1){a init:Addr}(hn:af S1.W.ρ n=some a)(fK:F.e.dp=dp+1)(has:ah S.W as aj)(hks:bY S.W ks kws){A':Around}(i:In1 A' F.A){k:Ex MV->aq->Prop}{R:Result->Shared->Prop}
  (h:(bg (c F.e.hd dp (.c (.aA init)) (.ref n::as) ks) λv=>bindM (nP v) λ_=>dF (.ref n)) S1.σ k) (ok:Ev F VR (λb=>k (.ok b)) S (λv s=>R (.ok (.ret v)) s)) (er:Er F (λn=>k (.error n)) S (λx s=>R (.error x) s)) :
  codeAny Md A' (.call (.ref init) ⟨.ref a::aj,kws⟩) (InitBack a R) S1.s:=
 (H (F.inn dp A') (.c (.aA init)) (.ref n::as) ks (.ref init) (.ref a::aj) kws S1 (n1.2.inn i fK) rfl ⟨_,_,rfl,⟨_,hn⟩,has.up n1.1.1⟩ (hks.up n1.1.1)).run h (λS2 b v n2 vr h2=>aQ h2 λ_ e h2=>by
  rw [G9 e] at vr;exact ⟨vr,ok S2 (.ref n) (.ref a) ⟨n1.1.trans n2.1,n2.2.out i o⟩ ⟨_,n2.1.1.6 _ _ hn⟩ h2⟩) λS2 m b n2 e1 e2 h2=>er S2 m b ⟨n1.1.trans n2.1,n2.2.out i o⟩ e1 e2 h2
theorem Aj{b:Code}:In1 (A.under (.builtin "type.__call__" ⟨.ref C::aj,kws⟩)) A:=⟨rfl,rfl,rfl,rfl,rfl⟩
theorem vY{K:Frag}{f:Addr}(h:sN K C f=true):findIn K (.ref C) "__init__" = some (some (.ref f))/\typeIn K (.ref f)=some (.type "function"):=⟨beq_iff_eq.mp (bx h).1,beq_iff_eq.mp (bx h).2⟩
theorem Cu(H:tL cx r.call)(o:Ok F S){c:pH}(fK:F.e.dp=dp+1)(hm:makesIn cx.top.cH C=true)(hi:sN cx.top.cH C c.init=true)(has:ah S.W as aj)(hks:bY S.W ks kws) :
  Calls F (.call (.ref C) ⟨aj,kws⟩) (bindM (alloc (.inst C [])) λn=>bg (r.call F.e.hd dp (.c (.aA c.init)) (.ref n::as) ks) λv=>bindM (nP v) λ_=>dF (.ref n)) S:=λk R h ok er=>by
 have hi:=vY hi;have x:=o.sX (ob:=emptyDict) (uQ:=instObj C S.s.heap.objs.size) (mo:=.inst C []) rfl λo1 o2 g=>⟨_,o2,Nat.succ_ne_self _,g,⟨_,λ_=>none,o1,aas _ (abX _ rfl),⟨#[],0,rfl,⟨λ_ he=>by simp at he,abv _,λ_=>rfl⟩⟩,λx=>rfl⟩⟩
 obtain ⟨W,σ,hp,g,d,t,os⟩:=S;exact make_core (makes_of o.cH hm) (ahl o.cH hi.1) (λself=>bind_fn o.cH self hi.2) (.inl rfl) (EE H o x.1 x.2 fK has hks (Aj (b:=.call (.ref C) ⟨[],[]⟩)) h ok er)
end
section
variable{A:Around}{K:Frag}{C:Addr}{R:Result->Shared->Prop}{h:Heap}{g:Array GenState}{d:Drawn}{t:Nat}{os:OsState}
variable{nm q:Str}{N:Addr}{bs bm bmB:bU}{hdct:Bool}{sn:List Str}{sub:bU}{ab:Bool}{col:Option Bool}{dd:Option Addr}{k0 k1 k2 k3 k5:cK}{B newId initId:String}
noncomputable abbrev m8(C T:Addr):Obj:={ cls:=.ref C,data:=.fields #[.ref T,.none,.none,.none,.bool false,.none] }
theorem aeK{α β γ:Type}{P:α->β->γ->Prop}{a':α}{b':β}{c':γ}(h:P a' b' c'):∀a b c,a=a'->b=b'->c=c'->P a b c:=λ_ _ _ e1 e2 e3=>e1▸e2▸e3▸h
theorem Cv{E:b7}{Q:Bool->Shared->Prop}(hC:h.get? C=some (excClassObj nm q C N bs bm hdct sn sub ab col dd k0 k1 k2 k3 k5 newId))(hq:Q true ⟨h,g,d,t,os⟩):wpAny Md A (isType (.ref C)) Q E ⟨h,g,d,t,os⟩:=by
 unfold isType;repeat (first|refine ahE hC ?_|wp_step)
 exact hq
theorem Pn(F:ExcBaseFacts B newId initId bmB){rest:bU}(hC:h.get? C=some (excClassObj nm q C N bs bm hdct sn sub ab col dd k0 k1 k2 k3 k5 newId))
  (Zh:(Value.ref C::bm).contains (.type B)=true) {E:b7} {Q:Unit->Shared->Prop} (hq:Q () ⟨h,g,d,t,os⟩):wpAny Md A (checkBuiltinCall newId ⟨.ref C::rest,[]⟩) Q E ⟨h,g,d,t,os⟩:=by
 have hstar:=F.noStar;revert hC;have f1:=F.newKind;have f2:=F.newSplit;have f3:=F.newRow;delta checkBuiltinCall;revert f1 f2 f3;generalize builtinKind newId=a,splitId newId=b,Manifest.signature? newId=c;revert a b c;refine aeK λhC=>?_;dsimp only;repeat (first|refine Cv hC ?_|refine ahE hC ?_|(refine ahg hC ?_;rw [Zh])|refine wpAny_staticBase_exc hC ?_|refine wpAny_madeBy_exc hC ?_|refine wpAny_ite_false (by rw [bne_self_eq_false];rfl) ?_|wp_step)
 exact hq
theorem Po(F:ExcBaseFacts B newId initId bmB){rest:bU}(hC:h.get? C=some (excClassObj nm q C N bs bm hdct sn sub ab col dd k0 k1 k2 k3 k5 newId))
  (Zh:(Value.ref C::bm).contains (.type B)=true) (hcA:(Value.ref C::bm).contains (.type "AttributeError")=false) (hcN:(Value.ref C::bm).contains (.type "NameError")=false)
  (hq:R (.ok (.ret (.ref (h.objs.size+1)))) ⟨(h.push (d7 rest.toArray)).push (m8 C h.objs.size),g,d,t,os⟩) (hrest:rest.length<=sizeLine) :
  codeAny Md A (.call (.builtin newId) ⟨.ref C::rest,[]⟩) R ⟨h,g,d,t,os⟩:=by
 refine codeAny_call_builtin_code (aiB _ F.quiet) ?_;refine Pn F hC Zh ?_;have ag8:=F.ends;refine codeAny_builtinAt F.entry ?_;unfold Builtin.«BaseException.__new__»;refine PySem.wpAt_bind ?_;show PySem.wpAt _ _ _ (stack >>= _) _ _ _;refine PySem.wpAt_bind (PySem.wpAt_stack λp below=>aiy ?_);wp_walk;refine aiy ?_;rw [F.owner];repeat (first|with_reducible refine wpAny_madeHere_exc F.canon hC ?_|with_reducible refine ahE hC ?_|(with_reducible refine ahg hC ?_;first|rw [Zh]|rw [hcA]|rw [hcN])|wp_step)
 show R _ _;rw [acR];exact hq
end
end
section
open PySem PySem.W PySem.Calls PyProof.Rows
section
variable{A:Around}{K:Frag}{C:Addr}{R:Result->Shared->Prop}{h:Heap}{g:Array GenState}{d:Drawn}{t:Nat}{os:OsState}
inductive ExcAt(K:Frag)(h:Heap)(C:Addr):Prop
 |mk (nm q:Str) (N:Addr) (bs bm:bU) (hdct:Bool) (sn:List Str) (sub:bU) (ab:Bool) (col:Option Bool) (dd:Option Addr) (k0 k1 k2 k3 k5:cK) (g:h.get? C=some (excClassObj nm q C N bs bm hdct sn sub ab col dd k0 k1 k2 k3 k5 "Exception.__new__"))
   (hE:bm.contains (.type "Exception")=true) (hA:bm.contains (.type "AttributeError")=false) (hN:bm.contains (.type "NameError")=false) (call:Looks Md h (specialOf (.ref C) "__call__") (some (.builtin "type.__call__"))) (typ:Looks Md h (isInstance (.ref C) (.type "type")) true)
theorem iJ.at(X:K.In h)(m:iJ K C):ExcAt K h C:=m.casesOn λC' bm n cd di sl s0 s1 s2 s3 s5 e m l c=>by
 have c:=bx c;have c1:=bx c.1;have c2:=bx c1.1;have c3:=bx c2.1;have c4:=bx c3.1;have c5:=bx c4.1;have c6:=bx c5.1;have e1:=beq_iff_eq.mp c6.1;have e2:=beq_iff_eq.mp c6.2;obtain ⟨nm,bs,mro,ns,qn,hd,sn,sub,ab,col,del⟩:=cd;obtain ⟨sl⟩:=sl;have e3:=nZ c5.2;dsimp only at m l e3;subst m l e1 e2 e3;exact ⟨nm,qn,ns,bs,bm,hd,sn,sub,ab,col,di,s0,s1,s2,s3,s5,X _ _ e,c4.2,nZ c3.2,nZ c2.2,looks_specialIn X (beq_iff_eq.mp c1.2),looks_instIn X (beq_iff_eq.mp c.2)⟩
theorem KG{rest:bU}{init:Addr}(X:K.In h)(hm:iJ K C)(hi:findIn K (.ref C) "__init__" = some (some (.ref init)))(hf:typeIn K (.ref init)=some (.type "function"))(hrest:rest.length<=sizeLine)
  (hq:codeAny Md (A.under (.builtin "type.__call__" ⟨.ref C::rest,[]⟩)) (.call (.ref init) ⟨.ref (h.objs.size+1)::rest,[]⟩) (InitBack (h.objs.size+1) R) ⟨(h.push (d7 rest.toArray)).push (m8 C h.objs.size),g,d,t,os⟩) :
  codeAny Md A (.call (.ref C) ⟨rest,[]⟩) R ⟨h,g,d,t,os⟩:=by
 induction hm.at X with|mk nm q N bs bm hdct sn sub ab col dd k0 k1 k2 k3 k5 hC Zh hcA hcN call typ=>
 have F:=PySem.F.excBase_Exception;have made:Looks Md h (Bind.madeBy (.ref C)) (some "Exception.__new__"):=by
  obtain ⟨ag9,hl⟩:=h;intro A Q E s k q;obtain ⟨sh,sg,sd,st,so⟩:=s;exact wpAny_madeBy_exc (k _ _ hC) q
 have self:Looks Md h (isSubtype (.ref C) (.ref C)) true:=by
  intro A Q E s k q;obtain ⟨sh,sg,sd,st,so⟩:=s;refine ahg (k _ _ hC) ?_;rw [show (Value.ref C::bm).contains (.ref C)=true from by simp]
  exact q
 have aar:=ahl (M:=Md) X hi;have hb:∀self,Looks Md h (bindSpecial (.ref init) self) (.ref init,[self]):=λself=>bind_fn X self hf;refine ahf ?_;show wpAny _ _ (callAny (.ref C) _) _ _ _;refine nd_load hC ?_;show wpAny _ _ (callAny.viaDunder (.ref C) _) _ _ _;unfold callAny.viaDunder;refine aag (call.at ?_);dsimp only;rw [tc_bind];refine aag (aaq (aag (aaq ?_)));refine aaq (a:=Fin.again (.call (.builtin "type.__call__") ⟨.ref C::rest,[]⟩)) (And.intro rfl ?_);refine codeAny_call_builtin_at (aiB _ (by decide +kernel)) entry_typeCall (check_slot tc_kind tc_split typ (tc_args _ _ _) ?_)
 unfold Builtin.«type.__call__»;have ahY:Looks Md h (mroOf (.ref C)) (.ref C::bm):=((Looks.ld (part:=none) hC).andThen .now).andThen .now;repeat (first|with_reducible refine ahB ?_|lk|refine wpAny_ite_false aea ?_)
 refine Po F hC (by rw [adS,Zh,aiI]) (by rw [adS,hcA];rfl) (by rw [adS,hcN];rfl) ?_ hrest
 have k:∀b o,h.get? b=some o->((h.push (d7 rest.toArray)).push (m8 C h.objs.size)).get? b=some o:=λb o e=>aas _ (aas _ e);have hx:((h.push (d7 rest.toArray)).push (m8 C h.objs.size)).get? (h.objs.size+1)=some (m8 C h.objs.size):=Heap.get?_push_at (by rw [acR]) rfl
 have t1:Looks Md ((h.push (d7 rest.toArray)).push (m8 C h.objs.size)) (typeOf (.ref (h.objs.size+1))) (.ref C):=(Looks.ld hx).andThen .now;have s1:=self.keeps k;have i1:=aar.keeps k;have b1:=(hb (.ref (h.objs.size+1))).keeps k;unfold isInstance callSpecial? specialOf;repeat (first|with_reducible refine ahB ?_|lk)
 refine codeAny_mono hq λr s' z=>?_;rcases r with e|(v|_|_|_)<;>first|exact z|exact z.elim|skip
 obtain ⟨rfl,z⟩:=z;exact aaq (aaq z)
end
section
variable{cx:Cx Prop}{F:Fr cx}{S S1 S':Pt}{s:Shared}{A:Around}{r:dZ Prop}{dp n:Nat}{as:aY}{aj:bU}{ks:Lo}{kws:iF}{C:Addr}{x:Value}
theorem KH{K:Frag}(X:K.In s.heap)(hm:iJ K C):tK (.ref C) s:=(hm.at X).casesOn λ_ _ _ _ _ _ _ _ _ _ _ _ _ _ _ _ g _ _ _ call _=>Ai g call
theorem call_exc(H:tL cx r.call)(o:Ok F S){c:pH}(fK:F.e.dp=dp+1)(hm:iJ cx.top.cH C)(hi:sN cx.top.cH C c.init=true)(has:ah S.W as aj)(hl:Nat.ble (len as) 100=true) :
  Calls F (.call (.ref C) ⟨aj,[]⟩) (bindM (alloc (.exc C [] false true)) λn=>bg (r.call F.e.hd dp (.c (.aA c.init)) (.ref n::as) []) λv=>bindM (nP v) λ_=>dF (.ref n)) S:=λk R h ok er=>by
 have hi:=vY hi;have hl:=abV hl;have x:=o.sX (ob:=d7 aj.toArray) (uQ:=m8 C S.s.heap.objs.size) (mo:=.exc C [] false true) rfl λo1 o2 g=>⟨_,_,o2,g,rfl,rfl,abv 6,.no rfl,λ_=>rfl,.no⟩;obtain ⟨W,σ,hp,g,d,t,os⟩:=S;exact KG o.cH hm hi.1 hi.2 (by rw [← has.len,adZ];lia) (EE (ks:=[]) (kws:=[]) H o x.1 x.2 fK has rfl (Aj (b:=.call (.ref C) ⟨[],[]⟩)) h ok er)
theorem Pp{v:MV}{q:Fn×ja}:ZN v=some q->v =.clo q.1 q.2:=by
 induction v using MV.casesOn with
 |clo f cl=>exact λh=>by rw [← aap h]|_=>exact bq
theorem tM{v:MV}{a:Addr}:jr v=some a->v =.c (.aA a):=by
 induction v using MV.casesOn with
 |c c=>induction c using CV.casesOn with
  |aA b=>exact λh=>by rw [aap h]|_=>exact bq
 |_=>exact bq
theorem KI(H:ef cx r)(HS:xP cx)(o:Ok F S)(fK:F.e.dp=dp+1){a:Addr}{f:Fn}(hf:FnF S.W.aU a f)(has:ah S.W as aj)(hks:bY S.W ks kws):vX F (.ref a) aj kws (xu cx r F.e.hd dp a f as ks) S:=by
 induction hf with|mk ob fd g fr cl=>
 refine Calls.keep ?_ (ED (o.1.1 _ _ g) fr.1);unfold xu;induction q:aD a cx.spec with
 |some S'=>
  intro k R h ok er;refine aQ h λu e h=>?_;rw [gz e] at hks;rw [show kws=[] from hks]
  exact HS a S' q F as aj S dp fK o has k R h ok er
 |none=>exact xN H.exs o fK (o.1.1 _ _ g) fr (cl:=[]) (by rw [cl];rfl) has hks
theorem call_cls(H:ef cx r)(o:Ok F S)(fK:F.e.dp=dp+1){a:Addr}{c:pH}(hc:aD a cx.top.cls=some c)(has:ah S.W as aj)(hks:bY S.W ks kws):vX F (.ref a) aj kws (mkInst cx r F.e.hd dp a c as ks) S:=by
 have hk:=o.3.5 a c hc;unfold mkInst;induction q:c.isExc with
 |false=>
  refine bB λgg=>?_;obtain ⟨⟨oc,od,cd,sl,hC,_⟩,_,_,_,_,call,_⟩:=makes_of (M:=Md) o.cH (hk.9 q);refine gg ?_;exact (Cu H.call o fK (hk.9 q) hk.7 has hks).keep (Ai hC call)
 |true=>
  have hE:=o.3.6 a c hc q;refine Calls.keep (λk R h ok er=>?_) (KH o.cH hE.1);dsimp only at h;refine dK h λz h2=>?_;clear h;induction ks with
  |cons _ _=>exact bM (bx z).1|nil=>
   rw [show kws=[] from hks]
   exact call_exc H.call o fK hE.1 hk.7 has (bx z).2 k R h2 ok er
theorem Pq(H:ef cx r)(HS:xP cx):tL cx (sJ cx r):=by
 intro F g as ks x aj kws S o hg has hks;unfold sJ;induction fK:F.e.dp with
 |zero=>exact λk h=>h.elim|succ dp=>
  dsimp only;induction q:jr g with
  |some a=>
   rw [tM q] at hg;rw [show x =.ref a from hg]
   dsimp only;induction q2:aD a cx.top.fns with
   |some f=>exact KI H HS o fK (o.3.7 a f q2) has hks|none=>exact λk h=>aQ h λc e h=>call_cls H o fK e has hks k h
  |none=>
   exact λk h=>aQ h λp e h=>by
    rw [Pp e] at hg;induction hg with|mk a ob fd f1 f2 f3=>exact ((xN H.exs o fK (o.1.1 _ _ f1) f2 f3 has hks).keep (ED (o.1.1 _ _ f1) f2.1)) k h
end
end
section
variable{cx:Cx Prop}{F:Fr cx}{S S':Pt}{r:dZ Prop}{args:List Expr}{kws:List Keyword}{env:Env}{pos:Pos}
theorem mK:fj args=true->(backTo pos (starEach args env)).any (·.1)=false:=by
 induction args with
 |nil=>exact λ_=>rfl|cons x rest ih=>intro h;rw [gk (bx h).1];show (false||_)=false;rw [Bool.false_or];exact ih (bx h).2
abbrev KwS(pos:Pos)(kws:List Keyword)(env:Env):Prop:=P2 ((backToKw pos (keywordEach kws env)).all (·.1.isSome)=true) ((backToKw pos (keywordEach kws env)).any (·.1.isNone)=false)
theorem m9:qv kws=true->KwS pos kws env:=by
 induction kws with
 |nil=>exact λ_=>⟨rfl,rfl⟩|cons k rest ih=>
  obtain ⟨n,x,p⟩:=k;induction n with
  |none=>exact bM|some n=>exact λh=>⟨(ih h).1,(ih h).2⟩
def KwR(pos:Pos)(kws:List Keyword)(env:Env)(W:Wd)(l:Lo)(vs:bU):Prop:=bY W l (((backToKw pos (keywordEach kws env)).filterMap (·.1)).zip vs)
theorem KN(H:fJ cx r)(kws:List Keyword):∀{S:Pt},Ok F S->qv kws=true->Runs F (KwR pos kws F.env) (evalAll ((backToKw pos (keywordEach kws F.env)).map (·.2))) (qw r F.e kws) S:=by
 induction kws with
 |nil=>exact λo _ k Q E h q _=>ahF (q.same o (b:=[]) rfl h)|cons k rest ih=>
  obtain ⟨n,x,p⟩:=k;induction n with
  |none=>exact λ_=>bM|some n=>exact λo hk k Q E h q er=>wpAny_evalAll_cons (aag ((H.ev F x _ o).go h er λS1 a x n1 v1 h1=>aag (adj (aaq ((ih n1.2 hk).go h1 (er.aA n1) λS2 b y n2 v2 h2=>
    q S2 ((n,a)::b) _ (n1.trans n2) (bY.cons (v1.up n2.1.1) v2) h2)))))
theorem KO(H:fJ cx r){f:Value}(ha:fj args=true)(hk:qv kws=true)(o:Ok F S){γ:Type}{m:aY->Lo->M Prop (Ex γ)}{k:Ex γ->aq->Prop}(h:bg (IM r F.e args) (λas=>bg (qw r F.e kws) λks=>m as ks) S.σ k){Q:Args->Shared->Prop}{E:b7}
  (er:Er F (λn=>k (.error n)) S E) (ok:∀S' as aj ks uR,bH F S S'->ah S'.W as aj->bY S'.W ks uR->m as ks S'.σ k->Q ⟨aj,uR⟩ S'.s):wpAny Md F.A (evalArgs f true (backTo pos (starEach args F.env)) (backToKw pos (keywordEach kws F.env))) Q E S.s:=by
 have hkw:=(m9 (env:=F.env) (pos:=pos) hk).1;have fin:∀{S1:Pt}{as:aY}{aj:bU},bH F S S1->ah S1.W as aj->bg (qw r F.e kws) (λks=>m as ks) S1.σ k->
   wpAny Md F.A (evalAll ((backToKw pos (keywordEach kws F.env)).map (·.2))) (λks s2=>Q ⟨aj,((backToKw pos (keywordEach kws F.env)).filterMap (·.1)).zip ks⟩ s2) E S1.s:=λn1 v1 h1=>
  (KN H kws n1.2 hk).go h1 (er.aA n1) λS2 ks uR n2 v2 h2=>ok S2 _ _ ks _ (n1.trans n2) (v1.up n2.1.1) v2 h2
 induction args with
 |nil=>exact evalArgs_kw_nil hkw (fin (as:=[]) (.refl o) rfl h)|cons x rest=>
  have z:=(bx ha).1;have go:=(Ck (pos:=pos) H (x::rest) o).go h er λS1 as aj n1 v1 h1=>fin n1 v1 h1;rw [gk z] at go ⊢;exact evalArgs_kw hkw go
theorem lA{A:Around}{f:Value}{first:bU}{s:Shared}(ha:fj args=true)(hk:qv kws=true){Q:b7}{E:b7}
  (h:wpAny Md A (evalArgs f true (backTo pos (starEach args env)) (backToKw pos (keywordEach kws env))) (λa s1=>tK f s1/\wpAny Md A (call f (first++a.pos) a.kw) Q E s1) E s) :
  wpAny Md A (callWith pos f first (backTo pos (starEach args env)) (backToKw pos (keywordEach kws env))) Q E s:=by
 have hst:=mK (env:=env) (pos:=pos) ha;have hkw:=(m9 (env:=env) (pos:=pos) hk).2;unfold callWith;refine aag (acE (adX h (λa s1 h1=>aag (adj ?_)) λ_ _ z=>z));refine bB λgg=>?_;obtain ⟨⟨kp,hkp⟩,h1⟩:=h1;refine gg ?_;rw [hst,hkw];have tail:∀{t:Sem Value},wpAny Md A t Q E s1->wpAny Md A (t >>= λr=>holding [r] point >>= λ_=>pure r) Q E s1:=
  λht=>aag (adX ht (λr s₂ hr=>aag (acE (wpAny_point (aaq hr)))) λ_ _ x=>x)
 refine aag (hkp _ _ _ ?_);have mk:∀{m:Value},wpAny Md A (callMarked m f (first++a.pos) a.kw) Q E s1:=by intro m;unfold callMarked;exact Calls.wpAny_keep h1
 induction kp with
 |frame=>
  show wpAny _ _ (if _ then _ else _) _ _ _;split
  ·exact tail h1
  ·exact tail mk
 |boundFrame=>
  show wpAny _ _ (if _ then _ else _) _ _ _;split
  ·exact tail h1
  ·exact tail mk
 |machine=>exact tail h1|caller=>exact tail (wpAny_operating h1)
def KQ(F:Fr cx)(x:Value)(aj:bU)(kws:iF)(m:M Prop (Ex MV))(S:Pt):Prop:=∀k Q E,m S.σ k->Ev F VR (λb=>k (.ok b)) S Q->Er F (λn=>k (.error n)) S E->tK x S.s/\wpAny Md F.A (call x aj kws) Q E S.s
theorem l0(H:fJ cx r){f:Value}{first:bU}(ha:fj args=true)(hk:qv kws=true)(o:Ok F S){m:aY->Lo->M Prop (Ex MV)}(hm:∀S' as aj ks uR,bH F S S'->ah S'.W as aj->bY S'.W ks uR->KQ F f (first++aj) uR (m as ks) S') :
  Runs F VR (callWith pos f first (backTo pos (starEach args F.env)) (backToKw pos (keywordEach kws F.env))) (bg (IM r F.e args) λas=>bg (qw r F.e kws) λks=>m as ks) S:=λk Q E h q er=>
 lA ha hk (KO H ha hk o h er λS1 as aj ks uR n1 v1 b1 h1=>hm S1 as aj ks uR n1 v1 b1 k Q E h1 (q.aA n1) (er.aA n1))
noncomputable def lB:Nat->String
 |0=>"list.append" |1=>"list.pop" |2=>"list.extend" |3=>"dict.pop" |4=>"dict.update" |5=>"str.endswith" |_=>""
abbrev xQ(cx:Cx Prop):Prop:=P3 (∀(F:Fr cx) p id as aj S,Ok F S->ah S.W as aj->Runs F VR (call (.builtin id) aj) (blt cx F.e.hd p id as) S) (∀(F:Fr cx) p n as aj S,Ok F S->ah S.W as aj->Runs F VR (call (.type n) aj) (mkType cx p n as) S) (∀(F:Fr cx) v x i as aj S,Ok F S->ao S.W v x->ah S.W as aj->Runs F VR (call (.builtin (lB i)) (x::aj)) (uX v i as) S)
theorem oA{id:String}{s:Shared}:tK (.builtin id) s:=⟨.machine,λ_ _ _ q=>aaq q⟩
theorem vZ{n:String}{s:Shared}:tK (.type n) s:=⟨.machine,λ_ _ _ q=>aaq q⟩
abbrev tN(args:List Expr)(kws:List Keyword):Prop:=P3 (fj args=true) (qv kws=true) (args.length+kws.length<=20)
theorem Hf(h:Jc args kws=true):tN args kws:=⟨(bx (bx h).1).1,(bx (bx h).1).2,by have:=abV (bx h).2;rw [bl,bl] at this;exact this⟩
theorem pU(H:ef cx r)(o:Ok F S){g:MV}{x:Value}{as:aY}{aj:bU}{ks:Lo}{uR:iF}(hg:ao S.W g x)(ha:ah S.W as aj)(hk:bY S.W ks uR):KQ F x aj uR (r.call F.e.hd F.e.dp g as ks) S:=λk Q E h q er=>
 have c:=H.call F g as ks x aj uR S o hg ha hk k h;⟨c.1,ahB (c.2 k _ rfl (λS' b a n v h=>q S' b a n v h) er)⟩
theorem Pr{v:MV}{id:String}:Uv v=some id->v =.c (.blt id):=by
 induction v using MV.casesOn with
 |c c=>induction c using CV.casesOn with
  |blt b=>exact λh=>by rw [aap h]|_=>exact bq
 |_=>exact bq
theorem Pu{v:MV}{id:String}:Uw v=some id->v =.c (.type id):=by
 induction v using MV.casesOn with
 |c c=>induction c using CV.casesOn with
  |type b=>exact λh=>by rw [aap h]|_=>exact bq
 |_=>exact bq
theorem Ak(H:ef cx r)(HB:xQ cx)(o:Ok F S){p:Pos}{typ:Bool}{g:MV}{x:Value}{as:aY}{aj:bU}{ks:Lo}{uR:iF}(hg:ao S.W g x)(ha:ah S.W as aj)(hk:bY S.W ks uR):KQ F x aj uR (vF cx r F.e p typ g as ks) S:=by
 have c:=pU H o hg ha hk;induction ks with
 |cons _ _=>exact c|nil=>
  rw [show uR=[] from hk] at c ⊢
  unfold vF;induction q:Uv g with
  |some id=>
   rw [Pr q] at hg;rw [show x =.builtin id from hg]
   exact λk Q E h q er=>⟨oA,HB.1 F p id as aj S o ha k Q E h q er⟩
  |none=>
   dsimp only;induction q2:eF typ (Uw g) with
   |some n=>
    rw [Pu (bz q2).2] at hg;rw [show x =.type n from hg]
    exact λk Q E h q er=>⟨vZ,HB.2 F p n as aj S o ha k Q E h q er⟩
   |none=>exact c
theorem v5{o:Expr}{attr:Str}{whole:Sem Value}:xe o=true->attributeBase o attr env whole=whole:=by
 cases o with
 |Call f as ks pos=>cases f with
  |Name id p=>induction as with
   |nil=>induction ks with
    |nil=>
     intro h;refine Eq.trans (if_pos ?_) rfl;rw [show (id != "super")=true from bne_iff_ne.mpr (dh.mp (nZ h)),aiJ,aiJ,aiJ]
    |cons=>exact λ_=>rfl
   |cons=>exact λ_=>rfl
  |_=>exact λ_=>rfl
 |_=>exact λ_=>rfl
theorem Pw(H:fJ cx r)(o:Ok F S){x:Expr}{n:Str}{p:Pos}:Runs F VR (eval (.Attribute x n p) F.env) (Oa cx r F.e (.Attribute x n p)) S:=λk Q E h q er=>dK h λhb h=>by
 rw [arm_eval_Attribute,v5 hb];exact aag ((H.ev F x S o).go h er λS1 v y n1 v1 h1=>aag (adj (aag (acE (bB λgg=>eH h1 λu e h2=>dK h2 λz h2=>gg <|(zW n1.2 v1 n).get e (nZ z) _ _ _ λz tk hz=>
  aag (wpAny_letTemporaryGo (aaq ((q.aA n1).here n1.2 hz h2 tk))))))))
theorem KS{f:Expr}{q:Expr×Str×Pos}:zu f=some q->f =.Attribute q.1 q.2.1 q.2.2:=by
 cases f with
 |Attribute o n p=>exact λh=>by rw [← aap h]|_=>exact bq
theorem v7{f:Expr}{p:Pos}:zu f=none->eval (.Call f args kws p) env=(do callWith p (← eval f env) [] (backTo p (starEach args env)) (backToKw p (keywordEach kws env))):=by
 cases f with
 |Attribute o n p=>exact λh=>bq h.symm|_=>exact λ_=>rfl
theorem Px(H:ef cx r)(HB:xQ cx)(o:Ok F S){f:Expr}{p:Pos}(ha:tN args kws)(hf:zu f=none) :
  Runs F VR (eval (.Call f args kws p) F.env) (bg (r.ev F.e f) λg=>bg (IM r F.e args) λas=>bg (qw r F.e kws) λks=>vF cx r F.e p true g as ks) S:=λk Q E h q er=>by
 rw [v7 hf];exact aag ((H.ev F f S o).go h er λS1 g x n1 v1 h1=>l0 (first:=[]) H.tofJ ha.1 ha.2 n1.2 (λS2 as aj ks uR n2 v2 b2=>Ak H HB n2.2 (ao.up v1 n2.1.1) v2 b2) k Q E h1 (q.aA n1) (er.aA n1))
end
section
variable{env:Env}{args:List Expr}{kws:List Keyword}{pos:Pos}{A:Around}{s:Shared}
theorem xR(h:tN args kws):methodCallForm (args.length+kws.length) (backTo pos (starEach args env)) (backToKw pos (keywordEach kws env))=true:=by
 have h1:=mK (env:=env) (pos:=pos) h.1;have hn:=h.3;unfold methodCallForm;rw [(m9 (env:=env) (pos:=pos) h.2).1];rw [show (backTo pos (starEach args env)).all (λx=>!x.1)=true from List.all_eq_true.mpr λx hx=>by have:=(List.any_eq_false.mp h1) x hx;simpa using this]
 simp only [Bool.true_and,decide_eq_true_eq];split<;>lia
theorem tO{x:Expr}{n:Str}{q p:Pos}{y:Value}(ha:tN args kws)(hl:Nat.beq q.endLine p.line=true){Q:b7}{E:b7}
  (h:∀pl,wpAny Md A (getMethod y n pl) (λfv s1=>wpAny Md A (callWith p fv.1 fv.2 (backTo p (starEach args env)) (backToKw p (keywordEach kws env))) Q E s1) E s) :
  wpAny Md A (methodCall x n q p env y (args.length+kws.length) (backTo p (starEach args env)) (backToKw p (keywordEach kws env))) Q E s:=by
 unfold methodCall;rw [xR (env:=env) (pos:=p) ha];refine aag (acE (adX (h _) (λfv s1 h1=>?_) λ_ _ z=>z));have hline:(q.endLine==p.line)=true:=beq_iff_eq.mpr (aax hl);have hpos:methodCallPos true x env q p=pure p:=by unfold methodCallPos;simp [hline]
 exact aag (wpAny_of_eq hpos h1)
def Py(y:Value)(n:Str)(s:Shared)(i:Nat):Prop:=∀(A:Around)(pl:Sem Bool)(Q:Value×bU->Shared->Prop)(E:b7),Q (.builtin (lB i),[y]) s->wpAny Md A (getMethod y n pl) Q E s
theorem iO{n:Str}{m:String}{α:Type}{a:α}{o:Option α}{P:α->Prop}(h1:n=m->P a)(h2:aZ P o):aZ P (match cD n m with|true=>some a|false=>o):=by
 induction q:cD n m with
 |true=>exact h1 (dI.mp q)|false=>exact h2
def NoD(y:Value)(s:Shared):Prop:=∀b,y =.ref b->∃ob,s.heap.get? b=some ob/\ob.dict=none
theorem KU{y:Value}{n:Str}(t1:s.TypeIs y "list")(t2:NoD y s):aZ (Py y n s) (Sg n):=
 iO (λe A pl Q E hq=>by rw [e];exact aeR t1 aeU ahG ahH t2 hq)
  (iO (λe A pl Q E hq=>by rw [e];exact aeR t1 aeU PySem.F.slot_list_pop PySem.F.type_list_pop t2 hq)
   (iO (λe A pl Q E hq=>by rw [e];exact aeR t1 aeU ahI PySem.F.type_list_extend t2 hq) trivial))
theorem KV{y:Value}{n:Str}(t1:s.TypeIs y "dict")(t2:NoD y s):aZ (Py y n s) (Sh n):=
 iO (λe A pl Q E hq=>by rw [e];exact aeR t1 ahU ain PySem.F.type_dict_pop t2 hq)
  (iO (λe A pl Q E hq=>by rw [e];exact aeR t1 ahU ahJ PySem.F.type_dict_update t2 hq) trivial)
def Vh(y:Value)(n:Str)(s:Shared)(i:Option Nat):Prop:=∀j,i=some j->Py y n s j
theorem aZ.SK{y:Value}{n:Str}{o:Option Nat}(h:aZ (Py y n s) o):aZ (Vh y n s) (match (generalizing:=false) o with|some i=>some (some i)|none=>none):=by
 induction o with
 |none=>trivial|some i=>exact λj e=>aap e▸h
theorem gY.typ{W:Wd}{i:Nat}{a:Addr}{l:aY}(c:gY W i a s.heap l):s.TypeIs (.ref a) "list" /\NoD (.ref a) s:=c.casesOn λxs n ow g r sz=>⟨⟨_,g,rfl⟩,λb z=>by cases z;exact ⟨_,g,rfl⟩⟩
theorem Gs.typ{W:Wd}{i:Nat}{a:Addr}{k:Nat}(c:Gs W i a s.heap k):s.TypeIs (.ref a) "list" /\NoD (.ref a) s:=c.casesOn λxs n ow g r sz=>⟨⟨_,g,rfl⟩,λb z=>by cases z;exact ⟨_,g,rfl⟩⟩
theorem d8.typ{W:Wd}{i:Nat}{a:Addr}{fs:Lo}(c:d8 W i fs a s.heap):s.TypeIs (.ref a) "dict" /\NoD (.ref a) s:=c.casesOn λo g ow e say r=>say.casesOn λes ep z hs=>by subst z;exact ⟨⟨_,e,rfl⟩,λb z=>by cases z;exact ⟨_,e,rfl⟩⟩
section
variable{cx:Cx Prop}{F:Fr cx}{S:Pt}{r:dZ Prop}{v:MV}{n:Str}{y:Value}
theorem Cw(o:Ok F S){i:Nat}{a:Addr}(hn:af S.W.ρ i=some a){mo:MO}(hi:af S.σ i=some mo):aZ (Vh (.ref a) n S.s) (Je mo n):=by
 cases mo with
 |list pre back=>exact (KU (o.lst hn hi).typ.1 (o.lst hn hi).typ.2).SK|vB k=>
  have c:=Gs.typ (s:=S.s) (o.cell hn hi);exact iO (λe j z A pl Q E hq=>by cases z;rw [e];exact aeR c.1 aeU ahG ahH c.2 hq) trivial
 |dict es=>exact (KV (o.Eh hn hi).typ.1 (o.Eh hn hi).typ.2).SK|known=>trivial|_=>exact λj=>bq
theorem Cy(o:Ok F S):∀hv:ao S.W v y,aZ (Vh y n S.s) (BS v n S.σ):=by
 refine MV.el v (λc hv=>?_) (λi hv=>?_) (λl _ j=>bq) λf l _ j=>bq
 ·cases c with
  |str z=>exact cP.casesOn hv λt=>iO (λe j q A pl Q E hq=>by cases q;rw [e];exact GM.endswith hq) trivial
  |_=>exact λj=>bq
 ·refine iw.casesOn hv λa ha=>?_
  dsimp only [BS];cases q:af S.σ i with
  |none=>trivial|some mo=>exact Cw o ha q
noncomputable def recv(y:Value):Bool->bU
 |true=>[y]|false=>[]
def Pz(F:Fr cx)(S:Pt)(y:Value)(x:Str)(u:MV×Bool):Prop:=∀(pl:Sem Bool)(Q:Value×bU->Shared->Prop)(E:b7),(∀z tk,ao S.W u.1 z->Q (z,recv y u.2) { S.s with toks:=tk })->wpAny Md F.A (getMethod y x pl) Q E S.s
theorem KW(o:Ok F S){C:Addr}{fs:Lo}(h:zM S.W S.s.heap C fs y)(he:cM cx C=false){u:MV×Bool}(hu:gf cx C fs n=some u):Pz F S y n u:=λpl Q E q=>by
 have h0:=h;induction h with|mk a d ob g e ed say r=>
 have I:=rD e ed;induction m6.get hu with
 |uX c f hc ha hn=>
  have hk:=o.3.5 C c hc;have hx:=(pT hc).symm.trans he;have g1:=hk.5 n f ha;refine PySem.W.method_fn o.cH I (hk.10 hx) (hk.11 hx) g1.1 g1.2.1 ?_ (q _ S.s.toks rfl);show (PySem.W.lookIn n ob).map (·.isSome)=some false
  rw [say.lookIn n,show g n=none from by have:=r n;rw [hn] at this;exact this];rfl
 |own c v hc ha hn hb=>
  have hk:=o.3.5 C c hc;have hx:=(pT hc).symm.trans he;exact PySem.W.method_usual o.cH I (hk.10 hx) (hk.11 hx) (hk.6 n ha) rfl (get_ins o h0 he hu rfl false _ _ λz tk hz=>q z tk hz)
end
section
open PySem.W PySem.Calls PyProof.Rows Builtin Builtin.ObjectAttr
variable{E:b7}
theorem KY:findCls [] (.type "Exception") (.type "type") "__init__" = some (.val (.builtin "Exception.__init__")):=by kernel_rfl
theorem Cz:handedIn (.builtin "Exception.__init__")=true:=by decide +kernel
theorem v8:Looks Md s.heap (typeOf (.type "Exception")) (.type "type"):=Looks.of_pure (kitMeta_of (by decide +kernel))
theorem KZ{expr:Bool}{Q:b7}(h:Q (.builtin "Exception.__init__") { s with toks:=s.toks+1 }):wpAny Md A (getAttr (.type "Exception") "__init__" expr) Q E s:=by
 have X:Frag.In [] s.heap:=λa o e=>by exact bq e
 have aat:opaqueClassAbove (.type "Exception")=pure none:=by unfold opaqueClassAbove;dsimp only;rw [show Manifest.isStub "Exception" = false from by decide +kernel];rfl
 exact cls_open X (Looks.of_pure aat) v8 type_tga (looks_hook X (r:=none) (by rfl)) (by show subIn [] _ _=_;rfl) KY (aaq (handed_on Cz h))
theorem CA(pl:Sem Bool)(Q:Value×bU->Shared->Prop)(E:b7)(h:∀tk,Q (.builtin "Exception.__init__",[]) { s with toks:=tk }):wpAny Md A (getMethod (.type "Exception") "__init__" pl) Q E s:=by
 have X:Frag.In [] s.heap:=λa o e=>by exact bq e
 unfold getMethod;refine aag ((show Looks Md s.heap (specialOf (.type "Exception") "__getattribute__") _ from v8.andThen (ahl X type_tga)).here ?_)
 dsimp only;rw [if_pos canon_tga];exact aag (KZ (aaq (h _)))
end
section
variable{cx:Cx Prop}{F:Fr cx}{S:Pt}{r:dZ Prop}{v:MV}{n:Str}{y:Value}
theorem K0(o:Ok F S){C:Addr}{f:MV}(h:Pb cx C n f):Pz F S (.ref C) n (f,false):=λpl Q E q=>
 h.casesOn (motive:=λf _=>_->_->wpAny Md F.A (getMethod (.ref C) n pl) Q E S.s) (λc f hc ha h q=>PySem.W.method_cls o.cH (o.3.5 C c hc).8 (get_cls o h false _ _ λz tk hz=>q z tk hz)) h q
theorem K1:∀hv:ao S.W v y,aZ (Pz F S y n) (sA v n):=by
 refine MV.el v (λc hv=>?_) (λ_ _=>trivial) (λ_ _=>trivial) λ_ _ _=>trivial;induction c using CV.casesOn with
 |type t=>
  dsimp only [sA];induction q:cD n "__init__" with
  |false=>trivial|true=>
   dsimp only;induction q2:(t=="Exception") with
   |false=>trivial|true=>intro pl Q E h;rw [dI.mp q,show y =.type t from hv,beq_iff_eq.mp q2];exact CA pl Q E λtk=>h _ tk rfl
 |_=>trivial
theorem K2(o:Ok F S)(hv:ao S.W v y):aZ (Pz F S y n) (pI cx v n S.σ):=by
 unfold pI;induction q:refOf v with
 |some i=>
  dsimp only;induction q2:objOf S.σ v with
  |none=>trivial|some p=>
   dsimp only;induction q3:cM cx p.1 with
   |true=>trivial|false=>
    induction q4:gf cx p.1 p.2 n with
    |none=>trivial|some u=>exact KW o (JP o hv q2) q3 q4
 |none=>
  dsimp only;induction q2:jr v with
  |some C=>
   rw [tM q2] at hv;rw [show y =.ref C from hv]
   dsimp only;induction q3:lU cx C n with
   |none=>trivial|some f=>exact K0 o (qD.get q3)
  |none=>exact K1 hv
theorem Hg(H:ef cx r)(HB:xQ cx)(o:Ok F S){x:Expr}{q:Pos}{p:Pos}(ha:tN args kws)(h1:xe x=true)(h2:Nat.beq q.endLine p.line=true) :
  Runs F VR (eval (.Call (.Attribute x n q) args kws p) F.env) (Jm cx r F.e x n args kws p) S:=λk Q E h qq er=>by
 rw [arm_eval_Call,v5 h1];refine aag ((H.ev F x S o).go h er λS1 v y n1 v1 h1=>aag (adj (tO ha h2 λpl=>eH h1 λi e h3=>?_)));have g:=(Cy n1.2 v1).get e;induction i with
 |some i=>
  refine aQ h3 λu e h3=>g i rfl F.A pl _ _ ?_;rw [gz e] at ha ⊢;exact l0 (kws:=[]) (first:=[y]) (m:=λas ks=>bindM (aR (pJ ks)) λ_=>uX v i as) H.tofJ ha.1 rfl n1.2 (λS2 as aj ks uR n2 v2 b2 k Q E h q er=>aQ h λu e h=>by
   rw [gz e] at b2;rw [show uR=[] from b2]
   exact ⟨oA,HB.3 F v y i as aj S2 n2.2 (ao.up v1 n2.1.1) v2 k Q E h q er⟩) k Q E h3 (qq.aA n1) (er.aA n1)
 |none=>
  refine eH h3 λu e h3=>(K2 n1.2 v1).get e pl _ _ λz tk hz=>?_;have n2:=n1.2.tok tk;obtain ⟨u,b⟩:=u;induction b with
  |true=>exact l0 (first:=[y]) (m:=λas ks=>r.call F.e.hd F.e.dp u (v::as) ks) H.tofJ ha.1 ha.2 n2.2 (λS2 as aj ks uR n3 v3 b3=>pU H n3.2 (ao.up hz n3.1.1) ⟨_,_,rfl,ao.up v1 (n2.trans n3).1.1,v3⟩ b3) k Q E h3 (qq.aA (n1.trans n2)) (er.aA (n1.trans n2))
  |false=>exact l0 (first:=[]) (m:=λas ks=>vF cx r F.e p false u as ks) H.tofJ ha.1 ha.2 n2.2 (λS2 as aj ks uR n3 v3 b3=>Ak H HB n3.2 (ao.up hz n3.1.1) v3 b3) k Q E h3 (qq.aA (n1.trans n2)) (er.aA (n1.trans n2))
end
end
section
variable{cx:Cx Prop}{F:Fr cx}{S S':Pt}{W W2:Wd}{x:Addr}{ox:Obj}
def Wd.keep(W:Wd)(x:Addr)(o:Obj):Wd:=⟨W.aU,cO W.own x (some (.kept o)),W.ρ⟩
def Wd.drop(W:Wd)(x:Addr):Wd:=⟨W.aU,cO W.own x none,W.ρ⟩
def Pt.keep(S:Pt)(x:Addr)(o:Obj):Pt:=⟨S.W.keep x o,S.σ,S.s⟩
def Pt.drop(S:Pt)(x:Addr):Pt:=⟨S.W.drop x,S.σ,S.s⟩
theorem Wd.dj(h:W.own x=none){a:Addr}{r:aH}(e:W.own a=some r):a≠x:=λz=>by rw [z,h] at e;exact bq e
theorem Wd.iP(h:W.own x=none){a:Addr}{r:aH}(e:W.own a=some r):(W.keep x ox).own a=some r:=(aM (Wd.dj h e)).trans e
theorem Wd.PA(h:W.own x=none):W.Le (W.keep x ox):=⟨λ_ _ e=>e,λ_ _=>iP h,λ_ _=>iP h,λ_=>iP h,λ_ _=>iP h,λ_ _ e=>e⟩
theorem Wd.rF(h:W.own x=none)(le:(W.keep x ox).Le W2):W.Le (W2.drop x):=by
 have z:∀{a r},W.own a=some r->((W.keep x ox).own a=some r->W2.own a=some r)->(W2.drop x).own a=some r:=λe q=>(aM (Wd.dj h e)).trans (q (iP h e));exact ⟨le.1,λa o e=>z e (le.2 _ _),λa o e=>z e (le.3 _ _),λa e=>z e (le.4 _),λa p e=>z e (le.5 _ _),le.6⟩
theorem Ok.jO(o:Ok F S)(h1:S.W.own x=none)(h2:S.W.aU x=none)(h3:S.s.heap.get? x=some ox):bH F S (S.keep x ox):=
 o.up ⟨Wd.PA h1,rfl,rfl,rfl⟩ (o.1.own (λ_ _ _ e=>e) (abv _) (λb i=>Wd.iP h1) (λb _=>Wd.iP h1) λb r e=>(bX e).elim (λz=>.inr (by obtain ⟨z1,z2⟩:=z;rw [z1,← aap z2];exact ⟨h2,.kept ox h3⟩)) λz=>.inl z.2) λ_ e=>e
theorem Ok.l5(o:Ok F S)(h1:S.W.own x=some (.kept ox)):Ok F (S.drop x):=by
 have out:∀{a r},S.W.own a=some r->r≠ .kept ox->(S.W.drop x).own a=some r:=λe n=>(aM (aT.dj e h1 n)).trans e;exact ⟨o.1.own (λ_ _ _ e=>e) (abv _) (λb i e=>out e nofun) (λb _ e=>out e nofun) λb r e=>(bX e).elim (λz=>nomatch z.2) λz=>.inl z.2,
  ⟨o.2.1,o.2.2,out o.2.3 nofun,o.2.4.elim λg z=>⟨g,z.1,λy v q=>(z.2 y v q).elim λy w=>⟨y,w.1,ao.up' (W:=S.W) (W':=S.W.drop x) ⟨λ_ _ e=>e,λ_ _ e=>e⟩ _ _ w.2⟩⟩,o.2.5,o.2.6,o.2.7,o.2.8,o.2.9⟩,o.3,
  ⟨dH.low (W:=S.W) (W':=S.W.drop x) ⟨λ_ _ e=>e,λ_ _ e=>e⟩ o.4.1,o.4.2,o.4.3,o.4.4.elim λouter z=>⟨outer,z.1,λy hy=>(z.2 y hy).casesOn λk L ob f ow nf=>⟨k,L,ob,f,out ow nofun,nf⟩⟩,o.4.5⟩⟩
theorem Ok.free(o:Ok F S){h':Heap}{tk:Nat}(h1:S.W.own x=none)(h2:S.W.aU x=none)(k:∀b ob,b≠x->S.s.heap.get? b=some ob->h'.get? b=some ob)(sz:S.s.heap.objs.size<=h'.objs.size):bH F S (S.at h' tk):=
 o.up ⟨.refl _,rfl,rfl,rfl⟩ (o.1.own (own':=S.W.own) (λb ob n e=>k b ob (λz=>n.elim (λn=>n (z▸h2)) λn=>n (z▸h1)) e) sz (λ_ _ e=>e) (λ_ _ e=>e) λ_ _ e=>.inl e) λob q=>k _ _ (Wd.dj h1 o.2.3) q
theorem Ok.v9(o:Ok F S){h':Heap}{tk:Nat}(h1:S.W.own x=none)(h2:S.W.aU x=none)(k:Heap.SameBut x S.s.heap h'):bH F S (S.at h' tk):=o.free h1 h2 (λb ob hb e=>(k.2 b hb).trans e) (adW k.1.symm)
inductive ItF(W:Wd)(h:Heap)(x:Addr)(aj:bU)(i:Nat):Prop
 |lst (a:Addr) (n:Nat) (g:W.aU a=some (aX aj.toArray n)) (it:h.IsListIter x a i)|tup (a:Addr) (g:W.aU a=some (d7 aj.toArray)) (it:h.IsTupleIter x a i)
inductive ItL(W:Wd)(h:Heap)(x:Addr)(i:Nat):MV->Prop|mk (n:Nat) (a:Addr) (ha:af W.ρ n=some a) (it:h.IsListIter x a i):ItL W h x i (.ref n)
inductive ItR(h:Heap)(x:Addr)(i stop:Int):Prop|mk (left:Int) (g:IsRangeIter h x i left 1) (e:left<=0↔stop<=i) (l:i<stop->left=stop-i)
def tP(W:Wd)(h:Heap)(x:Addr):It->Prop
 |.seq v i=>ItL W h x i v|.dO l=>∃aj i,ItF W h x aj i/\bO W.aU l (aj.drop i)|.range i stop=>ItR h x i stop
theorem tP.up{h h':Heap}{it:It}(k:W.Le W2)(kh:∀o,h.get? x=some o->h'.get? x=some o)(H:tP W h x it):tP W2 h' x it:=by
 induction it with
 |seq v i=>induction H with|mk n a ha it=>exact ⟨n,a,k.6 _ _ ha,it.elim λo z=>⟨o,kh _ z.1,z.2⟩⟩
 |dO l=>
  obtain ⟨aj,i,e1,e2⟩:=H;refine ⟨aj,i,?_,e2.mono k.1⟩;induction e1 with
  |lst a n g it=>exact .lst a n (k.1 _ _ g) (it.elim λo z=>⟨o,kh _ z.1,z.2⟩)|tup a g it=>exact .tup a (k.1 _ _ g) (it.elim λo z=>⟨o,kh _ z.1,z.2⟩)
 |range i stop=>exact H.casesOn λl g e l'=>⟨l,kh _ g,e,l'⟩
theorem d9.ne2{A:Around}{h:Heap}{o:Obj}{vs:ig}(hc:d9 A h)(ho:h.get? x=some o)(hd:o.data =.fields vs)(hv:vs[2]?≠some .none):A.handled≠some (.ref x):=λz=>by
 cases hc with
 |no e=>exact bq (e.symm.trans z)|yes b ob vs' e g d n=>
  rw [e] at z;cases z;rw [ho] at g;cases g;rw [hd] at d;cases d;exact hv n
theorem tQ{A:Around}{s:Shared}{E:b7}{i left step:Int}{Q:cK->Shared->Prop}(hc:d9 A s.heap)(hit:IsRangeIter s.heap x i left step)(hleft:left<=0)
  (hQ:∀h',Heap.ExtBut x s.heap h'->s.heap.objs.size<=h'.objs.size->Q none { s with heap:=h' }):wpAny Md A (pyNext (.ref x)) Q E s:=by
 have hT:s.TypeIs (.ref x) "range_iterator" :=⟨_,hit,rfl⟩;unfold pyNext;refine aag (ahQ (aeg (name:=Str.ofString "__next__") hT agE
  (afX agE hT PySem.F.entry_range_iterator_next ?_ (PySem.F.args_range_iterator_next_1 _))))
 show wpAny _ _ (field (.ref x) 0 >>= _) _ _ s;refine aag (adT hit rfl (x:=rawInt i) rfl ?_);show wpAny _ _ (field (.ref x) 1 >>= _) _ _ s;refine aag (adT hit rfl (x:=rawInt left) rfl ?_);show wpAny _ _ (field (.ref x) 2 >>= _) _ _ s;refine aag (adT hit rfl (x:=rawInt step) rfl ?_);show wpAny _ _ (if left<=0 then _ else _) _ _ s;rw [if_pos hleft];refine aag (agk ?_);refine aag ?_;show wpAny _ _ (newExc (.type "StopIteration") [] >>= raiseNew) _ _ _;refine m7 (hc.keeps (A:=A) rfl λb ob z e=>e) λy h' k hz hT=>?_;refine aag (agZ (T:="StopIteration") (b:=true) hT aiu ?_);exact aaq (hQ _ (λb ob hb e=>k _ _ e) hz)
inductive oE(h:Heap)(x:Addr):Prop
 |mk (o:Obj) (n:String) (g:h.get? x=some o) (c:o.cls =.type n) (k:["enumerate","zip","dict_itemiterator","dict_reverseitemiterator","odict_iterator","itertools.zip_longest","itertools.pairwise"].contains n=false)
def wc(F:Fr cx)(S:Pt)(x:Addr):Option (MV×It)->Prop
 |some p=>∀(Q:cK->Shared->Prop)(E:b7),(∀h' tk y,ao S.W p.1 y->tP S.W h' x p.2->oE h' x->bH F S (S.at h' tk)->Q (some y) (S.at h' tk).s)->wpAny Md F.A (pyNext (.ref x)) Q E S.s|none=>d9 F.A S.s.heap->∀(Q:cK->Shared->Prop)(E:b7),(∀h',bH F S (S.at h' S.s.toks)->Q none (S.at h' S.s.toks).s)->wpAny Md F.A (pyNext (.ref x)) Q E S.s
theorem ended(o:Ok F S)(h1:S.W.own x=none)(h2:S.W.aU x=none){a:Addr}{i:Nat}{items:ig}(hs:tB S.s.heap x a i items)(hn:items[i]?=none):wc F S x none:=λhc Q E q=>
 have hne:F.A.handled≠some (.ref x):=hs.elim (λz=>z.1.elim λob g=>hc.ne2 g.1 g.2.2 (by simp)) λz=>z.1.elim λob g=>hc.ne2 g.1 g.2.2 (by simp)
 EC hc hne hs hn λh' k1 sz=>q h' (o.free h1 h2 (λb ob hb e=>k1 b ob hb e) sz)
theorem EF{h:Heap}{a:Addr}{i:Nat}(it:h.IsListIter x a i):oE h x:=it.elim λob g=>⟨ob,_,g.1,g.2.1,by decide⟩
theorem PB{h:Heap}{a:Addr}{i:Nat}(it:h.IsTupleIter x a i):oE h x:=it.elim λob g=>⟨ob,_,g.1,g.2.1,by decide⟩
theorem K3{α:Type}{l:List α}{xs:bU}{i:Nat}(e:len l=xs.length)(h:af l i=none):xs.toArray[i]?=none:=by
 rw [bW,aed,← bl,e] at h;rw [afs];exact aed.mpr h
theorem Al(o:Ok F S)(h1:S.W.own x=none)(h2:S.W.aU x=none){n:Nat}{a:Addr}{i:Nat}(ha:af S.W.ρ n=some a)(it:S.s.heap.IsListIter x a i){pre:az}{back:aY}(q:af S.σ n=some (.list pre back)) :
  wc F S x (match (generalizing:=false) af (cat (bT pre) (rev back [])) i with|some v=>some (v,.seq (.ref n) (i+1))|none=>none):=(o.lst ha q).casesOn λxs m ow g r sz=>by
 have hl:S.s.heap.IsList a xs.toArray:=⟨_,g,rfl,m,rfl⟩;induction q3:af (cat (bT pre) (rev back [])) i with
 |none=>exact ended o h1 h2 (.inl ⟨it,hl⟩) (K3 r.len q3)|some v=>exact λQ E q=>(r.af q3).elim λy z=>agF it hl (x:=y) (by rw [afs];exact z.1) λh' k1 sb=>q h' S.s.toks y z.2 ⟨n,a,ha,k1⟩ (EF k1) (o.v9 h1 h2 sb)
theorem Am{α:Type}:∀{l:List α}{i:Nat}{x:α}{r:List α},l.drop i=x::r->l[i]?=some x/\l.drop (i+1)=r
 | [],i,x,r,h=>by simp at h|y::l,0,x,r,h=>by cases h;exact ⟨rfl,rfl⟩
 |y::l,i+1,x,r,h=>by
  have:=Am (l:=l) (i:=i) h;exact ⟨by rw [agu];exact this.1,this.2⟩
theorem K4(o:Ok F S)(h1:S.W.own x=none)(h2:S.W.aU x=none){aj:bU}{i:Nat}(it:ItF S.W S.s.heap x aj i){l:az}(r:bO S.W.aU l (aj.drop i)):wc F S x (match (generalizing:=false) l with|x::r=>some (.c x,.dO r) | []=>none):=by
 induction l with
 |nil=>
  have hn:aj.toArray[i]?=none:=by rw [afs];exact aed.mpr (List.drop_eq_nil_iff.mp r)
  induction it with
  |lst a n g it=>exact ended o h1 h2 (.inl ⟨it,_,o.1.1 _ _ g,rfl,n,rfl⟩) hn|tup a g it=>exact ended o h1 h2 (.inr ⟨it,_,o.1.1 _ _ g,rfl,0,rfl⟩) hn
 |cons c l=>
  refine bB λgg=>?_;obtain ⟨y,rest,hd,p1,p2⟩:=r;refine gg ?_;have d:=Am hd;have hx:aj.toArray[i]?=some y:=by rw [afs];exact d.1
  intro Q E q;induction it with
  |lst a n g it=>exact agF it ⟨_,o.1.1 _ _ g,rfl,n,rfl⟩ hx λh' k1 sb=>q h' S.s.toks y p1 ⟨aj,i+1,.lst a n g k1,d.2▸p2⟩ (EF k1) (o.v9 h1 h2 sb)|tup a g it=>exact ahS it ⟨_,o.1.1 _ _ g,rfl,0,rfl⟩ hx λh' k1 sb=>q h' S.s.toks y p1 ⟨aj,i+1,.tup a g k1,d.2▸p2⟩ (PB k1) (o.v9 h1 h2 sb)
theorem K5(o:Ok F S)(h1:S.W.own x=none)(h2:S.W.aU x=none){i stop:Int}(it:ItR S.s.heap x i stop):wc F S x (match (generalizing:=false) fX i stop with|true=>some (.c (.int i),.range (i+1) stop)|false=>none):=it.casesOn λleft g e l=>by
 induction z:fX i stop with
 |true=>
  have hlt:i<stop:=of_decide_eq_true z;have hl:=l hlt;exact λQ E q=>wpAny_pyNext_range_item g (by lia) λh' k1 sb=>q h' _ _ (cW.mk _) ⟨left-1,k1,by lia,λ_=>by lia⟩ ⟨_,_,k1,rfl,by decide⟩ (o.v9 h1 h2 sb)
 |false=>exact λhc Q E q=>tQ hc g (e.mpr (Int.not_lt.mp (of_decide_eq_false z))) λh' k1 sz=>q h' (o.free h1 h2 (λb ob hb e=>k1 b ob hb e) sz)
theorem PC(o:Ok F S){it:It}(hi:tP S.W S.s.heap x it)(h1:S.W.own x=none)(h2:S.W.aU x=none){β:Type}{g:Option (MV×It)->M Prop β}{k:β->aq->Prop}(h:bindM (sF it) g S.σ k){G:Prop}(c:∀p,wc F S x p->g p S.σ k->G):G:=by
 induction it with
 |seq v i=>
  induction hi with|mk n a ha hit=>
  refine eH (f:=λσ=>jb σ (.ref n)) (g:=λl:aY×Bool=>(aE (match af l.1 i with|some x=>some (x,.seq (.ref n) (i+1))|none=>none):M Prop (Option (MV×It)))) (k:=λl σ'=>g l σ' k) h λl e h=>c _ ?_ h
  revert e;dsimp only [jb];induction q:af S.σ n with
  |none=>exact bq|some mo=>induction mo with
   |list pre back=>exact λe=>aap e▸Al o h1 h2 ha hit q|_=>exact bq
 |dO l=>exact hi.elim λaj z=>z.elim λi z=>c _ (K4 o h1 h2 z.1 z.2) h|range i stop=>exact c _ (K5 o h1 h2 hi) h
end
section
variable{cx:Cx Prop}{F:Fr cx}{S S':Pt}{W W2:Wd}{x:Addr}{ox:Obj}{r:dZ Prop}{A:Around}{E:b7}
theorem K6{target:Expr}{v:Value}{s:Shared}{Q:Unit->Shared->Prop}(h:oE s.heap x)(q:Q () s):wpAny Md A (letOwnedTupleGo target (.ref x) v) Q E s:=by
 induction h with|mk o n h1 h2 hn=>
 have main:∀{ts:List Expr}{k:Nat}{p:Pos},wpAny Md A (letOwnedTupleGo (.Tuple ts k p) (.ref x) v) Q E s:=by
  intro ts k p;induction v with
  |ref b=>
   refine aag (aip h1 ?_);rw [h2];induction o.data with
   |fields vs=>
    dsimp only;rw [hn,Bool.false_and,if_neg aea];exact aaq q
   |_=>exact aaq q
  |_=>exact aaq q
 cases target with
 |Tuple ts k p=>exact main|List ts p=>exact (main (ts:=[]) (k:=0) (p:=p) :)|_=>exact aaq q
def forR(A:Around)(target:Expr)(x:Addr)(body:cL)(env:Env)(R:Result->Shared->Prop)(f:Flow)(s:Shared):Prop:=match f with
 |.brk=>R (.ok .next) s|.ret v=>R (.ok (.ret v)) s|_=>codeAny Md A (.forLoop target (.ref x) body [] env) R s
abbrev PD(A:Around)(env:Env)(R:Result->Shared->Prop):b7:=notedBy Md A env λe s'=>R (.error e) s'
def aeL(A:Around)(target:Expr)(x:Addr)(body:cL)(env:Env)(R:Result->Shared->Prop):cK->Shared->Prop
 |none,s=>R (.ok .next) s|some v,s=>oE s.heap x/\wpAny Md A (assign target env v) (λ_ s₂=>wpAny Md A (execs body env) (forR A target x body env R) (PD A env R) s₂) (PD A env R) s
theorem K7{s:Shared}{env:Env}{target:Expr}{body:cL}{R:Result->Shared->Prop}(h:wpAny Md A (pyNext (.ref x)) (aeL A target x body env R) (PD A env R) s):codeAny Md A (.forLoop target (.ref x) body [] env) R s:=by
 refine ahf ?_;show wpAny _ A ((forTurn target (.ref x) body [] env).onRaise (λx=>do noteFrame x env;theTreesLotGoes x)) _ _ s
 refine wpAny_noted ?_;simp only [forTurn];refine aag (adj (aag (wpAny_onRaise (adX h (λr s₁ h₁=>?_) λ_ _ h'=>adj h'))));induction r with
 |none=>exact aaq ⟨rfl,codeAny_block (ail h₁)⟩|some v=>
  refine aag (K6 h₁.1 (aag (adX h₁.2 (λ_ s₂ h₂=>aag (adX h₂ (λf s₃ h₃=>?_) λ_ _ h'=>h')) λ_ _ h'=>h')));induction f with
  |next=>exact aaq ⟨rfl,h₃⟩|cont=>exact aaq ⟨rfl,h₃⟩|brk=>exact aaq h₃|ret v=>exact aaq h₃
def aeM(F:Fr cx)(t:Expr)(x:Addr)(body:cL)(m:M Prop (cB×Lo))(S:Pt):Prop:=∀k (R:Result->Shared->Prop),m S.σ k->lz F k S (λf s=>R (.ok f) s)->vc F k S (λe s=>R (.error e) s)->codeAny Md F.A (.forLoop t (.ref x) body [] F.env) R S.s
inductive Hh(S:Pt)(x:Addr)(it:It):Prop where
 |mk (it:tP S.W S.s.heap x it) (own:S.W.own x=none) (aU:S.W.aU x=none)
def j9(cx:Cx Prop)(f:En->Expr->It->cL->M Prop (cB×Lo)):Prop:=∀(F:Fr cx) t it x body S,Ok F S->Hh S x it->aeM F t x body (f F.e t it body) S
structure jP(cx:Cx Prop)(r:dZ Prop):Prop extends ef cx r where
 gh:j9 cx r.gh
theorem BD.low{g:cB}{fl:Flow}(k:W.Gw W2)(h:BD W g fl):BD W2 g fl:=by
 induction h with
 |next=>exact .next|brk=>exact .brk|cont=>exact .cont|ret v x hv=>exact .ret v x (ao.up' k _ _ hv)
abbrev PE(F:Fr cx)(S S':Pt)(x:Addr)(ox:Obj)(m:Lo):Prop:=P5 (Le S (S'.drop x)) (Ok (F.fix m) (S'.drop x)) (S'.s.heap.get? x=some ox) ((S'.drop x).W.own x=none) ((S'.drop x).W.aU x=none)
theorem dropped(h1:S.W.own x=none){m:Lo}(le:Le (S.keep x ox) S')(o:Ok (F.fix m) S'):PE F S S' x ox m:=
 have hk:S'.W.own x=some (.kept ox):=le.1.2 _ _ aL;⟨⟨Wd.rF h1 le.1,le.2⟩,o.l5 hk,o.1.2 _ _ hk,aL,o.1.4 _ _ hk⟩
theorem EG(H:ef cx r){N:En->Expr->It->cL->M Prop (cB×Lo)}{t:Expr}{it:It}{body:cL}{k:cB×Lo->aq->Prop}(o:Ok F S)(hi:Hh S x it)(h:dg cx { r with gh:=N } F.e t it body S.σ k){R:Result->Shared->Prop}
  (hn:∀S' m it',Le S S'->Ok (F.fix m) S'->Hh S' x it'->N (fixed F.e m) t it' body S'.σ k->codeAny Md F.A (.forLoop t (.ref x) body [] F.env) R S'.s) (ok:lz F k S λf s=>R (.ok f) s) (er:vc F k S λe s=>R (.error e) s) :
  codeAny Md F.A (.forLoop t (.ref x) body [] F.env) R S.s:=K7 (PC o hi.1 hi.2 hi.3 h λp nx h=>by
 have er':=er.noted;induction p with
 |none=>exact oq o h λhc h=>nx hc _ _ λh' n1=>ok _ .next F.e.m .next n1.1 n1.2 .next h|some p=>
  refine nx _ _ λh' tk y hv hi1 hc n1=>⟨hc,?_⟩;refine bB λgg=>?_;obtain ⟨ox,nm,g1,_,_⟩:=hc;refine gg ?_;have nk:=n1.2.jO (ox:=ox) hi.2 hi.3 g1;have er2:∀{S2:Pt},Le ((S.at h' tk).keep x ox) S2->nE F k S2 (PD F.A F.env R):=λle S3 n a m pG o3 e1 e2 h=>
   have d:=dropped (F:=F) (S:=S.at h' tk) hi.2 (le.trans pG) o3;er' (S3.drop x) n a m (n1.1.trans d.1) d.2 e1 e2 h
  refine tD (r:={ r with gh:=N }) { ev:=H.ev,uW:=H.uW } nk.2 (ao.up (W:=(S.at h' tk).W) hv nk.1.1) _ _ _ h (λS2 m ir o2 h2=>?_) (er2 (.refl _))
  refine (H.exs (F.fix m) body S2 o2).go h2 (er2 ir) λS3 g m3 fl pG o3 v3 h3=>?_;have d:=dropped (F:=F) (S:=S.at h' tk) hi.2 (ir.trans pG) o3;have xO:=n1.1.trans d.1;have next:N (fixed F.e m3) t p.2 body S3.σ k->codeAny Md F.A (.forLoop t (.ref x) body [] F.env) R S3.s:=λh=>hn (S3.drop x) m3 p.2 xO d.2 ⟨hi1.up d.1.1 λob q=>by rw [← aap (g1.symm.trans q)];exact d.3,d.4,d.5⟩ h
  induction v3 with
  |next=>exact next h3|cont=>exact next h3|brk=>exact ok (S3.drop x) .next m3 .next xO d.2 .next h3|ret v y hv=>exact ok (S3.drop x) _ m3 _ xO d.2 (BD.low (W:=S3.W) (W2:=(S3.drop x).W) ⟨λ_ _ e=>e,λ_ _ e=>e⟩ (.ret v y hv)) h3)
theorem Vi(H:jP cx r)(HL:∀n L,aD n cx.BG=some L->j9 cx L):j9 cx (xo cx r):=by
 intro F t it x body S o hi;unfold xo;induction q:aD t.pos.line cx.BG with
 |some L=>exact HL _ L q F t it x body S o hi|none=>exact λk R h ok er=>EG H.toef (N:=r.gh) o hi h (λS' m it' le o' i' h'=>H.gh (F.fix m) t it' x body S' o' i' k R h' (ok.to le) (er.to le)) ok er
theorem mL{it:Expr}{env:Env}(x:Value):plainQ it=true->foldedSetIterable it env x=pure x:=by
 cases it with
 |Set=>exact bM|_=>exact λ_=>rfl
theorem Ok.itr(o:Ok F S){it:It}{ob:Obj}(h:tP S.W (S.s.heap.push ob) S.s.heap.objs.size it):Hh (S.at (S.s.heap.push ob) S.s.toks) S.s.heap.objs.size it:=⟨h,o.1.5 _ (abv _),o.1.jh (abv _)⟩
def aau(F:Fr cx)(S:Pt)(y:Value)(it:It):Prop:=∀(Q:b7)(E:b7),(∀ob x,bH F S (S.at (S.s.heap.push ob) S.s.toks)->Hh (S.at (S.s.heap.push ob) S.s.toks) x it->Q (.ref x) (S.at (S.s.heap.push ob) S.s.toks).s)->wpAny Md F.A (pyIter y) Q E S.s
theorem An(o:Ok F S){v:MV}{y:Value}:∀hv:ao S.W v y,aZ (aau F S y) (vG v S.σ):=by
 refine MV.el v (λc hv=>?_) (λn hv=>?_) (λ_ _=>trivial) λ_ _ _=>trivial
 ·induction c using CV.casesOn with
  |lst l=>exact uY.casesOn hv λa xs n e r Q E q=>ahD ⟨_,o.1.1 _ _ e,rfl,n,rfl⟩ (q _ _ (o.pushed _) (o.itr ⟨xs,0,.lst a n e ⟨_,abX _ rfl,rfl,rfl⟩,r⟩))|tup l=>exact fY.casesOn hv λa xs e r Q E q=>wpAny_pyIter_tuple ⟨_,o.1.1 _ _ e,rfl,0,rfl⟩ (q _ _ (o.pushed _) (o.itr ⟨xs,0,.tup a e ⟨_,abX _ rfl,rfl,rfl⟩,r⟩))|_=>trivial
 ·refine iw.casesOn hv λa ha=>?_
  dsimp only [vG];induction q:listOf S.σ n with
  |none=>trivial|some l=>exact (o.lst ha ((iM ..).get q)).casesOn λxs m ow g r sz Q E q=>ahD ⟨_,g,rfl,m,rfl⟩ (q _ _ (o.pushed _) (o.itr ⟨n,a,ha,⟨_,abX _ rfl,rfl,rfl⟩⟩))
theorem Vj(H:jP cx r){t it:Expr}{body:cL}{p:Pos}(o:Ok F S)(hq:plainQ it=true):jx F (exec (.For t it body [] p) F.env) (jG F.e.m (r.ev F.e it) λv=>bindM (eE (vG v)) λi=>r.gh F.e t i body) S:=λk Q E h ok er=>
 wpAny_For ((H.ev F it S o).out h er λS1 v y n1 v1 h1=>eH h1 λi e h2=>(An n1.2 v1).get e _ _ λob x n2 hi=>H.gh F t i x body _ n2.2 hi k _ h2 (ok.on (n1.trans n2)) (er.on (n1.trans n2)).back) λx=>mL x hq
end
section
variable{cx:Cx Prop}{F:Fr cx}{S S':Pt}{x:Addr}{r:dZ Prop}{A:Around}{E:b7}
theorem tS{it:Expr}{c:Expr×List Expr}:D3 it=some c->∃p,it =.Call c.1 c.2 [] p:=by
 cases it with
 |Call f as ks p=>induction ks with
  |nil=>exact λh=>⟨p,by rw [← aap h]⟩|cons _ _=>exact bq
 |_=>exact bq
theorem tT{it:Expr}{n:Str}:nI it=some n->∃p,it =.Name n p:=by
 cases it with
 |Name f p=>exact λh=>⟨p,by rw [← aap h]⟩|_=>exact bq
theorem bind_some{α β:Type}{o:Option α}{f:α->Option β}{b:β}{G:Prop}(h:o.bind f=some b)(c:∀a,o=some a->f a=some b->G):G:=by
 induction o with
 |none=>exact bq h|some a=>exact c a rfl h
theorem Hi{it:Expr}{q:Jw}(h:BV it=some q):∃fp cp,it =.Call (.Name q.f fp) [q.x] [] cp:=
 bind_some h λc e1 h=>bind_some h λf e2 h=>bind_some h λx e3 h=>(tS e1).elim λcp e1=>(tT e2).elim λfp e2=>⟨fp,cp,by rw [e1,e2,fN e3,← aap h]⟩
theorem CB{v:MV}{u:Unit}:ry v=some u->v =.c (.type "range"):=by
 induction v using MV.casesOn with
 |c c=>induction c using CV.casesOn with
  |type n=>exact λh=>by rw [beq_iff_eq.mp (xB h)]|_=>exact bq
 |_=>exact bq
theorem Hj(o:Ok F S){i:Int}{tk:Nat}{R:Result->Shared->Prop}{t:Expr}{body:cL}(h0:0<=i)(h1:i<1000000)
  (q:∀S' x,bH F S S'->S'.σ=S.σ->Hh S' x (.range 0 i)->codeAny Md F.A (.forLoop t (.ref x) body [] F.env) R S'.s) :
  wpAny Md F.A (call (.type "range") [.int i tk]) (λy s1=>wpAny Md F.A (pyIter y) (λit s2=>codeAny Md F.A (.forLoop t it body [] F.env) R s2) E s1) E S.s:=by
 refine call_range_1 ?_;refine wpAny_pyIter_range (IsRange.new ..) (small_one (by decide) (by decide) (by lia) (by lia)) ?_
 rw [rangeSize_one];have sz:∀ob,(S.s.heap.push ob).objs.size=S.s.heap.objs.size+1:=λob=>acR ..;have n1:=o.pushed { cls:=.type "range",data:=.fields #[.int 0 S.s.toks,.int i tk,.int 1 (S.s.toks+1)] };have n2:=n1.2.tok (S.s.toks+1+1);have n3:=n2.2.pushed { cls:=.type "range_iterator",data:=.fields #[rawInt 0,rawInt (if 0<i then i-0 else 0),rawInt 1] };refine q _ _ (n1.trans (n2.trans n3)) rfl (n2.2.itr ⟨if 0<i then i-0 else 0,abX _ rfl,?_,λz=>if_pos z⟩);split<;>lia
theorem xS(H:jP cx r){t u:Expr}{f:Str}{fp cp:Pos}{body:cL}{p:Pos}(o:Ok F S) :
  jx F (exec (.For t (.Call (.Name f fp) [u] [] cp) body [] p) F.env) (bindM (load cx F.e f) λg=>bindM (aR (ry g)) λ_=>bindM (aR (iB (fV u&&!(cD f "super")))) λ_=>
   jG F.e.m (r.ev F.e u) λv=>bindM (aR (qu v)) λv=>bindM (aR (b8 v)) λk=>bindM (iG (0<=k.1/\k.1<aW)) λ_=>r.gh F.e t (.range 0 k.1) body) S:=λk Q E h ok er=>by
 refine xC o (k:=λg σ'=>(bindM (aR (ry g)) λ_=>bindM (aR (iB (fV u&&!(cD f "super")))) λ_=>
   jG F.e.m (r.ev F.e u) λv=>bindM (aR (qu v)) λv=>bindM (aR (b8 v)) λk=>bindM (iG (0<=k.1/\k.1<aW)) λ_=>r.gh F.e t (.range 0 k.1) body) σ' k) h λhb g h l=>bB λgg=>aQ h λ_ e h=>dK h λz h=>gg <|?_
 refine wpAny_For (wpAny_Call_Name_kw (aio (l _ _ λgv hg=>?_) hb)) (λx=>rfl);rw [CB e] at hg;rw [show gv =.type "range" from hg]
 have hp:=(bx z).1;refine lA (args:=[u]) (kws:=[]) (show (fV u&&true)=true from by rw [hp];rfl) rfl ?_
 rw [gk hp];refine evalArgs_kw rfl ?_;show wpAny _ _ (spliced ((false,eval u F.env)::backTo cp (starEach [] F.env))) _ _ _;rw [show ((false,eval u F.env)::backTo cp (starEach [] F.env))=backTo cp (starEach [u] F.env) from by rw [gk hp];rfl]
 refine afW ((H.ev F u S o).out h er λS1 v y n1 v1 h1=>ahe (ahF ⟨vZ,?_⟩)) (gk hp);refine bB λgg=>aQ h1 λc e1 h2=>aQ h2 λi e2 h3=>gg <|?_
 clear h1 h2;induction v using MV.casesOn with
 |c c'=>
  rw [aap e1] at v1;refine cW.casesOn (motive:=λy _=>wpAny Md F.A (call (.type "range") [y]) _ _ S1.s) ((cC v1).get e2) λtk=>?_;exact Hj n1.2 h3.1.1 h3.1.2 λS2 x n2 e hi=>H.gh F t _ x body S2 n2.2 hi k _ (e▸h3.2) (ok.on (n1.trans n2)) (er.on (n1.trans n2)).back
 |_=>exact bq e1
end
section
variable{cx:Cx Prop}{F:Fr cx}{S S1 S2 S':Pt}{n i:Nat}{a:Addr}{m:Lo}{r:dZ Prop}{E:b7}{k:cB×Lo->aq->Prop}{Q:Flow->Shared->Prop}
def Fr.mark(F:Fr cx)(n:Nat)(a:Addr):Fr cx:=⟨under F.e n,F.env,F.A.mark (some (.ref a))⟩
theorem Ok.mark(o:Ok F S)(hn:af S.W.ρ n=some a):Ok (F.mark n a) S:=
 ⟨o.1,⟨o.2.1,o.2.2,o.2.3,o.2.4,o.2.5,o.2.6,o.2.7,o.2.8,o.2.9⟩,o.3,⟨.at n a hn,o.4.2,o.4.3,o.4.4,o.4.5⟩⟩
theorem Ok.unmark(o:Ok F S)(le:Le S S2)(o2:Ok ((F.mark n a).fix m) S2):Ok (F.fix m) S2:=
 ⟨o2.1,⟨o2.2.1,o2.2.2,o2.2.3,o2.2.4,o2.2.5,o2.2.6,o2.2.7,o2.2.8,o2.2.9⟩,o2.3,⟨o.4.1.up le.1,o2.4.2,o2.4.3,o2.4.4,o2.4.5⟩⟩
theorem lz.mark(q:lz F k S Q)(o:Ok F S):lz (F.mark n a) k S Q:=λS' g m fl le o1 fr h=>q S' g m fl le (o.unmark le o1) fr h
theorem nE.mark(q:nE F k S E)(o:Ok F S):nE (F.mark n a) k S (notedBy Md (F.mark n a).A F.env (cameBackBy Md F.A F.env E)):=λS' i b m le o1 e1 e2 h=>vU (F:=(F.mark n a).fix m) o1 e1 e2 λS2 n2 e tb=>
 EA (F:=F.fix m) (o.unmark (le.trans n2.1) n2.2) (n2.1.1.6 _ _ e1) (e▸e2) tb λS3 n3 e3=>q S3 i b m ((le.trans n2.1).trans n3.1) n3.2 ((n2.1.trans n3.1).1.6 _ _ e1) (e3▸e▸e2) (e3▸e▸h)
theorem EH(o:Ok F S)(hn:af S.W.ρ n=some a)(hi:eL S.σ n)(tb:tu S.s.heap a)(er:∀S',bH F S S'->S'.σ=S.σ->E (.ref a) S'.s){what:String}{env:Env}{α:Type}{Q:α->Shared->Prop}{A':Around}:wpAny Md A' (passOn what (.ref a) env:Sem α) Q E S.s:=by
 refine bB λgg=>tb.casesOn λoe vs T g d e=>hi.casesOn λC fs t b hi=>gg <|?_
 unfold passOn;refine aag (adT g d e ?_);rw [if_neg (by simp)]
 exact aag (cX o hn hi _ λS' n' e=>wpAny_throw (er S' n' e))
theorem zE.tb{W:Wd}{h:Heap}{C:Addr}{fs:Lo}{b:Bool}(c:zE W n a h C fs true b):tu h a:=c.casesOn λoe vs ow g cls d sz tb cx di=>by
 cases tb with|yes _ T oT ts e Ob ne gT dT G1=>exact ⟨oe,vs,T,g,d,e⟩
theorem EI(o:Ok F S)(hn:af S.W.ρ n=some a)(h:zw n F.e.m S.σ k)(er:nE F k S E){what:String}{α:Type}{Q:α->Shared->Prop}{A':Around}:wpAny Md A' (passOn what (.ref a) F.env:Sem α) Q E S.s:=
 bB λgg=>eH h λX q h=>dK h λt h=>gg <|by
  have hi:=(iN ..).get q;rw [t] at hi;exact EH o hn ⟨_,_,_,_,hi⟩ (o.exc hn hi).tb λS' n' e=>er S' n a F.e.m n'.1 n'.2 (n'.1.1.6 _ _ hn) (e▸⟨_,_,_,_,hi⟩) (e▸h)
theorem K8{K:PySem.W.Frag}{C D:Addr}{c:pH}(hk:mH K C c){b:Bool}(h:j6 D c.mro=b):PySem.W.mroIn K C (.ref D)=some b:=hk.4.elim λcd z=>by
 unfold PySem.W.mroIn;rw [z.1,aid,z.2.2.2.1,if_neg (by decide),← z.2.2.1 D,h]
theorem wg(o:Ok F S){D:Addr}(h:cM cx D=true):PySem.W.Looks Md S.s.heap (isExcClass (.ref D)) true/\PySem.W.Looks Md S.s.heap (isInstance (.ref D) (.type "tuple")) false:=(xJ h).elim λc z=>by
 have hE:=o.3.6 D c z.1 z.2;refine hE.4.elim λcd hcd=>?_;have hty:PySem.W.Looks Md S.s.heap (isType (.ref D)) true:=λA Q E s' k q=>by
  have hcd:=hcd.1;unfold PySem.W.clsIn at hcd;split at hcd
  ·rename_i ho
   unfold isType;exact aag (afU (k _ _ (o.cH _ _ ho)) (aaq q))
  ·exact bq hcd
 exact ⟨hty.andThen (f:=λb=>if b=true then isSubtype (.ref D) (.type "BaseException") else pure false) (by rw [if_pos rfl];exact ahh (M:=Md) o.cH hE.3),(PySem.W.looks_typeIn (M:=Md) o.cH hE.2).andThen (PySem.W.Looks.of_pure (by rw [isSubtype_type];kernel_rfl))⟩
theorem aav{v:MV}{D:Addr}{y:Value}(e:jr v=some D)(hv:ao S.W v y):y =.ref D:=by rw [tM e] at hv;exact hv
theorem wh(o:Ok F S){f:Value->PUnit->Sem (ForInStep PUnit)}{X:Sem (ForInStep PUnit)}(hf:∀c u,f c u=(isExcClass c >>= λb=>if (!b)=true then X else pure (.yield ⟨⟩))){A:Around}{Q:PUnit->Shared->Prop}(q:Q ⟨⟩ S.s){l:aY} :
  ∀{aj:bU},ah S.W l aj->sI cx l=true->wpAny Md A (forIn aj ⟨⟩ f) Q E S.s:=by
 induction l with
 |nil=>intro aj hr _;rw [show aj=[] from hr,aeA];exact aaq q|cons v l ih=>
  intro aj hr h;refine bB λgg=>?_;obtain ⟨y,aj,rfl,hv,hl⟩:=hr;refine gg ?_;dsimp only [sI] at h;revert h;induction e:jr v with
  |none=>exact bM|some D=>
   intro h;rw [ael,hf,aav e hv];refine aag (aag ((wg o (bx h).1).1.here ?_));rw [if_neg (by decide)]
   exact aaq (ih hl (bx h).2)
theorem tU(o:Ok F S){C:Addr}{hit:Bool}{f:Value->Option Bool×Unit->Sem (ForInStep (Option Bool×Unit))}(hf:∀c u,f c u=(isSubtype (.ref C) c >>= λb=>if b=true then pure (.done (some true,())) else pure (.yield (none,()))))
  {A:Around} {Q:Option Bool×Unit->Shared->Prop} (q:Q (if hit then some true else none,()) S.s) {l:aY}:∀{aj:bU},ah S.W l aj->kQ cx C l=some hit->wpAny Md A (forIn aj (none,()) f) Q E S.s:=by
 induction l with
 |nil=>intro aj hr h;rw [show aj=[] from hr,aeA];rw [← aap h] at q;exact aaq q|cons v l ih=>
  intro aj hr h;refine bB λgg=>?_;obtain ⟨y,aj,rfl,hv,hl⟩:=hr;refine gg ?_;dsimp only [kQ] at h;revert h;induction e:jr v with
  |none=>exact bq|some D=>
   dsimp only;induction q1:aD C cx.top.cls with
   |none=>exact bq|some c=>
    dsimp only;rw [ael,hf,aav e hv];have L:=λb z=>ahh (M:=Md) o.cH (K8 (o.3.5 C c q1) (D:=D) (b:=b) z);induction q2:j6 D c.mro with
    |true=>
     intro h;rw [← aap h] at q;refine aag (aag ((L _ q2).here ?_));rw [if_pos rfl];exact aaq (aaq q)
    |false=>
     intro h;refine aag (aag ((L _ q2).here ?_));rw [if_neg (by decide)]
     exact aaq (ih hl h)
theorem CC(o:Ok F S){C:Addr}{fs:Lo}{t b:Bool}(hn:af S.W.ρ n=some a)(hi:af S.σ n=some (.exc C fs t b)){tv:MV}{ty:Value}(hv:ao S.W tv ty)(ha:sI cx (D5 tv)=true){hit:Bool}
  (hm:kQ cx C (D5 tv)=some hit) {A:Around} {Q:Bool->Shared->Prop} (q:Q hit S.s):wpAny Md A (excMatches (.ref a) ty) Q E S.s:=(o.exc hn hi).casesOn λoe vs ow g1 g2 d sz tb dN di=>by
 have K9:PySem.W.Looks Md S.s.heap (typeOf (.ref a)) (.ref C):=g2▸(PySem.W.Looks.ld g1).andThen .now;clear tb dN di d sz;unfold excMatches;dsimp only;induction tv using MV.casesOn with
 |c v=>induction v using CV.casesOn with
  |tup l=>
   induction hv with|mk ta aj e1 e2=>
   refine aag (agZ (T:="tuple") (b:=true) ⟨_,o.1.1 _ _ e1,rfl⟩ (by rw [isSubtype_type];kernel_rfl) ?_)
   rw [if_pos rfl];refine aag (aht (o.1.1 _ _ e1) rfl (aag (aaq (aag (wh o (λc u=>rfl) ?_ e2.vs ha)))));refine aag (K9.here (aag (tU o (λc u=>rfl) ?_ e2.vs hm)));cases hit<;>exact aaq q
  |aA D=>
   rw [show ty =.ref D from hv]
   refine aag ((wg o (bx ha).1).2.here ?_);rw [if_neg (by decide)]
   have hl:ah S.W [.c (.aA D)] [.ref D]:=⟨_,_,rfl,rfl,rfl⟩;refine aag (aaq (aag (wh o (λc u=>rfl) ?_ hl ha)));refine aag (K9.here (aag (tU o (λc u=>rfl) ?_ hl hm)));cases hit<;>exact aaq q
  |_=>exact bM ha
 |_=>exact bM ha
end
theorem Hl{α:Type}(x y:Str)(l:List (Str×α)):look y (drop x l)=if y=x then none else look y l:=by
 induction l with
 |nil=>exact (ite_self none).symm|cons p r ih=>
  obtain ⟨z,v⟩:=p;dsimp only [drop];rw [aC];induction q:cD z x with
  |true=>
   rw [dI] at q;subst q;show look y (drop z r)=_;rw [ih];by_cases e:y=z
   ·rw [if_pos e,if_pos e]
   ·rw [if_neg e,if_neg e,if_neg λq=>e q.symm]
  |false=>
   rw [dh] at q;show look y ((z,v)::drop x r)=_;rw [aC,ih];by_cases e:z=y
   ·subst e;rw [if_pos rfl,if_neg q,if_pos rfl]
   ·rw [if_neg e,if_neg e]
section
variable{cx:Cx Prop}{F:Fr cx}{S S1 S2 S':Pt}{n i:Nat}{a:Addr}{m:Lo}{r:dZ Prop}{E:b7}{k:cB×Lo->aq->Prop}{Q:Flow->Shared->Prop}{A':Around}
theorem Ns.ex{h:Heap}{b:Addr}{g:Str->cK}(x:h.Ns b g):∃o,h.get? b=some o:=x.elim λo z=>z.elim λ_ z=>z.elim λ_ z=>⟨o,z.1⟩
theorem wj{pos:Pos}(o:Ok F S){x:Str}(hk:kindOf F.e.sc x=some .local){Q:Unit->Shared->Prop}(q:∀S',Le S S'->S'.W=S.W->S'.σ=S.σ->Ok (F.fix (drop x F.e.m)) S'->(∀b,b≠F.env.locals->S'.s.heap.get? b=S.s.heap.get? b)->Q () S'.s) :
  wpAny Md A' (do bindName F.env x .none;unbindBehindTheSuite F.env x pos) Q E S.s:=by
 have hf:F.env.scope.kind =.function:=by rw [o.2.1];exact o.2.2
 have hl:F.env.kindOf x=some .local:=o.2.kindOf.trans hk;have hp:(F.env.scope.kind ==.class||(F.env.scope.kind ==.module&&F.env.locals != F.env.globals))=false:=by rw [hf];rfl
 refine o.2.4.elim λg e=>aag (ahu (agU hl e.1 (λh1 hn1 hs1=>?_) hp));unfold unbindBehindTheSuite;refine wpAny_onRaise (wpAny_unbindName_local hl hn1 (if_pos rfl) hp λh2 u hn2 hs2=>?_);refine q (S.at h2 (S.s.toks+1)) ⟨.refl _,rfl,rfl,rfl⟩ rfl rfl ⟨(o.1.but o.2.3 hs1 (Ns.ex hn1)).but o.2.3 hs2 (Ns.ex hn2),⟨o.2.1,o.2.2,o.2.3,⟨_,hn2,λy v hy=>?_⟩,o.2.5,o.2.6,o.2.7,o.2.8,o.2.9⟩,o.3,⟨o.4.1,o.4.2,o.4.3,o.4.4,o.4.5⟩⟩ λb nb=>(hs2.2 b nb).trans (hs1.2 b nb);have hy:look y (drop x F.e.m)=some v:=hy;rw [Hl] at hy;by_cases z:y=x
 ·rw [if_pos z] at hy;exact bq hy
 ·rw [if_neg z] at hy
  exact (e.2 y v hy).elim λy2 w=>⟨y2,by rw [if_neg z,if_neg z];exact w.1,w.2⟩
theorem xT{sc:Scope}{x:Str}:iC sc x=true->kindOf sc x=some .local:=by
 unfold iC;induction kindOf sc x with
 |none=>exact bM|some kd=>induction kd with
  |«local» =>exact λ_=>rfl|_=>exact bM
def aeN(A:Around)(env:Env)(Q:Flow->Shared->Prop)(E:b7)(nm:Option Str)(pos:Pos):Result->Shared->Prop:=λr s=>match r with
 |.ok f=>(match nm with
  |none=>Q f s|some n=>wpAny Md A (do bindName env n .none;unbindBehindTheSuite env n pos) (λ_ s=>Q f s) E s)
 |.error x=>cameBackBy Md A env E x s
theorem Ao(o:Ok F S)(er:nE F k S E){x:Str}(ir:Le S S2)(o2:Ok (F.fix m) S2)(hk:kindOf F.e.sc x=some .local){pos:Pos}{E2 E3:Value->b7} :
  nE ((F.fix m).mark n a) (λfm σ'=>k (fm.1,drop x fm.2) σ') S2 (λy s=>wpAny Md (F.mark n a).A (noteFrame y F.env) (λ_ s=>wpAny Md (F.mark n a).A (do bindName F.env x .none;unbindBehindTheSuite F.env x pos)
   (λ_ s=>wpAny Md (F.mark n a).A (passOn "try.except-as" y F.env:Sem Flow) (λ_ _=>False) (notedBy Md (F.mark n a).A F.env (cameBackBy Md F.A F.env E)) s) (E2 y) s) (E3 y) s):=λS3 i b m3 pG o3 e1 e2 h=>by
 refine e2.casesOn λC fs t bb hi=>oj o3 t e1 hi λS4 n4 mk tb=>?_;have e4:S4.σ=S3.σ:=mk.trans (dQ hi);have hn4:=n4.1.1.6 _ _ e1;have hx4:af S4.σ i=some (.exc C fs t bb):=e4▸hi;refine wj n4.2 hk λS5 SM eW e5 o5 hp=>?_;have hx5:af S5.σ i=some (.exc C fs t bb):=e5▸hx4;have ne:b≠F.env.locals:=λz=>(n4.2.exc hn4 hx4).casesOn λ_ _ ow _ _ _ _ _ _ _=>aT.dj ow n4.2.2.3 nofun z;refine EH o5 (SM.1.6 _ _ hn4) ⟨_,_,_,_,hx5⟩ (tb.casesOn λoe vs T g d e=>⟨oe,vs,T,(hp b ne).trans g,d,e⟩) λS6 n6 e6=>?_;have le:Le S2 S6:=((pG.trans n4.1).trans SM).trans n6.1;exact (er.mark (n:=n) (a:=a) o) S6 i b (drop x m3) (ir.trans le) n6.2 (n6.1.1.6 _ _ (SM.1.6 _ _ hn4)) (e6▸⟨_,_,_,_,hx5⟩) (by rw [e6,e5,e4];exact h)
theorem La(H:gb cx r)(o:Ok F S)(hn:af S.W.ρ n=some a)(hi:eL S.σ n){nm:Option Str}{body:cL}{pos:Pos}(h:Ju r F.e n nm body S.σ k)(ok:lz F k S Q)(er:nE F k S E) :
  codeAny Md (F.mark n a).A (.handlers (.ref a) [.ExceptHandler none nm body pos] F.env) (aeN F.A F.env Q E nm pos) S.s:=dK h λz h=>hi.casesOn λC fs t b hi=>by
 induction body with
 |nil=>exact bM z|cons b0 rest=>induction nm with
  |none=>exact codeAny_handlers_suite (cX (o.mark hn) hn hi _ λS1 n1 e1=>H.exs (F.mark n a) (b0::rest) S1 n1.2 k _ _ (by rw [e1];exact h) ((ok.mark o).on n1) ((er.mark o).on n1))|some x=>
   refine dK h λhk h=>codeAny_handlers_suite_as (cX (o.mark hn) hn hi _ λS1 n1 e1=>?_);have hk:=xT hk;have hn1:=n1.1.1.6 _ _ hn;have o1:Ok F S1:=o.unmark (m:=F.e.m) n1.1 n1.2;refine jy o1 (v:=.ref n) ⟨a,hn1⟩ (k:=λm σ'=>(bindM (r.exs (under (fixed F.e m) n) (b0::rest)) λfm=>aE (fm.1,drop x fm.2)) σ' k) (by rw [e1];exact h) λS2 m ir o2 h2=>?_
   have pG:=n1.1.trans ir;refine (H.exs ((F.fix m).mark n a) (b0::rest) S2 (o2.mark (ir.1.6 _ _ hn1))).go h2 (Ao o er pG o2 hk) λS3 g m3 fl xO o3 fr h3=>?_;exact wj (o2.unmark xO o3) hk λS4 SM eW e4 o4 _=>ok S4 g (drop x m3) fl ((pG.trans xO).trans SM) o4 (fr.low SM.1.low) (e4▸h3)
theorem Ho(H:gb cx r)(hs:List ExceptHandler):∀{S:Pt},Ok F S->af S.W.ρ n=some a->handle cx r F.e n hs S.σ k->lz F k S Q->nE F k S E->wpAny Md F.A (handleBy (.ref a) F.env hs) Q E S.s:=by
 induction hs with
 |nil=>exact λo hn h ok er=>wpAny_handleBy_nil (EI o hn h er)|cons hd hs ih=>
  intro S o hn h ok er;obtain ⟨ty,nm,body,pos⟩:=hd;induction ty with
  |none=>exact h.elim|some t=>
   refine wpAny_handleBy_cons (codeAny_handlers_test ((H.ev (F.mark n a) t S (o.mark hn)).out h (er.mark o) λS1 tv ty n1 v1 h1=>eH h1 λX q h2=>dK h2 λz1 h2=>aQ h2 λhit z2 h3=>?_)) nofun;have o1:Ok F S1:=o.unmark (m:=F.e.m) n1.1 n1.2;have hn1:=n1.1.1.6 _ _ hn;have hi:=(iN ..).get q;refine CC o1 hn1 hi v1 z1 z2 ?_;induction hit with
   |true=>
    refine codeAny_mono (La (pos:=pos) H o1 hn1 ⟨_,_,_,_,hi⟩ h3 (ok.to n1.1) (er.to n1.1)) λrr s2 z=>?_;induction rr with
    |error y=>exact z|ok f=>induction nm with
     |none=>exact z|some x=>exact z
   |false=>exact ih o1 hn1 h3 (ok.to n1.1) (er.to n1.1)
theorem qM(o:Ok F S)(hn:af S.W.ρ n=some a){β:Type}{g:Unit->M Prop β}{k:β->aq->Prop}(h:bindM (noted n) g S.σ k){Q:Shared->Prop}{E2:b7}(q:∀S',bH F S S'->g () S'.σ k->af S'.W.ρ n=some a->eL S'.σ n->Q S'.s) :
  wpAny Md F.A (noteFrame (.ref a) F.env) (λ_ s2=>wpAny Md F.A (setFlight (.ref a) none) (λ_ s3=>Q s3) E s2) E2 S.s:=tH h λX hi h=>oj o true hn hi λS1 n1 mk _=>by
 have hn1:=n1.1.1.6 _ _ hn;have hi1:af S1.σ n=some (.exc X.C X.fs true X.b):=by rw [mk];exact av _ hi
 exact cX n1.2 hn1 hi1 _ λS2 n2 e2=>q S2 (n1.trans n2) (by rw [e2,mk];exact h) (n2.1.1.6 _ _ hn1) (e2▸⟨_,_,_,_,hi1⟩)
def aeP(A:Around)(env:Env)(orelse:cL)(Q:Flow->Shared->Prop)(E:b7)(f:Flow)(s:Shared):Prop:=match f with
 |.next=>wpAny Md A (execs orelse env) Q E s|f=>Q f s
def aeQ(A:Around)(env:Env)(Q:Flow->Shared->Prop)(E:b7):List ExceptHandler->b7
 | [],e,s=>wpAny Md A (noteFrame e env) (λ_ s2=>E e s2) E s|h::hs,e,s=>wpAny Md A (noteFrame e env) (λ_ s2=>wpAny Md A (setFlight e none) (λ_ s3=>wpAny Md A (handleBy e env (h::hs)) Q E s3) E s2) E s
theorem Aq(H:gb cx r)(o:Ok F S){body orelse:cL}{hs:List ExceptHandler}(h:Uy cx r F.e body hs orelse S.σ k)(ok:lz F k S Q)(er:nE F k S E):wpAny Md F.A (execs body F.env) (aeP F.A F.env orelse Q E) (aeQ F.A F.env Q E hs) S.s:=by
 refine (H.exs F body S o).go h (λS1 n a m le o1 e1 e2 h1=>?_) λS1 g m fl le o1 v1 h1=>?_
 ·induction hs with
  |nil=>exact e2.casesOn λC fs t b hi=>oj (F:=F.fix m) o1 t e1 hi λS2 n2 mk _=>er S2 n a m (le.trans n2.1) n2.2 (n2.1.1.6 _ _ e1) ((mk.trans (dQ hi))▸⟨_,_,_,_,hi⟩) ((mk.trans (dQ hi))▸h1)|cons hd hs=>exact qM (F:=F.fix m) o1 e1 h1 λS2 n2 h2 e3 e4=>Ho (F:=F.fix m) H (hd::hs) n2.2 e3 h2 (ok.to (le.trans n2.1)) (er.to (le.trans n2.1))
 ·induction v1 with
  |next=>exact H.exs (F.fix m) orelse S1 o1 k _ _ h1 (ok.to le) (er.to le)|brk=>exact ok S1 .brk m .brk le o1 .brk h1|cont=>exact ok S1 .cont m .cont le o1 .cont h1|ret v x hv=>exact ok S1 _ m _ le o1 (.ret v x hv) h1
theorem jQ(H:gb cx r){fin:cL}{g:cB}{fl:Flow}(o1:Ok (F.fix m) S1)(v1:BD S1.W g fl)(ok:lz F k S1 Q)(er:nE F k S1 E)(h:(bindM (r.exs (fixed F.e m) fin) λgm=>match gm.1 with
   |.next=>aE (g,gm.2)|.err n=>aE (.err n,gm.2)|_=>bJ) S1.σ k):FinallyPlain prog w F.A E F.env fin Q fl S1.s:=by
 refine (H.exs (F.fix m) fin S1 o1).go h ((vc.noted (R:=λr s'=>match r with|.error e=>cameBackBy Md F.A F.env E e s'|.ok _=>True) (er.back)):_) λS2 g2 m2 fl2 ir o2 v2 h2=>?_
 induction v2 with
 |next=>exact ok S2 g m2 fl ir o2 (v1.low ir.1.low) h2|brk=>exact h2.elim|cont=>exact h2.elim|ret v x hv=>exact h2.elim
theorem Hp(H:gb cx r){fin:cL}(ok:lz F k S Q)(er:nE F k S E):lz F (λfm σ'=>Ov r F.e fin fm σ' k) S (FinallyPlain prog w F.A E F.env fin Q):=λS1 g m fl le o1 v1 h1=>by
 induction v1 with
 |next=>exact jQ H o1 .next (ok.to le) (er.to le) h1|brk=>exact jQ H o1 .brk (ok.to le) (er.to le) h1|cont=>exact jQ H o1 .cont (ok.to le) (er.to le) h1|ret v x hv=>exact jQ H o1 (.ret v x hv) (ok.to le) (er.to le) h1
theorem CD(H:gb cx r){fin:cL}(er:nE F k S E):nE F (λfm σ'=>Ov r F.e fin fm σ' k) S (FinallyRaised prog w F.A E F.env fin Q):=λS1 n a m le o1 e1 e2 h1=>
 ⟨nofun,qM (F:=F.fix m) o1 e1 h1 λS2 n2 h2 e3 e4=>(H.exs ((F.fix m).mark n a) fin S2 (n2.2.mark e3)).go h2 (λS3 i b m3 pG o3 _ _ h3=>h3.elim) λS3 g m3 fl pG o3 v3 h3=>by
  induction v3 with
  |next=>exact EI (F:=F.fix m3) (n2.2.unmark pG o3) (pG.1.6 _ _ e3) h3 (er.to ((le.trans n2.1).trans pG))|brk=>exact h3.elim|cont=>exact h3.elim|ret v x hv=>exact h3.elim⟩
theorem Vk(H:gb cx r){body orelse fin:cL}{hs:List ExceptHandler}{p:Pos}(o:Ok F S):jx F (exec (.Try body hs orelse fin p) F.env) (So cx r F.e body hs orelse fin) S:=λk Q E h ok er=>by
 induction fin with
 |nil=>induction hs with
  |nil=>exact h.elim|cons hd hs=>exact wpAny_Try_except (adX (Aq H o (hs:=hd::hs) (orelse:=orelse) (k:=k) h ok er) (λf s1 z=>by cases f<;>exact z) λy s1 z=>z)
 |cons f fs=>
  have t:=Aq H o (k:=λfm σ'=>Ov r F.e (f::fs) fm σ' k) h (Hp H ok er) (CD (Q:=Q) H er);induction hs with
  |nil=>exact wpAny_Try_finally (adX t (λf s1 z=>by cases f<;>exact z) λy s1 z=>z)
  |cons hd hs=>exact wpAny_Try_except_finally (adX t (λf s1 z=>by cases f<;>exact z) λy s1 z=>z)
end
section
variable{cx:Cx Prop}{F:Fr cx}{S S':Pt}{W W':Wd}{A:Around}{E:b7}
theorem vj{pos:Pos}{v:Value}{a b:Int}{c:Value}(l:bU)(h:TriplesOk l)(q:codeAmong pos (l++[rawInt a,rawInt b,c])=some v):codeAmong pos l=some v∨v=c:=by
 fun_induction TriplesOk l with
 |case1=>
  simp only [List.nil_append,rawInt,codeAmong] at q;split at q
  ·cases q;exact .inr rfl
  ·cases q
 |case2 a' t b' u x rest ih=>
  simp only [List.cons_append,codeAmong] at q ⊢;split
  ·rename_i z;rw [if_pos z] at q;exact .inl q
  ·rename_i z;rw [if_neg z] at q;exact ih h q
 |case3 l h1 h2=>exact h.elim
theorem wk{a b n:Nat}(h1:b<n)(h2:n<=a):b≠a:=aee (aet h1 h2)
noncomputable def tV(f:Addr->fy)(a:Addr)(o:Obj):Addr->fy:=λb=>if b=a then some o else f b
theorem iQ{f:Addr->fy}{a b:Addr}{o:Obj}(h:b≠a):tV f a o b=f b:=if_neg h
theorem oF{f:Addr->fy}{a b:Addr}{o x:Obj}(h:tV f a o b=some x):(b=a/\o=x)∨f b=some x:=by
 by_cases e:b=a
 ·exact .inl ⟨e,aap ((if_pos e).symm.trans h)⟩
 ·exact .inr ((if_neg e).symm.trans h)
def aay(F:Addr->fy)(h:Heap)(P:Addr)(q:ig):Prop:=∃ps,h.get? P=some (PySem.W.tabObj ps)/\TriplesOk ps.toList/\(∀pos v,codeAmong pos ps.toList=some v->jt F v)/\∃more,ps=q++more
abbrev PF(W:Wd)(h h':Heap)(T c' T':Addr)(o':Obj)(q:ig):Prop:=P9 (W.own T=some (.tab q)) (∀b x,b≠T->h.get? b=some x->h'.get? b=some x) (h.objs.size<=c') (h.objs.size<=T') (c'≠T') (h'.get? c'=some o') (h'.get? T'=some (PySem.W.tabObj #[])) (∀P,jc o' P->P=T') (aay (tV W.aU c' o') h' T q)
def Wd.code(W:Wd)(c' T':Addr)(o':Obj):Wd:=⟨tV W.aU c' o',cO W.own T' (some (.tab #[])),W.ρ⟩
theorem Inv.code{σ:aq}{h h':Heap}{T c' T':Addr}{o':Obj}{q:ig}(I:Inv W σ h)(x:PF W h h' T c' T' o' q)(sz:h.objs.size<=h'.objs.size):W.Le (W.code c' T' o')/\Inv (W.code c' T' o') σ h':=by
 have kf:∀b y,W.aU b=some y->tV W.aU c' o' b=some y:=λb y e=>(iQ (wk (I.sV e) x.3)).trans e;have ko:∀b r,W.own b=some r->cO W.own T' (some (.tab #[])) b=some r:=λb r e=>(aM (wk (I.pQ e) x.4)).trans e;have kh:∀b y r,W.own b=some r->r≠ .tab q->h.get? b=some y->h'.get? b=some y:=λb y r e n=>x.2 b y (aT.dj e x.1 n);have old:∀b r,cO W.own T' (some (.tab #[])) b=some r->r≠ .tab #[]->W.own b=some r:=λb r e n=>(bX e).elim (λz=>(n (aap z.2).symm).elim) And.right;have le:W.Le (W.code c' T' o'):=⟨kf,λa o=>ko _ _,λa o=>ko _ _,λa=>ko _ _,λa p=>ko _ _,λ_ _ e=>e⟩;refine ⟨le,λb y e=>?_,λb y e=>?_,λb y e=>?_,λb r e=>?_,λb e=>?_,I.6,λi y b e1 e2=>?_,⟨λb y U e z=>?_,λU p e=>?_⟩,λb e=>?_⟩
 ·exact (oF e).elim (λz=>by rw [z.1,← z.2];exact x.6) λe=>x.2 b y (λz=>nomatch (z▸e).symm.trans (I.4 _ _ x.1)) (I.1 b y e)
 ·have:=old b _ e nofun;exact kh b y _ this nofun (I.2 b y this)
 ·have:=old b _ e nofun;exact (I.3 b y this).elim λsl z=>⟨sl,kh b _ _ this nofun z⟩
 ·refine (bX e).elim (λz=>?_) λz=>(iQ (wk (I.pQ z.2) x.3)).trans (I.4 b r z.2)
  rw [z.1];exact (iQ (Ne.symm x.5)).trans (I.jh x.4)
 ·exact (aM (Ne.symm (wk (ado x.7) e))).trans (I.5 b (aco sz e))
 ·exact (I.7 i y b e1 e2).move (.le' le (λb=>ko b _) λb o e=>kh b o _ e nofun)
 ·refine (oF e).elim (λy=>?_) λe=>(I.8.1 b y U e z).imp λp=>ko _ _
  rw [x.8 U (y.2▸z)];exact ⟨_,aL⟩
 ·refine (bX e).elim (λz=>⟨#[],z.1▸x.7,trivial,λpos v q=>by simp [codeAmong] at q,#[],by cases z.2;rfl⟩) λz=>?_
  by_cases u:U=T
  ·subst u
   cases z.2.symm.trans x.1;exact x.9
  ·exact (I.8.2 U p z.2).elim λps y=>⟨ps,x.2 _ _ u y.1,y.2.1,λpos v q=>(y.2.2.1 pos v q).mono kf,y.2.2.2⟩
 ·have:=old b _ e nofun;exact (I.9 b this).elim λo z=>⟨o,kh b o _ this nofun z⟩
def Pt.code(S:Pt)(c' T':Addr)(o':Obj)(h:Heap)(t:Nat):Pt:=⟨S.W.code c' T' o',S.σ,{ S.s with heap:=h,toks:=t }⟩
inductive aaz(S:Pt)(c:Addr):Prop
 |mk (T:Addr) (ps q more:ig) (own:S.W.own T=some (.tab q)) (gr:ps=q++more) (isC:S.s.heap.IsCode c T ps) (isT:S.s.heap.TableAt c T ps) (t:TriplesOk ps.toList) (all:∀pos v,codeAmong pos ps.toList=some v->jt S.W.aU v)
theorem Inv.aaA(I:Inv S.W S.σ S.s.heap){c:Addr}{oc:Obj}(hoc:S.W.aU c=some oc)(hO:vH oc):aaz S c:=by
 refine hO.casesOn λvs T qn tn file tf flags tg inF text tt e1 e2 e3 e4 e5 e6 e7 e8 e9=>?_;refine (I.8.1 c oc T hoc ⟨e1,vs,e2,e4⟩).elim λq own=>?_;have hcs:=I.1 _ _ hoc;exact (I.8.2 T q own).elim λps z=>z.2.2.2.elim λmore gr=>⟨T,ps,q,more,own,gr,⟨oc,vs,file,tf,flags,tg,inF,text,tt,_,hcs,e2,e5,e6,e7,e8,e9,z.1,rfl,z.2.1,λy=>nomatch (y▸hoc).symm.trans (I.4 _ _ own)⟩,⟨⟨oc,vs,hcs,e1,e2,e4⟩,z.1⟩,z.2.1,z.2.2.1⟩
inductive aaB(h h':Heap)(c':Addr):Prop
 |mk (T':Addr) (o':Obj) (t:h.objs.size<=T') (ne:c'≠T') (g:h'.get? c'=some o') (gT:h'.get? T'=some (PySem.W.tabObj #[])) (ct:∀P,jc o' P->P=T') (O:vH o')
theorem Lb{h h':Heap}{c':Addr}{qual:Str}(hrec:h'.CodeRec (.ref c') qual)(hnew:∃P',h.objs.size<=P'/\h'.IsCode c' P' #[]/\h'.TableAt c' P' #[]):aaB h h' c':=by
 refine bB λgg=>?_;obtain ⟨T',hT',hC',aaC⟩:=hnew;obtain ⟨o',vs',file',tf',flags',tg',aeS,text',tt',op',g1,g2,g3,g4,g5,g6,g7,g8,g9,_,gne⟩:=hC';obtain ⟨⟨o2,vs2,k1,k2,k3,k4⟩,kT⟩:=aaC;refine gg ?_;rw [g1] at k1;cases k1;rw [g2] at k3;cases k3;refine bB λgg=>?_;obtain ⟨c3,o3,vs3,t3,z,n1,n2,n3⟩:=hrec;refine gg ?_;cases z;rw [g1] at n1;cases n1;rw [g2] at n2;cases n2;exact ⟨T',_,hT',gne,g1,kT,λP z=>z.2.elim λvs4 z=>by rw [g2] at z;cases z.1;exact aiM (aap (z.2.symm.trans k4)),vs',T',qual,t3,file',tf',flags',tg',aeS,text',tt',k2,g2,n3,k4,g3,g4,g5,g6,g7⟩
theorem PG(o:Ok F S){pos:Pos}{line:Nat}{name qual:Str}{p:Arguments}{sc:Scope}{body:FuncBody}{Q:b7}(q:∀S' v,bH F S S'->S'.σ=S.σ->jt S'.W.aU v->Q v S'.s):wpAny Md A (functionCode F.env pos line name qual p sc body) Q E S.s:=
 bB λgg=>o.2.9.casesOn λc oc hc hoc hO=>(o.1.aaA hoc hO).casesOn λT ps q0 more own gr isC isT ht hall=>gg <|by
  induction hit:codeAmong pos ps.toList with
  |some v=>exact wpAny_functionCode_hit hc isC hit (q S v (.refl o) rfl (hall pos v hit))|none=>
   exact wpAny_functionCodeX hc isC isT hit λc' h' tk hx hge hlt _ hrec htab hnew=>(Lb hrec hnew).casesOn λT' o' hT' gne g1 kT ct hO'=>by
    have cF:jt (tV S.W.aU c' o') (.ref c'):=⟨c',o',rfl,if_pos rfl,hO'⟩;have hl:(ps ++ #[rawInt pos.line,rawInt pos.col,Value.ref c']).toList=ps.toList++[rawInt pos.line,rawInt pos.col,.ref c']:=by simp
    have y:=o.1.code (h':=h') ⟨own,hx,hge,hT',gne,g1,kT,ct,_,htab.2,by rw [hl];exact TriplesOk_snoc _ _ _ _ ht,λpos2 v z=>by
      rw [hl] at z;exact (vj _ ht z).elim (λz=>(hall pos2 v z).mono λb y e=>(iQ (wk (o.1.sV e) hge)).trans e) λz=>z▸cF,_,by rw [gr,Array.append_assoc]⟩ (Nat.le_of_lt (adQ hge hlt))
    exact q (S.code c' T' o' h' tk) (.ref c') (o.up ⟨y.1,rfl,rfl,rfl⟩ y.2 λob z=>hx _ ob (aT.dj o.2.3 own nofun) z) rfl cF
theorem CE{env:Env}{body:Str×NameKind->List (Str×Addr)->Sem (ForInStep (List (Str×Addr)))}
  (hb:∀p acc,body p acc=if (p.2 ==.free)=true then (do let a ← cellOf env p.1;pure (.yield ((p.1,a)::acc))) else pure (.yield acc)) {ρ:bR} {cells:ja} (hc:xw ρ cells env.cells) {cl:ja} (names:List (Str×NameKind)) :
  ∀(acc:ja)(acc':List (Str×Addr)),eZ ρ acc acc'->freeOf cells names acc=some cl->∃dX,(forIn names acc' body:Sem _)=pure dX/\eZ ρ cl dX:=by
 induction names with
 |nil=>exact λacc acc' ha h=>⟨acc',aeA ..,aap h▸ha⟩|cons p rest ih=>
  intro acc acc' ha h;rw [ael,hb];obtain ⟨n,kd⟩:=p;induction kd with
  |free=>
   rw [if_pos (by rfl)]
   revert h;show (match look n cells with|some i=>freeOf cells rest ((n,i)::acc)|none=>none)=some cl->_
   induction z:look n cells with
   |none=>exact bq|some i=>
    intro h;refine bB λgg=>?_;obtain ⟨a,e1,e2⟩:=hc _ _ z;refine gg ?_;rw [show cellOf env n=pure a from by unfold cellOf;rw [e2],pure_bind,pure_bind]
    exact ih ((n,i)::acc) ((n,a)::acc') ⟨a,acc',rfl,e1,ha⟩ h
  |_=>rw [if_neg (by dsimp only;decide),pure_bind];exact ih acc acc' ha h
theorem tW(o:Ok F S){sc:Scope}{cl:ja}(h:freeOf F.e.cells sc.names []=some cl):∃dX,closureFor sc F.env=pure dX/\eZ S.W.ρ cl dX:=
 (CE (env:=F.env) (body:=λx acc=>match x with|(n,k)=>if (k ==.free)=true then (do let a ← cellOf F.env n;pure (.yield ((n,a)::acc))) else pure (.yield acc)) (λ_ _=>rfl) o.2.5 sc.names [] [] rfl h).elim λdX z=>
  ⟨dX,(congrArg (λm:Sem (List (Str×Addr))=>m >>= λs=>pure s) z.1).trans (pure_bind ..),z.2⟩
theorem CF(o:Ok F S){sc:Scope}{cl:ja}(h:freeOf F.e.cells sc.names []=some cl){Q:List (Str×Addr)->Shared->Prop}(q:∀dX,eZ S.W.ρ cl dX->Q dX S.s):wpAny Md A (closureFor sc F.env) Q E S.s:=
 (tW o h).elim λdX z=>by rw [z.1];exact aaq (q dX z.2)
end
section
variable{cx:Cx Prop}{F:Fr cx}{S S' S1:Pt}{A:Around}{E:b7}
inductive Glo(s:Shared):Prop
 |mk (mg:Str->cK) (bm:Addr) (ob:Obj) (g1:s.heap.Ns mainGlobals mg) (g2:mg "__builtins__" = some (.ref bm)) (g3:bm≠builtinsNs) (g4:s.heap.get? bm=some ob) (g5:ob.cls =.type "module") (g6:ob.dict=some builtinsNs) (g7:ob.data =.plain)
theorem Ok.globals(o:Ok F S):Glo S.s:=o.3.4.casesOn λog g n bm ob h say e n1 n2 hb c d p=>⟨g,bm,ob,say.ns (o.1.1 _ _ h),e,n1,o.1.1 _ _ hb,c,d,p⟩
noncomputable def fdOf(name qual:Str)(ps:List Arg)(body:cL)(sc:Scope)(dX:List (Str×Addr))(ct code pm doc:Value):FuncData:=
 { name:=name,qualname:=qual,params:=⟨[],ps,none,[],[],none,[]⟩,body:=.stmts body,scope:=sc,globals:=mainGlobals,closure:=dX,closureTuple:=ct,code:=code,builtins:=builtinsNs,defaults:=.none,kwdefaults:=.none,annotations:=none,pyModule:=pm,doc:=doc }
abbrev Flat(sc:Scope):Prop:=P3 (sc.isGenerator=false) (sc.isCoroutine=false) (sc.kind =.function)
def aaD(F:Fr cx)(S:Pt)(f:Fn)(cl:ja)(Q:b7):Prop:=∀S' a,bH F S S'->S'.σ=S.σ->ao S'.W (.clo f cl) (.ref a)->Q (.ref a) S'.s
theorem SN(o:Ok F S){name qual:Str}{ps:List Arg}{body:cL}{sc:Scope}{cl:ja}{dX:List (Str×Addr)}{ct code pm doc:Value}(h1:Flat sc)(hc:eZ S.W.ρ cl dX)(hk:jt S.W.aU code){Q:b7}(q:aaD F S ⟨name,ps.map (·.arg),[],body,sc⟩ cl Q) :
  wpAny Md A (newObj (.type "function") (.func (fdOf name qual ps body sc dX ct code pm doc))) Q E S.s:=by
 refine aeO ?_ (by size_fits)
 have y:=o.fz (ob:={ cls:=.type "function",data:=.func (fdOf name qual ps body sc dX ct code pm doc) }) rfl λ_ z=>absurd (ahr z.1) (by decide)
 exact q _ _ y.1 rfl ⟨_,_,_,y.2,⟨rfl,rfl,rfl,rfl,rfl,rfl,rfl,rfl,hk.mono y.1.1.1.1,.inl ⟨rfl,rfl⟩,h1.1,h1.2,h1.3⟩,hc.mono y.1.1.1.6⟩
theorem aaE(o:Ok F S){b:Bool}{l:bU}{jp:Value->Sem Value}{Q:b7}(q:∀ct S1,bH F S S1->S1.σ=S.σ->wpAny Md A (jp ct) Q E S1.s):wpAny Md A (if b=true then pure .none >>= jp else newTextTuple l >>= jp) Q E S.s:=by
 induction b with
 |true=>exact aag (aaq (q .none S (.refl o) rfl))|false=>exact aag (wpAny_newTextTuple (q _ (S.at (S.s.heap.push _) S.s.toks) (o.pushed _) rfl))
theorem Ar(o:Ok F S){name qual:Str}{ps:List Arg}{body:cL}{sc:Scope}{cl:ja}{pos:Pos}{line:Nat}{Q:b7}(h1:Flat sc)(h:freeOf F.e.cells sc.names []=some cl)(q:aaD F S ⟨name,ps.map (·.arg),[],body,sc⟩ cl Q) :
  wpAny Md A (makeTail name qual ⟨[],ps,none,[],[],none,[]⟩ (.stmts body) sc F.env .none .none none pos line) Q E S.s:=by
 unfold makeTail;refine aag (CF o h λdX hc=>aaE o λct S1 n1 e1=>aag (PG n1.2 λS2 code n2 e2 hk=>n2.2.globals.casesOn λmg bm ob g1 g2 g3 g4 g5 g6 g7=>?_));rw [o.2.6];refine aag (wpAny_builtinsFor g1 g2 g3 g4 g5 g6 g7 (aag (wpAny_nsGet g1 ?_)));have n12:=n1.trans n2;have hc2:=hc.mono n12.1.1.6;dsimp only;induction docOf body with
 |none=>exact aag (aaq (SN n2.2 h1 hc2 hk λS3 a n3 e3 v=>q S3 a (n12.trans n3) (e3.trans (e2.trans e1)) v))|some t=>
  have n3:=n2.2.tok (S2.s.toks+1);exact aag (aii (SN n3.2 h1 hc2 hk λS3 a n4 e3 v=>q S3 a (n12.trans (n3.trans n4)) (e3.trans (e2.trans e1)) v))
theorem As{env:Env}{l:List Arg}:xj l=true->annotationsOf l env=[]:=by
 induction l with
 |nil=>exact λ_=>rfl|cons x l ih=>
  obtain ⟨a,an,ap⟩:=x;induction an with
  |none=>exact ih|some _=>exact bM
theorem Vl{name:Str}{ps:List Arg}{body:cL}{sc:Scope}{bind:Str}{p:Pos}(o:Ok F S):jx F (exec (.FunctionDef name ⟨[],ps,none,[],[],none,[]⟩ body [] none [] sc none bind p) F.env) (ZK F.e name bind ps body sc) S:=λk Q E h ok er=>bB λgg=>dK h λz h=>aQ h λcl e h=>gg <|by
 have z4:=bx z;have z3:=bx z4.1;have z2:=bx z3.1;have z1:=bx z2.1;have hk:isFun sc.kind=true->sc.kind =.function:=by
  induction sc.kind with
  |function=>exact λ_=>rfl|_=>exact bM
 rw [← dI.mp z1.1] at *;have hann:annTrees ⟨[],ps,none,[],[],none,[]⟩ none F.env=[]:=by
  show annotationsOf (ps++[]++[]++[]++[]) F.env++[]=[];rw [adO,adO,adO,adO,adO,As z1.2]
 refine PySem.W.nestDef_K rfl rfl hann ?_;rw [makeFunction_eq];simp only [List.zip_nil_right,List.filterMap_nil,List.isEmpty_nil,if_true,pure_bind];exact Ar o ⟨nZ z2.2,nZ z3.2,hk z4.2⟩ e λS1 a n1 e1 v=>jy n1.2 v (k:=λm σ'=>k (.next,m) σ') (by rw [e1];exact h) λS2 m ir o2 h2=>ok S2 .next m .next (n1.1.trans ir) o2 .next h2
end
section
variable{cx:Cx Prop}{F:Fr cx}{S S' S2:Pt}{W W2:Wd}{A:Around}{E:b7}{r:dZ Prop}{env:Env}{pos:Pos}
def Pt.adopt(S:Pt)(d:Addr)(mo:MO)(h:Heap)(t:Nat):Pt:=⟨⟨S.W.aU,cO S.W.own d (some (.slot (len S.σ))),app S.W.ρ d⟩,app S.σ mo,{ S.s with heap:=h,toks:=t }⟩
theorem Ok.adopt(o:Ok F S){d:Addr}{ox:Obj}{mo:MO}(hk:S.W.own d=some (.kept ox)){h':Heap}{tk:Nat}(hs:Heap.SameBut d S.s.heap h')(c:(S.adopt d mo h' tk).W.own d=some (.slot (len S.σ))->br (S.adopt d mo h' tk).W (len S.σ) d h' mo) :
  bH F (S.drop d) (S.adopt d mo h' tk)/\af (S.adopt d mo h' tk).W.ρ (len S.σ)=some d:=by
 have o1:=o.l5 hk;have hd:=o.1.2 _ _ hk;have no:(S.drop d).W.own d=none:=aL;have up:∀b r,(S.drop d).W.own b=some r->b≠d/\S.W.own b=some r:=λb r e=>(bX e).elim (λz=>nomatch z.2) id;have ho:∀b r,(S.drop d).W.own b=some r->cO S.W.own d (some (.slot (len S.σ))) b=some r:=λb r e=>(aM (up b r e).1).trans (up b r e).2;have hn:af (S.adopt d mo h' tk).W.ρ (len S.σ)=some d:=by show af (app S.W.ρ d) _=_;rw [o.1.6];exact cz _ _
 have kp:∀b ob,b≠d->S.s.heap.get? b=some ob->h'.get? b=some ob:=λb ob n e=>(hs.2 b n).trans e;have kr:∀b r,(S.drop d).W.own b=some r->∀ob,S.s.heap.get? b=some ob->h'.get? b=some ob:=λb r e ob=>kp b ob (up b r e).1;have nf:∀b ob,S.W.aU b=some ob->b≠d:=λb ob e z=>nomatch (z▸e).symm.trans (o.1.4 _ _ hk);have old:∀b r,cO S.W.own d (some (.slot (len S.σ))) b=some r->(∀i,r≠ .slot i)->(S.drop d).W.own b=some r:=λb r e n=>(bX e).elim (λz=>(n _ (aap z.2).symm).elim) λz=>(aM z.1).trans z.2;have le:(S.drop d).W.Le (S.adopt d mo h' tk).W:=⟨λ_ _ e=>e,λ_ _=>ho _ _,λ_ _=>ho _ _,λ_=>ho _ _,λ_ _=>ho _ _,λ_ _ e=>aB _ e⟩;refine ⟨o1.up ⟨le,rfl,rfl,rfl⟩ ⟨λb ob e=>kp b ob (nf b ob e) (o.1.1 b ob e),λb ob e=>?_,λb ob e=>?_,λb r e=>?_,λb e=>?_,((bu ..).trans (congrArg (· + 1) o.1.6)).trans (bu ..).symm,λi x b e1 e2=>?_,o1.1.8.move (λ_ _ e=>e) (λ_ _ _ e _=>e) (λb _=>ho b _) (λb _ e=>old b _ e nofun) λb _ ob e=>kr b _ e ob,λb e=>?_⟩ λob e=>kr _ _ o1.2.3 ob e,hn⟩
 ·have:=old b _ e nofun;exact kr b _ this _ (o1.1.2 b ob this)
 ·have:=old b _ e nofun;exact (o1.1.3 b ob this).elim λsl z=>⟨sl,kr b _ this _ z⟩
 ·exact (bX e).elim (λz=>(congrArg S.W.aU z.1).trans (o.1.4 _ _ hk)) λz=>o.1.4 b r z.2
 ·exact (aM (Ne.symm (wk (hs.1▸ado hd) e))).trans (o.1.5 b (hs.1▸e))
 ·induction bF e1 with
  |inl q=>induction bF e2 with
   |inl z=>exact (o1.1.7 i x b q z).move (.le' le (λb=>ho b _) λb ob e=>kr b _ e ob)|inr z=>exact (aec _ (o.1.6▸z.1▸cQ q)).elim
  |inr q=>
   rw [q.1] at e2;have e2:=hn.symm.trans e2;rw [q.1,q.2,← aap e2];exact c aL
 ·have:=old b _ e nofun;exact (o1.1.9 b this).elim λob z=>⟨ob,kr b _ this _ z⟩
noncomputable def Vm(W:Wd):Lo->List (Value×Value)->Prop
 | []=>λx=>x=[]|p::r=>λx=>∃t y l,x=(.str p.1 t,y)::l/\ao W p.2 y/\Vm W r l
abbrev DR(n:Nat)(W:Wd)(l:Lo)(l':List (Value×Value)):Prop:=P2 (Vm W l l') (len l=n)
noncomputable def prs(env:Env)(pos:Pos):List (Option Expr)->List Expr->List (Sem Value×Sem Value)
 | [],_=>[]|k::ks,xs=>match k with
  |none=>[]|some k=>match xs with
   | []=>[]|x::xs=>(eval k env,do let v ← eval x env;standAt pos;pure v)::prs env pos ks xs
abbrev Prs(env:Env)(pos:Pos)(ks:List (Option Expr))(xs:List Expr):Prop:=P2 ((evalEachOpt ks env).zip ((evalEach xs env).map λv=>do let x ← v;standAt pos;pure x)=(prs env pos ks xs).map λp=>(some p.1,p.2)) ((prs env pos ks xs).length=len ks)
theorem Hq{ks:List (Option Expr)}:∀{xs:List Expr},sD ks xs=true->Prs env pos ks xs:=by
 induction ks with
 |nil=>intro xs h;induction xs with|nil=>exact ⟨rfl,rfl⟩|cons _ _=>exact bM h
 |cons k ks ih=>
  intro xs h;induction xs with
  |nil=>exact bM h|cons x xs=>
   induction k with
   |none=>exact bM h|some k=>exact ⟨congrArg (_ :: ·) (ih (xs:=xs) h).1,congrArg (· + 1) (ih (xs:=xs) h).2⟩
theorem Lc{v:MV}{x:Str}{y:Value}:isStr v=some x->ao W v y->∃t,y =.str x t:=by
 induction v using MV.casesOn with
 |c c=>induction c using CV.casesOn with
  |str z=>exact λh hv=>cP.casesOn hv λt=>⟨t,by rw [← aap h]⟩|_=>exact bq
 |_=>exact bq
theorem Ld(H:fJ cx r)(ks:List (Option Expr)):∀(xs:List Expr){S:Pt},Ok F S->sD ks xs=true->Runs F (DR (len ks)) (evalPairs (prs F.env pos ks xs)) (w9 r F.e ks xs) S:=by
 induction ks with
 |nil=>exact λxs S o hd k Q E h q _=>aQ h λ_ _ h=>evalPairs_nil (q.same o (b:=[]) ⟨rfl,rfl⟩ h)|cons key ks ih=>
  intro xs S o hd k Q E h q er;induction xs with
  |nil=>exact bM hd|cons x xs=>induction key with
   |none=>exact bM hd|some key=>
    exact evalPairs_cons ((H.ev F key S o).go h er λS1 a y n1 v1 h1=>bB λgg=>aQ h1 λn q1 h1=>(Lc q1 v1).elim λt e=>gg <|by
     rw [e];exact aag ((H.ev F x S1 n1.2).go h1 (er.aA n1) λS2 b z n2 v2 h2=>aag (adj (aaq ((ih xs n2.2 hd).go h2 (er.aA (n1.trans n2)) λS3 es vs n3 v3 h3=>
      q S3 ((n,b)::es) _ (n1.trans (n2.trans n3)) ⟨⟨t,z,vs,rfl,v2.up n3.1.1,v3.1⟩,congrArg (· + 1) v3.2⟩ h3)))))
theorem Au{d:Addr}(es:Lo):∀{vs:List (Value×Value)}{acc:Lo}{g:Str->cK}{ob:Obj}{s:Shared}{Q:PUnit->Shared->Prop},Vm W es vs->s.heap.get? d=some ob->dU g ob (len acc)->gK W acc g->len acc+len es<=100->
  (∀h' vO g' tk,h'.get? d=some vO->dU g' vO (len (putAll acc es))->gK W (putAll acc es) g'->Heap.SameBut d s.heap h'->Q ⟨⟩ { s with heap:=h',toks:=tk })->
  wpAny Md A (forIn vs PUnit.unit λ(x:Value×Value) (_:PUnit)=>(do dictSet d x.1 x.2;pure (ForInStep.yield PUnit.unit):Sem (ForInStep PUnit))) Q E s:=by
 induction es with
 |nil=>intro vs acc g ob s Q hr ho hs hl hz q;rw [show vs=[] from hr,aeA];exact aaq (q s.heap ob g s.toks ho hs hl (.refl _ _))|cons p es ih=>
  intro vs acc g ob s Q hr ho hs hl hz q;refine bB λgg=>?_;obtain ⟨t,y,l,rfl,hv,hr⟩:=hr;refine gg ?_;rw [ael];have hz':len acc+(len es+1)<=100:=hz;have lp:=(gn p.1 p.2 acc).2;exact aag (aag (qC ho hs (by lia) (hl.room p.1 p.2) λvO h' t q1 q2 q3=>aaq (ih (acc:=put p.1 p.2 acc) hr q2 q1 (hl.put hv p.1) (by lia) λh2 uQ g2 tk n1 n2 n3 n4=>q h2 uQ g2 tk n1 n2 n3 (q3.trans n4))))
noncomputable abbrev Av:Obj:={ cls:=.type "dict",data:=.dict #[] }
theorem aaF:dU (λ_=>none) Av 0:=⟨#[],0,rfl,⟨λ_ he=>by simp at he,abv _,λ_=>rfl⟩⟩
theorem Lh(o:Ok F S):Runs F VR (eval (.Dict [] [] pos) F.env) (bindM (alloc (.dict [])) λn=>dF (.ref n)) S:=λk Q E h q er=>wpAny_Dict_empty (by
 have x:=o.add (ob:=Av) (mo:=.dict []) rfl λ_ ow g=>⟨Av,_,ow,g,aaF,λ_=>rfl⟩;exact q (S.add Av (.dict [])) _ _ x.1 x.2 h)
theorem PI(H:fJ cx r)(o:Ok F S){ks:List (Option Expr)}{xs:List Expr}(h1:sD ks xs=true)(h2:Nat.ble (len ks) 15=true) :
  Runs F VR (eval (.Dict ks xs pos) F.env) (bg (w9 r F.e ks xs) λes=>bindM (alloc (.dict (putAll [] es))) λn=>dF (.ref n)) S:=by
 induction ks with
 |nil=>cases xs with
  |cons _ _=>exact bM h1|nil=>exact Lh o
 |cons k0 ks=>
  intro k Q E h q er;have sh:=Hq (env:=F.env) (pos:=pos) h1;have ln:=sh.2;have h15:=abV h2;have f1:S.W.own S.s.heap.objs.size=none:=o.1.5 _ (abv _);have n1:=o.pushed Av;have n2:=n1.2.jO f1 (o.1.jh (abv _)) (abX _ rfl);rw [arm_eval_Dict,sh.1,dictDisplay_pairs _ (by intro z;rw [z] at ln;cases ln) (by rw [ln];lia)]
  refine aag (adj (aag ?_));unfold subDict;refine aag (ahR (aag (acE ?_)));rw [if_pos (by rw [ln];exact h15)]
  refine aag ((Ld (pos:=pos) H (k0::ks) xs n2.2 h1).go h (λS1 i a nx e1 e2 h3=>?_) λS1 es vs nx v1 h3=>?_)
  ·have hk:=nx.1.1.2 _ _ aL
   exact er (S1.drop S.s.heap.objs.size) i a ⟨⟨Wd.rF f1 nx.1.1,nx.1.2.1,nx.1.2.2,nx.1.2.3⟩,nx.2.l5 hk⟩ e1 e2 h3
  ·have hk:=nx.1.1.2 _ _ aL
   have hlen:len es<=15:=by rw [v1.2];exact h15
   refine acE (aag (Au (acc:=[]) es v1.1 (nx.2.1.2 _ _ hk) aaF (λ_=>rfl) (by show 0+len es<=100;lia) λh' vO g' tk m1 m2 m3 m4=>?_))
   have ad:=nx.2.adopt (mo:=.dict (putAll [] es)) (tk:=tk) hk m4 λow=>⟨vO,g',ow,m1,m2,λx=>by
    have:=m3 x;revert this;induction look x (putAll [] es) with
    |none=>exact id|some v=>exact λz=>z.elim λy w=>⟨y,w.1,ao.up' (W:=S1.W) (W':=(S1.adopt S.s.heap.objs.size (.dict (putAll [] es)) h' tk).W) ⟨λ_ _ e=>e,λ_ _ e=>aB _ e⟩ _ _ w.2⟩⟩
   exact aaq (aaq (aaq (q (S1.adopt S.s.heap.objs.size (.dict (putAll [] es)) h' tk) (.ref (len S1.σ)) _ ⟨Le.trans (b:=S1.drop S.s.heap.objs.size) ⟨Wd.rF f1 nx.1.1,nx.1.2.1,nx.1.2.2,nx.1.2.3⟩ ad.1.1,ad.1.2⟩ ⟨_,ad.2⟩ h3)))
end
section
open PySem PySem.W
section
variable{K:Frag}
noncomputable def Hr:List String:=["NoneType","bool","int","str","tuple","list"]
noncomputable def qN:List String:=["int","str","list","tuple"]
theorem Vn:∀T∈Hr,∀n∈qN,kitOne [] (.type T) (.type n)=some (T==n||(T=="bool" && n=="int")):=by decide +kernel
theorem PJ:∀T∈Hr,(PySem.fastFind? T).isSome=true:=by decide +kernel
theorem Li:∀n∈qN,kitMeta n=true:=by decide +kernel
theorem pV{n:String}(h:iH n=true):n∈qN:=by
 unfold iH at h;refine (ahi.mp h).elim (λh=>(ahi.mp h).elim (λh=>(ahi.mp h).elim (λh=>?_) λh=>?_) λh=>?_) λh=>?_<;>rw [beq_iff_eq.mp h]<;>decide
theorem tX{l:List String}{D:Addr}:(l.map Value.type).contains (.ref D)=false:=Bool.eq_false_iff.mpr λq=>by
 have:=List.contains_iff_mem.mp q;simp at this
theorem Vo{T:String}(hT:T∈Hr){D:Addr}{c:pH}(h:mH K D c):kitOne K (.type T) (.ref D)=some false:=h.4.elim λcd z=>by
 unfold kitOne;rw [if_neg (λq=>by cases beq_iff_eq.mp q)]
 unfold kitCls;dsimp only;rw [z.1,h.1,if_pos (by simp)]
 have h6:=PJ T hT;unfold subIn fastBuiltinMro;dsimp only;induction q:PySem.fastFind? T with
 |none=>rw [q] at h6;exact bM h6|some l=>exact congrArg some tX
theorem Vp{n:String}(hn:n∈qN){C:Addr}{c:pH}(h:mH K C c):kitOne K (.ref C) (.type n)=some false:=h.4.elim λcd z=>by
 unfold kitOne;rw [if_neg (λq=>by cases beq_iff_eq.mp q)]
 unfold kitCls;dsimp only;rw [if_pos (Li n hn)];unfold subIn mroIn;dsimp only;rw [z.1];show (if cd.mro.isEmpty then none else some (cd.mro.contains (.type n)))=_;rw [z.2.2.2.1,z.2.2.2.2 n (by revert n;decide)]
 rfl
theorem Vq{C D:Addr}{c d:pH}(h:mH K C c)(h':mH K D d):kitOne K (.ref C) (.ref D)=some (j6 D c.mro):=by
 unfold kitOne;by_cases z:C=D
 ·subst z
  rw [if_pos (by simp),h.2]
 ·rw [if_neg (by simpa using z)]
  refine h.4.elim λcd z=>h'.4.elim λcd' z'=>?_;unfold kitCls;dsimp only;rw [z'.1,h'.1,if_pos (by simp)]
  unfold subIn mroIn;dsimp only;rw [z.1];show (if cd.mro.isEmpty then none else some (cd.mro.contains (.ref D)))=_;rw [z.2.2.2.1,z.2.2.1];rfl
theorem Lj{x C d:Addr}{od:Obj}{c:pH}(h:mH K C c)(he:c.isExc=false):KitX K (.ref x) (.ref C) (λh=>InstAt h x (fL C d) C (some od)):=h.4.elim λcd z=>by
 have k:=h.3 he;refine kitx_own ?_ ?_ k.1 (by rfl) (by rfl) k.2
 ·unfold plainGet;rw [h.10 he,h.11 he];simp
 ·unfold hasDictIn;rw [z.1];exact z.2.1
end
section
variable{cx:Cx Prop}{F:Fr cx}{S:Pt}{x y:Value}
def nc(F:Fr cx)(S:Pt)(x y:Value)(b:Bool):Prop:=∀(Q:b7)(E:b7),(∀tk,Q (.bool b) { S.s with toks:=tk })->wpAny Md F.A (call (.builtin "isinstance") [x,y]) Q E S.s
inductive Lk(K:Frag)(h:Heap):Value->Value->Prop
 |typ (x:Value) (T:String) (H:Heap->Prop) (hT:T∈Hr) (Z:KitX K x (.type T) H) (hH:H h) (hx:x≠ .builtin "__main__.__loader__#opaque"):Lk K h x (.type T)|ins (b C d:Addr) (od:Obj) (g:h.get? b=some (fL C d)) (gd:h.get? d=some od):Lk K h (.ref b) (.ref C)
theorem SO(o:Ok F S){T:String}{H:Heap->Prop}(hT:T∈Hr)(Z:KitX cx.top.cH x (.type T) H)(hH:H S.s.heap)(hx:x≠ .builtin "__main__.__loader__#opaque"){t:CV}(ht:bw S.W.aU t y):aZ (nc F S x y) (I9 cx (.type T) t):=by
 induction t using CV.casesOn with
 |type n=>
  rw [show y =.type n from ht]
  show aZ _ (eF (iH n) _);induction z:iH n with
  |false=>trivial|true=>exact λQ E q=>kia_one (K:=cx.top.cH) Z o.cH hH (Vn T hT n (pV z)) hx q
 |aA D=>
  rw [show y =.ref D from ht]
  show aZ _ (match aD D cx.top.cls with|some _=>some false|none=>none)
  induction z:aD D cx.top.cls with
  |none=>trivial|some c=>exact λQ E q=>kia_one (K:=cx.top.cH) Z o.cH hH (Vo hT (o.3.5 D c z)) hx q
 |_=>trivial
theorem aaG(o:Ok F S){b C d:Addr}{od:Obj}(h1:S.s.heap.get? b=some (fL C d))(h2:S.s.heap.get? d=some od){t:CV}(ht:bw S.W.aU t y):aZ (nc F S (.ref b) y) (I9 cx (.ref C) t):=by
 unfold I9;dsimp only;induction z2:aD C cx.top.cls with
 |none=>trivial|some c=>
  have hc:=o.3.5 C c z2;have key:c.isExc=false->∀{r:Bool},kitOne cx.top.cH (.ref C) y=some r->nc F S (.ref b) y r:=λz3 r hk Q E q=>kia_one (K:=cx.top.cH) (Lj hc z3) o.cH (rD h1 h2) hk (by simp) q
  induction t using CV.casesOn with
  |type n=>
   rw [show y =.type n from ht] at key ⊢
   dsimp only;induction z:iH n&&!c.isExc with
   |false=>trivial|true=>exact key (nZ (bx z).2) (Vp (pV (bx z).1) hc)
  |aA D=>
   rw [show y =.ref D from ht] at key ⊢
   dsimp only;induction z:aD D cx.top.cls with
   |none=>trivial|some c'=>
    dsimp only;induction z3:c.isExc with
    |true=>trivial|false=>exact key z3 (Vq hc (o.3.5 D c' z))
  |_=>trivial
theorem PK(o:Ok F S){tg:Value}(r:Lk cx.top.cH S.s.heap x tg){t:CV}(ht:bw S.W.aU t y):aZ (nc F S x y) (I9 cx tg t):=by
 induction r with
 |typ _ T H hT Z hH hx=>exact SO o hT Z hH hx ht|ins b C d od g gd=>exact aaG o g gd ht
theorem aaH(o:Ok F S){c:CV}(hx:bw S.W.aU c x):aZ (Lk cx.top.cH S.s.heap x) (ZE c):=by
 induction c using CV.casesOn with
 |none=>rw [show x =.none from hx];exact .typ _ _ _ (by decide) kitx_none trivial (by simp)|bool b=>rw [show x =.bool b from hx];exact .typ _ _ _ (by decide) kitx_bool trivial (by simp)|int i=>exact cW.casesOn hx λt=>.typ _ _ _ (by decide) kitx_int trivial (by simp)|str i=>exact cP.casesOn hx λt=>.typ _ _ _ (by decide) kitx_str trivial (by simp)|tup l=>exact fY.casesOn hx λa xs e r=>.typ _ _ _ (by decide) kitx_tuple ⟨_,o.1.1 _ _ e,rfl⟩ (by simp)|lst l=>exact uY.casesOn hx λa xs n e r=>.typ _ _ _ (by decide) kitx_list ⟨_,o.1.1 _ _ e,rfl⟩ (by simp)|obj C l=>exact Gr.casesOn hx λa d ob g e ed s r=>.ins a C d ob (o.1.1 _ _ e) (o.1.1 _ _ ed)|_=>trivial
theorem PL(o:Ok F S){v:MV}:∀hx:ao S.W v x,aZ (Lk cx.top.cH S.s.heap x) (Uk cx v S.σ):=by
 refine MV.el v (λ_=>aaH o) (λn hx=>?_) (λl hx=>?_) λ_ _ _=>trivial
 ·refine iw.casesOn hx λa ha=>?_
  dsimp only [Uk];induction q:af S.σ n with
  |none=>trivial|some mo=>induction mo with
   |list pre back=>exact (o.lst ha q).casesOn λxs m ow g r sz=>.typ _ _ _ (by decide) kitx_list ⟨_,g,rfl⟩ (by simp)|inst C fs=>
    dsimp only;induction cM cx C with
    |true=>trivial|false=>exact bB λgg=>(o.ins ha q).casesOn λd ow ne g c=>c.casesOn λod _ _ gd _ _=>gg <|.ins a C d od g gd
   |_=>trivial
 ·exact fY.casesOn hx λa xs e r=>.typ _ _ _ (by decide) kitx_tuple ⟨_,o.1.1 _ _ e,rfl⟩ (by simp)
theorem tY(o:Ok F S){Ty:String}{H:Heap->Prop}{a:At}(hT:Ty∈Hr)(Z:KitX cx.top.cH x (.type Ty) H)(hH:H S.s.heap)(hx:x≠ .builtin "__main__.__loader__#opaque")(hn:∀n∈qN,(Ty==n||(Ty=="bool" && n=="int"))=kM a n){t:CV}(ht:bw S.W.aU t y) :
  aZ (λT:Tv=>∀b,T.Is b->nc F S x y b) (atT cx a t):=by
 have s:=SO o hT Z hH hx ht;revert s;induction t using CV.casesOn with
 |type n=>
  show aZ _ (eF (iH n) _)->aZ _ (eF (iH n) _);induction z:iH n with
  |false=>exact λ_=>trivial|true=>exact λs b hb=>by rw [← show kM a n=b from hb,← hn n (pV z)];exact s
 |aA D=>
  show aZ _ (match aD D cx.top.cls with|some _=>some false|none=>none)->aZ _ (match aD D cx.top.cls with|some _=>some Tv.no|none=>none)
  induction z:aD D cx.top.cls with
  |none=>exact λ_=>trivial|some c=>exact λs b hb=>by rw [show b=false from hb];exact s
 |_=>exact λ_=>trivial
theorem PM(o:Ok F S){a:At}(hx:bw S.W.aU (.at a) x){t:CV}(ht:bw S.W.aU t y):aZ (λT:Tv=>∀b,T.Is b->nc F S x y b) (atT cx a t):=by
 induction a with
 |none=>rw [show x =.none from hx];exact tY o (Ty:="NoneType") (by decide) kitx_none trivial (by simp) (by show ∀n∈qN,_=false;decide) ht|int i=>exact cW.casesOn hx λt=>tY o (Ty:="int") (by decide) kitx_int trivial (by simp) (by show ∀n∈qN,_=(n=="int");decide) ht|str i=>exact cP.casesOn hx λt=>tY o (Ty:="str") (by decide) kitx_str trivial (by simp) (by show ∀n∈qN,_=(n=="str");decide) ht
theorem PN{v:MV}{a:At}:Ul v=some a->v =.c (.at a):=by
 induction v using MV.casesOn with
 |c c=>induction c using CV.casesOn with
  |«at» b=>exact λh=>by rw [aap h]|_=>exact bq
 |_=>exact bq
theorem xU{v:MV}{c:CV}:qu v=some c->v =.c c:=by
 induction v using MV.casesOn with
 |c d=>exact λh=>by rw [aap h]|_=>exact bq
theorem Hs(o:Ok F S){v t:MV}(hv:ao S.W v x)(ht:ao S.W t y){k:Tv->aq->Prop}(h:BP cx v t S.σ k):Tells S k (nc F S x y):=aQ h λc e h=>by
 rw [xU e] at ht;revert h;induction q:Ul v with
 |some a=>
  rw [PN q] at hv;exact λh=>pR h λT e h=>⟨T,h,(PM o hv ht).get e⟩
 |none=>exact λh=>eH h λtg e h=>aQ h λb e2 h=>⟨tv b,h,λb' hb=>vK hb▸(PK o ((PL o hv).get e) ht).get e2⟩
end
end
section
variable{cx:Cx Prop}{F:Fr cx}{S:Pt}{x y:Value}{r:dZ Prop}
theorem Vr(o:Ok F S){i:Int}{n:Nat}{q p:Pos}:Runs F VR (eval (.UnaryOp .USub (.Constant (.int i) n q) p) F.env) (dF (.c (.int (-i)))) S:=λk Q E h ok er=>by
 rw [arm_eval_UnaryOp];exact aag (wpAny_Constant_int (aag (adj (acE (PySem.P.neg_int (ok.here o (b:=.c (.int (-i))) (cW.mk _) h _))))))
theorem big{n:Nat}(h:n<aW):(n:Int)<2 ^ 63:=by unfold aW at h;lia
def Ll(F:Fr cx)(S:Pt)(x:Value)(n:Nat):Prop:=∀(Q:b7)(E:b7),n<aW->(∀t tk,Q (.int n t) { S.s with toks:=tk })->wpAny Md F.A (call (.builtin "len") [x]) Q E S.s
theorem len_str(z:Str)(t:Nat):Ll F S (.str z t) z.cps.size:=λQ E h q=>PySem.P.len_str (by have:=big h;show ¬((z.cps.size:Nat):Int) ≥ _;lia) (q _ _)
theorem EJ{a:Addr}{xs:bU}{n:Nat}(e:S.s.heap.get? a=some (d7 xs.toArray))(hn:n=xs.length):Ll F S (.ref a) n:=λQ E h q=>by
 rw [hn] at h q;exact PyProof.Rows.len_tuple (items:=xs.toArray) ⟨_,e,rfl,0,rfl⟩ (big h) (q _ _)
theorem EK{a:Addr}{xs:bU}{n m:Nat}(e:S.s.heap.get? a=some (aX xs.toArray m))(hn:n=xs.length):Ll F S (.ref a) n:=λQ E h q=>by
 rw [hn] at h q;exact PyProof.Rows.len_list (items:=xs.toArray) ⟨_,e,rfl,m,rfl⟩ (big h) (q _ _)
theorem bO.len'{l:az}{xs:bU}(h:bO S.W.aU l xs):len l=xs.length:=(gM l).symm.trans h.vs.len
theorem aaI(o:Ok F S){c:CV}(hx:bw S.W.aU c x):aZ (Ll F S x) (Jd (.c c) S.σ):=by
 induction c using CV.casesOn with
 |str z=>exact cP.casesOn hx λt=>len_str z t|«at» a=>induction a with
  |str z=>exact cP.casesOn hx λt=>len_str z t|_=>trivial
 |tup l=>exact fY.casesOn hx λa xs e r=>EJ (o.1.1 _ _ e) r.len'|lst l=>exact uY.casesOn hx λa xs n e r=>EK (o.1.1 _ _ e) r.len'|_=>trivial
theorem PO(o:Ok F S){v:MV}:∀hx:ao S.W v x,aZ (Ll F S x) (Jd v S.σ):=by
 refine MV.el v (λ_=>aaI o) (λn hx=>?_) (λl hx=>?_) λ_ _ _=>trivial
 ·refine iw.casesOn hx λa ha=>?_
  dsimp only [Jd];induction q:af S.σ n with
  |none=>trivial|some mo=>induction mo with
   |list pre back=>exact (o.lst ha q).casesOn λxs m ow g r sz=>EK g (by have:=r.len;rw [len_cat,gM,je] at this;exact this)|_=>trivial
 ·exact fY.casesOn hx λa xs e r=>EJ (o.1.1 _ _ e) r.len
theorem Vs(o:Ok F S){a:MV}{b:Bool}(hv:ao S.W a x):Runs F VR (call (.builtin "len") [x]) (bindM (eE (Jd a)) λk=>bindM (iG (k<aW)) λ_=>dF (.c (mkInt k b))) S:=λk Q E h q er=>
 eH h λn e h=>(PO o hv).get e Q E h.1 λt tk=>q.here o (b:=.c (mkInt n b)) (lZ _ _ t) h.2 tk
theorem PR{u v:CV}(hv:bw S.W.aU u x)(hu:bw S.W.aU v y)(hh:F.A.handled=none):aZ (λm=>∀(Q:b7)(E:b7),(∀h' tk z,(∀b ob,S.s.heap.get? b=some ob->h'.get? b=some ob)->bw S.W.aU m z->Q z { S.s with heap:=h',toks:=tk })->wpAny Md F.A (call (.builtin "min") [x,y]) Q E S.s) (Oo u v):=by
 unfold Oo;have h1:=cC hv;have h2:=cC hu;revert h1;induction b8 u with
 |none=>exact λ_=>trivial|some i=>
  revert h2;induction b8 v with
  |none=>exact λ_ _=>trivial|some j=>
   intro h2 h1 Q E q;obtain ⟨i,s1⟩:=i;obtain ⟨j,s2⟩:=j;induction h1 with|mk t1=>
   induction h2 with|mk t2=>
   refine min_two_ints hh λh' tk hk=>?_;by_cases z:j<i
   ·rw [if_pos z];exact q h' tk _ hk (by show bw _ (mkInt (match fX j i with|true=>j|false=>i) _) _;rw [show fX j i=true from decide_eq_true z];exact lZ _ _ _)
   ·rw [if_neg z];exact q h' tk _ hk (by show bw _ (mkInt (match fX j i with|true=>j|false=>i) _) _;rw [show fX j i=false from decide_eq_false z];exact lZ _ _ _)
theorem PS{d:Hd}{u:Unit}:Uo d=some u->d =.no:=by
 induction d with
 |no=>exact λ_=>rfl|_=>exact bq
theorem Vt(o:Ok F S){a b:MV}(hv:ao S.W a x)(hu:ao S.W b y):Runs F VR (call (.builtin "min") [x,y]) (bindM (aR (Uo F.e.hd)) λ_=>bindM (aR (qu a)) λx=>bindM (aR (qu b)) λy=>bindM (aR (Oo x y)) λv=>dF (.c v)) S:=λk Q E h q er=>
 bB λgg=>aQ h λ_ e h=>aQ h λu e1 h=>aQ h λv e2 h=>aQ h λm e3 h=>gg <|by
  have hh:=o.4.1;rw [PS e] at hh;rw [xU e1] at hv;rw [xU e2] at hu;exact (PR hv hu hh.no').get e3 Q E λh' tk z hk hz=>q (S.more h' tk) (.c m) z (o.more hk tk) hz h
mutual
theorem Lm{G:Addr->fy}{h:Heap}(hF:∀a o,G a=some o->h.get? a=some o)(v:CV)(x:Value)(hx:bw G v x)(hk:Gq v=true):∃as,Reads h x (mX v) as:=match v with
 |.none=>by rw [show x =.none from hx];exact ⟨[],.none⟩|.bool b=>by rw [show x =.bool b from hx];exact ⟨[],.bool b⟩|.int i=>cW.casesOn hx λt=>⟨[],.int i t⟩|.str z=>cP.casesOn hx λt=>⟨[],.str z t⟩|.at a=>match a with
  |.none=>by rw [show x =.none from hx];exact ⟨[],.none⟩|.int i=>cW.casesOn hx λt=>⟨[],.int i t⟩|.str z=>cP.casesOn hx λt=>⟨[],.str z t⟩
 |.lst l=>uY.casesOn hx λa xs n e r=>(pW hF l xs r hk).elim λas ha=>⟨_,.list (hF _ _ e) rfl rfl ha⟩|.aA _=>bM hk|.type _=>bM hk|.blt _=>bM hk|.tup _=>bM hk|.obj _ _=>bM hk|.dct _=>bM hk
theorem pW{G:Addr->fy}{h:Heap}(hF:∀a o,G a=some o->h.get? a=some o)(l:az)(xs:bU)(hx:bO G l xs)(hk:kN l=true):∃as,ReadsAll h xs (eG l) as:=match l with
 | []=>by rw [show xs=[] from hx];exact ⟨[],.nil⟩|v::l=>hx.elim λy z=>z.elim λr z=>(Lm hF v y z.2.1 (bx hk).1).elim λas ha=>(pW hF l r z.2.2 (bx hk).2).elim λbs hb=>by rw [z.1];exact ⟨_,.cons ha hb⟩
end
theorem ah.closed{W:Wd}{l:az}:∀{xs:bU},ah W (bT l) xs->bO W.aU l xs:=by
 induction l with
 |nil=>exact id|cons v l ih=>exact λh=>h.elim λy z=>z.elim λr z=>⟨y,r,z.1,z.2.1,ih z.2.2⟩
theorem Ln(o:Ok F S){v:MV}:∀hx:ao S.W v x,aZ (λl=>∃a xs n,x =.ref a/\S.s.heap.get? a=some (aX xs.toArray n)/\bO S.W.aU l xs) (DY S.σ v):=by
 refine MV.el v (λ_ _=>trivial) (λn hx=>?_) (λ_ _=>trivial) λ_ _ _=>trivial;refine iw.casesOn hx λa ha=>?_;dsimp only [DY];induction q:listOf S.σ n with
 |none=>trivial|some l=>
  refine (o.lst ha ((iM ..).get q)).casesOn λxs m ow g r sz=>?_;dsimp only;induction q2:BJ (rev l.2 []) with
  |none=>trivial|some cs=>exact ⟨a,xs,m,rfl,g,ah.closed (by rw [xA q2,ju] at r;exact r)⟩
theorem PU(o:Ok F S){a:MV}(hv:ao S.W a x):Runs F VR (call (.builtin "repr") [x]) (bindM (eE λσ=>DY σ a) λl=>bindM (iG (kN l=true/\DX (.list (eG l)))) λ_=>dF (.c (.at (.str (PyData.list (eG l)).shown)))) S:=λk Q E h q er=>
 eH h λl e h=>by
  refine bB λgg=>?_;obtain ⟨a,xs,n,rfl,g,r⟩:=(Ln o hv).get e;obtain ⟨⟨h3,h4⟩,h5⟩:=h;obtain ⟨as,ha⟩:=pW (h:=S.s.heap) o.1.1 l xs r h3;refine gg ?_;have hu:=o.4.3;have fK:=h4.2;have hz:(PyData.shown (.list (eG l))).length<1000000:=h4.4;unfold kX at hu;exact repr_of_reads' (.list g rfl rfl ha) h4.1 (PyData.noDict_hsm h4.3) o.4.5 (by lia) (λ_ _ q=>q) (λh' u tk hk=>q (S.more h' tk) (.c (.at (.str _))) _ (o.more hk tk) (cP.mk _) h5) (by rw [adZ];lia)
end
section
variable{cx:Cx Prop}{F:Fr cx}{S:Pt}{x y:Value}{r:dZ Prop}{n:Nat}{a:Addr}{v:MV}
theorem oG:2*aW+1<=sizeLine:=by rw [adZ];unfold aW;lia
theorem wm(pre:az)(back:aY):len (cat (bT pre) (rev back []))=len pre+len back:=by rw [len_cat,gM,je];rfl
theorem Ok.xV(o:Ok F S){m:Nat}{mo:MO}{pre:az}{back:aY}{xs:bU}{h':Heap}{tk:Nat}(hn:af S.W.ρ n=some a)(hi:af S.σ n=some mo)(ho:S.W.own a=some (.slot n))(hs:Heap.SameBut a S.s.heap h')(hg:h'.get? a=some (aX xs.toArray m))
  (hv:ah S.W (cat (bT pre) (rev back [])) xs) (hz:xs.length<=2*aW):bH F S (S.put S.W.own n (.list pre back) h' tk):=o.u6 hi hn ho hs ⟨xs,m,ho,hg,hv,hz⟩
def Vu(F:Fr cx)(S:Pt)(n:Nat)(mo:MO)(Q:Shared->Prop):Prop:=∀h' tk,bH F S (S.put S.W.own n mo h' tk)->Q (S.put S.W.own n mo h' tk).s
theorem Lp(o:Ok F S)(hn:af S.W.ρ n=some a)(hv:ao S.W v y){mo:MO}(hi:af S.σ n=some mo):aZ (λq=>q.1<aW->∀(Q:b7)(E:b7),Vu F S n q.2 (Q .none)->wpAny Md F.A (call (.builtin "list.append") [.ref a,y]) Q E S.s) (Si mo v):=by
 induction mo with
 |list pre back=>
  refine (o.lst hn hi).casesOn λxs m ow g r sz h3 Q E q=>?_;have hl:=r.len;rw [wm] at hl;have h3:len pre+len back<1000000:=h3;refine agz ⟨m,g⟩ (λh' pl sb=>pl.elim λm' g'=>q h' S.s.toks (o.xV (xs:=xs++[y]) hn hi ow sb (by rw [g',ahK]) ?_ (by rw [adV];unfold aW;simp;lia))) (by rw [adZ];simp;lia)
  rw [show rev (v::back) []=cat (rev back []) [v] from by show rev back [v]=_;rw [rA],← aP]
  exact ah.cat r ⟨_,_,rfl,hv,rfl⟩
 |vB c=>
  refine (o.cell hn hi:Gs ..).casesOn λxs m ow g e sz h3 Q E q=>?_;have h3:c<1000000:=h3;exact agz ⟨m,g⟩ (λh' pl sb=>pl.elim λm' g'=>q h' S.s.toks (o.u6 hi hn ow sb ⟨xs++[y],m',ow,by rw [g',ahK],by rw [adV,e];rfl,by rw [adV];unfold aW;simp;lia⟩)) (by rw [adZ];simp;lia)
 |_=>trivial
theorem ah.last{W:Wd}{l:aY}:∀{xs:bU},ah W (aT.cat l [v]) xs->∃ys y,xs=ys++[y]/\ah W l ys/\ao W v y:=by
 induction l with
 |nil=>exact λh=>h.single.elim λy z=>⟨[],y,z.1,rfl,z.2⟩|cons u l ih=>exact λh=>bB λgg=>h.elim λz h=>h.elim λr h=>(ih h.2.2).elim λys q=>q.elim λy q=>gg <|⟨z::ys,y,by rw [h.1,q.1];rfl,⟨z,ys,rfl,h.2.1,q.2.1⟩,q.2.2⟩
theorem PV(o:Ok F S)(hn:af S.W.ρ n=some a){mo:MO}(hi:af S.σ n=some mo):aZ (λq=>∀(Q:b7)(E:b7),(∀y,ao S.W q.1 y->Vu F S n q.2 (Q y))->wpAny Md F.A (call (.builtin "list.pop") [.ref a]) Q E S.s) (ZH mo):=by
 induction mo with
 |list pre back=>induction back with
  |nil=>trivial|cons v back=>
   refine (o.lst hn hi).casesOn λxs m ow g r sz Q E q=>?_;rw [show rev (v::back) []=cat (rev back []) [v] from by show rev back [v]=_;rw [rA],← aP] at r
   refine bB λgg=>?_;obtain ⟨ys,y,e,r1,r2⟩:=ah.last r;refine gg ?_;rw [e] at g sz;have hz:ys.length+1<=2*aW:=by simpa using sz
   exact aiL g (y:=y) (by simp) (λh' sb g'=>q y r2 h' S.s.toks (o.xV (xs:=ys) (m:=m+1) hn hi ow sb (by rw [g'];simp) r1 (acH hz))) (by have:=oG;simp;lia)
 |_=>trivial
theorem PW(o:Ok F S)(hn:af S.W.ρ n=some a)(ho:S.W.own a=some (.slot n)):∀hv:ao S.W v y,aZ (λl=>∃b xs m,y =.ref b/\b≠a/\S.s.heap.get? b=some (aX xs.toArray m)/\ah S.W l xs) (Oq n v S.σ):=by
 refine MV.el v (λc hv=>?_) (λi hv=>?_) (λ_ _=>trivial) λ_ _ _=>trivial
 ·induction c using CV.casesOn with
  |lst l=>exact uY.casesOn hv λb xs m e r=>⟨b,xs,m,rfl,(λz=>bq ((o.1.4 _ _ ho).symm.trans (z▸e))),o.1.1 _ _ e,r.vs⟩|_=>trivial
 ·refine iw.casesOn hv λb hb=>?_
  dsimp only [Oq];induction q:Nat.beq i n with
  |true=>trivial|false=>
   dsimp only;induction q2:af S.σ i with
   |none=>trivial|some mo=>induction mo with
    |list pre back=>
     refine (o.lst hb q2).casesOn λxs m ow g r sz=>⟨b,xs,m,rfl,λz=>?_,g,r⟩;rw [z] at ow;rw [aH.slot.inj (aap (ow.symm.trans ho)),agf] at q;exact bM q.symm
    |_=>trivial
theorem PX(l back:aY):rev (rev l back) []=cat (rev back []) l:=by rw [rA l back,iL,rev_rev]
theorem Ht(o:Ok F S)(hn:af S.W.ρ n=some a)(hv:ao S.W v y){l:aY}(e:Oq n v S.σ=some l){pre:az}{back:aY}(hi:af S.σ n=some (.list pre back))(hz:len pre+len back+len l<aW){Q:b7}{E:b7}(q:Vu F S n (.list pre (rev l back)) (Q .none)) :
  wpAny Md F.A (call (.builtin "list.extend") [.ref a,y]) Q E S.s:=(o.lst hn hi).casesOn λxs m ow g r sz=>by
 refine bB λgg=>?_;obtain ⟨b,ys,m2,rfl,hne,g2,r2⟩:=(PW o hn ow hv).get e;refine gg ?_;have s1:=r.len;have s2:=r2.len;rw [wm] at s1;have hl:=oG;refine PySem.call_meets ahI ⟨_,g,rfl⟩ PySem.F.entry_list_extend (PySem.F.args_list_extend_2 _ _) (PySem.AutoSeq1.list_extend_list_list_0 a xs.toArray m b ys.toArray m2 (by
  unfold Builtin.List.listTooLong;simp;intro _;lia) (by simp;lia) (by simp;lia)) ⟨g,g2,?_⟩
 have rr:ah S.W (cat (bT pre) (rev (rev l back) [])) (xs++ys):=by rw [PX,← aP];exact ah.cat r r2
 exact q _ S.s.toks (o.xV (xs:=xs++ys) hn hi ow (Heap.SameBut.update ..) ((IsL.update g _).trans (congrArg (λv=>some (aX v _)) (by simp))) rr (by rw [adV];lia))
theorem PY(o:Ok F S){i:Nat}(hn:af S.W.ρ i=some a){pre:az}{back:aY}(hi:af S.σ i=some (.list pre back)){k:MV->aq->Prop}(h:newL (pre,back) S.σ k){Q:b7}{E:b7}(q:Ev F VR k S Q):wpAny Md F.A (call (.type "list") [.ref a]) Q E S.s:=(o.lst hn hi).casesOn λxs m ow g r sz=>by
 have hl:=oG;refine call_list_seq a (.inl rfl) g rfl rfl (λh' c' hk hD=>?_) (by simp;lia)
 have n1:=o.more hk S.s.toks;have nD:(S.more h' S.s.toks).W.own S.s.heap.objs.size=none:=by
  induction z:(S.more h' S.s.toks).W.own S.s.heap.objs.size with
  |none=>rfl|some r=>exact nomatch (o.1.5 _ (abv _)).symm.trans (sW z).2
 have n2:=n1.2.jO nD (o.1.jh (abv _)) hD;have ad:=n2.2.adopt (mo:=.list pre back) (tk:=S.s.toks) aL (.refl _ _) λow=>⟨xs,c',ow,hD,ah.up' (W:=S.W) (W':=(((S.more h' S.s.toks).keep S.s.heap.objs.size (aX xs.toArray c')).adopt S.s.heap.objs.size (.list pre back) h' S.s.toks).W) ⟨λ_ _ e=>e,λ_ _ e=>aB _ e⟩ _ _ r,sz⟩;exact q _ (.ref (len S.σ)) _ ⟨Le.trans (b:=S.more h' S.s.toks) n1.1 (Le.trans (b:=(((S.more h' S.s.toks).keep S.s.heap.objs.size (aX xs.toArray c')).drop S.s.heap.objs.size)) ⟨Wd.rF nD (.refl _),rfl,rfl,rfl⟩ ad.1.1),ad.1.2⟩ ⟨_,ad.2⟩ h
theorem Hu{i:Int}(h0:0<=i)(h1:i<1000000):i.natAbs.log2<1920:=by
 by_cases z:i.natAbs=0
 ·rw [z];decide
 ·have:i.natAbs.log2<20:=(aiK z).mpr (by lia)
  lia
theorem Vv(o:Ok F S){c:CV}(hx:bw S.W.aU c x){k:MV->aq->Prop}(h:(bindM (aR (b8 c)) λi=>bindM (iG (0<=i.1/\i.1<1000000)) λ_=>aE (.c (mkStr (Str.ofString (toString i.1)) i.2))) S.σ k){Q:b7}{E:b7}(q:Ev F VR k S Q):wpAny Md F.A (call (.type "str") [x]) Q E S.s:=
 aQ h λi e h=>cW.casesOn ((cC hx).get e) λt=>PySem.P.str_of_int (Hu h.1.1 h.1.2) (q.here o (b:=.c (mkStr _ i.2)) (pS _ _ _) h.2 _)
theorem Vw(o:Ok F S){p:Pos}{z:Str×Bool}(hx:cP z.1 x):Runs F VR (call (.type "int") [x]) (intOf cx p z) S:=λk Q E h q er=>by
 obtain ⟨z,b⟩:=z;induction hx with|mk t=>
 revert h;unfold intOf;induction vC p cx.T8 with
 |some u=>exact λh=>aQ h λi e h=>by rw [h.1.2.2];exact ais h.1.1 (by have:=h.1.2.1;lia) (q.here o (b:=.c (.at (.int i.1))) (cW.mk _) h.2 _)|none=>exact λh=>dK h λ_ h=>aQ h λn e h=>by rw [h.1.2];exact ais (by lia) (by have:=h.1.1;lia) (q.here o (b:=.c (.int n)) (cW.mk _) h.2 _)
end
section
variable{α:Type}[DecidableEq α]
theorem len_sub:∀(L M:List α),L.Nodup->(∀x∈L,x∈M)->L.length<=M.length
 | [],_,_,_=>adK _|x::L,M,hn,h=>by
  rw [afI] at hn;have hx:x∈M:=h x (.head _);have:=len_sub L (M.erase x) hn.2 λy hy=>(ait (λe:y=x=>hn.1 (e▸hy))).mpr (h y (.tail _ hy));rw [ahL hx] at this;have:0<M.length:=List.length_pos_of_mem hx;simp only [aha];lia
theorem qO:∀(L M:List α),L.Nodup->(∀x∈L,x∈M)->M.length<=L.length->M.Nodup
 | [],M,_,_,h=>by
  have:M=[]:=List.length_eq_zero_iff.mp (aiv.mp h);subst this;exact ahv
 |x::L,M,hn,h,hl=>by
  have hn':=afI.mp hn;have hx:x∈M:=h x (.head _);have sub:∀y∈L,y∈M.erase x:=λy hy=>(ait (λe:y=x=>hn'.1 (e▸hy))).mpr (h y (.tail _ hy));have le:(M.erase x).length<=L.length:=by rw [ahL hx];simp only [aha] at hl;lia
  have ih:=qO L (M.erase x) hn'.2 sub le;have out:x ∉ M.erase x:=λz=>by
   have:=len_sub (x::L) (M.erase x) hn λy hy=>by
    rcases adN.mp hy with rfl|hy
    ·exact z
    ·exact sub y hy
   simp only [aha] at this;lia
  exact (List.perm_cons_erase hx).nodup_iff.mpr (afI.mpr ⟨out,ih⟩)
end
theorem bQ{k x:Str}{v:Value}{l:iF}:valueAt ((k,v)::l) x=if k=x then some v else valueAt l x:=by
 unfold valueAt;rw [List.find?_cons];by_cases e:k=x
 ·rw [if_pos e];simp [e]
 ·rw [if_neg e];simp [e]
theorem jR(l:iF)(x:Str):valueAt l x=look x l:=by
 induction l with
 |nil=>rfl|cons p l ih=>obtain ⟨k,v⟩:=p;rw [bQ,aC,ih]
theorem CG(k:Str)(v:Value):∀(l:iF)(x:Str),valueAt (stored l k v) x=if x=k then some v else valueAt l x:=by
 intro l x;unfold stored;split
 ·rename_i h
  rw [List.any_eq_true] at h;induction l with
  |nil=>obtain ⟨_,h,_⟩:=h;cases h
  |cons p l ih=>
   obtain ⟨y,u⟩:=p;rw [ahT];by_cases e:y=k
   ·subst e
    rw [if_pos rfl,bQ,bQ];by_cases z:x=y
    ·rw [if_pos z.symm,if_pos z]
    ·rw [if_neg λq=>z q.symm,if_neg z,if_neg λq=>z q.symm]
     clear ih h;induction l with
     |nil=>rfl|cons p l ih=>
      obtain ⟨y',u'⟩:=p;rw [ahT,bQ];by_cases e:y'=y
      ·rw [if_pos e,bQ]
       dsimp only;subst e;rw [if_neg λq=>z q.symm,if_neg λq=>z q.symm];exact ih
      ·rw [if_neg e,bQ,ih]
   ·rw [if_neg e,bQ,bQ]
    have:∃q∈l,decide (q.1=k)=true:=by
     refine bB λgg=>?_;obtain ⟨q,h1,h2⟩:=h;refine gg ?_;rcases adN.mp h1 with rfl|h1
     ·exact absurd (of_decide_eq_true h2) e
     ·exact ⟨q,h1,h2⟩
    rw [ih this];by_cases z:y=x
    ·rw [if_pos z,if_neg (λq=>e (z.trans q)),if_pos z]
    ·rw [if_neg z,if_neg z]
 ·rename_i h
  induction l with
  |nil=>rw [List.nil_append,bQ];by_cases z:x=k;rw [if_pos z,if_pos z.symm];rw [if_neg z,if_neg λq=>z q.symm]|cons p l ih=>
   obtain ⟨y,u⟩:=p;have hne:¬y=k:=λe=>h (by simp [e])
   rw [List.cons_append,bQ,bQ,ih (λq=>h (by rw [aiz,q];simp))]
   by_cases z:y=x
   ·rw [if_pos z,if_neg (λq=>hne (z.trans q)),if_pos z]
   ·rw [if_neg z,if_neg z]
theorem gP{α:Type}{x:Str}:∀{l:List (Str×α)},look x l≠none->x∈l.map (·.1)
 | [],h=>(h rfl).elim|(y,u)::l,h=>by
  rw [aC] at h;by_cases e:y=x
  ·exact e▸ .head _
  ·rw [if_neg e] at h;exact .tail _ (gP h)
theorem ji{α:Type}{x:Str}:∀{l:List (Str×α)},x∈l.map (·.1)->look x l≠none
 | [],h=>by cases h
 |(y,u)::l,h=>by
  rw [aC];by_cases e:y=x
  ·rw [if_pos e];simp
  ·rw [if_neg e]
   rcases adN.mp h with z|z
   ·exact absurd z.symm e
   ·exact ji z
theorem qP{l:Lo}:gJ l=true->(l.map (·.1)).Nodup:=by
 induction l with
 |nil=>exact λ_=>ahv|cons p l ih=>
  obtain ⟨x,v⟩:=p;show (match look x l with|some _=>false|none=>gJ l)=true->_
  induction q:look x l with
  |some _=>exact bM|none=>exact λh=>afI.mpr ⟨λz=>ji z q,ih h⟩
theorem Aw{x:Str}{more:Lo}:∀{es:Lo},(more.map (·.1)).Nodup->look x (putAll es more)=match look x more with|some v=>some v|none=>look x es:=by
 induction more with
 |nil=>exact λ_=>rfl|cons p more ih=>
  intro es h;obtain ⟨y,v⟩:=p;have h':=afI.mp h;show look x (putAll (put y v es) more)=_;rw [ih h'.2,aC,nV];by_cases e:y=x
  ·subst e
   have:look y more=none:=by
    cases z:look y more with
    |none=>rfl|some _=>exact absurd (gP (x:=y) (by rw [z];exact nofun)) h'.1
   rw [this,if_pos rfl,if_pos rfl]
  ·rw [if_neg e,if_neg λq=>e q.symm]
theorem xW{x:Str}{more:iF}:∀{kvs:iF},(more.map (·.1)).Nodup->valueAt (merged kvs more) x=match valueAt more x with|some v=>some v|none=>valueAt kvs x:=by
 induction more with
 |nil=>exact λ_=>rfl|cons p more ih=>
  intro kvs h;obtain ⟨y,v⟩:=p;have h':=afI.mp h;show valueAt (merged (stored kvs y v) more) x=_;rw [ih h'.2,bQ,CG];by_cases e:y=x
  ·subst e
   have:valueAt more y=none:=by
    rw [jR];cases z:look y more with
    |none=>rfl|some _=>exact absurd (gP (x:=y) (by rw [z];exact nofun)) h'.1
   rw [this,if_pos rfl,if_pos rfl]
  ·rw [if_neg e,if_neg λq=>e q.symm]
section
variable{cx:Cx Prop}{F:Fr cx}{S:Pt}{x y:Value}{n:Nat}{a d:Addr}{W:Wd}{h:Heap}
noncomputable def xX:Value->Str
 |.str x _=>x|_=>Str.empty
inductive Vx(h:Heap)(d:Addr)(g:Str->cK)(n:Nat):Prop
 |mk (kvs:iF) (D:h.DictOf (strKind prog w) d kvs) (v:∀x,valueAt kvs x=g x) (l:kvs.length<=n) (nd:(kvs.map (·.1)).Nodup)
theorem Lq{l:List DictEntry}:(∀d∈l,∃x t,d.key =.str x t/\d.hash=PyData.keyHash Pm x)->Pairs (strKind prog w) l (l.map λd=>(xX d.key,d.val)):=by
 induction l with
 |nil=>exact λ_=>.nil|cons d l ih=>exact λhl=>(hl d (.head _)).elim λx q=>q.elim λt q=>.cons (by dsimp only;rw [q.1];exact agN prog w x t) rfl (ih λd hd=>hl d (.tail _ hd))
theorem dU.dictOf{g:Str->cK}{ob:Obj}{fs:Lo}(s:dU g ob (len fs))(L:gK W fs g)(hd:h.get? d=some ob)(on:gJ fs=true):Vx h d g (len fs):=s.casesOn λes ep e hs=>by
 rw [e] at hd;have hk:∀d∈es.toList,∃x t,d.key =.str x t/\d.hash=PyData.keyHash Pm x:=λd hd=>hs.1 d (afN.mp hd);have hp:=Lq hk;have val:∀x,valueAt (es.toList.map λd=>(xX d.key,d.val)) x=g x:=λx=>by
  rw [← hp.find x,← hs.3 x,show nsFind es x=findBy (strKind prog w).is es x from (jM (λk v=>(agX k v).symm) es x).symm]
  obtain ⟨l⟩:=es;simp [findBy]
 have hlen:(es.toList.map λd=>(xX d.key,d.val)).length<=len fs:=by simpa using hs.2
 have nd:((es.toList.map λd=>(xX d.key,d.val)).map (·.1)).Nodup:=by
  refine qO (fs.map (·.1)) _ (qP on) (λx hx=>gP ?_) (by rw [show (fs.map (·.1)).length=len fs from by rw [aek,bl],aek];exact hlen)
  rw [← jR,val];have:=L x;have hl:=ji hx;revert this hl;cases look x fs with
  |none=>exact λ_ z=>absurd rfl z|some v=>exact λz _=>z.elim λy z=>by rw [z.1];exact nofun
 exact ⟨_,⟨_,es,ep,hd,⟨rfl,rfl,rfl⟩,rfl,λd hd=>(hs.1 d hd).elim λx q=>q.elim λt q=>⟨x,by rw [q.1];exact agN prog w x t,q.2⟩,hp,nd⟩,val,hlen,nd⟩
theorem DictOf.says{kvs:iF}{m:Nat}(D:h.DictOf (strKind prog w) d kvs)(hm:kvs.length<=m):∃ob,h.get? d=some ob/\dU (valueAt kvs) ob m:=by
 refine bB λgg=>?_;obtain ⟨o,es,ep,h1,h2,h3,h4,h5,h6⟩:=D;obtain ⟨oc,od,odt,osl⟩:=o;obtain ⟨z1,z2,z3⟩:=h2;refine gg ?_;dsimp only at z1 z2 z3 h3;subst z1 z2 z3 h3;refine ⟨_,h1,es,ep,rfl,λe he=>bB λgg=>(h4 e he).elim λk q=>(Value.isStrOf_shape q.1).elim λt z=>gg <|⟨k,t,z,q.2⟩,by rw [← h5.length] at hm;simpa using hm,λx=>?_⟩
 rw [← h5.find x];unfold nsFind;have:=jM (λk v=>(agX k v).symm) es x;obtain ⟨l⟩:=es;simp [findBy] at this ⊢;exact this.symm
theorem DictOf.nodup{kvs:iF}(D:h.DictOf (strKind prog w) d kvs):(kvs.map (·.1)).Nodup:=D.elim λ_ z=>z.elim λ_ z=>z.elim λ_ z=>z.2.2.2.2.2
theorem Hw(o:Ok F S){i:Nat}{b:Addr}(hn:af S.W.ρ n=some a)(hb:af S.W.ρ i=some b){es fs:Lo}(q1:af S.σ n=some (.dict es))(q2:af S.σ i=some (.dict fs))(z1:Nat.beq i n=false)(z2:gJ es=true)(z3:gJ fs=true)(hz:len es+len fs<=900)
  {Q:b7} {E:b7} (q:∀h' tk,bH F S (S.put S.W.own n (.dict (putAll es fs)) h' tk)->Q .none (S.put S.W.own n (.dict (putAll es fs)) h' tk).s):wpAny Md F.A (call (.builtin "dict.update") [.ref a,.ref b]) Q E S.s:=
 bB λgg=>(o.Eh hn q1).casesOn λo1 g1 Hx a1 a2 a3=>(o.Eh hb q2).casesOn λo2 g2 aaJ b1 b2 b3=>(a2.dictOf a3 a1 z2).casesOn λk1 d1 v1 l1 _=>(b2.dictOf b3 b1 z3).casesOn λk2 d2 v2 l2 nd2=>gg <|by
  have hne:a≠b:=λe=>by
   rw [e] at Hx;rw [aH.slot.inj (aap (Hx.symm.trans aaJ)),agf] at z1;exact bM z1.symm
  have hl:=oG;unfold aW at hl;refine call_meetsIn ahJ d1.typeIs PySem.F.entry_dict_update (PySem.F.args_dict_update_2 _ _) (meets_dict_update (strKind prog w) a b hne (jf o aaJ)) ⟨k1,k2,d1,d2,by lia,λh' hm _ hs=>?_⟩
  have rel:gK S.W (putAll es fs) (valueAt (merged k1 k2)):=λx=>by
   rw [Aw (qP z3),xW nd2,v1,v2];have r1:=a3 x;have r2:=b3 x;revert r2;induction look x fs with
   |some u=>exact λr2=>r2.elim λy z=>by rw [z.1];exact ⟨y,rfl,z.2⟩|none=>intro r2;rw [show g2 x=none from r2];exact r1
  have small:(merged k1 k2).length<=len (putAll es fs):=by
   have:=len_sub ((merged k1 k2).map (·.1)) ((putAll es fs).map (·.1)) (DictOf.nodup hm) λx hx=>gP λq=>by
    have:=rel x;rw [q] at this;have h9:=ji hx;rw [← jR] at h9;exact h9 this
   rw [aek,aek,← bl (putAll es fs)] at this;exact this
  exact (DictOf.says hm small).elim λvO z=>q h' S.s.toks (o.u6 q1 hn Hx hs ⟨vO,_,Hx,z.1,z.2,rel⟩)
theorem PZ(o:Ok F S)(hn:af S.W.ρ n=some a)(q1:af S.σ n=some (.dict [])){i:Int}(hj:cW i y){z:Value}{Q:b7}{E:b7}(q:∀tk,Q z { S.s with toks:=tk }):wpAny Md F.A (call (.builtin "dict.pop") [.ref a,y,z]) Q E S.s:=
 (o.Eh hn q1).casesOn λo1 g Hx a1 a2 a3=>a2.casesOn λes ep e hs=>cW.casesOn hj λt=>by
  have e0:es = #[]:=aeT (aiv.mp hs.2);rw [e,e0] at a1;have D:S.s.heap.DictOf (intKind prog w) a []:=⟨_,#[],ep,a1,⟨rfl,rfl,rfl⟩,rfl,λ_ h=>by simp at h,.nil,ahv⟩
  exact call_meetsIn ain D.typeIs PySem.F.entry_dict_pop (PySem.F.args_dict_pop_3 _ _ _) (meets_dict_pop_default (intKind prog w) a (ahz prog w i t) (jf o Hx) rfl z) ⟨[],D,rfl,q _⟩
end
section
variable{cx:Cx Prop}{F:Fr cx}{S:Pt}{x y:Value}{n:Nat}{a C:Addr}{A:Around}{E:b7}{s:Shared}
theorem Ax{l:bU}:lW l=true->l.contains (.type "Exception")=true:=by
 induction l with
 |nil=>exact bM|cons v r ih=>
  have main:∀{v:Value},(v::r==[.type "Exception",.type "BaseException",.type "object"])=true->(v::r).contains (.type "Exception")=true:=λh=>by rw [beq_iff_eq.mp h];decide
  induction v with
  |ref b=>exact λh=>by rw [adS,ih h,aiI]|_=>exact main
abbrev aaK(s:Shared)(a:Addr):Prop:=P2 (PySem.W.Looks Md s.heap (isInstance (.ref a) (.type "Exception")) true) (∃nm,PySem.W.Looks Md s.heap (Bind.printed "*" true ⟨.positional,"*","Exception",.self,[⟨"args",.varPos,false⟩]⟩ (some (.ref a))) nm)
theorem P0{K:PySem.W.Frag}(X:K.In s.heap)(hE:zG K C){oe:Obj}(g:s.heap.get? a=some oe)(cls:oe.cls =.ref C):aaK s a:=hE.4.elim λcd d=>by
 have ty:PySem.W.Looks Md s.heap (typeOf (.ref a)) (.ref C):=cls▸(PySem.W.Looks.ld g).andThen .now;have has:=Ax d.2.2;have mro:PySem.W.mroIn K C (.type "Exception")=some true:=by
  unfold PySem.W.mroIn;rw [d.1];show (if cd.mro.isEmpty then none else some (cd.mro.contains (.type "Exception")))=_;rw [has,if_neg λq=>by rw [List.isEmpty_iff.mp q] at has;exact bM has]
 obtain ⟨nm,hnm⟩:=PySem.W.mc_name (M:=Md) X (C:=C) (by unfold PySem.W.hasDictIn;rw [d.1];exact d.2.1)
 refine ⟨ty.andThen (ahh X mro),nm,λA Q E s' k q=>?_⟩;unfold Bind.printed Bind.receiverType;rw [if_neg (by decide)]
 refine aag (m:=(if (Manifest.Receiver.self==Manifest.Receiver.cls)=true then pure (.ref a) else typeOf (.ref a))) ?_;rw [if_neg (by decide)]
 exact ty A _ E s' k (aag (hnm A _ E s' k (aaq q)))
noncomputable abbrev Vy(h:Heap)(a:Addr)(y:Value):Heap:=(h.push (d7 [y].toArray)).update a (Obj.mapFields (·.setIfInBounds 0 (.ref h.objs.size)))
theorem Hy{oe:Obj}{vs:ig}(L:aaK s a)(g:s.heap.get? a=some oe)(d:oe.data =.fields vs)(sz:6<=vs.size){Q:b7}(q:Q .none { s with heap:=Vy s.heap a y }):wpAny Md A (call (.builtin "Exception.__init__") [.ref a,y]) Q E s:=by
 have F:=PyProof.Rows.excClass_Exception;refine ahB (ahc F.init.plain F.initEntry ?_);simp only [checkBuiltinCall,F.initKind,F.initSplit,F.initSig];refine aag (L.1.here ?_);simp only [Bool.not_true,afb,if_false];unfold Bind.checkArgs;dsimp only;obtain ⟨nm,hnm⟩:=L.2;refine aag (m:=Bind.printed "*" true _ _) (hnm.here ?_);refine aag (m:=Bind.printed "Exception" false _ _) (PyProof.Rows.printed_name F.notStar ?_);show wpAny _ _ (Sem.onRaise (Bind.check _ _ "Exception" _ []) _) _ _ s;rw [PyProof.Rows.check_varPos];refine aaq ?_;unfold Builtin.«BaseException.__init__»;dsimp only;rw [if_neg (by simp)]
 unfold newTuple Builtin.BaseException.bexcPut;have hsz:0<vs.size:=aet (by decide) sz
 have EL:=aas (h:=s.heap) { cls:=.type "tuple",data:=.seq [y].toArray } g;have hv0:vs[0]?=some vs[0]:=ahs hsz;refine aag (aeO (aag (aag (adT EL d hv0 (aag (afV EL d hsz ?_))))) (by show (#[y]:ig).size<=sizeLine;rw [adZ];simp))
 split
 ·exact wpAny_letGo (aaq q)
 ·exact aaq (aaq q)
theorem Lr(o:Ok F S)(hn:af S.W.ρ n=some a){fs:Lo}{t b:Bool}(hi:af S.σ n=some (.exc C fs t b)):bH F S (S.put S.W.own n (.exc C fs t b) (Vy S.s.heap a y) S.s.toks):=(o.exc hn hi).casesOn λoe vs ow g cls d sz tb dN di=>by
 have EL:=aas (h:=S.s.heap) (d7 [y].toArray) g;have hd:=aeV d (·.setIfInBounds 0 (.ref S.s.heap.objs.size))
 have oth:∀b ob,b≠a->S.s.heap.get? b=some ob->(Vy S.s.heap a y).get? b=some ob:=λb ob q z=>(adb _ _ (Ne.symm q)).trans (aas _ z);refine o.put hi hn (λb ob q z=>oth b ob (λy=>q (y▸ow)) z) (by rw [Heap.size_update,acR];exact adq _) ⟨_,_,ow,adJ _ EL (aew hd),(ahC _ _).trans cls,hd,by rw [aeH];exact sz,?_,λq=>(jn _ (by decide)).trans (dN q),?_⟩
 ·induction tb with
  |no e=>exact .no ((jn _ (by decide)).trans e)|yes t T oT ts e Ob neT gT dT G1=>exact .yes t T oT ts ((jn _ (by decide)).trans e) Ob neT (oth _ _ neT gT) dT G1
 ·rw [ly d]
  exact di.move λd' ne' U5 nt=>⟨by rw [jn _ (by decide)];exact nt,λc=>c.heap λo e=>oth d' o ne' e⟩
theorem Hz{v:MV}:aZ (λp=>∃n t b,v =.ref n/\af S.σ n=some (.exc p.1 p.2 t b)) (excOf S.σ v):=by
 induction v using MV.casesOn with
 |ref n=>
  dsimp only [excOf];induction q:af S.σ n with
  |none=>trivial|some mo=>induction mo with
   |exc C fs t b=>exact ⟨n,t,b,rfl,q⟩|_=>trivial
 |_=>trivial
theorem CH(o:Ok F S){v:MV}(hv:ao S.W v x):Runs F VR (call (.builtin "Exception.__init__") [x,y]) (zp cx v) S:=λk Q E h q er=>bB λgg=>eH h λp e h2=>dK h2 λz h3=>gg <|by
 clear h h2;refine bB λgg=>?_;obtain ⟨n,t,b,rfl,hi⟩:=Hz.get e;refine gg ?_;induction hv with|mk a ha=>
 refine bB λgg=>(o.exc ha hi).casesOn λoe vs ow g cls d sz tb dN di=>(xJ z).elim λc z=>gg <|?_
 exact Hy (P0 o.cH (o.3.6 _ c z.1 z.2) g cls) g d sz (q _ (.c .none) .none (Lr o ha hi) rfl (by show k _ (setAt S.σ n _);rw [dQ hi];exact h3))
theorem Qa(o:Ok F S){z z2:Str}(hx:cP z x)(hy:cP z2 y)(h:PySem.Txt.endswith z z2=DZ z z2){Q:b7}{E:b7}(q:∀tk,Q (.bool (DZ z z2)) { S.s with toks:=tk }):wpAny Md F.A (call (.builtin "str.endswith") [x,y]) Q E S.s:=by
 induction hx with|mk t=>
 induction hy with|mk t2=>
 refine PySem.SC.endswith ?_;rw [h];exact q _
end
section
variable{cx:Cx Prop}{F:Fr cx}{S:Pt}{x y:Value}{n:Nat}{a:Addr}{as:aY}{aj:bU}
theorem ah.pair{W:Wd}{u v:MV}{xs:bU}(h:ah W [u,v] xs):∃x y,xs=[x,y]/\ao W u x/\ao W v y:=bB λgg=>h.elim λx h=>h.elim λr h=>(ah.single h.2.2).elim λy z=>gg <|⟨x,y,by rw [h.1,z.1],h.2.1,z.2⟩
theorem Vz(o:Ok F S){p:Pos}{u v:MV}(ha:ao S.W u x)(hb:ao S.W v y):Runs F VR (call (.builtin "isinstance") [x,y]) (iI (bindM (BP cx u v) λt=>bindM (Zb cx p t) λt=>aE (.c (.bool t)))) S:=λk Q E h q er=>
 (Hs o ha hb (k:=λt σ'=>(bindM (Zb cx p t) λt=>aE (MV.c (.bool t))) σ' λv σ'=>k (.ok v) σ') h).casesOn λT h t=>(JQ (k:=λt σ'=>k (.ok (.c (.bool t))) σ') h).elim λb z=>t b z.2 _ _ λtk=>q.here o (b:=.c (.bool b)) rfl z.1 tk
theorem Qc(o:Ok F S){p:Pos}{id:String}{u:MV}(hu:ao S.W u x):Runs F VR (call (.builtin id) [x]) (Un cx p id u) S:=by
 unfold Un;induction z:(id=="len") with
 |true=>rw [beq_iff_eq.mp z];exact Vs o hu|false=>
  dsimp only;induction z2:(id=="repr") with
  |true=>rw [beq_iff_eq.mp z2];exact PU o hu|false=>exact λk Q E h=>h.elim
theorem Qd(o:Ok F S){p:Pos}{id:String}{u v:MV}(hu:ao S.W u x)(hv:ao S.W v y):Runs F VR (call (.builtin id) [x,y]) (Up cx F.e.hd p id u v) S:=by
 unfold Up;induction z:(id=="isinstance") with
 |true=>rw [beq_iff_eq.mp z];exact λk Q E h q er=>aQ h λ_ _ h=>Vz o hu hv k Q E h q er|false=>
  dsimp only;induction z2:(id=="min") with
  |true=>rw [beq_iff_eq.mp z2];exact Vt o hu hv|false=>
   dsimp only;induction z3:(id=="Exception.__init__") with
   |true=>rw [beq_iff_eq.mp z3];exact CH o hu|false=>exact λk Q E h=>h.elim
theorem VA(o:Ok F S){p:Pos}{id:String}(hv:ah S.W as aj):Runs F VR (call (.builtin id) aj) (blt cx F.e.hd p id as) S:=by
 unfold blt;induction z:one as with
 |some u=>
  rw [fN z] at hv;refine bB λgg=>?_;obtain ⟨x,rfl,h⟩:=hv.single;refine gg ?_;exact Qc o h
 |none=>
  exact λk Q E h q er=>aQ h λp e h=>by
   rw [Ca e] at hv;refine bB λgg=>?_;obtain ⟨x,y,rfl,h1,h2⟩:=hv.pair;refine gg ?_;exact Qd o h1 h2 k Q E h q er
theorem VB(o:Ok F S){p:Pos}{t:String}(hv:ah S.W as aj):Runs F VR (call (.type t) aj) (mkType cx p t as) S:=λk Q E h q er=>aQ h λu e h=>by
 rw [fN e] at hv;obtain ⟨x,rfl,hu⟩:=hv.single;revert h;induction z:(t=="list") with
 |true=>
  intro h;refine eH h λl e h2=>?_;clear h;rw [beq_iff_eq.mp z];induction u using MV.casesOn with
  |ref i=>induction hu with|mk a ha=>exact PY o ha ((iM ..).get e) (k:=λv σ'=>k (.ok v) σ') h2.2 q
  |_=>exact bq e
 |false=>
  dsimp only;refine λh=>aQ h λc e h=>?_;rw [xU e] at hu;revert h;induction z2:(t=="str") with
  |true=>rw [beq_iff_eq.mp z2];exact λh=>Vv o hu (k:=λv σ'=>k (.ok v) σ') h q|false=>
   dsimp only;induction z3:(t=="int") with
   |true=>rw [beq_iff_eq.mp z3];exact λh=>aQ h λs e h=>Vw o ((lY hu).get e) k Q E h q er|false=>exact λh=>h.elim
theorem pX{mo:MO}{es:Lo}:dictOf mo=some es->mo =.dict es:=by
 induction mo with
 |dict fs=>exact λh=>by rw [aap h]|_=>exact bq
inductive aaL(σ:aq)(n:Nat):MO->MV->MO->Prop
 |mk (i:Nat) (es fs:Lo) (q:af σ i=some (.dict fs)) (z1:Nat.beq i n=false) (z2:gJ es=true) (z3:gJ fs=true) (hz:len es+len fs<=900):aaL σ n (.dict es) (.ref i) (.dict (putAll es fs))
theorem Qe{mo:MO}{v:MV}:aZ (aaL S.σ n mo v) (Uq n mo v S.σ):=by
 unfold Uq;induction z:dictOf mo with
 |none=>trivial|some es=>
  rw [pX z];induction v using MV.casesOn with
  |ref i=>
   dsimp only;induction q:af S.σ i with
   |none=>trivial|some o'=>
    dsimp only;induction z2:dictOf o' with
    |none=>trivial|some fs=>
     rw [pX z2] at q;dsimp only;induction c:(!(Nat.beq i n)&&gJ es&&gJ fs&&Nat.ble (len es+len fs) 900) with
     |false=>trivial|true=>exact .mk i es fs q (nZ (bx (bx (bx c).1).1).1) (bx (bx (bx c).1).1).2 (bx (bx c).1).2 (abV (bx c).2)
  |_=>trivial
inductive SP:MO->MV->MV->MV->Prop|mk (u:CV) (d:MV) (i:Int×Bool) (e:b8 u=some i):SP (.dict []) (.c u) d d
theorem Ls{mo:MO}{u d:MV}:aZ (SP mo u d) (Jf mo u d):=by
 unfold Jf;induction z:dictOf mo with
 |none=>trivial|some es=>
  rw [pX z];induction es with
  |cons _ _=>trivial|nil=>induction u using MV.casesOn with
   |c u=>
    dsimp only;induction q:b8 u with
    |none=>trivial|some i=>exact .mk u d i q
   |_=>trivial
theorem aaM(o:Ok F S)(hn:af S.W.ρ n=some a){mo:MO}(hi:af S.σ n=some mo)(hv:ah S.W as aj):Runs F VR (call (.builtin "list.append") (.ref a::aj)) (sE n mo 0 as) S:=λk Q E h q er=>aQ h λv e h=>aQ h λp e2 h=>by
 rw [fN e] at hv;obtain ⟨y,rfl,hw⟩:=hv.single;exact (Lp o hn hw hi).get e2 h.1 Q E λh' tk nx=>q _ (.c .none) .none nx rfl h.2
theorem aaN(o:Ok F S)(hn:af S.W.ρ n=some a){mo:MO}(hi:af S.σ n=some mo)(hv:ah S.W as aj):Runs F VR (call (.builtin "list.pop") (.ref a::aj)) (sE n mo 1 as) S:=λk Q E h q er=>aQ h λ_ e h=>aQ h λp e2 h=>by
 rw [gz e] at hv;rw [show aj=[] from hv]
 exact (PV o hn hi).get e2 Q E λy hy h' tk nx=>q _ p.1 y nx (hy.up nx.1.1) h
theorem aaO(o:Ok F S)(hn:af S.W.ρ n=some a){mo:MO}(hi:af S.σ n=some mo)(hv:ah S.W as aj):Runs F VR (call (.builtin "list.extend") (.ref a::aj)) (sE n mo 2 as) S:=λk Q E h q er=>aQ h λv e h=>eH h λl e2 h=>eH h λp e3 h=>by
 rw [fN e] at hv;obtain ⟨y,rfl,hw⟩:=hv.single;exact Ht o hn hw e2 ((iM ..).get e3) h.1 λh' tk nx=>q _ (.c .none) .none nx rfl h.2
theorem aaP(o:Ok F S)(hn:af S.W.ρ n=some a){mo:MO}(hi:af S.σ n=some mo)(hv:ah S.W as aj):Runs F VR (call (.builtin "dict.pop") (.ref a::aj)) (sE n mo 3 as) S:=λk Q E h q er=>aQ h λp e h=>aQ h λv e2 h=>by
 rw [Ca e] at hv;obtain ⟨y,z,rfl,h1,h2⟩:=hv.pair;obtain ⟨u,d⟩:=p;cases Ls.get e2 with|mk u d i e3=>exact PZ o hn hi ((cC h1).get e3) λtk=>q.here o (b:=d) h2 h tk
theorem aaQ(o:Ok F S)(hn:af S.W.ρ n=some a){mo:MO}(hi:af S.σ n=some mo)(hv:ah S.W as aj):Runs F VR (call (.builtin "dict.update") (.ref a::aj)) (sE n mo 4 as) S:=λk Q E h q er=>aQ h λv e h=>eH h λo' e2 h=>by
 rw [fN e] at hv;obtain ⟨y,rfl,hw⟩:=hv.single;induction Qe.get e2 with|mk i es fs q2 z1 z2 z3 hz=>
 induction hw with|mk b hb=>exact Hw o hn hb hi q2 z1 z2 z3 hz λh' tk nx=>q _ (.c .none) .none nx rfl h
theorem Lu(o:Ok F S)(hn:af S.W.ρ n=some a){mo:MO}(hi:af S.σ n=some mo)(hv:ah S.W as aj):∀i,Runs F VR (call (.builtin (lB i)) (.ref a::aj)) (sE n mo i as) S
 |0=>aaM o hn hi hv|1=>aaN o hn hi hv|2=>aaO o hn hi hv|3=>aaP o hn hi hv|4=>aaQ o hn hi hv|_+5=>λk Q E h=>h.elim
theorem Qf{c:CV}{z:Str}:q9 c=some z->c =.str z:=by
 induction c using CV.casesOn with
 |str t=>exact λh=>by rw [aap h]|_=>exact bq
theorem Lv{v:MV}{z:Str}:isStr v=some z->v =.c (.str z):=by
 induction v using MV.casesOn with
 |c c=>induction c using CV.casesOn with
  |str t=>exact λh=>by rw [aap h]|_=>exact bq
 |_=>exact bq
theorem Lw(o:Ok F S){c:CV}(hx:bw S.W.aU c x)(hv:ah S.W as aj):∀i,Runs F VR (call (.builtin (lB i)) (x::aj)) (uX (.c c) i as) S
 |5=>λk Q E h q er=>aQ h λz e h=>aQ h λt e2 h=>aQ h λz2 e3 h=>by
  rw [fN e2] at hv;obtain ⟨y,rfl,hw⟩:=hv.single;rw [Qf e] at hx;rw [Lv e3] at hw;exact Qa o hx hw h.1 λtk=>q.here o (b:=.c (.bool _)) rfl h.2 tk
 |0=>λk Q E h=>h.elim|1=>λk Q E h=>h.elim|2=>λk Q E h=>h.elim|3=>λk Q E h=>h.elim|4=>λk Q E h=>h.elim|_+6=>λk Q E h=>h.elim
theorem Qg(o:Ok F S){v:MV}{i:Nat}(hx:ao S.W v x)(hv:ah S.W as aj):Runs F VR (call (.builtin (lB i)) (x::aj)) (uX v i as) S:=by
 induction v using MV.casesOn with
 |c c=>exact Lw o hx hv i|ref n=>induction hx with|mk a ha=>exact λk Q E h q er=>OJ h λmo hi h=>Lu o ha hi hv i k Q E h q er
 |_=>exact λk Q E h=>h.elim
theorem EM:xQ cx:=⟨λF p id as aj S o hv=>VA o hv,λF p n as aj S o hv=>VB o hv,λF v x i as aj S o hx hv=>Qg o hx hv⟩
end
section
variable{cx:Cx Prop}{F:Fr cx}{S S' S2:Pt}{x:Value}{n:Nat}{a:Addr}{ob:Obj}{G:Prop}
inductive IQ(S S':Pt):Prop where
 |mk (le:S.W.Le S'.W) (s:S'.s=S.s) (gone:∀i,af S.σ i=some .gone->af S'.σ i=some .gone) (own:∀i b,af S.σ i=some .gone->S.W.own b=some (.slot i)->S'.W.own b=some (.slot i))
theorem IQ.refl(S:Pt):IQ S S:=⟨.refl _,rfl,λ_ h=>h,λ_ _ _ h=>h⟩
theorem IQ.trans(x:IQ S S')(y:IQ S' S2):IQ S S2:=⟨x.1.trans y.1,y.2.trans x.2,λi h=>y.3 i (x.3 i h),λi b h q=>y.4 i b (x.3 i h) (x.4 i b h q)⟩
def Pt.forget(S:Pt)(n:Nat):Pt:=⟨S.W,setAt S.σ n .gone,S.s⟩
theorem Ok.forget(o:Ok F S){mo:MO}(hi:af S.σ n=some mo):Ok F (S.forget n):=by
 refine ⟨⟨o.1.1,o.1.2,o.1.3,o.1.4,o.1.5,(bL ..).trans o.1.6,λi ob a e1 e2=>?_,o.1.8,o.1.9⟩,o.2,o.3,o.4⟩;by_cases q:n=i
 ·rw [← q] at e1
  rw [← aap ((av _ hi).symm.trans e1)];trivial
 ·exact o.1.7 i ob a ((ay _ _ q).symm.trans e1) e2
theorem tZ{mo:MO}(hi:af S.σ n=some mo):IQ S (S.forget n):=⟨.refl _,rfl,λj hj=>by
 by_cases z:n=j
 ·rw [← z];exact av _ hi
 ·exact (ay _ _ z).trans hj,λ_ _ _ q=>q⟩
def Pt.kD(S:Pt)(a:Addr)(ob:Obj):Pt:=⟨⟨tV S.W.aU a ob,cO S.W.own a none,S.W.ρ⟩,S.σ,S.s⟩
theorem Ok.kD(o:Ok F S)(hi:af S.σ n=some .gone)(ow:S.W.own a=some (.slot n))(g:S.s.heap.get? a=some ob)(hc:∀P,¬jc ob P):S.W.Le (S.kD a ob).W/\Ok F (S.kD a ob)/\∀b r,r≠ .slot n->S.W.own b=some r->(S.kD a ob).W.own b=some r:=by
 have kf:∀b y,S.W.aU b=some y->(S.kD a ob).W.aU b=some y:=λb y e=>(iQ λz=>bq ((o.1.4 _ _ ow).symm.trans (z▸e))).trans e;have ko:∀b r,r≠ .slot n->S.W.own b=some r->(S.kD a ob).W.own b=some r:=λb r nr e=>(aM (aT.dj e ow nr)).trans e;have ki:∀b r,(S.kD a ob).W.own b=some r->b≠a/\S.W.own b=some r:=λb r e=>(bX e).elim (λz=>nomatch z.2) id;have le:S.W.Le (S.kD a ob).W:=⟨kf,λb _=>ko b _ nofun,λb _=>ko b _ nofun,λb=>ko b _ nofun,λb _=>ko b _ nofun,λ_ _ e=>e⟩;refine ⟨le,(o.up ⟨le,rfl,rfl,rfl⟩ ⟨λb y e=>?_,λb y e=>o.1.2 b y (ki b _ e).2,λb y e=>o.1.3 b y (ki b _ e).2,λb r e=>(iQ (ki b r e).1).trans (o.1.4 b r (ki b r e).2),λb e=>?_,o.1.6,λi y b e1 e2=>?_,
  o.1.8.move kf (λb y P e t=>(oF e).elim (λz=>(hc P (z.2▸t)).elim) id) (λb _=>ko b _ nofun) (λb _ e=>(ki b _ e).2) λ_ _ _ _ e=>e,λb e=>o.1.9 b (ki b _ e).2⟩ λ_ e=>e).2,ko⟩
 ·exact (oF e).elim (λz=>by rw [z.1,← z.2];exact g) (o.1.1 b y)
 ·by_cases z:b=a
  ·rw [z];exact aL
  ·exact (aM z).trans (o.1.5 b e)
 ·by_cases z:i=n
  ·rw [z] at e1
   rw [← aap (hi.symm.trans e1)];trivial
  ·exact (o.1.7 i y b e1 e2).move (.le' le (λb=>ko b _ λq=>z (aH.slot.inj q)) λ_ _ _ e=>e)
theorem ah.VC{W:Wd}{l:az}{b:aY}{xs:bU}(h:ah W (aT.cat (bT l) b) xs):∃ys zs,xs=ys++zs/\bO W.aU l ys/\ah W b zs:=h.split.elim λy z=>z.elim λz q=>⟨y,z,q.1,q.2.1.closed,q.2.2⟩
theorem bO.app{f:Addr->fy}{l m:az}{ys:bU}:∀{xs:bU},bO f l xs->bO f m ys->bO f (cat l m) (xs++ys):=by
 induction l with
 |nil=>intro xs h h';rw [show xs=[] from h];exact h'|cons v l ih=>exact λh h'=>h.elim λy h=>h.elim λr h=>⟨y,r++ys,by rw [h.1];rfl,h.2.1,ih h.2.2 h'⟩
theorem gK.tail{W:Wd}{p:Str×MV}{r:Lo}{g:Str->cK}(h:gK W (p::r) g)(on:look p.1 r=none):gK W r λx=>if p.1=x then none else g x:=λx=>by
 have:=h x;rw [show look x (p::r)=_ from aC x p.1 p.2 r] at this
 show nQ W (look x r) (if p.1=x then none else g x);by_cases z:p.1=x
 ·rw [if_pos z,← z,on];rfl
 ·rw [if_neg z] at this ⊢;exact this
abbrev VD(F:Fr cx)(n:Nat):Prop:=P3 (∀v x S (K:CV->aq->Prop) (G:Prop),Ok F S->ao S.W v x->IV n v S.σ K->(∀S' c,IQ S S'->Ok F S'->bw S'.W.aU c x->K c S'.σ->G)->G) (∀l xs S (K:az->aq->Prop) (G:Prop),Ok F S->ah S.W l xs->IW n l S.σ K->(∀S' c,IQ S S'->Ok F S'->bO S'.W.aU c xs->K c S'.σ->G)->G) (∀fs g S (K:List (Str×CV)->aq->Prop) (G:Prop),Ok F S->gK S.W fs g->gJ fs=true->Oj n fs S.σ K->(∀S' c,IQ S S'->Ok F S'->jK S'.W.aU c g->len c=len fs->K c S'.σ->G)->G)
theorem Qh(N:VD F n){i:Nat}(o:Ok F S)(ha:af S.W.ρ i=some a){pre:az}{back:aY}(q:af S.σ i=some (.list pre back)){K:CV->aq->Prop}(h:(bindM (cU i .gone) λ_=>bindM (IW n (rev back [])) λcs=>aE (.lst (cat pre cs))) S.σ K)
  (c:∀S' c,IQ S S'->Ok F S'->bw S'.W.aU c (.ref a)->K c S'.σ->G):G:=(o.lst ha q).casesOn λxs m ow g r sz=>by
 obtain ⟨ys,zs,e,r1,r2⟩:=ah.VC r;refine N.2 _ zs (S.forget i) (λcs σ'=>K (.lst (cat pre cs)) σ') G (o.forget q) r2 h λS1 cs f1 o1 c1 h1=>?_;have gi:=f1.3 i (av _ q);have g1:S1.s.heap.get? a=some (aX xs.toArray m):=by rw [f1.2];exact g
 have y:=o1.kD gi (f1.4 i a (av _ q) ow) g1 λ_ t=>absurd (ahr t.1) (by decide)
 have f0:=(tZ q).trans f1;refine c (S1.kD a (aX xs.toArray m)) (.lst (cat pre cs)) ⟨f0.1.trans y.1,f0.2,f0.3,λj b hj w=>y.2.2 b _ (λz=>?_) (f0.4 j b hj w)⟩ y.2.1 ⟨a,xs,m,if_pos rfl,?_⟩ h1
 ·rw [aH.slot.inj z,q] at hj;cases hj
 ·have r3:bO (S1.kD a (aX xs.toArray m)).W.aU (cat pre cs) (ys++zs):=bO.app (r1.mono λb ob w=>y.1.1 _ _ (f0.1.1 _ _ w)) (c1.mono y.1.1)
  rw [← e] at r3;exact r3
theorem Qi(N:VD F n){i:Nat}(o:Ok F S)(ha:af S.W.ρ i=some a){C:Addr}{fs:Lo}(q:af S.σ i=some (.inst C fs))(on:gJ fs=true){K:CV->aq->Prop}(h:(bindM (cU i .gone) λ_=>bindM (Oj n fs) λgs=>aE (.obj C gs)) S.σ K)
  (c:∀S' c,IQ S S'->Ok F S'->bw S'.W.aU c (.ref a)->K c S'.σ->G):G:=(o.ins ha q).casesOn λd ow ne g cd=>cd.casesOn λod gg owd gd say L=>by
 refine N.3 fs gg (S.forget i) (λgs σ'=>K (.obj C gs) σ') G (o.forget q) L on h λS1 gs f1 o1 c1 hl h1=>?_;have gi:=f1.3 i (av _ q);have g1:S1.s.heap.get? a=some (fL C d):=by rw [f1.2];exact g
 have g2:S1.s.heap.get? d=some od:=by rw [f1.2];exact gd
 have y:=o1.kD gi (f1.4 i a (av _ q) ow) g1 λ_ t=>nomatch t.1;have aeW:(S1.kD a (fL C d)).W.own d=some (.slot i):=(aM (Ne.symm ne)).trans (f1.4 i d (av _ q) owd);have z:=y.2.1.kD gi aeW g2 λ_ t=>say.casesOn λes ep e _=>by rw [e] at t;exact absurd (ahr t.1) (by decide)
 have f0:=(tZ q).trans f1;have fa:((S1.kD a (fL C d)).kD d od).W.aU a=some (fL C d):=(iQ ne).trans (if_pos rfl);have fd:((S1.kD a (fL C d)).kD d od).W.aU d=some od:=if_pos rfl;have le:=y.1.trans z.1;refine c _ (.obj C gs) ⟨f0.1.trans le,f0.2,f0.3,λj b hj w=>z.2.2 b _ (λu=>?_) (y.2.2 b _ (λu=>?_) (f0.4 j b hj w))⟩ z.2.1 ⟨a,d,od,gg,fa,fd,hl▸say,jK.mono le.1 gs gg c1⟩ h1
 ·rw [aH.slot.inj u,q] at hj;cases hj
 ·rw [aH.slot.inj u,q] at hj;cases hj
theorem EN(n:Nat):VD F n:=by
 induction n with
 |zero=>exact ⟨λ_ _ _ _ _ _ _ h=>h.elim,λ_ _ _ _ _ _ _ h=>h.elim,λ_ _ _ _ _ _ _ _ h=>h.elim⟩|succ n N=>
  refine ⟨λv x S K G o hv h c=>?_,λl xs S K G o hl h c=>?_,λfs g S K G o hl on h c=>?_⟩
  ·induction v using MV.casesOn with
   |c u=>exact c S u (.refl S) o hv h|tup l=>induction hv with|mk a xs e r=>exact N.2 l xs S (λcs σ'=>K (.tup cs) σ') G o r h λS' cs f o' c' h'=>c S' (.tup cs) f o' ⟨a,xs,f.1.1 _ _ e,c'⟩ h'
   |ref i=>induction hv with|mk a ha=>
    refine OJ h λmo q h2=>?_;induction mo with
    |list pre back=>exact Qh N o ha q h2 c|inst C fs=>
     dsimp only at h2;revert h2;induction on:gJ fs with
     |true=>exact λh2=>Qi N o ha q on h2 c|false=>exact λh2=>h2.elim
    |_=>exact h2.elim
   |clo _ _=>exact h.elim
  ·induction l with
   |nil=>exact c S [] (.refl S) o hl h|cons v l=>
    obtain ⟨y,xs,rfl,hv,hl⟩:=hl;exact N.1 v y S _ G o hv h λS1 u f1 o1 c1 h1=>N.2 l xs S1 (λcs σ'=>K (u::cs) σ') G o1 (hl.up f1.1) h1 λS2 us f2 o2 c2 h2=>c S2 (u::us) (f1.trans f2) o2 ⟨y,xs,rfl,c1.mono f2.1.1,c2⟩ h2
  ·induction fs with
   |nil=>exact c S [] (.refl S) o (λx=>hl x) rfl h|cons p fs=>
    obtain ⟨k,v⟩:=p;revert on;show (match look k fs with|some _=>false|none=>gJ fs)=true->G
    induction e:look k fs with
    |some _=>exact bM|none=>
     intro on;have hp:=hl k;rw [aC,if_pos rfl] at hp;obtain ⟨y,g1,hv⟩:=hp;exact N.1 v y S _ G o hv h λS1 u f1 o1 c1 h1=>N.3 fs _ S1 (λcs σ'=>K ((k,u)::cs) σ') G o1 ((gK.tail hl e).up f1.1) on h1 λS2 us f2 o2 c2 hn h2=>c S2 ((k,u)::us) (f1.trans f2) o2 ⟨⟨y,g1,c1.mono f2.1.1⟩,c2⟩ (congrArg (· + 1) hn) h2
theorem VE(o:Ok F S){p:Pos}{v:MV}(hv:ao S.W v x){K:MV->aq->Prop}(h:T9 cx p v S.σ K)(c:∀S' u,bH F S S'->S'.s=S.s->ao S'.W u x->K u S'.σ->G):G:=by
 revert h;unfold T9;induction atP p cx.T9 with
 |false=>exact λh=>c S v (.refl o) rfl hv h|true=>exact λh=>(EN 30).1 v x S (λu σ'=>K (.c u) σ') G o hv h λS' u f o' c' h'=>c S' (.c u) ⟨⟨f.1,by rw [f.2];exact .refl _⟩,o'⟩ f.2 c' h'
end
section
variable{cx:Cx Prop}{F:Fr cx}{S S' Sb:Pt}{W Wb:Wd}{A:Around}{env cenv:Env}{r:dZ Prop}{x C D:Addr}{ox ox':Obj}{E:b7}
theorem Wd.ng{q:Option aH}(h:Wb.own x=none)(le:Wb.Le W):Wb.Le ⟨W.aU,cO W.own x q,W.ρ⟩:=by
 have z:∀{a r},Wb.own a=some r->W.own a=some r->cO W.own x q a=some r:=λe q=>(aM (Wd.dj h e)).trans q;exact ⟨le.1,λa o e=>z e (le.2 _ _ e),λa o e=>z e (le.3 _ _ e),λa e=>z e (le.4 _ e),λa p e=>z e (le.5 _ _ e),le.6⟩
def Pt.iR(S:Pt)(x:Addr)(o:Obj)(h:Heap)(t:Nat):Pt:=((S.drop x).at h t).keep x o
theorem Ok.iR(o:Ok F S)(hk:S.W.own x=some (.kept ox)){h':Heap}{tk:Nat}(hs:Heap.SameBut x S.s.heap h')(hx:h'.get? x=some ox'):Ok F (S.iR x ox' h' tk):=
 ((o.l5 hk).v9 (tk:=tk) aL (o.1.4 _ _ hk) hs).2.jO (S:=(S.drop x).at h' tk) aL (o.1.4 _ _ hk) hx |>.2
theorem CI{q:Option aH}{a:Addr}(h:a≠x):cO (cO W.own x none) x q a=W.own a:=(aM h).trans (aM h)
theorem Lx{h:Str×NameKind->Str×NameKind}{f:Str->NameKind->NameKind}(e:∀n k,h (n,k)=(n,f n k)){x:Str}{names:List (Str×NameKind)}:(names.map h).lookup x=(names.lookup x).map (f x):=by
 induction names with
 |nil=>rfl|cons p l ih=>
  obtain ⟨n,k⟩:=p;rw [ahT,e,agW,agW,ih];induction hx:x==n with
  |true=>rw [beq_iff_eq.mp hx];rfl|false=>rfl
noncomputable def aaR(env:Env)(x:Str)(k:NameKind):NameKind:=if (k==NameKind.free&&env.scope.kind ==.function&&env.kindOf x==some .cell)=true then .cell else k
theorem oH{x:Str}{sc:Scope}:(relabel sc env).names.lookup x=(sc.names.lookup x).map (aaR env x):=Lx (λn k=>(apply_ite (Prod.mk n) ..).symm)
abbrev SQ(sc:Scope)(l:List (Str×NameKind)):Prop:=P2 (∀p∈l,p.2≠ .cell) (∀p∈l,p.2 =.local->sc.names.lookup p.1=some .local)
theorem CJ{k:NameKind}:bf (isLocal k)=true->k =.local:=by cases k<;>first|exact λ_=>rfl|exact bM
theorem Ay{sc:Scope}{y:Str}:iC sc y=true->sc.names.lookup y=some .local:=by
 unfold iC aT.kindOf;rw [cJ];induction sc.names.lookup y with
 |none=>exact bM|some k=>exact λh=>by rw [CJ h]
theorem CK{sc:Scope}{l:List (Str×NameKind)}:namesOk sc l=true->SQ sc l:=by
 induction l with
 |nil=>exact λ_=>⟨λ_ h=>(nomatch h),λ_ h=>(nomatch h)⟩
 |cons p l ih=>
  intro h;have ih:=ih (bx h).2;have h:=(bx h).1;obtain ⟨n,k⟩:=p;refine ⟨λp hp=>?_,λp hp=>?_⟩
  ·cases hp with
   |head=>cases k<;>first|exact bM h|exact nofun
   |tail _ hp=>exact ih.1 p hp
  ·cases hp with
   |head=>
    cases k with
    |«local» =>exact λ_=>Ay h|_=>exact nofun
   |tail _ hp=>exact ih.2 p hp
abbrev wo(sc:Scope)(y z:Str):Prop:=P5 (sc.kind =.function) (y=z) (sc.names.lookup y=some .local) (SQ sc sc.names) ((y==("__debug__" : Str))=false)
theorem HA{sc:Scope}{y z f g:Str}(h:Jj sc y z f g=true):wo sc y z:=by
 have h:=bx (bx (bx h).1).1;have h1:=bx h.1;have h2:=bx h1.1;have h3:=bx h2.1;refine ⟨?_,dI.mp h3.2,Ay h2.2,CK h1.2,beq_false_of_ne (dh.mp (nZ h.2))⟩;revert h3;induction sc.kind with
 |function=>exact λ_=>rfl|_=>exact λh=>bM h.1
def SR(F:Fr cx)(S:Pt)(cenv:Env)(n:Str)(v:MV):Prop:=∀(p:Pos)(Q:b7)(E:b7),(∀a,ao S.W v a->Q a S.s)->wpAny Md F.A (eval (.Name n p) cenv) Q E S.s
theorem HD{k:NameKind}{u:Unit}:Jh k=some u->k =.globalImplicit:=by cases k<;>first|exact λ_=>rfl|exact bq
theorem HE{k:NameKind}:isFree k=true->k =.free:=by cases k<;>first|exact λ_=>rfl|exact bM
variable{sc:Scope}{cl:ja}{dX:List (Str×Addr)}
theorem Az(o:Ok F S)(hsc:sc.kind =.function){n:Str}{β:Type}{g:MV->M Prop β}{k:β->aq->Prop}(h:bindM (Ji cx sc n) g S.σ k){G:Prop}(c:∀v,SR F S (compEnvC sc dX C F.env) n (.c v)->g (.c v) S.σ k->G):G:=
 dK (k:=λa σ'=>g a σ' k) h λhd h=>aQ (k:=λa σ'=>g a σ' k) h λkd q h=>aQ (k:=λa σ'=>g a σ' k) h λ_ e h=>aQ (k:=λa σ'=>g a σ' k) h λv z h=>c v (λp Q E hQ=>aio (Ej (env:=compEnvC sc dX C F.env) o hsc o.2.6 o.2.7 (by
  refine oH.trans ?_;rw [← cJ,show look n sc.names=_ from q,HD e];rfl) z hQ) (lX hd).1) h
theorem Ly(o:Ok F S)(hsc:sc.kind =.function)(hcl:eZ S.W.ρ cl dX){n:Str}{β:Type}{g:MV->M Prop β}{k:β->aq->Prop}(h:bindM (fName sc cl n) g S.σ k){G:Prop}(c:∀v,SR F S (compEnvC sc dX C F.env) n v->g v S.σ k->G):G:=
 dK (k:=λa σ'=>g a σ' k) h λhd h=>aQ (k:=λa σ'=>g a σ' k) h λkd q h=>dK (k:=λa σ'=>g a σ' k) h λe h=>kZ (k:=λa σ'=>g a σ' k) o (xw.of hcl) h λv h r=>c v (λp Q E hQ=>by
  have hk:(compEnvC sc dX C F.env).kindOf n=_:=oH (env:=F.env) (x:=n) (sc:=sc);rw [← cJ,show look n sc.names=_ from q,HE e] at hk
  refine aio (r.casesOn λa y e d r=>?_) (lX hd).1;by_cases z:(NameKind.free==NameKind.free&&F.env.scope.kind ==.function&&F.env.kindOf n==some .cell)=true
  ·exact wpAny_loadName_cell hsc (hk.trans (congrArg some (if_pos z))) e d (hQ y r)
  ·exact wpAny_loadName_free hsc (hk.trans (congrArg some (if_neg z))) e d (hQ y r) (lX hd).2) h
theorem wu{f:Str}{pf p:Pos}{a:Expr}{args:List Expr}{Q:b7}{s:Shared}(ha:fj (a::args)=true)
  (hf:wpAny Md A (eval (.Name f pf) cenv) (λfv s0=>wpAny Md A (spliced (backTo p (starEach (a::args) cenv))) (λvs s1=>tK fv s1/\wpAny Md A (call fv vs []) Q E s1) E s0) E s):wpAny Md A (eval (.Call (.Name f pf) (a::args) [] p) cenv) Q E s:=by
 rw [v7 rfl];refine aag (adX hf (λfv s0 h0=>lA (kws:=[]) ha rfl ?_) λ_ _ z=>z);have z:=(bx ha).1;rw [gk z] at h0 ⊢;exact evalArgs_kw rfl (adX h0 (λvs s1 h1=>ahF h1) λ_ _ z=>z)
theorem wz(H:ef cx r)(o:Ok F S){g:MV}{x:Value}{as:aY}{aj:bU}(hg:ao S.W g x)(ha:ah S.W as aj){γ:Type}{f:MV->M Prop γ}{k:γ->aq->Prop}(h:bindM (r.call F.e.hd F.e.dp g as []) (λa=>bindM (aR (exO a)) f) S.σ k)
  {Q:b7} (q:∀S' b y,bH F S S'->ao S'.W b y->f b S'.σ k->Q y S'.s):tK x S.s/\wpAny Md F.A (call x aj []) Q E S.s:=
 pU H o hg ha (ks:=[]) (uR:=[]) rfl (λa σ'=>bindM (aR (exO a)) f σ' k) Q E h (λS' b y n v h=>q S' b y n v h) λ_ _ _ _ _ _ h=>h.elim
noncomputable abbrev Lz(f x g y:Str)(p1 p2 p3 p4 p5 p6:Pos):Expr:=.Call (.Name f p1) [.Name x p2,.Call (.Name g p3) [.Name y p4] [] p5] [] p6
variable{f xn g y:Str}{p1 p2 p3 p4 p5 p6 p7 pos:Pos}
theorem VF(H:ef cx r)(o:Ok F S)(hs:wo sc y y)(hcl:eZ S.W.ρ cl dX){u:MV}{yv:Value}(hu:ao S.W u yv){gC:Str->cK}(hns:S.s.heap.Ns C gC)(hy:gC y=some yv){k:MV->aq->Prop}(h:D0 cx r F.e sc cl f xn g u S.σ k)
  {Q:b7} (q:Ev F VR k S Q):wpAny Md F.A (eval (Lz f xn g y p1 p2 p3 p4 p5 p6) (compEnvC sc dX C F.env)) Q E S.s:=
 Az o hs.1 h λfv aaS h=>Ly o hs.1 hcl h λxv aaT h=>Az o hs.1 h λgv aaU h=>by
  refine wu rfl (aaS p1 _ _ λah9 hf=>afW (aaT p2 _ _ λaia hx=>afW (wu rfl (aaU p3 _ _ λaib hg=>?_))));refine afW (aio (wpAny_loadName_local (env:=compEnvC sc dX C F.env) hs.1 (lookup_relabel_local hs.3) hns hy (ahe ?_)) hs.5);refine wz (as:=[u]) H o hg ⟨_,_,rfl,hu,rfl⟩ h λS1 b bv n1 v1 h1=>ahe ?_;exact wz (f:=λb=>aE b) (as:=[xv,b]) H n1.2 (ao.up hf n1.1.1) ⟨_,_,rfl,ao.up hx n1.1.1,_,_,rfl,v1,rfl⟩ h1 λS2 b bv n2 v2 h2=>q S2 b bv (n1.trans n2) v2 h2
abbrev AA(S:Pt)(C:Addr):Prop:=P1 (∃oC gC,S.W.own C=some (.kept oC)/\∀h:Heap,h.get? C=some oC->h.Ns C gC)
abbrev CompI(r:dZ Prop)(F:Fr cx)(sc:Scope)(cl:ja)(f xn g:Str)(m:Nat)(k:aY->aq->Prop)(Sb:Pt)(C D x:Addr)(n i:Nat)(acc:aY)(aj:bU)(S:Pt):Prop:=P8 (Le Sb S) (Ok F S) (AA S C) (∃m,S.W.own D=some (.kept (aX aj.toArray m))) (ah S.W (rev acc []) aj) (aj.length+n<=100) (Hh S x (.seq (.ref m) i)) (sG cx r F.e sc cl f xn g (.ref m) n i acc S.σ k)
abbrev t6(Sb:Pt)(C D x:Addr):Prop:=P6 (C≠D) (C≠x) (D≠x) (Sb.W.own C=none) (Sb.W.own D=none) (Sb.W.own x=none)
theorem tP.sq{h:Heap}{m i:Nat}(H:tP W h x (.seq (.ref m) i)):∃a,af W.ρ m=some a/\h.IsListIter x a i:=by
 cases H with|mk n a ha it=>exact ⟨a,ha,it⟩
theorem kR.re{s s':Shared}{h:Heap}{t:Nat}(e:kR s s'):kR s { s' with heap:=h,toks:=t }:=⟨e.1,e.2,e.3⟩
theorem ao.re{v:MV}{y:Value}{o:Obj}{h:Heap}{t:Nat}(e:ao S.W v y):ao (S.iR x o h t).W v y:=ao.up' (W:=S.W) (W':=(S.iR x o h t).W) ⟨λ_ _ e=>e,λ_ _ e=>e⟩ _ _ e
theorem ah.re{v:aY}{y:bU}{o:Obj}{h:Heap}{t:Nat}(e:ah S.W v y):ah (S.iR x o h t).W v y:=ah.up' (W:=S.W) (W':=(S.iR x o h t).W) ⟨λ_ _ e=>e,λ_ _ e=>e⟩ _ _ e
theorem EO(o:Ok F S){m i:Nat}(hi:Hh S x (.seq (.ref m) i)){β:Type}{g:Option (MV×It)->M Prop β}{k:β->aq->Prop}(h:bindM (sF (.seq (.ref m) i)) g S.σ k){G:Prop}
  (c:∀q,wc F S x (match (generalizing:=false) q with|some v=>some (v,.seq (.ref m) (i+1))|none=>none)->g (match q with|some v=>some (v,.seq (.ref m) (i+1))|none=>none) S.σ k->G):G:=
 hi.1.sq.elim λa ha=>eH (f:=λσ=>jb σ (.ref m)) (g:=λl:aY×Bool=>(aE (match af l.1 i with|some x=>some (x,.seq (.ref m) (i+1))|none=>none):M Prop (Option (MV×It)))) (k:=λl σ'=>g l σ' k) h λl e h=>c (af l.1 i) (by
  revert e;dsimp only [jb];induction q:af S.σ m with
  |none=>exact bq|some mo=>induction mo with
   |list pre back=>exact λe=>aap e▸Al o hi.2 hi.3 ha.1 ha.2 q|_=>exact bq) h
theorem VG{m:Nat}{k:aY->aq->Prop}{n i:Nat}{acc:aY}{aj:bU}{b:MV}{v:Value}(nn:t6 Sb C D x)(le:Le Sb S)(o:Ok F S)(hC:AA S C)(hD:∃m,S.W.own D=some (.kept (aX aj.toArray m)))(hx:S.W.own x=some (.kept ox))
  (hacc:ah S.W (rev acc []) aj) (hn:aj.length+(n+1)<=100) (it:tP S.W S.s.heap x (.seq (.ref m) i)) (hv:ao S.W b v) (run:sG cx r F.e sc cl f xn g (.ref m) n i (b::acc) S.σ k)
  {Q:b7} (q:∀acc aj S',CompI r F sc cl f xn g m k Sb C D x n i acc aj S'->Q .none S'.s):wpAny Md F.A (call (.builtin "list.append") [.ref D,v]) Q E S.s:=
 bB λgg=>hD.elim λmD hD=>hC.1.elim λoC z=>z.elim λgC hC=>gg <|agz ⟨mD,o.1.2 _ _ hD⟩ (λh5 pl sb=>pl.elim λm5 g5=>by
  have o5:=o.iR (tk:=S.s.toks) hD sb g5;have hx5:(S.iR D (aX (aj.toArray.push v) m5) h5 S.s.toks).W.own x=some (.kept ox):=(CI nn.3.symm).trans hx;refine q (b::acc) (aj++[v]) ((S.iR D (aX (aj.toArray.push v) m5) h5 S.s.toks).drop x) ⟨⟨Wd.ng nn.6 (Wd.ng nn.5 (Wd.ng nn.5 le.1)),le.2.re⟩,o5.l5 hx5,⟨oC,gC,(aM nn.2).trans ((CI nn.1).trans hC.1),hC.2⟩,⟨m5,(aM nn.3).trans ?_⟩,?_,?_,⟨?_,aL,o5.1.4 _ _ hx5⟩,run⟩
  ·rw [ahK];exact aL
  ·rw [show rev (b::acc) []=cat (rev acc []) [b] from rA acc [b]]
   exact ah.up' (W:=S.W) (W':=((S.iR D (aX (aj.toArray.push v) m5) h5 S.s.toks).drop x).W) ⟨λ_ _ e=>e,λ_ _ e=>e⟩ _ _ (ah.cat hacc (ah.cons hv (show ah S.W [] [] from rfl)))
  ·rw [adV,List.length_singleton];lia
  ·exact it.sq.elim λa z=>⟨m,a,z.1,z.2.elim λob z=>⟨ob,(sb.2 _ nn.3.symm).trans z.1,z.2⟩⟩) (by rw [adZ,List.size_toArray];lia)
theorem Qj(H:ef cx r)(hs:wo sc y y){m:Nat}{k:aY->aq->Prop}{n i:Nat}{acc:aY}{aj:bU}{u:MV}{yv:Value}(nn:t6 Sb C D x)(hcl:eZ Sb.W.ρ cl dX)(le:Le Sb S)(o:Ok F S)(hC:AA S C)(hD:∃m,S.W.own D=some (.kept (aX aj.toArray m)))
  (hx:S.W.own x=some (.kept ox)) (hacc:ah S.W (rev acc []) aj) (hn:aj.length+(n+1)<=100) (it:tP S.W S.s.heap x (.seq (.ref m) i)) (hu:ao S.W u yv) (run:bindM (D0 cx r F.e sc cl f xn g u) (λb=>sG cx r F.e sc cl f xn g (.ref m) n i (b::acc)) S.σ k)
  {Q:b7} (q:∀acc aj S',CompI r F sc cl f xn g m k Sb C D x n i acc aj S'->Q .none S'.s) :
  wpAny Md F.A (assign (.Name y p7) (compEnvC sc dX C F.env) yv) (λ_ s₂=>wpAny Md F.A (eval (Lz f xn g y p1 p2 p3 p4 p5 p6) (compEnvC sc dX C F.env)) (λv s₃=>wpAny Md F.A (call (.builtin "list.append") [.ref D,v]) Q E s₃) E s₂) E S.s:=
 bB λgg=>hC.1.elim λoC z=>z.elim λgC hC=>gg <|by
  rw [arm_assign_Name];have hl:(compEnvC sc dX C F.env).kindOf y=some .local:=lookup_relabel_local hs.3;refine aag (adj (ahu (agU hl (hC.2 _ (o.1.2 _ _ hC.1)) (λh' hn1 sb=>?_) (by rw [show (compEnvC sc dX C F.env).scope.kind =.function from hs.1];rfl))))
  have hn2:h'.Ns C (λx=>if x=y then some yv else gC x):=hn1;refine bB λgg=>?_;obtain ⟨oC',es,ep,c1,c2⟩:=hn1;refine gg ?_;have o2:=o.iR (tk:=S.s.toks+1) hC.1 sb c1;refine VF H o2 hs (hcl.mono le.1.6) hu.re hn2 (if_pos rfl) run λS4 b v n4 v4 h4=>?_;have own:∀{a ob},a≠C->S.W.own a=some (.kept ob)->S4.W.own a=some (.kept ob):=λne e=>n4.1.1.2 _ _ ((CI ne).trans e);have hx4:=own nn.2.symm hx;exact VG nn ⟨(Wd.ng nn.4 (Wd.ng nn.4 le.1)).trans n4.1.1,le.2.re.trans n4.1.2⟩ n4.2 ⟨oC',_,n4.1.1.2 _ _ aL,λh q=>⟨oC',es,ep,q,c2⟩⟩ (hD.elim λm z=>⟨m,own nn.1.symm z⟩) hx4
   (ah.up hacc.re n4.1.1) hn (it.sq.elim λa z=>⟨m,a,n4.1.1.6 _ _ z.1,z.2.elim λob z=>⟨ob,by rw [n4.2.1.2 _ _ hx4,← o.1.2 _ _ hx];exact z.1,z.2⟩⟩) v4 h4 q
theorem HF(H:ef cx r)(hs:wo sc y y){m:Nat}{k:aY->aq->Prop}(nn:t6 Sb C D x)(hcl:eZ Sb.W.ρ cl dX){it:Expr}{R:Result->Shared->Prop}
  (hR:∀S vs aj,Le Sb S->Ok F S->AA S C->(∃m,S.W.own D=some (.kept (aX aj.toArray m)))->ah S.W (rev vs []) aj->aj.length<=100->k vs S.σ->R (.ok .next) S.s)
  (n:Nat) {s:Shared} (h:∃i acc aj S,s=S.s/\CompI r F sc cl f xn g m k Sb C D x n i acc aj S) :
  codeAny Md F.A (.compLoop (.ListComp (Lz f xn g y p1 p2 p3 p4 p5 p6) [⟨.Name y p7,it,[],0⟩] sc pos) 0 (.ref x) (.ref D) (compEnvC sc dX C F.env)) R s:=by
 refine codeAny_compLoop_list (λn s=>∃i acc aj S,s=S.s/\CompI r F sc cl f xn g m k Sb C D x n i acc aj S) (λn s hI=>bB λgg=>?_) n h;obtain ⟨i,acc,aj,S,rfl,I⟩:=hI;induction n with
 |zero=>
  refine gg ?_;refine EO I.2 I.7 I.8 λq nx h=>?_;induction q with
  |some u=>exact h.elim|none=>exact oq I.2 h λhc h=>nx hc _ _ λh' n1=>hR (S.at h' S.s.toks) acc aj (I.1.trans n1.1) n1.2 ⟨I.3.1⟩ I.4 I.5 I.6 h
 |succ n=>
  refine gg ?_;refine EO I.2 I.7 I.8 λq nx h=>?_;induction q with
  |none=>exact h.elim|some u=>
   refine nx _ _ λh' tk y hv hi1 hc n1=>?_;obtain ⟨ox,_,g1,_⟩:=hc;have nk:=n1.2.jO (ox:=ox) I.7.2 I.7.3 g1;have out:∀{a ob},a≠x->S.W.own a=some (.kept ob)->((S.at h' tk).keep x ox).W.own a=some (.kept ob):=λne e=>(aM ne).trans e;exact Qj (S:=(S.at h' tk).keep x ox) H hs nn hcl (I.1.trans (n1.1.trans nk.1)) nk.2 ⟨I.3.1.elim λoC z=>z.elim λgC z=>⟨oC,gC,out nn.2 z.1,z.2⟩⟩ (I.4.elim λm z=>⟨m,out nn.3 z⟩) aL (ah.up I.5 nk.1.1) I.6
    (hi1.up nk.1.1 λ_ e=>e) (ao.up (W:=(S.at h' tk).W) hv nk.1.1) (show bindM (D0 cx r F.e sc cl f xn g u) (λb=>sG cx r F.e sc cl f xn g (.ref m) n (i+1) (b::acc)) S.σ k from h) λacc aj S' I'=>⟨n,adY n,i+1,acc,aj,S',rfl,I'⟩
theorem LA{vs:aY}{aj:bU}(nn:t6 Sb C D x)(le:Le Sb S)(o:Ok F S)(hC:AA S C)(hD:∃m,S.W.own D=some (.kept (aX aj.toArray m)))(hv:ah S.W (rev vs []) aj)(hn:aj.length<=100){k:MV->aq->Prop}(h:newL ([],vs) S.σ k)
  {Q:b7} (q:Ev F VR k Sb Q):∃m,S.s.heap.Ns C m/\∀h',Heap.SameBut C S.s.heap h'->Q (.ref D) { S.s with heap:=h' }:=
 bB λgg=>hC.1.elim λoC z=>z.elim λgC hC=>hD.elim λmD hD=>gg <|⟨gC,hC.2 _ (o.1.2 _ _ hC.1),λh' sb=>by
  have n1:=(o.l5 hC.1).v9 (tk:=S.s.toks) aL (o.1.4 _ _ hC.1) sb;have hD1:((S.drop C).at h' S.s.toks).W.own D=some (.kept (aX aj.toArray mD)):=(aM nn.1.symm).trans hD;have a:=n1.2.adopt (mo:=.list [] vs) (tk:=S.s.toks) hD1 (.refl _ _) λow=>⟨aj,mD,ow,n1.2.1.2 _ _ hD1,ah.up' (W:=S.W) (W':=(((S.drop C).at h' S.s.toks).adopt D (.list [] vs) h' S.s.toks).W) ⟨λ_ _ e=>e,λ_ _ e=>aB _ e⟩ _ _ hv,by unfold aW;lia⟩
  exact q _ (.ref (len S.σ)) (.ref D) ⟨⟨(Wd.ng nn.5 (Wd.ng nn.4 le.1)).trans a.1.1.1,le.2.re⟩,a.1.2⟩ ⟨D,a.2⟩ h⟩
theorem l6{a:Expr}{n:Str}(h:nI a=some n){G:Prop}(c:∀p,a =.Name n p->G):G:=(tT h).elim c
abbrev aaV(elt:Expr)(gens:List Comprehension)(q:Jk):Prop:=P1 (∃p1 p2 p3 p4 p5 p6 p7,elt=Lz q.f q.x q.g q.y p1 p2 p3 p4 p5 p6/\gens=[⟨.Name q.z p7,q.it,[],0⟩])
theorem Qk{g:Comprehension}{q:Str×Expr}:Ut g=some q->∃p,g=⟨.Name q.1 p,q.2,[],0⟩:=by
 obtain ⟨t,it,ifs,a⟩:=g;dsimp only [Ut];induction e:nI t with
 |none=>exact bq|some z=>induction ifs with
  |cons _ _=>exact bq|nil=>induction a with
   |negSucc _=>exact bq|ofNat a=>induction a with
    |succ _=>exact bq|zero=>exact λh=>(tT e).elim λp e=>⟨p,by rw [e,← aap h];rfl⟩
theorem LB{elt:Expr}{gens:List Comprehension}{q:Jk}(h:Sj elt gens=some q):aaV elt gens q:=
 bind_some h λc e1 h=>bind_some h λf e2 h=>bind_some h λas e3 h=>bind_some h λx e4 h=>bind_some h λd e5 h=>bind_some h λg e6 h=>bind_some h λb e7 h=>bind_some h λy e8 h=>bind_some h λq1 e9 h=>bind_some h λz VH h=>
  (tS e1).elim λp6 e1=>l6 e2 λp1 e2=>l6 e4 λp2 e4=>(tS e5).elim λp5 e5=>l6 e6 λp3 e6=>l6 e8 λp4 e8=>(Qk VH).elim λp7 VH=>
   ⟨p1,p2,p3,p4,p5,p6,p7,by rw [e1,e2,Ca e3,e4,e5,e6,fN e7,e8,← aap h],by rw [fN e9,VH,← aap h]⟩
theorem Ql{v:MV}{σ:aq}{n:Nat}:Us v σ=some n->∃m,v =.ref m/\vG v σ=some (.seq v 0)/\n<=100:=by
 induction v using MV.casesOn with
 |ref m=>
  unfold Us vG;dsimp only [BQ];induction listOf σ m with
  |none=>exact bq|some l=>exact λh=>⟨m,rfl,rfl,aap (bz h).2▸abV (bz h).1⟩
 |_=>exact bq
theorem CL(H:ef cx r)(hs:wo sc y y)(hcl:eZ S.W.ρ cl dX)(o:Ok F S){m n:Nat}(hi:Hh S x (.seq (.ref m) 0))(hn:n<=100){it:Expr}{k:MV->aq->Prop}(h:bindM (sG cx r F.e sc cl f xn g (.ref m) n 0 []) (λvs=>newL ([],vs)) S.σ k)
  {Q:b7} (q:Ev F VR k S Q):wpAny Md F.A (newObj (.type "list") (.seq #[])) (λacc s₃=>
   wpAny Md F.A (newFunctionEnv sc F.env.globals dX [] F.env.qual none .none (some F.env)) (λcenv s₄=>
    codeAny Md F.A (.compStart (.ListComp (Lz f xn g y p1 p2 p3 p4 p5 p6) [⟨.Name y p7,it,[],0⟩] sc pos) 0 (.ref x) acc { cenv with scope:=relabel sc F.env }) (compPost Md F.A E none Q acc cenv.locals) s₄) E s₃) E S.s:=by
 refine aeO (wpAny_newFunctionEnv hs.4.1 (by intro y hy;simp at hy) (λh₁ hns sb=>?_) hs.1)
 refine bB λgg=>?_;obtain ⟨a,ha,ob,hx,hx2⟩:=hi.1.sq;refine gg ?_;generalize hd:S.s.heap.push { cls:=.type "list",data:=.seq #[] }=H2 at hns sb;have z2:H2.objs.size=S.s.heap.objs.size+1:=by rw [← hd,acR]
 have gD:H2.get? S.s.heap.objs.size=some (aX #[] 0):=hd▸abX _ rfl;have kp:∀b ob,S.s.heap.get? b=some ob->H2.get? b=some ob:=λb ob e=>hd▸aas _ e;have kq:∀b ob,H2.get? b=some ob->h₁.get? b=some ob:=λb ob e=>(sb.2 b (aee (ado e))).trans (aas _ e);refine bB λgg=>?_;obtain ⟨oC,es,ep,c1,c2⟩:=hns;refine gg ?_;have n1:=o.grown (λb ob e=>kq b ob (kp b ob e)) (by rw [sb.1,acR,z2];exact aco (adq _) (adq _)) S.s.toks
 have ne:H2.objs.size≠S.s.heap.objs.size:=z2▸Nat.succ_ne_self _;have nn:t6 S H2.objs.size S.s.heap.objs.size x:=⟨ne,λe=>absurd (ado hx) (afJ.mpr (e▸z2▸adq _)),agt (ado hx),o.1.5 _ (z2▸adq _),o.1.5 _ (abv _),hi.2⟩;have n2:=n1.2.jO (S:=S.at h₁ S.s.toks) nn.5 (o.1.jh (abv _)) (kq _ _ gD);have n3:=n2.2.jO (S:=(S.at h₁ S.s.toks).keep S.s.heap.objs.size (aX #[] 0)) ((aM nn.1).trans nn.4) (o.1.jh (z2▸adq _)) c1;have VI:(((S.at h₁ S.s.toks).keep S.s.heap.objs.size (aX #[] 0)).keep H2.objs.size oC).s.heap.IsListIter x a 0:=⟨ob,kq _ _ (kp _ _ hx),hx2⟩;have loop:=HF (pos:=pos) (p1:=p1) (p2:=p2) (p3:=p3) (p4:=p4) (p5:=p5) (p6:=p6) (p7:=p7) (it:=it) (f:=f) (xn:=xn) (g:=g) (k:=λvs σ'=>newL ([],vs) σ' k) H hs nn hcl (R:=compPost Md F.A E none Q (.ref S.s.heap.objs.size) H2.objs.size)
  (λS' vs aj le o' hC hD hv hn h=>LA nn le o' hC hD hv hn h q) n
  ⟨0,[],[],_,rfl,n1.1.trans (n2.1.trans n3.1),n3.2,⟨oC,_,aL,λh q=>⟨oC,es,ep,q,c2⟩⟩,⟨0,(aM nn.1.symm).trans aL⟩,rfl,by rw [List.length_nil,aeb];exact hn,⟨⟨_,a,ha,VI⟩,(aM nn.2.symm).trans ((aM nn.3.symm).trans hi.2),hi.3⟩,h⟩
 exact codeAny_compStart_list loop (wpAny_pyIter_listiter VI loop)
theorem Qm(H:ef cx r)(o:Ok F S){elt:Expr}{gs:List Comprehension}{p:Pos}:Runs F VR (eval (.ListComp elt gs sc p) F.env) (Jl cx r F.e elt gs sc) S:=λk Q E h q er=>
 bB λgg=>aQ h λc e h=>dK h λz h=>aQ h λcl e2 h=>(LB e).1.elim λp1 z1=>z1.elim λp2 z1=>z1.elim λp3 z1=>z1.elim λp4 z1=>z1.elim λp5 z1=>z1.elim λp6 z1=>z1.elim λp7 z1=>(tW o e2).elim λdX hc=>gg <|by
  have hs:=HA (bx z).1;rw [z1.1,z1.2,eval_ListComp,← hs.2];have hs2:wo sc c.y c.y:=⟨hs.1,rfl,hs.3,hs.4,hs.5⟩;refine wpAny_comprehension_free (use:=none) rfl (λx=>mL x (bx z).2) hc.1 hs.1 hs.4.2 ((H.ev F c.it S o).go h er λS1 v y n1 v1 h1=>eH h1 λn e3 h2=>?_);refine bB λgg=>?_;obtain ⟨m,rfl,e4,e5⟩:=Ql e3;refine gg ?_;exact (An n1.2 v1).get e4 _ _ λob x n2 hi=>CL H hs2 (hc.2.mono (n1.trans n2).1.1.6) n2.2 hi e5 (k:=λv σ'=>k (.ok v) σ') h2 (q.aA (n1.trans n2))
end
section
variable{cx:Cx Prop}{F:Fr cx}{S:Pt}{r:dZ Prop}
abbrev LD(cx:Cx Prop)(r:dZ Prop)(F:Fr cx)(S:Pt)(x:Expr):Prop:=Runs F VR (eval x F.env) (Oa cx r F.e x) S
theorem Qn{i:Expr}{q:Option Expr×Option Expr}:Uu i=some q->∃p,i =.Slice q.1 q.2 none p:=by
 cases i with
 |Slice lo hi st p=>induction st with
  |none=>exact λh=>⟨p,by rw [← aap h]⟩|some _=>exact bq
 |_=>exact bq
theorem aaW(H:fJ cx r)(o:Ok F S){v i:Expr}{p:Pos}:LD cx r F S (.Subscript v i p):=by
 show Runs F VR _ (bg (r.ev F.e v) λv=>match vE i with|true=>_|false=>_) S
 induction z:vE i with
 |false=>exact U1 H o z|true=>
  intro k Q E h q er;induction z2:Uu i with
  |some s=>
   obtain ⟨p',rfl⟩:=Qn z2;exact Kf H o k Q E h q er
  |none=>
   rw [z2] at h;exact agy ((H.ev F v S o).go h er λS1 a x n1 v1 h1=>h1.elim)
theorem VJ(H:ef cx r)(o:Ok F S){f:Expr}{as:List Expr}{ks:List Keyword}{p:Pos}:LD cx r F S (.Call f as ks p):=λk Q E h q er=>dK h λz h=>by
 have ha:=Hf z;revert h;induction e:zu f with
 |none=>exact λh=>Px H EM o ha e k Q E h q er|some t=>
  rw [KS e];exact λh=>dK h λz h=>Hg H EM o ha (bx z).1 (bx z).2 k Q E h q er
theorem xY(xs:List Expr)(env:Env):evalEach xs env=xs.map λx=>eval x env:=by
 induction xs with
 |nil=>rfl|cons x xs ih=>exact congrArg (_ :: ·) ih
theorem VK(H:fJ cx r)(o:Ok F S){op:PySem.BoolOp}{xs:List Expr}{p:Pos}:LD cx r F S (.BoolOp op xs p):=by
 show Runs F VR (eval (.BoolOp op xs p) F.env) (nJ r F.e op xs) S;rw [arm_eval_BoolOp,xY];exact Kc H xs o
theorem HG{op:PySem.UnaryOp}{u:Unit}:Jq op=some u->op =.USub:=by
 induction op with
 |USub=>exact λ_=>rfl|_=>exact bq
theorem HH{x:Expr}{i:Int}:Jr x=some i->∃n q,x =.Constant (.int i) n q:=by
 cases x with
 |Constant c n q=>induction c with
  |int j=>exact λh=>⟨n,q,by rw [aap h]⟩|_=>exact bq
 |_=>exact bq
theorem aeX(o:Ok F S){op:PySem.UnaryOp}{x:Expr}{p:Pos}:LD cx r F S (.UnaryOp op x p):=λk Q E h q er=>aQ h λ_ e h=>aQ h λi e2 h=>by
 obtain ⟨n,q',rfl⟩:=HH e2;rw [HG e];exact Vr o k Q E h q er
theorem VL(H:ef cx r)(o:Ok F S)(x:Expr):LD cx r F S x:=by
 cases x with
 |Constant c n p=>exact J9 o|Name n p=>exact O5 o|Attribute x n p=>exact Pw H.tofJ o|Subscript v i p=>exact aaW H.tofJ o|Call f as ks p=>exact VJ H o|Compare l ops qs p=>exact Ci H.tofJ o|BoolOp op xs p=>exact VK H.tofJ o|UnaryOp op x p=>exact aeX o|IfExp t a b p=>exact aaf H.tofJ o|BinOp a op b p=>exact U0 H.tofJ o|List xs p=>exact O7 H.tofJ o|Tuple xs n p=>exact Kd H.tofJ o|Dict ks xs p=>exact λk Q E h q er=>dK h λz h=>PI H.tofJ o (bx z).1 (bx z).2 k Q E h q er|ListComp elt gs sc p=>exact Qm H o|_=>exact λk Q E h=>h.elim
theorem Qo(H:ef cx r)(o:Ok F S)(x:Expr):Runs F VR (eval x F.env) (Js cx r F.e x) S:=λk Q E h q er=>
 (VL H o x).go h er λS1 v y n1 v1 h1=>VE n1.2 v1 (K:=λv σ'=>k (.ok v) σ') h1 λS2 u n2 e v2 h2=>e▸q S2 u y (n1.trans n2) v2 h2
theorem LF(H:fJ cx r)(o:Ok F S)(x:Expr):Runs F BR (isTrue x F.env (eval x F.env)) (D4 cx r F.e x) S:=by
 cases x with
 |UnaryOp op a p=>exact O6 H o|BoolOp op xs p=>exact GU H xs o|Compare l ops qs p=>exact zR H o|Name n p=>exact jw H o rfl|Constant c n p=>exact jw H o rfl|Call f as ks p=>exact jw H o rfl|Attribute x n p=>exact jw H o rfl|Subscript x i p=>exact jw H o rfl|_=>exact λk Q E h=>h.elim
theorem LG{a:Arguments}{ps:List Arg}:Sn a=some ps->a=⟨[],ps,none,[],[],none,[]⟩:=by
 obtain ⟨po,ps',va,ko,kd,kw,df⟩:=a;induction po with
 |cons _ _=>exact bq|nil=>induction va with
  |some _=>exact bq|none=>induction ko with
   |cons _ _=>exact bq|nil=>induction kd with
    |cons _ _=>exact bq|nil=>induction kw with
     |some _=>exact bq|none=>induction df with
      |cons _ _=>exact bq|nil=>exact λh=>by rw [← aap h]
abbrev Qp(cx:Cx Prop)(r:dZ Prop)(F:Fr cx)(S:Pt)(x:Stmt):Prop:=jx F (exec x F.env) (mZ cx r F.e x) S
theorem aaX(H:jP cx r)(o:Ok F S){t it:Expr}{body els:cL}{p:Pos}:Qp cx r F S (.For t it body els p):=λk Q E h ok er=>aQ h λ_ e h=>by
 rw [gz e];revert h;unfold Sm;induction q:BV it with
 |some z=>exact λh=>(Hi q).elim λfp w=>w.elim λcp e=>by rw [e];exact xS H o k Q E h ok er|none=>exact λh=>dK h λz h=>Vj H o z k Q E h ok er
theorem aaY(H:jP cx r)(o:Ok F S){t x:Expr}{op:Operator}{p:Pos}:Qp cx r F S (.AugAssign t op x p):=by
 cases t with
 |Name n q=>exact z9 H.togb o|Attribute u n q=>exact Af H.tofJ o|_=>exact λk Q E h=>h.elim
theorem aaZ(o:Ok F S){name bind:Str}{args:Arguments}{body:cL}{decs:List Expr}{Ow:Option Expr}{tps:List TypeParam}{sc:Scope}{tsc:Option Scope}{p:Pos}:Qp cx r F S (.FunctionDef name args body decs Ow tps sc tsc bind p):=λk Q E h ok er=>
 bB λgg=>aQ h λps e1 h=>aQ h λ_ e2 h=>aQ h λ_ e3 h=>aQ h λ_ e4 h=>aQ h λ_ e5 h=>gg <|by
  rw [LG e1,gz e2,sY e3,gz e4,sY e5];exact Vl o k Q E h ok er
theorem Qq(H:jP cx r)(o:Ok F S)(x:Stmt):Qp cx r F S x:=by
 cases x with
 |Expr x p=>exact Pd H.togb o|Pass p=>exact λk Q E h ok er=>wpAny_Pass (ok S .next F.e.m .next (.refl _) o .next h)|Return x p=>exact G4 H.togb o|Assign ts x p=>exact λk Q E h ok er=>aQ h λt e h=>by rw [fN e];exact G8 H.togb o k Q E h ok er|AugAssign t op x p=>exact aaY H o|If t a b p=>exact aal H.togb o|While t body els p=>exact λk Q E h ok er=>aQ h λ_ e h=>by rw [gz e];exact Ko H.togb o k Q E h ok er|For t it body els p=>exact aaX H o|Raise x c p=>
  intro k Q E h ok er;refine aQ h λ_ e h2=>?_;clear h;rw [sY e];induction x with
  |some x=>exact Ku H.togb o k Q E h2 ok er|none=>exact Cn o k Q E h2 ok er
 |Try body hs orelse fin p=>exact Vk H.togb o|FunctionDef name args body decs Ow tps sc tsc bind p=>exact aaZ o|_=>exact λk Q E h=>h.elim
abbrev eN(cx:Cx Prop):Prop:=P3 (xP cx) (∀n L,aD n cx.BH=some L->jg cx L) (∀n L,aD n cx.BG=some L->j9 cx L)
theorem Qs(C:eN cx)(H:jP cx r):jP cx (Sp cx r) where
 ev F x S o:=Qo H.toef o x
 uW F x S o:=LF H.tofJ o x
 exs F ss S o:=Va H.togb (λF st S o=>Qq H o st) ss o
 DW F t body S o:=U9 H.togb C.2 F t body S o
 call:=Pq H.toef C.1
 gh:=Vi H C.3
theorem xZ(C:eN cx)(n:Nat):jP cx (R cx n):=by
 induction n with
 |zero=>exact { ev:=λ_ _ _ _ _ _ _ h=>h.elim,uW:=λ_ _ _ _ _ _ _ h=>h.elim,exs:=λ_ _ _ _ _ _ _ h=>h.elim,DW:=λ_ _ _ _ _ _ _ h=>h.elim,call:=λ_ _ _ _ _ _ _ _ _ _ _ _ _ h=>h.elim,gh:=λ_ _ _ _ _ _ _ _ _ _ h=>h.elim }|succ n ih=>exact Qs C ih
end
mutual
noncomputable def t7(g:Nat->Option Nat):MV->Option MV
 |.c v=>some (.c v)|.ref n=>(g n).map .ref|.tup l=>(oJ g l).map .tup|.clo f cl=>(LH g cl).map (.clo f)
noncomputable def oJ(g:Nat->Option Nat):aY->Option aY
 | []=>some []|v::l=>(t7 g v).bind λv'=>(oJ g l).map (v' :: ·)
noncomputable def LH(g:Nat->Option Nat):ja->Option ja
 | []=>some []|p::l=>(g p.2).bind λm=>(LH g l).map ((p.1,m) :: ·)
end
noncomputable def oK{α β:Type}(f:Nat->α->Option β):Nat->List α->Option (List β)
 |_,[]=>some []|i,a::l=>(f i a).bind λb=>(oK f (i+1) l).map (b :: ·)
def t8(g:Nat->Option Nat)(l:Lo):Option Lo:=oK (λ_ p=>(t7 g p.2).map λv=>(p.1,v)) 0 l
def AB(g:Nat->Option Nat):MO->Option MO
 |.gone=>some .gone|.inst C fs=>(t8 g fs).map (.inst C)|.exc C fs t b=>(t8 g fs).map λfs=>.exc C fs t b|.list pre back=>(oJ g back).map (.list pre)|.dict es=>(t8 g es).map .dict|.known v ks=>some (.known v ks)|.vB n=>some (.vB n)|.box l=>some (.box l)|.uU v A=>(t7 g v).map (.uU · A)|.cell v=>match v with
  |none=>some (.cell none)|some v=>(t7 g v).map λv=>.cell (some v)
section
variable{α β:Type}
theorem map_some{o:Option α}{f:α->β}{b:β}{G:Prop}(h:o.map f=some b)(c:∀a,o=some a->f a=b->G):G:=by
 induction o with
 |none=>exact bq h|some a=>exact c a rfl (aap h)
inductive t9(R:α->β->Prop):Option α->Option β->Prop
 |no:t9 R none none|yes (a:α) (b:β) (r:R a b):t9 R (some a) (some b)
theorem t9.fwd{R:α->β->Prop}{a:α}{x:Option α}{y:Option β}(h:t9 R x y)(e:x=some a):∃b,y=some b/\R a b:=by
 induction h with
 |no=>cases e
 |yes a b r=>cases e;exact ⟨b,rfl,r⟩
theorem t9.back{R:α->β->Prop}{b:β}{x:Option α}{y:Option β}(h:t9 R x y)(e:y=some b):∃a,x=some a/\R a b:=by
 induction h with
 |no=>cases e
 |yes a b r=>cases e;exact ⟨a,rfl,r⟩
theorem lC{f:Nat->α->Option β}{l:List α}:∀{i:Nat}{l':List β},oK f i l=some l'->∀j,t9 (λa b=>f (i+j) a=some b) (af l j) (af l' j):=by
 induction l with
 |nil=>intro i l' h j;rw [← aap h];exact .no|cons a l ih=>
  exact λh j=>bind_some h λb e h=>map_some h λr e2 h=>by
   rw [← h];induction j with
   |zero=>exact .yes a b e|succ j=>have:=ih e2 j;rw [aez,aeh 1 j] at this;exact this
theorem lD{f:Nat->α->Option β}{l:List α}:∀{i:Nat}{l':List β},oK f i l=some l'->len l'=len l:=by
 induction l with
 |nil=>intro i l' h;rw [← aap h];rfl|cons a l ih=>exact λh=>bind_some h λb e h=>map_some h λr e2 h=>by rw [← h];exact congrArg (· + 1) (ih e2)
theorem Qt{f:Nat->α->Option α}(hf:∀i a,f i a=some a):∀(l:List α)(i:Nat),oK f i l=some l:=by
 intro l;induction l with
 |nil=>exact λi=>rfl|cons a l ih=>intro i;dsimp only [oK];rw [hf,ih];rfl
end
structure IS(g:Nat->Option Nat)(W W':Wd):Prop where
 aU:∀a o,W.aU a=some o->W'.aU a=some o
 ρ:∀n m a,g n=some m->af W.ρ n=some a->af W'.ρ m=some a
section
variable{g:Nat->Option Nat}{W W':Wd}
theorem LI(k:IS g W W'){l:ja}:∀{l':ja}{c:List (Str×Addr)},LH g l=some l'->eZ W.ρ l c->eZ W'.ρ l' c:=by
 induction l with
 |nil=>intro l' c h r;rw [← aap h];exact r|cons p l ih=>exact λh r=>bind_some h λm e h=>map_some h λl' e2 h=>by rw [← h];exact r.elim λa r=>r.elim λc' r=>⟨a,c',r.1,k.ρ _ _ _ e r.2.1,ih e2 r.2.2⟩
mutual
theorem fP(k:IS g W W')(v:MV){v':MV}{x:Value}(q:t7 g v=some v')(h:ao W v x):ao W' v' x:=match v with
 |.c v=>aap q▸bw.mono k.aU v x h|.ref n=>map_some q λm e q=>q▸(by induction h with|mk a h=>exact ⟨a,k.ρ _ _ _ e h⟩)
 |.tup l=>map_some q λl' e q=>q▸fY.mono k.aU (λ_=>lE k l e) h|.clo f cl=>map_some q λc' e q=>q▸(by induction h with|mk a o fd h r c=>exact ⟨a,o,fd,k.aU _ _ h,r.mono k.aU,LI k e c⟩)
theorem lE(k:IS g W W')(l:aY){l':aY}{x:bU}(q:oJ g l=some l')(h:ah W l x):ah W' l' x:=match l with
 | []=>aap q▸h|v::l=>bind_some q λv' e q=>map_some q λl' e2 q=>q▸h.elim λy h=>h.elim λr h=>⟨y,r,h.1,fP k v e h.2.1,lE k l e2 h.2.2⟩
end
theorem wA{fs:Lo}(x:Str):∀{i:Nat}{fs':Lo},oK (λ_ p=>(t7 g p.2).map λv=>(p.1,v)) i fs=some fs'->t9 (λv v'=>t7 g v=some v') (look x fs) (look x fs'):=by
 induction fs with
 |nil=>intro i fs' h;rw [← aap h];exact .no|cons p fs ih=>
  exact λh=>bind_some h λq e h=>map_some h λr e2 h=>map_some e λv e3 e=>by
   rw [← h,← e];show t9 _ (look x ((p.1,p.2)::fs)) _;rw [aC,aC];by_cases z:p.1=x
   ·rw [if_pos z,if_pos z];exact .yes _ _ e3
   ·rw [if_neg z,if_neg z];exact ih e2
theorem nQ.qQ(k:IS g W W'){a b:Option MV}{y:cK}(q:t9 (λv v'=>t7 g v=some v') a b)(h:nQ W a y):nQ W' b y:=by
 induction q with
 |no=>exact h|yes v v' e=>exact h.elim λz h=>⟨z,h.1,fP k v e h.2⟩
theorem LJ(k:IS g W W'){fs fs':Lo}{G:Str->cK}(q:t8 g fs=some fs')(h:gK W fs G):gK W' fs' G:=λx=>(h x).qQ k (wA x q)
theorem mz.qQ(k:IS g W W'){fs fs':Lo}{G:Str->cK}(q:t8 g fs=some fs')(h:mz W fs G):mz W' fs' G:=λx v e=>((wA x q).back e).elim λu z=>(h x u z.1).elim λy w=>⟨y,w.1,fP k u z.2 w.2⟩
theorem AD{a:aY}:∀{a' acc acc':aY},oJ g a=some a'->oJ g acc=some acc'->oJ g (rev a acc)=some (rev a' acc'):=by
 induction a with
 |nil=>intro a' acc acc' h h';rw [← aap h];exact h'|cons v a ih=>
  exact λh h'=>bind_some h λv' e h=>map_some h λl e2 h=>by
   rw [← h];refine ih (acc:=v::_) (acc':=v'::_) e2 ?_;dsimp only [oJ];rw [e,h'];rfl
theorem AE(k:IS g W W')(l:az):∀{x:bU},ah W (bT l) x->ah W' (bT l) x:=by
 induction l with
 |nil=>exact λh=>h|cons c l ih=>exact λh=>h.elim λu h=>h.elim λr h=>⟨u,r,h.1,bw.mono k.aU c u h.2.1,ih h.2.2⟩
theorem EP(k:IS g W W'){pre:az}{back back':aY}{x:bU}(q:oJ g back=some back')(h:ah W (cat (bT pre) (rev back [])) x):ah W' (cat (bT pre) (rev back' [])) x:=
 h.split.elim λy h=>h.elim λz h=>by rw [h.1];exact ah.cat (AE k pre h.2.1) (lE k _ (AD q rfl) h.2.2)
structure lF(g:Nat->Option Nat)(W W':Wd)(i i':Nat)(h h':Heap):Prop extends IS g W W' where
 ow:∀b ob,W.own b=some (.slot i)->h.get? b=some ob->W'.own b=some (.slot i')
 kh:∀b ob,W.own b=some (.slot i)->h.get? b=some ob->h'.get? b=some ob
variable{i i':Nat}{h h':Heap}{a:Addr}
theorem d8.qQ(k:lF g W W' i i' h h'){fs fs':Lo}(q:t8 g fs=some fs')(c:d8 W i fs a h):d8 W' i' fs' a h':=
 c.casesOn λo G ow e say r=>⟨o,G,k.ow _ _ ow e,k.3 _ _ ow e,(lD q).symm▸say,LJ k.toIS q r⟩
theorem Zd.qQ(k:lF g W W' i i' h h'){vs:ig}{t:Bool}(c:Zd W i a h vs t):Zd W' i' a h' vs t:=by
 induction c with
 |no e=>exact .no e|yes t T o ts e ow ne g d sz=>exact .yes t T o ts e (k.ow _ _ ow g) ne (k.3 _ _ ow g) d sz
theorem xx.qQ(k:lF g W W' i i' h h'){vs:ig}{fs fs':Lo}{d:Option Addr}(q:t8 g fs=some fs')(c:xx W i a h vs fs d):xx W' i' a h' vs fs' d:=by
 induction c with
 |no=>rw [← aap q];exact .no|yes fs d ne nt c=>exact .yes _ d ne nt (c.qQ k q)
theorem AG(fs:List (Str×CV)):t8 g (gX fs)=some (gX fs):=by
 rw [Ef];unfold t8;generalize 0=i;induction fs generalizing i with
 |nil=>rfl|cons p fs ih=>exact congrArg (Option.map ((p.1,MV.c p.2) :: ·)) (ih (i+1))
theorem u0.qQ(k:lF g W W' i i' h h'){o:SC}(c:u0 W i a h o):u0 W' i' a h' o:=by
 induction o with
 |nil=>trivial|inst C fs=>exact nR.casesOn c λd ow ne g c=>⟨d,k.ow _ _ ow g,ne,k.3 _ _ ow g,c.qQ k (AG fs)⟩|dict fs=>exact d8.qQ k (AG fs) c|list l=>exact gY.casesOn c λxs n ow g r sz=>⟨xs,n,k.ow _ _ ow g,k.3 _ _ ow g,AE k.toIS l r,sz⟩
theorem sL.qQ(k:lF g W W' i i' h h'){l:List (Addr×SC)}(c:sL W i a h l):sL W' i' a h' l:=by
 induction c with|mk own e top c=>
 exact ⟨pP h own,λb j q=>(rB q).2.elim λo g=>k.ow b o (e b j (rB q).1) g,top,λj p q=>u0.move (W:=⟨W.aU,own,[]⟩) (W':=⟨W'.aU,pP h own,[]⟩) ⟨⟨k.aU,λ_ _ e=>e⟩,λb o w g=>by show (h.get? b).bind _=_;rw [g];exact w,λb o w g=>k.3 b o (e b j w) g⟩ (c j p q)⟩
theorem br.qQ(k:lF g W W' i i' h h'){o o':MO}(q:AB g o=some o')(c:br W i a h o):br W' i' a h' o':=by
 induction o with
 |gone=>rw [← aap q];trivial|list pre back=>exact map_some q λb e q=>q▸gY.casesOn c λxs n ow g r sz=>⟨xs,n,k.ow _ _ ow g,k.3 _ _ ow g,EP k.toIS e r,sz⟩|box l=>exact aap q▸sL.qQ k c|uU v A=>exact map_some q λv' e q=>q▸fP k.toIS v e c|vB n=>exact aap q▸Gs.casesOn c λxs n ow g e sz=>⟨xs,n,k.ow _ _ ow g,k.3 _ _ ow g,e,sz⟩|dict fs=>exact map_some q λb e q=>q▸d8.qQ k e c|known v ks=>exact aap q▸uZ.casesOn c λo es ep ow e x d q sz dom val=>⟨o,es,ep,k.ow _ _ ow e,k.3 _ _ ow e,x,d,q,sz,dom,λy z e=>(val y z e).mono k.aU⟩|inst C fs=>exact map_some q λb e q=>q▸nR.casesOn c λd ow ne g c=>⟨d,k.ow _ _ ow g,ne,k.3 _ _ ow g,c.qQ k e⟩|exc C fs t b=>exact map_some q λfs' e q=>q▸zE.casesOn c λo vs ow g cls d sz tb cx di=>⟨o,vs,k.ow _ _ ow g,k.3 _ _ ow g,cls,d,sz,tb.qQ k,cx,di.qQ k e⟩|cell v=>induction v with
  |none=>rw [← aap q];cases c with|no o ow g d=>exact .no o (k.ow _ _ ow g) (k.3 _ _ ow g) d
  |some v=>exact map_some q λv' e q=>q▸(by cases c with|yes v x o ow g d r=>exact .yes v' x o (k.ow _ _ ow g) (k.3 _ _ ow g) d (fP k.toIS v e r))
end
mutual
theorem rG(v:MV):t7 some v=some v:=match v with
 |.c v=>rfl|.ref n=>rfl|.tup l=>congrArg (Option.map MV.tup) (x6 l)|.clo f cl=>congrArg (Option.map (MV.clo f)) (ER cl)
theorem x6(l:aY):oJ some l=some l:=match l with
 | []=>rfl|v::l=>by dsimp only [oJ];rw [rG v,x6 l];rfl
theorem ER(l:ja):LH some l=some l:=match l with
 | []=>rfl|p::l=>by dsimp only [LH];rw [ER l];rfl
end
theorem x7(l:Lo):t8 some l=some l:=Qt (λi p=>by rw [rG];rfl) l 0
theorem Qu(o:MO):AB some o=some o:=by
 induction o with
 |inst C fs=>exact congrArg (Option.map _) (x7 fs)|exc C fs t b=>exact congrArg (Option.map _) (x7 fs)|list pre back=>exact congrArg (Option.map _) (x6 back)|dict es=>exact congrArg (Option.map _) (x7 es)|cell v=>induction v with
  |none=>rfl|some v=>exact congrArg (Option.map _) (rG v)
 |uU v A=>exact congrArg (Option.map _) (rG v)|_=>rfl
noncomputable def bA:cI->Nat->Option Nat
 | [],_=>none|k::ks,n=>match Nat.beq k n with
  |true=>some 0|false=>(bA ks n).map (· + 1)
noncomputable def iu:cI->Bool
 | []=>true|k::ks=>!(bf (bA ks k))&&iu ks
noncomputable def fQ{α:Type}:Nat->List α->List α
 |0,l=>l|n+1,l=>match l with
  | []=>[]|_::l=>fQ n l
noncomputable def ua{α:Type}:Nat->List α->List α
 |0,_=>[]|n+1,l=>match l with
  | []=>[]|x::l=>x::ua n l
noncomputable def AH:MO->Option (az×aY)
 |.list pre back=>some (pre,back)|_=>none
def aa0(g:Nat->Option Nat)(j:Nat)(X:az)(o:MO):Option MO:=(AH o).bind λp=>(oJ g (ua j p.2)).map (.list X)
def Qv(g:Nat->Option Nat)(ops:mV)(X:Nat->az)(k:Nat)(o:MO):Option MO:=match aD k ops with
 |some j=>aa0 g j (X k) o|none=>AB g o
def kE(g:Nat->Option Nat)(ops:mV)(X:Nat->az)(σ:aq)(ks:cI):Option aq:=oK (λ_ k=>(af σ k).bind (Qv g ops X k)) 0 ks
def VM(ρ:bR)(ks:cI):bR:=ks.map λk=>(af ρ k).getD 0
theorem take_drop{α:Type}(n:Nat):∀l:List α,cat (ua n l) (fQ n l)=l:=by
 induction n with
 |zero=>exact λ_=>rfl|succ n ih=>intro l;induction l with|nil=>rfl|cons x l=>exact congrArg (x :: ·) (ih l)
theorem rH{ks:cI}{n:Nat}:∀{j:Nat},bA ks n=some j->af ks j=some n:=by
 induction ks with
 |nil=>exact bq|cons k ks ih=>
  dsimp only [bA];induction q:Nat.beq k n with
  |true=>intro j h;rw [← aap h,← aax q];rfl|false=>exact λh=>map_some h λi e h=>h▸ih e
theorem ES{ks:cI}{n:Nat}:∀{j:Nat},iu ks=true->af ks j=some n->bA ks n=some j:=by
 induction ks with
 |nil=>exact λ_ h=>bq h|cons k ks ih=>
  intro j ho h;dsimp only [bA];induction j with
  |zero=>rw [show k=n from aap h,agf]|succ j=>
   have ih:=ih (bx ho).2 h;induction q:Nat.beq k n with
   |true=>
    have z:=(bx ho).1;rw [aax q,ih] at z;exact bM z
   |false=>rw [ih];rfl
theorem AI(ρ:bR)(ks:cI):len (VM ρ ks)=len ks:=by rw [bl,bl];exact aek _
theorem lG{ρ:bR}{ks:cI}{j n:Nat}{a:Addr}(h:af ks j=some n)(q:af ρ n=some a):af (VM ρ ks) j=some a:=by
 rw [bW] at h ⊢;show (ks.map _)[j]?=_;rw [ahM,h,Option.map_some,q];rfl
def x8(keep:Bool)(ks:cI)(o:fy)(r:aH):Option aH:=match r with
 |.slot i=>match bA ks i with
  |some j=>some (.slot j)|none=>match keep with
   |true=>o.map .kept|false=>none
 |.kL o=>some (.kL o)|.kept o=>some (.kept o)|.cur=>some .cur|.tab p=>some (.tab p)
def Wd.sel(W:Wd)(keep:Bool)(h:Heap)(ks:cI):Wd:=⟨W.aU,λb=>(W.own b).bind (x8 keep ks (h.get? b)),VM W.ρ ks⟩
inductive AJ(keep:Bool)(ks:cI)(g:fy):aH->aH->Prop
 |slot (i j:Nat) (e:bA ks i=some j):AJ keep ks g (.slot i) (.slot j)|hid (i:Nat) (o:Obj) (e:bA ks i=none) (k:keep=true) (h:g=some o):AJ keep ks g (.slot i) (.kept o)|kL (o:Obj):AJ keep ks g (.kL o) (.kL o)|kept (o:Obj):AJ keep ks g (.kept o) (.kept o)|cur:AJ keep ks g .cur .cur|tab (p:ig):AJ keep ks g (.tab p) (.tab p)
section
variable{W W':Wd}{keep:Bool}{h:Heap}{ks:cI}{b:Addr}{r:aH}{ops:mV}{X:Nat->az}{σ σ':aq}
theorem Qw{g:fy}{r r':aH}:x8 keep ks g r=some r'->AJ keep ks g r r':=by
 induction r with
 |slot i=>
  dsimp only [x8];induction q:bA ks i with
  |some j=>exact λh=>aap h▸ .slot i j q|none=>induction keep with
   |true=>exact λh=>map_some h λo e h=>h▸ .hid i o q rfl e|false=>exact bq
 |kL o=>exact λh=>aap h▸ .kL o|kept o=>exact λh=>aap h▸ .kept o|cur=>exact λh=>aap h▸ .cur|tab p=>exact λh=>aap h▸ .tab p
theorem oM(q:(W.sel keep h ks).own b=some r):∃r',W.own b=some r'/\AJ keep ks (h.get? b) r' r:=bind_some q λr' e q=>⟨r',e,Qw q⟩
theorem eu(q:W.own b=some r)(n:x8 keep ks (h.get? b) r=some r):(W.sel keep h ks).own b=some r:=(congrArg (Option.bind · (x8 _ ks (h.get? b))) q).trans n
theorem AK{i j:Nat}(q:W.own b=some (.slot i))(n:bA ks i=some j):(W.sel keep h ks).own b=some (.slot j):=(congrArg (Option.bind · (x8 _ ks (h.get? b))) q).trans (by show (match bA ks i with|some j=>_|none=>_)=_;rw [n])
theorem Qx{i:Nat}{o:Obj}(q:W.own b=some (.slot i))(n:bA ks i=none)(g:h.get? b=some o):(W.sel true h ks).own b=some (.kept o):=(congrArg (Option.bind · (x8 _ ks (h.get? b))) q).trans (by show (match bA ks i with|some j=>_|none=>(h.get? b).map aH.kept)=_;rw [n,g];rfl)
theorem gF:IS (bA ks) W (W.sel keep h ks):=⟨λ_ _ e=>e,λn m a q z=>lG (rH q) z⟩
theorem oN(hs:kE (bA ks) ops X σ ks=some σ')(j:Nat):t9 (λk o'=>∃o,af σ k=some o/\Qv (bA ks) ops X k o=some o') (af ks j) (af σ' j):=by
 have:=lC hs j;revert this;generalize af ks j=a;generalize af σ' j=b;intro h;induction h with
 |no=>exact .no|yes k o' e=>exact .yes k o' (bind_some e λo e1 e2=>⟨o,e1,e2⟩)
abbrev aa1(W:Wd)(l:aY)(X:az):Prop:=P2 (aT.len X=aT.len l) (∀(W':Wd)(ys:bU),W.Gw W'->bO W'.aU X ys->ah W' l ys)
noncomputable def Qy(y:cK)(v:MV):CV:=match v with
 |.c v=>v|_=>match y with
  |some (.ref a)=>.aA a|_=>.none
abbrev Far(W:Wd)(v:MV)(x:Value)(c:CV):Prop:=P2 (bw W.aU c x) (∀(W':Wd) y,W.Gw W'->bw W'.aU c y->ao W' v y)
theorem rI{v:MV}{x:Value}:∀h:ao W v x,Far W v x (Qy (some x) v):=by
 have aA:∀{a:Addr}{v:MV},ao W v (.ref a)->Far W v (.ref a) (.aA a):=λ{a v} h=>⟨rfl,λW' y k z=>by rw [show y =.ref a from z];exact ao.up' k v _ h⟩
 refine MV.el v (λc h=>⟨h,λ_ _ _ z=>z⟩) (λn h=>?_) (λl h=>?_) λf l h=>?_
 ·induction h with|mk a e=>exact aA (v:=.ref n) (.mk a e)
 ·induction h with|mk a xs e r=>exact aA (v:=.tup l) (.mk a xs e r)
 ·induction h with|mk a o fd e r c=>exact aA (v:=.clo f l) (.mk a o fd e r c)
theorem Qz{l:aY}:∀{aj:bU},ah W l aj->∃X,bO W.aU X aj/\aa1 W l X:=by
 induction l with
 |nil=>exact λh=>⟨[],h,rfl,λ_ _ _ z=>z⟩|cons v l ih=>
  exact λh=>h.elim λx h=>h.elim λxs h=>(ih h.2.2).elim λX w=>
   ⟨Qy (some x) v::X,⟨x,xs,h.1,(rI h.2.1).1,w.1⟩,congrArg (· + 1) w.2.1,λW' ys k q=>q.elim λy q=>q.elim λr q=>⟨y,r,q.1,(rI h.2.1).2 W' y k q.2.1,w.2.2 W' r k q.2.2⟩⟩
inductive aeY(W:Wd)(h:Heap)(j k:Nat)(X:az)(pre:az)(back:aY):Prop where
 |mk (l:aa1 W (cat (bT pre) (rev (fQ j back) [])) X) (rel:∀a xs n,af W.ρ k=some a->h.get? a=some (aX xs n)->∃ys zs,xs.toList=ys++zs/\bO W.aU X ys/\ah W (rev (ua j back) []) zs)
def uc(W:Wd)(σ:aq)(h:Heap)(j k:Nat)(X:az):Prop:=∀pre back,af σ k=some (.list pre back)->aeY W h j k X pre back
theorem CM(I:Inv W σ h)(f:Nat->Nat):∃X:Nat->az,∀k,uc W σ h (f k) k (X k):=by
 refine Classical.skolem.mp λk=>?_;induction q:af σ k with
 |none=>exact ⟨[],λ_ _ e=>bq (q.symm.trans e)⟩|some o=>cases o with
  |list pre back=>
   obtain ⟨a,ha⟩:=sU I.6 q;refine gY.casesOn (I.7 k _ a q ha) λxs n ow g r sz=>?_;have r2:ah W (cat (cat (bT pre) (rev (fQ (f k) back) [])) (rev (ua (f k) back) [])) xs:=by rw [aP,← iL,take_drop];exact r
   refine bB λgg=>?_;obtain ⟨ys,zs,e0,r3,r4⟩:=r2.split;refine gg ?_;refine (Qz r3).elim λX w=>⟨X,λpre' back' e=>?_⟩;have e:=q.symm.trans e;cases e;exact ⟨w.2,λa' xs' n' ha' g'=>⟨ys,zs,by cases ha.symm.trans ha';cases g.symm.trans g';exact e0,w.1,r4⟩⟩
  |_=>exact ⟨[],λ_ _ e=>nomatch aap (q.symm.trans e)⟩
theorem rJ{o:MO}{p:az×aY}:AH o=some p->o =.list p.1 p.2:=by
 induction o with
 |list pre back=>exact λh=>by rw [← aap h]|_=>exact bq
theorem gQ{α β:Type}{l:List α}{l':List β}(e:len l=len l'){i:Nat}{x:α}(h:af l i=some x){G:Prop}(c:∀y,af l' i=some y->G):G:=(sU e h).elim c
theorem LL{i j m:Nat}{a:Addr}{o o':MO}{Y:az}(hk:bA ks i=some j)(hX:uc W σ h m i Y)(hi:af σ i=some o)(ha:af W.ρ i=some a)(q:aa0 (bA ks) m Y o=some o')(c:br W i a h o):br (W.sel keep h ks) j a h o':=
 bind_some q λp e q=>map_some q λl e2 e3=>by
  cases rJ e;refine gY.casesOn c λxs n ow g r sz=>?_;refine bB λgg=>?_;obtain ⟨ys,zs,w1,w2,w3⟩:=(hX _ _ hi).2 a _ n ha g;refine gg ?_;refine e3▸ .mk xs n (AK ow hk) g ?_ sz;rw [show xs=ys++zs from w1]
  exact ah.cat (bO.vs w2) (lE gF _ (AD e2 rfl) w3)
theorem LM{i j:Nat}{a:Addr}{o o':MO}(hk:bA ks i=some j)(hX:∀j,aD i ops=some j->uc W σ h j i (X i))(hi:af σ i=some o)(ha:af W.ρ i=some a)(c:br W i a h o):Qv (bA ks) ops X i o=some o'->br (W.sel keep h ks) j a h o':=by
 unfold Qv;induction z:aD i ops with
 |none=>exact λq=>c.qQ ⟨gF,λb ob q _=>AK q hk,λ_ _ _ g=>g⟩ q|some m=>exact λq=>LL hk (hX m z) hi ha q c
theorem Inv.sel(I:Inv W σ h)(on:iu ks=true)(hs:kE (bA ks) ops X σ ks=some σ')(hX:∀k j,aD k ops=some j->uc W σ h j k (X k)):Inv (W.sel keep h ks) σ' h:=by
 refine ⟨I.1,λa ob q=>?_,λa ob q=>?_,λa r q=>?_,λa q=>?_,?_,λj o' a e1 e2=>?_,⟨λa ob Q q t=>(I.8.1 a ob Q q t).imp λp z=>eu z rfl,λQ p q=>?_⟩,λa q=>?_⟩
 ·obtain ⟨r',e,z⟩:=oM q
  cases z with
  |kept=>exact I.2 a ob e|hid i o e k h=>exact h
 ·obtain ⟨r',e,z⟩:=oM q
  cases z with|kL=>exact I.3 a ob e
 ·exact (oM q).elim λr' z=>I.4 a r' z.1
 ·exact congrArg (·.bind (x8 keep ks (h.get? a))) (I.5 a q)
 ·exact (lD hs).trans (AI ..).symm
 ·refine ((oN hs j).back e1).elim λi z=>z.2.elim λo w=>gQ I.6 w.1 λa' ha=>?_
  have ea:a'=a:=aap ((lG z.1 ha).symm.trans e2);subst ea;exact LM (ES on z.1) (hX i) w.1 ha (I.7 i o a' w.1 ha) w.2
 ·obtain ⟨r',e,z⟩:=oM q
  cases z with|tab=>exact I.8.2 Q p e
 ·obtain ⟨r',e,z⟩:=oM q
  cases z with|cur=>exact I.9 a e
theorem xy.sel{e e':En}{env:Env}{A:Around}(x:xy W e env A)(hd:dH (W.sel keep h ks) e'.hd A.handled)(dp:e'.dp=e.dp):xy (W.sel keep h ks) e' env A:=
 ⟨hd,dp▸x.2,dp▸x.3,x.4.elim λo z=>⟨o,z.1,λy hy=>(z.2 y hy).casesOn λk L ob f ow nf=>⟨k,L,ob,f,eu ow rfl,nf⟩⟩,x.5⟩
end
noncomputable def hdV:Hd->Hd
 |.no=>.no|.at _=>.other|.other=>.other
section
variable{cx dN:Cx Prop}{F:Fr cx}{S S2:Pt}{W W2 W':Wd}{ks:cI}{ops:mV}{X:Nat->az}{σ σ2 zc σ3:aq}
def VN(g:Str->cK)(m:Lo):Lo:=m.map λp=>(p.1,.c (Qy (g p.1) p.2))
theorem pY(g:Str->cK)(x:Str)(m:Lo):look x (VN g m)=(look x m).map λv=>.c (Qy (g x) v):=by
 induction m with
 |nil=>rfl|cons p m ih=>
  show look x ((p.1,_)::VN g m)=(look x ((p.1,p.2)::m)).map _;rw [aC,aC,ih];by_cases e:p.1=x
  ·rw [if_pos e,if_pos e,e];rfl
  ·rw [if_neg e,if_neg e]
abbrev VO(e:En):Prop:=P3 (e.cells=[]) (∀x v,look x e.m=some v->∃u,v =.c u) (∀n,e.hd≠ .at n)
def Fr.see(F:Fr cx)(dN:Cx Prop)(m:Lo):Fr dN:=⟨⟨F.e.sc,[],m,hdV F.e.hd,F.e.dp⟩,F.env,F.A⟩
def QA(W:Wd)(m m':Lo):Prop:=∀(W' W2:Wd)(g:Str->cK),W.Gw W'->W'.aU=W2.aU->mz W2 m' g->mz W' m g
def Pt.sel(S:Pt)(ks:cI)(σ:aq):Pt:=⟨S.W.sel true S.s.heap ks,σ,S.s⟩
abbrev View(F:Fr cx)(S:Pt)(dN:Cx Prop)(ks:cI)(zc:aq)(m':Lo):Prop:=P3 (Ok (F.see dN m') (S.sel ks zc)) (VO (F.see dN m').e) (QA S.W F.e.m m')
theorem iK.at{G:Addr->fy}(ht:dN.top=cx.top)(t:iK cx G):iK dN G:=⟨t.1,t.2,ht▸t.3,t.4,ht▸t.5,ht▸t.6,ht▸t.7,ht▸t.8⟩
theorem VP(h:Hd)(n:Nat):hdV h≠ .at n:=by cases h<;>exact nofun
theorem dH.aeZ{h:Hd}{v:cK}(x:dH W h v):dH W' (hdV h) v:=by
 induction x with
 |no=>exact .no|«at» n a e=>exact .other a|other a=>exact .other a
theorem Ok.view(o:Ok F S)(ht:dN.top=cx.top)(on:iu ks=true)(hs:kE (bA ks) ops X S.σ ks=some zc)(hX:∀k j,aD k ops=some j->uc S.W S.σ S.s.heap j k (X k)):∃m',View F S dN ks zc m':=
 o.2.4.elim λg ns=>⟨VN g F.e.m,⟨o.1.sel on hs hX,⟨o.2.1,o.2.2,eu o.2.3 rfl,⟨g,ns.1,λx v q=>map_some ((pY ..).symm.trans q) λu e q=>(ns.2 x u e).elim λy z=>⟨y,z.1,by rw [← q,z.1];exact (rI z.2).1⟩⟩,
   λx n q=>bq q,o.2.6,o.2.7,o.2.8,o.2.9⟩,o.3.at ht,o.4.sel o.4.1.aeZ rfl⟩,
  ⟨rfl,λx v q=>map_some ((pY ..).symm.trans q) λu e q=>⟨_,q.symm⟩,λn=>VP _ n⟩,
  λW' W2 g' k e h x v q=>(ns.2 x v q).elim λy z=>(h x _ ((pY ..).trans (congrArg _ q))).elim λy' w=>⟨y',w.1,(rI z.2).2 W' y' k (by have:=w.2;rw [z.1] at this;rw [e];exact this)⟩⟩
def gB(ks:cI)(c n:Nat):Nat:=match af ks n with
 |some k=>k|none=>c+(n-len ks)
def qR(ks:cI)(c:Nat)(n:Nat):Option Nat:=some (gB ks c n)
def aa2(ks:cI)(c n:Nat)(o o2:MO):Option MO:=(AH o).bind λp=>(AH o2).bind λq=>(oJ (qR ks c) q.2).map λb=>.list p.1 (cat b (fQ n p.2))
def LN(ks:cI)(ops:mV)(c:Nat)(σ2:aq)(i:Nat)(o:MO):Option MO:=match bA ks i with
 |none=>some o|some j=>(af σ2 j).bind λo2=>match aD i ops with
  |some n=>aa2 ks c n o o2|none=>AB (qR ks c) o2
def mrg(ks:cI)(ops:mV)(σ σ2:aq):Option aq:=(oK (LN ks ops (len σ) σ2) 0 σ).bind λa=>(oK (λ_=>AB (qR ks (len σ))) 0 (fQ (len ks) σ2)).map (cat a)
def aa4(X:az)(o:Option MO):Prop:=match o with
 |some o=>match o with
  |.list X' _=>X'=X|_=>False
 |none=>False
noncomputable def wC(ks:cI)(X:Nat->az)(σ2:aq):mV->Prop
 | []=>True|p::r=>aa4 (X p.1) ((bA ks p.1).bind (af σ2))/\wC ks X σ2 r
theorem HJ{k j n:Nat}{X':az}{b:aY}(hi:bA ks k=some j)(hn:af σ2 j=some (.list X' b)){ops:mV}:wC ks X σ2 ops->aD k ops=some n->X'=X k:=by
 induction ops with
 |nil=>exact λ_=>bq|cons p ops ih=>
  intro h;show (match Nat.beq p.1 k with|true=>some p.2|false=>aD k ops)=_->_
  induction z:Nat.beq p.1 k with
  |true=>
   have h1:=h.1;rw [aax z,hi] at h1;rw [show (some j).bind (af σ2)=_ from hn] at h1
   exact λ_=>h1
  |false=>exact ih h.2
section
variable{α:Type}
theorem gp{b:List α}{x:α}{a:List α}{i:Nat}(h:af a i=some x):af (cat a b) i=some x:=by
 have:=cQ h;rw [bl] at this;rw [bW] at h;rw [bW,gZ,afT this];exact h
theorem dJ{a b:List α}{j:Nat}:af (cat a b) (len a+j)=af b j:=by rw [bW,bW,gZ,bl,List.getElem?_append_right (abW _ _),ahV]
theorem QB{a b:List α}{i:Nat}{x:α}(h:af (cat a b) i=some x):af a i=some x∨∃j,i=len a+j/\af b j=some x:=by
 induction Nat.lt_or_ge i (len a) with
 |inl z=>rw [bW,gZ,afT (bl a▸z)] at h;exact .inl ((bW ..).trans h)|inr z=>exact .inr ⟨i-len a,(age z).symm,by rw [← age z,dJ] at h;exact h⟩
theorem AL(n:Nat):∀l:List α,fQ n l=l.drop n:=by
 induction n with
 |zero=>exact λ_=>rfl|succ n ih=>intro l;induction l with|nil=>rfl|cons x l=>exact ih l
theorem l7{n:Nat}{l:List α}{j:Nat}:af (fQ n l) j=af l (n+j):=by rw [bW,bW,AL,aiC]
theorem wD{n:Nat}{l:List α}:len (fQ n l)=len l-n:=by rw [bl,bl,AL,aic]
theorem AM{l:List α}{i:Nat}(h:len l<=i):af l i=none:=by rw [bW];exact aed.mpr (bl l▸h)
theorem ud{l:List α}{i:Nat}(h:af l i=none):len l<=i:=by rw [bW] at h;rw [bl];exact aed.mp h
end
noncomputable def ae0(w:Option aH)(r:aH):aH:=match w with
 |some (.slot i)=>.slot i|_=>r
def unR(ks:cI)(c:Nat)(w:Option aH)(r:aH):aH:=match r with
 |.slot j=>.slot (gB ks c j)|.kept o=>ae0 w (.kept o)|.kL o=>.kL o|.cur=>.cur|.tab p=>.tab p
def Wd.gR(W W2:Wd)(ks:cI)(c:Nat):Wd:=⟨W2.aU,λb=>(W2.own b).map (unR ks c (W.own b)),cat W.ρ (fQ (len ks) W2.ρ)⟩
inductive SS(ks:cI)(c:Nat)(w:Option aH):aH->aH->Prop
 |slot (j:Nat):SS ks c w (.slot j) (.slot (gB ks c j))|hid (i:Nat) (o:Obj) (h:w=some (.slot i)):SS ks c w (.kept o) (.slot i)|kept (o:Obj):SS ks c w (.kept o) (.kept o)|kL (o:Obj):SS ks c w (.kL o) (.kL o)|cur:SS ks c w .cur .cur|tab (p:ig):SS ks c w (.tab p) (.tab p)
theorem VQ{c:Nat}{w:Option aH}{r:aH}:SS ks c w r (unR ks c w r):=by
 induction r with
 |slot j=>exact .slot j|kept o=>induction w with
  |none=>exact .kept o|some r=>induction r with
   |slot i=>exact .hid i o rfl|_=>exact .kept o
 |kL o=>exact .kL o|cur=>exact .cur|tab p=>exact .tab p
variable{c:Nat}{b:Addr}{r:aH}
theorem ue(q:(W.gR W2 ks c).own b=some r):∃r',W2.own b=some r'/\SS ks c (W.own b) r' r:=map_some q λr' e q=>⟨r',e,q▸VQ⟩
theorem jS{r':aH}(q:W2.own b=some r)(n:unR ks c (W.own b) r=r'):(W.gR W2 ks c).own b=some r':=(congrArg (Option.map (unR ks c (W.own b))) q).trans (congrArg some n)
inductive Vis(W W2:Wd)(σ:aq)(j k:Nat):Prop|mk (ob:MO) (a:Addr) (h:af σ k=some ob) (ha:af W.ρ k=some a) (h2:af W2.ρ j=some a)
theorem vis{h:Heap}(I:Inv W σ h)(hs:kE (bA ks) ops X σ ks=some zc)(le:(W.sel true h ks).Le W2){j k:Nat}(q:af ks j=some k):Vis W W2 σ j k:=
 ((oN hs j).fwd q).elim λ_ z=>z.2.elim λob w=>gQ I.6 w.1 λa ha=>⟨ob,a,w.1,ha,le.6 j a (lG q ha)⟩
theorem x9{h:Heap}(I:Inv W σ h)(hs:kE (bA ks) ops X σ ks=some zc)(le:(W.sel true h ks).Le W2):IS (qR ks (len σ)) W2 (W.gR W2 ks (len σ)):=by
 refine ⟨λ_ _ e=>e,λn m a q z=>?_⟩;rw [← aap q];unfold gB;induction w:af ks n with
 |some k=>exact (vis I hs le w).casesOn λob a' _ ha hw=>by cases hw.symm.trans z;exact gp ha
 |none=>
  show af (cat W.ρ (fQ (len ks) W2.ρ)) (len σ+(n-len ks))=_;rw [I.6,dJ,l7,age (ud w)];exact z
theorem SW{h:Heap}(le:(W.sel true h ks).Le W2):W.Le (W.gR W2 ks c):=
 ⟨le.1,λa ob q=>jS (le.2 _ _ (eu q rfl)) (by rw [q];rfl),λa ob q=>jS (le.3 _ _ (eu q rfl)) rfl,λa q=>jS (le.4 _ (eu q rfl)) rfl,λa p q=>jS (le.5 _ _ (eu q rfl)) rfl,λi a q=>gp q⟩
theorem bO.aa6{l:az}:∀{x:bU},ah W (bT l) x->bO W.aU l x:=by
 induction l with
 |nil=>exact λh=>h|cons c l ih=>exact λh=>bB λgg=>h.elim λy h=>h.elim λr h=>gg <|⟨y,r,h.1,h.2.1,ih h.2.2⟩
theorem VS{h2:Heap}{i j m:Nat}{a:Addr}{o o2 o':MO}(k:lF (qR ks c) W2 (W.gR W2 ks c) j i h2 h2)(lo:W.Gw (W.gR W2 ks c)){h:Heap}(hX:uc W σ h m i (X i))(hi:af σ i=some o)(q:aa2 ks c m o o2=some o')(hq:∀X' b,o2 =.list X' b->X'=X i)(cl:br W2 j a h2 o2):br (W.gR W2 ks c) i a h2 o':=
 bind_some q λp e q=>bind_some q λp2 e2 q=>map_some q λl e3 e4=>by
  cases rJ e;cases rJ e2;refine gY.casesOn cl λxs n ow g r sz=>e4▸ .mk xs n (k.ow _ _ ow g) g ?_ sz;refine bB λgg=>?_;obtain ⟨ys,zs,w1,w2,w3⟩:=(EP k.toIS e3 r).split;refine gg ?_;rw [w1,iL,← aP];refine ah.cat ((hX _ _ hi).1.2 _ ys lo ?_) w3;rw [← hq _ _ rfl];exact bO.aa6 w2
def Pt.gR(S S2:Pt)(ks:cI)(σ:aq):Pt:=⟨S.W.gR S2.W ks (len S.σ),σ,S2.s⟩
theorem VT{h h2:Heap}(I:Inv W σ h)(I2:Inv W2 σ2 h2)(on:iu ks=true)(hs:kE (bA ks) ops X σ ks=some zc)(hX:∀k j,aD k ops=some j->uc W σ h j k (X k))(le:(W.sel true h ks).Le W2)(hq:wC ks X σ2 ops){i:Nat}{a:Addr}{o o':MO}(hi:af σ i=some o)(ha:af W.ρ i=some a) :
  LN ks ops (len σ) σ2 i o=some o'->br (W.gR W2 ks (len σ)) i a h2 o':=by
 have lo:=(SW (c:=len σ) le).low;unfold LN;induction z:bA ks i with
 |none=>
  intro q;rw [← aap q];have hid:∀b ob,W.own b=some (.slot i)->h.get? b=some ob->W2.own b=some (.kept ob):=λb ob w1 w2=>le.2 _ _ (Qx w1 z w2);exact (I.7 i o a hi ha).move ⟨lo,λb ob w1 w2=>jS (hid b ob w1 w2) (by rw [w1];rfl),λb ob w1 w2=>I2.2 _ _ (hid b ob w1 w2)⟩
 |some j=>
  exact λq=>bind_some q λo2 e q=>by
   have gj:gB ks (len σ) j=i:=by unfold gB;rw [rH z]
   have k:lF (qR ks (len σ)) W2 (W.gR W2 ks (len σ)) j i h2 h2:=⟨x9 I hs le,λb ob q _=>jS q (congrArg aH.slot gj),λ_ _ _ g=>g⟩;refine (vis I hs le (rH z)).casesOn λob0 a0 v1 v2 v3=>?_;cases ha.symm.trans v2;have cl:=I2.7 j o2 a e v3;revert q;induction z3:aD i ops with
   |none=>exact λq=>cl.qQ k q|some m=>exact λq=>VS k lo (hX i m z3) hi q (λX' b e2=>HJ z (e2▸e) hq z3) cl
inductive Mrg(ks:cI)(ops:mV)(σ σ2:aq):aq->Prop
 |mk (a b:aq) (h1:oK (LN ks ops (len σ) σ2) 0 σ=some a) (h2:oK (λ_=>AB (qR ks (len σ))) 0 (fQ (len ks) σ2)=some b):Mrg ks ops σ σ2 (cat a b)
theorem LO(h:mrg ks ops σ σ2=some σ3):Mrg ks ops σ σ2 σ3:=bind_some h λa e h=>map_some h λb e2 h=>h▸ .mk a b e e2
theorem LQ{ρ ρ':bR}(h:∀i a,af ρ i=some a->af ρ' i=some a):len ρ<=len ρ':=Nat.le_of_not_lt λz=>by
 induction q:af ρ (len ρ') with
 |none=>exact aec _ (aet z (ud q))|some a=>exact aec _ (cQ (h _ _ q))
theorem Inv.gR{h h2:Heap}(I:Inv W σ h)(I2:Inv W2 σ2 h2)(on:iu ks=true)(hs:kE (bA ks) ops X σ ks=some zc)(hX:∀k j,aD k ops=some j->uc W σ h j k (X k))(le:(W.sel true h ks).Le W2)(hm:Mrg ks ops σ σ2 σ3)(hq:wC ks X σ2 ops):Inv (W.gR W2 ks (aT.len σ)) σ3 h2:=by
 induction hm with|mk old new h1 h3=>
 have VU:aT.len old=aT.len σ:=lD h1;have lks:aT.len ks<=aT.len W2.ρ:=(AI W.ρ ks)▸LQ le.6;refine ⟨I2.1,λa ob q=>?_,λa ob q=>?_,λa r q=>?_,λa q=>?_,?_,λi o' a e1 e2=>?_,⟨λa ob Q q t=>(I2.8.1 a ob Q q t).imp λp z=>jS z rfl,λQ p q=>?_⟩,λa q=>?_⟩
 ·obtain ⟨r',e,z⟩:=ue q
  cases z with|kept=>exact I2.2 a ob e
 ·obtain ⟨r',e,z⟩:=ue q
  cases z with|kL=>exact I2.3 a ob e
 ·exact (ue q).elim λr' z=>I2.4 a r' z.1
 ·exact congrArg (Option.map (unR ks (aT.len σ) (W.own a))) (I2.5 a q)
 ·show aT.len (cat old new)=aT.len (cat W.ρ (fQ (aT.len ks) W2.ρ))
  rw [len_cat,len_cat,VU,lD h3,wD,wD,I.6,I2.6]
 ·induction QB e1 with
  |inl e1=>
   refine bB λgg=>?_;obtain ⟨o,n1,n2⟩:=(lC h1 i).back e1;refine gg ?_;rw [aeb] at n2;refine gQ I.6 n1 λa' ha=>?_;cases (gp ha).symm.trans e2;exact VT I I2 on hs hX le hq n1 ha n2
  |inr e1=>
   refine bB λgg=>?_;obtain ⟨j,rfl,e3⟩:=e1;obtain ⟨o,n1,n2⟩:=(lC h3 j).back e3;refine gg ?_;rw [l7] at n1;have ha:af W2.ρ (aT.len ks+j)=some a:=by rw [VU,I.6] at e2;rw [← l7,← dJ (a:=W.ρ)];exact e2
   have gj:gB ks (aT.len σ) (aT.len ks+j)=aT.len old+j:=by unfold gB;rw [AM (abW _ _),VU,ahV]
   exact (I2.7 _ o a n1 ha).qQ ⟨x9 I hs le,λb ob q _=>jS q (congrArg aH.slot gj),λ_ _ _ g=>g⟩ n2
 ·obtain ⟨r',e,z⟩:=ue q
  cases z with|tab=>exact I2.8.2 Q p e
 ·obtain ⟨r',e,z⟩:=ue q
  cases z with|cur=>exact I2.9 a e
theorem Ok.LR(o:Ok F S)(ht:dN.top=cx.top)(on:iu ks=true)(hs:kE (bA ks) ops X S.σ ks=some zc)(hX:∀k j,aD k ops=some j->uc S.W S.σ S.s.heap j k (X k)){m':Lo}(v:View F S dN ks zc m')(n:bH (F.see dN m') (S.sel ks zc) S2)
  (hm:mrg ks ops S.σ S2.σ=some σ3) (hq:wC ks X S2.σ ops):bH F S (S.gR S2 ks σ3):=
 have le:=SW (c:=len S.σ) n.1.1;have c:=o.2.9.mono le.1;⟨⟨le,n.1.2⟩,o.1.gR n.2.1 on hs hX n.1.1 (LO hm) hq,n.2.2.4.elim λg z=>⟨o.2.1,o.2.2,jS n.2.2.3 rfl,⟨g,z.1,v.3 _ S2.W g le.low rfl z.2⟩,o.2.5.up le.6,o.2.6,o.2.7,o.2.8,c⟩,n.2.3.at ht.symm,o.4.up le⟩
end
def VV(g:Nat->Option Nat):Ex MV->Option (Ex MV)
 |.ok v=>(t7 g v).map .ok|.error n=>(g n).map .error
def pK{α:Type}(o:Option α)(K:α->Prop):Prop:=match o with
 |some p=>K p|none=>False
theorem bZ{α:Type}{o:Option α}{K:α->Prop}(h:pK o K){G:Prop}(c:∀a,o=some a->K a->G):G:=by
 induction o with
 |none=>exact h.elim|some a=>exact c a rfl h
noncomputable def aa7(c n:Nat):cI:=match Nat.ble c n with
 |true=>[n]|false=>[]
def extra(c:Nat):Ex MV->cI
 |.ok v=>match refOf v with
  |some n=>aa7 c n|none=>[]
 |.error n=>aa7 c n
noncomputable def bh:Nat->Nat->cI
 |_,0=>[]|i,n+1=>i::bh (i+1) n
def gcR(ks:cI)(res:Ex MV)(σ:aq):Option (Ex MV×aq):=eF (iu ks) ((kE (bA ks) [] (λ_=>[]) σ ks).bind λσ3=>(VV (bA ks) res).map λr=>(r,σ3))
def gcK(c:Nat)(K:Ex MV->aq->Prop)(res:Ex MV)(σ:aq):Prop:=pK (gcR (cat (bh 0 c) (extra c res)) res σ) λp=>K p.1 p.2
def BE(S:Spec Prop):Spec Prop:=λhd dp as σ K=>S hd dp as σ (gcK (len σ) K)
noncomputable def CN(σ:aq)(X:Nat->az):mV->Prop
 | []=>True|p::r=>(match (af σ p.1).bind AH with|some l=>len (X p.1)=len l.1+len (fQ p.2 l.2)|none=>True)/\CN σ X r
noncomputable def LS{α:Type}:List (Nat×α)->Bool
 | []=>true|p::r=>!(bf (aD p.1 r))&&LS r
def ae2(ks:cI)(ops:mV)(X:Nat->az)(σ:aq)(K:Ex MV->aq->Prop)(res:Ex MV)(σ2:aq):Prop:=
 wC ks X σ2 ops/\pK ((mrg ks ops σ σ2).bind λσ3=>(VV (qR ks (len σ)) res).map λr=>(r,σ3)) λp=>K p.1 p.2
def ae3(ks:cI)(ops:mV)(C:aY->aq->(Ex MV->aq->Prop)->Prop)(as:aY)(σ:aq)(K:Ex MV->aq->Prop):Prop:=
 iu ks=true/\LS ops=true/\∀X,CN σ X ops->pK ((kE (bA ks) ops X σ ks).bind λzc=>(oJ (bA ks) as).map λas'=>(as',zc)) λq=>C q.1 q.2 (ae2 ks ops X σ K)
def cG(sel:aY->aq->Option (cI×mV))(C:Spec Prop):Spec Prop:=λhd dp as σ K=>pK (sel as σ) λp=>ae3 p.1 p.2 (C (hdV hd) dp) as σ K
section
variable{cx dN:Cx Prop}{F:Fr cx}{S S2:Pt}{W W2 W':Wd}{ks:cI}{ops:mV}{X:Nat->az}{σ σ2 zc σ3:aq}{a:Addr}{C C':Spec Prop}
def aV(cx:Cx Prop)(a:Addr)(C:Spec Prop):Prop:=∀(F:Fr cx) as aj S dp,F.e.dp=dp+1->Ok F S->ah S.W as aj->Calls F (.call (.ref a) ⟨aj,[]⟩) (C F.e.hd dp as) S
def aJ(cx:Cx Prop)(a:Addr)(C:Spec Prop):Prop:=∀(F:Fr cx) as aj S dp,VO F.e->F.e.dp=dp+1->Ok F S->ah S.W as aj->Calls F (.call (.ref a) ⟨aj,[]⟩) (C F.e.hd dp as) S
theorem iS{α:Type}{a:Nat}{x:α}{l:List (Nat×α)}:aD a l=some x->∃p∈l,p.1=a/\p.2=x:=by
 induction l with
 |nil=>exact bq|cons p l ih=>
  show (match Nat.beq p.1 a with|true=>some p.2|false=>aD a l)=_->_
  induction z:Nat.beq p.1 a with
  |true=>exact λh=>⟨p,.head _,aax z,aap h⟩|false=>exact λh=>(ih h).elim λq z=>⟨q,.tail _ z.1,z.2⟩
theorem fR(h1:∀p∈cx.spec,aV cx p.1 p.2)(h2:∀p∈cx.BG,j9 cx p.2)(h3:∀p∈cx.BH,jg cx p.2):eN cx:=
 ⟨λn L q=>(iS q).elim λp z=>z.2.1▸z.2.2▸h1 p z.1,
 λn L q=>(iS q).elim λp z=>z.2.2▸h3 p z.1,
 λn L q=>(iS q).elim λp z=>z.2.2▸h2 p z.1⟩
theorem fh(h1:cx.spec=[])(h2:cx.BG=[])(h3:cx.BH=[]):eN cx:=fR (by rw [h1];exact ff) (by rw [h2];exact ff) (by rw [h3];exact ff)
noncomputable def Fr.at(F:Fr cx)(dN:Cx Prop):Fr dN:=⟨F.e,F.env,F.A⟩
theorem Ok.at{F:Fr cx}(o:Ok F S)(h:dN.top=cx.top):Ok (F.at dN) S:=⟨o.1,o.2,o.3.at h,o.4⟩
theorem Ok.to{F:Fr cx}(o:Ok (F.at dN) S)(h:dN.top=cx.top):Ok F S:=⟨o.1,o.2,o.3.at h.symm,o.4⟩
def eO(cx:Cx Prop)(n:Nat)(f:Fn):Spec Prop:=λhd dp as=>zB cx (R cx n) hd dp f [] as []
theorem LU{f:Fn}{n:Nat}(HC:eN dN)(ht:dN.top=cx.top)(hf:aD a cx.top.fns=some f):aV cx a (eO dN n f):=λF as aj S dp fK o hv k R h ok er=>
 (o.3.7 a f hf).casesOn λob fd h1 r c=>xN (F:=F.at dN) (xZ HC n).exs (o.at ht) fK (cl:=[]) (o.1.1 _ _ h1) r (by rw [c];exact rfl) hv (ks:=[]) (kws:=[]) rfl k R h
  (λS' b v n q h=>ok S' b v ⟨n.1,n.2.to ht⟩ q h) λS' m b n e1 e2 h=>er S' m b ⟨n.1,n.2.to ht⟩ e1 e2 h
theorem dH.low'{h:Hd}{v:cK}(x:dH W h v)(hn:∀n,h≠ .at n):dH W' h v:=by
 induction x with
 |no=>exact .no|«at» n=>exact (hn n rfl).elim|other=>exact .other _
def Pt.gc(S:Pt)(ks:cI)(σ:aq):Pt:=⟨S.W.sel false S.s.heap ks,σ,S.s⟩
theorem Ok.gc(o:Ok F S)(sh:VO F.e)(on:iu ks=true)(hs:kE (bA ks) [] (λ_=>[]) S.σ ks=some σ3):Ok F (S.gc ks σ3):=
 ⟨o.1.sel on hs λk j h=>bq h,⟨o.2.1,o.2.2,eu o.2.3 rfl,o.2.4.elim λg z=>⟨g,z.1,λx v q=>bB λgg=>(sh.2 x v q).elim λu e=>(z.2 x v q).elim λy w=>gg <|⟨y,w.1,by have:=w.2;rw [e] at this ⊢;exact this⟩⟩,
   λx n q=>by rw [sh.1] at q;exact bq q,o.2.6,o.2.7,o.2.8,o.2.9⟩,o.3,o.4.sel (o.4.1.low' sh.3) rfl⟩
theorem ET(le:W.Le W2){h:Heap}(hk:∀j,j<len W.ρ->af ks j=some j):W.Le (W2.sel false h ks):=
 ⟨le.1,λa ob q=>eu (le.2 _ _ q) rfl,λa ob q=>eu (le.3 _ _ q) rfl,λa q=>eu (le.4 _ q) rfl,λa p q=>eu (le.5 _ _ q) rfl,λi a q=>lG (hk i (cQ q)) (le.6 i a q)⟩
theorem VW{n:Nat}:∀{i j:Nat},j<n->af (bh i n) j=some (i+j):=by
 induction n with
 |zero=>exact λh=>(adP _ h).elim|succ n ih=>
  intro i j h;induction j with
  |zero=>rfl|succ j=>exact (ih (adM h)).trans (congrArg some (by lia))
inductive GcR(ks:cI)(res:Ex MV)(σ:aq):Ex MV×aq->Prop|mk (r:Ex MV) (σ3:aq) (on:iu ks=true) (hs:kE (bA ks) [] (λ_=>[]) σ ks=some σ3) (hr:VV (bA ks) res=some r):GcR ks res σ (r,σ3)
theorem ya{res:Ex MV}{p:Ex MV×aq}(h:gcR ks res σ=some p):GcR ks res σ p:=bind_some (bz h).2 λσ3 e h2=>map_some h2 λr e2 h2=>h2▸⟨r,σ3,(bz h).1,e,e2⟩
theorem yb{g:Nat->Option Nat}{Cl:Addr}{fs:Lo}{t b:Bool}{o:MO}(h:AB g (.exc Cl fs t b)=some o):∃fs',o =.exc Cl fs' t b:=map_some h λfs' _ e=>⟨fs',e.symm⟩
theorem EU(hs:kE (bA ks) [] (λ_=>[]) σ ks=some σ3){n m:Nat}(q:bA ks n=some m)(x:eL σ n):eL σ3 m:=
 x.casesOn λCl fs t b h=>((oN hs m).fwd (rH q)).elim λo' z=>z.2.elim λo w=>by
  cases h.symm.trans w.1;exact (yb w.2).elim λfs' e=>⟨Cl,fs',t,b,e▸z.1⟩
theorem aa8(H:aV cx a C):aJ cx a (BE C):=λF as aj S dp sh fK o hv k R h ok er=>by
 have le:∀{S2 ks σ3},Le S S2->(∀j,j<len S.σ->af ks j=some j)->Le S (S2.gc ks σ3):=λle hk=>⟨ET le.1 (o.1.6▸hk),le.2⟩;have up:∀{l:cI} j,j<len S.σ->af (cat (bh 0 (len S.σ)) l) j=some j:=λj hj=>gp ((VW hj).trans (congrArg some (aeb j)));refine H F as aj S dp fK o hv _ R h (λS2 b v n q h=>bZ h λp e h=>(ya e).casesOn (motive:=λp _=>k p.1 p.2->_) (λr σ3 on hs hr h=>map_some hr λb' e hr=>?_) h) λS2 m v n e1 e2 h=>bZ h λp e h=>(ya e).casesOn (motive:=λp _=>k p.1 p.2->_) (λr σ3 on hs hr h=>map_some hr λb' e hr=>?_) h
 ·exact ok (S2.gc _ σ3) b' v ⟨le n.1 up,n.2.gc sh on hs⟩ (fP gF b e q) (show k (.ok b') σ3 from hr▸h)
 ·exact er (S2.gc _ σ3) b' v ⟨le n.1 up,n.2.gc sh on hs⟩ (gF.ρ _ _ _ e e1) (EU hs e e2) (show k (.error b') σ3 from hr▸h)
theorem uf{f:Fn}{n:Nat}(HC:eN dN)(ht:dN.top=cx.top)(hf:aD a cx.top.fns=some f):aJ cx a (BE (eO dN n f)):=aa8 (LU HC ht hf)
end
section
variable{cx dN:Cx Prop}{F:Fr cx}{S S2:Pt}{W W2 W':Wd}{ks:cI}{ops:mV}{X:Nat->az}{σ σ2 zc σ3:aq}{a:Addr}{C C':Spec Prop}
theorem eL.qQ{g:Nat->Option Nat}{n m:Nat}{o':MO}(x:eL σ n)(h:∀o,af σ n=some o->AB g o=some o')(e:af σ3 m=some o'):eL σ3 m:=
 x.casesOn λCl fs t b q=>(yb (h _ q)).elim λfs' z=>⟨Cl,fs',t,b,z▸e⟩
theorem QC{n:Nat}{o:MO}(x:eL σ n)(h:af σ n=some o){α:Type}{f:az×aY->Option α}{y:α}(q:(AH o).bind f=some y){G:Prop}:G:=
 x.casesOn λCl fs t b e=>by cases h.symm.trans e;exact bq q
theorem QD{h:Heap}(I:Inv W σ h)(on:iu ks=true)(hs:kE (bA ks) ops X σ ks=some zc)(hm:Mrg ks ops σ σ2 σ3){n:Nat}(x:eL σ2 n):eL σ3 (gB ks (len σ) n):=by
 induction hm with|mk old new h1 h3=>
 have x0:=x;induction x0 with|mk Cl fs t b h=>
 unfold gB;induction z:af ks n with
 |some k=>
  refine ((oN hs n).fwd z).elim λ_ w=>w.2.elim λo w=>((lC h1 k).fwd w.1).elim λo' w=>?_;have w2:=w.2;rw [aeb] at w2;revert w2;unfold LN;rw [ES on z];refine λw2=>bind_some w2 λo2 e w2=>?_;clear h3;revert w2;induction aD k ops with
  |some m=>exact λw2=>bind_some w2 λ_ _ w2=>QC x e w2|none=>exact λw2=>x.qQ (λo q=>by cases e.symm.trans q;exact w2) (gp w.1)
 |none=>
  have hl:=ud z;refine ((lC h3 (n-len ks)).fwd (l7.trans ((congrArg (af σ2) (age hl)).trans h))).elim λo' w=>?_;exact (yb w.2).elim λfs' e=>⟨Cl,fs',t,b,by rw [← lD h1,dJ,w.1,e]⟩
def jOf(ops:mV)(k:Nat):Nat:=(aD k ops).getD 0
theorem HK{α:Type}{l:List (Nat×α)}{p:Nat×α}:LS l=true->p∈l->aD p.1 l=some p.2:=by
 induction l with
 |nil=>exact λ_=>nofun
 |cons q l ih=>
  intro ho h;show (match Nat.beq q.1 p.1 with|true=>some q.2|false=>aD p.1 l)=_
  cases h with
  |head=>rw [agf]|tail _ h=>
   have ih:=ih (bx ho).2 h;induction w:Nat.beq q.1 p.1 with
   |true=>
    have z:=(bx ho).1;rw [aax w,ih] at z;exact bM z
   |false=>exact ih
theorem QE{h:Heap}{f:Nat->Nat}(hX:∀k,uc W σ h (f k) k (X k)){ops:mV}:(∀p∈ops,f p.1=p.2)->CN σ X ops:=by
 induction ops with
 |nil=>exact λ_=>trivial|cons p r ih=>
  refine λhf=>⟨?_,ih λq hq=>hf q (.tail _ hq)⟩;induction q:af σ p.1 with
  |none=>trivial|some o=>induction o with
   |list pre back=>exact ((hX p.1 pre back q).1.1).trans (by rw [len_cat,gM,je,hf p (.head _)];rfl)|_=>trivial
theorem EV(o:Ok F S){α β:Type}{K:α->Prop}{r:aq->Option β}{f:aq->β->α}(h:pK ((mrg ks ops S.σ σ2).bind λσ3=>(r σ3).map (f σ3)) K){G:Prop}(c:∀σ3 b,mrg ks ops S.σ σ2=some σ3->r σ3=some b->K (f σ3 b)->G):G:=
 bZ h λp e h=>bind_some e λσ3 e1 e=>map_some e λb e2 e=>c σ3 b e1 e2 (e▸h)
theorem eg{sel:aY->aq->Option (cI×mV)}(H:aJ dN a C)(ht:dN.top=cx.top):aV cx a (cG sel C):=λF as aj S dp fK o hv k R h ok er=>bZ h λp _ h=>(CM o.1 (jOf p.2)).elim λX hX0=>by
 have on:=h.1;have hX:∀k j,aD k p.2=some j->uc S.W S.σ S.s.heap j k (X k):=λk j q=>by
  have z:=hX0 k;unfold jOf at z;rw [q] at z;exact z
 refine bZ (h.2.2 X (QE hX0 λq hq=>by unfold jOf;rw [HK h.2.1 hq];rfl)) λq e h=>bind_some e λzc hs e=>map_some e λas' e2 e3=>(o.view ht on hs hX).elim λm' v=>?_
 rw [← e3] at h;refine H (F.see dN m') as' aj (S.sel p.1 zc) dp v.2 fK v.1 (lE gF as e2 hv) _ R h (λS2 b y n q h=>?_) λS2 m y n e1 e2 h=>?_
 ·exact EV o h.2 λσ3 r hm hr h2=>map_some hr λb' e4 e5=>ok (S.gR S2 p.1 σ3) b' y (o.LR ht on hs hX v n hm h.1) (fP (x9 o.1 hs n.1.1) b e4 q) (show k (.ok b') σ3 from e5▸h2)
 ·exact EV o h.2 λσ3 r hm hr h2=>er (S.gR S2 p.1 σ3) _ y (o.LR ht on hs hX v n hm h.1) ((x9 o.1 hs n.1.1).ρ _ _ _ rfl e1) (QD o.1 on hs (LO hm) e2) (show k (.error (gB p.1 (len S.σ) m)) σ3 from aap hr▸h2)
end
inductive Hv where
 |i (n:Int)|v (c:CV)|l (l:az)|m (v:MV)|o (o:MO)|x (l:List (Addr×SC))|n (k:Nat)
inductive TC where
 |any|int|lst|num (n:Nat)
inductive TV where
 |c (t:TC)|ref (n:Nat)|any
inductive TO where
 |gone|inst (C:Addr) (fs:List (Str×TV))|list (back:List TV)|dict (fs:List (Str×TV))|any|box|vB
noncomputable def ae5:CV->Option az
 |.lst l=>some l|_=>none
def aa9(t:TC)(v:CV)(r:List Hv):Option (List Hv):=match t with
 |.any=>some (.v v::r)|.int=>(b8 v).map λi=>.i i.1::r|.lst=>(ae5 v).map λl=>.l l::r|.num n=>(b8 v).bind λi=>eF (IX i.1 (.ofNat n)) (some r)
noncomputable def VX(r:List Hv):CV:=match r with
 | []=>.none|h::_=>match h with
  |.v c=>c|.i n=>.at (.int n)|.l l=>.lst l|_=>.none
noncomputable def yc(r:List Hv):List Hv:=match r with
 | []=>[]|_::r=>r
def LV(t:TC)(r:List Hv):CV×List Hv:=match t with
 |.any=>(VX r,yc r)|.int=>(VX r,yc r)|.lst=>(VX r,yc r)|.num n=>(.int (.ofNat n),r)
noncomputable def cV:MV->Option CV
 |.c c=>some c|_=>none
noncomputable def ae6(r:List Hv):MV:=match r with
 | []=>.c .none|h::_=>match h with
  |.m v=>v|_=>.c .none
noncomputable def VY(r:List Hv):MO:=match r with
 | []=>.gone|h::_=>match h with
  |.o v=>v|.x l=>.box l|.n k=>.vB k|_=>.gone
def VZ(t:TV)(v:MV)(r:List Hv):Option (List Hv):=match t with
 |.c t=>(cV v).bind λc=>aa9 t c r|.ref n=>(refOf v).bind λk=>eF (Nat.beq n k) (some r)|.any=>some (.m v::r)
def oO(t:TV)(r:List Hv):MV×List Hv:=match t with
 |.c t=>(.c (LV t r).1,(LV t r).2)|.ref n=>(.ref n,r)|.any=>(ae6 r,yc r)
noncomputable def LW(ts:List TV)(l:aY)(r:List Hv):Option (List Hv):=match ts with
 | []=>(pJ l).map λ_=>r|t::ts=>match l with
  | []=>none|v::l=>(LW ts l r).bind λr=>VZ t v r
noncomputable def lH(ts:List TV)(r:List Hv):aY×List Hv:=match ts with
 | []=>([],r)|t::ts=>((oO t r).1::(lH ts (oO t r).2).1,(lH ts (oO t r).2).2)
noncomputable def LY(ts:List (Str×TV))(m:Lo)(r:List Hv):Option (List Hv):=match ts with
 | []=>some r|p::ts=>(LY ts m r).bind λr=>(look p.1 m).bind λv=>VZ p.2 v r
noncomputable def fF(ts:List (Str×TV))(r:List Hv):Lo×List Hv:=match ts with
 | []=>([],r)|p::ts=>((p.1,(oO p.2 r).1)::(fF ts (oO p.2 r).2).1,(fF ts (oO p.2 r).2).2)
noncomputable def CO(ts:List (Str×TV)):Lo->Bool
 | []=>true|p::r=>bf (look p.1 ts)&&CO ts r
def V0(ts:List (Str×TV))(fs:Lo)(r:List Hv):Option (List Hv):=eF (CO ts fs&&Nat.ble (len fs) (len ts)) (LY ts fs r)
noncomputable def yd:MO->Option (Addr×Lo)
 |.inst C fs=>some (C,fs)|_=>none
noncomputable def ye:MO->Option Lo
 |.dict fs=>some fs|_=>none
noncomputable def aba:MO->Option (List (Addr×SC))
 |.box l=>some l|_=>none
def abb:MO->Option Nat
 |.vB k=>some k|.list pre back=>some (len pre+len back)|_=>none
def abc(t:TO)(o:MO)(r:List Hv):Option (List Hv):=match t with
 |.gone=>some r|.inst C ts=>(yd o).bind λp=>eF (Nat.beq C p.1) (V0 ts p.2 r)|.list ts=>(AH o).bind λp=>(BJ (rev (fQ (len ts) p.2) [])).bind λcs=>(LW ts (ua (len ts) p.2) r).map λr=>.l (cat p.1 cs)::r|.dict ts=>(ye o).bind λfs=>V0 ts fs r|.any=>some (.o o::r)|.box=>(aba o).map λl=>.x l::r|.vB=>(abb o).map λk=>.n k::r
noncomputable def ae7(r:List Hv):az:=match r with
 | []=>[]|h::_=>match h with
  |.l l=>l|_=>[]
def EW(t:TO)(r:List Hv):MO×List Hv:=match t with
 |.gone=>(.gone,r)|.inst C ts=>(.inst C (fF ts r).1,(fF ts r).2)|.list ts=>(.list (ae7 r) (lH ts (yc r)).1,(lH ts (yc r)).2)|.dict ts=>(.dict (fF ts r).1,(fF ts r).2)|.any=>(VY r,yc r)|.box=>(VY r,yc r)|.vB=>(VY r,yc r)
noncomputable def L3(ts:List TO)(σ:aq)(r:List Hv):Option (List Hv):=match ts with
 | []=>(pJ σ).map λ_=>r|t::ts=>match σ with
  | []=>none|o::σ=>(L3 ts σ r).bind λr=>abc t o r
noncomputable def qS(ts:List TO)(r:List Hv):aq×List Hv:=match ts with
 | []=>([],r)|t::ts=>((EW t r).1::(qS ts (EW t r).2).1,(qS ts (EW t r).2).2)
def CLe(v v':CV):Prop:=∀F x,bw F v x->bw F v' x
def VLe(v v':MV):Prop:=∀W x,ao W v x->ao W v' x
def SX(l l':aY):Prop:=∀W x,ah W l x->ah W l' x
def BF(o o':MO):Prop:=∀W i a h,br W i a h o->br W i a h o'
inductive Zi{α:Type}(R:α->α->Prop)(v:α)(r:List Hv)(p:α×List Hv):Prop where
 |mk (le:R v p.1) (rest:p.2=r)
section
variable{W:Wd}{i:Nat}{a:Addr}{h:Heap}
theorem CP{v:CV}{n:Int×Bool}(e:b8 v=some n):CLe v (.at (.int n.1)):=λF x q=>(cC q).get e
theorem EX{t:TC}{v:CV}{r hs:List Hv}:aa9 t v r=some hs->Zi CLe v r (LV t hs):=by
 induction t with
 |any=>exact λh=>aap h▸⟨λ_ _ q=>q,rfl⟩|int=>exact λh=>map_some h λn e h=>h▸⟨CP e,rfl⟩|lst=>exact λh=>map_some h λl e h=>h▸⟨by cases v with|lst l'=>cases e;exact λ_ _ q=>q|_=>exact bq e,rfl⟩
 |num m=>exact λh=>bind_some h λn e h=>⟨by have z:=of_decide_eq_true ((n7 ..).symm.trans (bz h).1);show CLe v (.int (.ofNat m));exact z▸CP e,(aap (bz h).2).symm⟩
theorem abd{v:MV}{c:CV}:cV v=some c->v =.c c:=by
 induction v using MV.casesOn with
 |c u=>exact λh=>congrArg MV.c (aap h)|_=>exact bq
theorem EY{t:TV}{v:MV}{r hs:List Hv}:VZ t v r=some hs->Zi VLe v r (oO t hs):=by
 induction t with
 |c t=>exact λh=>bind_some h λc e h=>abd e▸⟨λW x q=>(EX h).1 _ _ q,(EX h).2⟩|ref n=>exact λh=>bind_some h λk e h=>ou e▸aax (bz h).1▸⟨λ_ _ q=>q,(aap (bz h).2).symm⟩|any=>exact λh=>aap h▸⟨λ_ _ q=>q,rfl⟩
theorem SX.cons{x x':MV}{l l':aY}(h1:VLe x x')(h2:SX l l'):SX (x::l) (x'::l'):=λW v q=>q.elim λa q=>q.elim λl q=>⟨a,l,q.1,h1 _ _ q.2.1,h2 _ _ q.2.2⟩
theorem yf{ts:List TV}:∀{l:aY}{r hs:List Hv},LW ts l r=some hs->Zi SX l r (lH ts hs):=by
 induction ts with
 |nil=>exact λh=>map_some h λ_ e h=>gz e▸⟨λ_ _ q=>q,h.symm⟩|cons t ts ih=>
  intro l r hs h;induction l with
  |nil=>exact bq h|cons v l=>
   refine bind_some h λr2 e h=>?_;have f1:=EY h;have f2:=ih e;have e1:=f1.2;refine ⟨?_,?_⟩
   ·show SX _ (_::(lH ts (oO t hs).2).1)
    rw [e1];exact SX.cons f1.1 f2.1
   ·show (lH ts (oO t hs).2).2=_
    rw [e1];exact f2.2
inductive QF(m:Lo)(x:Str):Option TV->Option MV->Prop
 |no:QF m x none none|yes (t:TV) (v v':MV) (e:look x m=some v) (le:VLe v v'):QF m x (some t) (some v')
abbrev QG(ts:List (Str×TV))(m:Lo)(r:List Hv)(p:Lo×List Hv):Prop:=P3 (p.2=r) (aT.len p.1=aT.len ts) (∀x,QF m x (aT.look x ts) (aT.look x p.1))
theorem yg{m:Lo}{ts:List (Str×TV)}:∀{r hs:List Hv},LY ts m r=some hs->QG ts m r (fF ts hs):=by
 induction ts with
 |nil=>exact λh=>aap h▸⟨rfl,rfl,λ_=>.no⟩|cons p ts ih=>
  exact λh=>bind_some h λr2 e h=>bind_some h λv e2 h=>by
   have f1:=EY h;have f2:=ih e;have e1:=f1.2;rw [← e1] at f2;refine ⟨f2.1,congrArg (· + 1) f2.2,λx=>?_⟩
   show QF m x (look x ((p.1,p.2)::ts)) (look x ((p.1,_)::_));rw [aC,aC];by_cases z:p.1=x
   ·rw [if_pos z,if_pos z];exact .yes p.2 v _ (z▸e2) f1.1
   ·rw [if_neg z,if_neg z];exact f2.3 x
theorem QG.sub{ts:List (Str×TV)}{m:Lo}{r:List Hv}{p:Lo×List Hv}(f:QG ts m r p){g:Str->cK}(q:mz W m g):mz W p.1 g:=λx v e=>by
 have z:=f.3 x;rw [e] at z;generalize aT.look x ts=t at z;cases z with|yes t v _ e le=>exact (q x v e).elim λy w=>⟨y,w.1,le _ _ w.2⟩
inductive DLe(fs fs':Lo):Prop where
 |mk (n:len fs<=len fs') (le:∀W g,gK W fs g->gK W fs' g)
theorem HM{ts:List (Str×TV)}{x:Str}(q:look x ts=none){fs:Lo}:CO ts fs=true->look x fs=none:=by
 induction fs with
 |nil=>exact λ_=>rfl|cons p fs ih=>
  intro h;show look x ((p.1,p.2)::fs)=none;rw [aC];by_cases e:p.1=x
  ·have z:=(bx h).1
   rw [e,q] at z;exact bM z
  ·rw [if_neg e];exact ih (bx h).2
theorem EZ{ts:List (Str×TV)}{fs:Lo}{r hs:List Hv}(h:V0 ts fs r=some hs):Zi DLe fs r (fF ts hs):=by
 have f:=yg (bz h).2;have k:=bx (bz h).1;refine ⟨⟨f.2▸abV k.2,λW g q x=>?_⟩,f.1⟩;have z:=f.3 x;have qx:=q x;revert z;generalize look x (fF ts hs).1=o';cases e:look x ts with
 |none=>
  intro z;cases z;rw [HM e k.1] at qx;exact qx
 |some t=>
  intro z;cases z with|yes t v v' e2 le=>rw [e2] at qx;exact qx.elim λy w=>⟨y,w.1,le _ _ w.2⟩
theorem dU.le{g:Str->cK}{o:Obj}{n m:Nat}(k:n<=m)(h:dU g o n):dU g o m:=h.casesOn λes ep e h=>⟨es,ep,e,h.le k⟩
theorem DLe.at{fs fs':Lo}(k:DLe fs fs')(c:d8 W i fs a h):d8 W i fs' a h:=c.casesOn λo g ow e say r=>⟨o,g,ow,e,say.le k.1,k.2 _ _ r⟩
theorem AN{o:MO}{p:Addr×Lo}:yd o=some p->o =.inst p.1 p.2:=by
 induction o with
 |inst C fs=>exact λh=>by rw [← aap h]|_=>exact bq
theorem L4{o:MO}{p:Lo}:ye o=some p->o =.dict p:=by
 induction o with
 |dict fs=>exact λh=>by rw [aap h]|_=>exact bq
theorem ah.rev{l:aY}:∀{acc:aY}{x y:bU},ah W l x->ah W acc y->ah W (aT.rev l acc) (x.reverse++y):=by
 induction l with
 |nil=>intro acc x y h h';rw [show x=[] from h];exact h'|cons v l ih=>exact λh h'=>h.elim λz h=>h.elim λr h=>by rw [h.1,ahw,agG];exact ih h.2.2 ⟨z,_,rfl,h.2.1,h'⟩
theorem V1{l l':aY}(k:SX l l'){x:bU}(q:ah W (rev l []) x):ah W (rev l' []) x:=by
 have z:=ah.rev q (acc:=[]) (y:=[]) rfl;rw [rev_rev] at z;have z:=ah.rev (k _ _ z) (acc:=[]) (y:=[]) rfl;rw [adO,adO,aiq] at z;exact z
theorem V2{pre cs:az}{back l:aY}{n:Nat}(u:BJ (rev (fQ n back) [])=some cs)(k:SX (ua n back) l)(c:gY W i a h (cat (bT pre) (rev back []))):gY W i a h (cat (bT (cat pre cs)) (rev l [])):=
 c.casesOn λxs n' ow g r sz=>⟨xs,n',ow,g,by
  rw [← take_drop n back,iL,xA u,← aP,ju] at r;exact r.split.elim λy r=>r.elim λz r=>r.1▸ah.cat r.2.1 (V1 k r.2.2),sz⟩
theorem L5{o:MO}{k:Nat}:abb o=some k->BF o (.vB k):=by
 induction o with
 |vB n=>exact λh=>aap h▸λ_ _ _ _ q=>q|list pre back=>exact λh=>aap h▸λW i a h c=>gY.casesOn c λxs n ow g r sz=>⟨xs,n,ow,g,by rw [← r.len,len_cat,gM,je];rfl,sz⟩|_=>exact bq
theorem QH{t:TO}{o:MO}{r hs:List Hv}:abc t o r=some hs->Zi BF o r (EW t hs):=by
 induction t with
 |gone=>exact λh=>aap h▸⟨λ_ _ _ _ _=>trivial,rfl⟩|inst C ts=>exact λh=>bind_some h λp e h=>AN e▸aax (bz h).1▸have f:=EZ (bz h).2;⟨λW i a hp c=>nR.casesOn c λd ow ne g c=>⟨d,ow,ne,g,f.1.at c⟩,f.2⟩|list ts=>exact λh=>bind_some h λp e h=>bind_some h λcs e2 h=>map_some h λq e3 h=>rJ e▸h▸have f:=yf e3;⟨λW i a hp c=>V2 e2 f.1 c,f.2⟩|dict ts=>exact λh=>bind_some h λp e h=>L4 e▸have f:=EZ h;⟨λW i a hp c=>f.1.at c,f.2⟩|any=>exact λh=>aap h▸⟨λ_ _ _ _ q=>q,rfl⟩|box=>exact λh=>map_some h λl e h=>h▸⟨by cases o with|box l'=>cases e;exact λ_ _ _ _ q=>q|_=>exact bq e,rfl⟩
 |vB=>exact λh=>map_some h λk e h=>h▸⟨L5 e,rfl⟩
inductive V3:Option MO->Option MO->Prop
 |no:V3 none none|yes (o o':MO) (le:BF o o'):V3 (some o) (some o')
inductive AO(σ σ':aq):Prop where
 |mk (len:aT.len σ'=aT.len σ) (le:∀i,V3 (af σ i) (af σ' i))
theorem AO.refl(σ:aq):AO σ σ:=⟨rfl,λi=>by cases af σ i<;>constructor;exact λ_ _ _ _ c=>c⟩
theorem AO.cons{o o':MO}{σ σ':aq}(h:BF o o')(l:AO σ σ'):AO (o::σ) (o'::σ'):=⟨congrArg (· + 1) l.1,λi=>by
 induction i with
 |zero=>exact .yes o o' h|succ i=>exact l.2 i⟩
theorem yh{ts:List TO}:∀{σ:aq}{r hs:List Hv},L3 ts σ r=some hs->Zi AO σ r (qS ts hs):=by
 induction ts with
 |nil=>exact λh=>map_some h λ_ e h=>gz e▸⟨.refl _,h.symm⟩|cons t ts ih=>
  intro l r hs h;induction l with
  |nil=>exact bq h|cons o l=>
   refine bind_some h λr2 e h=>?_;have f1:=QH h;have f2:=ih e;have e1:=f1.2;rw [← e1] at f2;exact ⟨.cons f1.1 f2.1,f2.2⟩
end
noncomputable def hdB(a b:Hd):Bool:=match a with
 |.no=>match b with
  |.no=>true|_=>false
 |.at n=>match b with
  |.at m=>Nat.beq n m|_=>false
 |.other=>match b with
  |.other=>true|_=>false
theorem L6{a b:Hd}:hdB a b=true->a=b:=by
 induction a with
 |no=>induction b with|no=>exact λ_=>rfl|_=>exact bM
 |«at» n=>induction b with|«at» m=>exact λh=>congrArg Hd.at (aax h)|_=>exact bM
 |other=>induction b with|other=>exact λ_=>rfl|_=>exact bM
structure TS where
 hd:Hd
 need:Nat
 as:List TV
 σ:List TO
def qT(T:TS)(Q:List Hv->(Ex MV->aq->Prop)->Prop):Spec Prop:=λhd dp as σ K=>pK (eF (hdB T.hd hd&&Nat.ble T.need dp) ((L3 T.σ σ []).bind (LW T.as as))) λhs=>Q hs K
structure TB where
 sc:Scope
 cells:ja
 hd:Hd
 need:Nat
structure TL where
 m:List (Str×TV)
 σ:List TO
def TB.fits(B:TB)(e:En):Prop:=e.sc=B.sc/\e.cells=B.cells/\e.hd=B.hd/\B.need<=e.dp
def TB.en(B:TB)(T:TL)(d:Nat)(hs:List Hv):En:=⟨B.sc,B.cells,(fF T.m hs).1,B.hd,d+B.need⟩
def TL.sl(T:TL)(hs:List Hv):aq:=(qS T.σ (fF T.m hs).2).1
structure TF(X:Type) where
 T:X->TL
 pick:Lo->aq->Option (X×cI)
def Oc(T:TL)(Q:List Hv->Prop)(m:Lo)(σ:aq):Prop:=pK ((L3 T.σ σ []).bind (LY T.m m)) Q
def abe(m:Lo)(xs:List (Str×TV)):Option Lo:=oK (λ_ x=>(look x.1 m).map λv=>(x.1,v)) 0 xs
noncomputable def qU:Nat->Nat->cI->Bool
 |0,_,_=>true|n+1,i,ks=>match ks with
  | []=>false|k::ks=>Nat.beq k i&&qU n (i+1) ks
def SY(ks:cI)(c:Nat)(ts:List (Str×TV))(m:Lo)(σ:aq):Option (Lo×aq):=
 eF (iu ks&&qU c 0 ks) ((kE (bA ks) [] (λ_=>[]) σ ks).bind λσ'=>(abe m ts).bind λm1=>(t8 (bA ks) m1).map λm2=>(m2,σ'))
def V4{X:Type}(F:TF X)(c:Nat)(Q:X->List Hv->Prop)(m:Lo)(σ:aq):Prop:=pK (F.pick m σ) λp=>pK (SY p.2 c (F.T p.1).m m σ) λq=>Oc (F.T p.1) (Q p.1) q.1 q.2
def tfJ{X:Type}(F:TF X)(Q:X->List Hv->Prop)(m:Lo)(σ:aq):Prop:=pK (F.pick m σ) λp=>Oc (F.T p.1) (Q p.1) m σ
abbrev KL:=cB×Lo->aq->Prop
def V5{X:Type}(B:TB)(F:TF X)(t0:Expr)(iT:cL)(Q:X->List Hv->KL->Prop):En->Expr->cL->M Prop (cB×Lo):=λe t body σ k=>(t=t0/\body=iT/\B.fits e)/\tfJ F (λx hs=>Q x hs k) e.m σ
noncomputable def QI:It->Bool
 |.seq _ _=>false|.dO _=>true|.range _ _=>true
def qW{X:Type}(F:TF X)(c:Nat)(Q:X->It->List Hv->KL->Prop):En->Expr->It->cL->M Prop (cB×Lo):=λe _ it _ σ k=>match QI it with
 |true=>V4 F c (λx hs=>Q x it hs k) e.m σ|false=>False
def HN{X:Type}(B:TB)(F:TF X)(t0:Expr)(iT:cL)(Q:X->It->List Hv->KL->Prop):En->Expr->It->cL->M Prop (cB×Lo):=λe t it body σ k=>(t=t0/\body=iT/\B.fits e)/\tfJ F (λx hs=>Q x it hs k) e.m σ
section
variable{cx dN:Cx Prop}{F:Fr cx}{S S2:Pt}{W W2 W':Wd}{ks:cI}{σ σ':aq}{a:Addr}{C C':Spec Prop}
noncomputable def Pt.low(S:Pt)(σ:aq):Pt:=⟨S.W,σ,S.s⟩
theorem Inv.weak{h:Heap}(I:Inv W σ h)(l:AO σ σ'):Inv W σ' h:=⟨I.1,I.2,I.3,I.4,I.5,l.1.trans I.6,λi o' a e1 e2=>by
 have z:=l.2 i;rw [e1] at z;generalize e:af σ i=o at z;cases z with|yes o _ le=>exact le _ _ _ _ (I.7 i o a e e2),I.8,I.9⟩
theorem Ok.weak(o:Ok F S)(l:AO S.σ σ):Ok F (S.low σ):=⟨o.1.weak l,o.2,o.3,o.4⟩
theorem bH.up(n:bH F (S.low σ) S2):bH F S S2:=⟨⟨n.1.1,n.1.2⟩,n.2⟩
theorem Ev.low{α β:Type}{V:Wd->β->α->Prop}{k:β->aq->Prop}{Q:α->Shared->Prop}(q:Ev F V k S Q):Ev F V k (S.low σ) Q:=λS' b a n v h=>q S' b a n.up v h
theorem Er.low{k:Nat->aq->Prop}{E:b7}(q:Er F k S E):Er F k (S.low σ) E:=λS' b a n e1 e2 h=>q S' b a n.up e1 e2 h
theorem oQ{T:TS}{Q:List Hv->(Ex MV->aq->Prop)->Prop}(H:aJ cx a C)(hq:∀hs d K,Q hs K->C T.hd (d+T.need) (lH T.as hs).1 (qS T.σ (lH T.as hs).2).1 K):aJ cx a (qT T Q):=λF as aj S dp sh fK o hv k R h ok er=>
 bZ h λhs e h=>bind_some (bz e).2 λr e1 e2=>by
  have z:=bx (bz e).1;have f1:=yf e2;have f2:=yh e1;have h2:=hq hs (dp-T.need) k h;rw [f1.2,L6 z.1,aef (abV z.2)] at h2;exact H F _ aj (S.low _) dp sh fK (o.weak f2.1) (f1.1 _ _ hv) k R h2 ok.low er.low
theorem CQ{m m1:Lo}{x:Str}{v:MV}{ts:List (Str×TV)}:∀{i:Nat},oK (λ_ (p:Str×TV)=>(look p.1 m).map λv=>(p.1,v)) i ts=some m1->look x m1=some v->look x m=some v:=by
 induction ts generalizing m1 with
 |nil=>intro i h;rw [← aap h];exact bq|cons p ts ih=>
  exact λh=>bind_some h λq e h=>map_some h λm2 e2 h=>map_some e λu e3 e=>by
   rw [← h,← e,aC];by_cases z:p.1=x
   ·rw [if_pos z,← z];exact λq=>e3.trans q
   ·rw [if_neg z];exact ih e2
theorem pZ{n:Nat}:∀{i j:Nat}{ks:cI},qU n i ks=true->j<n->af ks j=some (i+j):=by
 induction n with
 |zero=>exact λ_ h=>(adP _ h).elim|succ n ih=>
  intro i j ks h hj;induction ks with
  |nil=>exact bM h|cons k ks=>
   induction j with
   |zero=>exact congrArg some (aax (bx h).1)|succ j=>exact (ih (bx h).2 (adM hj)).trans (congrArg some (by lia))
theorem Ok.SY(o:Ok F S)(le:Le S S2){m m2:Lo}(o2:Ok (F.fix m) S2){c:Nat}(hc:len S.W.ρ<=c){ts:List (Str×TV)}(h:SY ks c ts m S2.σ=some (m2,σ')):Le S (S2.gc ks σ')/\Ok (F.fix m2) (S2.gc ks σ'):=
 bind_some (bz h).2 λσ3 e1 h1=>bind_some h1 λm1 e2 h1=>map_some h1 λm3 e3 h1=>by
  cases h1;have z:=bx (bz h).1;have ir:S.W.Le (S2.gc ks σ').W:=ET le.1 λj hj=>(pZ z.2 (aet hj hc)).trans (congrArg some (aeb j));have ar:=o.4.up ir;exact ⟨⟨ir,le.2⟩,o2.1.sel z.1 e1 λk j h=>bq h,⟨o.2.1,o.2.2,eu o2.2.3 rfl,o2.2.4.elim λg z=>⟨g,z.1,mz.qQ gF e3 λx v q=>z.2 x v (CQ e2 q)⟩,o.2.5.up ir.6,o.2.6,o.2.7,o.2.8,o.2.9.mono ir.1⟩,o2.3,⟨ar.1,ar.2,ar.3,ar.4,ar.5⟩⟩
theorem HO(ts:List TO):∀r:List Hv,len (qS ts r).1=len ts:=by
 induction ts with
 |nil=>exact λ_=>rfl|cons t ts ih=>exact λr=>congrArg (· + 1) (ih _)
inductive TlI(B:TB)(T:TL)(Q:List Hv->Prop)(F:Fr cx)(S:Pt):Prop
 |mk (hs:List Hv) (h:Q hs) (o:Ok (F.fix (fF T.m hs).1) (S.low (T.sl hs))) (e:B.en T (F.e.dp-B.need) hs=fixed F.e (fF T.m hs).1) (n:len S.W.ρ=len T.σ)
theorem Ok.names(o:Ok F S){ts:List (Str×TV)}{r:List Hv}{p:Lo×List Hv}(f:QG ts F.e.m r p):Ok (F.fix p.1) S:=⟨o.1,⟨o.2.1,o.2.2,o.2.3,o.2.4.elim λg z=>⟨g,z.1,f.sub z.2⟩,o.2.5,o.2.6,o.2.7,o.2.8,o.2.9⟩,o.3,⟨o.4.1,o.4.2,o.4.3,o.4.4,o.4.5⟩⟩
theorem rK{B:TB}{T:TL}{Q:List Hv->Prop}(o:Ok F S)(f:B.fits F.e)(h:Oc T Q F.e.m S.σ):TlI B T Q F S:=bZ h λhs e h=>bind_some e λr e1 e2=>by
 have f1:=yg e2;have f2:=yh e1;have o2:Ok (F.fix (fF T.m hs).1) (S.low (T.sl hs)):=by
  show Ok _ (S.low (qS T.σ (fF T.m hs).2).1);rw [f1.1];exact (o.names f1).weak f2.1
 refine ⟨hs,h,o2,?_,o2.1.6.symm.trans (HO ..)⟩;show En.mk _ _ _ _ _=En.mk _ _ _ _ _;rw [f.1,f.2.1,f.2.2.1,aef f.2.2.2]
inductive TfI{X:Type}(Fm:TF X)(Q:X->List Hv->Prop)(F:Fr cx)(S S2:Pt):Prop
 |mk (x:X) (ks:cI) (σ':aq) (m:Lo) (le:Le S (S2.gc ks σ')) (o:Ok (F.fix m) (S2.gc ks σ')) (h:Oc (Fm.T x) (Q x) m σ')
theorem L7{X:Type}{Fm:TF X}{Q:X->List Hv->Prop}{c:Nat}(o:Ok F S)(hc:len S.W.ρ<=c)(le:Le S S2){m:Lo}(o2:Ok (F.fix m) S2)(h:V4 Fm c Q m S2.σ):TfI Fm Q F S S2:=
 bZ h λp _ h=>bZ h λq e h=>have z:=o.SY le o2 hc e;⟨p.1,p.2,q.2,q.1,z.1,z.2,h⟩
theorem Le.len(le:Le S S2):len S.W.ρ<=aT.len S2.W.ρ:=LQ le.1.6
theorem lz.at{k:KL}{Q:Flow->Shared->Prop}(q:lz F k S Q)(ht:dN.top=cx.top)(le:Le S S2){m:Lo}:lz ((F.fix m).at dN) k (S2.low σ) Q:=λS' g m' fl le' o v h=>q S' g m' fl (le.trans ⟨le'.1,le'.2⟩) (Ok.to (F:=F.fix m') o ht) v h
theorem vc.at{k:KL}{E:b7}(q:vc F k S E)(ht:dN.top=cx.top)(le:Le S S2){m:Lo}:vc ((F.fix m).at dN) k (S2.low σ) E:=λS' n a m' le' o=>q S' n a m' (le.trans ⟨le'.1,le'.2⟩) (Ok.to (F:=F.fix m') o ht)
def abf{X:Type}(cx:Cx Prop)(n:Nat)(t0:Expr)(iT:cL)(B:TB)(Fm:TF X)(Q:Nat->X->It->List Hv->KL->Prop)(i:Nat):Prop:=∃dN,eN dN/\dN.top=cx.top/\
 ∀x it hs d k,Q (i+1) x it hs k->dg dN { R dN n with gh:=qW Fm (len (Fm.T x).σ) (Q i) } (B.en (Fm.T x) d hs) t0 it iT ((Fm.T x).sl hs) k
theorem Hh.gc{x:Addr}{it:It}(h:Hh S x it):QI it=true->Hh (S.gc ks σ) x it:=by
 have own:(S.gc ks σ).W.own x=none:=congrArg (Option.bind · (x8 false ks (S.s.heap.get? x))) h.2
 induction it with
 |seq v i=>exact bM|dO l=>exact λ_=>⟨h.1.elim λaj z=>z.elim λi z=>⟨aj,i,by induction z.1 with|lst a n g it=>exact .lst a n g it|tup a g it=>exact .tup a g it,z.2⟩,own,h.3⟩
 |range i stop=>exact λ_=>⟨h.1,own,h.3⟩
theorem yi{X:Type}{n:Nat}{t0:Expr}{iT:cL}{B:TB}{Fm:TF X}{Q:Nat->X->It->List Hv->KL->Prop}(I:Nat)(H:∀i,i<I->abf cx n t0 iT B Fm Q i)(h0:∀x it hs k,¬Q 0 x it hs k):j9 cx (HN B Fm t0 iT (Q I)):=by
 intro F t it y body S o hi0 k R h ok er;refine bB λgg=>?_;obtain ⟨⟨rfl,rfl,f⟩,h⟩:=h;refine gg ?_;have main:∀i,i<=I->∀S2 m it x,Le S S2->Ok (F.fix m) S2->Hh S2 y it->Oc (Fm.T x) (λhs=>Q i x it hs k) m S2.σ->codeAny Md F.A (.forLoop t (.ref y) body [] F.env) R S2.s:=by
  intro i;induction i with
  |zero=>exact λ_ S2 m it x le o2 _ h=>(rK (B:=B) o2 f h).casesOn λhs h _ _ _=>(h0 _ _ _ _ h).elim|succ i ih=>
   refine λhi S2 m it x le o2 i2 h=>bB λgg=>(rK (B:=B) o2 f h).casesOn λhs h o3 e3 e4=>(H i hi).elim λdN z=>gg <|?_
   have hJ:=z.2.2 x it hs ((F.fix m).e.dp-B.need) k h;rw [e3] at hJ;refine EG (r:=aT.R dN n) (N:=qW Fm (len (Fm.T x).σ) (Q i)) (F:=(F.fix (fF (Fm.T x).m hs).1).at dN) (xZ z.1 n).toef (Ok.at (F:=F.fix _) o3 z.2.1) (S:=S2.low _) ⟨i2.1,i2.2,i2.3⟩ hJ (λS3 m3 VI pG o4 i3=>?_) (ok.at z.2.1 le) (er.at z.2.1 le)
   ·show (match QI VI with|true=>V4 Fm (len (Fm.T x).σ) (λx hs=>Q i x VI hs k) m3 S3.σ|false=>False)->_
    induction q:QI VI with
    |false=>exact False.elim|true=>exact λh3=>(L7 o (aco le.len (adW e4)) (le.trans ⟨pG.1,pG.2⟩) (Ok.to (F:=F.fix m3) o4 z.2.1) h3).casesOn λx' ks σ' m2 SM o5 h5=>ih (acH hi) (S3.gc ks σ') m2 VI x' SM o5 (i3.gc q) h5
 exact bZ h λp _ h=>main I (abv _) S F.e.m it p.1 (.refl _) o hi0 h
end
noncomputable def AP:Nat->(Nat->Prop)->Prop
 |0,_=>True|n+1,f=>f n/\AP n f
theorem AQ{n:Nat}{f:Nat->Prop}:AP n f->∀i,i<n->f i:=by
 induction n with
 |zero=>exact λ_ i h=>(adP _ h).elim|succ n ih=>exact λh i hi=>(ahO.mp hi).elim (ih h.2 i) λe=>e▸h.1
theorem allLt_of{n:Nat}{f:Nat->Prop}:(∀i,i<n->f i)->AP n f:=by
 induction n with
 |zero=>exact λ_=>trivial|succ n ih=>exact λh=>⟨h n (adY n),ih λi hi=>h i (agL hi)⟩
noncomputable def afa:CV->CV
 |.at a=>match a with
  |.int i=>.int i|.none=>.at .none|.str s=>.at (.str s)
 |v=>v
def CR:MV->MV
 |.c v=>.c (afa v)|v=>v
def abg:Ex MV->Ex MV
 |.ok v=>.ok (CR v)|.error n=>.error n
section
variable{cx:Cx Prop}{F:Fr cx}{S:Pt}{a:Addr}{C:Spec Prop}
theorem E0(v:MV):VLe v (CR v):=by
 induction v using MV.casesOn with
 |c v=>induction v using CV.casesOn with
  |«at» a=>cases a<;>exact λ_ _ q=>q
  |_=>exact λ_ _ q=>q
 |_=>exact λ_ _ q=>q
theorem aJ.lit(h:aJ cx a C):aJ cx a (λhd dp as σ K=>C hd dp as σ λres σ'=>K (abg res) σ'):=λF as aj S dp sh fK o hv k R hS ok er=>
 h F as aj S dp sh fK o hv _ R hS (λS' b v n q h=>ok S' (CR b) v n (E0 b _ _ q) h) λS' n x nx e1 e2 h=>er S' n x nx e1 e2 h
theorem aJ.ex{α:Type}{C:α->Spec Prop}(h:∀x,aJ cx a (C x)):aJ cx a (λhd dp as σ K=>∃x,C x hd dp as σ K):=λF as aj S dp sh fK o hv k R hS ok er=>hS.elim λx hS=>h x F as aj S dp sh fK o hv k R hS ok er
end
theorem BF.snoc(l:az)(x:CV):BF (.list l [.c x]) (.list (cat l [x]) []):=λW i a h c=>gY.casesOn c λxs n ow g r sz=>⟨xs,n,ow,g,by
 show ah W (cat (bT (cat l [x])) []) xs;rw [au,← ju];exact r,sz⟩
theorem aO{a b:Bool}{G:Prop}(h:(a&&b)=true)(c:a=true->b=true->G):G:=(ahb.mp h).elim c
theorem ck{α:Type}{o:Option α}{p:α->Bool}{G:Prop}(h:nT o p=true)(c:∀a,o=some a->p a=true->G):G:=by
 induction o with
 |none=>exact bM h|some a=>exact c a rfl h
theorem jT{v:Value}{n:String}(h:mC v n=true):v =.type n:=by
 cases v<;>first|exact congrArg _ (eq_of_beq h)|exact bM h
theorem AR{v:Value}{n:String}(h:qz n v=true):v =.builtin n:=by
 cases v<;>first|exact congrArg _ (eq_of_beq h)|exact bM h
theorem AS{v:Value}{a:Addr}(h:isRef a v=true):v =.ref a:=by
 cases v<;>first|exact congrArg _ (aax h)|exact bM h
theorem jU{v:Value}{a:Addr}(h:sP v=some a):v =.ref a:=by
 cases v<;>first|exact congrArg _ (aap h)|exact bq h
theorem yj{v:Value}{s:Str}(h:zJ v=some s):∃t,v =.str s t:=by
 cases v<;>first|exact ⟨_,by rw [aap h]⟩|exact bq h
theorem ug{v:Value}(h:rz v=true):v =.none:=by
 cases v<;>first|rfl|exact bM h
theorem p8{α:Type}{o:Option α}(h:lS o=true):∃a,o=some a:=by
 induction o with
 |none=>exact bM h|some a=>exact ⟨a,rfl⟩
theorem oR{α:Type}{o:Option α}(h:zH o=true):o=none:=by
 induction o with
 |none=>rfl|some a=>exact bM h
theorem jz{α:Type}{l:List α}(h:isNil l=true):l=[]:=by
 induction l with
 |nil=>rfl|cons=>exact bM h
theorem E1{o:Obj}{d:Data}(h:zI o=true)(hd:o.data=d):o=⟨o.cls,none,d,#[]⟩:=aO h λa b=>by
 obtain ⟨c,di,dt,sl⟩:=o;cases oR a;cases hd;rw [show sl = #[] from Array.toList_eq_nil_iff.mp (jz b)]
theorem AU{o:Obj}{d:Data}{n:String}(t:mC o.cls n=true)(h:zI o=true)(hd:o.data=d):o=⟨.type n,none,d,#[]⟩:=jT t▸E1 h hd
section
variable{g:Addr->fy}{F:Addr->fy}{a:Addr}{x:Str}{y:Value}{P:Params}
inductive abh(g:Addr->fy)(a:Addr):List DictEntry->Prop|mk (es:Array DictEntry) (ep:Nat) (h:g a=some (kU es ep)) (k:BY es.toList=true):abh g a es.toList
theorem oS{l:List DictEntry}(h:nS g a=some l):abh g a l:=by
 unfold nS at h;induction q:g a with
 |none=>rw [q] at h;exact bq h|some o=>
  rw [q] at h;dsimp only at h;induction hd:o.data with
  |dict es ep=>
   rw [hd] at h;exact (bz h).elim λh1 h2=>aO h1 λh1 h3=>aO h1 λh1 h4=>by
    rw [← aap h2];exact ⟨es,ep,q.trans (congrArg some (AU h1 h4 hd)),h3⟩
  |_=>rw [hd] at h;exact bq h
theorem E4{l:bU}(h:OC g a=some l):g a=some (d7 l.toArray):=by
 unfold OC at h;induction q:g a with
 |none=>rw [q] at h;exact bq h|some o=>
  rw [q] at h;dsimp only at h;induction hd:o.data with
  |seq xs n=>
   rw [hd] at h;exact (bz h).elim λh1 h2=>aO h1 λh1 h3=>aO h1 λh1 h4=>by
    rw [← aap h2,Array.toArray_toList];rw [aax h3] at hd;exact congrArg some (AU h1 h4 hd)
  |_=>rw [hd] at h;exact bq h
theorem L8{v:Value}:sO x v=v.isStr x:=by
 induction v with
 |str s t=>exact (n8 s x).trans rfl|_=>rfl
theorem AV:∀l:List DictEntry,(l.find? λe=>e.key.isStr x).map (·.val)=fc x l
 | []=>rfl|e::r=>by
  rw [List.find?_cons];show _=(match sO x e.key with|true=>some e.val|false=>fc x r)
  rw [L8,← AV r];cases e.key.isStr x<;>rfl
theorem jA(es:Array DictEntry):nsFind es x=fc x es.toList:=by
 rw [← AV,aiA];rfl
theorem uh:∀{l:List DictEntry},BY l=true->∀e∈l,∃s,zJ e.key=some s
 | [],_,_,h=>nomatch h
 |e::r,k,d,h=>aO k λk1 k2=>(adN.mp h).elim (λz=>z▸p8 k1) (uh k2 d)
theorem HP{es:Array DictEntry}(k:BY es.toList=true):StrKeys es:=λe h=>(uh k e (afN.mpr h)).imp λs z=>yj z
def Kn(F g:Addr->fy):Prop:=∀a o,g a=some o->j7 o=true->F a=some o
def Ma(P:Params)(l:List DictEntry):Prop:=l.map (·.hash)=l.map λe=>PyData.keyHash P (match zJ e.key with|some s=>s|none=>Str.empty)
theorem CS:∀{as:bR},B5 g as=B6 g P as->∀a∈as,∀l,nS g a=some l->Ma P l
 | [],_,_,h=>nomatch h
 |b::r,e,a,h=>by
  injection e with e1 e2
  refine (adN.mp h).elim (λz l q=>?_) (CS e2 a);rw [← z,q] at e1;exact e1
theorem E5{α β:Type}{f h:α->β}:∀{l:List α},l.map f=l.map h->∀a∈l,f a=h a
 | [],_,_,q=>nomatch q
 |b::r,e,a,q=>by
  injection e with e1 e2
  exact (adN.mp q).elim (λz=>z▸e1) (E5 e2 a)
theorem yk{es:Array DictEntry}{ep:Nat}{n:Nat}(k:BY es.toList=true)(h:Ma Pm es.toList)(hn:es.size<=n):dU (nsFind es) (kU es ep) n:=⟨es,ep,rfl,λd hd=>by
 have hd:=afN.mpr hd;refine bB λgg=>?_;obtain ⟨s,hs⟩:=uh k d hd;obtain ⟨t,ht⟩:=yj hs;refine gg ?_;have e:=E5 h d hd;rw [hs] at e;exact ⟨s,t,ht,e⟩,hn,λ_=>rfl⟩
theorem yl{v:CV}(h:Ze v y=true):bw F v y:=by
 induction v using CV.casesOn with
 |none=>cases y<;>first|rfl|exact bM h
 |bool b=>cases y<;>first|(cases (eq_of_beq h);rfl)|exact bM h
 |int i=>induction y with
  |int j t=>cases (of_decide_eq_true ((n7 i j).symm.trans h));exact ⟨t⟩
  |_=>exact bM h
 |str s=>induction y with
  |str u t=>cases dI.mp h;exact ⟨t⟩
  |_=>exact bM h
 |aA a=>cases y<;>first|(cases aax h;rfl)|exact bM h
 |type n=>exact jT h|blt n=>exact AR h|_=>exact bM h
theorem ym:∀{l:az}{xs:bU},OB l xs=true->bO F l xs
 | [],_,h=>jz h|v::r,[],h=>bM h|v::r,y::t,h=>aO h λh1 h2=>⟨y,t,rfl,yl h1,ym h2⟩
theorem jK.congr{es:List (Str×CV)}{m m':Str->cK}(h:jK F es m)(e:∀x,m x=m' x):jK F es m':=(funext e:m=m')▸h
theorem E6:∀{es:List (Str×CV)}{l:List DictEntry},UC es l=true->jK F es (fc · l)/\len es=l.length
 | [],l,h=>by rw [jz h];exact ⟨λ_=>rfl,rfl⟩|p::r,[],h=>bM h|p::r,e::t,h=>aO h λh h4=>aO h λh h3=>aO h λh1 h2=>by
  have z:=E6 h4;have k:∀x,fc x (e::t)=if p.1=x then some e.val else fc x t:=λx=>by
   show (match sO x e.key with|true=>some e.val|false=>fc x t)=_
   have h1:sO p.1 e.key=true:=h1;revert h1;unfold sO;induction zJ e.key with
   |none=>exact bM|some s=>
    intro h1;cases dI.mp h1;dsimp only;rw [n8];by_cases q:p.1=x
    ·rw [decide_eq_true q,if_pos q]
    ·rw [decide_eq_false q,if_neg q]
  refine ⟨⟨⟨e.val,(k _).trans (if_pos rfl),by obtain ⟨pn,pv⟩:=p;exact (show bw F pv e.val from yl h2)⟩,z.1.congr λx=>?_⟩,congrArg (· + 1) z.2⟩
  by_cases q:p.1=x
  ·rw [if_pos q,← q];exact oR h3
  ·rw [if_neg q];exact ((k x).trans (if_neg q)).symm
theorem CT{α:Type}{es:Array α}{n:Nat}(h:n=es.toList.length):es.size<=n:=adW (h.trans aiw).symm
theorem V6(kn:Kn F g){v:CV}(hh:∀es,v =.dct es->∀a l,y =.ref a->nS g a=some l->Ma Pm l)(h:crB g v y=true):bw F v y:=by
 induction v using CV.casesOn with
 |tup l=>
  exact ck h λa e h=>ck h λxs e2 h=>by
   rw [jU e];exact ⟨a,xs,kn _ _ (E4 e2) rfl,ym h⟩
 |dct es=>
  exact ck h λa e h=>ck h λxs e2 h=>by
   have hk:=hh es rfl a xs (jU e) e2;have q:=E6 (F:=F) h;rw [jU e];induction oS e2 with
   |mk es' ep h1 k=>exact ⟨a,_,nsFind es',kn _ _ h1 rfl,yk k hk (CT q.2),q.1.congr λx=>(jA es').symm⟩
 |_=>exact yl h
theorem AW{m:List DictEntry}:∀{l:List (Str×CV)}{p:Str×CV},p∈l->∀es,p.2 =.dct es->∀a,fc p.1 m=some (.ref a)->a∈qA m l
 |q::r,p,h,es,e1,a,e2=>by
  refine (adN.mp h).elim (λz=>?_) λz=>?_
  ·subst z
   dsimp only [qA];rw [e1,e2];exact .head _
  ·have z:=AW z es e1 a e2
   dsimp only [qA];induction q.2 using CV.casesOn with
   |dct _=>induction (fc q.1 m).bind sP with
    |none=>exact z|some b=>exact .tail _ z
   |_=>exact z
theorem um{m b:List DictEntry}:∀{l:List (Str×CV)},OD g m b l=true->∀p∈l,(∃y,fc p.1 m=some y/\crB g p.2 y=true)∨(fc p.1 m=none/\∃y,fc p.1 b=some y/\Ze p.2 y=true)
 | [],_,_,h=>nomatch h
 |q::r,h,p,hp=>aO h λh1 h2=>(adN.mp hp).elim (λz=>by
   subst z;revert h1;induction fc p.1 m with
   |some y=>exact λh1=>.inl ⟨y,rfl,h1⟩|none=>exact λh1=>ck h1 λy e h=>.inr ⟨rfl,y,e,h⟩) (um h2 p)
theorem oU{α:Type}{x:Str}{v:α}:∀{l:List (Str×α)},look x l=some v->(x,v)∈l
 | [],h=>bq h|(y,u)::r,h=>by
  rw [aC] at h;by_cases q:y=x
  ·rw [if_pos q] at h;rw [q,aap h];exact .head _
  ·rw [if_neg q] at h;exact .tail _ (oU h)
theorem V7(kn:Kn F g){m b:List DictEntry}(hm:nS g mainGlobals=some m)(hb:nS g builtinsNs=some b)(hg:OD g m b jd=true)(hh:∀a∈kY g,∀l,nS g a=some l->Ma Pm l):ZP F jd:=by
 have hd:∀a∈qA m jd,∀l,nS g a=some l->Ma Pm l:=λa ha=>hh a (.tail _ (.tail _ (by rw [hm];exact ha)))
 have h1:=hh mainGlobals (.head _) m hm;have h2:=hh builtinsNs (.tail _ (.head _)) b hb;induction oS hm with|mk es ep g1 k1=>
 induction oS hb with|mk es' SA g2 k2=>
 refine ⟨_,_,nsFind es,nsFind es',_,_,kn _ _ g1 rfl,yk k1 h1 (abv _),kn _ _ g2 rfl,yk k2 h2 (abv _),λx v q=>?_⟩;rw [jA,jA];exact (um hg (x,v) (oU q)).imp (λ⟨y,e,c⟩=>⟨y,e,V6 kn (λes e' a l e''=>hd a (AW (oU q) es e' a (e''▸e)) l) c⟩) λ⟨e,y,e',c⟩=>⟨e,y,e',yl c⟩
end
section
variable{g:Addr->fy}{F:Addr->fy}{a:Addr}{x:Str}{y:Value}{P:Params}
theorem E7{l:bU}{i:Nat}:af l i=l[i]?:=bW ..
theorem jV{vs:ig}{i:Nat}{v:Value}(h:af vs.toList i=some v):vs[i]?=some v/\vs.getD i .none=v:=by
 rw [E7,agT] at h;exact ⟨h,by rw [Array.getD_eq_getD_getElem?,h];rfl⟩
theorem wG{o:cK}(h:BZ o=true):∃s t,o=some (.str s t):=by
 induction o with
 |none=>exact bM h|some v=>exact (p8 h).elim λs e=>(yj e).elim λt e=>⟨s,t,congrArg _ e⟩
theorem l8{o:cK}(h:sQ o=true):∃i t,o=some (.int i t):=by
 induction o with
 |none=>exact bM h|some v=>cases v<;>first|exact ⟨_,_,rfl⟩|exact bM h
theorem CU{o:cK}(h:D8 o=true):∃b,o=some (.bool b):=by
 induction o with
 |none=>exact bM h|some v=>cases v<;>first|exact ⟨_,rfl⟩|exact bM h
theorem wH{o:Obj}(h:B0 o=true):vH o:=by
 unfold B0 at h;induction hd:o.data with
 |fields vs=>
  rw [hd] at h;refine aO h λh hc=>aO h λh h6=>aO h λh h5=>aO h λh h4=>aO h λh h3=>aO h λh1 h2=>?_;obtain ⟨s,t,e1⟩:=wG h1;obtain ⟨s',t',e3⟩:=wG h3;obtain ⟨i,ti,e4⟩:=l8 h4;obtain ⟨b,e5⟩:=CU h5;obtain ⟨j,tj,e6⟩:=l8 h6;obtain ⟨P,e2⟩:=p8 h2;obtain ⟨v,e2,e⟩:=agD.mp e2;rw [jU e] at e2;exact ⟨vs,P,s,t,s',t',i,ti,b,j,tj,jT hc,hd,(jV e1).1,(jV e2).1,(jV e2).2,(jV e3).2,(jV e4).2,(jV e5).2,(jV e6).2⟩
 |_=>rw [hd] at h;exact bM h
theorem vH.j7{o:Obj}(h:vH o):j7 o=true:=h.casesOn λvs P q t f tf fl tg b i ti e1 e2 _ _ _ _ _ _ _=>by
 unfold aT.j7;rw [e2,e1];rfl
theorem E8(kn:Kn F g){v:Value}(h:UD g v=true):jt F v:=ck h λo e h=>(agD.mp e).elim λc z=>by
 rw [jU z.1];exact ⟨c,o,rfl,kn _ _ z.2 (wH h).j7,wH h⟩
theorem QJ{fd:FuncData}(h:JC g a=some fd):∃o,g a=some o/\o.data =.func fd/\o.cls =.type "function" :=by
 unfold JC at h;induction q:g a with
 |none=>rw [q] at h;exact bq h|some o=>
  rw [q] at h;dsimp only at h;induction hd:o.data with
  |func f=>rw [hd] at h;exact (bz h).elim λh1 h2=>⟨o,rfl,by rw [hd,aap h2],jT h1⟩|_=>rw [hd] at h;exact bq h
theorem QK(kn:Kn F g){l:az}{v:Value}(h:UE g l v=true):(l=[]/\v =.none)∨fY F (bO F l) v:=by
 unfold UE at h;induction q:sP v with
 |none=>rw [q] at h;exact aO h λh1 h2=>.inl ⟨jz h2,ug h1⟩|some a=>rw [q] at h;exact ck h λxs e h=>.inr (by rw [jU q];exact ⟨a,xs,kn _ _ (E4 e) rfl,ym h⟩)
theorem abi(kn:Kn F g){f:Fn}{fd:FuncData}(h1:JC g a=some fd)(h2:fnB g f fd=true)(h3:fnD fd=(.stmts f.body,f.sc,f.ps)):FnF F a f:=by
 refine bB λgg=>?_;obtain ⟨o,e,d,c⟩:=QJ h1;refine gg ?_;injection h3 with d1 h3
 injection h3 with d2 d3
 exact bB λgg=>aO h2 λh c9=>aO h λh c8=>aO h λh c7=>aO h λh c6=>aO h λh c5=>aO h λh c4=>aO h λh c3=>gg <|aO h λc1 c2=>
  ⟨o,fd,kn _ _ e (by unfold j7;rw [d]),⟨d,c,d1,d2,d3,c1,aax c2,aax c3,E8 kn c4,QK kn c5,by revert c6;cases f.sc.isGenerator<;>first|exact λ_=>rfl|exact bM,by revert c7;cases f.sc.isCoroutine<;>first|exact λ_=>rfl|exact bM,by revert c8;cases f.sc.kind<;>first|exact λ_=>rfl|exact bM⟩,jz c9⟩
theorem Mb(kn:Kn F g):∀{l:List (Addr×Fn)},UG g l=true->B3 g l=B4 l->∀p∈l,FnF F p.1 p.2
 | [],_,_,_,h=>nomatch h
 |q::r,h,e,p,hp=>aO h λh1 h2=>by
  injection e with e1 e2
  refine (adN.mp hp).elim (λz=>?_) (Mb kn h2 e2 p);subst z;exact ck h1 λfd e h=>abi kn e h (by rw [e] at e1;exact aap e1)
end
section
variable{K:List (Addr×Obj)}{C:Addr}{c:pH}{o:Option cK}
theorem qa{n:String}(h:oB o (qz n)=true):o=some (some (.builtin n)):=by
 induction o with
 |none=>exact bM h|some r=>exact ck h λv e h=>by rw [e,AR h]
theorem V8{f:Addr}(h:oB o (isRef f)=true):o=some (some (.ref f)):=by
 induction o with
 |none=>exact bM h|some r=>exact ck h λv e h=>by rw [e,AS h]
theorem yo(h:OE o=true):o=some none:=by
 induction o with
 |none=>exact bM h|some r=>rw [oR h]
theorem Mc{o:cK}{n:String}(h:nT o (mC · n)=true):o=some (.type n):=ck h λv e h=>by rw [e,jT h]
theorem QL{o:Option PySem.W.CFound}{f:Addr}(h:ZU o f=true):o=some (.val (.ref f)):=by
 induction o with
 |none=>exact bM h|some r=>induction r with
  |val v=>rw [AS h]|get=>exact bM h
theorem E9:∀{l r:cI},uV l r=true->l=r
 | [],[],_=>rfl | [],_::_,h=>bM h|_::_,[],h=>bM h|a::l,b::r,h=>by
  have h:(match Nat.beq a b with|true=>uV l r|false=>false)=true:=h
  induction q:Nat.beq a b with
  |false=>rw [q] at h;exact bM h|true=>rw [q] at h;rw [aax q,E9 h]
theorem qb(D:Addr):∀l:az,j6 D l=(sR l).contains D
 | []=>rfl|v::r=>by
  induction v using CV.casesOn with
  |aA a=>
   show (match Nat.beq a D with|true=>true|false=>j6 D r)=(a::sR r).contains D
   rw [qb D r,adS,ahy];by_cases q:a=D
   ·subst q;simp
   ·rw [decide_eq_false q,show (D==a)=false from beq_false_of_ne (Ne.symm q)];rfl
  |_=>exact qb D r
theorem AX(D:Addr):∀l:bU,(refsOf l).contains D=l.contains (.ref D)
 | []=>rfl|v::r=>by
  rw [adS,← AX D r];cases v with
  |ref a=>
   show (a::refsOf r).contains D=_;rw [adS];congr 1;by_cases q:D=a
   ·subst q;rw [beq_self_eq_true,beq_self_eq_true]
   ·rw [beq_false_of_ne q,beq_false_of_ne λz=>q (aiM z)]
  |_=>exact (Bool.false_or _).symm.trans (congrArg (· ||_) (beq_false_of_ne (by exact nofun)).symm)
theorem AY:∀{l:List (Str×Option Addr)},JD K C l=true->∀p∈l,JD K C [p]=true
 | [],_,_,h=>nomatch h
 |q::r,h,p,hp=>aO h λh1 h2=>(adN.mp hp).elim (λz=>z▸ahb.mpr ⟨h1,rfl⟩) (AY h2 p)
theorem V9(h:ZV K C c=true):mH K C c:=
 bB λgg=>aO h λh h7=>aO h λh h6=>aO h λh h5=>aO h λh h4=>aO h λh h3=>aO h λh1 h2=>gg <|by
  have nx:c.isExc=false->_:=λe=>by rw [e] at h7;exact h7
  have at':∀x r,look x c.attrs=some r->JD K C [(x,r)]=true/\PySem.W.readsIn K C (.type "type")=true:=λx r e=>by
   have m:=oU e;revert h4;unfold Su;induction q:c.attrs with
   |nil=>rw [q] at m;exact nomatch m
   |cons p l=>exact λh4=>aO h4 λz1 z2=>⟨AY z2 _ (q▸m),z1⟩
  refine ⟨Mc h1,h2,λe=>bB λgg=>aO (nx e) λh _=>aO h λh _=>aO h λh _=>aO h λh _=>aO h λh _=>aO h λa b=>gg <|⟨qa a,eq_of_beq b⟩,?_,λx f e=>?_,λx e=>?_,h5,qa h6,λe=>bB λgg=>aO (nx e) λh _=>aO h λh _=>aO h λh _=>aO h λh _=>aO h λ_ b=>gg <|b,
   λe=>bB λgg=>aO (nx e) λh _=>aO h λh _=>aO h λh _=>aO h λ_ b=>gg <|qa b,λe=>bB λgg=>aO (nx e) λh _=>aO h λh _=>aO h λ_ b=>gg <|yo b,λe=>bB λgg=>aO (nx e) λh _=>aO h λ_ b=>gg <|qa b,λe=>aO (nx e) λ_ b=>b⟩
  ·exact bB λgg=>ck h3 λcd e h=>aO h λh c4=>aO h λh c3=>aO h λc1 c2=>gg <|⟨cd,e,c1,λD=>by rw [qb,E9 c2,AX],by revert c3;cases cd.mro.isEmpty<;>first|exact λ_=>rfl|exact bM,λn hn=>by
    have:=List.all_eq_true.mp c4 n hn;revert this;cases cd.mro.contains (.type n)<;>first|exact λ_=>rfl|exact bM⟩
  ·exact bB λgg=>aO (at' x _ e).1 λz _=>aO z λz z3=>aO z λz1 z2=>gg <|⟨V8 z1,Mc z2,_,(at' x _ e).2,QL z3⟩
  ·exact aO (at' x _ e).1 λz _=>yo z
theorem nh{α:Type}{l:List α}{f:α->List α->Bool}{G:Prop}(h:Ss l f=true)(c:∀a r,l=a::r->f a r=true->G):G:=by
 induction l with
 |nil=>exact bM h|cons a r=>exact c a r rfl h
theorem QM{v:Value}{f:Addr->Bool}{G:Prop}(h:ZS v f=true)(c:∀a,v =.ref a->f a=true->G):G:=by
 induction v with
 |ref a=>exact c a rfl h|_=>exact bM h
theorem QN{v:Value}{f:String->Bool}{G:Prop}(h:ZT v f=true)(c:∀a,v =.builtin a->f a=true->G):G:=by
 induction v with
 |builtin a=>exact c a rfl h|_=>exact bM h
theorem abj{o:Obj}(e:K.lookup C=some o)(h:mkB K C o=true):iJ K C:=by
 obtain ⟨oc,od,dt,sl⟩:=o;induction dt with
 |cls cd=>
  exact nh h λv bm hm h=>QM h λC' ev h=>nh h λs0 _ e0 h=>nh h λs1 _ e1 h=>nh h λs2 _ e2 h=>nh h λs3 _ e3 h=>nh h λb _ e4 h=>nh h λs5 _ e5 h=>aO h λh0 h=>ck h λ_ eb h=>QN h λn eb2 h=>aO h λh1 h2=>
   ⟨C',bm,n,cd,od,sl,s0,s1,s2,s3,s5,jT h1▸e,hm.trans (congrArg (· :: bm) ev),e0.trans (congrArg _ (e1.trans (congrArg _ (e2.trans (congrArg _ (e3.trans (congrArg _ (e4.trans (by rw [eb,eb2,e5,jz h0]))))))))),h2⟩
 |_=>exact bM h
theorem Wa(h:ZW K C=true):zG K C:=
 aO h λh h7=>aO h λh h6=>aO h λh h5=>aO h λh h4=>aO h λh h3=>aO h λh1 h2=>
  ⟨ck h1 λo e h=>abj e h,Mc h2,eq_of_beq h3,ck h4 λcd e h=>aO h λa b=>⟨cd,e,a,b⟩,qa h5,yo h6,qa h7⟩
theorem uo:∀{l:List (Addr×pH)},JE K l=true->∀p∈l,mH K p.1 p.2/\(p.2.isExc=true->zG K p.1)
 | [],_,_,h=>nomatch h
 |q::r,h,p,hp=>aO h λh h3=>aO h λh1 h2=>(adN.mp hp).elim (λz=>z▸⟨V9 h1,λe=>by rw [e] at h2;exact Wa h2⟩) (uo h3 p)
end
section
variable{g:Addr->fy}{F:Addr->fy}{n:Nat}
theorem jB{a:Addr}{o:Obj}:∀{l:bR},(fragOf g l).lookup a=some o->(a,o)∈fragOf g l/\g a=some o
 | [],h=>bq h|b::r,h=>by
  dsimp only [fragOf] at h ⊢;induction q:g b with
  |none=>rw [q] at h;exact jB h|some o'=>
   rw [q] at h;dsimp only at h ⊢;rw [agW] at h;induction z:a==b with
   |true=>rw [z] at h;rw [eq_of_beq z,← aap h];exact ⟨.head _,q⟩|false=>rw [z] at h;exact ⟨.tail _ (jB h).1,(jB h).2⟩
theorem wI:∀{l:List (Addr×Obj)},JF l=true->∀p∈l,j7 p.2=true
 | [],_,_,h=>nomatch h
 |q::r,h,p,hp=>aO h λh1 h2=>(adN.mp hp).elim (λz=>z▸h1) (wI h2 p)
theorem Wc{cx:Cx Prop}(kn:Kn F g)(hb:mJ g n=true)(hf:B3 g fM=B4 fM)(hh:B5 g (kY g)=B6 g Pm (kY g))(t:cx.top={ glob:=jd,fns:=fM,cls:=BW,cH:=fragOf g BX }):iK cx F:=
 bB λgg=>aO hb λhb h6=>aO hb λhb h5=>aO hb λhb h4=>aO hb λhb h3=>aO hb λh1 h2=>aO h6 λf1 f2=>ck h4 λm em h4=>ck h4 λb eb h4=>aO h4 λb1 b2=>gg <|by
  refine ⟨ck h2 λo e h=>⟨o,kn _ _ e h⟩,ck h3 λo e h=>?_,?_,bB λgg=>ck b1 λc ec h=>aO h λh n4=>aO h λn2 n3=>gg <|?_,?_,?_,?_,?_⟩
  ·induction hd:o.data with
   |dict es ep=>rw [hd] at h;exact aO h λk n=>⟨o,es,ep,kn _ _ e (by unfold j7;rw [hd]),hd,HP k,by rw [jA];exact oR n⟩|_=>rw [hd] at h;exact bM h
  ·rw [t];exact λa o q=>kn a o (jB q).2 (wI f1 _ (jB q).1)
  ·have hm:=CS hh mainGlobals (.head _) m em
   induction oS em with|mk es ep g1 k1=>
   refine bB λgg=>ck n4 λob eo h=>aO h λh d3=>aO h λd1 d2=>ck d2 λbd ed d2=>gg <|?_
   refine bB λgg=>?_;obtain ⟨v,ev,e⟩:=agD.mp ec;refine gg ?_;rw [jU e] at ev;have ne:∀{n:Nat},(!(Nat.beq c n))=true->c≠n:=λq z=>by rw [z,agf] at q;exact bM q
   refine ⟨_,nsFind es,_,c,ob,kn _ _ g1 rfl,yk k1 hm (abv _),by rw [jA];exact ev,ne n2,ne n3,kn _ _ eo ?_,jT d1,by rw [ed,← aax d2],?_⟩
   ·unfold j7;revert d3;cases ob.data<;>first|exact λ_=>rfl|exact bM
   ·revert d3;cases ob.data<;>first|exact λ_=>rfl|exact bM
  ·rw [t];exact λC c q=>(iS q).elim λp z=>z.2.1▸z.2.2▸(uo f2 p z.1).1
  ·rw [t];exact λC c q=>(iS q).elim λp z=>z.2.1▸z.2.2▸(uo f2 p z.1).2
  ·rw [t];exact λa f q=>(iS q).elim λp z=>z.2.1▸z.2.2▸Mb kn h5 hf p z.1
  ·rw [t];exact V7 kn em eb b2 (CS hh)
end
def bD(σ:aq)(ρ:bR)(P:aq->bR->Prop):Prop:=∀(cx:Cx Prop)(F:Fr cx)(S:Pt),Ok F S->S.σ=σ->S.W.ρ=ρ->∃W' σ',bH F S ⟨W',σ',S.s⟩/\P σ' W'.ρ
def uq(σ:aq)(P:aq->Prop):Prop:=∀ρ,len σ=len ρ->bD σ ρ λσ' _=>P σ'
section
variable{σ:aq}{ρ:bR}{P Q:aq->bR->Prop}{i k:Nat}{o o':MO}
theorem bD.pure(h:P σ ρ):bD σ ρ P:=λcx F S ok e1 e2=>⟨S.W,S.σ,.refl ok,by rw [e1,e2];exact h⟩
theorem bD.bind(h:bD σ ρ P)(q:∀σ' ρ',P σ' ρ'->bD σ' ρ' Q):bD σ ρ Q:=λcx F S ok e1 e2=>bB λgg=>(h cx F S ok e1 e2).elim λW' z=>z.elim λσ' z=>(q σ' W'.ρ z.2 cx F ⟨W',σ',S.s⟩ z.1.2 rfl rfl).elim λW2 y=>y.elim λσ2 y=>gg <|⟨W2,σ2,z.1.trans y.1,y.2⟩
theorem uq.of{P:aq->Prop}(h:uq σ P){cx:Cx Prop}{F:Fr cx}{S:Pt}(ok:Ok F S)(e:S.σ=σ){G:Prop}(c:∀W' σ',bH F S ⟨W',σ',S.s⟩->P σ'->G):G:=
 (h S.W.ρ (e▸ok.1.6) cx F S ok e rfl).elim λW' z=>z.elim λσ' z=>c W' σ' z.1 z.2
theorem bD.weak{σ':aq}(l:AO σ σ')(h:P σ' ρ):bD σ ρ P:=λcx F S ok e1 e2=>⟨S.W,σ',⟨⟨.refl _,.refl _⟩,ok.weak (e1▸l)⟩,by rw [e2];exact h⟩
theorem bD.cell(hi:af σ i=some o)(hc:∀W a h,W.ρ=ρ->af ρ i=some a->br W i a h o->br W i a h o')(h:P (setAt σ i o') ρ):bD σ ρ P:=λcx F S ok e1 e2=>by
 refine ⟨S.W,setAt σ i o',⟨⟨.refl _,.refl _⟩,⟨ok.1.1,ok.1.2,ok.1.3,ok.1.4,ok.1.5,(bL ..).trans (e1▸ok.1.6),λj x a q1 q2=>?_,ok.1.8,ok.1.9⟩,ok.2,ok.3,ok.4⟩,by rw [e2];exact h⟩
 by_cases e:i=j
 ·subst e
  rw [← aap ((av o' hi).symm.trans q1)];exact hc _ _ _ e2 (e2▸q2) (ok.1.7 i o a (e1▸hi) q2)
 ·exact ok.1.7 j x a (by rw [e1,← ay o' σ e];exact q1) q2
end
abbrev AZ(W:Wd)(own':Addr->Option aH):Prop:=P3 (∀b r,(∀i,r≠ .slot i)->W.own b=some r->own' b=some r) (∀b r,(∀i,r≠ .slot i)->own' b=some r->W.own b=some r) (∀b j,own' b=some (.slot j)->∃i,W.own b=some (.slot i))
section
variable{cx:Cx Prop}{F:Fr cx}{S:Pt}{own':Addr->Option aH}{ρ':bR}{σ':aq}{W:Wd}
theorem AZ.any(k:AZ W own'){b:Addr}{r:aH}(e:own' b=some r):∃r',W.own b=some r':=by
 cases r with
 |slot j=>exact (k.3 b j e).elim λi z=>⟨_,z⟩|kL o=>exact ⟨_,k.2 b (.kL o) (nofun) e⟩
 |kept o=>exact ⟨_,k.2 b (.kept o) (nofun) e⟩
 |cur=>exact ⟨_,k.2 b .cur (nofun) e⟩
 |tab p=>exact ⟨_,k.2 b (.tab p) (nofun) e⟩
theorem Ok.Fb(o:Ok F S)(k:AZ S.W own')(hρ:∀i a,af S.W.ρ i=some a->af ρ' i=some a)(hl:len σ'=len ρ')(c:∀j x a,af σ' j=some x->af ρ' j=some a->br ⟨S.W.aU,own',ρ'⟩ j a S.s.heap x):bH F S ⟨⟨S.W.aU,own',ρ'⟩,σ',S.s⟩:=by
 have I:=o.1;refine o.up ⟨⟨λ_ _ e=>e,λa ob=>k.1 a _ (nofun),λa ob=>k.1 a _ (nofun),λa=>k.1 a _ (nofun),λa p=>k.1 a _ (nofun),hρ⟩,.refl _⟩ ⟨I.1,λa ob e=>I.2 a ob (k.2 a _ (nofun) e),λa ob e=>I.3 a ob (k.2 a _ (nofun) e),λa r e=>?_,λa e=>?_,hl,c,
  ⟨λa ob P e t=>(I.8.1 a ob P e t).imp λp=>k.1 P _ (nofun),λP p e=>I.8.2 P p (k.2 P _ (nofun) e)⟩,λa e=>I.9 a (k.2 a _ (nofun) e)⟩ λ_ e=>e
 ·exact (k.any e).elim λr' z=>I.4 a r' z
 ·induction q:own' a with
  |none=>exact q|some r=>exact (k.any q).elim λr' z=>nomatch (I.5 a e).symm.trans z
end
def SC.mo:SC->MO
 |.nil=>.gone|.inst C fs=>.inst C (gX fs)|.dict fs=>.dict (gX fs)|.list l=>.list l []
section
variable{W W':Wd}{i i':Nat}{a:Addr}{h:Heap}{o:SC}
theorem u0.mo(c:u0 W i a h o):br W i a h o.mo:=by
 induction o with
 |nil=>trivial|inst C fs=>exact c|dict fs=>exact c|list l=>show gY W i a h (cat (bT l) []);rw [au];exact c
theorem u0.of(c:br W i a h o.mo):u0 W i a h o:=by
 induction o with
 |nil=>trivial|inst C fs=>exact c|dict fs=>exact c|list l=>have z:gY W i a h (cat (bT l) []):=c;rw [au] at z;exact z
theorem u0.to(c:u0 W i a h o)(kf:∀a o,W.aU a=some o->W'.aU a=some o)(ow:∀b,W.own b=some (.slot i)->W'.own b=some (.slot i')):u0 W' i' a h o:=c.qQ (g:=λ_=>none) ⟨⟨kf,λ_ _ _ e=>bq e⟩,λb _ e _=>ow b e,λ_ _ _ e=>e⟩
end
noncomputable def fS(own m:Addr->Option aH)(j k:Nat):Addr->Option aH:=λb=>match m b with
 |some r=>match r with
  |.slot n=>if n=j then some (.slot k) else own b
  |_=>own b
 |none=>own b
section
variable{own m:Addr->Option aH}{j k:Nat}{b:Addr}
theorem l9(h:m b=some (.slot j)):fS own m j k b=some (.slot k):=by unfold fS;rw [h];exact if_pos rfl
theorem jj(h:m b≠some (.slot j)):fS own m j k b=own b:=by
 unfold fS;induction q:m b with
 |none=>rfl|some r=>induction r with
  |slot n=>
   show (if n=j then _ else own b)=own b;exact if_neg λz=>h (q.trans (congrArg (λn=>some (aH.slot n)) z))
  |_=>rfl
theorem oV:(m b=some (.slot j)/\fS own m j k b=some (.slot k))∨(m b≠some (.slot j)/\fS own m j k b=own b):=(Classical.em (m b=some (.slot j))).imp (λh=>⟨h,l9 h⟩) λh=>⟨h,jj h⟩
theorem ur{W:Wd}(ht:∀b,m b=some (.slot j)->∃i,W.own b=some (.slot i)):AZ W (fS W.own m j k):=by
 refine ⟨λb r n e=>?_,λb r n e=>?_,λb x e=>?_⟩
 ·exact (jj λz=>(ht b z).elim λi q=>n i (aap (e.symm.trans q))).trans e
 ·induction oV (own:=W.own) (m:=m) (j:=j) (k:=k) (b:=b) with
  |inl z=>exact (n k (aap (z.2.symm.trans e)).symm).elim|inr z=>exact z.2.symm.trans e
 ·induction oV (own:=W.own) (m:=m) (j:=j) (k:=k) (b:=b) with
  |inl z=>exact ht b z.1|inr z=>exact ⟨x,z.2.symm.trans e⟩
end
theorem lI{a b:Nat}{o:Option aH}(h:o=some (.slot a))(h':o=some (.slot b)):a=b:=by rw [h] at h';cases h';rfl
noncomputable def Me(own:Addr->Option aH)(n:Nat):Addr->Option aH:=λb=>match own b with
 |some r=>match r with
  |.slot j=>if j=n then none else some (.slot j)
  |_=>none
 |none=>none
theorem Fc{own:Addr->Option aH}{n j:Nat}{b:Addr}:Me own n b=some (.slot j)->own b=some (.slot j)/\j≠n:=by
 unfold Me;induction own b with
 |none=>exact bq|some r=>induction r with
  |slot i=>
   show (if i=n then none else some (aH.slot i))=_->_;by_cases z:i=n
   ·rw [if_pos z];exact bq
   ·rw [if_neg z];exact λh=>⟨h,aH.slot.inj (aap h)▸z⟩
  |_=>exact bq
theorem QO{own:Addr->Option aH}{n j:Nat}{b:Addr}(h:own b=some (.slot j))(hj:j≠n):Me own n b=some (.slot j):=by unfold Me;rw [h];exact if_neg hj
section
variable{σ:aq}{ρ:bR}{P:aq->bR->Prop}{i k:Nat}
theorem HQ{α:Type}{l:List α}{p q:α}(h:af (app l p) (len l)=some q):p=q:=aap ((cz p l).symm.trans h)
theorem bD.box{l l':List (Addr×SC)}(hi:af σ i=some (.box l))(h0:af l' 0=af l 0)(hl:∀j p,af l' j=some p->p.2 =.nil∨af l j=some p)(h:P (setAt σ i (.box l')) ρ):bD σ ρ P:=
 .cell (o':=.box l') hi (λW a hp e hi c=>sL.casesOn c λown e top c=>⟨own,e,λp z=>top p (h0▸z),λj p z=>(hl j p z).elim (λq=>q▸trivial) (c j p)⟩) h
theorem bD.take{l:List (Addr×SC)}{p:Addr×SC}{n:Nat}(hi:af σ i=some (.box l))(hl:af l n=some p)(n0:n≠0)(h:P (app (setAt σ i (.box (setAt l n (0,.nil)))) p.2.mo) (app ρ p.1)):bD σ ρ P:=λcx F S ok e1 e2=>by
 subst e1 e2;refine gQ ok.1.6 hi λa ha=>?_;induction ok.1.7 i _ a hi ha with|mk own e top c=>
 have hN:i<len S.σ:=cQ hi;have new:∀{b j},j≠n->own b=some (.slot j)->fS S.W.own own n (len S.σ) b=some (.slot i):=λhj z=>(jj λy=>hj (lI z y)).trans (e _ _ z);refine ⟨⟨S.W.aU,fS S.W.own own n (len S.σ),app S.W.ρ p.1⟩,_,ok.Fb (ur λb z=>⟨i,e b _ z⟩) (λ_ _ e=>aB _ e) ?_ (λj x b q1 q2=>?_),h⟩
 ·rw [bu,bu,bL,ok.1.6]
 ·cases bF q1 with
  |inl q1=>
   have hj:j<len S.σ:=(bL ..)▸cQ q1;have q2:af S.W.ρ j=some b:=(bF q2).elim id λz=>absurd (z.1▸ok.1.6▸hj) (aec _);by_cases z:i=j
   ·subst z
    rw [← aap ((av _ hi).symm.trans q1)];cases ha.symm.trans q2;refine ⟨Me own n,λb j z=>new (Fc z).2 (Fc z).1,λp' z=>top p' ((ay _ _ n0).symm.trans z),λj p' z=>?_⟩;by_cases y:n=j
    ·rw [← y,av _ hl] at z;cases z;trivial
    ·exact (c j p' ((ay _ _ y).symm.trans z)).to (λ_ _ e=>e) λb w=>QO w (Ne.symm y)
   ·have q1:af S.σ j=some x:=(ay _ _ z).symm.trans q1
    exact (ok.1.7 j x b q1 q2).move (W:=S.W) (W':=⟨S.W.aU,fS S.W.own own n (len S.σ),app S.W.ρ p.1⟩) (.low ⟨λ_ _ e=>e,λ_ _ e=>aB _ e⟩ (λb y=>(jj λw=>z (lI (e b _ w) y)).trans y) λ_ _ _ g=>g)
  |inr q1=>
   have hb:p.1=b:=HQ (l:=S.W.ρ) (by rw [← ok.1.6,← bL (.box (setAt l n (0,.nil))) S.σ i,← q1.1];exact q2)
   rw [q1.1,q1.2,bL,← hb];exact (u0.to (W':=⟨S.W.aU,fS S.W.own own n (len S.σ),app S.W.ρ p.1⟩) (c n p hl) (λ_ _ e=>e) λb y=>l9 y).mo
theorem bD.put{l:List (Addr×SC)}{q:Addr×SC}{o:SC}{A:Addr}{n:Nat}(hi:af σ i=some (.box l))(hl:af l n=some q)(n0:n≠0)(hk:af σ k=some o.mo)(hA:af ρ k=some A)(ne:k≠i)(h:P (setAt (setAt σ i (.box (setAt l n (A,o)))) k .gone) ρ):bD σ ρ P:=λcx F S ok e1 e2=>by
 subst e1 e2;refine gQ ok.1.6 hi λa ha=>?_;induction ok.1.7 i _ a hi ha with|mk own e top c=>
 have old:∀{b j},own b=some (.slot j)->¬S.W.own b=some (.slot k):=λz y=>ne (lI y (e _ _ z));refine ⟨⟨S.W.aU,fS S.W.own S.W.own k i,S.W.ρ⟩,_,ok.Fb (ur λb z=>⟨k,z⟩) (λ_ _ e=>e) ?_ (λj x b q1 q2=>?_),h⟩
 ·rw [bL,bL,ok.1.6]
 ·by_cases z:k=j
  ·subst z
   rw [← aap ((av (x:=o.mo) _ ((ay _ _ (Ne.symm ne)).trans hk)).symm.trans q1)];trivial
  ·have q1:=(ay _ _ z).symm.trans q1
   by_cases y:i=j
   ·subst y
    rw [← aap ((av _ hi).symm.trans q1)];cases ha.symm.trans q2;refine ⟨fS own S.W.own k n,λb j z=>?_,λp' z=>top p' ((ay _ _ n0).symm.trans z),λj p' z=>?_⟩
    ·cases oV (own:=own) (m:=S.W.own) (j:=k) (k:=n) (b:=b) with
     |inl w=>exact l9 w.1|inr w=>exact (jj w.1).trans (e b j (w.2.symm.trans z))
    ·by_cases w:n=j
     ·rw [← w,av _ hl] at z;cases z
      exact w▸(u0.of (ok.1.7 k _ A hk hA)).to (λ_ _ e=>e) λb y=>l9 y
     ·exact (c j p' ((ay _ _ w).symm.trans z)).to (λ_ _ e=>e) λb y=>(jj (old y)).trans y
   ·have q1:=(ay _ _ y).symm.trans q1
    exact (ok.1.7 j x b q1 q2).move (W:=S.W) (W':=⟨S.W.aU,fS S.W.own S.W.own k i,S.W.ρ⟩) (.low ⟨λ_ _ e=>e,λ_ _ e=>e⟩ (λb w=>(jj λv=>z (lI v w)).trans w) λ_ _ _ g=>g)
end
noncomputable def vm(n:Nat)(N:En->Expr->cL->M Prop (cB×Lo)):List (Cx Prop)->En->Expr->cL->M Prop (cB×Lo)
 | []=>N|c::cs=>λe t body=>xq c { R c n with DW:=vm n N cs } e t body
def Mf{X:Type}(F:TF X)(c:Nat)(Q:X->List Hv->KL->Prop):En->Expr->cL->M Prop (cB×Lo):=λe _ _ σ k=>pK (F.pick e.m σ) λp=>pK (SY p.2 c (F.T p.1).m e.m σ) λq=>uq q.2 λσ'=>Oc (F.T p.1) (λhs=>Q p.1 hs k) q.1 σ'
inductive gU(cx c:Cx Prop):Prop where
 |mk (cuts:eN c) (top:c.top=cx.top)
def S7{X:Type}(cx:Cx Prop)(n:Nat)(t0:Expr)(iT:cL)(B:TB)(Fm:TF X)(Q:Nat->X->List Hv->KL->Prop)(i:Nat):Prop:=∀x hs d k,Q (i+1) x hs k->uq ((Fm.T x).sl hs) λσ'=>
 ∃c cs,gU cx c/\(∀c'∈cs,gU cx c')/\vm n (Mf Fm (len (Fm.T x).σ) (Q i)) (c::cs) (B.en (Fm.T x) d hs) t0 iT σ' k
section
variable{cx:Cx Prop}{F:Fr cx}{S S2:Pt}{a:Addr}{C:Spec Prop}
theorem lz.on'{c:Cx Prop}{k:KL}{Q:Flow->Shared->Prop}(q:lz F k S Q)(ht:c.top=cx.top)(le:Le S S2){m:Lo}:lz ((F.fix m).at c) k S2 Q:=λS' g m' fl le' o v h=>q S' g m' fl (le.trans le') (Ok.to (F:=F.fix m') o ht) v h
theorem vc.on'{c:Cx Prop}{k:KL}{E:b7}(q:vc F k S E)(ht:c.top=cx.top)(le:Le S S2){m:Lo}:vc ((F.fix m).at c) k S2 E:=λS' n a m' le' o=>q S' n a m' (le.trans le') (Ok.to (F:=F.fix m') o ht)
theorem Fd{n:Nat}{N:En->Expr->cL->M Prop (cB×Lo)}{t:Expr}{body:cL}{k:KL}{R:Result->Shared->Prop}(ok:lz F k S λf s=>R (.ok f) s)(er:vc F k S λe s=>R (.error e) s)
  (hN:∀S3 m,Le S S3->Ok (F.fix m) S3->N (fixed F.e m) t body S3.σ k->codeAny Md F.A (.whileLoop t body [] F.env) R S3.s) (cs:List (Cx Prop)) :
  (∀c∈cs,gU cx c)->∀S3 m,Le S S3->Ok (F.fix m) S3->vm n N cs (fixed F.e m) t body S3.σ k->codeAny Md F.A (.whileLoop t body [] F.env) R S3.s:=by
 induction cs with
 |nil=>exact λ_=>hN|cons c cs ih=>
  intro hc S3 m le o h;have z:=hc c (.head _);exact EB (F:=(F.fix m).at c) (xZ z.1 n).togb (Ok.at (F:=F.fix m) o z.2) h (λS4 m4 xO o4 h4=>ih (λc' h'=>hc c' (.tail _ h')) S4 m4 (le.trans xO) (Ok.to (F:=F.fix m4) o4 z.2) h4) (ok.on' z.2 le) (er.on' z.2 le)
theorem QS{X:Type}{n:Nat}{t0:Expr}{iT:cL}{B:TB}{Fm:TF X}{Q:Nat->X->List Hv->KL->Prop}(I:Nat)(H:∀i,i<I->S7 cx n t0 iT B Fm Q i)(h0:∀x hs k,¬Q 0 x hs k):jg cx (V5 B Fm t0 iT (Q I)):=by
 intro F t body S o k R h ok er;refine bB λgg=>?_;obtain ⟨⟨rfl,rfl,f⟩,h⟩:=h;refine gg ?_;have main:∀i,i<=I->∀S2 m x,Le S S2->Ok (F.fix m) S2->Oc (Fm.T x) (λhs=>Q i x hs k) m S2.σ->codeAny Md F.A (.whileLoop t body [] F.env) R S2.s:=by
  intro i;induction i with
  |zero=>exact λ_ S2 m x le o2 h=>(rK (B:=B) o2 f h).casesOn λhs h _ _ _=>(h0 _ _ _ h).elim|succ i ih=>
   refine λhi S2 m x le o2 h=>(rK (B:=B) o2 f h).casesOn λhs h o3 e3 e4=>(H i hi x hs ((F.fix m).e.dp-B.need) k h).of o3 rfl λW' σ' n3 z=>bB λgg=>z.elim λc z=>z.elim λcs z=>gg <|?_
   have hJ:=z.2.2;rw [e3] at hJ;refine Fd ok er (λS3 m3 pG o4 h3=>bZ h3 λp _ h3=>bZ h3 λq e h3=>?_) (c::cs) (aaw.2 ⟨z.1,z.2.1⟩) ⟨W',σ',S2.s⟩ _ (le.trans ⟨n3.1.1,n3.1.2⟩) n3.2 hJ;have g:=o.SY pG o4 (aco le.len (adW e4)) e;exact uq.of h3 g.2 rfl λW4 QT n4 h4=>ih (acH hi) ⟨W4,QT,S3.s⟩ q.1 p.1 (g.1.trans ⟨n4.1.1,n4.1.2⟩) n4.2 h4
 exact bZ h λp _ h=>main I (abv _) S F.e.m p.1 (.refl _) o h
def afc(K:Ex MV->aq->Prop)(res:Ex MV)(σ:aq):Prop:=uq σ λσ'=>(∀n,res =.error n->eL σ' n)/\K res σ'
theorem aJ.ent(h:aJ cx a C):aJ cx a (λhd dp as σ K=>uq σ λσ'=>C hd dp as σ' (afc K)):=λF as aj S dp sh fK o hv k R hS ok er=>
 uq.of hS o rfl λW' σ' n1 hS=>h F as aj ⟨W',σ',S.s⟩ dp sh fK n1.2 (hv.up n1.1.1) _ R hS
  (λS' b v n q h=>uq.of h n.2 rfl λW2 σ2 n2 h=>ok ⟨W2,σ2,S'.s⟩ b v (n1.trans (n.trans n2)) (ao.up q n2.1.1) h.2)
  λS' m x n e1 e2 h=>uq.of h n.2 rfl λW2 σ2 n2 h=>er ⟨W2,σ2,S'.s⟩ m x (n1.trans (n.trans n2)) (n2.1.1.6 _ _ e1) (h.1 m rfl) h.2
end
def qV(hs:List Hv)(k:CV->List Hv->Prop):Prop:=match hs with
 | []=>False|h::r=>match h with
  |.v c=>k c r|_=>False
def qL(hs:List Hv)(k:az->List Hv->Prop):Prop:=match hs with
 | []=>False|h::r=>match h with
  |.l c=>k c r|_=>False
def qI(hs:List Hv)(k:Int->List Hv->Prop):Prop:=match hs with
 | []=>False|h::r=>match h with
  |.i c=>k c r|_=>False
theorem i7{hs:List Hv}{k:CV->List Hv->Prop}{G:Prop}(h:qV hs k)(c:∀v r,hs =.v v::r->k v r->G):G:=by
 induction hs with
 |nil=>exact h.elim|cons x r=>induction x with|v v=>exact c v r rfl h|_=>exact h.elim
theorem fT{hs:List Hv}{k:az->List Hv->Prop}{G:Prop}(h:qL hs k)(c:∀v r,hs =.l v::r->k v r->G):G:=by
 induction hs with
 |nil=>exact h.elim|cons x r=>induction x with|l v=>exact c v r rfl h|_=>exact h.elim
theorem gq{hs:List Hv}{k:Int->List Hv->Prop}{G:Prop}(h:qI hs k)(c:∀v r,hs =.i v::r->k v r->G):G:=by
 induction hs with
 |nil=>exact h.elim|cons x r=>induction x with|i v=>exact c v r rfl h|_=>exact h.elim
abbrev KR:=Ex MV->aq->Prop
theorem fu{α:Type}{P:α->Prop}{a:α}{l:List α}(h:P a)(t:∀x∈l,P x):∀x∈a::l,P x:=aaw.2 ⟨h,t⟩
section
variable{cx:Cx Prop}
theorem Mg{ls:List (Addr×Spec Prop)}{lf:List (Nat×(En->Expr->It->cL->M Prop (cB×Lo)))}{lw:List (Nat×(En->Expr->cL->M Prop (cB×Lo)))}(e1:cx.spec=ls)(e2:cx.BG=lf)(e3:cx.BH=lw)
  (h1:∀p∈ls,aV cx p.1 p.2) (h2:∀p∈lf,j9 cx p.2) (h3:∀p∈lw,jg cx p.2):eN cx:=by subst e1 e2 e3;exact fR h1 h2 h3
theorem bE{a:Addr}{C:Spec Prop}{l:List (Addr×Spec Prop)}(h:aV cx a C)(t:∀p∈l,aV cx p.1 p.2):∀p∈(a,C)::l,aV cx p.1 p.2:=fu h t
theorem yp{n:Nat}{L:En->Expr->It->cL->M Prop (cB×Lo)}{l:List (Nat×(En->Expr->It->cL->M Prop (cB×Lo)))}(h:j9 cx L)(t:∀p∈l,j9 cx p.2):∀p∈(n,L)::l,j9 cx p.2:=fu h t
theorem QU{n:Nat}{L:En->Expr->cL->M Prop (cB×Lo)}{l:List (Nat×(En->Expr->cL->M Prop (cB×Lo)))}(h:jg cx L)(t:∀p∈l,jg cx p.2):∀p∈(n,L)::l,jg cx p.2:=fu h t
end
noncomputable abbrev S0(x:String):Str:=Str.ofString x
def fnOf(a:Addr):Fn:=match aD a fM with|some f=>f|none=>⟨Str.empty,[],[],[],⟨.module,[],false,false,[]⟩⟩
def cxL(z:CV):Cx Prop:=⟨cg,[(967,15,z)],[(966,21)],[],λ_ _=>none,[],[]⟩
noncomputable def ni(l:az)(o left:Int):MO:=.dict [(S0 "lots",.c (.lst l)),(S0 "out",.c (.at (.int o))),(S0 "left",.c (.at (.int left)))]
noncomputable def We:TO:=.dict [(S0 "lots",.c .lst),(S0 "out",.c .int),(S0 "left",.c .int)]
noncomputable def Wf:TS:=⟨.no,0,[.ref 0,.c .any],[We]⟩
def Wg(m:Nat)(f:CV->Prop)(b:Bool):Prop:=match b with
 |true=>AP m λr=>f (.int r)|false=>∀r:Nat,r<m->f (.at (.int r))
noncomputable def vn:List (Nat×Bool):=[(2,true),(4,true),(10,true),(3,true),(9,false),(30,false),(50,false)]
def Wh(m:Nat)(f:CV->Prop):Prop:=pK (aD m vn) (Wg m f)
noncomputable def CW(c:CV):Option Nat:=match c with
 |.int n=>match n with
  |.ofNat m=>some m|.negSucc _=>none
 |_=>none
def Mh(l:az):Prop:=∀i,i<len l->∃z,af l i=some (.at (.int z))
inductive dz(l:az)(o:Int):Prop where
 |mk (all:Mh l) (n:len l<1000) (o:0<=o)
theorem dz.inc{l:az}{o:Int}(h:dz l o):dz l (o+1):=⟨h.1,h.2,Int.le_add_one h.3⟩
def Wi(hs:List Hv)(K:KR):Prop:=qV hs λc hs=>qL hs λl hs=>qI hs λo hs=>qI hs λleft _=>pK (CW c) λm=>dz l o/\Wh m λr=>K (.ok (.c r)) [ni l (o+1) left]
def yq(as:aY)(σ:aq):Option (cI×mV):=match as with
 | []=>none|a::_=>(refOf a).map λn=>([n],[])
def Wj:Spec Prop:=cG yq (qT Wf Wi)
def abk(m:Nat)(l:az)(o left z:Int)(K:KR):Prop:=
 len l<aW/\(Zt (o+1) (len l)=true->(0<=o+1-1/\o+1-1<1000000/\af (bT l) (o+1-1).toNat=some (.c (.at (.int z))))/\K (.ok (.c (.at (.int (Int.fmod z m))))) [ni l (o+1) left])/\
  (Zt (o+1) (len l)=false->K (.ok (.c (.at (.int (Int.fmod (7*(o+1)+Int.fdiv (o+1) 3+3) m))))) [ni l (o+1) left])
inductive mO(m:Nat):Prop where
 |mk (h:∀(d:Nat)(l:az)(o left z:Int)(K:KR),BE (eO (cxL (.at (.int z))) 30 (fnOf 1494)) .no (d+0) [.ref 0,.c (.int (.ofNat m))] [ni l o left] K=abk m l o left z K)
theorem abl:mO 2:=⟨by intros;kernel_rfl⟩
theorem abm:mO 4:=⟨by intros;kernel_rfl⟩
theorem Wk:mO 10:=⟨by intros;kernel_rfl⟩
theorem abn:mO 3:=⟨by intros;kernel_rfl⟩
theorem abo:mO 9:=⟨by intros;kernel_rfl⟩
theorem Wl:mO 30:=⟨by intros;kernel_rfl⟩
theorem Wm:mO 50:=⟨by intros;kernel_rfl⟩
theorem QV{m:Nat}{b:Bool}(h:aD m vn=some b):mO m:=
 (iS h).elim λp z=>Eq.subst (motive:=mO) z.2.1 ((fu (P:=λp=>mO p.1) abl <|fu abm <|fu Wk <|fu abn <|fu abo <|fu Wl <|fu Wm ff) p z.1)
theorem oW{l:az}:∀{i:Nat}{z:CV},af l i=some z->af (bT l) i=some (.c z):=λ{i z} h=>by rw [bW] at h ⊢;rw [nY,ahM,h];rfl
theorem QW(z:Int){m:Nat}(h:0<m):∃r:Nat,r<m/\Int.fmod z m=r:=by
 have h1:=Int.fmod_nonneg_of_pos (a:=z) (b:=(m:Int)) (by lia)
 have h2:=Int.fmod_lt_of_pos (a:=z) (b:=(m:Int)) (by lia)
 exact ⟨(Int.fmod z m).toNat,by lia,by lia⟩
def Wn(b:Bool)(r:Ex MV):Ex MV:=match b with
 |true=>abg r|false=>r
theorem QX{m:Nat}{f:CV->Prop}{b:Bool}(h:Wg m f b){r:Nat}(hr:r<m):f (match b with|true=>.int r|false=>.at (.int r)):=by
 induction b with
 |true=>exact AQ h r hr|false=>exact h r hr
theorem A0{cx:Cx Prop}(ht:cx.top=cg)(x:Int×Bool):aJ cx 1494 (λhd dp as σ K=>BE (eO (cxL (.at (.int x.1))) 30 (fnOf 1494)) hd dp as σ λres σ'=>K (Wn x.2 res) σ'):=by
 have h0:aJ cx 1494 (BE (eO (cxL (.at (.int x.1))) 30 (fnOf 1494))):=uf (fh rfl rfl rfl) (by rw [ht];rfl) (by rw [ht];rfl)
 obtain ⟨z,b⟩:=x;induction b with
 |true=>exact h0.lit|false=>exact h0
theorem A1{m d:Nat}{l:az}{o left:Int}{K:KR}(h0:dz l o){b:Bool}(hm:aD m vn=some b)(h:Wg m (λr=>K (.ok (.c r)) [ni l (o+1) left]) b) :
  ∃x:Int×Bool,BE (eO (cxL (.at (.int x.1))) 30 (fnOf 1494)) .no (d+0) [.ref 0,.c (.int (.ofNat m))] [ni l o left] λres σ'=>K (Wn x.2 res) σ':=by
 have hp:0<m:=Nat.pos_of_ne_zero λz=>by rw [z] at hm;exact bq hm
 have hK:∀z:Int,K (Wn b (.ok (.c (.at (.int (Int.fmod z m)))))) [ni l (o+1) left]:=λz=>by
  obtain ⟨r,hr,e⟩:=QW z hp;have:=QX h hr;rw [e];cases b<;>exact this
 have h2:=h0.2;have h3:=h0.3;have hz:∃z,Zt (o+1) (len l)=true->af (bT l) (o+1-1).toNat=some (.c (.at (.int z))):=by
  by_cases q:o+1<=len l
  ·obtain ⟨z,hz⟩:=h0.1 (o+1-1).toNat (by lia)
   exact ⟨z,λ_=>oW hz⟩
  ·exact ⟨0,λz=>absurd (of_decide_eq_true z) q⟩
 obtain ⟨z,hz⟩:=hz;refine ⟨(z,b),?_⟩;rw [(QV hm).1];have e:o+1-1=o:=Int.add_sub_cancel o 1;exact ⟨Nat.lt_trans h2 (by decide),λq=>⟨⟨e.symm▸h3,by have:=of_decide_eq_true q;lia,hz q⟩,hK z⟩,λq=>hK _⟩
theorem rN{c:CV}{m:Nat}:CW c=some m->c =.int (.ofNat m):=by
 induction c using CV.casesOn with
 |int n=>induction n with
  |ofNat k=>exact λh=>by rw [aap h]|negSucc _=>exact bq
 |_=>exact bq
theorem Mi{cx:Cx Prop}(ht:cx.top=cg):aV cx 1494 Wj:=by
 refine eg (dN:=cx) (oQ (aJ.ex (A0 ht)) λhs d K h=>bB λgg=>i7 h λc r1 e1 h=>fT h λl r2 e2 h=>gq h λo r3 e3 h=>gq h λleft r4 e4 h=>gg <|bZ h λm e5 h=>?_) rfl
 rw [e1,e2,e3,e4,rN e5];exact bZ h.2 λb hm hb=>A1 h.1 hm hb
mutual
inductive dR where
 |say (n:Int)|fault|wanted|line (r:Nat)|mP (i:Nat)|held|set (n:Nat)|loc (n:Nat)|ev (text:Bool) (want:Nat) (ds:aK) (value:Nat) (ret:Bool)|qY (want value:Nat) (ret:Bool)
inductive aK where
 |nil|cons (d:dR) (ds:aK)
end
noncomputable def aI(n:Int):CV:=.at (.int n)
noncomputable def qc:Nat->CV
 |0=>.str (S0 "oh")|n+1=>match n with
  |0=>.str (S0 "oh\n")|n+1=>match n with
   |0=>.int 7|_+1=>.str (S0 "no")
noncomputable def abp(t:Bool):Str:=match t with
 |true=>S0 "text" |false=>S0 "block"
mutual
noncomputable def mQ:dR->CV
 |.say n=>.tup [.str (S0 "say"),aI n]|.fault=>.tup [.str (S0 "fault")]|.wanted=>.tup [.str (S0 "wanted")]|.line r=>.tup [.str (S0 "line"),aI (10+r)]|.mP i=>.tup [.str (S0 "die"),qc i]|.held=>.tup [.str (S0 "held")]|.set n=>.tup [.str (S0 "set"),aI n]|.loc n=>.tup [.str (S0 "local"),aI n]|.ev t w ds v r=>.tup [.str (abp t),.int (.ofNat w),.lst (cu ds),aI v,.bool r]|.qY w v r=>.tup [.str (S0 "text"),.int (.ofNat w),.none,aI v,.bool r]
noncomputable def cu:aK->az
 |.nil=>[]|.cons d ds=>mQ d::cu ds
end
noncomputable def aK.snoc:aK->dR->aK
 |.nil,d=>.cons d .nil|.cons e ds,d=>.cons e (ds.snoc d)
noncomputable def aK.num:aK->Nat
 |.nil=>0|.cons _ ds=>ds.num+1
mutual
noncomputable def Mj(aa:Nat)(d:dR):Prop:=match d with
 |.say n=> -900<=n/\n<=900|.fault=>True|.wanted=>True|.line r=>r<9|.mP i=>i<4|.held=>True|.set n=>aa=3/\n<50|.loc n=>aa<3/\n<50|.ev _ w ds v _=>match aa with
  |0=>False|aa+1=>w<3/\fD aa ds/\ds.num<=3/\v<30
 |.qY w v _=>match aa with
  |0=>False|_+1=>w<3/\v<30
noncomputable def fD(aa:Nat)(ds:aK):Prop:=match ds with
 |.nil=>True|.cons d ds=>Mj aa d/\fD aa ds
end
noncomputable def Wo(aa:Nat):TS:=⟨.no,aa+2,[.ref 0,.c (.num aa)],[We]⟩
noncomputable def most(aa:Nat):Nat:=match Nat.beq aa 3 with
 |true=>4|false=>3
noncomputable def cst:Nat->Nat
 |0=>1|d+1=>1+3*cst d
inductive Lf(n:Nat)(left:Int):Prop where
 |mk (lo:(n:Int)-900<=left) (hi:left<=900)
inductive Lg(n:Nat)(left dY:Int):Prop where
 |mk (lo:left-n<=dY) (hi:dY<=left)
def Wq(aa:Nat)(hs:List Hv)(K:KR):Prop:=qL hs λl hs=>qI hs λo hs=>qI hs λleft _=>dz l o/\Lf (most aa*cst aa) left/\∀ds o' dY,fD aa ds->ds.num<=most aa->dz l o'->Lg (most aa*cst aa) left dY->K (.ok (.c (.lst (cu ds)))) [ni l o' dY]
def CX(aa:Nat):Spec Prop:=cG yq (qT (Wo aa) (Wq aa))
noncomputable def abq:Expr:=.Name (S0 "") ⟨0,0,0,0⟩
noncomputable def afd:Stmt->Option (Expr×cL)
 |.For t _ b _ _=>some (t,b)|_=>none
def wJ(l:cL)(i:Nat):Expr×cL:=((af l i).bind afd).getD (abq,[])
def dT:Expr:=(wJ (fnOf 1501).body 1).1
def A2:cL:=(wJ (fnOf 1501).body 1).2
def CY(aa:Nat):TB:=⟨(fnOf 1501).sc,[],.no,aa+2⟩
noncomputable def nj(aa:Nat):TF Unit:=⟨λ_=>⟨[(S0 "hat",.ref 0),(S0 "deep",.c (.num aa)),(S0 "found",.ref 1)],[We,.list []]⟩,λ_ _=>some ((),[0,1])⟩
abbrev S8(aa i n:Nat)(l:az)(o left:Int)(A3:aK)(f:az->Int->Int->Prop):Prop:=P6 (n<i) (dz l o) (fD aa A3) (A3.num+n<=most aa) (Lf (n*cst aa) left) (∀ds o' dY,fD aa ds->ds.num=A3.num+n->dz l o'->Lg (n*cst aa) left dY->f (cu ds) o' dY)
def Fe(aa i:Nat)(it:It)(l:az)(o left:Int)(pre:az)(f:az->Int->Int->Prop):Prop:=match it with
 |.range a b=>∃n A3,b=a+(n:Nat)/\pre=cu A3/\S8 aa i n l o left A3 f|_=>False
noncomputable def Mk(aa:Nat):Lo:=[(S0 "hat",.ref 0),(S0 "deep",.c (.int (.ofNat aa))),(S0 "found",.ref 1)]
def A4(aa i:Nat)(_:Unit)(it:It)(hs:List Hv)(k:KL):Prop:=qL hs λl hs=>qI hs λo hs=>qI hs λleft hs=>qL hs λpre _=>Fe aa i it l o left pre λF o' dY=>k (.next,Mk aa) [ni l o' dY,.list F []]
noncomputable def Ml(aa:Nat):List (Addr×Spec Prop):=match aa with
 |0=>[(1494,Wj)]|d+1=>[(1494,Wj),(1501,CX d)]
def Mm(aa i:Nat):Cx Prop:=⟨cg,[],[(995,11)],Ml aa,λ_ _=>none,[(971,HN (CY aa) (nj aa) dT A2 (A4 aa i))],[]⟩
def oX(p:Prop):Prop:=true=true/\true=true/\((Nat->az)->True->p)
def uu(l:az)(o:Int)(m:Nat)(f:CV->Prop):Prop:=oX (dz l o/\Wh m λc=>True/\f c)
def QY(e:Expr)(b:cL)(s:Scope)(cl:ja)(h:Hd)(n m:Nat):Prop:=e=e/\b=b/\s=s/\cl=cl/\h=h/\n<=m
def afe(aa d:Nat):Prop:=QY dT A2 (fnOf 1501).sc [] .no (aa+2) (d+(aa+2))
def abr(c:CV):Int:=match b8 c with
 |some n=>n.1|none=>0
def Wr(c:CV):Int:=1+abr c
abbrev oY(aa:Nat):Prop:=P1 (∀(d i:Nat)(l:az)(o left:Int)(K:KR),BE (eO (Mm aa i) 30 (fnOf 1501)) .no (d+(aa+2)) [.ref 0,.c (.int (.ofNat aa))] [ni l o left] K =
   uu l o (most aa) λc=>(0<=Wr c/\Wr c<aW)/\afe aa d/\Fe aa i (.range 0 (Wr c)) l (o+1) left [] λF o' dY=>K (.ok (.c (.lst (cat F [])))) [ni l o' dY])
theorem QZ:oY 0:=⟨by intros;kernel_rfl⟩
theorem Q0:oY 1:=⟨by intros;kernel_rfl⟩
theorem Q2:oY 2:=⟨by intros;kernel_rfl⟩
theorem Q3:oY 3:=⟨by intros;kernel_rfl⟩
theorem Ff{P:Nat->Prop}(h0:P 0)(h1:P 1)(h2:P 2)(h3:P 3){n:Nat}(h:n<=3):P n:=by
 match n,h with
 |0,_=>exact h0|1,_=>exact h1|2,_=>exact h2|3,_=>exact h3
def Fg(cx:Cx Prop)(r:dZ Prop)(e:En)(t:Expr)(v:MV)(it':It)(body:cL):M Prop (cB×Lo):=
 bindM (gy cx r e t v) λam=>match am.1 with
  |.next=>bindM (r.exs (fixed e am.2) body) λfm=>match fm.1 with
   |.next=>r.gh (fixed e fm.2) t it' body|.cont=>r.gh (fixed e fm.2) t it' body|.brk=>aE (.next,fm.2)|_=>aE fm
  |_=>aE am
theorem HR{cx:Cx Prop}{r:dZ Prop}{e:En}{t:Expr}{a b:Int}{body:cL}{σ:aq}{k:KL}(h:a<b):dg cx r e t (.range a b) body σ k=Fg cx r e t (.c (.int a)) (.range (a+1) b) body σ k:=by
 have h:fX a b=true:=decide_eq_true h;unfold dg sF bindM;dsimp only;rw [h];rfl
theorem vo{cx:Cx Prop}{r:dZ Prop}{e:En}{t:Expr}{a b:Int}{body:cL}{σ:aq}{k:KL}(h:¬a<b):dg cx r e t (.range a b) body σ k=bindM (kO e) (λ_=>aE (.next,e.m)) σ k:=by
 have h:fX a b=false:=decide_eq_false h;unfold dg sF bindM;dsimp only;rw [h];rfl
def ifB(b:Bool)(p q:Prop):Prop:=match b with
 |true=>p|false=>q
noncomputable def pick(n:Nat)(e:Prop):List (Nat×Prop)->Prop
 | []=>e|p::r=>ifB (Nat.beq p.1 n) p.2 (pick n e r)
def Ws(d:Nat)(l:az)(o left:Int)(f:az->Int->Int->Prop):Prop:=oX (dz l o/\Lf (most d*cst d) left/\∀ds o' dY,fD d ds->ds.num<=most d->dz l o'->Lg (most d*cst d) left dY->True/\f (cu ds) o' dY)
def Mn(c:CV):Nat:=(CW c).getD 99
def abt(c:CV):CV:=.at (.int (10+abr c))
abbrev KJ:=CV->Int->Int->Prop
def yr(w:Str)(l:az)(o left:Int)(want D:CV)(J:KJ):Prop:=uu l o 30 λv=>uu l (o+1) 2 λr=>J (.tup [.str w,want,D,v,.bool (Nat.beq (Mn r) 1)]) (o+1+1) left
def abu(d:Nat)(l:az)(o left:Int)(J:KJ):Prop:=uu l (o+1) 3 λwant=>uu l (o+1+1) 2 λwd=>Ws d l (o+1+1+1) left λD o4 oZ=>ifB (Nat.beq (Mn wd) 1)
 (uu l o4 4 λq=>ifB (Nat.beq (Mn q) 3) (yr (S0 "text") l (o4+1) oZ want .none J) (yr (S0 "text") l (o4+1) oZ want (.lst D) J)) (yr (S0 "block") l o4 oZ want (.lst D) J)
noncomputable def Wt(aa:Nat):Str:=match Nat.beq aa 3 with
 |true=>S0 "set" |false=>S0 "local"
def Mp(aa:Nat)(l:az)(o left:Int)(J:KJ):Prop:=match aa with
 |0=>J (.tup [.str (S0 "fault")]) (o+1) left|d+1=>abu d l o left J
def Mq(aa:Nat)(l:az)(o left:Int)(J:KJ)(c:CV):Prop:=pick (Mn c) (Mp aa l o left J) [
 (1,uu l (o+1) 9 λr=>J (.tup [.str (S0 "line"),abt r]) (o+1+1) left),
 (2,uu l (o+1) 4 λr=>J (.tup [.str (S0 "die"),qc (Mn r)]) (o+1+1) left),
 (5,J (.tup [.str (S0 "fault")]) (o+1) left),
 (6,J (.tup [.str (S0 "wanted")]) (o+1) left),
 (8,uu l (o+1) 50 λr=>J (.tup [.str (Wt aa),r]) (o+1+1) left),
 (9,J (.tup [.str (S0 "held")]) (o+1) left),
 (0,J (.tup [.str (S0 "say"),aI left]) (o+1) left)]
def Mr(aa:Nat)(l:az)(o left:Int)(J:KJ):Prop:=
 (fX 0 (left-1)=true->uu l o 10 λc=>Mq aa l o (left-1) J c)/\(fX 0 (left-1)=false->J (.tup [.str (S0 "say"),aI (left-1)]) o (left-1))
abbrev uv(aa:Nat):Prop:=P1 (∀(d i:Nat)(a b:Int)(l pre:az)(o left:Int)(k:KL),
  Fg (Mm aa i) { R (Mm aa i) 30 with gh:=qW (nj aa) 2 (A4 aa i) } ⟨(fnOf 1501).sc,[],Mk aa,.no,d+(aa+2)⟩ dT (.c (.int a)) (.range (a+1) b) A2 [ni l o left,.list pre []] k =
   Mr aa l o left λc o' dY=>len pre+0<aW/\Fe aa i (.range (a+1) b) l o' dY (cat pre [c]) λF o' dY=>k (.next,Mk aa) [ni l o' dY,.list F []])
theorem Wu:uv 0:=⟨by intros;kernel_rfl⟩
theorem Wv:uv 1:=⟨by intros;kernel_rfl⟩
theorem Ww:uv 2:=⟨by intros;kernel_rfl⟩
theorem Wx:uv 3:=⟨by intros;kernel_rfl⟩
noncomputable def afg(b:Bool)(r:Nat):CV:=match b with
 |true=>.int r|false=>.at (.int r)
theorem gG{l:az}{o:Int}{m:Nat}{f:CV->Prop}{b:Bool}(h:dz l o)(hm:aD m vn=some b)(q:∀r,r<m->f (afg b r)):uu l o m f:=by
 refine ⟨rfl,rfl,λ_ _=>⟨h,?_⟩⟩;show pK (aD m vn) _;rw [hm];induction b with
 |true=>exact allLt_of λr hr=>⟨trivial,q r hr⟩|false=>exact λr hr=>⟨trivial,q r hr⟩
abbrev JOk(aa:Nat)(l:az)(abw:Int)(J:KJ):Prop:=∀dd o left,Mj aa dd->dz l o->Lg (cst aa) abw left->J (mQ dd) o left
theorem yt{w:Str}{l:az}{o left:Int}{want D:CV}{J:KJ}(h:dz l o)(q:∀(v:Nat)(r:Bool),v<30->J (.tup [.str w,want,D,aI v,.bool r]) (o+1+1) left):yr w l o left want D J:=
 gG h rfl λv hv=>gG h.inc rfl λr _=>q v _ hv
theorem yu{d:Nat}:d<3->most d=3:=λh=>by
 unfold most;induction e:Nat.beq d 3 with
 |true=>rw [aax e] at h;exact absurd h (aec 3)|false=>rfl
theorem CZ{b:Bool}{p q:Prop}(h1:p)(h2:q):ifB b p q:=by
 induction b with
 |true=>exact h1|false=>exact h2
theorem lJ(d:Nat):1<=cst d:=by induction d with|zero=>exact abv _|succ d=>exact abW _ _
theorem vp{d:Nat}{left:Int}:Lg (cst d) left (left-1):=⟨by have:=lJ d;lia,Int.sub_le_self _ (by decide)⟩
theorem Q4{d:Nat}{l:az}{o left:Int}{J:KJ}(h0:dz l o)(hd:d<3)(hl:Lf (cst (d+1)) left)(h:JOk (d+1) l left J):abu d l o (left-1) J:=by
 have lf:Lf (most d*cst d) (left-1):=by rw [yu hd];exact ⟨by have:=hl.1;show ((3*cst d:Nat):Int)-900<=left-1;have:((1+3*cst d:Nat):Int)-900<=left:=this;lia,by have:=hl.2;lia⟩
 have h3:=h0.inc.inc.inc;refine gG h0.inc rfl λw hw=>gG h0.inc.inc rfl λwd _=>⟨rfl,rfl,λ_ _=>⟨h3,lf,λds o4 oZ z1 z2 z3 z4=>⟨trivial,?_⟩⟩⟩;rw [yu hd] at z2 z4;have lg:Lg (cst (d+1)) left oZ:=⟨by have:=z4.1;show left-((1+3*cst d:Nat):Int)<=oZ;lia,by have:=z4.2;lia⟩
 have ev:∀t v r o,v<30->dz l o->J (mQ (.ev t w ds v r)) o oZ:=λt v r o hv q=>h (.ev t w ds v r) o oZ ⟨hw,z1,z2,hv⟩ q lg;exact CZ (gG z3 rfl λq _=>CZ (yt z3.inc λv r hv=>h (.qY w v r) _ oZ ⟨hw,hv⟩ z3.inc.inc.inc lg) (yt z3.inc λv r hv=>ev true v r _ hv z3.inc.inc.inc)) (yt z3 λv r hv=>ev false v r _ hv z3.inc.inc)
theorem Q5{aa:Nat}{l:az}{o left:Int}{J:KJ}(h0:dz l o)(hd:aa<=3)(hl:Lf (cst aa) left)(h:JOk aa l left J):Mp aa l o (left-1) J:=by
 induction aa with
 |zero=>exact h .fault _ _ trivial h0.inc vp|succ d=>exact Q4 h0 hd hl h
theorem Ms{d:Nat}{left:Int}(hl:Lf (cst d) left) : -900<=left-1/\left-1<=900:=by
 have a:=hl.1;have b:=hl.2;have:=lJ d;lia
noncomputable def AllP:List (Nat×Prop)->Prop
 | []=>True|p::r=>p.2/\AllP r
theorem Q6{n:Nat}{e:Prop}{l:List (Nat×Prop)}(h:e)(hl:AllP l):pick n e l:=by
 induction l with
 |nil=>exact h|cons p l ih=>exact CZ hl.1 (ih hl.2)
theorem Wy{aa:Nat}{l:az}{o left:Int}{J:KJ}(h0:dz l o)(hd:aa<=3)(h:JOk aa l left J)(r:Nat)(hr:r<50):J (.tup [.str (Wt aa),aI r]) o (left-1):=by
 unfold Wt;induction e:Nat.beq aa 3 with
 |true=>exact h (.set r) _ _ ⟨aax e,hr⟩ h0 vp|false=>exact h (.loc r) _ _ ⟨Nat.lt_of_le_of_ne hd λz=>by rw [z] at e;exact bM e.symm,hr⟩ h0 vp
theorem Q7{aa:Nat}{l:az}{o left:Int}{J:KJ}(h0:dz l o)(hd:aa<=3)(hl:Lf (cst aa) left)(h:JOk aa l left J)(c:CV):Mq aa l o (left-1) J c:=
 Q6 (Q5 h0 hd hl h) ⟨gG h0.inc rfl λr hr=>h (.line r) _ _ hr h0.inc.inc vp,gG h0.inc rfl λr hr=>h (.mP r) _ _ hr h0.inc.inc vp,h .fault _ _ trivial h0.inc vp,h .wanted _ _ trivial h0.inc vp,
  gG h0.inc rfl λr hr=>Wy h0.inc.inc hd h r hr,h .held _ _ trivial h0.inc vp,h (.say (left-1)) _ _ (Ms hl) h0.inc vp,trivial⟩
theorem HT{aa:Nat}{l:az}{o left:Int}{J:KJ}(h0:dz l o)(hd:aa<=3)(hl:Lf (cst aa) left)(h:JOk aa l left J):Mr aa l o left J:=
 ⟨λ_=>gG h0 rfl λc _=>Q7 h0 hd hl h _,λ_=>h (.say (left-1)) _ _ (Ms hl) h0 vp⟩
theorem Fi(ds:aK)(d:dR):cu (ds.snoc d)=cat (cu ds) [mQ d]:=match ds with
 |.nil=>rfl|.cons e ds=>congrArg (mQ e :: ·) (Fi ds d)
theorem uw(ds:aK)(d:dR):(ds.snoc d).num=ds.num+1:=match ds with
 |.nil=>rfl|.cons e ds=>congrArg (· + 1) (uw ds d)
theorem Fj{aa:Nat}(ds:aK){d:dR}(h:fD aa ds)(h2:Mj aa d):fD aa (ds.snoc d):=match ds with
 |.nil=>⟨h2,trivial⟩|.cons e ds=>⟨h.1,Fj ds h.2 h2⟩
theorem A5(ds:aK):len (cu ds)=ds.num:=match ds with
 |.nil=>rfl|.cons d ds=>congrArg (· + 1) (A5 ds)
theorem A6{aa i:Nat}{it:It}{l:az}{o left:Int}{pre:az}{f:az->Int->Int->Prop}{G:Prop}(h:Fe aa i it l o left pre f)(c:∀a n A3,it =.range a (a+(n:Nat))->pre=cu A3->S8 aa i n l o left A3 f->G):G:=by
 induction it with
 |range a b=>exact h.elim λn h=>h.elim λA3 h=>c a n A3 (by rw [h.1]) h.2.1 h.2.2|_=>exact h.elim
theorem Wz{n:Nat}(h:n<=3):oY n:=Ff QZ Q0 Q2 Q3 h
theorem abx{n:Nat}(h:n<=3):uv n:=Ff Wu Wv Ww Wx h
theorem C0{aa:Nat}:most aa<=4/\3<=most aa/\aD (most aa) vn=some true:=by
 unfold most;induction Nat.beq aa 3 with
 |true=>exact ⟨abv _,by decide,rfl⟩|false=>exact ⟨by decide,abv _,rfl⟩
theorem HU{aa i:Nat}(hd:aa<=3)(x:Unit)(it:It)(hs:List Hv)(d:Nat)(k:KL)(h:A4 aa (i+1) x it hs k) :
  dg (Mm aa i) { R (Mm aa i) 30 with gh:=qW (nj aa) (len ((nj aa).T ()).σ) (A4 aa i) } ((CY aa).en ((nj aa).T ()) d hs) dT it A2 (((nj aa).T ()).sl hs) k:=
 bB λgg=>fT h λl r1 e1 h=>gq h λo r2 e2 h=>gq h λleft r3 e3 h=>fT h λpre r4 e4 h=>gg <|A6 h λa n A3 e5 e6 q=>by
  rw [e1,e2,e3,e4,e5,e6];induction n with
  |zero=>
   rw [vo (by rw [Int.natCast_zero,Int.add_zero];exact aiD a)]
   exact q.6 A3 o left q.3 rfl q.2 ⟨by lia,aen _⟩
  |succ n=>
   rw [HR (Int.lt_add_of_pos_right a (Int.natCast_pos.mpr (aiH n)))];refine ((abx hd).1 d i a (a+((n+1:Nat):Int)) l (cu A3) o left k).mpr (HT q.2 hd ⟨by have:=q.5.1;rw [ahn] at this;lia,q.5.2⟩ λdd o' dY q1 q2 q3=>⟨?_,n,A3.snoc dd,?_,(Fi ..).symm,adM q.1,q2,Fj A3 q.3 q1,?_,?_,λds o2 aby z1 z2 z3 z4=>q.6 ds o2 aby z1 ?_ z3 ?_⟩)
   ·rw [A5];exact adQ (aco (abW _ _) (aco q.4 C0.1)) (by decide)
   ·rw [Int.add_assoc];exact congrArg (a + ·) (by rw [Int.natCast_succ,Int.add_comm])
   ·rw [uw,aez,aeh 1 n];exact q.4
   ·exact ⟨by have a:=q.5.1;have b:=q3.1;rw [ahn] at a;lia,agV q3.2 q.5.2⟩
   ·rw [z2,uw,aez,aeh 1 n]
   ·exact ⟨by have a:=z4.1;have b:=q3.1;rw [ahn];lia,agV z4.2 q3.2⟩
abbrev C1(aa:Nat):Prop:=∀cx:Cx Prop,cx.top=cg->aV cx 1501 (CX aa)
def Below(aa:Nat):Prop:=match aa with
 |0=>True|d+1=>C1 d
theorem HV{aa:Nat}(hd:aa<=3)(i:Nat)(ih:∀j,j<i->eN (Mm aa j)):j9 (Mm aa i) (HN (CY aa) (nj aa) dT A2 (A4 aa i)):=
 yi (n:=30) i (λj hj=>⟨Mm aa j,ih j hj,rfl,HU hd⟩) λx it hs k h=>fT h λl r1 e1 h=>gq h λo r2 e2 h=>gq h λleft r3 e3 h=>fT h λpre r4 e4 h=>A6 h λa n A3 _ _ q=>absurd q.1 (adP _)
theorem C2{aa:Nat}(hp:Below aa)(i:Nat):∀p∈Ml aa,aV (Mm aa i) p.1 p.2:=by
 induction aa with
 |zero=>exact bE (Mi rfl) ff|succ d=>exact bE (Mi rfl) (bE (hp _ rfl) ff)
theorem C3{aa:Nat}(hd:aa<=3)(hp:Below aa)(i:Nat):eN (Mm aa i):=by
 induction i using Nat.strongRecOn with
 |_ i ih=>exact Mg rfl rfl rfl (C2 hp i) (yp (HV hd i ih) ff) ff
theorem wK{aa:Nat}(hd:aa<=3)(hp:Below aa):C1 aa:=λcx ht=>by
 have h0:aJ cx 1501 (BE (eO (Mm aa 5) 30 (fnOf 1501))):=uf (C3 hd hp 5) (by rw [ht];rfl) (by rw [ht];rfl)
 refine eg (dN:=cx) (oQ h0 λhs d K h=>bB λgg=>fT h λl r1 e1 h=>gq h λo r2 e2 h=>gq h λleft r3 e3 h=>gg <|?_) rfl
 rw [e1,e2,e3];have m:=C0 (aa:=aa);refine ((Wz hd).1 d 5 l o left K).mpr (gG h.1 m.2.2 λr hr=>⟨⟨?_,?_⟩,⟨rfl,rfl,rfl,rfl,rfl,aeq _ _⟩,1+r,.nil,?_,rfl,?_,h.1.inc,trivial,?_,?_,λds o' dY z1 z2 z3 z4=>?_⟩)
 ·exact agV (by decide) (adR (ahk r))
 ·show (1:Int)+r<aW
  have:=m.1;unfold aW;lia
 ·show (1:Int)+r=0+((1+r:Nat):Int)
  rw [Int.zero_add,Int.natCast_add];rfl
 ·have:=m.1;lia
 ·show 0+(1+r)<=_
  rw [aeb,aeh];exact hr
 ·have a:=h.2.1.1
  have b:=afP (cst aa) (show 1+r<=most aa by lia)
  exact ⟨by lia,h.2.1.2⟩
 ·show K (.ok (.c (.lst (cat (cu ds) [])))) _
  rw [au];refine h.2.2 ds o' dY z1 ?_ z3 ⟨by have a:=z4.1;have b:=afP (cst aa) (show 1+r<=most aa by lia);lia,z4.2⟩
  rw [z2,show (aK.nil.num+(1+r))=1+r from aeb _,aeh];exact hr
theorem Mt(aa:Nat):aa<=3->C1 aa:=by
 induction aa with
 |zero=>exact λhd=>wK hd trivial|succ d ih=>exact λhd=>wK hd (ih (acH hd))
noncomputable def jk(n:Nat)(r:Bool):CV:=match r with
 |true=>.tup [.str (S0 "subreturn"),.int n]|false=>.tup [.str (match n with|0=>S0 "return0" |n+1=>match n with|0=>S0 "return1" |_+1=>S0 "return2")]
noncomputable def cj(v:CV):CV:=.tup [.str (S0 "const"),v]
def yw(n:Nat)(v:Int):az:=match n with
 |0=>[]|n+1=>match n with
  |0=>[cj (aI v)]|_+1=>[cj (aI v),.tup [.str (S0 "wrap")]]
def iy(n:Nat)(v:Int)(r:Bool):az:=cat (yw n v) [jk n r]
noncomputable def S9(c:CV):Option Bool:=match c with
 |.bool b=>some b|_=>none
theorem Mu{c:CV}{b:Bool}:S9 c=some b->c =.bool b:=by
 induction c using CV.casesOn with
 |bool u=>exact λh=>congrArg CV.bool (aap h)|_=>exact bq
noncomputable def afh:TS:=⟨.no,0,[.c .any,.c .int,.c .any],[]⟩
def afi(hs:List Hv)(K:KR):Prop:=qV hs λc hs=>qI hs λv hs=>qV hs λb _=>pK (CW c) λn=>pK (S9 b) λr=>n<3/\K (.ok (.ref 0)) [.list (iy n v r) []]
def WA:Spec Prop:=cG (λ_ _=>some ([],[])) (qT afh afi)
def zd:Cx Prop:=⟨cg,[],[],[],λ_ _=>none,[],[]⟩
def C4(n:Nat)(r:Bool)(d:Nat)(v:Int)(K:KR):Prop:=BE (eO zd 30 (fnOf 1508)) .no (d+0) [.c (.int (.ofNat n)),.c (.at (.int v)),.c (.bool r)] [] K
abbrev o6(n:Nat)(r:Bool):Prop:=P1 (∀(d:Nat)(v:Int)(K:KR),K (.ok (.ref 0)) [.list (yw n v) [.c (jk n r)]]->C4 n r d v K)
theorem WB:o6 0 false:=⟨λd v K h=>by
 have e:C4 0 false d v K=((0<=(0:Int)/\(0:Int)<1000000)/\6+1<aW/\0+(0+1)<aW/\K (.ok (.ref 0)) [.list (yw 0 v) [.c (jk 0 false)]]):=by kernel_rfl
 rw [e];exact ⟨by decide,by decide,by decide,h⟩⟩
theorem WC:o6 0 true:=⟨λd v K h=>by
 have e:C4 0 true d v K=(0+(0+1)<aW/\K (.ok (.ref 0)) [.list (yw 0 v) [.c (jk 0 true)]]):=by kernel_rfl
 rw [e];exact ⟨by decide,h⟩⟩
theorem WD:o6 1 false:=⟨λd v K h=>by
 have e:C4 1 false d v K=((0<=(1:Int)/\(1:Int)<1000000)/\6+1<aW/\1+(0+1)<aW/\K (.ok (.ref 0)) [.list (yw 1 v) [.c (jk 1 false)]]):=by kernel_rfl
 rw [e];exact ⟨by decide,by decide,by decide,h⟩⟩
theorem WE:o6 1 true:=⟨λd v K h=>by
 have e:C4 1 true d v K=(1+(0+1)<aW/\K (.ok (.ref 0)) [.list (yw 1 v) [.c (jk 1 true)]]):=by kernel_rfl
 rw [e];exact ⟨by decide,h⟩⟩
theorem WG:o6 2 false:=⟨λd v K h=>by
 have e:C4 2 false d v K=(0+1<aW/\(0<=(2:Int)/\(2:Int)<1000000)/\6+1<aW/\2+(0+1)<aW/\K (.ok (.ref 0)) [.list (yw 2 v) [.c (jk 2 false)]]):=by kernel_rfl
 rw [e];exact ⟨by decide,by decide,by decide,by decide,h⟩⟩
theorem WH:o6 2 true:=⟨λd v K h=>by
 have e:C4 2 true d v K=(0+1<aW/\2+(0+1)<aW/\K (.ok (.ref 0)) [.list (yw 2 v) [.c (jk 2 true)]]):=by kernel_rfl
 rw [e];exact ⟨by decide,by decide,h⟩⟩
theorem dB{P:Nat->Prop}(h0:P 0)(h1:P 1)(h2:P 2){n:Nat}(h:n<3):P n:=by
 match n,h with
 |0,_=>exact h0|1,_=>exact h1|2,_=>exact h2
theorem afj{n:Nat}(r:Bool):n<3->o6 n r:=by
 induction r with
 |true=>exact dB (P:=λn=>o6 n true) WC WE WH|false=>exact dB (P:=λn=>o6 n false) WB WD WG
theorem Mv{cx:Cx Prop}(ht:cx.top=cg):aV cx 1508 WA:=by
 have h0:aJ cx 1508 (BE (eO zd 30 (fnOf 1508))):=uf (fh rfl rfl rfl) (by rw [ht];rfl) (by rw [ht];rfl)
 refine eg (dN:=cx) (oQ h0.ent λhs d K h=>bB λgg=>i7 h λc r1 e1 h=>gq h λv r2 e2 h=>i7 h λb r3 e3 h=>gg <|bZ h λn e4 h=>bZ h λr e5 h=>?_) rfl
 rw [e1,e2,e3,rN e4,Mu e5];exact λρ _=>.pure ((afj r h.1).1 d v _ λρ _=>.weak (.cons (.snoc _ _) (.refl _)) ⟨λ_ e=>(nomatch e),h.2⟩)
noncomputable def bV:CV:=.tup [.str (S0 "func"),.str (S0 "tell"),.int 1,.int 0]
noncomputable def WI:CV:=.tup [.str (S0 "func"),.str (S0 "die"),.int 1,.int 0]
noncomputable def Fl(x:String):CV:=.tup [.str (S0 "glob"),.str (S0 "S"),.str (S0 x)]
noncomputable def C5(x:String):CV:=.tup [.str (S0 "localglob"),.str (S0 "S"),.str (S0 x)]
noncomputable def iU(x:String):CV:=.tup [.str (S0 x)]
noncomputable def jW(w:Nat):CV:=.tup [.str (S0 "evalstr"),.tup [],.str (S0 "main"),.int (.ofNat w)]
noncomputable def idx(n:Nat):Int:=((n+1:Nat):Int)-1
def iV(n:Nat)(w:Nat):CV:=.tup [.str (S0 "evalblock"),aI (idx n),.int (.ofNat w)]
noncomputable def eB(rows subs:az):CV:=.obj 813 [(S0 "rows",.lst rows),(S0 "name",.str (S0 "")),(S0 "pad_size",.int 0),(S0 "captures",.lst []),(S0 "subs",.lst subs)]
def C6(n:Nat):CV:=.at (.str (Str.ofString (toString (idx n))))
noncomputable def ek(w:Nat):az:=match w with
 |0=>[]|_+1=>[bV]
structure yx where
 rows:az
 subs:az
 texts:az
def yx.code(p:yx)(E:az):CV:=eB (cat p.rows E) p.subs
def evC(t:Bool)(w ns nt:Nat)(E:az)(p:yx):yx:=match t with
 |true=>⟨cat [cj (C6 (nt+len p.texts)),jW w] (ek w),[],cat p.texts [p.code E]⟩|false=>⟨cat [iV ns w] (ek w),[p.code E],p.texts⟩
mutual
noncomputable def bG(d:dR)(ns nt:Nat):yx:=match d with
 |.say n=>⟨[cj (aI n),bV],[],[]⟩|.fault=>⟨[Fl "main::@",iU "fetch",bV],[],[]⟩|.wanted=>⟨[iU "wanted",bV],[],[]⟩|.line r=>⟨[.tup [.str (S0 "line"),aI (10+r)]],[],[]⟩|.mP i=>⟨[cj (qc i),WI],[],[]⟩|.held=>⟨[Fl "main::g",iU "fetch",bV],[],[]⟩|.set n=>⟨[cj (aI n),Fl "main::g",iU "assign",iU "drop"],[],[]⟩|.loc n=>⟨[cj (aI n),C5 "main::g",iU "assign",iU "drop"],[],[]⟩|.qY w _ _=>⟨cat [cj (.str (S0 "no program")),jW w] (ek w),[],[]⟩|.ev t w ds v r=>evC t w ns nt (iy w v r) (aG ds 0 nt)
noncomputable def aG(ds:aK)(ns nt:Nat):yx:=match ds with
 |.nil=>⟨[],[],[]⟩|.cons d ds=>⟨cat (bG d ns nt).rows (aG ds (ns+len (bG d ns nt).subs) (nt+len (bG d ns nt).texts)).rows,
   cat (bG d ns nt).subs (aG ds (ns+len (bG d ns nt).subs) (nt+len (bG d ns nt).texts)).subs,
   cat (bG d ns nt).texts (aG ds (ns+len (bG d ns nt).subs) (nt+len (bG d ns nt).texts)).texts⟩
end
mutual
noncomputable def dR.cZ(d:dR):Nat:=match d with
 |.ev _ _ ds _ _=>ds.cZ+1|_=>1
noncomputable def aK.cZ(ds:aK):Nat:=match ds with
 |.nil=>0|.cons d ds=>d.cZ+ds.cZ
end
noncomputable def abz(aa:Nat):TS:=⟨.no,4+2*aa,[.c .lst,.ref 0,.ref 1],[.list [],.list []]⟩
inductive Mw(aa:Nat)(E X:az)(ds:aK)(f:CV->az->Prop):Prop where
 |mk (ok:fD aa ds) (n:ds.num<=most aa) (e:len E<10) (x:len X+5*ds.cZ<=100000) (k:f ((aG ds 0 (len X)).code E) (cat X (aG ds 0 (len X)).texts))
def abA(aa:Nat)(hs:List Hv)(K:KR):Prop:=qL hs λD hs=>qL hs λE hs=>qL hs λX _=>∃ds,D=cu ds/\Mw aa E X ds λc X'=>K (.ok (.c c)) [.list E [],.list X' []]
def Q8(as:aY)(_:aq):Option (cI×mV):=match as with
 | []=>none|_::as=>(two as).bind λp=>(refOf p.1).bind λa=>(refOf p.2).map λb=>([a,b],[])
def codeS(aa:Nat):Spec Prop:=cG Q8 (qT (abz aa) (abA aa))
noncomputable def lK(c:CV):Lo:=[(S0 "end",.ref 0),(S0 "texts",.ref 1),(S0 "rows",.ref 2),(S0 "subs",.ref 3),(S0 "told",.c c)]
noncomputable def ux:TF Unit:=⟨λ_=>⟨[(S0 "end",.ref 0),(S0 "texts",.ref 1),(S0 "rows",.ref 2),(S0 "subs",.ref 3),(S0 "told",.c .any)],[.list [],.list [],.list [],.list []]⟩,λ_ _=>some ((),[0,1,2,3])⟩
def codeB(aa:Nat):TB:=⟨(fnOf 1515).sc,[],.no,4+2*aa⟩
noncomputable def zf(E X R U:az):aq:=[.list E [],.list X [],.list R [],.list U []]
abbrev KF:=az->az->az->Prop
inductive jl(aa i:Nat)(ds:aK)(X R U:az)(f:KF):Prop where
 |mk (i:ds.num<i) (ok:fD aa ds) (x:len X+len R+len U+5*ds.cZ<=100000) (k:f (cat X (aG ds (len U) (len X)).texts) (cat R (aG ds (len U) (len X)).rows) (cat U (aG ds (len U) (len X)).subs))
def Mx(aa i:Nat)(it:It)(X R U:az)(f:KF):Prop:=match it with
 |.dO D=>∃ds,D=cu ds/\jl aa i ds X R U f|_=>False
def iW(aa i:Nat)(_:Unit)(it:It)(hs:List Hv)(k:KL):Prop:=qV hs λc hs=>qL hs λE hs=>qL hs λX hs=>qL hs λR hs=>qL hs λU _=>c=bV/\Mx aa i it X R U λX' R' U'=>k (.next,lK bV) (zf E X' R' U')
def cT:Expr:=(wJ (fnOf 1515).body 2).1
def kc:cL:=(wJ (fnOf 1515).body 2).2
noncomputable def Tc(aa:Nat):List (Addr×Spec Prop):=match aa with
 |0=>[(1508,WA)]|d+1=>[(1508,WA),(1515,codeS d)]
def zg(aa i:Nat):Cx Prop:=⟨cg,[],[(1024,11),(1028,15),(1032,15),(1034,11),(1032,30),(1034,26)],Tc aa,λ_ _=>none,[(1004,HN (codeB aa) ux cT kc (iW aa i))],[]⟩
def recC(aa i:Nat):dZ Prop:={ R (zg aa i) 30 with gh:=qW ux 4 (iW aa i) }
def Td(aa d:Nat):En:=⟨(fnOf 1515).sc,[],lK bV,.no,d+(4+2*aa)⟩
noncomputable def Fo:dR->Bool
 |.ev .. =>false|.qY .. =>false|.line _=>false|_=>true
abbrev afk(aa d:Nat):Prop:=QY cT kc (fnOf 1515).sc [] .no (4+2*aa) (d+(4+2*aa))
inductive uy(aa:Nat):Prop where
 |mk (run:∀(d i:Nat)(D E X:az)(K:KR),BE (eO (zg aa i) 30 (fnOf 1515)) .no (d+(4+2*aa)) [.c (.lst D),.ref 0,.ref 1] [.list E [],.list X []] K =
   (afk aa d/\bV=bV/\Mx aa i (.dO D) (cat X []) [] [] λX' R' U'=>len R'+0+(len (cat E [])+0)<aW/\K (.ok (.c (eB (cat (cat R' (cat [] (cat E []))) []) (cat U' [])))) [.list (cat E []) [],.list X' []])) (nil:∀(d i:Nat)(E X R U:az)(k:KL),dg (zg aa i) (recC aa i) (Td aa d) cT (.dO []) kc (zf E X R U) k=k (.next,lK bV) (zf E X R U)) (line:∀(d i n:Nat)(r E X R U:az)(k:KL),dg (zg aa i) (recC aa i) (Td aa d) cT (.dO (mQ (.line n)::r)) kc (zf E X R U) k =
   (len R+0<aW/\iW aa i () (.dO r) [.v bV,.l (cat E []),.l (cat X []),.l (cat R (bG (.line n) 0 0).rows),.l (cat U [])] k)) (simple:∀(d i:Nat)(dd:dR)(r E X R U:az)(k:KL),Fo dd=true->dg (zg aa i) (recC aa i) (Td aa d) cT (.dO (mQ dd::r)) kc (zf E X R U) k =
   (len R+0+len (bG dd 0 0).rows<aW/\iW aa i () (.dO r) [.v bV,.l (cat E []),.l (cat X []),.l (cat R (bG dd 0 0).rows),.l (cat U [])] k))
theorem WJ:uy 0:=⟨by intros;kernel_rfl,by intros;kernel_rfl,by intros;kernel_rfl,by intro d i dd r E X R U k hs;cases dd<;>first|exact bM hs|kernel_rfl⟩
theorem WK:uy 1:=⟨by intros;kernel_rfl,by intros;kernel_rfl,by intros;kernel_rfl,by intro d i dd r E X R U k hs;cases dd<;>first|exact bM hs|kernel_rfl⟩
theorem WL:uy 2:=⟨by intros;kernel_rfl,by intros;kernel_rfl,by intros;kernel_rfl,by intro d i dd r E X R U k hs;cases dd<;>first|exact bM hs|kernel_rfl⟩
theorem WM:uy 3:=⟨by intros;kernel_rfl,by intros;kernel_rfl,by intros;kernel_rfl,by intro d i dd r E X R U k hs;cases dd<;>first|exact bM hs|kernel_rfl⟩
def Fp(w:Nat)(p q:Prop):Prop:=match w with
 |0=>q|_+1=>p/\q
def Fq(aa:Nat)(ds:aK)(w v:Nat)(r:Bool)(X:az)(f:CV->az->Prop):Prop:=
 oX (w<3/\True/\oX (∃My,cu ds=cu My/\Mw aa (cat (iy w v r) []) (cat X []) My λc X'=>True/\f c X'))
def Mz(aa i:Nat)(ds:aK)(w v:Nat)(rt:Bool)(r E X R U:az)(k:KL):Prop:=Fq aa ds w v rt X λc X'=>len X'+0<aW/\len X'+1<aW/\(0<=idx (len X')/\idx (len X')<1000000)/\
 len R+0+2<aW/\Fp w (len R+2<aW) (iW (aa+1) i () (.dO r) [.v bV,.l (cat E []),.l (cat X' [c]),.l (cat R (cat [cj (C6 (len X')),jW w] (ek w))),.l (cat U [])] k)
def Ft(aa i:Nat)(ds:aK)(w v:Nat)(rt:Bool)(r E X R U:az)(k:KL):Prop:=Fq aa ds w v rt X λc X'=>len U+0<aW/\len U+1<aW/\len R+0+1<aW/\
 Fp w (len R+1<aW) (iW (aa+1) i () (.dO r) [.v bV,.l (cat E []),.l (cat X' []),.l (cat R (cat [iV (len U) w] (ek w))),.l (cat U [c])] k)
inductive uz(aa w:Nat):Prop where
 |mk (text:∀(d i:Nat)(ds:aK)(v:Nat)(rt:Bool)(r E X R U:az)(k:KL),dg (zg (aa+1) i) (recC (aa+1) i) (Td (aa+1) d) cT (.dO (mQ (.ev true w ds v rt)::r)) kc (zf E X R U) k=Mz aa i ds w v rt r E X R U k) (block:∀(d i:Nat)(ds:aK)(v:Nat)(rt:Bool)(r E X R U:az)(k:KL),dg (zg (aa+1) i) (recC (aa+1) i) (Td (aa+1) d) cT (.dO (mQ (.ev false w ds v rt)::r)) kc (zf E X R U) k=Ft aa i ds w v rt r E X R U k) (qY:∀(d i:Nat)(v:Nat)(rt:Bool)(r E X R U:az)(k:KL),dg (zg (aa+1) i) (recC (aa+1) i) (Td (aa+1) d) cT (.dO (mQ (.qY w v rt)::r)) kc (zf E X R U) k =
   (len R+0+2<aW/\Fp w (len R+2<aW) (iW (aa+1) i () (.dO r) [.v bV,.l (cat E []),.l (cat X []),.l (cat R (bG (.qY w v rt) 0 0).rows),.l (cat U [])] k)))
theorem abB:uz 0 0:=⟨by intros;kernel_rfl,by intros;kernel_rfl,by intros;kernel_rfl⟩
theorem abC:uz 0 1:=⟨by intros;kernel_rfl,by intros;kernel_rfl,by intros;kernel_rfl⟩
theorem abD:uz 0 2:=⟨by intros;kernel_rfl,by intros;kernel_rfl,by intros;kernel_rfl⟩
theorem abE:uz 1 0:=⟨by intros;kernel_rfl,by intros;kernel_rfl,by intros;kernel_rfl⟩
theorem abF:uz 1 1:=⟨by intros;kernel_rfl,by intros;kernel_rfl,by intros;kernel_rfl⟩
theorem abG:uz 1 2:=⟨by intros;kernel_rfl,by intros;kernel_rfl,by intros;kernel_rfl⟩
theorem abH:uz 2 0:=⟨by intros;kernel_rfl,by intros;kernel_rfl,by intros;kernel_rfl⟩
theorem abI:uz 2 1:=⟨by intros;kernel_rfl,by intros;kernel_rfl,by intros;kernel_rfl⟩
theorem abJ:uz 2 2:=⟨by intros;kernel_rfl,by intros;kernel_rfl,by intros;kernel_rfl⟩
theorem evE{aa w:Nat}(hd:aa<3):w<3->uz aa w:=dB (P:=λaa=>w<3->uz aa w) (dB abB abC abD) (dB abE abF abG) (dB abH abI abJ) hd
theorem Fv{n:Nat}(h:n<=3):uy n:=Ff WJ WK WL WM h
def yx.tot(p:yx):Nat:=len p.rows+len p.subs+len p.texts
theorem A7(w:Nat):len (ek w)<=1:=by
 induction w with
 |zero=>exact adK _|succ=>exact abv 1
theorem Q9(t:Bool)(w ns nt:Nat)(E:az){p:yx}{n:Nat}(h:p.tot<=5*n):(evC t w ns nt E p).tot<=5*(n+1):=by
 have a:=A7 w;unfold yx.tot at h;induction t with
 |true=>
  show len (cat [_,_] (ek w))+0+len (cat p.texts [_])<=_;rw [len_cat,len_cat];show 2+_+0+(_+1)<=_;lia
 |false=>
  show len (cat [_] (ek w))+1+len p.texts<=_;rw [len_cat];show 1+_+1+_<=_;lia
mutual
theorem qd(d:dR)(ns nt:Nat):(bG d ns nt).tot<=5*d.cZ:=match d with
 |.say _=>by show 2<=5;decide|.fault=>by show 3<=5;decide|.wanted=>by show 2<=5;decide|.line _=>by show 1<=5;decide|.mP _=>by show 2<=5;decide|.held=>by show 3<=5;decide|.set _=>by show 4<=5;decide|.loc _=>by show 4<=5;decide|.qY w _ _=>by
  show len (cat [_,_] (ek w))+0+0<=5;rw [len_cat];exact adL (A7 w) 2 |> λh=>aco h (by decide)
 |.ev t w ds v r=>Q9 t w ns nt _ (gu ds 0 nt)
theorem gu(ds:aK)(ns nt:Nat):(aG ds ns nt).tot<=5*ds.cZ:=match ds with
 |.nil=>adK _|.cons d ds=>by
  have a:=qd d ns nt;have b:=gu ds (ns+len (bG d ns nt).subs) (nt+len (bG d ns nt).texts);show len (cat _ _)+len (cat _ _)+len (cat _ _)<=5*(d.cZ+ds.cZ);unfold yx.tot at a b;rw [len_cat,len_cat,len_cat,Nat.mul_add];lia
end
theorem o7{aa i:Nat}{dd:dR}{ds:aK}{X R U:az}{f:KF}(h:jl aa (i+1) (.cons dd ds) X R U f) :
  jl aa i ds (cat X (bG dd (len U) (len X)).texts) (cat R (bG dd (len U) (len X)).rows) (cat U (bG dd (len U) (len X)).subs) f:=by
 refine ⟨adM h.1,h.2.2,?_,?_⟩
 ·have a:=qd dd (len U) (len X)
  have b:len X+len R+len U+5*(dd.cZ+ds.cZ)<=100000:=h.3;unfold yx.tot at a;rw [len_cat,len_cat,len_cat];lia
 ·rw [len_cat,len_cat,aP,aP,aP]
  exact h.4
theorem A8{aa i:Nat}{ds:aK}{E X R U:az}{k:KL}(h:jl aa i ds X R U λX' R' U'=>k (.next,lK bV) (zf E X' R' U')):iW aa i () (.dO (cu ds)) [.v bV,.l (cat E []),.l X,.l R,.l U] k:=
 ⟨rfl,ds,rfl,by rw [au];exact h⟩
abbrev abK(dd:dR)(X R U:az):Prop:=P3 (∀n,n<=len (bG dd (len U) (len X)).rows->len R+n<aW) (len U+1<aW) (len X+5*dd.cZ<=100000)
theorem jl.room{aa i:Nat}{dd:dR}{ds:aK}{X R U:az}{f:KF}(h:jl aa i (.cons dd ds) X R U f):abK dd X R U:=by
 have a:=qd dd (len U) (len X);have b:len X+len R+len U+5*(dd.cZ+ds.cZ)<=100000:=h.3;unfold yx.tot at a;refine ⟨λn hn=>?_,?_,?_⟩
 ·unfold aW;lia
 ·unfold aW;lia
 ·lia
theorem yy{w:Nat}{p q:Prop}(hp:p)(hq:q):Fp w p q:=by
 induction w with
 |zero=>exact hq|succ=>exact ⟨hp,hq⟩
theorem Ra{w v:Nat}{r:Bool}:w<3->len (iy w v r)<10:=by
 unfold iy;rw [len_cat];exact dB (P:=λw=>len (yw w v)+1<10) (by show 0+1<10;decide) (by show 1+1<10;decide) (by show 2+1<10;decide)
theorem A9{aa w v:Nat}{r:Bool}{ds:aK}{X:az}{f:CV->az->Prop}(hd:aa<3)(hw:w<3)(ok:fD aa ds)(n:ds.num<=3)(x:len X+5*(ds.cZ+1)<=100000)(h:f ((aG ds 0 (len X)).code (iy w v r)) (cat X (aG ds 0 (len X)).texts)):Fq aa ds w v r X f:=by
 unfold Fq;rw [au,au];exact ⟨rfl,rfl,λ_ _=>⟨hw,trivial,rfl,rfl,λ_ _=>⟨ds,rfl,ok,yu hd▸n,Ra hw,aco (adL (Nat.mul_le_mul_left 5 (adq _)) _) x,trivial,h⟩⟩⟩
theorem HW{aa i w v:Nat}{rt:Bool}{cy ds:aK}{d:Nat}{E X R U:az}{k:KL}(hd:aa+1<=3)(h:jl (aa+1) (i+1) (.cons (.ev true w cy v rt) ds) X R U λX' R' U'=>k (.next,lK bV) (zf E X' R' U')):Mz aa i cy w v rt (cu ds) E X R U k:=by
 have m:=h.room;have o:=h.2.1;have a:=gu cy 0 (len X);have b:len X+5*(cy.cZ+1)<=100000:=m.3;have r2:=m.1 2 (by show 2<=len (cat [_,_] (ek w));rw [len_cat];exact abW _ _)
 unfold yx.tot at a;have hl:len (cat X (aG cy 0 (len X)).texts)<100001:=by rw [len_cat];lia
 refine A9 hd o.1 o.2.1 o.2.2.1 b ⟨by unfold aW;lia,by unfold aW;lia,⟨by unfold idx;lia,by unfold idx;lia⟩,r2,yy r2 ?_⟩
 have z:=o7 h;have e:cat X (bG (.ev true w cy v rt) (len U) (len X)).texts=cat (cat X (aG cy 0 (len X)).texts) [(aG cy 0 (len X)).code (iy w v rt)]:=(aP ..).symm;rw [e] at z;rw [len_cat];exact A8 z
theorem C7{aa i w v:Nat}{rt:Bool}{cy ds:aK}{d:Nat}{E X R U:az}{k:KL}(hd:aa+1<=3)(h:jl (aa+1) (i+1) (.cons (.ev false w cy v rt) ds) X R U λX' R' U'=>k (.next,lK bV) (zf E X' R' U')):Ft aa i cy w v rt (cu ds) E X R U k:=by
 have m:=h.room;have o:=h.2.1;have r1:=m.1 1 (by show 1<=len (cat [_] (ek w));rw [len_cat];exact abW _ _)
 refine A9 hd o.1 o.2.1 o.2.2.1 m.3 ⟨adU m.2,m.2,r1,yy r1 ?_⟩;rw [au (cat X _)];exact A8 (o7 h)
theorem Fw{aa i:Nat}{it:It}{X R U:az}{f:KF}{G:Prop}(h:Mx aa i it X R U f)(c:∀ds,it =.dO (cu ds)->jl aa i ds X R U f->G):G:=by
 induction it with
 |dO D=>exact h.elim λds h=>c ds (congrArg It.dO h.1) h.2|_=>exact h.elim
abbrev Ba(aa i d:Nat)(dd:dR)(ds:aK)(E X R U:az)(k:KL):Prop:=P1 (dg (zg aa i) (recC aa i) (Td aa d) cT (.dO (mQ dd::cu ds)) kc (zf E X R U) k)
theorem MA{aa i:Nat}(hd:aa+1<=3){t:Bool}{w v:Nat}{rt:Bool}{cy ds:aK}{d:Nat}{E X R U:az}{k:KL}(h:jl (aa+1) (i+1) (.cons (.ev t w cy v rt) ds) X R U λX' R' U'=>k (.next,lK bV) (zf E X' R' U')):Ba (aa+1) i d (.ev t w cy v rt) ds E X R U k:=⟨by
 have q:=evE hd h.2.1.1;induction t with
 |true=>rw [q.1];exact HW (d:=d) hd h|false=>rw [q.2];exact C7 (d:=d) hd h⟩
theorem MB{aa i:Nat}(hd:aa+1<=3){w v:Nat}{rt:Bool}{ds:aK}{d:Nat}{E X R U:az}{k:KL}(h:jl (aa+1) (i+1) (.cons (.qY w v rt) ds) X R U λX' R' U'=>k (.next,lK bV) (zf E X' R' U')):Ba (aa+1) i d (.qY w v rt) ds E X R U k:=⟨by
 have r2:=h.room.1 2 (by show 2<=len (cat [_,_] (ek w));rw [len_cat];exact abW _ _)
 have q:=evE hd h.2.1.1;rw [q.3];exact ⟨r2,yy r2 (A8 (o7 h))⟩⟩
theorem Bb{aa i:Nat}(hd:aa<=3){dd:dR}(hs:Fo dd=true)(h1:(bG dd 0 0).texts=[])(h2:(bG dd 0 0).subs=[])(h3:∀ns nt,bG dd ns nt=bG dd 0 0){ds:aK}{d:Nat}{E X R U:az}{k:KL}(h:jl aa (i+1) (.cons dd ds) X R U λX' R' U'=>k (.next,lK bV) (zf E X' R' U')):Ba aa i d dd ds E X R U k:=⟨by
 have m:=h.room.1;have z:=o7 h;rw [h3,h1,h2] at z;rw [h3] at m;rw [(Fv hd).4 _ _ _ _ _ _ _ _ _ hs];exact ⟨m _ (abv _),A8 z⟩⟩
theorem HX{aa i:Nat}(hd:aa<=3){n:Nat}{ds:aK}{d:Nat}{E X R U:az}{k:KL}(h:jl aa (i+1) (.cons (.line n) ds) X R U λX' R' U'=>k (.next,lK bV) (zf E X' R' U')):Ba aa i d (.line n) ds E X R U k:=⟨by
 rw [(Fv hd).3];exact ⟨h.room.1 0 (adK _),A8 (o7 h)⟩⟩
theorem MC{t:Bool}{w v:Nat}{ds:aK}{r:Bool}:¬Mj 0 (.ev t w ds v r):=λh=>h
theorem C8{w v:Nat}{r:Bool}:¬Mj 0 (.qY w v r):=λh=>h
theorem rO{aa:Nat}{d:dR}{ds:aK}(h:fD aa (.cons d ds)):Mj aa d:=h.1
theorem HY{aa i:Nat}(hd:aa<=3){dd:dR}{ds:aK}{d:Nat}{E X R U:az}{k:KL}(h:jl aa (i+1) (.cons dd ds) X R U λX' R' U'=>k (.next,lK bV) (zf E X' R' U')):Ba aa i d dd ds E X R U k:=by
 cases dd with
 |line n=>exact HX hd h|ev t w cy v rt=>
  induction aa with
  |zero=>exact (MC (rO h.2)).elim|succ aa=>exact MA hd h
 |qY w v rt=>
  induction aa with
  |zero=>exact (C8 (rO h.2)).elim|succ aa=>exact MB hd h
 |_=>refine Bb hd ?_ ?_ ?_ ?_ h<;>first|rfl|exact λ_ _=>rfl
theorem HZ{aa i:Nat}(hd:aa<=3)(x:Unit)(it:It)(hs:List Hv)(d:Nat)(k:KL)(h:iW aa (i+1) x it hs k) :
  dg (zg aa i) { R (zg aa i) 30 with gh:=qW ux (len (ux.T ()).σ) (iW aa i) } ((codeB aa).en (ux.T ()) d hs) cT it kc ((ux.T ()).sl hs) k:=
 bB λgg=>i7 h λc r1 e1 h=>fT h λE r2 e2 h=>fT h λX r3 e3 h=>fT h λR r4 e4 h=>fT h λU r5 e5 h=>gg <|Fw h.2 λds e6 q=>by
  rw [e1,e2,e3,e4,e5,e6,h.1];show dg (zg aa i) (recC aa i) (Td aa d) cT (.dO (cu ds)) kc (zf E X R U) k;cases ds with
  |nil=>
   refine ((Fv hd).2 ..).mpr ?_;have z:=q.4;rw [show (aG .nil (len U) (len X)).texts=[] from rfl,show (aG .nil (len U) (len X)).rows=[] from rfl,show (aG .nil (len U) (len X)).subs=[] from rfl,au,au,au] at z
   exact z
  |cons dd ds=>exact (HY hd q).1
theorem MD{aa:Nat}(hd:aa<=3)(i:Nat)(ih:∀j,j<i->eN (zg aa j)):j9 (zg aa i) (HN (codeB aa) ux cT kc (iW aa i)):=
 yi (n:=30) i (λj hj=>⟨zg aa j,ih j hj,rfl,HZ hd⟩) λx it hs k h=>i7 h λc r1 e1 h=>fT h λE r2 e2 h=>fT h λX r3 e3 h=>fT h λR r4 e4 h=>fT h λU r5 e5 h=>Fw h.2 λds e6 q=>absurd q.1 (adP _)
abbrev yz(aa:Nat):Prop:=∀cx:Cx Prop,cx.top=cg->aV cx 1515 (codeS aa)
def C9(aa:Nat):Prop:=match aa with
 |0=>True|d+1=>yz d
theorem H6{aa:Nat}(hp:C9 aa)(i:Nat):∀p∈Tc aa,aV (zg aa i) p.1 p.2:=by
 induction aa with
 |zero=>exact bE (Mv rfl) ff|succ d=>exact bE (Mv rfl) (bE (hp _ rfl) ff)
theorem H7{aa:Nat}(hd:aa<=3)(hp:C9 aa)(i:Nat):eN (zg aa i):=by
 induction i using Nat.strongRecOn with
 |_ i ih=>exact Mg rfl rfl rfl (H6 hp i) (yp (MD hd i ih) ff) ff
theorem Bc{aa:Nat}(hd:aa<=3)(hp:C9 aa):yz aa:=λcx ht=>by
 have h0:aJ cx 1515 (BE (eO (zg aa 9) 30 (fnOf 1515))):=uf (H7 hd hp 9) (by rw [ht];rfl) (by rw [ht];rfl)
 refine eg (dN:=cx) (oQ h0 λhs d K h=>bB λgg=>fT h λD r1 e1 h=>fT h λE r2 e2 h=>fT h λX r3 e3 h=>h.elim λds h=>gg <|?_) rfl
 have q:=h.2;rw [e1,e2,e3,h.1];refine ((Fv hd).1 d 9 (cu ds) E X K).mpr ⟨⟨rfl,rfl,rfl,rfl,rfl,aeq _ _⟩,rfl,ds,rfl,adQ q.2 (adQ C0.1 (by decide)),q.1,?_,?_,?_⟩
 ·rw [au];exact q.4
 ·have a:=gu ds 0 (len X)
  have b:=q.4;have c:=q.3;unfold yx.tot at a;rw [au,au];show len (aG ds 0 (len X)).rows+0+(len E+0)<aW;unfold aW;lia
 ·have z:=q.5
  simp only [au];exact z
theorem Dc(aa:Nat):aa<=3->yz aa:=by
 induction aa with
 |zero=>exact λhd=>Bc hd trivial|succ d ih=>exact λhd=>Bc hd (ih (acH hd))
def Te(T:TS)(Q:List Hv->KR->Prop):Spec Prop:=λhd dp as σ K=>T.need<=dp/\pK (eF (hdB T.hd hd) ((L3 T.σ σ []).bind (LW T.as as))) λhs=>Q hs K
theorem ME{cx:Cx Prop}{a:Addr}{C:Spec Prop}{T:TS}{Q:List Hv->KR->Prop}(H:aJ cx a C)(hq:∀hs d K,Q hs K->C T.hd (d+T.need) (lH T.as hs).1 (qS T.σ (lH T.as hs).2).1 K):aJ cx a (Te T Q):=λF as aj S dp sh fK o hv k R h ok er=>
 bZ h.2 λhs e q=>bind_some (bz e).2 λr e1 e2=>by
  have f1:=yf e2;have f2:=yh e1;have h2:=hq hs (dp-T.need) k q;rw [f1.2,L6 (bz e).1,aef h.1] at h2;exact H F _ aj (S.low _) dp sh fK (o.weak f2.1) (f1.1 _ _ hv) k R h2 ok.low er.low
structure GS where
 told:az
 fault:CV
 g:CV
 kept:az
 line:Int
inductive DV where
 |t (s:Str)|l (s:Str)|n (i:Int)
noncomputable def o8:DV->CV
 |.t s=>.at (.str s)|.l s=>.str s|.n i=>.int i
noncomputable def gV(s:Str)(n:Int):DV:=.t (s++S0 " at line " ++ Str.ofString (toString n)++S0 ".\n")
noncomputable def vq(i:Nat)(n:Int):DV:=match i with
 |0=>gV (S0 "oh") n|i+1=>match i with
  |0=>.l (S0 "oh\n")|i+1=>match i with
   |0=>.n 7|_+1=>gV (S0 "no") n
noncomputable def Be(w:Nat):CV:=match w with
 |0=>.none|w+1=>match w with
  |0=>.str (S0 "")|_+1=>.int 1
noncomputable def Tf(w:Nat):az:=match w with
 |0=>[.none]|_+1=>[]
def mR(w:Nat)(out:Option DV)(v:Int):az:=match w with
 |0=>[]|w+1=>match out with
  |none=>[.lst [aI v]]|some _=>[.lst (Tf w)]
def GS.add(s:GS)(v:CV):GS:=⟨cat s.told [.lst [v]],s.fault,s.g,s.kept,s.line⟩
noncomputable def GS.begin(s:GS):GS:=⟨s.told,.str (S0 ""),s.g,s.kept,s.line⟩
def H8(o:Option DV):CV:=match o with
 |none=>.str (S0 "")|some v=>o8 v
def gw(st:GS)(w v:Nat)(r:GS×Option DV):GS:=⟨cat r.1.told (mR w r.2 v),H8 r.2,(af r.1.kept (len st.kept)).getD r.1.g,st.kept,st.line⟩
noncomputable def uA:DV:=.l (S0 "what at line 5.\n")
noncomputable def nq(r:GS×Option DV)(f:GS->GS×Option DV):GS×Option DV:=match r.2 with
 |none=>f r.1|some v=>(r.1,some v)
def evG(t:Bool)(depth many:Int)(st:GS)(w v:Nat)(f:Int->GS×Option DV):GS×Option DV:=match t with
 |true=>match fX depth many with
  |true=>(gw st w v (st.begin,some (gV (S0 "Deep recursion") st.line)),none)|false=>(gw st w v (f (many+1)),none)
 |false=>(gw st w v (f many),none)
mutual
noncomputable def uS(depth:Int)(d:dR)(many:Int)(w:Nat)(s:GS):GS×Option DV:=match d with
 |.say n=>(s.add (aI n),none)|.fault=>(s.add s.fault,none)|.wanted=>(s.add (Be w),none)|.line r=>(⟨s.told,s.fault,s.g,s.kept,10+r⟩,none)|.mP i=>(s,some (vq i s.line))|.held=>(s.add s.g,none)|.set n=>(⟨s.told,s.fault,aI n,s.kept,s.line⟩,none)|.loc n=>(⟨s.told,s.fault,aI n,cat s.kept [s.g],s.line⟩,none)|.qY w v _=>(gw s w v (s.begin,some uA),none)|.ev t w ds v _=>evG t depth many s w v λmany=>dW depth ds many w s.begin
noncomputable def dW(depth:Int)(ds:aK)(many:Int)(w:Nat)(s:GS):GS×Option DV:=match ds with
 |.nil=>(s,none)|.cons d ds=>nq (uS depth d many w s) λs=>dW depth ds many w s
end
def afl(fault g:CV)(depth:Int):MO:=.dict [(S0 "told",.ref 1),(S0 "fault",.c fault),(S0 "g",.c g),(S0 "kept",.ref 2),(S0 "depth",.c (aI depth))]
noncomputable def afm:TO:=.dict [(S0 "told",.ref 1),(S0 "fault",.c .any),(S0 "g",.c .any),(S0 "kept",.ref 2),(S0 "depth",.c .int)]
def afn(want:CV)(line:Int):MO:=.dict [(S0 "want",.c want),(S0 "line",.c (aI line))]
noncomputable def afo:TO:=.dict [(S0 "want",.c .any),(S0 "line",.c .int)]
def kG(s:GS)(w:CV)(depth:Int):aq:=[afl s.fault s.g depth,.list s.told [],.list s.kept [],afn w s.line]
noncomputable def WN:List TO:=[afm,.list [],.list [],afo]
noncomputable def Od:TF Unit:=⟨λ_=>⟨[(S0 "own",.ref 0),(S0 "frame",.ref 3),(S0 "many",.c .int)],WN⟩,λ_ _=>some ((),[0,1,2,3])⟩
def Zj(many:Int):Lo:=[(S0 "own",.ref 0),(S0 "frame",.ref 3),(S0 "many",.c (aI many))]
def H9:Expr:=(wJ (fnOf 1536).body 0).1
def qe:cL:=(wJ (fnOf 1536).body 0).2
noncomputable def Tg:mV:=[(1064,11),(1080,10),(1043,31),(1045,31),(1047,31),(1053,31),(1084,27),(1086,27),(1086,52)]
def WO(f0:GS->Prop)(f1 f2:Str->Lo->Bool->GS->Prop)(f3:Int->Lo->Bool->GS->Prop)(r:GS×Option DV):Prop:=match r.2 with
 |none=>f0 r.1|some v=>match v with
  |.t s=>∀m tr,f1 s m tr r.1|.l s=>∀m tr,f2 s m tr r.1|.n i=>∀m tr,f3 i m tr r.1
def Ia(v:DV)(tr:Bool):MO:=.exc 486 [(S0 "text",.c (.str (S0 "died"))),(S0 "value",.c (o8 v))] tr true
def jo(f0:GS->Prop)(f1:DV->Lo->Bool->GS->Prop):GS×Option DV->Prop:=WO f0 (λs=>f1 (.t s)) (λs=>f1 (.l s)) λi=>f1 (.n i)
inductive MF(aa i:Nat)(ds:aK)(many depth:Int)(w:Nat)(st:GS)(p:GS×Option DV->Prop):Prop where
 |mk (i:ds.num<i) (ok:fD aa ds) (wn:w<3) (told:len st.told+ds.cZ<=100000) (kept:len st.kept+ds.cZ<=100000) (line:0<=st.line/\st.line<19) (p:p (dW depth ds many w st))
def goC(aa i:Nat)(D:az)(many depth:Int)(w:CV)(st:GS)(p:GS×Option DV->Prop):Prop:=pK (CW w) λw=>∃ds,D=cu ds/\MF aa i ds many depth w st p
def qG(hs:List Hv)(q:CV->Int->GS->Prop):Prop:=qV hs λf hs=>qV hs λg hs=>qI hs λdepth hs=>qL hs λT hs=>qL hs λKP hs=>qV hs λw hs=>qI hs λline _=>q w depth ⟨T,f,g,KP,line⟩
def Bf(aa i:Nat)(_:Unit)(it:It)(hs:List Hv)(k:KL):Prop:=match it with
 |.dO D=>qI hs λmany hs=>qG hs λw depth st=>goC aa i D many depth w st (jo (λs=>k (.next,Zj many) (kG s w depth)) λv m tr s=>k (.err 4,m) (cat (kG s w depth) [Ia v tr]))|_=>False
def WQ(σ:aq)(a b:Nat):Option (cI×mV):=(af σ a).bind λo=>(ye o).bind λes=>(look (S0 "told") es).bind λt=>(refOf t).bind λt=>(look (S0 "kept") es).bind λk=>(refOf k).map λk=>([a,t,k,b],[])
def abL(as:aY)(σ:aq):Option (cI×mV):=(af as 0).bind λa=>(refOf a).bind λa=>(af as 2).bind λb=>(refOf b).bind λb=>WQ σ a b
noncomputable def afq(aa:Nat):TS:=⟨.no,3*aa+6,[.ref 0,.c .lst,.ref 3,.c .int],WN⟩
def goQ(aa:Nat)(hs:List Hv)(K:KR):Prop:=qL hs λD hs=>qI hs λmany hs=>qG hs λw depth st=>goC aa 9 D many depth w st (jo (λs=>K (.ok (.c .none)) (kG s w depth)) λv _ _ s=>K (.error 4) (cat (kG s w depth) [Ia v true]))
def IT(aa:Nat):Spec Prop:=cG abL (Te (afq aa) (goQ aa))
noncomputable def whP:Stmt->Option (Expr×cL)
 |.While t b _ _=>some (t,b)|_=>none
def Ib(l:cL)(i:Nat):Expr×cL:=((af l i).bind whP).getD (abq,[])
def wT:Expr:=(Ib (fnOf 1543).body 7).1
def wL:cL:=(Ib (fnOf 1543).body 7).2
noncomputable def Th(n:Nat):List TO:=match n with
 |0=>[]|n+1=>.gone::Th n
abbrev WX:=Nat×Bool
noncomputable def WR(x:WX):TV:=match x.2 with
 |true=>.ref (4+x.1)|false=>.c .any
noncomputable def WS(x:WX):List TO:=match x.2 with
 |true=>[.list []]|false=>[]
def Oe(x:WX):TL:=⟨[(S0 "own",.ref 0),(S0 "mark",.c .int),(S0 "gone",WR x),(S0 "want",.c .any),(S0 "value",.c .int)],cat WN (cat (Th x.1) (WS x))⟩
def abM(m:Lo)(σ:aq):Option (WX×cI):=(look (S0 "gone") m).map λv=>(match refOf v with|some n=>(n-4,true)|none=>(len σ-4,false),bh 0 (len σ))
def wF:TF WX:=⟨Oe,abM⟩
abbrev WhC(i:Nat)(mk:Int)(L KP more:az):Prop:=P4 (L=cat KP more) (mk=len KP) (len more<i) (len L<200000)
def whC(i:Nat)(mk:Int)(L:az)(g:CV)(f:az->CV->Prop):Prop:=∃KP more,WhC i mk L KP more/\f KP ((af more 0).getD g)
def wM(x:WX)(mk:Int)(gone:CV)(want:CV)(v:Int):Lo:=[(S0 "own",.ref 0),(S0 "mark",.c (aI mk)),(S0 "gone",match x.2 with|true=>.ref (4+x.1)|false=>.c gone),(S0 "want",.c want),(S0 "value",.c (aI v))]
noncomputable def Ti(n:Nat):aq:=match n with
 |0=>[]|n+1=>.gone::Ti n
def qX(b:Bool)(hs:List Hv)(q:CV->List Hv->Prop):Prop:=match b with
 |true=>q .none hs|false=>qV hs q
def qXL(b:Bool)(hs:List Hv)(q:az->Prop):Prop:=match b with
 |true=>qL hs λl _=>q l|false=>q []
noncomputable def abN(x:WX)(l:az):aq:=match x.2 with
 |true=>[.list l []]|false=>[]
def Dd(x:WX)(s:GS)(w:CV)(depth:Int)(l:az):aq:=cat (kG s w depth) (cat (Ti x.1) (abN x l))
def Zk(x:WX):Option Unit:=match x.2 with
 |false=>iB (Nat.ble x.1 1)|true=>iB (Nat.beq x.1 1||Nat.beq x.1 2)
def wQ(i:Nat)(x:WX)(hs:List Hv)(k:KL):Prop:=pK (Zk x) λ_=>qI hs λmk hs=>qX x.2 hs λgone hs=>qV hs λwant hs=>qI hs λv hs=>qV hs λf hs=>qV hs λg hs=>qI hs λdepth hs=>qL hs λT hs=>qL hs λL hs=>qV hs λw hs=>qI hs λline hs=>qXL x.2 hs λgl=>
 whC i mk L g λKP g'=>k (.next,wM x mk gone want v) (Dd x ⟨T,f,g',KP,line⟩ w depth gl)
def wB:TB:=⟨(fnOf 1543).sc,[],.no,0⟩
def goB(aa:Nat):TB:=⟨(fnOf 1536).sc,[],.no,3*aa+6⟩
def Rb(sp:Spec Prop)(aa i:Nat):Cx Prop:=⟨cg,[],Tg,[(1536,sp)],λ_ _=>none,[(1040,HN (goB aa) Od H9 qe (Bf aa i))],[(1080,V5 wB wF wT wL (wQ 200000))]⟩
def WT(sp:Spec Prop)(aa i:Nat):dZ Prop:={ R (Rb sp aa i) 40 with gh:=qW Od 4 (Bf aa i) }
def enG(aa d:Nat)(many:Int):En:=⟨(fnOf 1536).sc,[],Zj many,.no,d+(3*aa+6)⟩
def aft(aa i:Nat)(r:az)(w0:CV)(many depth:Int)(wn v:Nat)(out:Option DV)(s:GS)(k:KL):Prop:=match wn with
 |0=>Bf aa i () (.dO r) [.i many,.v (H8 out),.v s.g,.i depth,.l (cat s.told []),.l (cat s.kept []),.v w0,.i s.line] k|w+1=>len s.told+0<aW/\Bf aa i () (.dO r) [.i many,.v (H8 out),.v s.g,.i depth,.l (cat s.told (mR (w+1) out v)),.l (cat s.kept []),.v w0,.i s.line] k
abbrev afu(m:Nat):Prop:=QY wT wL (fnOf 1543).sc [] .no 0 m
def Ic(aa i dp:Nat)(r:az)(w0:CV)(many depth:Int)(mk:Int)(line:Int)(wn v:Nat)(k:KL)(out:Option DV)(s:GS):Prop:=
 afu dp/\whC 200000 mk (cat s.kept []) s.g λKP' g'=>aft aa i r w0 many depth wn v out ⟨cat s.told [],s.fault,g',KP',line⟩ k
def yC(n i d:Nat)(ds:aK)(r:az)(w0:CV)(m2 many depth:Int)(st:GS)(wn v:Nat)(k:KL):Prop:=
 oX (3*n+6<=d+(3*(n+1)+4)/\∃My,cu ds=cu My/\MF n 9 My m2 depth wn ⟨cat st.told [],.str (S0 ""),st.g,cat st.kept [],st.line⟩
  (jo (λs=>True/\Ic (n+1) i (d+(3*(n+1)+5)) r w0 many depth (len st.kept+0) st.line wn v k none s) λx _ _ s=>True/\Ic (n+1) i (d+(3*(n+1)+5)) r w0 many depth (len st.kept+0) st.line wn v k (some x) s))
def kg(s:Str)(n:Int)(q:Prop):Prop:=s.cps.size+(S0 " at line ").cps.size<aW/\(0<=n/\n<1000000)/\(s++S0 " at line ").cps.size+(Str.ofString (toString n)).cps.size<aW/\
 (s++S0 " at line " ++ Str.ofString (toString n)).cps.size+(S0 ".\n").cps.size<aW/\q
def abO(n i d:Nat)(t:Bool)(ds:aK)(r:az)(w0:CV)(many depth:Int)(st:GS)(wn v:Nat)(k:KL):Prop:=match t with
 |true=>(fX depth many=true->false=false/\kg (S0 "Deep recursion") st.line (Ic (n+1) i (d+(3*(n+1)+5)) r w0 many depth (len st.kept+0) st.line wn v k (some (gV (S0 "Deep recursion") st.line)) st))/\
   (fX depth many=false->yC n i d ds r w0 (many+1) many depth st wn v k)
 |false=>yC n i d ds r w0 many many depth st wn v k
abbrev De(t:Bool)(wn:Nat):Prop:=P1 (∀(n d i:Nat)(ds:aK)(v:Nat)(rt:Bool)(r:az)(many depth:Int)(T KP:az)(f g w:CV)(line:Int)(k:KL),
  dg (Rb (IT n) (n+1) i) (WT (IT n) (n+1) i) (enG (n+1) d many) H9 (.dO (mQ (.ev t wn ds v rt)::r)) qe (kG ⟨T,f,g,KP,line⟩ w depth) k =
  (len KP+0<aW/\abO n i d t ds r w many depth ⟨T,f,g,KP,line⟩ wn v k))
theorem WU:De false 0:=⟨by intros;kernel_rfl⟩
theorem WV:De false 1:=⟨by intros;kernel_rfl⟩
theorem WW:De false 2:=⟨by intros;kernel_rfl⟩
theorem WY:De true 0:=⟨by intros;kernel_rfl⟩
theorem WZ:De true 1:=⟨by intros;kernel_rfl⟩
theorem W0:De true 2:=⟨by intros;kernel_rfl⟩
abbrev Fx(wn:Nat):Prop:=P1 (∀(n d i:Nat)(v:Nat)(rt:Bool)(r:az)(many depth:Int)(T KP:az)(f g w:CV)(line:Int)(k:KL),
  dg (Rb (IT n) (n+1) i) (WT (IT n) (n+1) i) (enG (n+1) d many) H9 (.dO (mQ (.qY wn v rt)::r)) qe (kG ⟨T,f,g,KP,line⟩ w depth) k =
  (len KP+0<aW/\Ic (n+1) i (d+(3*(n+1)+5)) r w many depth (len KP+0) line wn v k (some uA) ⟨T,f,g,KP,line⟩))
theorem W3:Fx 0:=⟨by intros;kernel_rfl⟩
theorem W5:Fx 1:=⟨by intros;kernel_rfl⟩
theorem W6:Fx 2:=⟨by intros;kernel_rfl⟩
abbrev o9(aa i:Nat)(r:az)(many depth:Int)(w:CV)(s:GS)(k:KL):Prop:=Bf aa i () (.dO r) [.i many,.v s.fault,.v s.g,.i depth,.l s.told,.l s.kept,.v w,.i s.line] k
def dw(sp:Spec Prop)(aa d i:Nat)(D:az)(many depth:Int)(s:GS)(w:CV)(k:KL):Prop:=dg (Rb sp aa i) (WT sp aa i) (enG aa d many) H9 (.dO D) qe (kG s w depth) k
noncomputable abbrev gs(T KP:az)(f g:CV)(line:Int):GS:=⟨T,f,g,KP,line⟩
def W7(j:Nat)(line:Int)(q:Prop):Prop:=match j with
 |0=>false=false/\kg (S0 "oh") line q|j+1=>match j with
  |0=>true=true/\q|j+1=>match j with
   |0=>q|_+1=>false=false/\kg (S0 "no") line q
def W8(many:Int)(v:CV):Lo:=[(S0 "own",.ref 0),(S0 "frame",.ref 3),(S0 "many",.c (aI many)),(S0 "deed",.c (.tup [.str (S0 "die"),v])),(S0 "word",.c (.str (S0 "die")))]
abbrev afv:Prop:=P7 (∀sp aa d i many depth T KP f g line w k,dw sp aa d i [] many depth (gs T KP f g line) w k=k (.next,Zj many) (kG (gs T KP f g line) w depth)) (∀sp aa d i n r many depth T KP f g line w k,dw sp aa d i (mQ (.say n)::r) many depth (gs T KP f g line) w k=(len T+0<aW/\o9 aa i r many depth w (gs (cat T [.lst [aI n]]) (cat KP []) f g line) k)) (∀sp aa d i r many depth T KP f g line w k,dw sp aa d i (mQ .fault::r) many depth (gs T KP f g line) w k=(len T+0<aW/\o9 aa i r many depth w (gs (cat T [.lst [f]]) (cat KP []) f g line) k)) (∀sp aa d i r many depth T KP f g line w k,dw sp aa d i (mQ .held::r) many depth (gs T KP f g line) w k=(len T+0<aW/\o9 aa i r many depth w (gs (cat T [.lst [g]]) (cat KP []) f g line) k)) (∀sp aa d i n r many depth T KP f g line w k,dw sp aa d i (mQ (.line n)::r) many depth (gs T KP f g line) w k=o9 aa i r many depth w (gs (cat T []) (cat KP []) f g (10+n)) k) (∀sp aa d i n r many depth T KP f g line w k,dw sp aa d i (mQ (.set n)::r) many depth (gs T KP f g line) w k=o9 aa i r many depth w (gs (cat T []) (cat KP []) f (aI n) line) k) (∀sp aa d i n r many depth T KP f g line w k,dw sp aa d i (mQ (.loc n)::r) many depth (gs T KP f g line) w k=(len KP+0<aW/\o9 aa i r many depth w (gs (cat T []) (cat KP [g]) f (aI n) line) k))
theorem W9:afv:=
 ⟨by intros;kernel_rfl,
 by intros;kernel_rfl,
 by intros;kernel_rfl,
 by intros;kernel_rfl,
 by intros;kernel_rfl,
 by intros;kernel_rfl,
 by intros;kernel_rfl⟩
abbrev yD(w:Nat):Prop:=P1 (∀sp aa d i r many depth T KP f g line k,dw sp aa d i (mQ .wanted::r) many depth (gs T KP f g line) (.int (.ofNat w)) k=(len T+0<aW/\o9 aa i r many depth (.int (.ofNat w)) (gs (cat T [.lst [Be w]]) (cat KP []) f g line) k))
theorem afw:yD 0:=⟨by intros;kernel_rfl⟩
theorem afx:yD 1:=⟨by intros;kernel_rfl⟩
theorem afy:yD 2:=⟨by intros;kernel_rfl⟩
abbrev Bg(j:Nat):Prop:=P1 (∀sp aa d i r many depth T KP f g line w k,dw sp aa d i (mQ (.mP j)::r) many depth (gs T KP f g line) w k=W7 j line (k (.err 4,W8 many (qc j)) (cat (kG (gs T KP f g line) w depth) [Ia (vq j line) false])))
theorem afz:Bg 0:=⟨by intros;kernel_rfl⟩
theorem afA:Bg 1:=⟨by intros;kernel_rfl⟩
theorem afB:Bg 2:=⟨by intros;kernel_rfl⟩
theorem afC:Bg 3:=⟨by intros;kernel_rfl⟩
abbrev afD(aa d:Nat):Prop:=QY H9 qe (fnOf 1536).sc [] .no (3*aa+6) (d+(3*aa+6))
abbrev abP:Prop:=P1 (∀(sp:Spec Prop)(aa d i:Nat)(D:az)(many depth:Int)(T KP:az)(f g:CV)(line:Int)(w:CV)(K:KR),
  BE (eO (Rb sp aa i) 40 (fnOf 1536)) .no (d+(3*aa+6)) [.ref 0,.c (.lst D),.ref 3,.c (aI many)] (kG (gs T KP f g line) w depth) K =
   (afD aa d/\goC aa i D many depth w (gs (cat T []) (cat KP []) f g line) (jo (λs=>K (.ok (.c .none)) (kG s w depth)) λv _ _ s=>K (.error 4) (cat (kG s w depth) [Ia v true]))))
theorem goR:abP:=⟨by intros;kernel_rfl⟩
def cxW:Cx Prop:=⟨cg,[],Tg,[],λ_ _=>none,[],[]⟩
def Fy(j:Nat)(x:WX)(d:Nat)(mk:Int)(gone want:CV)(v:Int)(σ:aq)(k:KL):Prop:=
 vm 40 (Mf wF (len (Oe x).σ) (wQ j)) [cxW] ⟨(fnOf 1543).sc,[],wM x mk gone want v,.no,d+0⟩ wT wL σ k
def wHs(x:WX)(mk:Int)(gone want:CV)(v:Int)(s:GS)(w:CV)(depth:Int)(gl:az):List Hv:=.i mk::cat (match x.2 with|true=>[]|false=>[.v gone]) (cat [.v want,.i v,.v s.fault,.v s.g,.i depth,.l s.told,.l s.kept,.v w,.i s.line] (match x.2 with|true=>[.l gl]|false=>[]))
inductive MG(x:WX):Prop where
 |mk (stop:∀j d mk gone want v T L f g line w depth gl k,Fy j x d mk gone want v (Dd x (gs T L f g line) w depth gl) k =
  (len L+0<aW/\(fX mk (len L+0:Nat)=true->False)/\(fX mk (len L+0:Nat)=false->k (.next,wM x mk gone want v) (Dd x (gs T L f g line) w depth gl)))) (go:∀j d mk gone want v T L y f g line w depth gl k,Fy j x d mk gone want v (setAt (Dd x (gs T L f g line) w depth gl) 2 (.list L [.c y])) k =
  (len L+1<aW/\(fX mk (len L+1:Nat)=true->uq (Dd x (gs T L f y line) w depth gl) λσ'=>Oc (Oe x) (λhs=>wQ j x hs k) (wM x mk gone want v) σ')/\(fX mk (len L+1:Nat)=false->k (.next,wM x mk gone want v) (setAt (Dd x (gs T L f g line) w depth gl) 2 (.list L [.c y]))))) (gc:∀j mk gone want v T L f g line w depth gl k,Oc (Oe x) (λhs=>wQ j x hs k) (wM x mk gone want v) (Dd x (gs T L f g line) w depth gl)=wQ j x (wHs x mk gone want v (gs (cat T []) (cat L []) f g line) w depth (cat gl [])) k)
theorem afE:MG (0,false):=⟨by intros;kernel_rfl,by intros;kernel_rfl,by intros;kernel_rfl⟩
theorem afF:MG (1,false):=⟨by intros;kernel_rfl,by intros;kernel_rfl,by intros;kernel_rfl⟩
theorem afG:MG (1,true):=⟨by intros;kernel_rfl,by intros;kernel_rfl,by intros;kernel_rfl⟩
theorem afH:MG (2,true):=⟨by intros;kernel_rfl,by intros;kernel_rfl,by intros;kernel_rfl⟩
theorem Fz{P:WX->Prop}(h1:P (0,false))(h2:P (1,false))(h3:P (1,true))(h4:P (2,true)){x:WX}{u:Unit}(h:Zk x=some u):P x:=by
 obtain ⟨n,b⟩:=x;induction b with
 |false=>
  have z:=abV (xB h);match n,z with
  |0,_=>exact h1|1,_=>exact h2
 |true=>
  have z:(Nat.beq n 1||Nat.beq n 2)=true:=xB h
  induction e:Nat.beq n 1 with
  |true=>rw [aax e];exact h3|false=>rw [e] at z;rw [aax (show Nat.beq n 2=true from z)];exact h4
theorem whE{x:WX}{u:Unit}:Zk x=some u->MG x:=Fz afE afF afG afH
inductive WHs(x:WX)(j:Nat)(hs:List Hv)(k:KL):Prop
 |mk (mk:Int) (gone want:CV) (v:Int) (s:GS) (w:CV) (depth:Int) (gl:az) (hg:x.2=false->gl=[]) (hn:x.2=true->gone =.none) (e:∀d,(wB.en (Oe x) d hs=⟨(fnOf 1543).sc,[],wM x mk gone want v,.no,d+0⟩)/\(Oe x).sl hs=Dd x s w depth gl) (h:whC j mk s.kept s.g λKP g'=>k (.next,wM x mk gone want v) (Dd x ⟨s.told,s.fault,g',KP,s.line⟩ w depth gl))
abbrev Xa(x:WX):Prop:=P1 (∀j hs k,wQ j x hs k->WHs x j hs k)
theorem MH{n:Nat}(hn:n=0∨n=1):Xa (n,false):=⟨λj hs k h=>bZ h λ_ _ h=>bB λgg=>gq h λmk r1 e1 h=>i7 h λgone r2 e2 h=>i7 h λwant r3 e3 h=>gq h λv r4 e4 h=>i7 h λf r5 e5 h=>i7 h λg r6 e6 h=>gq h λdepth r7 e7 h=>fT h λT r8 e8 h=>fT h λL r9 e9 h=>i7 h λw r10 VH h=>gg <|gq h λline r11 e11 h=>
 ⟨mk,gone,want,v,⟨T,f,g,L,line⟩,w,depth,[],λ_=>rfl,bM,λd=>by rw [e1,e2,e3,e4,e5,e6,e7,e8,e9,VH,e11];induction hn with|inl e=>rw [e];exact ⟨rfl,rfl⟩|inr e=>rw [e];exact ⟨rfl,rfl⟩,h⟩⟩
theorem MI{n:Nat}(hn:n=1∨n=2):Xa (n,true):=⟨λj hs k h=>bZ h λ_ _ h=>bB λgg=>gq h λmk r1 e1 h=>i7 h λwant r3 e3 h=>gq h λv r4 e4 h=>i7 h λf r5 e5 h=>i7 h λg r6 e6 h=>gq h λdepth r7 e7 h=>fT h λT r8 e8 h=>fT h λL r9 e9 h=>i7 h λw r10 VH h=>gq h λline r11 e11 h=>gg <|fT h λgl r12 e12 h=>
 ⟨mk,.none,want,v,⟨T,f,g,L,line⟩,w,depth,gl,nofun,λ_=>rfl,λd=>by rw [e1,e3,e4,e5,e6,e7,e8,e9,VH,e11,e12];induction hn with|inl e=>rw [e];exact ⟨rfl,rfl⟩|inr e=>rw [e];exact ⟨rfl,rfl⟩,h⟩⟩
theorem abQ{x:WX}{u:Unit}:Zk x=some u->Xa x:=Fz (MH (.inl rfl)) (MH (.inr rfl)) (MI (.inl rfl)) (MI (.inr rfl))
theorem BF.yE(l:az)(x:CV):BF (.list (cat l [x]) []) (.list l [.c x]):=λW i a h c=>gY.casesOn c λxs n ow g r sz=>⟨xs,n,ow,g,by
 show ah W (cat (bT l) [.c x]) xs;rw [show ([MV.c x]:aY)=bT [x] from rfl,ju,← au (bT _)];exact r,sz⟩
theorem Ie{σ:aq}:∀{i:Nat}{o o':MO},af σ i=some o->BF o o'->AO σ (setAt σ i o'):=by
 induction σ with
 |nil=>exact λh=>bq h|cons a σ ih=>
  intro i o o' h le;induction i with
  |zero=>exact ⟨rfl,λi=>by induction i with|zero=>exact .yes a o' (aap h▸le)|succ i=>exact (AO.refl σ).2 i⟩
  |succ i=>exact .cons (λ_ _ _ _ c=>c) (ih (i:=i) h le)
theorem FA{a b:Int}(h:a<b):fX a b=true:=decide_eq_true h
theorem wN{a b:Int}(h:¬a<b):fX a b=false:=decide_eq_false h
theorem yF{α:Type}(l:List α):l=[]∨∃a b,l=cat a [b]:=by
 induction l with
 |nil=>exact .inl rfl|cons x l ih=>exact .inr (ih.elim (λe=>⟨[],x,by rw [e];rfl⟩) λz=>z.elim λa z=>z.elim λb e=>⟨x::a,b,by rw [e];rfl⟩)
theorem MJ{a:az}{y g:CV}:(af a 0).getD y=(af (cat a [y]) 0).getD g:=by cases a<;>rfl
theorem abR{x:WX}{u:Unit}(hx:Zk x=some u){j:Nat}{mk:Int}{gone want:CV}{v:Int}{s:GS}{w:CV}{depth:Int}{gl:az}(hg:x.2=false->gl=[])(hn:x.2=true->gone =.none){k:KL}
  (h:whC j mk s.kept s.g λKP g'=>k (.next,wM x mk gone want v) (Dd x ⟨s.told,s.fault,g',KP,s.line⟩ w depth gl)):wQ j x (wHs x mk gone want v s w depth gl) k:=by
 show pK (Zk x) _;rw [hx];obtain ⟨n,b⟩:=x;induction b with
 |false=>rw [hg rfl] at h;exact h|true=>rw [hn rfl] at h;exact h
theorem MK{cx:Cx Prop}(ht:cx.top=cg):gU cx cxW:=⟨fh rfl rfl rfl,ht.symm⟩
theorem Rc{cx:Cx Prop}(ht:cx.top=cg){j:Nat}:S7 cx 40 wT wL wB wF wQ j:=λx hs d k h0 ρ _=>
 bZ h0 λu hx _=>bB λgg=>((abQ hx).1 _ _ _ h0).casesOn λmk gone want v s w depth gl hg hn e h=>h.elim λKP h=>h.elim λmore h=>gg <|by
  have c:=h.1;have hl:len s.kept+1<aW:=adQ c.4 (by decide)
  show bD ((Oe x).sl hs) ρ λσ' _=>∃c cs,gU cx c/\(∀c'∈cs,gU cx c')/\vm 40 (Mf wF (len (Oe x).σ) (wQ j)) (c::cs) (wB.en (Oe x) d hs) wT wL σ' k;rw [(e d).1,(e d).2];induction yF more with
  |inl z=>
   refine .pure ⟨cxW,[],MK ht,ff,?_⟩;have z2:s.kept=KP:=by rw [c.1,z,au]
   have f:fX mk (len s.kept+0:Nat)=false:=wN (by rw [c.2,z2];exact aiD _)
   show Fy j x d mk gone want v _ k;rw [show Dd x s w depth gl=Dd x (gs s.told s.kept s.fault s.g s.line) w depth gl from rfl,(whE hx).1]
   refine ⟨adU hl,λq=>bM (f.symm.trans q),λ_=>?_⟩;have q:=h.2;rw [z,← z2] at q;exact q
  |inr z=>
   refine bB λgg=>?_;obtain ⟨a,y,z⟩:=z;refine gg ?_;have z2:s.kept=cat (cat KP a) [y]:=by rw [c.1,z,aP]
   have z3:len s.kept=len (cat KP a)+1:=by rw [z2,len_cat];rfl
   refine .weak (σ':=setAt (Dd x (gs s.told (cat KP a) s.fault s.g s.line) w depth gl) 2 (.list (cat KP a) [.c y])) ?_ ⟨cxW,[],MK ht,ff,?_⟩
   ·refine Ie (o:=.list s.kept []) (σ:=Dd x s w depth gl) (i:=2) rfl ?_
    rw [z2];exact .yE _ _
   ·show Fy j x d mk gone want v _ k
    have t:fX mk (len (cat KP a)+1:Nat)=true:=FA (by rw [c.2,len_cat];lia)
    rw [(whE hx).2];refine ⟨z3▸adU hl,λ_ ρ _=>.pure ?_,λq=>bM (q.symm.trans t)⟩;have q:=h.2;rw [z,← MJ (y:=y)] at q;show Oc (Oe x) (λhs=>wQ j x hs k) (wM x mk gone want v) _;rw [(whE hx).3];refine abR hx (λe=>by rw [hg e];rfl) hn ⟨KP,a,⟨au _,c.2,?_,?_⟩,?_⟩
    ·have:=c.3;rw [z,len_cat] at this;exact adM this
    ·show len (cat (cat KP a) [])<_
     have:=c.4;rw [z3] at this;rw [au];exact adU this
    ·show k _ (Dd x ⟨cat s.told [],_,_,_,_⟩ w depth (cat gl []))
     rw [au s.told,au gl];exact q
theorem abS{cx:Cx Prop}(ht:cx.top=cg)(I:Nat):jg cx (V5 wB wF wT wL (wQ I)):=QS (n:=40) I (λj _=>Rc ht) λx hs k h0=>
 bZ h0 λu hx _=>((abQ hx).1 _ _ _ h0).casesOn λ_ _ _ _ _ _ _ _ _ _ _ h=>h.elim λKP h=>h.elim λmore h=>adP _ h.1.3
inductive jC(n:Nat)(s s':GS):Prop where
 |mk (told:len s'.told<=len s.told+n) (line:0<=s.line/\s.line<19->0<=s'.line/\s'.line<19) (kept:∃more,s'.kept=cat s.kept more/\len more<=n)
theorem jC.same{n:Nat}{s s':GS}(h:len s'.told<=len s.told+n)(e:s'.kept=s.kept)(l:s'.line=s.line):jC n s s':=⟨h,λq=>l.symm▸q,[],e.trans (au _).symm,adK _⟩
theorem jC.trans{n m:Nat}{a b c:GS}(x:jC n a b)(y:jC m b c):jC (n+m) a c:=x.3.elim λr1 h1=>y.3.elim λr2 h2=>
 ⟨aco y.1 (by rw [← aez];exact afQ x.1 m),λh=>y.2 (x.2 h),cat r1 r2,by rw [h2.1,h1.1,aP],by rw [len_cat];exact Nat.add_le_add h1.2 h2.2⟩
theorem jC.le{n m:Nat}{a b:GS}(x:jC n a b)(h:n<=m):jC m a b:=⟨aco x.1 (adL h _),x.2,x.3.elim λr z=>⟨r,z.1,aco z.2 h⟩⟩
theorem jC.add(s:GS)(v:CV):jC 1 s (s.add v):=.same (by show len (cat s.told [_])<=_;rw [len_cat];exact abv _) rfl rfl
theorem Ig(w:Nat)(o:Option DV)(v:Int):len (mR w o v)<=1:=by
 induction w with
 |zero=>exact adK _|succ w=>cases o<;>exact abv 1
theorem jC.guard{s:GS}{w v n:Nat}{r:GS×Option DV}(h:len r.1.told<=len s.told+n):jC (n+1) s (gw s w v r):=.same (by
 show len (cat r.1.told (mR w r.2 v))<=_;rw [len_cat,← aez];exact Nat.add_le_add h (Ig ..)) rfl rfl
theorem ML{t:Bool}{depth many:Int}{s:GS}{w v n:Nat}{f:Int->GS×Option DV}(h:∀m,len (f m).1.told<=len s.told+n):jC (n+1) s (evG t depth many s w v f).1:=by
 induction t with
 |false=>exact .guard (h _)|true=>
  show jC _ s (match fX depth many with|true=>_|false=>_:GS×Option DV).1
  induction fX depth many with
  |true=>exact .guard (abW _ _)|false=>exact .guard (h _)
theorem Ih{n m:Nat}{s:GS}{r:GS×Option DV}{f:GS->GS×Option DV}(h:jC n s r.1)(hf:jC m r.1 (f r.1).1):jC (n+m) s (nq r f).1:=by
 obtain ⟨a,o⟩:=r;induction o with
 |none=>exact h.trans hf|some v=>exact h.le (abW _ _)
mutual
theorem uB(depth:Int)(d:dR)(aa:Nat)(many:Int)(w:Nat)(s:GS)(h:Mj aa d):jC d.cZ s (uS depth d many w s).1:=match d with
 |.say n=>.add s _|.fault=>.add s _|.wanted=>.add s _|.line r=>⟨abW _ _,λ_=>⟨by show (0:Int)<=10+r;lia,by have:r<9:=h;show (10:Int)+r<19;lia⟩,[],(au _).symm,adK _⟩|.mP _=>.same (abW _ _) rfl rfl|.held=>.add s _|.set _=>.same (abW _ _) rfl rfl|.loc _=>⟨abW _ _,id,[s.g],rfl,abv _⟩|.qY w v r=>.guard (n:=0) (s:=s) (abv _)|.ev t w ds v r=>match aa,h with
  |aa+1,h=>ML λm=>(mh depth ds aa m w s.begin h.2.1).1
theorem mh(depth:Int)(ds:aK)(aa:Nat)(many:Int)(w:Nat)(s:GS)(h:fD aa ds):jC ds.cZ s (dW depth ds many w s).1:=match ds with
 |.nil=>.same (abv _) rfl rfl|.cons d ds=>Ih (uB depth d aa many w s h.1) (mh depth ds aa many w _ h.2)
end
theorem Rd{aa i:Nat}{ds:aK}{many depth:Int}{w:Nat}{s:GS}{k:KL}(h:MF aa i ds many depth w s (jo (λs=>k (.next,Zj many) (kG s (.int (.ofNat w)) depth)) λv m tr s=>k (.err 4,m) (cat (kG s (.int (.ofNat w)) depth) [Ia v tr]))) :
  o9 aa i (cu ds) many depth (.int (.ofNat w)) s k:=⟨ds,rfl,h⟩
theorem MF.step{aa i:Nat}{d:dR}{ds:aK}{many depth:Int}{w:Nat}{st s:GS}{p:GS×Option DV->Prop}(h:MF aa (i+1) (.cons d ds) many depth w st p)(e:uS depth d many w st=(s,none)):MF aa i ds many depth w s p:=by
 have g:=uB depth d aa many w st h.2.1;rw [e] at g;have a:len st.told+(d.cZ+ds.cZ)<=100000:=h.4;have b:len st.kept+(d.cZ+ds.cZ)<=100000:=h.5;refine ⟨adM h.1,h.2.2,h.3,?_,?_,g.2 h.6,?_⟩
 ·exact aco (afQ g.1 _) (by rw [aez];exact a)
 ·exact g.3.elim λr z=>by rw [z.1,len_cat,aez];exact aco (adL (afQ z.2 _) _) b
 ·have q:=h.7
  rw [show dW depth (.cons d ds) many w st=nq (uS depth d many w st) λs=>dW depth ds many w s from rfl,e] at q
  exact q
theorem FD{f0:GS->Prop}{f1:DV->Lo->Bool->GS->Prop}{r:GS×Option DV}(h0:r.2=none->f0 r.1)(h1:∀v,r.2=some v->∀m tr,f1 v m tr r.1):jo f0 f1 r:=by
 obtain ⟨s,o⟩:=r;induction o with
 |none=>exact h0 rfl|some v=>induction v with
  |t x=>exact h1 _ rfl|l x=>exact h1 _ rfl|n x=>exact h1 _ rfl
theorem Rf{f0:GS->Prop}{f1:DV->Lo->Bool->GS->Prop}{s:GS}{v:DV}(h:jo f0 f1 (s,some v)):∀m tr,f1 v m tr s:=by cases v<;>exact h
theorem Df{aa i dp:Nat}{R:az}{w0:CV}{many depth:Int}{st s:GS}{wn v:Nat}{out:Option DV}{k:KL}{n:Nat}(g:∃more,s.kept=cat st.kept more/\len more<=n)(hk:len st.kept+n<=100000)(ht:len s.told<=100000)(q:o9 aa i R many depth w0 (gw st wn v (s,out)) k) :
  Ic aa i dp R w0 many depth (len st.kept+0:Nat) st.line wn v k out s:=g.elim λmore g=>by
 have e0:cat s.kept []=cat st.kept more:=(au _).trans g.1;have b:=g.2;refine ⟨⟨rfl,rfl,rfl,rfl,rfl,adK _⟩,st.kept,more,⟨e0,rfl,by lia,by rw [e0,len_cat];lia⟩,?_⟩
 have e1:(af more 0).getD s.g=(af s.kept (len st.kept)).getD s.g:=by rw [g.1,← dJ (a:=st.kept) (b:=more) (j:=0)];rfl
 rw [e1,au];induction wn with
 |zero=>
  show o9 aa i R many depth w0 ⟨cat s.told [],_,_,cat st.kept [],_⟩ k;rw [au st.kept];exact q
 |succ wn=>
  refine ⟨adQ ht (by decide),?_⟩
  show o9 aa i R many depth w0 ⟨cat s.told _,_,_,cat st.kept [],_⟩ k;rw [au st.kept];exact q
abbrev goK(k:KL)(many depth:Int)(w:Nat):GS×Option DV->Prop:=jo (λs=>k (.next,Zj many) (kG s (.int (.ofNat w)) depth)) λv m tr s=>k (.err 4,m) (cat (kG s (.int (.ofNat w)) depth) [Ia v tr])
abbrev MM(S:Spec Prop)(aa d i:Nat)(dd:dR)(R:az)(many depth:Int)(s:GS)(w:CV)(k:KL):Prop:=P1 (dw S aa d i (mQ dd::R) many depth s w k)
abbrev rj(aa i:Nat)(dd:dR)(ds:aK)(many depth:Int)(w:Nat)(st:GS)(k:KL):Prop:=MF aa (i+1) (.cons dd ds) many depth w st (goK k many depth w)
section
variable{S:Spec Prop}{aa d i:Nat}{dd:dR}{ds:aK}{many depth:Int}{w:Nat}{st s:GS}{k:KL}
theorem fU(h:rj aa i dd ds many depth w st k)(e:uS depth dd many w st=(s,none)):o9 aa i (cu ds) many depth (.int (.ofNat w)) s k:=Rd (h.step e)
theorem MN{n:Nat}(h:n<=200000):n<aW:=adQ h (by decide)
theorem MF.room{p:GS×Option DV->Prop}(h:MF aa i ds many depth w st p):len st.told+0<aW/\len st.kept+0<aW:=
 ⟨MN (aco (aco (abW _ _) h.4) (by decide)),MN (aco (aco (abW _ _) h.5) (by decide))⟩
theorem MP{n:Int}(h:rj aa i (.say n) ds many depth w st k):MM S aa d i (.say n) (cu ds) many depth st (.int (.ofNat w)) k:=⟨by
 show dw S aa d i (mQ (.say n)::cu ds) many depth (gs st.told st.kept st.fault st.g st.line) _ k;rw [W9.2,au];exact ⟨h.room.1,fU h rfl⟩⟩
theorem Dg(h:rj aa i .fault ds many depth w st k):MM S aa d i .fault (cu ds) many depth st (.int (.ofNat w)) k:=⟨by
 show dw S aa d i (mQ .fault::cu ds) many depth (gs st.told st.kept st.fault st.g st.line) _ k;rw [W9.3,au];exact ⟨h.room.1,fU h rfl⟩⟩
theorem Ii(h:rj aa i .held ds many depth w st k):MM S aa d i .held (cu ds) many depth st (.int (.ofNat w)) k:=⟨by
 show dw S aa d i (mQ .held::cu ds) many depth (gs st.told st.kept st.fault st.g st.line) _ k;rw [W9.4,au];exact ⟨h.room.1,fU h rfl⟩⟩
theorem goW(h:w<3):yD w:=dB afw afx afy h
theorem Ij(h:rj aa i .wanted ds many depth w st k):MM S aa d i .wanted (cu ds) many depth st (.int (.ofNat w)) k:=⟨by
 show dw S aa d i (mQ .wanted::cu ds) many depth (gs st.told st.kept st.fault st.g st.line) _ k;rw [(goW h.3).1,au];exact ⟨h.room.1,fU h rfl⟩⟩
theorem Dh{n:Nat}(h:rj aa i (.line n) ds many depth w st k):MM S aa d i (.line n) (cu ds) many depth st (.int (.ofNat w)) k:=⟨by
 show dw S aa d i (mQ (.line n)::cu ds) many depth (gs st.told st.kept st.fault st.g st.line) _ k;rw [W9.5,au,au];exact fU h rfl⟩
theorem MQ{n:Nat}(h:rj aa i (.set n) ds many depth w st k):MM S aa d i (.set n) (cu ds) many depth st (.int (.ofNat w)) k:=⟨by
 show dw S aa d i (mQ (.set n)::cu ds) many depth (gs st.told st.kept st.fault st.g st.line) _ k;rw [W9.6,au,au];exact fU h rfl⟩
theorem MR{n:Nat}(h:rj aa i (.loc n) ds many depth w st k):MM S aa d i (.loc n) (cu ds) many depth st (.int (.ofNat w)) k:=⟨by
 show dw S aa d i (mQ (.loc n)::cu ds) many depth (gs st.told st.kept st.fault st.g st.line) _ k;rw [W9.7,au];exact ⟨h.room.2,fU h rfl⟩⟩
theorem lM{P:Nat->Prop}(h0:P 0)(h1:P 1)(h2:P 2)(h3:P 3){n:Nat}(h:n<4):P n:=Ff h0 h1 h2 h3 (Nat.le_of_lt_succ h)
theorem afK{j:Nat}(h:j<4):Bg j:=lM afz afA afB afC h
theorem Di:∀m,m<19->kg (S0 "oh") (Int.ofNat m) True/\kg (S0 "no") (Int.ofNat m) True/\kg (S0 "Deep recursion") (Int.ofNat m) True:=by unfold kg;decide +kernel
theorem uC{s:Str}{n:Int}{q:Prop}(h:kg s n True)(hq:q):kg s n q:=⟨h.1,h.2.1,h.2.2.1,h.2.2.2.1,hq⟩
theorem Dj{n:Int}(h:0<=n/\n<19){P:Int->Prop}(q:∀m,m<19->P (Int.ofNat m)):P n:=by
 induction n with
 |ofNat m=>exact q m (afr.mp h.2)|negSucc m=>exact absurd h.1 (by lia)
theorem Xb{j:Nat}(hj:j<4){n:Int}{q:Prop}(h:0<=n/\n<19)(hq:q):W7 j n q:=
 lM (P:=λj=>W7 j n q) ⟨rfl,uC (Dj (P:=λn=>kg (S0 "oh") n True) h λm hm=>(Di m hm).1) hq⟩ ⟨rfl,hq⟩ hq ⟨rfl,uC (Dj (P:=λn=>kg (S0 "no") n True) h λm hm=>(Di m hm).2.1) hq⟩ hj
theorem MT{j:Nat}(h:rj aa i (.mP j) ds many depth w st k):MM S aa d i (.mP j) (cu ds) many depth st (.int (.ofNat w)) k:=⟨by
 show dw S aa d i (mQ (.mP j)::cu ds) many depth (gs st.told st.kept st.fault st.g st.line) _ k;rw [(afK h.2.1).1];exact Xb h.2.1 h.6 (Rf (s:=st) (v:=vq j st.line) h.7 _ _)⟩
theorem afL{t:Bool}{wn:Nat}(h:wn<3):De t wn:=by
 induction t with
 |true=>exact dB WY WZ W0 h|false=>exact dB WU WV WW h
theorem abT{wn:Nat}(h:wn<3):Fx wn:=dB W3 W5 W6 h
theorem call_of{n v wn:Nat}{cy:aK}{R:az}{m2:Int}{w0:CV}(ok:fD n cy)(hn:cy.num<=3)(hw:wn<3)(ht:len st.told+(cy.cZ+1)<=100000)(hk:len st.kept+(cy.cZ+1)<=100000)(hl:0<=st.line/\st.line<19)
  (q:o9 (n+1) i R many depth w0 (gw st wn v (dW depth cy m2 wn st.begin)) k):yC n i d cy R w0 m2 many depth st wn v k:=by
 have g:=mh depth cy n m2 wn st.begin ok;have t1:len (dW depth cy m2 wn st.begin).1.told<=100000:=aco g.1 (aco (adL (adq _) _) ht);have k1:len st.kept+cy.cZ<=100000:=aco (adL (adq _) _) hk;unfold yC;rw [au,au];refine ⟨rfl,rfl,λ_ _=>⟨by lia,cy,rfl,adQ hn (by decide),ok,hw,aco (adL (adq _) _) ht,k1,hl,?_⟩⟩
 show jo _ _ (dW depth cy m2 wn st.begin);revert q g t1;generalize dW depth cy m2 wn st.begin=r;intro q g t1;refine FD (λe=>⟨trivial,Df g.3 k1 t1 ?_⟩) λx e m tr=>⟨trivial,Df g.3 k1 t1 ?_⟩
 ·rw [← e];exact q
 ·rw [← e];exact q
theorem Bh{n v wn dp:Nat}{R:az}{w0:CV}{x:DV}(h:len st.kept+(n+1)<=100000)(ht:len st.told+(n+1)<=100000)(q:o9 aa i R many depth w0 (gw st wn v (st.begin,some x)) k):Ic aa i dp R w0 many depth (len st.kept+0:Nat) st.line wn v k (some x) st:=
 Df (n:=0) (s:=st) ⟨[],(au _).symm,abv _⟩ (aco (abW _ _) h) (aco (abW _ _) ht) q
theorem MU{n:Nat}{t:Bool}{wn v:Nat}{cy:aK}{rt:Bool}(h:rj (n+1) i (.ev t wn cy v rt) ds many depth w st k):MM (IT n) (n+1) d i (.ev t wn cy v rt) (cu ds) many depth st (.int (.ofNat w)) k:=⟨by
 have o:=h.2.1;have ht:len st.told+(cy.cZ+1)<=100000:=aco (adL (abW _ _) _) h.4;have hk:len st.kept+(cy.cZ+1)<=100000:=aco (adL (abW _ _) _) h.5;show dw (IT n) (n+1) d i (mQ (.ev t wn cy v rt)::cu ds) many depth (gs st.told st.kept st.fault st.g st.line) _ k;refine ((afL (t:=t) o.1).1 ..).mpr ⟨h.room.2,?_⟩;induction t with
 |false=>exact call_of o.2.1 o.2.2.1 o.1 ht hk h.6 (fU h rfl)|true=>
  have e:uS depth (.ev true wn cy v rt) many w st=(match fX depth many with|true=>(gw st wn v (st.begin,some (gV (S0 "Deep recursion") st.line)),none)|false=>(gw st wn v (dW depth cy (many+1) wn st.begin),none)):=rfl
  refine ⟨λz=>?_,λz=>?_⟩
  ·rw [z] at e
   exact ⟨rfl,uC (Dj (P:=λn=>kg (S0 "Deep recursion") n True) h.6 λm hm=>(Di m hm).2.2) (Bh hk ht (fU h e))⟩
  ·rw [z] at e
   exact call_of o.2.1 o.2.2.1 o.1 ht hk h.6 (fU h e)⟩
theorem Ik{n wn v:Nat}{rt:Bool}(h:rj (n+1) i (.qY wn v rt) ds many depth w st k):MM (IT n) (n+1) d i (.qY wn v rt) (cu ds) many depth st (.int (.ofNat w)) k:=⟨by
 show dw (IT n) (n+1) d i (mQ (.qY wn v rt)::cu ds) many depth (gs st.told st.kept st.fault st.g st.line) _ k;refine ((abT (wn:=wn) h.2.1.1).1 ..).mpr ⟨h.room.2,Bh (n:=ds.cZ) ?_ ?_ (fU h rfl)⟩
 ·rw [aeh ds.cZ 1];exact h.5
 ·rw [aeh ds.cZ 1];exact h.4⟩
end
def noS:Spec Prop:=λ_ _ _ _ _=>False
def Dk(aa:Nat):Spec Prop:=match aa with
 |0=>noS|n+1=>IT n
section
variable{S:Spec Prop}{aa d i:Nat}{dd:dR}{ds:aK}{many depth:Int}{w:Nat}{st s:GS}{k:KL}
theorem Dl(h:rj aa i dd ds many depth w st k):MM (Dk aa) aa d i dd (cu ds) many depth st (.int (.ofNat w)) k:=by
 cases dd with
 |say n=>exact MP h|fault=>exact Dg h|wanted=>exact Ij h|line r=>exact Dh h|mP j=>exact MT h|held=>exact Ii h|set n=>exact MQ h|loc n=>exact MR h|ev t wn cy v rt=>
  induction aa with
  |zero=>exact (MC (rO h.2)).elim|succ n=>exact MU h
 |qY wn v rt=>
  induction aa with
  |zero=>exact (C8 (rO h.2)).elim|succ n=>exact Ik h
inductive afM(aa i:Nat)(it:It)(hs:List Hv)(k:KL):Prop
 |mk (ds:aK) (many depth:Int) (w:Nat) (st:GS) (e1:it =.dO (cu ds)) (e2:(fF (Od.T ()).m hs).1=Zj many) (e3:(Od.T ()).sl hs=kG st (.int (.ofNat w)) depth) (h:MF aa i ds many depth w st (goK k many depth w))
theorem Tj{x:Unit}{it:It}{hs:List Hv}(h:Bf aa i x it hs k):afM aa i it hs k:=by
 induction it with
 |dO D=>
  exact bB λgg=>gq h λmany r1 e1 h=>i7 h λf r2 e2 h=>i7 h λg r3 e3 h=>gq h λdepth r4 e4 h=>fT h λT r5 e5 h=>fT h λKP r6 e6 h=>i7 h λw r7 e7 h=>gq h λline r8 e8 h=>gg <|bZ h λwn e9 h=>h.elim λds h=>by
   have q:=h.2;rw [rN e9] at q e7;exact ⟨ds,many,depth,wn,⟨T,f,g,KP,line⟩,congrArg It.dO h.1,by rw [e1];rfl,by rw [e1,e2,e3,e4,e5,e6,e7,e8];rfl,q⟩
 |_=>exact h.elim
theorem Rg(x:Unit)(it:It)(hs:List Hv)(d:Nat)(k:KL)(h:Bf aa (i+1) x it hs k) :
  dg (Rb (Dk aa) aa i) { R (Rb (Dk aa) aa i) 40 with gh:=qW Od (len (Od.T ()).σ) (Bf aa i) } ((goB aa).en (Od.T ()) d hs) H9 it qe ((Od.T ()).sl hs) k:=
 (Tj h).casesOn λds many depth w st e1 e2 e3 h=>by
  rw [e3,e1,show (goB aa).en (Od.T ()) d hs=⟨(fnOf 1536).sc,[],(fF (Od.T ()).m hs).1,.no,d+(3*aa+6)⟩ from rfl,e2]
  show dw (Dk aa) aa d i (cu ds) many depth (gs st.told st.kept st.fault st.g st.line) (.int (.ofNat w)) k;cases ds with
  |nil=>exact (W9.1 ..).mpr h.7|cons dd ds=>exact (Dl h).1
abbrev FE(aa:Nat):Prop:=∀cx:Cx Prop,cx.top=cg->aV cx 1536 (IT aa)
abbrev SpG(aa:Nat):Prop:=∀cx:Cx Prop,cx.top=cg->aV cx 1536 (Dk aa)
theorem Rh(hp:SpG aa)(i:Nat):eN (Rb (Dk aa) aa i):=by
 induction i using Nat.strongRecOn with
 |_ i ih=>exact Mg rfl rfl rfl (bE (hp _ rfl) ff) (yp (yi (n:=40) i (λj hj=>⟨_,ih j hj,rfl,Rg⟩) λx it hs k h=>(Tj h).casesOn λ_ _ _ _ _ _ _ _ h=>adP _ h.1) ff) (QU (abS rfl _) ff)
theorem MW(hp:SpG aa):FE aa:=λcx ht=>by
 have h0:aJ cx 1536 (BE (eO (Rb (Dk aa) aa 9) 40 (fnOf 1536))):=uf (Rh hp 9) (by rw [ht];rfl) (by rw [ht];rfl)
 refine eg (dN:=cx) (ME h0 λhs d K h=>bB λgg=>fT h λD r0 e0 h=>gq h λmany r1 e1 h=>i7 h λf r2 e2 h=>i7 h λg r3 e3 h=>gq h λdepth r4 e4 h=>fT h λT r5 e5 h=>fT h λKP r6 e6 h=>i7 h λw r7 e7 h=>gq h λline r8 e8 h=>gg <|?_) rfl
 rw [e0,e1,e2,e3,e4,e5,e6,e7,e8];refine (goR.1 _ aa d 9 D many depth T KP f g line w K).mpr ⟨⟨rfl,rfl,rfl,rfl,rfl,aeq _ _⟩,?_⟩;rw [au,au];exact h
theorem Ri(aa:Nat):SpG aa:=by
 induction aa with
 |zero=>exact λcx _ F as aj S dp _ _ _ k R h=>h.elim|succ n ih=>exact MW ih
theorem abU(aa:Nat):FE aa:=MW (Ri aa)
end
section
variable{σ:aq}{ρ:bR}{P:aq->bR->Prop}{i k:Nat}{o:MO}
theorem bD.shift{A:Addr}(hi:af σ i=some o)(hA:af ρ i=some A)(h:P (app (setAt σ i .gone) o) (app ρ A)):bD σ ρ P:=λcx F S ok e1 e2=>by
 subst e1 e2;have hN:i<len S.σ:=cQ hi;refine ⟨⟨S.W.aU,fS S.W.own S.W.own i (len S.σ),app S.W.ρ A⟩,_,ok.Fb (ur λb z=>⟨i,z⟩) (λ_ _ e=>aB _ e) ?_ (λj x b q1 q2=>?_),h⟩
 ·rw [bu,bu,bL,ok.1.6]
 ·cases bF q1 with
  |inl q1=>
   have hj:j<len S.σ:=(bL ..)▸cQ q1;have q2:af S.W.ρ j=some b:=(bF q2).elim id λz=>absurd (z.1▸ok.1.6▸hj) (aec _);by_cases z:i=j
   ·subst z
    rw [← aap ((av _ hi).symm.trans q1)];trivial
   ·have q1:af S.σ j=some x:=(ay _ _ z).symm.trans q1
    exact (ok.1.7 j x b q1 q2).move (W:=S.W) (W':=⟨S.W.aU,fS S.W.own S.W.own i (len S.σ),app S.W.ρ A⟩) (.low ⟨λ_ _ e=>e,λ_ _ e=>aB _ e⟩ (λb y=>(jj λw=>z (lI w y)).trans y) λ_ _ _ g=>g)
  |inr q1=>
   have hb:A=b:=aap ((cz A S.W.ρ).symm.trans (by rw [← ok.1.6,← bL .gone S.σ i,← q1.1];exact q2))
   rw [q1.1,q1.2,bL,← hb];exact (ok.1.7 i o A hi hA).qQ (g:=some) (W:=S.W) (W':=⟨S.W.aU,fS S.W.own S.W.own i (len S.σ),app S.W.ρ A⟩) ⟨⟨λ_ _ e=>e,λn m a q e=>by cases q;exact aB _ e⟩,λb _ y _=>l9 y,λ_ _ _ g=>g⟩ (Qu o)
theorem bD.add(A:Addr)(h:P (app σ .gone) (app ρ A)):bD σ ρ P:=λcx F S ok e1 e2=>by
 subst e1 e2;refine ⟨⟨S.W.aU,S.W.own,app S.W.ρ A⟩,_,ok.Fb (⟨λ_ _ _ e=>e,λ_ _ _ e=>e,λb j e=>⟨j,e⟩⟩:AZ S.W S.W.own) (λ_ _ e=>aB _ e) ?_ (λj x b q1 q2=>?_),h⟩
 ·rw [bu,bu,ok.1.6]
 ·induction bF q1 with
  |inl q1=>
   have hj:j<len S.σ:=cQ q1;have q2:af S.W.ρ j=some b:=(bF q2).elim id λz=>absurd (z.1▸ok.1.6▸hj) (aec _);exact (ok.1.7 j x b q1 q2).move (W:=S.W) (W':=⟨S.W.aU,S.W.own,app S.W.ρ A⟩) (.low ⟨λ_ _ e=>e,λ_ _ e=>aB _ e⟩ (λb y=>y) λ_ _ _ g=>g)
  |inr q1=>rw [q1.2];trivial
def cR(ρ:bR)(v v':MV):Prop:=∀W x,W.ρ=ρ->ao W v x->ao W v' x
theorem cR.refl(v:MV):cR ρ v v:=λ_ _ _ h=>h
theorem cR.aA{n:Nat}{A:Addr}(h:af ρ n=some A):cR ρ (.ref n) (.c (.aA A)):=λW x e q=>iw.casesOn q λa ha=>by cases (e▸ha).symm.trans h;rfl
theorem cR.ref{n:Nat}{A:Addr}(h:af ρ n=some A):cR ρ (.c (.aA A)) (.ref n):=λW x e q=>by rw [show x =.ref A from q];exact ⟨A,e▸h⟩
theorem cR.same{n m:Nat}{A:Addr}(h:af ρ n=some A)(h':af ρ m=some A):cR ρ (.ref n) (.ref m):=λW x e q=>cR.ref h' W x e (cR.aA h W x e q)
theorem cR.at{v:CV}{n:Int×Bool}(e:b8 v=some n):cR ρ (.c v) (.c (.at (.int n.1))):=λW x _ q=>CP e _ _ q
inductive eT(ρ:bR):Lo->Lo->Prop
 |nil:eT ρ [] []|cons (x:Str) (v v':MV) (l l':Lo) (h:cR ρ v v') (t:eT ρ l l'):eT ρ ((x,v)::l) ((x,v')::l')
theorem eT.refl(l:Lo):eT ρ l l:=by
 induction l with
 |nil=>exact .nil|cons p l ih=>exact .cons p.1 p.2 p.2 l l (.refl _) ih
theorem eT.look{l l':Lo}(k:eT ρ l l'){W:Wd}(e:W.ρ=ρ)(x:Str){y:cK}(h:nQ W (look x l) y):nQ W (look x l') y:=by
 induction k with
 |nil=>exact h|cons z v v' l l' hv t ih=>
  rw [aC] at h ⊢;by_cases q:z=x
  ·rw [if_pos q] at h ⊢;exact h.elim λu w=>⟨u,w.1,hv W u e w.2⟩
  ·rw [if_neg q] at h ⊢;exact ih h
theorem eT.len{l l':Lo}(k:eT ρ l l'):aT.len l'=aT.len l:=by
 induction k with
 |nil=>rfl|cons z v v' l l' hv t ih=>exact congrArg (· + 1) ih
theorem eT.Eh{l l':Lo}(k:eT ρ l l'){W:Wd}(e:W.ρ=ρ){a:Addr}{h:Heap}(c:d8 W i l a h):d8 W i l' a h:=c.casesOn λo g ow q say r=>⟨o,g,ow,q,k.len.symm▸say,λx=>k.look e x (r x)⟩
theorem bD.inst{C:Addr}{fs fs':Lo}(hi:af σ i=some (.inst C fs))(k:eT ρ fs fs')(h:P (setAt σ i (.inst C fs')) ρ):bD σ ρ P:=.cell hi (λW a hp e _ c=>nR.casesOn c λd ow ne g c=>⟨d,ow,ne,g,k.Eh e c⟩) h
theorem bD.dict{fs fs':Lo}(hi:af σ i=some (.dict fs))(k:eT ρ fs fs')(h:P (setAt σ i (.dict fs')) ρ):bD σ ρ P:=.cell (o':=.dict fs') hi (λW a hp e _ c=>k.Eh (a:=a) e c) h
theorem bD.to{o':MO}(hi:af σ i=some o)(k:BF o o')(h:P (setAt σ i o') ρ):bD σ ρ P:=.cell hi (λW a hp _ _ c=>k W i a hp c) h
end
def Xc(g:Nat->Option Nat):cB->Option cB
 |.next=>some .next|.brk=>some .brk|.cont=>some .cont|.ret v=>(t7 g v).map .ret|.err n=>(g n).map .err
def gcX(ks:cI)(c:Nat)(f:cB)(σ:aq):Option (cB×aq):=eF (iu ks&&qU c 0 ks) ((kE (bA ks) [] (λ_=>[]) σ ks).bind λσ'=>(Xc (bA ks) f).map λf'=>(f',σ'))
section
variable{cx:Cx Prop}{F:Fr cx}{S S2:Pt}
theorem MX{ks:cI}{c:Nat}{f:cB}{σ:aq}{q:cB×aq}(h:gcX ks c f σ=some q){G:Prop}(k:iu ks=true->qU c 0 ks=true->kE (bA ks) [] (λ_=>[]) σ ks=some q.2->Xc (bA ks) f=some q.1->G):G:=
 bind_some (bz h).2 λσ' e1 h1=>map_some h1 λf' e2 h1=>by cases h1;exact k (bx (bz h).1).1 (bx (bz h).1).2 e1 e2
theorem mz.nil{W:Wd}{g:Str->cK}:mz W [] g:=λ_ _ q=>bq q
theorem Ok.gcX(o:Ok F S)(le:Le S S2){m:Lo}(o2:Ok (F.fix m) S2){c:Nat}(hc:len S.W.ρ<=c){ks:cI}{σ':aq}(on:iu ks=true)(hp:qU c 0 ks=true)(hs:kE (bA ks) [] (λ_=>[]) S2.σ ks=some σ'):Le S (S2.gc ks σ')/\Ok (F.fix []) (S2.gc ks σ'):=by
 have ir:S.W.Le (S2.gc ks σ').W:=ET le.1 λj hj=>(pZ hp (aet hj hc)).trans (congrArg some (aeb j));have ar:=o.4.up ir;exact ⟨⟨ir,le.2⟩,o2.1.sel on hs λk j h=>bq h,⟨o.2.1,o.2.2,eu o2.2.3 rfl,o2.2.4.elim λg z=>⟨g,z.1,mz.nil⟩,o.2.5.up ir.6,o.2.6,o.2.7,o.2.8,o.2.9.mono ir.1⟩,o2.3,⟨ar.1,ar.2,ar.3,ar.4,ar.5⟩⟩
theorem BD.qQ{W W':Wd}{g:Nat->Option Nat}(k:IS g W W'){f f':cB}{fl:Flow}(q:Xc g f=some f')(h:BD W f fl):BD W' f' fl:=by
 cases h with
 |next=>cases q;exact .next
 |brk=>cases q;exact .brk
 |cont=>cases q;exact .cont
 |ret v x hv=>exact map_some q λv' e q=>q▸ .ret v' x (fP k v e hv)
theorem BD.up{W W':Wd}(k:W.Le W'){f:cB}{fl:Flow}(h:BD W f fl):BD W' f fl:=h.low k.low
end
def Xd(pick:Ex MV->aq->cI)(c:Nat)(K:Ex MV->aq->Prop)(res:Ex MV)(σ:aq):Prop:=pK (eF (qU c 0 (pick res σ)) (gcR (pick res σ) res σ)) λp=>K p.1 p.2
def wO(pick:Ex MV->aq->cI)(S:Spec Prop):Spec Prop:=λhd dp as σ K=>S hd dp as σ (Xd pick (len σ) K)
inductive Rj(σ:aq)(ρ:bR):Ex MV->Ex MV->Prop
 |ok (v v':MV) (h:cR ρ v v'):Rj σ ρ (.ok v) (.ok v')|err (n:Nat) (h:eL σ n):Rj σ ρ (.error n) (.error n)
def qf(ρ:bR)(as as':aY):Prop:=∀W vs,W.ρ=ρ->ah W as vs->ah W as' vs
def Bj(ρ0:bR)(K:Ex MV->aq->Prop)(res:Ex MV)(σ:aq):Prop:=∀ρ,(∀i a,af ρ0 i=some a->af ρ i=some a)->len σ=len ρ->bD σ ρ λσ' ρ'=>∃res',Rj σ' ρ' res res'/\K res' σ'
def Rk{X:Type}(H:Hd->Prop)(need:Nat)(A:X->aY)(T:X->aq)(Q:X->(Ex MV->aq->Prop)->Prop):Spec Prop:=λhd dp as σ K=>∃x,H hd/\Nat.ble need dp=true/\as=A x/\σ=T x/\Q x K
section
variable{cx dN:Cx Prop}{a:Addr}{C C':Spec Prop}{ρ:bR}
theorem qf.refl(as:aY):qf ρ as as:=λ_ _ _ h=>h
theorem aJ.imp(h:aJ cx a C)(hi:∀hd dp as σ K,C' hd dp as σ K->C hd dp as σ K):aJ cx a C':=λF as aj S dp sh fK o hv k R hS=>h F as aj S dp sh fK o hv k R (hi _ _ _ _ _ hS)
theorem aJ.gc{pick:Ex MV->aq->cI}(H:aJ cx a C):aJ cx a (wO pick C):=λF as aj S dp sh fK o hv k R h ok er=>by
 have le:∀{S2 ks σ3},Le S S2->qU (len S.σ) 0 ks=true->Le S (S2.gc ks σ3):=λle hk=>⟨ET le.1 λj hj=>(pZ hk (o.1.6▸hj)).trans (congrArg some (aeb j)),le.2⟩;refine H F as aj S dp sh fK o hv _ R h (λS2 b v n q h=>bZ h λp e h=>(ya (bz e).2).casesOn (motive:=λp _=>k p.1 p.2->_) (λr σ3 on hs hr h=>map_some hr λb' e2 hr=>?_) h) λS2 m v n e1 e2 h=>bZ h λp e h=>(ya (bz e).2).casesOn (motive:=λp _=>k p.1 p.2->_) (λr σ3 on hs hr h=>map_some hr λb' e3 hr=>?_) h
 ·exact ok (S2.gc _ σ3) b' v ⟨le n.1 (bz e).1,n.2.gc sh on hs⟩ (fP gF b e2 q) (show k (.ok b') σ3 from hr▸h)
 ·exact er (S2.gc _ σ3) b' v ⟨le n.1 (bz e).1,n.2.gc sh on hs⟩ (gF.ρ _ _ _ e3 e1) (EU hs e3 e2) (show k (.error b') σ3 from hr▸h)
theorem bD.of{P:aq->bR->Prop}{cx:Cx Prop}{F:Fr cx}{S:Pt}(ok:Ok F S)(h:len S.σ=len S.W.ρ->bD S.σ S.W.ρ P){G:Prop}(c:∀W' σ',bH F S ⟨W',σ',S.s⟩->P σ' W'.ρ->G):G:=
 (h ok.1.6 cx F S ok rfl rfl).elim λW' z=>z.elim λσ' z=>c W' σ' z.1 z.2
theorem aJ.nu(h:aJ cx a C):aJ cx a (λhd dp as σ K=>∀ρ,len σ=len ρ->bD σ ρ λσ' ρ'=>∃as',qf ρ' as as'/\C hd dp as' σ' (Bj ρ' K)):=λF as aj S dp sh fK o hv k R hS ok er=>
 bD.of o (hS S.W.ρ) λW' σ' n1 hS=>hS.elim λas' hS=>h F as' aj ⟨W',σ',S.s⟩ dp sh fK n1.2 (hS.1 W' _ rfl (hv.up n1.1.1)) _ R hS.2
  (λS' b v n q h=>bD.of n.2 (h S'.W.ρ n.1.1.6) λW2 σ2 n2 h=>h.elim λr h=>by
   obtain ⟨q1,h⟩:=h;cases q1 with|ok _ v' z=>exact ok ⟨W2,σ2,S'.s⟩ v' v (n1.trans (n.trans n2)) (z W2 _ rfl (ao.up q n2.1.1)) h)
  λS' m x n e1 e2 h=>bD.of n.2 (h S'.W.ρ n.1.1.6) λW2 σ2 n2 h=>h.elim λr h=>by
   obtain ⟨q1,h⟩:=h;cases q1 with|err _ z=>exact er ⟨W2,σ2,S'.s⟩ m x (n1.trans (n.trans n2)) (n2.1.1.6 _ _ e1) z h
theorem gH{f:Fn}{n:Nat}(pick:Ex MV->aq->cI)(HC:eN dN)(ht:dN.top=cx.top)(hf:aD a cx.top.fns=some f):aJ cx a (wO pick (eO dN n f)):=aJ.gc λF as aj S dp _=>LU HC ht hf F as aj S dp
theorem qZ{X:Type}{H:Hd->Prop}{need:Nat}{A:X->aY}{T:X->aq}{Q:X->(Ex MV->aq->Prop)->Prop}(h:aJ cx a C)
  (hq:∀x hd d K,H hd->Q x K->∀ρ,len (T x)=len ρ->bD (T x) ρ λσ' ρ'=>∃as',qf ρ' (A x) as'/\C hd (d+need) as' σ' (Bj ρ' K)):aJ cx a (Rk H need A T Q):=h.nu.imp λhd dp as σ K h=>h.elim λx h=>by
 refine bB λgg=>?_;obtain ⟨h1,h2,h3,h4,h5⟩:=h;refine gg ?_;rw [h3,h4,← aef (abV h2)];exact hq x hd _ K h1 h5
section
variable{σ:aq}{P:aq->bR->Prop}{i n:Nat}{A:Addr}
theorem bD.afO(hi:af σ i=some (.uU (.ref n) A))(h:af ρ n=some A->bD σ ρ P):bD σ ρ P:=λcx F S ok e1 e2=>by
 refine h ?_ cx F S ok e1 e2;subst e1 e2;refine gQ ok.1.6 hi λa ha=>?_;cases ok.1.7 i _ a hi ha with|mk b hb=>exact hb
theorem bD.root{p:Addr×SC}{l:List (Addr×SC)}(hi:af σ i=some (.box (p::l)))(h:af ρ i=some p.1->bD σ ρ P):bD σ ρ P:=λcx F S ok e1 e2=>by
 refine h ?_ cx F S ok e1 e2;subst e1 e2;refine gQ ok.1.6 hi λa ha=>?_;induction ok.1.7 i _ a hi ha with|mk own e top c=>rw [top p rfl];exact ha
theorem bD.unbox{o:SC}(hi:af σ i=some (.box [(A,o)]))(h:P (setAt σ i o.mo) ρ):bD σ ρ P:=
 .cell hi (λW a hp e hi c=>sL.casesOn c λown e top c=>by
  have z:=c 0 _ rfl;rw [show A=a from top _ rfl] at z
  exact (u0.to (W':=W) z (λ_ _ e=>e) λb y=>e b 0 y).mo) h
theorem bD.Tn{o:SC}(hi:af σ i=some o.mo)(hA:af ρ i=some A)(h:P (setAt σ i (.box [(A,o)])) ρ):bD σ ρ P:=
 .cell (o':=.box [(A,o)]) hi (λW a hp e ha c=>by
  cases hA.symm.trans ha;refine ⟨fS (λ_=>none) W.own i 0,λb j z=>?_,λp z=>by cases z;rfl,λj p z=>?_⟩
  ·cases oV (own:=λ_=>none) (m:=W.own) (j:=i) (k:=0) (b:=b) with
   |inl w=>exact w.1|inr w=>exact bq (w.2.symm.trans z)
  ·cases j with
   |zero=>cases z;exact u0.to (W:=W) (W':=⟨W.aU,fS (λ_=>none) W.own i 0,[]⟩) (u0.of c) (λ_ _ e=>e) λb y=>l9 (own:=λ_=>none) (m:=W.own) (j:=i) (k:=0) y
   |succ j=>exact bq z) h
theorem bD.tell(hi:af σ i=some .gone)(hA:af ρ n=some A)(h:P (setAt σ i (.uU (.ref n) A)) ρ):bD σ ρ P:=.cell (o':=.uU (.ref n) A) hi (λW a hp e _ _=>⟨A,e▸hA⟩) h
theorem bD.gone{o:MO}(hi:af σ i=some o)(h:P (setAt σ i .gone) ρ):bD σ ρ P:=.cell (o':=.gone) hi (λ_ _ _ _ _ _=>trivial) h
theorem bD.perm{fs fs':Lo}(hi:af σ i=some (.dict fs))(hl:len fs'=len fs)(hx:∀x,look x fs'=look x fs)(h:P (setAt σ i (.dict fs')) ρ):bD σ ρ P:=
 .cell (o':=.dict fs') hi (λW a hp e _ c=>d8.casesOn (motive:=λ_=>d8 W i fs' a hp) c λo g ow q say r=>⟨o,g,ow,q,hl▸say,λx=>hx x▸r x⟩) h
end
theorem ia{ρ:bR}{A:Addr}{n:Nat}(h:n=len ρ):af (app ρ A) n=some A:=h▸cz A ρ
theorem bK{ρ:bR}{i:Nat}:i<len ρ->∃a,af ρ i=some a:=by
 induction e:af ρ i with
 |none=>exact λh=>absurd (ud e) (Nat.not_le_of_lt h)|some a=>exact λ_=>⟨a,rfl⟩
theorem iE{α:Type}{j k:Str}{v w:α}{l:List (Str×α)}(ne:j≠k)(x:Str):look x ((j,v)::(k,w)::l)=look x ((k,w)::(j,v)::l):=by
 rw [aC,aC,aC,aC];by_cases e:j=x
 ·rw [if_pos e,if_pos e,if_neg λq=>ne (e.trans q.symm)]
 ·rw [if_neg e,if_neg e]
end
theorem cR.dP{ρ:bR}{v:CV}{a:At}(h:dP v=some a):cR ρ (.c v) (.c (.at a)):=by
 cases v with
 |none|int|str|«at» =>cases h;exact λ_ _ _ q=>q
 |_=>cases h
theorem qf.cons{ρ:bR}{v v':MV}{l l':aY}(h:cR ρ v v')(t:qf ρ l l'):qf ρ (v::l) (v'::l'):=λW vs e q=>q.elim λx q=>q.elim λr q=>⟨x,r,q.1,h W x e q.2.1,t W r e q.2.2⟩
theorem iz{ρ:bR}{K:Ex MV->aq->Prop}{v:MV}{σ:aq}(h:K (.ok v) σ):Bj ρ K (.ok v) σ:=λ_ _ _=>.pure ⟨_,.ok _ _ (λ_ _ _ q=>q),h⟩
theorem ez{α:Type}(x:α):∀l:List α,cat l [x]=app l x
 | []=>rfl|a::l=>congrArg (a :: ·) (ez x l)
theorem rP{α β:Type}(f:α->β)(x:α):∀l:List α,(app l x).map f=app (l.map f) (f x)
 | []=>rfl|a::l=>congrArg (f a :: ·) (rP f x l)
theorem bD.snoc{σ:aq}{ρ:bR}{P:aq->bR->Prop}{i:Nat}{L:az}{v:MV}{x:CV}(hi:af σ i=some (.list L [v]))(hv:cR ρ v (.c x))(h:P (setAt σ i (.list (app L x) [])) ρ):bD σ ρ P:=
 .cell (o':=.list (app L x) []) hi (λW a hp e _ c=>ez x L▸BF.snoc L x W i a hp (gY.casesOn c λxs n ow g r sz=>⟨xs,n,ow,g,r.split.elim λy r=>r.elim λz r=>r.1▸ah.cat r.2.1 (r.2.2.elim λu r=>r.elim λw r=>⟨u,w,r.1,hv W u e r.2.1,r.2.2⟩),sz⟩)) h
def Il(l:aY)(l':az)(ρ:bR):Prop:=∀W xs,W.ρ=ρ->ah W l xs->bO W.aU l' xs
theorem Il.nil{ρ:bR}:Il [] [] ρ:=λ_ _ _ h=>h
theorem Il.cons{ρ:bR}{v:MV}{x:CV}{l:aY}{l':az}(h:cR ρ v (.c x))(t:Il l l' ρ):Il (v::l) (x::l') ρ:=λW xs e q=>q.elim λy q=>q.elim λr q=>⟨y,r,q.1,h W y e q.2.1,t W r e q.2.2⟩
theorem cR.tup{ρ:bR}{l:aY}{l':az}(h:Il l l' ρ):cR ρ (.tup l) (.c (.tup l')):=λW x e q=>fY.casesOn q λa xs g r=>⟨a,xs,g,h W xs e r⟩
structure GL where
 a:Addr
 num:Int
 w:Addr
 t:Addr
 tn:Int
 tw:Addr
 v:At
 cnt:Int
 it:Addr
structure SV where
 sc:Bool
 g:Addr
 t:Addr
 tn:Int
 tw:Addr
 v:At
structure GM where
 rt:Addr
 rd:Addr
 a:Option GL
 g:Option GL
 u:Option GL
structure MS where
 told:az
 texts:az
 depth:Int
 last:Int
 m:GM
 zero:Nat
 steps:Int
 E:List SV
 frames:az
 ms:az
 t:Bool
 fk:az
 want:CV
 line:Int
 piled:Int
 kn:gI
 code:CV
 ak:az
def lN(l:az)(i:Nat):CV:=(af l i).getD .none
def pe(num:Int)(cnt w:MV)(l:Lo):Lo:=cat [(S0 "number",.c (aI num)),(S0 "count",cnt),(S0 "blessed",.c .none),(S0 "weak",w),(S0 "is_destroyed",.c (.bool false)),(S0 "is_freed",.c (.bool false))] l
def i8(num:Int)(w:MV)(v:CV):MO:=.inst 66 (pe num (.c (.int 1)) w [(S0 "value",.c v),(S0 "magic",.c .none)])
def Dm(num cnt:Int)(w it:MV):MO:=.inst 85 (pe num (.c (aI cnt)) w [(S0 "items",it),(S0 "tied",.c .none)])
def kH(num:Int)(w:MV)(nm:Str)(sc ar:MV):MO:=.inst 142 (pe num (.c (.int 0)) w [(S0 "name",.c (.str nm)),(S0 "scalar",sc),(S0 "array",ar),(S0 "hash",.c .none),(S0 "code",.c .none)])
def thS(num:Int)(cnt:CV)(w:Addr)(l:List (Str×CV)):List (Str×CV):=cat [(S0 "number",aI num),(S0 "count",cnt),(S0 "blessed",.none),(S0 "weak",.aA w),(S0 "is_destroyed",.bool false),(S0 "is_freed",.bool false)] l
def vt(num:Int)(w:Addr)(v:At):SC:=.inst 66 (thS num (.int 1) w [(S0 "value",.at v),(S0 "magic",.none)])
def Xe(num cnt:Int)(w it:Addr):SC:=.inst 85 (thS num (aI cnt) w [(S0 "items",.aA it),(S0 "tied",.none)])
def yG(num:Int)(w:Addr)(nm:Str)(sc ar:CV):SC:=.inst 142 (thS num (.int 0) w [(S0 "name",.str nm),(S0 "scalar",sc),(S0 "array",ar),(S0 "hash",.none),(S0 "code",.none)])
noncomputable def nA:Str:=S0 "main::@"
noncomputable def nG:Str:=S0 "main::g"
noncomputable def nU:Str:=S0 "main::_"
noncomputable def gW:Addr×SC:=(0,.nil)
def kI(o:Option GL)(f:GL->Addr×SC):Addr×SC:=match o with
 |some x=>f x|none=>gW
def Xf(nm:Str)(x:GL):Addr×SC:=(x.a,yG x.num x.w nm (.aA x.t) .none)
def gaS(x:GL):Addr×SC:=(x.a,yG x.num x.w nU .none (.aA x.t))
def scS(x:GL):Addr×SC:=(x.t,vt x.tn x.tw x.v)
def arS(x:GL):Addr×SC:=(x.t,Xe x.tn x.cnt x.tw x.it)
def eS(e:SV):Addr×SC:=match e.sc with
 |true=>(e.t,vt e.tn e.tw e.v)|false=>gW
def bP(m:GM)(E:List SV):List (Addr×SC):=cat [(m.rt,.nil),kI m.a (Xf nA),kI m.a scS,kI m.g (Xf nG),kI m.g scS,kI m.u gaS,kI m.u arS] (E.map eS)
noncomputable def adr(o:Option GL):Addr:=match o with
 |some x=>x.a|none=>0
noncomputable def eV(e:SV):CV:=match e.sc with
 |true=>.tup [.str (S0 "scalar"),.aA e.g,.aA e.t]|false=>.tup [.str (S0 "array"),.aA e.g,.aA e.t]
noncomputable def bI(E:List SV):az:=E.map eV
noncomputable def Im(k:Str)(o:Option MV)(l:Lo):Lo:=match o with
 |some v=>(k,v)::l|none=>l
def Rl(a g u:Option MV):Lo:=Im nA a (Im nG g (Im nU u []))
noncomputable def Xg(b:Bool)(x:Addr):Option MV:=match b with
 |false=>none|true=>some (.c (.aA x))
def Rm(o:Option GL):Option MV:=Xg (bf o) (adr o)
def abY(depth:Int):MO:=.inst 1455 [(S0 "width",.c (.int 64)),(S0 "depth",.c (aI depth)),(S0 "steps",.c (.int 1000000)),(S0 "text",.c (.int 100000)),(S0 "items",.c (.int 10000))]
def abZ(last:Int):MO:=.inst 225 [(S0 "limits",.ref 4),(S0 "last",.c (aI last)),(S0 "zero",.ref 6)]
noncomputable def ab0:MO:=.inst 1433 [(S0 "heap",.ref 5),(S0 "destroy",.c .none),(S0 "places",.ref 8),(S0 "empties",.ref 9)]
noncomputable def MY:MO:=.inst 1236 [(S0 "heap",.ref 5),(S0 "globs",.ref 11),(S0 "generation",.c (.int 0))]
def mS(i:Nat):Fn:=match af (fnOf 1550).body i with
 |some s=>ZQ s []|none=>fnOf 0
def ab1(steps:Int)(k:az):MO:=.inst 666 [(S0 "heap",.ref 5),(S0 "counter",.ref 7),(S0 "stash",.ref 10),(S0 "limits",.ref 4),(S0 "rows",.ref 13),(S0 "lvs",.c (lN k 0)),(S0 "funcs",.ref 14),(S0 "operators",.c (lN k 1)),(S0 "out",.c (lN k 2)),(S0 "err",.c (lN k 3)),(S0 "saves",.ref 15),(S0 "frames",.ref 16),
 (S0 "match",.c (lN k 4)),(S0 "patterns",.c (lN k 5)),(S0 "steps",.c (aI steps)),(S0 "methods",.c (lN k 6)),(S0 "call_code",.c (lN k 7)),(S0 "compile_text",.clo (mS 7) []),(S0 "compile_sub",.clo (mS 8) [(S0 "texts",3)])]
noncomputable def To:MO:=.dict [(S0 "evalblock",.c (.aA 1282)),(S0 "evalstr",.c (.aA 1289)),(S0 "const",.c (.aA 740)),(S0 "drop",.c (.aA 747)),(S0 "fetch",.c (.aA 761)),(S0 "wrap",.c (.aA 754)),(S0 "func",.c (.aA 1275)),(S0 "glob",.c (.aA 1466)),(S0 "localglob",.c (.aA 1480)),
 (S0 "assign",.c (.aA 1473)),(S0 "line",.c (.aA 796)),(S0 "wanted",.c (.aA 768)),(S0 "return0",.c (.aA 775)),(S0 "return1",.c (.aA 782)),(S0 "return2",.c (.aA 782)),(S0 "subreturn",.c (.aA 789))]
def MZ:MO:=.dict [(S0 "tell",.clo (mS 5) [(S0 "told",2)]),(S0 "die",.clo (mS 6) [])]
noncomputable def knO(t:Bool)(l:gI):MO:=match t with
 |false=>.gone|true=>.known (.tup [.int 0,.int 0]) l
def fE(s:MS)(dm:MO)(box:List (Addr×SC))(fr:aY)(ex:aq):aq:=cat [.list s.told [],.list s.texts [],.cell (some (.ref 0)),.cell (some (.ref 1)),abY s.depth,abZ s.last,.vB s.zero,ab0,.dict [],.dict [],MY,dm,ab1 s.steps s.ms,To,MZ,.list (bI s.E) [],.list s.frames fr,.box box] ex
noncomputable def Rn(k:Str)(o:Option GL)(l:List (Str×CV)):List (Str×CV):=match o with
 |some x=>(k,.aA x.a)::l|none=>l
def rm(m:GM):List (Str×CV):=Rn nA m.a (Rn nG m.g (Rn nU m.u []))
def jD(m:GM):MO:=.box [(m.rd,.dict (rm m))]
def bS(s:MS)(ex:aq):aq:=fE s (jD s.m) (bP s.m s.E) [] ex
def i9(_:aY)(_:aq):Option (cI×mV):=some (bh 0 18,[(16,0)])
abbrev Io(_:Hd):Prop:=True
noncomputable def MS.st(s:MS)(m:GM)(last:Int):MS:={ s with m:=m,last:=last }
noncomputable def rQ(b:Bool):Str:=match b with
 |false=>nA|true=>nG
noncomputable def eU(b:Bool)(m:GM):Option GL:=match b with
 |false=>m.a|true=>m.g
noncomputable def ab2{α:Type}(b:Bool)(x y:α):α:=match b with
 |false=>x|true=>y
def setG(b:Bool)(m:GM)(x:GL):GM:=⟨m.rt,m.rd,ab2 b (some x) m.a,ab2 b m.g (some x),m.u⟩
def cN(b:Bool)(s:MS)(a w t tw:Addr):MS:=match eU b s.m with
 |some x=>s|none=>s.st (setG b s.m ⟨a,s.last+1,w,t,s.last+1+1,tw,.none,0,0⟩) (s.last+1+1)
def eX(b:Bool)(m:GM):GL:=(eU b m).getD ⟨0,0,0,0,0,0,.none,0,0⟩
noncomputable def yH(b:Bool):Nat:=match b with
 |false=>2|true=>4
def Xh(b:Bool)(s:MS)(fr:aY)(ex:aq):aq:=fE s (jD s.m) (setAt (bP s.m s.E) (yH b) gW) fr (cat ex [.gone,.uU (.ref 20) (eX b s.m).t,i8 (eX b s.m).tn (.c (.aA (eX b s.m).tw)) (.at (eX b s.m).v),.gone])
abbrev KR2:=Ex MV->aq->Prop
def ab3(nm:Bool):Spec Prop:=Rk Io 8 (λ_=>[.ref 10,.c (.str (rQ nm))]) (λs=>bS s []) λs K=>∀a w t tw,K (.ok (.ref 20)) (Xh nm (cN nm s a w t tw) [] [])
def FF:Spec Prop:=λhd dp as σ K=>∃nm,ab3 nm hd dp as σ K
def vv(sp:List (Addr×Spec Prop)):Cx Prop:=⟨cg,[],[],sp,λ_ _=>none,[],[]⟩
def jX(nm:Bool)(r:Option MV)(p:Bool)(x:Addr)(q:Bool)(y:Addr):Lo:=match nm with
 |false=>Rl r (Xg p x) (Xg q y)|true=>Rl (Xg p x) r (Xg q y)
def FG(nm:Str)(σ:aq):Nat:=(((af σ 11).bind ye).bind λfs=>(look nm fs).bind refOf).getD 18
def fG(nm:Str)(σ:aq)(n d:Nat):Nat:=(((af σ n).bind yd).bind λp=>(look nm p.2).bind refOf).getD d
def Bk(r:Ex MV):Nat:=match r with
 |.ok v=>(refOf v).getD 18|.error n=>n
def M0(nm:Bool)(r:Ex MV)(σ:aq):cI:=cat (bh 0 18) [FG (rQ nm) σ,fG (S0 "weak") σ (FG (rQ nm) σ) 19,Bk r,fG (S0 "weak") σ (Bk r) 21]
inductive yI(nm p q:Bool):Prop where
 |mk (old:∀hd d s B x y num w tn tw v K,wO (M0 nm) (eO (vv []) 60 (fnOf 1205)) hd (d+8) [.ref 10,.c (.str (rQ nm))] (fE s (.dict (jX nm (some (.ref 18)) p x q y)) B [] [kH num (.c (.aA w)) (rQ nm) (.ref 20) (.c .none),.gone,i8 tn (.c (.aA tw)) (.at v),.gone]) K =
  K (.ok (.ref 20)) (fE s (.dict (jX nm (some (.ref 18)) p x q y)) B [] [kH num (.c (.aA w)) (rQ nm) (.ref 20) (.c .none),.gone,i8 tn (.c (.aA tw)) (.at v),.gone])) (new:∀hd d s B x y K,wO (M0 nm) (eO (vv []) 60 (fnOf 1205)) hd (d+8) [.ref 10,.c (.str (rQ nm))] (fE s (.dict (jX nm none p x q y)) B [] []) K =
  K (.ok (.ref 20)) (fE (s.st s.m (s.last+1+1)) (.dict (cat (jX nm none p x q y) [(rQ nm,.ref 18)])) B [] [kH (s.last+1) (.ref 19) (rQ nm) (.ref 20) (.c .none),.list [] [],i8 (s.last+1+1) (.ref 21) .none,.list [] []]))
theorem Xi:yI false false false:=⟨by intros;kernel_rfl,by intros;kernel_rfl⟩
theorem Xj:yI false false true:=⟨by intros;kernel_rfl,by intros;kernel_rfl⟩
theorem Xk:yI false true false:=⟨by intros;kernel_rfl,by intros;kernel_rfl⟩
theorem Xl:yI false true true:=⟨by intros;kernel_rfl,by intros;kernel_rfl⟩
theorem Xm:yI true false false:=⟨by intros;kernel_rfl,by intros;kernel_rfl⟩
theorem Xn:yI true false true:=⟨by intros;kernel_rfl,by intros;kernel_rfl⟩
theorem Xo:yI true true false:=⟨by intros;kernel_rfl,by intros;kernel_rfl⟩
theorem Xp:yI true true true:=⟨by intros;kernel_rfl,by intros;kernel_rfl⟩
theorem ab4(nm p q:Bool):yI nm p q:=nm.casesOn (p.casesOn (q.casesOn Xi Xj) (q.casesOn Xk Xl)) (p.casesOn (q.casesOn Xm Xn) (q.casesOn Xo Xp))
section
variable{ρ:bR}{v v':MV}{nm p q:Bool}{x y:Addr}
theorem eT.opt{k:Str}{o:Option MV}{l l':Lo}(h:eT ρ l l'):eT ρ (Im k o l) (Im k o l'):=by
 induction o with
 |none=>exact h|some v=>exact .cons _ _ _ _ _ (.refl _) h
theorem eT.dct(h:cR ρ v v'):eT ρ (jX nm (some v) p x q y) (jX nm (some v') p x q y):=by
 induction nm with
 |false=>exact .cons _ _ _ _ _ h (.refl _)|true=>exact .opt (.cons _ _ _ _ _ h (.refl _))
end
section
variable{s:MS}{D:MO}{f f':Lo}{F:List (Str×CV)}{B B':List (Addr×SC)}{fr:aY}{ex:aq}{ρ:bR}{Q:aq->bR->Prop}{p q:Addr×SC}{n k j:Nat}{o:MO}{A:Addr}{C:Addr}{fs fs':Lo}
theorem bD.then{σ:aq}(h:bD σ ρ λσ' ρ'=>bD σ' ρ' Q):bD σ ρ Q:=h.bind λ_ _ z=>z
theorem iY(hl:af B n=some p)(n0:n≠0)(h:bD (fE s D (setAt B n gW) fr (app ex p.2.mo)) (app ρ p.1) Q):bD (fE s D B fr ex) ρ Q:=.then <|.take (i:=17) rfl hl n0 h
theorem pg(A:Addr)(h:bD (fE s D B fr (app ex .gone)) (app ρ A) Q):bD (fE s D B fr ex) ρ Q:=.then <|.add A h
theorem kj{c:SC}(hl:af B n=some q)(n0:n≠0)(hk:af ex k=some c.mo)(hA:af ρ (k+18)=some A)(h:bD (fE s D (setAt B n (A,c)) fr (setAt ex k .gone)) ρ Q):bD (fE s D B fr ex) ρ Q:=.then <|.put (i:=17) (k:=k+18) rfl hl n0 hk hA (λe=>by have:=congrArg (Nat.ble 18) e;rw [aeu (aeq 18 k)] at this;cases this) h
theorem nv(h1:eT ρ f f')(h:bD (fE s (.dict f') B fr ex) ρ Q):bD (fE s (.dict f) B fr ex) ρ Q:=.then <|.dict (i:=11) rfl h1 h
theorem M1(hl:len f'=len f)(hx:∀x,look x f'=look x f)(h:bD (fE s (.dict f') B fr ex) ρ Q):bD (fE s (.dict f) B fr ex) ρ Q:=.then <|.perm (i:=11) rfl hl hx h
theorem qg(h:af ρ 11=some A->bD (fE s (.dict (gX F)) B fr ex) ρ Q):bD (fE s (.box [(A,.dict F)]) B fr ex) ρ Q:=.root (i:=11) rfl λhA=>.then <|.unbox (i:=11) rfl (h hA)
theorem yJ(hA:af ρ 11=some A)(h:bD (fE s (.box [(A,.dict F)]) B fr ex) ρ Q):bD (fE s (.dict (gX F)) B fr ex) ρ Q:=.then <|.Tn (i:=11) (o:=.dict F) rfl hA h
theorem eY(hk:af ex k=some (.inst C fs))(h1:eT ρ fs fs')(h:bD (fE s D B fr (setAt ex k (.inst C fs'))) ρ Q):bD (fE s D B fr ex) ρ Q:=.then <|.inst (i:=k+18) hk h1 h
theorem ic(hk:af ex k=some o)(h:bD (fE s D B fr (setAt ex k .gone)) ρ Q):bD (fE s D B fr ex) ρ Q:=.then <|.gone (i:=k+18) hk h
theorem Dn(hk:af ex k=some .gone)(hA:af ρ n=some A)(h:bD (fE s D B fr (setAt ex k (.uU (.ref n) A))) ρ Q):bD (fE s D B fr ex) ρ Q:=.then <|.tell (i:=k+18) hk hA h
theorem M3(hk:af ex k=some (.uU (.ref n) A))(h:af ρ n=some A->bD (fE s D B fr ex) ρ Q):bD (fE s D B fr ex) ρ Q:=.afO (i:=k+18) hk h
end
theorem Dp{α:Type}{l:List α}{q p:α}:∀{n:Nat},af l n=some p->setAt (setAt l n q) n p=l:=by
 induction l with
 |nil=>exact λh=>bq h|cons a l ih=>intro n h;cases n with|zero=>cases h;rfl|succ n=>exact congrArg (a :: ·) (ih h)
theorem uE{α:Type}{l:List α}{q p:α}:∀{n m:Nat},n≠m->setAt (setAt l n q) m p=setAt (setAt l m p) n q:=by
 induction l with
 |nil=>exact λ_=>rfl|cons a l ih=>
  intro n m h;induction n with
  |zero=>induction m with|zero=>exact (h rfl).elim|succ m=>rfl
  |succ n=>induction m with|zero=>rfl|succ m=>exact congrArg (a :: ·) (ih λe=>h (congrArg _ e))
theorem eT.th{ρ:bR}{num:Int}{c w w':MV}{l l':Lo}(hw:cR ρ w w')(h:eT ρ l l'):eT ρ (pe num c w l) (pe num c w' l'):=.cons _ _ _ _ _ (.refl _) <|.cons _ _ _ _ _ (.refl _) <|.cons _ _ _ _ _ (.refl _) <|.cons _ _ _ _ _ hw <|.cons _ _ _ _ _ (.refl _) <|.cons _ _ _ _ _ (.refl _) h
theorem eT.Ip{ρ:bR}{num:Int}{w w':MV}{nm:Str}{sc sc' ar ar':MV}(hw:cR ρ w w')(h1:cR ρ sc sc')(h2:cR ρ ar ar'):eT ρ (pe num (.c (.int 0)) w [(S0 "name",.c (.str nm)),(S0 "scalar",sc),(S0 "array",ar),(S0 "hash",.c .none),(S0 "code",.c .none)]) (pe num (.c (.int 0)) w' [(S0 "name",.c (.str nm)),(S0 "scalar",sc'),(S0 "array",ar'),(S0 "hash",.c .none),(S0 "code",.c .none)]):=
 .th hw <|.cons _ _ _ _ _ (.refl _) <|.cons _ _ _ _ _ h1 <|.cons _ _ _ _ _ h2 (.refl _)
noncomputable def Ro(nm:Bool):Nat:=match nm with
 |false=>1|true=>3
theorem Bl{nm:Bool}{m:GM}{E:List SV}{x:GL}(e:eU nm m=some x):af (bP m E) (Ro nm)=some (Xf (rQ nm) x)/\af (bP m E) (yH nm)=some (scS x):=by
 induction nm with
 |false=>
  have e:m.a=some x:=e;exact ⟨(show _=some (kI m.a _) from rfl).trans (by rw [e];rfl),(show _=some (kI m.a _) from rfl).trans (by rw [e];rfl)⟩
 |true=>
  have e:m.g=some x:=e;exact ⟨(show _=some (kI m.g _) from rfl).trans (by rw [e];rfl),(show _=some (kI m.g _) from rfl).trans (by rw [e];rfl)⟩
noncomputable def Iq(nm:Bool)(m:GM):Option GL:=match nm with
 |false=>m.g|true=>m.a
theorem yK{k:Str}{o:Option GL}{l:List (Str×CV)}:gX (Rn k o l)=Im k (Rm o) (gX l):=by cases o<;>rfl
theorem rR{m:GM}:gX (rm m)=Rl (Rm m.a) (Rm m.g) (Rm m.u):=yK.trans (congrArg _ (yK.trans (congrArg _ yK)))
theorem Bm{nm:Bool}{m:GM}{x:GL}(e:eU nm m=some x):gX (rm m)=jX nm (some (.c (.aA x.a))) (bf (Iq nm m)) (adr (Iq nm m)) (bf m.u) (adr m.u):=by
 rw [rR];induction nm with
 |false=>have e:m.a=some x:=e;rw [e];rfl|true=>have e:m.g=some x:=e;rw [e];rfl
theorem mT{nm:Bool}:Ro nm≠0/\yH nm≠0/\Ro nm≠yH nm:=by cases nm<;>decide
theorem Xq{nm:Bool}{s:MS}{x:GL}(e:eU nm s.m=some x){hd:Hd}{d:Nat}{K:KR2}(h:K (.ok (.ref 20)) (Xh nm s [] []))(ρ:bR)(hl:len (bS s [])=len ρ) :
  bD (bS s []) ρ λσ' ρ'=>∃as',qf ρ' [.ref 10,.c (.str (rQ nm))] as'/\wO (M0 nm) (eO (vv []) 60 (fnOf 1205)) hd (d+8) as' σ' (Bj ρ' K):=by
 have hl:18=len ρ:=hl;have b:=Bl (E:=s.E) e;have qh:∀{a b c},af (app (app (app (app ρ x.a) a) b) c) 18=some x.a:=aB _ (aB _ (aB _ (ia hl)));have jI:∀{a c},af (app (app (app (app ρ x.a) a) x.t) c) 20=some x.t:=aB _ (ia (by rw [bu,bu,← hl]))
 have h11:∀{a b c d},af ρ 11=some s.m.rd->af (app (app (app (app ρ a) b) c) d) 11=some s.m.rd:=λh=>aB _ (aB _ (aB _ (aB _ h)));refine qg λhA=>?_;rw [Bm e];refine iY b.1 mT.1 <|pg 0 <|iY ((ay _ _ mT.2.2).trans b.2) mT.2.1 <|pg 0 <|nv (.dct (.ref qh)) <|eY (k:=0) (fs':=pe x.num (.c (.int 0)) (.c (.aA x.w)) [(S0 "name",.c (.str (rQ nm))),(S0 "scalar",.ref 20),(S0 "array",.c .none),(S0 "hash",.c .none),(S0 "code",.c .none)]) rfl (.Ip (.refl _) (.ref jI) (.refl _)) <|.pure ⟨_,.refl _,?_⟩
 refine ((ab4 nm _ _).1 hd d s _ _ _ x.num x.w x.tn x.tw x.v _).mpr λdS kρ hl2=>?_;have qh:=kρ 18 _ qh;have jI:=kρ 20 _ jI;refine nv (.dct (.aA qh)) ?_;rw [← Bm e];refine yJ (kρ 11 _ (h11 hA)) <|eY (k:=0) (fs':=pe x.num (.c (.int 0)) (.c (.aA x.w)) [(S0 "name",.c (.str (rQ nm))),(S0 "scalar",.c (.aA x.t)),(S0 "array",.c .none),(S0 "hash",.c .none),(S0 "code",.c .none)]) rfl (.Ip (.refl _) (.aA jI) (.refl _)) <|
  kj (k:=0) (n:=Ro nm) (c:=yG x.num x.w (rQ nm) (.aA x.t) .none) ((ay _ _ (Ne.symm mT.2.2)).trans (av _ b.1)) mT.1 rfl qh <|Dn (k:=1) rfl jI <|.pure ⟨_,.ok _ _ (.refl _),?_⟩
 have z:setAt (setAt (setAt (bP s.m s.E) (Ro nm) gW) (yH nm) gW) (Ro nm) (Xf (rQ nm) x)=setAt (bP s.m s.E) (yH nm) gW:=by rw [uE mT.2.2,Dp ((ay _ _ (Ne.symm mT.2.2)).trans b.1)]
 show K _ (fE s _ (setAt (setAt (setAt _ _ gW) _ gW) _ (Xf (rQ nm) x)) [] [.gone,.uU (.ref 20) x.t,i8 x.tn (.c (.aA x.tw)) (.at x.v),.gone]);rw [z];have y:eX nm s.m=x:=by unfold eX;rw [e];rfl
 unfold Xh at h;rw [y] at h;exact h
theorem ab6{nm:Bool}{m:GM}{E:List SV}(e:eU nm m=none):af (bP m E) (Ro nm)=some gW/\af (bP m E) (yH nm)=some gW:=by
 induction nm with
 |false=>
  have e:m.a=none:=e;exact ⟨(show _=some (kI m.a _) from rfl).trans (by rw [e];rfl),(show _=some (kI m.a _) from rfl).trans (by rw [e];rfl)⟩
 |true=>
  have e:m.g=none:=e;exact ⟨(show _=some (kI m.g _) from rfl).trans (by rw [e];rfl),(show _=some (kI m.g _) from rfl).trans (by rw [e];rfl)⟩
theorem Tp{nm:Bool}{m:GM}(e:eU nm m=none):gX (rm m)=jX nm none (bf (Iq nm m)) (adr (Iq nm m)) (bf m.u) (adr m.u):=by
 rw [rR];induction nm with
 |false=>have e:m.a=none:=e;rw [e];rfl|true=>have e:m.g=none:=e;rw [e];rfl
theorem wR:nA≠nG/\nG≠nU/\nA≠nU:=by decide
theorem Tq{nm:Bool}{m:GM}{x:GL}:gX (rm (setG nm m x))=jX nm (some (.c (.aA x.a))) (bf (Iq nm m)) (adr (Iq nm m)) (bf m.u) (adr m.u):=by
 induction nm with
 |false=>exact Bm (nm:=false) rfl|true=>exact Bm (nm:=true) rfl
theorem pq{nm p q:Bool}{x y:Addr}{v:MV}:len (jX nm (some v) p x q y)=len (cat (jX nm none p x q y) [(rQ nm,v)])/\∀z,look z (jX nm (some v) p x q y)=look z (cat (jX nm none p x q y) [(rQ nm,v)]):=by
 have g:∀{k:Str}{w:MV}{l l':Lo},(∀z,look z l=look z l')->∀z,look z ((k,w)::l)=look z ((k,w)::l'):=λh z=>by rw [aC,aC,h z]
 induction nm with
 |false=>induction p with
  |false=>induction q with
   |false=>exact ⟨rfl,λ_=>rfl⟩|true=>exact ⟨rfl,iE wR.2.2⟩
  |true=>induction q with
   |false=>exact ⟨rfl,iE wR.1⟩|true=>exact ⟨rfl,λz=>(iE wR.1 z).trans (g (iE wR.2.2) z)⟩
 |true=>induction p with
  |false=>induction q with
   |false=>exact ⟨rfl,λ_=>rfl⟩|true=>exact ⟨rfl,iE wR.2.1⟩
  |true=>induction q with
   |false=>exact ⟨rfl,λ_=>rfl⟩|true=>exact ⟨rfl,g (iE wR.2.1)⟩
theorem eT.app{ρ:bR}{k:Str}{v v':MV}{l:Lo}(h:cR ρ v v'):eT ρ (cat l [(k,v)]) (cat l [(k,v')]):=by
 induction l with
 |nil=>exact .cons _ _ _ _ _ h .nil|cons p l ih=>exact .cons _ _ _ _ _ (.refl _) ih
theorem cR.none{ρ:bR}:cR ρ (.c .none) (.c (.at .none)):=λW x _ q=>q
theorem eT.scl{ρ:bR}{num:Int}{c w w' v v':MV}(hw:cR ρ w w')(h1:cR ρ v v'):eT ρ (pe num c w [(S0 "value",v),(S0 "magic",.c .none)]) (pe num c w' [(S0 "value",v'),(S0 "magic",.c .none)]):=.th hw <|.cons _ _ _ _ _ h1 (.refl _)
theorem Xr{nm:Bool}{s:MS}(e:eU nm s.m=none){hd:Hd}{d:Nat}{K:KR2}(h:∀a w t tw,K (.ok (.ref 20)) (Xh nm (s.st (setG nm s.m ⟨a,s.last+1,w,t,s.last+1+1,tw,.none,0,0⟩) (s.last+1+1)) [] []))(ρ:bR)(hl:len (bS s [])=len ρ) :
  bD (bS s []) ρ λσ' ρ'=>∃as',qf ρ' [.ref 10,.c (.str (rQ nm))] as'/\wO (M0 nm) (eO (vv []) 60 (fnOf 1205)) hd (d+8) as' σ' (Bj ρ' K):=by
 have b:=ab6 (E:=s.E) e;refine qg λhA=>?_;rw [Tp e];refine .pure ⟨_,.refl _,((ab4 nm _ _).2 hd d s _ _ _ _).mpr λdS kρ hl2=>?_⟩;have hl2:22=len dS:=hl2;obtain ⟨a,ha⟩:=bK (i:=18) (ρ:=dS) (hl2▸by decide)
 obtain ⟨w,hw⟩:=bK (i:=19) (ρ:=dS) (hl2▸by decide)
 obtain ⟨t,ht⟩:=bK (i:=20) (ρ:=dS) (hl2▸by decide)
 obtain ⟨tw,hv⟩:=bK (i:=21) (ρ:=dS) (hl2▸by decide)
 refine nv (.app (.aA ha)) <|M1 pq.1 pq.2 ?_
 rw [← Tq (nm:=nm) (m:=s.m) (x:=⟨a,s.last+1,w,t,s.last+1+1,tw,.none,0,0⟩)];refine yJ (kρ 11 _ hA) <|eY (k:=0) (fs':=pe (s.last+1) (.c (.int 0)) (.c (.aA w)) [(S0 "name",.c (.str (rQ nm))),(S0 "scalar",.c (.aA t)),(S0 "array",.c .none),(S0 "hash",.c .none),(S0 "code",.c .none)]) rfl (.Ip (.aA hw) (.aA ht) (.refl _)) <|
  eY (k:=2) (fs':=pe (s.last+1+1) (.c (.int 1)) (.c (.aA tw)) [(S0 "value",.c (.at .none)),(S0 "magic",.c .none)]) rfl (.scl (.aA hv) .none) <|ic (k:=1) rfl <|ic (k:=3) rfl <|
  kj (k:=0) (n:=Ro nm) (c:=yG (s.last+1) w (rQ nm) (.aA t) .none) b.1 mT.1 rfl ha <|Dn (k:=1) rfl ht <|.pure ⟨_,.ok _ _ (.refl _),?_⟩
 have z:=h a w t tw;unfold Xh at z;rw [show eX nm (s.st (setG nm s.m ⟨a,s.last+1,w,t,s.last+1+1,tw,.none,0,0⟩) (s.last+1+1)).m=⟨a,s.last+1,w,t,s.last+1+1,tw,.none,0,0⟩ by cases nm<;>rfl,
  show setAt (bP (s.st (setG nm s.m ⟨a,s.last+1,w,t,s.last+1+1,tw,.none,0,0⟩) (s.last+1+1)).m (s.st (setG nm s.m ⟨a,s.last+1,w,t,s.last+1+1,tw,.none,0,0⟩) (s.last+1+1)).E) (yH nm) gW=setAt (bP s.m s.E) (Ro nm) (Xf (rQ nm) ⟨a,s.last+1,w,t,s.last+1+1,tw,.none,0,0⟩) from ?_] at z
 ·exact z
 ·induction nm with
  |false=>have e:s.m.a=none:=e;unfold bP;rw [e];rfl|true=>have e:s.m.g=none:=e;unfold bP;rw [e];rfl
theorem FH{cx:Cx Prop}(ht:cx.top=cg):aV cx 1205 (cG i9 FF):=eg (dN:=cx) (.ex λnm=>qZ (gH (dN:=vv []) (n:=60) (f:=fnOf 1205) (M0 nm) (fh rfl rfl rfl) (by rw [ht];rfl) (by rw [ht];rfl)) λs hd d K _ h ρ hl=>by
 induction e:eU nm s.m with
 |some x=>exact Xq e (by have z:=h 0 0 0 0;unfold cN at z;rw [e] at z;exact z) ρ hl|none=>exact Xr e (λa w t tw=>by have z:=h a w t tw;unfold cN at z;rw [e] at z;exact z) ρ hl) rfl
noncomputable def MS.fr(s:MS)(F:az):MS:={ s with frames:=F }
theorem Dq{b:Bool}{s:MS}{F:az}{a w t tw:Addr}:cN b (s.fr F) a w t tw=(cN b s a w t tw).fr F:=by
 unfold cN;show (match eU b s.m with|some x=>s.fr F|none=>_)=_
 cases eU b s.m<;>rfl
theorem gx{b:Bool}{s:MS}{a w t tw:Addr}:(cN b s a w t tw).frames=s.frames:=by
 unfold cN;cases eU b s.m<;>rfl
def scV(s:MS)(n:Nat)(b:Bool)(G:Bool->MS->Prop):Prop:=true=true/\true=true/\∀X:Nat->az,(len (X 16)=n/\True)->∃nm x,True/\true=true/\[MV.ref 10,.c (.str (rQ b))]=[.ref 10,.c (.str (rQ nm))]/\bS (s.fr (X 16)) []=bS x []/\∀a w t tw,((cN nm x a w t tw).frames=X 16/\True)/\G nm ((cN nm x a w t tw).fr s.frames)
theorem Dr{s:MS}{n:Nat}{b:Bool}{G:Bool->MS->Prop}(h:∀a w t tw,G b (cN b s a w t tw)):scV s n b G:=⟨rfl,rfl,λX _=>⟨b,s.fr (X 16),trivial,rfl,rfl,rfl,λa w t tw=>⟨⟨gx,trivial⟩,by
 rw [Dq,show ((cN b s a w t tw).fr (X 16)).fr s.frames=(cN b s a w t tw).fr s.frames from rfl,show (cN b s a w t tw).fr s.frames=cN b s a w t tw from by
  show MS.fr _ _=_;rw [← gx (b:=b) (s:=s) (a:=a) (w:=w) (t:=t) (tw:=tw)];rfl]
 exact h a w t tw⟩⟩⟩
def scX(b:Bool)(m:GM)(v:CV):aq:=[.gone,.uU (.ref 20) (eX b m).t,i8 (eX b m).tn (.c (.aA (eX b m).tw)) v,.gone]
def bOpen(b:Bool)(s:MS)(ex:aq):aq:=fE s (jD s.m) (setAt (bP s.m s.E) (yH b) gW) [] ex
abbrev afR:Prop:=P1 (∀hd d s a K,wO (λ_ _=>bh 0 22) (eO (vv [(1205,cG i9 FF)]) 60 (fnOf 1155)) hd (d+12) [.ref 12,.c (.at a)] (bS s []) K =
  scV s (len s.frames+0) false λnm y=>K (.ok (.c .none)) (bOpen nm y (scX nm y.m (.at a))))
theorem afS:afR:=⟨by intros;kernel_rfl⟩
noncomputable def Tr:aq:=[.gone,.gone,.gone,.gone]
abbrev Gc4:Prop:=P1 (∀s K,Xd (λ_ _=>bh 0 18) 18 K (.ok (.c .none)) (bS s Tr)=K (.ok (.c .none)) (bS s []))
theorem gc4:Gc4:=⟨by intros;kernel_rfl⟩
noncomputable def vaG(x:GL)(v:At):GL:=⟨x.a,x.num,x.w,x.t,x.tn,x.tw,v,x.cnt,x.it⟩
def vS(b:Bool)(s:MS)(v:At):MS:=s.st (setG b s.m (vaG (eX b s.m) v)) s.last
theorem jm{b:Bool}{s:MS}{a w t tw:Addr}:eU b (cN b s a w t tw).m=some (eX b (cN b s a w t tw).m):=by
 unfold cN eX;induction e:eU b s.m with
 |some x=>show eU b s.m=some ((eU b s.m).getD _);rw [e];rfl|none=>cases b<;>rfl
theorem FI{b:Bool}{m:GM}{E:List SV}{v:At}(e:eU b m=some (eX b m)):setAt (bP m E) (yH b) ((eX b m).t,vt (eX b m).tn (eX b m).tw v)=bP (setG b m (vaG (eX b m) v)) E:=by
 generalize eX b m=x at e;induction b with
 |false=>have e:m.a=some x:=e;unfold bP setG;rw [e];rfl|true=>have e:m.g=some x:=e;unfold bP setG;rw [e];rfl
theorem FJ{b:Bool}{m:GM}{v:At}(e:eU b m=some (eX b m)):jD (setG b m (vaG (eX b m) v))=jD m:=by
 generalize eX b m=x at e;induction b with
 |false=>have e:m.a=some x:=e;unfold jD rm setG;rw [e];rfl|true=>have e:m.g=some x:=e;unfold jD rm setG;rw [e];rfl
theorem jY{α:Type}{l:List α}{p q:α}:∀{n:Nat},setAt (setAt l n q) n p=setAt l n p:=by
 induction l with
 |nil=>exact rfl|cons a l ih=>intro n;induction n with|zero=>rfl|succ n=>exact congrArg (a :: ·) ih
theorem Xs{b:Bool}{s:MS}{v:At}{ρ:bR}{Q:aq->bR->Prop}(e:eU b s.m=some (eX b s.m))(h:bD (bS (vS b s v) Tr) ρ Q):bD (bOpen b s (scX b s.m (.at v))) ρ Q:=by
 have hq:∃q,af (setAt (bP s.m s.E) (yH b) gW) (yH b)=some q:=⟨gW,av _ (Bl e).2⟩;refine hq.elim λq hq=>M3 (k:=1) rfl λjI=>ic (k:=1) rfl <|kj (k:=2) (n:=yH b) (c:=vt (eX b s.m).tn (eX b s.m).tw v) hq mT.2.1 rfl jI ?_
 rw [jY,FI e,← FJ (v:=v) e];exact h
def Zl:Spec Prop:=Rk Io 12 (λx:MS×CV×At=>[.ref 12,.c x.2.1]) (λx=>bS x.1 []) λx K=>dP x.2.1=some x.2.2/\∀a w t tw,K (.ok (.c .none)) (bS (vS false (cN false x.1 a w t tw) x.2.2) [])
theorem M4{cx:Cx Prop}{a:Addr}{C:Spec Prop}{l:List (Addr×Spec Prop)}(h:aV cx a C)(t:∀p∈l,aV cx p.1 p.2):∀p∈(a,C)::l,aV cx p.1 p.2:=aaw.2 ⟨h,t⟩
theorem seU{cx:Cx Prop}(ht:cx.top=cg):aJ cx 1155 Zl:=qZ (((gH (dN:=vv [(1205,cG i9 FF)]) (n:=60) (f:=fnOf 1155) (λ_ _=>bh 0 22) (fR (M4 (FH rfl) ff) ff ff) (by rw [ht];rfl) (by rw [ht];rfl)).nu).gc (pick:=λ_ _=>bh 0 18)) λx hd d K _ h ρ hl=>.pure ⟨_,.cons (.refl _) (.cons (.dP h.1) (.refl _)),λM5 hl1=>.pure ⟨_,.refl _,(afS.1 hd d x.1 x.2.2 _).mpr <|Dr λa w t tw dS k2 hl2=>Xs jm <|.pure ⟨_,.ok _ _ (.refl _),(gc4.1 _ _).mpr <|iz (h.2 a w t tw)⟩⟩⟩
theorem Ds{cx:Cx Prop}(ht:cx.top=cg):aV cx 1155 (cG i9 Zl):=eg (dN:=cx) (seU ht) rfl
def arT(x:GL):MO:=Dm x.tn x.cnt (.c (.aA x.tw)) (.c (.aA x.it))
def Xu(r:Ex MV)(σ:aq):cI:=cat (bh 0 18) [FG nU σ,fG (S0 "weak") σ (FG nU σ) 19,Bk r,fG (S0 "weak") σ (Bk r) 21,fG (S0 "items") σ (Bk r) 22]
def lO(p:Bool)(x:Addr)(q:Bool)(y:Addr)(r:Option MV):Lo:=Rl (Xg p x) (Xg q y) r
inductive M6(p q:Bool):Prop where
 |mk (old:∀hd d s B x y num w tn cnt tw it K,wO Xu (eO (vv []) 60 (fnOf 1212)) hd (d+8) [.ref 10,.c (.str nU)] (fE s (.dict (lO p x q y (some (.ref 18)))) B [] [kH num (.c (.aA w)) nU (.c .none) (.ref 20),.gone,Dm tn cnt (.c (.aA tw)) (.c (.aA it)),.gone,.gone]) K =
  K (.ok (.ref 20)) (fE s (.dict (lO p x q y (some (.ref 18)))) B [] [kH num (.c (.aA w)) nU (.c .none) (.ref 20),.gone,Dm tn cnt (.c (.aA tw)) (.c (.aA it)),.gone,.gone])) (new:∀hd d s B x y K,wO Xu (eO (vv []) 60 (fnOf 1212)) hd (d+8) [.ref 10,.c (.str nU)] (fE s (.dict (lO p x q y none)) B [] []) K =
  K (.ok (.ref 20)) (fE (s.st s.m (s.last+1+1)) (.dict (cat (lO p x q y none) [(nU,.ref 18)])) B [] [kH (s.last+1) (.ref 19) nU (.c .none) (.ref 20),.list [] [],.inst 85 (pe (s.last+1+1) (.c (.int 1)) (.ref 21) [(S0 "items",.ref 22),(S0 "tied",.c .none)]),.list [] [],.list [] []])) (lay:∀hd d s B x y num w tn cnt tw it K,wO (λ_ _=>bh 0 23) (eO (vv []) 60 (fnOf 1141)) hd (d+8) [.ref 12,.ref 20] (fE s (.dict (lO p x q y (some (.ref 18)))) B [] [kH num (.c (.aA w)) nU (.c .none) (.ref 20),.gone,Dm tn cnt (.c (.aA tw)) (.c (.aA it)),.gone,.gone]) K =
  (len (bI s.E)+0<aW/\K (.ok (.c .none)) (setAt (fE s (.dict (lO p x q y (some (.ref 18)))) B [] [kH num (.c (.aA w)) nU (.c .none) (.ref 20),.gone,Dm tn (cnt+1) (.c (.aA tw)) (.c (.aA it)),.gone,.gone]) 15 (.list (bI s.E) [.tup [.c (.str (S0 "array")),.ref 18,.ref 20]]))))
theorem ab7:M6 false false:=⟨by intros;kernel_rfl,by intros;kernel_rfl,by intros;kernel_rfl⟩
theorem ab8:M6 false true:=⟨by intros;kernel_rfl,by intros;kernel_rfl,by intros;kernel_rfl⟩
theorem ab9:M6 true false:=⟨by intros;kernel_rfl,by intros;kernel_rfl,by intros;kernel_rfl⟩
theorem acd:M6 true true:=⟨by intros;kernel_rfl,by intros;kernel_rfl,by intros;kernel_rfl⟩
theorem Xv(p q:Bool):M6 p q:=p.casesOn (q.casesOn ab7 ab8) (q.casesOn ab9 acd)
noncomputable def uD(m:GM):GL:=m.u.getD ⟨0,0,0,0,0,0,.none,0,0⟩
noncomputable def mE(m:GM)(x:GL):GM:=⟨m.rt,m.rd,m.a,m.g,some x⟩
def qi(s:MS)(a w t tw it:Addr):MS:=match s.m.u with
 |some x=>s|none=>s.st (mE s.m ⟨a,s.last+1,w,t,s.last+1+1,tw,.none,1,it⟩) (s.last+1+1)
def M7:Spec Prop:=Rk Io 8 (λ_=>[.ref 10,.c (.str nU)]) (λs=>bS s []) λs K=>∀a w t tw it,K (.ok (.c (.aA (uD (qi s a w t tw it).m).t))) (bS (qi s a w t tw it) [])
def MS.fZ(s:MS)(e:SV):MS:={ s with E:=app s.E e }
def Dt(s:MS):MS:=(s.st (mE s.m ⟨(uD s.m).a,(uD s.m).num,(uD s.m).w,(uD s.m).t,(uD s.m).tn,(uD s.m).tw,(uD s.m).v,(uD s.m).cnt+1,(uD s.m).it⟩) s.last).fZ ⟨false,(uD s.m).a,(uD s.m).t,0,0,.none⟩
def Xw:Spec Prop:=Rk Io 8 (λs:MS=>[.ref 12,.c (.aA (uD s.m).t)]) (λs=>bS s []) λs K=>bf s.m.u=true/\len s.E<aW/\K (.ok (.c .none)) (bS (Dt s) [])
noncomputable def M8:aq:=[.gone,.gone,.gone,.gone,.gone]
abbrev Gc5:Prop:=P1 (∀s v K,Xd (λ_ _=>bh 0 18) 18 K (.ok (.c v)) (bS s M8)=K (.ok (.c v)) (bS s []))
theorem gc5:Gc5:=⟨by intros;kernel_rfl⟩
section
variable{s:MS}{x:GL}{ρ:bR}{Q:aq->bR->Prop}{v v':MV}{p q:Bool}{y z:Addr}
theorem M9{m:GM}(e:m.u=some x):gX (rm m)=lO (bf m.a) (adr m.a) (bf m.g) (adr m.g) (some (.c (.aA x.a))):=by rw [rR,e];rfl
theorem Xx{m:GM}(e:m.u=none):gX (rm m)=lO (bf m.a) (adr m.a) (bf m.g) (adr m.g) none:=by rw [rR,e];rfl
theorem eT.lO(h:cR ρ v v'):eT ρ (aT.lO p y q z (some v)) (aT.lO p y q z (some v')):=.opt (.opt (.cons _ _ _ _ _ h (.refl _)))
theorem Na:cat (lO p y q z none) [(nU,v)]=lO p y q z (some v):=by cases p<;>cases q<;>rfl
theorem eT.arr{num:Int}{c c' w w' v v':MV}(hc:cR ρ c c')(hw:cR ρ w w')(h1:cR ρ v v'):eT ρ (pe num c w [(S0 "items",v),(S0 "tied",.c .none)]) (pe num c' w' [(S0 "items",v'),(S0 "tied",.c .none)]):=
 .cons _ _ _ _ _ (.refl _) <|.cons _ _ _ _ _ hc <|.cons _ _ _ _ _ (.refl _) <|.cons _ _ _ _ _ hw <|.cons _ _ _ _ _ (.refl _) <|.cons _ _ _ _ _ (.refl _) <|.cons _ _ _ _ _ h1 (.refl _)
theorem FL{m:GM}{E:List SV}(e:m.u=some x):af (bP m E) 5=some (gaS x)/\af (bP m E) 6=some (arS x):=⟨(show _=some (kI m.u _) from rfl).trans (by rw [e];rfl),(show _=some (kI m.u _) from rfl).trans (by rw [e];rfl)⟩
theorem Xy{m:GM}{E:List SV}(e:m.u=none):af (bP m E) 5=some gW/\af (bP m E) 6=some gW:=⟨(show _=some (kI m.u _) from rfl).trans (by rw [e];rfl),(show _=some (kI m.u _) from rfl).trans (by rw [e];rfl)⟩
def ace(s:MS)(x:GL):aq:=fE s (.dict (lO (bf s.m.a) (adr s.m.a) (bf s.m.g) (adr s.m.g) (some (.ref 18)))) (setAt (setAt (bP s.m s.E) 5 gW) 6 gW) [] [kH x.num (.c (.aA x.w)) nU (.c .none) (.ref 20),.gone,arT x,.gone,.gone]
theorem Nb(e:s.m.u=some x)(hl:len (bS s [])=len ρ)(h:∀ρ',af ρ' 11=some s.m.rd->af ρ' 18=some x.a->af ρ' 20=some x.t->bD (ace s x) ρ' Q):bD (bS s []) ρ Q:=by
 have hl:18=len ρ:=hl;have b:=FL (E:=s.E) e;refine qg λhA=>?_;rw [M9 e];have qh:af (app (app (app (app (app ρ x.a) 0) x.t) 0) 0) 18=some x.a:=aB _ (aB _ (aB _ (aB _ (ia hl))));have jI:af (app (app (app (app (app ρ x.a) 0) x.t) 0) 0) 20=some x.t:=aB _ (aB _ (ia (by rw [bu,bu,← hl])))
 exact iY b.1 (by decide) <|pg 0 <|iY ((ay _ _ (by decide)).trans b.2) (by decide) <|pg 0 <|pg 0 <|nv (.lO (.ref qh)) <|eY (k:=0) (fs':=pe x.num (.c (.int 0)) (.c (.aA x.w)) [(S0 "name",.c (.str nU)),(S0 "scalar",.c .none),(S0 "array",.ref 20),(S0 "hash",.c .none),(S0 "code",.c .none)]) rfl (.Ip (.refl _) (.refl _) (.ref jI)) <|
  h _ (aB _ (aB _ (aB _ (aB _ (aB _ hA))))) qh jI
theorem Du{m:GM}(hm:s.m=m)(e:m.u=some x){B:List (Addr×SC)}(hb5:∃q,af B 5=some q)(hb6:∃q,af B 6=some q)(hB:setAt (setAt B 5 (gaS x)) 6 (arS x)=bP m s.E)(hA:af ρ 11=some m.rd)(qh:af ρ 18=some x.a)(jI:af ρ 20=some x.t)(h:bD (bS s M8) ρ Q) :
  bD (fE s (.dict (lO (bf m.a) (adr m.a) (bf m.g) (adr m.g) (some (.ref 18)))) B [] [kH x.num (.c (.aA x.w)) nU (.c .none) (.ref 20),.gone,arT x,.gone,.gone]) ρ Q:=by
 subst hm;refine bB λgg=>hb5.elim λq5 hb5=>hb6.elim λq6 hb6=>gg <|nv (.lO (.aA qh)) ?_
 rw [← M9 e];refine yJ hA <|eY (k:=0) (fs':=pe x.num (.c (.int 0)) (.c (.aA x.w)) [(S0 "name",.c (.str nU)),(S0 "scalar",.c .none),(S0 "array",.c (.aA x.t)),(S0 "hash",.c .none),(S0 "code",.c .none)]) rfl (.Ip (.refl _) (.refl _) (.aA jI)) <|
  kj (k:=0) (n:=5) (c:=yG x.num x.w nU .none (.aA x.t)) hb5 (by decide) rfl qh <|kj (k:=2) (n:=6) (c:=Xe x.tn x.cnt x.tw x.it) ((ay _ _ (by decide)).trans hb6) (by decide) rfl jI ?_
 show bD (fE s _ (setAt (setAt B 5 (gaS x)) 6 (arS x)) [] M8) ρ Q;rw [hB];exact h
end
theorem FN{l:List (Addr×SC)}{p q p' q':Addr×SC}:setAt (setAt (setAt (setAt l 5 p) 6 q) 5 p') 6 q'=setAt (setAt l 5 p') 6 q':=by rw [uE (n:=6) (m:=5) (by decide),jY,jY]
theorem acf{m:GM}{E:List SV}(y:GL):setAt (setAt (bP m E) 5 (gaS y)) 6 (arS y)=bP (mE m y) E:=rfl
theorem Rp{m:GM}{x:GL}(e:m.u=some x):mE m x=m:=by unfold mE;rw [← e]
theorem hB5{B:List (Addr×SC)}{p q r:Addr×SC}(h:af B 5=some r):∃y,af (setAt (setAt B 5 p) 6 q) 5=some y:=⟨p,(ay _ _ (by decide)).trans (av _ h)⟩
theorem hB6{B:List (Addr×SC)}{p q r:Addr×SC}(h:af B 6=some r):∃y,af (setAt (setAt B 5 p) 6 q) 6=some y:=⟨q,av _ ((ay _ _ (by decide)).trans h)⟩
theorem uF{m:GM}{x:GL}(e:m.u=some x):uD m=x:=by unfold uD;rw [e];rfl
theorem arU{cx:Cx Prop}(ht:cx.top=cg):aJ cx 1212 M7:=qZ (((gH (dN:=vv []) (n:=60) (f:=fnOf 1212) Xu (fh rfl rfl rfl) (by rw [ht];rfl) (by rw [ht];rfl)).nu).gc (pick:=λ_ _=>bh 0 18)) λs hd d K _ h ρ _=>.pure ⟨_,.refl _,λM5 hl1=>by
 induction e:s.m.u with
 |some x=>
  have h:=h 0 0 0 0 0;unfold qi at h;rw [e] at h;have b:=FL (E:=s.E) e;refine Nb e hl1 λρ' h11 qh jI=>.pure ⟨_,.refl _,((Xv _ _).1 hd d s _ _ _ x.num x.w x.tn x.cnt x.tw x.it _).mpr λdS k2 hl2=>?_⟩;have jI:=k2 20 _ jI;refine Du (s:=s) rfl e (hB5 b.1) (hB6 b.2) (FN.trans ((acf x).trans (congrArg (bP · s.E) (Rp e)))) (k2 11 _ h11) (k2 18 _ qh) jI <|.pure ⟨_,.ok _ _ (.aA jI),(gc5.1 _ _ _).mpr (iz ?_)⟩
  rw [uF e] at h;exact h
 |none=>
  have b:=Xy (E:=s.E) e;refine qg λhA=>?_;rw [Xx e];refine .pure ⟨_,.refl _,((Xv _ _).2 hd d s _ _ _ _).mpr λdS k2 hl2=>?_⟩;have hl2:23=len dS:=hl2;refine bB λgg=>?_;obtain ⟨a,ha⟩:=bK (i:=18) (ρ:=dS) (hl2▸by decide)
  obtain ⟨w,hw⟩:=bK (i:=19) (ρ:=dS) (hl2▸by decide)
  obtain ⟨t,ht⟩:=bK (i:=20) (ρ:=dS) (hl2▸by decide)
  obtain ⟨tw,hv⟩:=bK (i:=21) (ρ:=dS) (hl2▸by decide)
  obtain ⟨it,hi⟩:=bK (i:=22) (ρ:=dS) (hl2▸by decide)
  refine gg ?_;have h:=h a w t tw it;unfold qi at h;rw [e] at h;rw [Na];refine eY (k:=0) (fs':=pe (s.last+1) (.c (.int 0)) (.c (.aA w)) [(S0 "name",.c (.str nU)),(S0 "scalar",.c .none),(S0 "array",.ref 20),(S0 "hash",.c .none),(S0 "code",.c .none)]) rfl (.Ip (.aA hw) (.refl _) (.refl _)) <|
   eY (k:=2) (fs':=pe (s.last+1+1) (.c (aI 1)) (.c (.aA tw)) [(S0 "items",.c (.aA it)),(S0 "tied",.c .none)]) rfl (.arr (.dP rfl) (.aA hv) (.aA hi)) <|ic (k:=1) rfl <|ic (k:=3) rfl <|ic (k:=4) rfl <|
   Du (s:=s.st (mE s.m ⟨a,s.last+1,w,t,s.last+1+1,tw,.none,1,it⟩) (s.last+1+1)) (x:=⟨a,s.last+1,w,t,s.last+1+1,tw,.none,1,it⟩) rfl rfl ⟨_,b.1⟩ ⟨_,b.2⟩ (acf _) (k2 11 _ hA) ha ht <|.pure ⟨_,.ok _ _ (.aA ht),(gc5.1 _ _ _).mpr (iz h)⟩⟩
theorem Xz{cx:Cx Prop}(ht:cx.top=cg):aV cx 1212 (cG i9 M7):=eg (dN:=cx) (arU ht) rfl
theorem Dv{s:MS}{D:MO}{B:List (Addr×SC)}{fr:aY}{ex:aq}{ρ:bR}{Q:aq->bR->Prop}{v:MV}{e:SV}(hv:cR ρ v (.c (eV e)))(h:bD (fE (s.fZ e) D B fr ex) ρ Q):bD (setAt (fE s D B fr ex) 15 (.list (bI s.E) [v])) ρ Q:=
 .then <|.snoc (i:=15) rfl hv <|by
  have z:app (bI s.E) (eV e)=bI (app s.E e):=(rP eV e s.E).symm;rw [z];exact h
theorem rT{m:GM}{E:List SV}{e:SV}:bP m (app E e)=app (bP m E) (eS e):=by
 unfold bP;rw [rP];rfl
theorem Tt{s:MS}{D:MO}{B:List (Addr×SC)}{fr:aY}{ex:aq}{ρ:bR}{Q:aq->bR->Prop}(h0:af (app B gW) 0=af B 0)(h:bD (fE s D (app B gW) fr ex) ρ Q):bD (fE s D B fr ex) ρ Q:=
 .then <|.box (i:=17) rfl h0 (λj p z=>(bF z).elim .inr λz=>.inl (z.2▸rfl)) h
theorem Bo{α:Type}{l:List α}{x p:α}(h:af l 0=some p):af (app l x) 0=af l 0:=(aB x h).trans h.symm
theorem mj{α:Type}{x p q:α}{l:List α}:∀{n:Nat},af l n=some q->setAt (app l x) n p=app (setAt l n p) x:=by
 induction l with
 |nil=>exact λh=>bq h|cons a l ih=>intro n h;induction n with|zero=>rfl|succ n=>exact congrArg (a :: ·) (ih h)
theorem rU{α β:Type}(f:α->β)(l:List α):len (l.map f)=len l:=by rw [bl,bl];exact aek _
theorem afY{cx:Cx Prop}(ht:cx.top=cg):aJ cx 1141 Xw:=qZ (((gH (dN:=vv []) (n:=60) (f:=fnOf 1141) (λ_ _=>bh 0 23) (fh rfl rfl rfl) (by rw [ht];rfl) (by rw [ht];rfl)).nu).gc (pick:=λ_ _=>bh 0 18)) λs hd d K _ h ρ _=>.pure ⟨_,.refl _,λM5 hl1=>by
 refine bB λgg=>?_;obtain ⟨hu,hlim,h⟩:=h;refine gg ?_;induction e:s.m.u with
 |none=>rw [e] at hu;exact bM hu|some x=>
  unfold Dt at h;rw [uF e] at h ⊢;have b:=FL (E:=s.E) e;refine Nb e hl1 λρ' h11 qh jI=>.pure ⟨[.ref 12,.ref 20],.cons (.refl _) (.cons (.ref jI) (.refl _)),((Xv _ _).3 hd d s _ _ _ x.num x.w x.tn x.cnt x.tw x.it _).mpr ⟨(rU eV s.E).symm▸hlim,λdS k2 hl2=>?_⟩⟩;have qh:=k2 18 _ qh;have jI:=k2 20 _ jI;refine Dv (e:=⟨false,x.a,x.t,0,0,.none⟩) (.tup (.cons (.refl _) (.cons (.aA qh) (.cons (.aA jI) .nil)))) <|Tt (Bo (p:=(s.m.rt,.nil)) rfl) <|Du (s:=(s.st (mE s.m ⟨x.a,x.num,x.w,x.t,x.tn,x.tw,x.v,x.cnt+1,x.it⟩) s.last).fZ ⟨false,x.a,x.t,0,0,.none⟩) (x:=⟨x.a,x.num,x.w,x.t,x.tn,x.tw,x.v,x.cnt+1,x.it⟩) rfl rfl
   ((hB5 b.1).elim λy z=>⟨y,aB _ z⟩) ((hB6 b.2).elim λy z=>⟨y,aB _ z⟩) ?_ (k2 11 _ h11) qh jI <|.pure ⟨_,.ok _ _ (.refl _),(gc5.1 _ _ _).mpr (iz h)⟩
  refine bB λgg=>(hB5 (p:=gW) (q:=gW) b.1).elim λy z=>(hB6 (p:=gW) (q:=gW) b.2).elim λy' z'=>gg <|?_
  rw [mj z,mj ((ay _ _ (by decide)).trans z'),FN,show bP _ (MS.fZ _ _).E=_ from rT]
  rfl⟩
theorem XA{cx:Cx Prop}(ht:cx.top=cg):aV cx 1141 (cG i9 Xw):=eg (dN:=cx) (afY ht) rfl
noncomputable def loV:aY:=[.tup [.c (.str (S0 "scalar")),.ref 18,.ref 20]]
inductive Nc(p q:Bool):Prop where
 |mk (old:∀hd d s B x y num w tn tw v K,wO (λ_ _=>bh 0 24) (eO (vv []) 60 (fnOf 301)) hd (d+10) [.ref 12,.c (.str nG)] (fE s (.dict (jX true (some (.ref 18)) p x q y)) B [] [kH num (.c (.aA w)) nG (.ref 20) (.c .none),.gone,i8 tn (.c (.aA tw)) (.at v),.gone]) K =
  (len (bI s.E)+0<aW/\K (.ok (.ref 22)) (setAt (fE (s.st s.m (s.last+1)) (.dict (jX true (some (.ref 18)) p x q y)) B [] [kH num (.c (.aA w)) nG (.ref 22) (.c .none),.gone,i8 tn (.c (.aA tw)) (.at v),.gone,i8 (s.last+1) (.ref 23) .none,.list [] []]) 15 (.list (bI s.E) loV)))) (new:∀hd d s B x y K,wO (λ_ _=>bh 0 24) (eO (vv []) 60 (fnOf 301)) hd (d+10) [.ref 12,.c (.str nG)] (fE s (.dict (jX true none p x q y)) B [] []) K =
  (len (bI s.E)+0<aW/\K (.ok (.ref 22)) (setAt (fE (s.st s.m (s.last+1+1+1)) (.dict (cat (jX true none p x q y) [(nG,.ref 18)])) B [] [kH (s.last+1) (.ref 19) nG (.ref 22) (.c .none),.list [] [],i8 (s.last+1+1) (.ref 21) .none,.list [] [],i8 (s.last+1+1+1) (.ref 23) .none,.list [] []]) 15 (.list (bI s.E) loV))))
theorem acg:Nc false false:=⟨by intros;kernel_rfl,by intros;kernel_rfl⟩
theorem ach:Nc false true:=⟨by intros;kernel_rfl,by intros;kernel_rfl⟩
theorem aci:Nc true false:=⟨by intros;kernel_rfl,by intros;kernel_rfl⟩
theorem acj:Nc true true:=⟨by intros;kernel_rfl,by intros;kernel_rfl⟩
theorem ack(p q:Bool):Nc p q:=p.casesOn (q.casesOn acg ach) (q.casesOn aci acj)
noncomputable def Ir(x:GL):SV:=⟨true,x.a,x.t,x.tn,x.tw,x.v⟩
noncomputable def XC(x:GL)(n:Int)(t tw:Addr):GL:=⟨x.a,x.num,x.w,t,n,tw,.none,x.cnt,x.it⟩
def pA(s:MS)(t tw:Addr):MS:=(s.st (setG true s.m (XC (eX true s.m) (s.last+1) t tw)) (s.last+1)).fZ (Ir (eX true s.m))
def Nd:Spec Prop:=Rk Io 10 (λ_=>[.ref 12,.c (.str nG)]) (λs=>bS s []) λs K=>len s.E<aW/\∀a w t tw t2 kJ,K (.ok (.ref 20)) (Xh true (pA (cN true s a w t tw) t2 kJ) [] [])
abbrev GcL:Prop:=P1 (∀s dm B t n tw v K,Xd (λ_ _=>cat (bh 0 18) [18,19,22,23]) 18 K (.ok (.ref 22)) (fE s (.box dm) B [] [.gone,.uU (.ref 22) t,.gone,.gone,i8 n (.c (.aA tw)) v,.gone])=K (.ok (.ref 20)) (fE s (.box dm) B [] [.gone,.uU (.ref 20) t,i8 n (.c (.aA tw)) v,.gone]))
theorem acm:GcL:=⟨by intros;kernel_rfl⟩
theorem Bp{α:Type}{l:List α}{p:α}(h:af l 0=some p):len l≠0:=by cases l with|nil=>exact bq h|cons a l=>exact nofun
theorem qj{α:Type}{p q:α}:∀{l:List α},setAt (app l p) (len l) q=app l q
 | []=>rfl|a::l=>congrArg (a :: ·) (qj (l:=l))
section
variable{s:MS}{x:GL}{ρ:bR}{Q:aq->bR->Prop}{t2 kJ:Addr}
def XD(s:MS):List (Addr×SC):=setAt (setAt (bP s.m s.E) 3 gW) 4 gW
theorem XE(e:s.m.g=some x):setAt (app (XD s) (x.t,vt x.tn x.tw x.v)) 3 (x.a,yG x.num x.w nG (.aA t2) .none)=setAt (bP (pA s t2 kJ).m (pA s t2 kJ).E) 4 gW:=by
 have y:eX true s.m=x:=by unfold eX;rw [show eU true s.m=some x from e];rfl
 unfold pA;rw [y];rw [show bP _ (MS.fZ _ (Ir x)).E=_ from rT]
 rfl
theorem FO(e:s.m.g=some x)(hA:af ρ 11=some s.m.rd)(qh:af ρ 18=some x.a)(jI:af ρ 20=some x.t)(h22:af ρ 22=some t2)(h23:af ρ 23=some kJ)
  (h:bD (fE (pA s t2 kJ) (jD (pA s t2 kJ).m) (setAt (bP (pA s t2 kJ).m (pA s t2 kJ).E) 4 gW) [] [.gone,.uU (.ref 22) t2,.gone,.gone,i8 (s.last+1) (.c (.aA kJ)) (.at .none),.gone]) ρ Q) :
  bD (fE (pA s t2 kJ) (.dict (jX true (some (.ref 18)) (bf s.m.a) (adr s.m.a) (bf s.m.u) (adr s.m.u))) (XD s) [] [kH x.num (.c (.aA x.w)) nG (.ref 22) (.c .none),.gone,i8 x.tn (.c (.aA x.tw)) (.at x.v),.gone,i8 (s.last+1) (.ref 23) .none,.list [] []]) ρ Q:=by
 refine Tt (Bo (p:=(s.m.rt,.nil)) rfl) <|nv (.dct (.aA qh)) ?_
 have y:eX true s.m=x:=by unfold eX;rw [show eU true s.m=some x from e];rfl
 have z:jX true (some (.c (.aA x.a))) (bf s.m.a) (adr s.m.a) (bf s.m.u) (adr s.m.u)=gX (rm (pA s t2 kJ).m):=by
  unfold pA;rw [y];exact (Tq (nm:=true) (m:=s.m) (x:=XC x (s.last+1) t2 kJ)).symm
 rw [z];refine yJ hA <|eY (k:=0) (fs':=pe x.num (.c (.int 0)) (.c (.aA x.w)) [(S0 "name",.c (.str nG)),(S0 "scalar",.c (.aA t2)),(S0 "array",.c .none),(S0 "hash",.c .none),(S0 "code",.c .none)]) rfl (.Ip (.refl _) (.aA h22) (.refl _)) <|
  eY (k:=4) (fs':=pe (s.last+1) (.c (.int 1)) (.c (.aA kJ)) [(S0 "value",.c (.at .none)),(S0 "magic",.c .none)]) rfl (.scl (.aA h23) .none) <|ic (k:=5) rfl <|
  kj (k:=2) (n:=len (XD s)) (c:=vt x.tn x.tw x.v) (cz _ _) (Bp (p:=(s.m.rt,.nil)) rfl) rfl jI ?_
 rw [qj];refine kj (k:=0) (n:=3) (c:=yG x.num x.w nG (.aA t2) .none) (q:=gW) rfl (by decide) rfl qh <|Dn (k:=1) rfl h22 ?_
 rw [XE (kJ:=kJ) e];exact h
end
theorem Nf{m:GM}{E:List SV}{y:GL}(e:m.g=none):setAt (setAt (bP (setG true m y) E) 3 gW) 4 gW=bP m E:=by
 unfold bP;rw [e];rfl
theorem afZ{cx:Cx Prop}(ht:cx.top=cg):aJ cx 301 Nd:=qZ (((gH (dN:=vv []) (n:=60) (f:=fnOf 301) (λ_ _=>bh 0 24) (fh rfl rfl rfl) (by rw [ht];rfl) (by rw [ht];rfl)).nu).gc (pick:=λ_ _=>cat (bh 0 18) [18,19,22,23])) λs hd d K _ h ρ _=>.pure ⟨_,.refl _,λM5 hl1=>by
 have hl1:18=len M5:=hl1;have hlim:len (bI s.E)+0<aW:=(rU eV s.E).symm▸h.1;have h:=h.2;induction e:s.m.g with
 |some x=>
  have e':eU true s.m=some x:=e;have b:=Bl (nm:=true) (E:=s.E) e';have qh:∀{a b c},af (app (app (app (app M5 x.a) a) b) c) 18=some x.a:=aB _ (aB _ (aB _ (ia hl1)));have jI:∀{a c},af (app (app (app (app M5 x.a) a) x.t) c) 20=some x.t:=aB _ (ia (by rw [bu,bu,← hl1]))
  refine qg λhA=>?_;have h11:∀{a b c d},af (app (app (app (app M5 a) b) c) d) 11=some s.m.rd:=aB _ (aB _ (aB _ (aB _ hA)));rw [Bm e'];refine iY b.1 (by decide) <|pg 0 <|iY ((ay _ _ (by decide)).trans b.2) (by decide) <|pg 0 <|nv (.dct (.ref qh)) <|eY (k:=0) (fs':=pe x.num (.c (.int 0)) (.c (.aA x.w)) [(S0 "name",.c (.str nG)),(S0 "scalar",.ref 20),(S0 "array",.c .none),(S0 "hash",.c .none),(S0 "code",.c .none)]) rfl (.Ip (.refl _) (.ref jI) (.refl _)) <|.pure ⟨_,.refl _,?_⟩
  refine ((ack _ _).1 hd d s _ _ _ x.num x.w x.tn x.tw x.v _).mpr ⟨hlim,λdS k2 hl2=>?_⟩;have hl2:24=len dS:=hl2;refine bB λgg=>?_;obtain ⟨t2,h22⟩:=bK (i:=22) (ρ:=dS) (hl2▸by decide)
  obtain ⟨kJ,h23⟩:=bK (i:=23) (ρ:=dS) (hl2▸by decide)
  refine gg ?_;have qh:=k2 18 _ qh;have jI:=k2 20 _ jI;have h:=h 0 0 0 0 t2 kJ;rw [show cN true s 0 0 0 0=s by unfold cN;rw [e']] at h
  have y:eX true s.m=x:=by unfold eX;rw [e'];rfl
  refine Dv (e:=Ir x) (.tup (.cons (.refl _) (.cons (.aA qh) (.cons (.aA jI) .nil)))) <|?_
  have z:=FO e (k2 11 _ h11) qh jI h22 h23 (t2:=t2) (kJ:=kJ) (.pure (P:=λσ' ρ'=>∃res',Rj σ' ρ' (.ok (.ref 22)) res'/\Xd (λ_ _=>cat (bh 0 18) [18,19,22,23]) 18 (Bj ρ K) res' σ') ⟨_,.ok _ _ (.refl _),(acm.1 _ _ _ _ _ _ _ _).mpr (iz ?_)⟩)
  ·unfold pA at z
   rw [y] at z;exact z
  ·unfold Xh at h
   rw [show eX true (pA s t2 kJ).m=XC (eX true s.m) (s.last+1) t2 kJ from rfl] at h
   exact h
 |none=>
  have e':eU true s.m=none:=e;refine qg λhA=>?_;rw [Tp e'];refine .pure ⟨_,.refl _,((ack _ _).2 hd d s _ _ _ _).mpr ⟨hlim,λdS k2 hl2=>?_⟩⟩;have hl2:24=len dS:=hl2;refine bB λgg=>?_;obtain ⟨a,ha⟩:=bK (i:=18) (ρ:=dS) (hl2▸by decide)
  obtain ⟨w,hw⟩:=bK (i:=19) (ρ:=dS) (hl2▸by decide)
  obtain ⟨t,ht⟩:=bK (i:=20) (ρ:=dS) (hl2▸by decide)
  obtain ⟨tw,hv⟩:=bK (i:=21) (ρ:=dS) (hl2▸by decide)
  obtain ⟨t2,h22⟩:=bK (i:=22) (ρ:=dS) (hl2▸by decide)
  obtain ⟨kJ,h23⟩:=bK (i:=23) (ρ:=dS) (hl2▸by decide)
  refine gg ?_;have h:=h a w t tw t2 kJ;rw [show cN true s a w t tw=s.st (setG true s.m ⟨a,s.last+1,w,t,s.last+1+1,tw,.none,0,0⟩) (s.last+1+1) by unfold cN;rw [e']] at h
  refine Dv (e:=⟨true,a,t,s.last+1+1,tw,.none⟩) (.tup (.cons (.refl _) (.cons (.aA ha) (.cons (.aA ht) .nil)))) <|M1 (pq (nm:=true)).1 (pq (nm:=true)).2 <|eY (k:=0) (fs':=pe (s.last+1) (.c (.int 0)) (.c (.aA w)) [(S0 "name",.c (.str nG)),(S0 "scalar",.ref 22),(S0 "array",.c .none),(S0 "hash",.c .none),(S0 "code",.c .none)]) rfl (.Ip (.aA hw) (.refl _) (.refl _)) <|
   eY (k:=2) (fs':=pe (s.last+1+1) (.c (.int 1)) (.c (.aA tw)) [(S0 "value",.c (.at .none)),(S0 "magic",.c .none)]) rfl (.scl (.aA hv) .none) <|ic (k:=1) rfl <|ic (k:=3) rfl ?_
  rw [← Nf (y:=⟨a,s.last+1,w,t,s.last+1+1,tw,.none,0,0⟩) e];refine FO (s:=s.st (setG true s.m ⟨a,s.last+1,w,t,s.last+1+1,tw,.none,0,0⟩) (s.last+1+1)) (x:=⟨a,s.last+1,w,t,s.last+1+1,tw,.none,0,0⟩) rfl (k2 11 _ hA) ha ht h22 h23 (.pure ⟨_,.ok _ _ (.refl _),(acm.1 _ _ _ _ _ _ _ _).mpr (iz ?_)⟩);exact h⟩
theorem XF{cx:Cx Prop}(ht:cx.top=cg):aV cx 301 (cG i9 Nd):=eg (dN:=cx) (afZ ht) rfl
def Bq(ks:cI)(ρ ρ':bR):Prop:=∀j i a,af ks j=some i->af ρ i=some a->af ρ' j=some a
def Ng(ts:List (Str×TV))(pick:Lo->aq->cI)(c:Nat)(ρ:bR)(P:Lo->aq->Prop):En->Expr->cL->M Prop (cB×Lo):=λe _ _ σ _=>pK (SY (pick e.m σ) c ts e.m σ) λq=>∀dS,Bq (pick e.m σ) ρ dS->len q.2=len dS->bD q.2 dS λσ' _=>P q.1 σ'
def uG(pick:cB->aq->cI)(c:Nat)(ρ:bR)(k:KL):KL:=λr σ=>pK (gcX (pick r.1 σ) c r.1 σ) λq=>∀dS,Bq (pick r.1 σ) ρ dS->len q.2=len dS->bD q.2 dS λσ' _=>(∀n,q.1 =.err n->eL σ' n)/\k (q.1,[]) σ'
def Rq(B:TB)(t0:Expr)(iT:cL)(c:Nat)(P:Lo->aq->KL->Prop):En->Expr->cL->M Prop (cB×Lo):=λe t body σ k=>(t=t0/\body=iT/\B.fits e/\Nat.ble (len σ) c=true)/\∀ρ,len σ=len ρ->bD σ ρ λσ' _=>P e.m σ' k
structure LP where
 B:TB
 t:Expr
 body:cL
 ts:List (Str×TV)
 pick:Lo->aq->cI
 out:cB->aq->cI
 c:Nat
def Tu(cx:Cx Prop)(n:Nat)(L:LP)(P:Nat->Lo->aq->KL->Prop)(i:Nat):Prop:=∀m σ d k,P (i+1) m σ k->∀ρ,len σ=len ρ->bD σ ρ λσ' ρ'=>
 ∃c1 cs,gU cx c1/\(∀c'∈cs,gU cx c')/\vm n (λe t body σ _=>Ng L.ts L.pick L.c ρ' (λm σ=>P i m σ k) e t body σ k) (c1::cs) ⟨L.B.sc,L.B.cells,m,L.B.hd,d+L.B.need⟩ L.t L.body σ' (uG L.out L.c ρ' k)
section
variable{cx:Cx Prop}{F:Fr cx}{S S2 S3:Pt}{ks:cI}{σ:aq}
theorem Dw(le:Le S2 S3):Bq ks S2.W.ρ (S3.gc ks σ).W.ρ:=λj i a e q=>lG e (le.1.6 i a q)
theorem lz.uG{c:Nat}{pick:cB->aq->cI}{k:KL}{Q:Flow->Shared->Prop}(o:Ok F S)(hc:len S.W.ρ<=c)(ir:Le S S2)(q:lz F k S Q):lz F (uG pick c S2.W.ρ k) S2 Q:=λS' g m fl le o' v h=>bZ h λz e h=>MX e λon hp hs hw=>by
 have w:=o.gcX (ir.trans le) o' hc on hp hs;exact bD.of w.2 (h _ (Dw le)) λW4 QT n4 h4=>q ⟨W4,QT,S'.s⟩ z.1 [] fl (w.1.trans ⟨n4.1.1,n4.1.2⟩) n4.2 ((v.qQ gF hw).up n4.1.1) h4.2
theorem vc.uG{c:Nat}{pick:cB->aq->cI}{k:KL}{E:b7}(o:Ok F S)(hc:len S.W.ρ<=c)(ir:Le S S2)(q:vc F k S E):vc F (uG pick c S2.W.ρ k) S2 E:=λS' n a m le o' e1 e2 tb h=>bZ h λz e h=>MX e λon hp hs hw=>by
 have w:=o.gcX (ir.trans le) o' hc on hp hs;refine bD.of w.2 (h _ (Dw le)) λW4 QT n4 h4=>map_some hw λn' e5 e6=>?_;exact q ⟨W4,QT,S'.s⟩ n' a [] (w.1.trans ⟨n4.1.1,n4.1.2⟩) n4.2 (n4.1.1.6 _ _ (gF.ρ _ _ _ e5 e1)) (h4.1 n' e6.symm) tb (e6▸h4.2)
theorem Br{n:Nat}{L:LP}{P:Nat->Lo->aq->KL->Prop}(I:Nat)(H:∀i,i<I->Tu cx n L P i)(h0:∀m σ k,¬P 0 m σ k):jg cx (Rq L.B L.t L.body L.c (P I)):=by
 intro F t body S o k R h ok er;obtain ⟨⟨rfl,rfl,f,hc⟩,h⟩:=h;have hc:len S.W.ρ<=L.c:=o.1.6▸abV hc;have main:∀i,i<=I->∀S2 m,Le S S2->Ok (F.fix m) S2->P i m S2.σ k->codeAny Md F.A (.whileLoop L.t L.body [] F.env) R S2.s:=by
  intro i;induction i with
  |zero=>exact λ_ S2 m le o2 h=>(h0 _ _ _ h).elim|succ i ih=>
   refine λhi S2 m le o2 h=>bD.of o2 (H i hi m S2.σ (F.e.dp-L.B.need) k h S2.W.ρ) λW' σ' n3 z=>z.elim λc1 z=>z.elim λcs z=>?_;have hJ:=z.2.2;have pG:Le S ⟨W',σ',S2.s⟩:=le.trans ⟨n3.1.1,n3.1.2⟩;rw [show (⟨L.B.sc,L.B.cells,m,L.B.hd,F.e.dp-L.B.need+L.B.need⟩:En)=fixed F.e m by
    show _=En.mk _ _ _ _ _;rw [f.1,f.2.1,f.2.2.1,aef f.2.2.2]] at hJ
   refine Fd (F:=F) (S:=⟨W',σ',S2.s⟩) (ok.uG (S2:=⟨W',σ',S2.s⟩) o hc pG) (er.uG (S2:=⟨W',σ',S2.s⟩) o hc pG) (λS3 m3 xO o4 h3=>bZ h3 λq e h3=>?_) (c1::cs) (aaw.2 ⟨z.1,z.2.1⟩) ⟨W',σ',S2.s⟩ m (.refl _) n3.2 hJ;have g:=o.SY (pG.trans xO) o4 hc e;exact bD.of g.2 (h3 _ (Dw xO)) λW4 QT n4 h4=>ih (acH hi) ⟨W4,QT,S3.s⟩ q.1 (g.1.trans ⟨n4.1.1,n4.1.2⟩) n4.2 h4
 exact bD.of o (h S.W.ρ) λW4 QT n4 h4=>main I (abv _) ⟨W4,QT,S.s⟩ F.e.m ⟨n4.1.1,n4.1.2⟩ n4.2 h4
end
def lvM(mk:Int):Lo:=[(S0 "run",.ref 12),(S0 "mark",.c (aI mk))]
def af0(_:Lo)(σ:aq):cI:=cat (bh 0 18) [20,match af σ 22 with|some _=>22|none=>21]
def uT(hd:Hd):LP:=⟨⟨(fnOf 414).sc,[],hd,8⟩,(Ib (fnOf 414).body 0).1,(Ib (fnOf 414).body 0).2,[(S0 "run",.any),(S0 "mark",.any)],af0,λ_ _=>bh 0 18,18⟩
def cxV:Cx Prop:=⟨cg,[],[(240,10)],[],λp _=>aD p.line [(867,false)],[],[]⟩
def wU(d:Nat)(hd:Hd)(mk:Int)(ρ:bR)(P:Lo->aq->KL->Prop)(σ:aq)(k:KL):Prop:=
 vm 60 (λe t body σ _=>Ng (uT hd).ts (uT hd).pick (uT hd).c ρ (λm σ=>P m σ k) e t body σ k) [cxV] ⟨(fnOf 414).sc,[],lvM mk,hd,d+8⟩ (uT hd).t (uT hd).body σ (uG (uT hd).out (uT hd).c ρ k)
noncomputable def MS.zz(s:MS)(n:Nat):MS:={ s with zero:=n }
def lvT(s:MS)(tg:MV)(dm B:List (Addr×SC))(ex:aq):aq:=setAt (fE s (.box dm) B [] ex) 15 (.list (bI s.E) [tg])
def acn(s:MS)(mk:Int)(ks:cI)(ρ:bR)(P:Lo->aq->KL->Prop)(σ:aq)(k:KL):Prop:=∀dS,Bq (cat (bh 0 18) ks) ρ dS->20=len dS->bD σ dS λσ' _=>P (lvM mk) σ' k
noncomputable def Rr(w:Str)(a b:Nat):MV:=.tup [.c (.str w),.ref a,.ref b]
abbrev af3:Prop:=P3 (∀d hd s mk ρ P k,wU d hd mk ρ P (bS s [.gone,.gone]) k=(len (bI s.E)+0<aW/\(fX mk (len (bI s.E)+0:Nat)=true->False)/\(fX mk (len (bI s.E)+0:Nat)=false->∀dS,Bq (bh 0 18) ρ dS->18=len dS->bD (bS s []) dS λσ' _=>(∀n,cB.next =.err n->eL σ' n)/\k (.next,[]) σ'))) (∀d hd s mk ρ P dm B num w tn tw v tn' tw' v' k,wU d hd mk ρ P (lvT s (Rr (S0 "scalar") 20 22) dm B [.gone,.gone,kH num (.c (.aA w)) nG (.ref 21) (.c .none),i8 tn (.c (.aA tw)) (.at v),i8 tn' (.c (.aA tw')) (.at v')]) k =
  (len (bI s.E)+1<aW/\(fX mk (len (bI s.E)+1:Nat)=true->s.zero<aW/\acn s mk [20,22] ρ P (fE (s.zz (s.zero+1)) (.box dm) B [] [kH num (.c (.aA w)) nG (.ref 19) (.c .none),i8 tn' (.c (.aA tw')) (.at v')]) k)/\(fX mk (len (bI s.E)+1:Nat)=false->False))) (∀d hd s mk ρ P dm B num w tn cnt tw it k,wU d hd mk ρ P (lvT s (Rr (S0 "array") 20 21) dm B [.gone,.gone,kH num (.c (.aA w)) nU (.c .none) (.ref 21),Dm tn cnt (.c (.aA tw)) (.c (.aA it))]) k =
  (len (bI s.E)+1<aW/\(fX mk (len (bI s.E)+1:Nat)=true->mW (.int (cnt-1)) (.int 0)=false/\acn s mk [20,21] ρ P (fE s (.box dm) B [] [kH num (.c (.aA w)) nU (.c .none) (.ref 19),Dm tn (cnt-1) (.c (.aA tw)) (.c (.aA it))]) k)/\(fX mk (len (bI s.E)+1:Nat)=false->False)))
theorem XG:af3:=⟨by intros;kernel_rfl,by intros;kernel_rfl,by intros;kernel_rfl⟩
noncomputable def XH(x:GL)(e:SV):GL:=⟨x.a,x.num,x.w,e.t,e.tn,e.tw,e.v,x.cnt,x.it⟩
noncomputable def Dy(x:GL):GL:=⟨x.a,x.num,x.w,x.t,x.tn,x.tw,x.v,x.cnt-1,x.it⟩
def u1(p:GM×Nat)(e:SV):GM×Nat:=match e.sc with
 |true=>(setG true p.1 (XH (eX true p.1) e),p.2+1)|false=>(mE p.1 (Dy (uD p.1)),p.2)
noncomputable def uL(p:GM×Nat):List SV->GM×Nat
 | []=>p|e::r=>u1 (uL p r) e
theorem yL{p:GM×Nat}{e:SV}:∀{r:List SV},uL p (app r e)=uL (u1 p e) r
 | []=>rfl|a::r=>congrArg (u1 · a) (yL (r:=r))
def yM(m:GM)(e:SV):Prop:=match e.sc with
 |true=>∃x,m.g=some x/\x.a=e.g|false=>∃x,m.u=some x/\x.a=e.g/\x.t=e.t
noncomputable def uH:List SV->Nat
 | []=>0|e::r=>uH r+(match e.sc with|true=>0|false=>1)
inductive FP(m:GM)(E:List SV):Prop where
 |mk (e:∀i e,af E i=some e->yM m e) (c:∀x,m.u=some x->x.cnt=(uH E:Int)+1)
theorem mq{e:SV}:∀{E:List SV},uH (app E e)=uH E+(match e.sc with|true=>0|false=>1)
 | []=>rfl|a::r=>by
  show uH (app r e)+_=uH r+_+_;rw [mq (E:=r)];exact aho _ _ _
theorem XI{p:GM×Nat}{e e':SV}(h:yM p.1 e)(h':yM p.1 e'):yM (u1 p e).1 e':=by
 unfold yM u1 at *;induction q:e.sc with
 |true=>
  rw [q] at h;obtain ⟨x,hx,_⟩:=h;have y:eX true p.1=x:=by unfold eX;rw [show eU true p.1=some x from hx];rfl
  induction q':e'.sc with
  |true=>
   rw [q'] at h';obtain ⟨x',hx',ha⟩:=h';cases hx.symm.trans hx';exact ⟨XH (eX true p.1) e,rfl,by rw [y];exact ha⟩
  |false=>
   rw [q'] at h';exact h'
 |false=>
  rw [q] at h;obtain ⟨x,hx,_⟩:=h;induction q':e'.sc with
  |true=>
   rw [q'] at h';exact h'
  |false=>
   rw [q'] at h';obtain ⟨x',hx',ha⟩:=h';exact ⟨Dy (uD p.1),rfl,by rw [uF hx'];exact ha⟩
theorem FP.pop{p:GM×Nat}{E:List SV}{e:SV}(h:FP p.1 (app E e)):FP (u1 p e).1 E:=by
 have he:yM p.1 e:=h.1 (len E) e (cz _ _);refine ⟨λi e' q=>XI he (h.1 i e' (aB _ q)),λx hx=>?_⟩;unfold u1 at hx;cases q:e.sc with
 |true=>
  rw [q] at hx;have z:=h.2 x hx;rw [mq,q] at z;exact z
 |false=>
  rw [q] at hx;unfold yM at he;rw [q] at he;obtain ⟨y,hy,_⟩:=he;have z:=h.2 y hy;rw [mq,q] at z;cases hx;show (uD p.1).cnt-1=_;rw [uF hy,z];show ((uH E+1:Nat):Int)+1-1=(uH E:Int)+1;lia
def dG(s:MS)(KP more:List SV):MS:=⟨s.told,s.texts,s.depth,s.last,(uL (s.m,s.zero) more).1,(uL (s.m,s.zero) more).2,s.steps,KP,s.frames,s.ms,s.t,s.fk,s.want,s.line,s.piled,s.kn,s.code,s.ak⟩
inductive zj(s:MS)(KP more:List SV):Prop where
 |mk (e:s.E=cat KP more) (ok:FP s.m s.E) (z:s.zero+len more<aW) (n:len s.E+1<aW)
def lvP(i:Nat)(m:Lo)(σ:aq)(K:MS->Prop):Prop:=∃s mk KP more,m=lvM mk/\σ=bS s [.gone,.gone]/\zj s KP more/\mk=(len KP:Nat)/\len more<i/\K (dG s KP more)
theorem BF.Rt(l:az)(x:CV):BF (.list (app l x) []) (.list l [.c x]):=ez x l▸BF.yE l x
theorem bD.yE{σ:aq}{ρ:bR}{P:aq->bR->Prop}{i:Nat}{L:az}{v:MV}{x:CV}(hi:af σ i=some (.list (app L x) []))(hv:cR ρ (.c x) v)(h:P (setAt σ i (.list L [v])) ρ):bD σ ρ P:=
 .cell (o':=.list L [v]) hi (λW a hp e _ c=>gY.casesOn (motive:=λ_=>gY W i a hp (cat (bT L) (rev [v] []))) (BF.Rt L x W i a hp c) λxs n ow g r sz=>⟨xs,n,ow,g,r.split.elim λy r=>r.elim λz r=>r.1▸ah.cat r.2.1 (r.2.2.elim λu r=>r.elim λw r=>⟨u,w,r.1,hv W u e r.2.1,r.2.2⟩),sz⟩) h
def Iu(l:az)(l':aY)(ρ:bR):Prop:=∀W xs,W.ρ=ρ->bO W.aU l xs->ah W l' xs
theorem Iu.nil{ρ:bR}:Iu [] [] ρ:=λ_ _ _ h=>h
theorem Iu.cons{ρ:bR}{v:MV}{x:CV}{l:az}{l':aY}(h:cR ρ (.c x) v)(t:Iu l l' ρ):Iu (x::l) (v::l') ρ:=λW xs e q=>q.elim λy q=>q.elim λr q=>⟨y,r,q.1,h W y e q.2.1,t W r e q.2.2⟩
theorem cR.Tw{ρ:bR}{l:az}{l':aY}(h:Iu l l' ρ):cR ρ (.c (.tup l)) (.tup l'):=λW x e q=>fY.casesOn q λa xs g r=>⟨a,xs,g,h W xs e r⟩
section
variable{s:MS}{D:MO}{B dm:List (Addr×SC)}{fr:aY}{ex:aq}{ρ:bR}{Q:aq->bR->Prop}{v:MV}{e:SV}
theorem Bs(hv:cR ρ (.c (eV e)) v)(h:bD (lvT s v dm B ex) ρ Q):bD (fE (s.fZ e) (.box dm) B [] ex) ρ Q:=
 .then <|.yE (i:=15) (L:=bI s.E) (x:=eV e) (congrArg (λl=>some (MO.list l [])) (rP eV e s.E)) hv h
theorem FQ(h0:af B 0=af (app B gW) 0)(h:bD (fE s D B fr ex) ρ Q):bD (fE s D (app B gW) fr ex) ρ Q:=
 .then <|.box (i:=17) rfl h0 (λj p z=>.inr (aB _ z)) h
theorem lQ(E:List SV):len (bI E)=len E:=rU eV E
theorem XJ{E:List SV}(h:len E+1<aW):len (bI E)+0<aW:=by rw [lQ];exact adU h
def lvX(k:KL):MS->Prop:=λs'=>k (.next,[]) (bS s' [])
def wV(i:Nat)(m:Lo)(σ:aq)(k:KL):Prop:=lvP i m σ (lvX k)
theorem XK{B:List (Addr×SC)}{c p q:Addr×SC}(h3:af B 3=some p)(h4:af B 4=some q):setAt (setAt (setAt (app B c) 3 gW) 4 gW) (len B) gW=app (setAt (setAt B 3 gW) 4 gW) gW:=by
 rw [mj h3,mj ((ay _ _ (by decide)).trans h4),show len B=len (setAt (setAt B 3 gW) 4 gW) by rw [bL,bL],qj]
theorem XM{m:GM}{x:GL}{y:SV}(hx:m.g=some x):jD (setG true m (XH x y))=jD m:=by unfold jD rm setG;rw [hx];rfl
theorem Ru{hd:Hd}{d i:Nat}{mk:Int}{KP:List SV}{k:KL}(c:zj s KP [])(hm:mk=(len KP:Nat))(h:lvX k (dG s KP [])):wU d hd mk ρ (wV i) (bS s [.gone,.gone]) k:=by
 have e:s.E=KP:=c.1.trans (au _);rw [XG.1];refine ⟨XJ c.4,λq=>?_,λ_ dS _ _=>.pure ⟨nofun,?_⟩⟩
 ·have z:fX mk (len (bI s.E)+0:Nat)=false:=wN (by rw [hm,lQ,e];exact aiD _)
  exact bM (z.symm.trans q)
 ·subst e
  exact h
theorem XN{E:List SV}(he:s.E=app E e):s=(MS.mk s.told s.texts s.depth s.last s.m s.zero s.steps E s.frames s.ms s.t s.fk s.want s.line s.piled s.kn s.code s.ak).fZ e:=by
 unfold MS.fZ;rw [← he]
end
def Tz(hd:Hd)(d i:Nat)(mk:Int)(k:KL)(s:MS):Prop:=∀ρ,len (bS s [.gone,.gone])=len ρ->bD (bS s [.gone,.gone]) ρ λσ' ρ'=>wU d hd mk ρ' (wV i) σ' k
theorem rV{ks:cI}{ρ ρ':bR}(r:Bq ks ρ ρ'){j i:Nat}{a:Addr}(h:af ks j=some i)(q:af ρ i=some a):af ρ' j=some a:=r j i a h q
theorem Rv{hd:Hd}{d i:Nat}{mk:Int}{KP a:List SV}{y:SV}{s1:MS}{k:KL}(hs:y.sc=true)(c:zj (s1.fZ y) KP (app a y))(ce:s1.E=cat KP a)(hm:mk=(len KP:Nat))(hi:len (app a y)<i+1)(h:lvX k (dG (s1.fZ y) KP (app a y))):Tz hd d i mk k (s1.fZ y):=by
 intro ρ hl;have hl:20=len ρ:=hl;have he:yM s1.m y:=c.2.1 (len s1.E) y (cz _ _);unfold yM at he;rw [hs] at he;obtain ⟨x,hx,hxa⟩:=he;have b:af (bP s1.m s1.E) 3=some (Xf nG x)/\af (bP s1.m s1.E) 4=some (scS x):=Bl (nm:=true) (E:=s1.E) hx;have hB:bP s1.m (app s1.E y)=app (bP s1.m s1.E) (y.t,vt y.tn y.tw y.v):=by rw [rT];unfold eS;rw [hs]
 have hz:s1.zero<aW:=by have:=c.3;rw [bu] at this;exact adQ (abW _ _) this
 have hn:len s1.E+1<aW:=by
  have:=c.4;rw [show (s1.fZ y).E=app s1.E y from rfl,bu] at this
  exact adU this
 have jI:∀{a b},af (app (app (app ρ x.a) a) b) 20=some x.a:=aB _ (aB _ (ia hl));have h21:∀{a b},af (app (app (app ρ a) x.t) b) 21=some x.t:=aB _ (ia (by rw [bu,← hl]))
 have h22:∀{a b},af (app (app (app ρ a) b) y.t) 22=some y.t:=ia (by rw [bu,bu,← hl])
 have hlen:len (bP s1.m s1.E)≠3/\len (bP s1.m s1.E)≠4:=⟨agt (cQ b.1),agt (cQ b.2)⟩;show bD (fE (s1.fZ y) _ (bP s1.m (app s1.E y)) [] [.gone,.gone]) ρ _;rw [hB];refine iY (n:=3) (aB _ b.1) (by decide) <|iY (n:=4) ((ay _ _ (by decide)).trans (aB _ b.2)) (by decide) <|iY (n:=len (bP s1.m s1.E)) (p:=(y.t,vt y.tn y.tw y.v)) ((ay _ _ hlen.2.symm).trans ((ay _ _ hlen.1.symm).trans (cz _ _))) (Bp (p:=(s1.m.rt,.nil)) rfl) <|
  eY (k:=2) (fs':=pe x.num (.c (.int 0)) (.c (.aA x.w)) [(S0 "name",.c (.str nG)),(S0 "scalar",.ref 21),(S0 "array",.c .none),(S0 "hash",.c .none),(S0 "code",.c .none)]) rfl (.Ip (.refl _) (.ref h21) (.refl _)) <|
  Bs (v:=Rr (S0 "scalar") 20 22) (by
   unfold eV;rw [hs];exact .Tw (.cons (.refl _) (.cons (.ref (hxa▸jI)) (.cons (.ref h22) .nil)))) <|.pure ?_
 rw [XK b.1 b.2];have hlt:fX mk (len (bI s1.E)+1:Nat)=true:=FA (by rw [hm,lQ,ce,len_cat];lia)
 refine (XG.2 d hd s1 mk _ _ _ _ x.num x.w x.tn x.tw x.v y.tn y.tw y.v k).mpr ⟨lQ _▸hn,λ_=>⟨hz,λdS r hl2=>?_⟩,λq=>bM (q.symm.trans hlt)⟩;have k18:af dS 18=some x.a:=rV r (i:=20) rfl jI;have k19:af dS 19=some y.t:=rV r (i:=22) rfl h22;refine eY (k:=0) (fs':=pe x.num (.c (.int 0)) (.c (.aA x.w)) [(S0 "name",.c (.str nG)),(S0 "scalar",.c (.aA y.t)),(S0 "array",.c .none),(S0 "hash",.c .none),(S0 "code",.c .none)]) rfl (.Ip (.refl _) (.aA k19) (.refl _)) <|
  kj (k:=0) (n:=3) (q:=gW) (c:=yG x.num x.w nG (.aA y.t) .none) rfl (by decide) rfl k18 <|kj (k:=1) (n:=4) (q:=gW) (c:=vt y.tn y.tw y.v) rfl (by decide) rfl k19 ?_
 show bD (fE _ (jD s1.m) (app (bP (setG true s1.m (XH x y)) s1.E) gW) [] [.gone,.gone]) dS _;rw [← XM (y:=y) hx];have hu:u1 (s1.m,s1.zero) y=(setG true s1.m (XH x y),s1.zero+1):=by unfold u1;rw [hs];show (setG true s1.m (XH (eX true s1.m) y),_)=_;rw [show eX true s1.m=x by unfold eX;rw [show eU true s1.m=some x from hx];rfl]
 refine FQ rfl <|.pure ⟨(s1.st (setG true s1.m (XH x y)) s1.last).zz (s1.zero+1),mk,KP,a,rfl,rfl,⟨ce,?_,?_,hn⟩,hm,?_,?_⟩
 ·have z:=FP.pop (p:=(s1.m,s1.zero)) c.2
  rw [hu] at z;exact z
 ·have:=c.3
  rw [bu] at this;show s1.zero+1+len a<aW;rw [aho];exact this
 ·rw [bu] at hi;exact adM hi
 ·unfold dG at h ⊢
  rw [yL] at h;rw [show ((s1.fZ y).m,(s1.fZ y).zero)=(s1.m,s1.zero) from rfl,hu] at h
  exact h
theorem XO{hd:Hd}{d i:Nat}{mk:Int}{KP a:List SV}{y:SV}{s1:MS}{k:KL}(hs:y.sc=false)(c:zj (s1.fZ y) KP (app a y))(ce:s1.E=cat KP a)(hm:mk=(len KP:Nat))(hi:len (app a y)<i+1)(h:lvX k (dG (s1.fZ y) KP (app a y))):Tz hd d i mk k (s1.fZ y):=by
 intro ρ hl;have hl:20=len ρ:=hl;have he:yM s1.m y:=c.2.1 (len s1.E) y (cz _ _);unfold yM at he;rw [hs] at he;refine bB λgg=>?_;obtain ⟨x,hx,hxa,hxt⟩:=he;refine gg ?_;have b:=FL (E:=s1.E) hx;have hB:bP s1.m (app s1.E y)=app (bP s1.m s1.E) gW:=by rw [rT];unfold eS;rw [hs]
 have hn:len s1.E+1<aW:=by
  have:=c.4;rw [show (s1.fZ y).E=app s1.E y from rfl,bu] at this
  exact adU this
 have jI:∀{a},af (app (app ρ x.a) a) 20=some x.a:=aB _ (ia hl);have h21:∀{a},af (app (app ρ a) x.t) 21=some x.t:=ia (by rw [bu,← hl])
 have hc:mW (.int (x.cnt-1)) (.int 0)=false:=decide_eq_false λq=>by
  have z:=c.2.2 x hx;rw [show (s1.fZ y).E=app s1.E y from rfl,mq,hs] at z
  have q:x.cnt-1=0:=At.int.inj q;rw [z] at q;exact absurd q (by show ((uH s1.E+1:Nat):Int)+1-1≠0;lia)
 show bD (fE (s1.fZ y) _ (bP s1.m (app s1.E y)) [] [.gone,.gone]) ρ _;rw [hB];refine FQ rfl <|iY (n:=5) b.1 (by decide) <|iY (n:=6) ((ay _ _ (by decide)).trans b.2) (by decide) <|
  eY (k:=2) (fs':=pe x.num (.c (.int 0)) (.c (.aA x.w)) [(S0 "name",.c (.str nU)),(S0 "scalar",.c .none),(S0 "array",.ref 21),(S0 "hash",.c .none),(S0 "code",.c .none)]) rfl (.Ip (.refl _) (.refl _) (.ref h21)) <|
  Bs (v:=Rr (S0 "array") 20 21) (by
   unfold eV;rw [hs];exact .Tw (.cons (.refl _) (.cons (.ref (hxa▸jI)) (.cons (.ref (hxt▸h21)) .nil)))) <|.pure ?_
 have hlt:fX mk (len (bI s1.E)+1:Nat)=true:=FA (by rw [hm,lQ,ce,len_cat];lia)
 refine (XG.3 d hd s1 mk _ _ _ _ x.num x.w x.tn x.cnt x.tw x.it k).mpr ⟨lQ _▸hn,λ_=>⟨hc,λdS r hl2=>?_⟩,λq=>bM (q.symm.trans hlt)⟩;have k18:af dS 18=some x.a:=rV r (i:=20) rfl jI;have k19:af dS 19=some x.t:=rV r (i:=21) rfl h21;refine eY (k:=0) (fs':=pe x.num (.c (.int 0)) (.c (.aA x.w)) [(S0 "name",.c (.str nU)),(S0 "scalar",.c .none),(S0 "array",.c (.aA x.t)),(S0 "hash",.c .none),(S0 "code",.c .none)]) rfl (.Ip (.refl _) (.refl _) (.aA k19)) <|
  kj (k:=0) (n:=5) (q:=gW) (c:=yG x.num x.w nU .none (.aA x.t)) rfl (by decide) rfl k18 <|kj (k:=1) (n:=6) (q:=gW) (c:=Xe x.tn (x.cnt-1) x.tw x.it) rfl (by decide) rfl k19 ?_
 show bD (fE _ (jD s1.m) (bP (mE s1.m (Dy x)) s1.E) [] [.gone,.gone]) dS _;rw [show jD s1.m=jD (mE s1.m (Dy x)) by unfold jD rm mE;rw [hx];rfl]
 have hu:u1 (s1.m,s1.zero) y=(mE s1.m (Dy x),s1.zero):=by unfold u1;rw [hs];show (mE s1.m (Dy (uD s1.m)),_)=_;rw [uF hx]
 refine .pure ⟨s1.st (mE s1.m (Dy x)) s1.last,mk,KP,a,rfl,rfl,⟨ce,?_,?_,hn⟩,hm,?_,?_⟩
 ·have z:=FP.pop (p:=(s1.m,s1.zero)) c.2
  rw [hu] at z;exact z
 ·have:=c.3
  rw [bu] at this;exact adU this
 ·rw [bu] at hi;exact adM hi
 ·unfold dG at h ⊢
  rw [yL] at h;rw [show ((s1.fZ y).m,(s1.fZ y).zero)=(s1.m,s1.zero) from rfl,hu] at h
  exact h
theorem Rw{cx:Cx Prop}(ht:cx.top=cg)(hd:Hd)(i:Nat):Tu cx 60 (uT hd) wV i:=λm σ d k h=>by
 refine bB λgg=>?_;obtain ⟨s,mk,KP,more,e1,e2,c,hm,hi,h⟩:=h;refine gg ?_;subst e1 e2;have one:gU cx cxV:=⟨fh rfl rfl rfl,ht.symm⟩;intro ρ hl;have z:bD (bS s [.gone,.gone]) ρ λσ' ρ'=>wU d hd mk ρ' (wV i) σ' k:=by
  induction yF more with
  |inl q=>subst q;exact .pure (Ru c hm h)|inr q=>
   refine bB λgg=>?_;obtain ⟨a,y,q⟩:=q;refine gg ?_;rw [ez] at q;subst q;have he:s.E=app (cat KP a) y:=by rw [c.1,← ez,← aP,ez]
   rw [XN he] at c h hl ⊢;induction hs:y.sc with
   |true=>exact Rv hs c rfl hm hi h ρ hl|false=>exact XO hs c rfl hm hi h ρ hl
 exact z.bind λσ' ρ' z=>.pure ⟨cxV,[],one,ff,z⟩
theorem XQ{cx:Cx Prop}(ht:cx.top=cg)(hd:Hd)(I:Nat):jg cx (Rq (uT hd).B (uT hd).t (uT hd).body (uT hd).c (wV I)):=Br (L:=uT hd) I (λi _=>Rw ht hd i) λm σ k h=>by
 obtain ⟨s,mk,KP,more,e1,e2,c,hm,hi,h⟩:=h;exact adP _ hi
def acp(hd:Hd)(I:Nat):Cx Prop:=⟨cg,[],[],[],λ_ _=>none,[],[(240,Rq (uT hd).B (uT hd).t (uT hd).body (uT hd).c (wV I))]⟩
abbrev af5:Prop:=P1 (∀hd I d mk s K,wO (λ_ _=>bh 0 18) (eO (acp hd I) 60 (fnOf 414)) hd (d+9) [.ref 12,.c (aI mk)] (bS s []) K =
  (((uT hd).t=(uT hd).t/\(uT hd).body=(uT hd).body/\(uT hd).B.fits ⟨(fnOf 414).sc,[],[],hd,d+9⟩/\true=true)/\∀ρ,18=len ρ->bD (bS s []) ρ λσ' _=>lvP I (lvM mk) σ' λs'=>K (.ok (.c .none)) (bS s' [])))
theorem af6:af5:=⟨by intros;kernel_rfl⟩
def Zm:Spec Prop:=λhd dp as σ K=>∃h:Hd×Nat,Rk (λhd=>hd=h.1) 9 (λx:MS×List SV×List SV=>[.ref 12,.c (aI (len x.2.1:Nat))]) (λx=>bS x.1 []) (λx K=>zj x.1 x.2.1 x.2.2/\len x.2.2<h.2/\K (.ok (.c .none)) (bS (dG x.1 x.2.1 x.2.2) [])) hd dp as σ K
theorem lvU{cx:Cx Prop}(ht:cx.top=cg):aJ cx 414 Zm:=.ex λh=>qZ (gH (dN:=acp h.1 h.2) (n:=60) (f:=fnOf 414) (λ_ _=>bh 0 18) (fR ff ff (aaw.2 ⟨XQ rfl h.1 h.2,ff⟩)) (by rw [ht];rfl) (by rw [ht];rfl)) λx hd d K e h2 ρ hl=>by
 subst e;refine .pure ⟨_,.refl _,(af6.1 h.1 h.2 d (len x.2.1:Nat) x.1 _).mpr ⟨⟨rfl,rfl,⟨rfl,rfl,rfl,Nat.le_succ_of_le (aeq 8 d)⟩,rfl⟩,λdS hl2=>pg 0 <|pg 0 <|.pure ?_⟩⟩
 exact ⟨x.1,_,x.2.1,x.2.2,rfl,rfl,h2.1,rfl,h2.2.1,iz h2.2.2⟩
theorem uI{cx:Cx Prop}(ht:cx.top=cg):aV cx 414 (cG i9 Zm):=eg (dN:=cx) (lvU ht) rfl
noncomputable def Dz(n:Nat):Str:=Str.ofString (toString (Int.ofNat n))
def sz2(n:Nat)(q:Prop):Prop:=match Nat.ble 10 n with
 |true=>1+1<aW/\q|false=>q
theorem XR{n:Nat}{q:Prop}(h:q):sz2 n q:=by
 unfold sz2;induction Nat.ble 10 n with
 |true=>exact ⟨by decide,h⟩|false=>exact h
abbrev af8(n:Nat):Prop:=P1 (∀hd d K,wO (λ_ _=>[]) (eO (vv []) 60 (fnOf 28)) hd (d+4) [.c (.int (Int.ofNat n))] [] K=sz2 n (K (.ok (.c (.str (Dz n)))) []))
theorem acq:AP 19 af8:=⟨⟨by intros;kernel_rfl⟩,⟨by intros;kernel_rfl⟩,⟨by intros;kernel_rfl⟩,⟨by intros;kernel_rfl⟩,⟨by intros;kernel_rfl⟩,⟨by intros;kernel_rfl⟩,⟨by intros;kernel_rfl⟩,⟨by intros;kernel_rfl⟩,⟨by intros;kernel_rfl⟩,⟨by intros;kernel_rfl⟩,⟨by intros;kernel_rfl⟩,⟨by intros;kernel_rfl⟩,⟨by intros;kernel_rfl⟩,⟨by intros;kernel_rfl⟩,⟨by intros;kernel_rfl⟩,⟨by intros;kernel_rfl⟩,⟨by intros;kernel_rfl⟩,⟨by intros;kernel_rfl⟩,⟨by intros;kernel_rfl⟩,trivial⟩
noncomputable def Iv(_:aY)(_:aq):Option (cI×mV):=some ([],[])
def XS:Spec Prop:=Rk Io 4 (λm:Nat=>[.c (aI (Int.ofNat m))]) (λ_=>[]) λm K=>m<19/\K (.ok (.c (.at (.str (Dz m))))) []
theorem ntU{cx:Cx Prop}(ht:cx.top=cg):aJ cx 28 XS:=qZ (gH (dN:=vv []) (n:=60) (f:=fnOf 28) (λ_ _=>[]) (fh rfl rfl rfl) (by rw [ht];rfl) (by rw [ht];rfl)) λm hd d K _ h ρ _=>
 .pure ⟨[.c (.int (Int.ofNat m))],.cons (λ_ _ _ q=>q) (.refl _),((AQ acq m h.1).1 hd d _).mpr <|XR λdS _ _=>.pure ⟨_,.ok _ _ (.dP rfl),h.2⟩⟩
theorem DA{cx:Cx Prop}(ht:cx.top=cg):aV cx 28 (cG Iv XS):=eg (dN:=cx) (ntU ht) rfl
structure FR where
 t:Bool
 w:Nat
 line:Int
 fk:az
 piled:Int
 kn:gI
def fr6(f:FR):Lo:=[(S0 "pad",.c (lN f.fk 0)),(S0 "args",.c (lN f.fk 1)),(S0 "want",.c (.int (.ofNat f.w))),(S0 "code",.c (lN f.fk 2)),(S0 "package",.c (.str (S0 "main"))),(S0 "line",.c (aI f.line))]
def frF(f:FR):MO:=match f.t with
 |false=>.inst 624 (fr6 f)|true=>.inst 858 (cat (fr6 f) [(S0 "piled",.c (aI f.piled)),(S0 "weights",.c (.tup [.int 0,.int 0])),(S0 "known",.ref 19)])
def fW(f:FR)(s:MS)(ex:aq):aq:=fE s (jD s.m) (bP s.m s.E) [.ref 18] (frF f::knO f.t f.kn::ex)
def Nh(C:CV)(ak:az)(stk:Nat):MO:=.inst 687 [(S0 "code",.c C),(S0 "frame",.ref 18),(S0 "stack",.ref stk),(S0 "marks",.c (lN ak 0)),(S0 "starts",.c (lN ak 1)),(S0 "loops",.c (lN ak 2))]
structure RC where
 f:FR
 s:MS
 R:az
 U:az
 ak:az
def rW(x:RC):aq:=fW x.f x.s [Nh (eB x.R x.U) x.ak 25,.gone,.gone,.gone,.gone,.list [] [],.gone,.gone]
def rM(x:RC)(i:Int):Lo:=[(S0 "machine",.ref 12),(S0 "act",.ref 20),(S0 "rows",.c (.lst x.R)),(S0 "at",.c (aI i))]
def TG:Expr:=(Ib (fnOf 719).body 2).1
def q7:cL:=(Ib (fnOf 719).body 2).2
noncomputable def XT(k:Nat):aq->Nat
 | []=>26|o::r=>match o with
  |.uU _ _=>k|_=>XT (k+1) r
def rPk(_:Lo)(σ:aq):cI:=cat (bh 0 25) [fG (S0 "stack") σ 20 25,XT 25 (fQ 25 σ),XT 25 (fQ 25 σ)+1]
noncomputable def optN(o:Option Nat):cI:=match o with
 |some n=>[n]|none=>[]
def aga(r:cB)(σ:aq):cI:=cat (bh 0 25) (fG (S0 "stack") σ 20 25::match r with
 |.ret v=>optN (refOf v)|.err n=>n::optN ((xg n σ).bind λx=>(look (S0 "value") x.fs).bind refOf)|_=>[])
def rL(nd:Nat):LP:=⟨⟨(fnOf 719).sc,[],.no,nd⟩,TG,q7,[(S0 "machine",.any),(S0 "act",.any),(S0 "rows",.any),(S0 "at",.any)],rPk,aga,25⟩
def jJ(sp:List (Addr×Spec Prop))(row:CV):Cx Prop:=⟨cg,[(409,10,.bool true),(411,39,row)],[(409,15),(1095,20)],sp,λp _=>aD p.line [(345,false),(780,false)],[],[]⟩
def mF(nd d:Nat)(ρ:bR)(P:Lo->aq->KL->Prop)(cs:List (Cx Prop))(m:Lo)(σ:aq)(k:KL):Prop:=
 vm 150 (λe t body σ _=>Ng (rL nd).ts (rL nd).pick (rL nd).c ρ (λm σ=>P m σ k) e t body σ k) cs ⟨(fnOf 719).sc,[],m,.no,d+nd⟩ TG q7 σ (uG (rL nd).out (rL nd).c ρ k)
def dD(x:RC)(i:Int)(row:CV)(q:Prop):Prop:=len x.R<aW/\fX i (len x.R:Nat)=true/\fX 1000000 (x.s.steps+1)=false/\(0<=i/\i<1000000/\af (bT x.R) i.toNat=some (.c row))/\q
noncomputable def MS.tick(s:MS):MS:={ s with steps:=s.steps+1 }
noncomputable def RC.at(x:RC)(s:MS):RC:=⟨x.f,s,x.R,x.U,x.ak⟩
def RC.tick(x:RC):RC:=x.at x.s.tick
def XU(ks:cI)(ρ:bR)(P:Lo->aq->KL->Prop)(m:Lo)(σ:aq)(k:KL):Prop:=∀dS,Bq (cat (bh 0 25) ks) ρ dS->28=len dS->bD σ dS λσ' _=>P m σ' k
def rS(x:RC)(tl:aY)(B:List (Addr×SC))(ex:aq):aq:=.list x.s.told tl::fQ 1 (fE x.s (jD x.s.m) B [.ref 18] (frF x.f::knO x.f.t x.f.kn::Nh (eB x.R x.U) x.ak 25 :: .gone :: .gone :: .gone :: .gone :: .list [] []::ex))
noncomputable def Bt:aq:=[.gone,.gone]
def TH(x:RC)(i:Int)(a:At)(q:Prop):Prop:=dD x i bV (1<aW/\kM a "list" = false/\0<aW/\1<aW/\len x.s.told+0<aW/\q)
noncomputable def acr(a:At):MV:=.c (.lst [.at a])
def glV(b:Bool)(x:RC):aq:=[.uU (.ref 27) (eX b x.s.m).t,i8 (eX b x.s.m).tn (.c (.aA (eX b x.s.m).tw)) (.at (eX b x.s.m).v)]
noncomputable def spS:List (Addr×Spec Prop):=[(1205,cG i9 FF)]
noncomputable def wW(b:Bool):CV:=Fl (match b with|false=>"main::@" |true=>"main::g")
def acs(ρ:bR)(P:Lo->aq->KL->Prop)(n:Int)(x:RC)(i:Int)(k:KL):Prop:=
 dD x i (cj (aI n)) (0<aW/\TH x.tick (i+1) (.int n) (XU [30,26,27] ρ P (rM x (i+1+1)) (rS x.tick.tick [acr (.int n)] (bP x.s.m x.s.E) Bt) k))
def DB(ρ:bR)(P:Lo->aq->KL->Prop)(b:Bool)(x:RC)(i:Int)(k:KL):Prop:=
 dD x i (wW b) (scV x.s.tick (len x.s.frames+1) b λb y=>0<aW/\dD (x.at y) (i+1) (iU "fetch") (0<aW/\TH (x.at y).tick (i+1+1) (eX b y.m).v (XU [35,30,31] ρ P (rM x (i+1+1+1)) (rS (x.at y).tick.tick [acr (eX b y.m).v] (setAt (bP y.m y.E) (yH b) gW) (glV b (x.at y))) k)))
noncomputable def RC.fr(x:RC)(f:FR):RC:=⟨f,x.s,x.R,x.U,x.ak⟩
def RC.w(x:RC)(t:Bool)(w:Nat):RC:=x.fr ⟨t,w,x.f.line,x.f.fk,x.f.piled,x.f.kn⟩
def RC.t(x:RC)(t:Bool):RC:=x.w t x.f.w
def RC.line(x:RC)(n:Int):RC:=x.fr ⟨x.f.t,x.f.w,n,x.f.fk,x.f.piled,x.f.kn⟩
def XW(ρ:bR)(P:Lo->aq->KL->Prop)(x:RC)(i:Int)(k:KL):Prop:=
 dD x i (iU "wanted") (0<aW/\dD x.tick (i+1) bV (1<aW/\0<aW/\1<aW/\len x.s.told+0<aW/\XU [30,26,27] ρ P (rM x (i+1+1)) (rS x.tick.tick [.c (.lst [Be x.f.w])] (bP x.s.m x.s.E) Bt) k))
def TJ(n:Int):CV:=.tup [.str (S0 "line"),aI n]
def XX(ρ:bR)(P:Lo->aq->KL->Prop)(n:Int)(x:RC)(i:Int)(k:KL):Prop:=
 dD x i (TJ n) (XU [25,26,27] ρ P (rM x (i+1)) (rW (x.tick.line n)) k)
def Ni(ρ:bR)(P:Lo->aq->KL->Prop)(n:Int)(x:RC)(i:Int)(k:KL)(b:Bool)(y:MS):Prop:=1<aW/\dD (x.at y) (i+1+1) (iU "assign") (2<aW/\0<aW/\dD (x.at y).tick (i+1+1+1) (iU "drop") (XU [34,30,31] ρ P (rM x (i+1+1+1+1))
 (rS (x.at y).tick.tick [] (setAt (bP y.m y.E) (yH b) gW) [.uU (.ref 27) (eX b y.m).t,i8 (eX b y.m).tn (.c (.aA (eX b y.m).tw)) (aI n)]) k))
def acu(ρ:bR)(P:Lo->aq->KL->Prop)(n:Int)(x:RC)(i:Int)(k:KL):Prop:=
 dD x i (cj (aI n)) (0<aW/\dD x.tick (i+1) (wW true) (scV x.s.tick.tick (len x.s.frames+1) true (Ni ρ P n x i k)))
def agb(n:Int)(q:Nat->Prop):Prop:=true=true/\true=true/\((Nat->az)->True->∃m,True/\true=true/\[MV.c (aI n)]=[.c (aI (Int.ofNat m))]/\([]:aq)=[]/\m<19/\True/\q m)
def uJ(s:String)(m:Nat):Str:=S0 s++S0 " at line " ++ Dz m++S0 ".\n"
def Rx(s:String)(n:Int)(q:Nat->Prop):Prop:=(S0 s).cps.size+(S0 " at line ").cps.size<aW/\agb n λm=>(S0 s++S0 " at line ").cps.size+(Dz m).cps.size<aW/\(S0 s++S0 " at line " ++ Dz m).cps.size+(S0 ".\n").cps.size<aW/\q m
def XY(j:Nat)(n:Int)(q:CV->Prop):Prop:=match j with
 |0=>Rx "oh" n λm=>q (.at (.str (uJ "oh" m)))|j+1=>match j with
  |0=>q (.str (S0 "oh\n"))|j+1=>match j with
   |0=>q (.int 7)|_+1=>Rx "no" n λm=>q (.at (.str (uJ "no" m)))
def XZ(ks:cI)(ρ:bR)(r:cB)(σ:aq)(k:KL):Prop:=∀dS,Bq (cat (bh 0 25) ks) ρ dS->len σ=len dS->bD σ dS λσ' _=>(∀n,r =.err n->eL σ' n)/\k (r,[]) σ'
noncomputable def Iw(v:CV):MO:=.exc 486 [(S0 "text",.c (.str (S0 "died"))),(S0 "value",.c v)] true true
def acv(ρ:bR)(j:Nat)(x:RC)(i:Int)(k:KL):Prop:=
 dD x i (cj (qc j)) (0<aW/\dD x.tick (i+1) WI (1<aW/\0<aW/\XY j x.f.line λv=>XZ [30,31] ρ (.err 26) (rS x.tick.tick [] (bP x.s.m x.s.E) [Iw v]) k))
def Iz(w:Nat)(v:Int)(n:Nat):MV:=match w with
 |0=>.c .none|w+1=>match w with
  |0=>.c (aI v)|_+1=>.ref n
def IA(w:Nat)(v:Int):aq:=match w with
 |0=>[]|w+1=>match w with
  |0=>[]|_+1=>[.list [] [.c (aI v)]]
noncomputable def X0(v:MV):MO:=.exc 524 [(S0 "text",.c (.str (S0 "no sub to return from"))),(S0 "value",v)] true true
def Nj(r:Bool)(w:Nat)(v:Int):cB:=match r with
 |false=>.ret (Iz w v 26)|true=>.err 26
def Nk(r:Bool)(w:Nat)(v:Int):aq:=match r with
 |false=>IA w v|true=>X0 (Iz w v 27)::IA w v
noncomputable def agc(r:Bool)(w:Nat):cI:=match r with
 |false=>match w with
  |0=>[25]|w+1=>match w with
   |0=>[25]|_+1=>[25,28]
 |true=>match w with
  |0=>[25,28]|w+1=>match w with
   |0=>[25,28]|_+1=>[25,29,28]
def X3(ρ:bR)(r:Bool)(w:Nat)(v:Int)(x:RC)(k:KL):Prop:=XZ (agc r w) ρ (Nj r w v) (rS x.tick [] (bP x.s.m x.s.E) (Nk r w v)) k
def Nl(ρ:bR)(r:Bool)(w:Nat)(v:Int)(x:RC)(i:Int)(k:KL):Prop:=match w with
 |0=>dD x i (jk 0 r) (X3 ρ r 0 v x k)|w+1=>dD x i (cj (aI v)) (0<aW/\match w with
  |0=>dD x.tick (i+1) (jk 1 r) (X3 ρ r 1 v x.tick k)|_+1=>dD x.tick (i+1) (iU "wrap") (0<aW/\dD x.tick.tick (i+1+1) (jk 2 r) (X3 ρ r 2 v x.tick.tick k)))
def TM(r:Bool)(w:Nat)(v:Int):List (Cx Prop):=match w with
 |0=>[jJ [] (jk 0 r)]|w+1=>match w with
  |0=>[jJ [] (cj (aI v)),jJ [] (jk 1 r)]|_+1=>[jJ [] (cj (aI v)),jJ [] (iU "wrap"),jJ [] (jk 2 r)]
def acw(s:MS)(n:Nat)(G:MS->Prop):Prop:=true=true/\true=true/\∀X:Nat->az,(len (X 16)=n/\True)->∃x:MS,True/\true=true/\[MV.ref 12,.c (.str nG)]=[.ref 12,.c (.str nG)]/\bS (s.fr (X 16)) []=bS x []/\len x.E<aW/\∀a w t tw t2 kJ,((pA (cN true x a w t tw) t2 kJ).frames=X 16/\True)/\G ((pA (cN true x a w t tw) t2 kJ).fr s.frames)
def acy(ρ:bR)(P:Lo->aq->KL->Prop)(n:Int)(x:RC)(i:Int)(k:KL):Prop:=
 dD x i (cj (aI n)) (0<aW/\dD x.tick (i+1) (C5 "main::g") (acw x.s.tick.tick (len x.s.frames+1) (Ni ρ P n x i k true)))
abbrev acz(t:Bool):Prop:=P6 (∀nd d ρ P n x i k,mF (nd+20) d ρ P [jJ [] (cj (aI n)),jJ [] bV] (rM (RC.t x t) i) (rW (RC.t x t)) k=acs ρ P n (RC.t x t) i k) (∀nd d ρ P x i k,mF (nd+20) d ρ P [jJ spS (wW false),jJ [] (iU "fetch"),jJ [] bV] (rM (RC.t x t) i) (rW (RC.t x t)) k=DB ρ P false (RC.t x t) i k) (∀nd d ρ P x i k,mF (nd+20) d ρ P [jJ spS (wW true),jJ [] (iU "fetch"),jJ [] bV] (rM (RC.t x t) i) (rW (RC.t x t)) k=DB ρ P true (RC.t x t) i k) (∀nd d ρ P n x i k,mF (nd+20) d ρ P [jJ [] (TJ n)] (rM (RC.t x t) i) (rW (RC.t x t)) k=XX ρ P n (RC.t x t) i k) (∀nd d ρ P n x i k,mF (nd+20) d ρ P [jJ [] (cj (aI n)),jJ [(301,cG i9 Nd)] (C5 "main::g"),jJ [] (iU "assign"),jJ [] (iU "drop")] (rM (RC.t x t) i) (rW (RC.t x t)) k=acy ρ P n (RC.t x t) i k) (∀nd d ρ P n x i k,mF (nd+20) d ρ P [jJ [] (cj (aI n)),jJ spS (wW true),jJ [] (iU "assign"),jJ [] (iU "drop")] (rM (RC.t x t) i) (rW (RC.t x t)) k=acu ρ P n (RC.t x t) i k)
abbrev acA(t:Bool)(j:Nat):Prop:=P1 (∀nd d ρ P x i k,mF (nd+20) d ρ P [jJ [] (cj (qc j)),jJ [(28,cG Iv XS)] WI] (rM (RC.t x t) i) (rW (RC.t x t)) k=acv ρ j (RC.t x t) i k)
abbrev acB(t r:Bool)(w:Nat):Prop:=P1 (∀nd d ρ P v x i k,mF (nd+20) d ρ P (TM r w v) (rM (RC.t x t) i) (rW (RC.t x t)) k=Nl ρ r w v (RC.t x t) i k)
abbrev X4(t:Bool)(w:Nat):Prop:=P1 (∀nd d ρ P x i k,mF (nd+20) d ρ P [jJ [] (iU "wanted"),jJ [] bV] (rM (RC.w x t w) i) (rW (RC.w x t w)) k=XW ρ P (RC.w x t w) i k)
theorem acC(t:Bool){w:Nat}(h:w<3):X4 t w:=by
 cases t
 ·exact dB ⟨by intros;kernel_rfl⟩ ⟨by intros;kernel_rfl⟩ ⟨by intros;kernel_rfl⟩ h
 ·exact dB ⟨by intros;kernel_rfl⟩ ⟨by intros;kernel_rfl⟩ ⟨by intros;kernel_rfl⟩ h
theorem IB(t:Bool):acz t:=by
 cases t
 ·exact ⟨by intros;kernel_rfl,by intros;kernel_rfl,by intros;kernel_rfl,by intros;kernel_rfl,by intros;kernel_rfl,by intros;kernel_rfl⟩
 ·exact ⟨by intros;kernel_rfl,by intros;kernel_rfl,by intros;kernel_rfl,by intros;kernel_rfl,by intros;kernel_rfl,by intros;kernel_rfl⟩
theorem agd(t:Bool){j:Nat}(h:j<4):acA t j:=by
 cases t
 ·exact lM ⟨by intros;kernel_rfl⟩ ⟨by intros;kernel_rfl⟩ ⟨by intros;kernel_rfl⟩ ⟨by intros;kernel_rfl⟩ h
 ·exact lM ⟨by intros;kernel_rfl⟩ ⟨by intros;kernel_rfl⟩ ⟨by intros;kernel_rfl⟩ ⟨by intros;kernel_rfl⟩ h
theorem acD(t r:Bool){w:Nat}(h:w<3):acB t r w:=by
 cases t<;>cases r<;>exact dB ⟨by intros;kernel_rfl⟩ ⟨by intros;kernel_rfl⟩ ⟨by intros;kernel_rfl⟩ h
inductive RO where
 |fin (r:Bool) (w:Nat) (v:Int)|mP (d:DV)
def gvR(o:RO):Ex MV:=match o with
 |.fin r w v=>match r with
  |false=>.ok (Iz w v 20)|true=>.error 20
 |.mP _=>.error 20
def gvX(o:RO):aq:=match o with
 |.fin r w v=>match r with
  |false=>IA w v|true=>X0 (Iz w v 21)::IA w v
 |.mP d=>[Iw (o8 d)]
structure GX where
 s:MS
 line:Int
 fk:az
 piled:Int
 kn:gI
noncomputable def GX.f(y:GX)(t:Bool)(w:Nat)(line:Int)(kn:gI):FR:=⟨t,w,line,y.fk,y.piled,kn⟩
abbrev GQ:=GX->MS->Int->gI->Prop
structure GP where
 nd:Nat
 t:Bool
 w:Nat
 code:CV
 e:Nat
 C:GX->Prop
 Q:GQ
def Of(p:GP)(o:RO):Spec Prop:=λhd dp as σ K=>∃y:GX,hd =.no/\p.nd+20<=dp/\as=[.ref 12,.c p.code,.c (.int (.ofNat p.e))]/\σ=fW (y.f p.t p.w y.line y.kn) y.s []/\p.C y/\∀s' aF dc,p.Q y s' aF dc->K (gvR o) (fW (y.f p.t p.w aF dc) s' (gvX o))
def FT(σ:aq):Nat:=(((af σ 16).bind AH).bind λp=>(af p.2 0).bind refOf).getD 18
def pB(_:aY)(σ:aq):Option (cI×mV):=some (cat (bh 0 18) [FT σ,fG (S0 "known") σ (FT σ) 19],[(16,1)])
def FU(s:MS)(n:Nat)(c:CV)(G:MS->Prop):Prop:=true=true/\true=true/\∀X:Nat->az,(len (X 16)=n/\True)->∃x:MS×CV×At,True/\true=true/\[MV.ref 12,.c c]=[.ref 12,.c x.2.1]/\bS (s.fr (X 16)) []=bS x.1 []/\dP x.2.1=some x.2.2/\∀a w t tw,((vS false (cN false x.1 a w t tw) x.2.2).frames=X 16/\True)/\G ((vS false (cN false x.1 a w t tw) x.2.2).fr s.frames)
def wX(hd:Hd)(s:MS)(n:Nat)(mk:Int)(G:MS->Prop):Prop:=true=true/\true=true/\∀X:Nat->az,(len (X 16)=n/\True)->∃h:Hd×Nat,∃x:MS×List SV×List SV,hd=h.1/\true=true/\[MV.ref 12,.c (aI mk)]=[.ref 12,.c (aI (len x.2.1:Nat))]/\bS (s.fr (X 16)) []=bS x.1 []/\zj x.1 x.2.1 x.2.2/\len x.2.2<h.2/\((dG x.1 x.2.1 x.2.2).frames=X 16/\True)/\G ((dG x.1 x.2.1 x.2.2).fr s.frames)
def gvV(p:GP)(f:FR)(s:MS)(n dp:Nat)(G:GX->MS->Int->gI->Prop):Prop:=true=true/\true=true/\∀X:Nat->az,(len (X 16)=n/\True)->∃y:GX,Hd.no=Hd.no/\p.nd+20<=dp/\[MV.ref 12,.c p.code,.c (.int (.ofNat p.e))]=[.ref 12,.c p.code,.c (.int (.ofNat p.e))]/\fW f (s.fr (X 16)) []=fW (y.f p.t p.w y.line y.kn) y.s []/\p.C y/\
 ∀s' aF dc,p.Q y s' aF dc->(s'.frames=X 16/\True)/\G y (s'.fr s.frames) aF dc
noncomputable def spE(p:GP)(o:RO):List (Addr×Spec Prop):=[(1155,cG i9 Zl),(1247,cG pB (Of p o)),(414,cG i9 Zm),(28,cG Iv XS)]
def X5(sp:List (Addr×Spec Prop))(row:CV)(T8:List (Nat×Nat×CV))(ora:List (Nat×Bool)):Cx Prop:=⟨cg,(409,10,.bool true)::(411,39,row)::(340,7,.bool true)::(340,34,.bool false)::T8,[(409,15),(679,11),(752,11)],sp,λp _=>aD p.line ((345,false)::ora),[],[]⟩
def evH(w:Nat)(o:Option Int)(q:Prop):Prop:=match w with
 |0=>match o with
  |none=>0<aW/\1<aW/\q|some v=>kM (.int v) "list" = false/\0<aW/\1<aW/\q
 |_+1=>match o with
  |none=>0<aW/\0<aW/\q|some _=>1<aW/\1<aW/\q
def DC(ρ:bR)(P:Lo->aq->KL->Prop)(w:Nat)(o:Option Int)(tl:aY)(ks:Nat)(x:RC)(i:Int)(k:KL):Prop:=match w with
 |0=>XU [25,26,27] ρ P (rM x (i+1)) (rS x [] (bP x.s.m x.s.E) Bt) k|w+1=>0<aW/\dD x (i+1) bV (1<aW/\evH w o (len x.s.told+0<aW/\XU [ks,26,27] ρ P (rM x (i+1+1)) (rS x.tick tl (bP x.s.m x.s.E) Bt) k))
def IC(U:az)(n:Nat)(code:CV):Prop:=0<=idx n/\idx n<1000000/\af (bT U) (idx n).toNat=some (.c code)
def DE(s:MS):Int:=(len (bI s.E)+0:Nat)
noncomputable def bN(r:Bool):Nat:=match r with
 |false=>0|true=>1
def acF(ρ:bR)(P:Lo->aq->KL->Prop)(p:GP)(d:Nat)(n v:Nat)(r:Bool)(x:RC)(i:Int)(k:KL):Prop:=
 dD x i (iV n p.e) (IC x.U n p.code/\FU x.s.tick (len x.s.frames+1) (.str (S0 "")) λy1=>len (bI y1.E)+0<aW/\gvV p ⟨p.t,p.e,x.f.line,x.f.fk,x.f.piled,x.f.kn⟩ y1 (len y1.frames+0) (d+(p.nd+25)) λy s2 _ zk=>
  wX .no s2 (len s2.frames+1) (DE y1) λy3=>wX .no y3 (len y3.frames+1) (DE y1) λy4=>FU y4 (len y4.frames+1) (.str (S0 "")) λy5=>DC ρ P p.e (some v) [.c (.lst [aI v])] (32+2*p.e+bN r) ⟨⟨p.t,x.f.w,x.f.line,y.fk,y.piled,zk⟩,y5,x.R,x.U,x.ak⟩ i k)
def Zn(d:DV)(q:Prop):Prop:=match d with
 |.t s=>kM (.str s) "str" = true/\s.cps.size<aW/\(!(mW (.str (PySem.Txt.slice s (some (-1)) none)) (.str (S0 "\n"))))=false/\q|.l _=>q|.n _=>q
def wY(w:Nat):az:=match w with
 |0=>[]|w+1=>Tf w
def agg(ρ:bR)(P:Lo->aq->KL->Prop)(p:GP)(d n:Nat)(dv:DV)(x:RC)(i:Int)(k:KL):Prop:=
 dD x i (iV n p.e) (IC x.U n p.code/\FU x.s.tick (len x.s.frames+1) (.str (S0 "")) λy1=>len (bI y1.E)+0<aW/\gvV p ⟨p.t,p.e,x.f.line,x.f.fk,x.f.piled,x.f.kn⟩ y1 (len y1.frames+0) (d+(p.nd+25)) λy s2 _ zk=>
  wX .other s2 (len s2.frames+1) (DE y1) λy3=>Zn dv (FU y3 (len y3.frames+1) (o8 dv) λy4=>wX .no y4 (len y4.frames+1) (DE y1) λy5=>DC ρ P p.e none [.c (.lst (wY p.e))] (33+p.e) ⟨⟨p.t,x.f.w,x.f.line,y.fk,y.piled,zk⟩,y5,x.R,x.U,x.ak⟩ i k))
def FW(p:GP)(o:RO)(n:Nat):List (Cx Prop):=match p.e with
 |0=>[X5 (spE p o) (iV n p.e) [(786,11,p.code)] []]|_+1=>[X5 (spE p o) (iV n p.e) [(786,11,p.code)] [],jJ [] bV]
abbrev acG(t r:Bool)(w:Nat):Prop:=P1 (∀nd d ρ P n (v:Nat) C Q R U x i k,mF (nd+30) d ρ P (FW ⟨nd,t,w,eB R U,w,C,Q⟩ (.fin r w v) n) (rM (RC.t x t) i) (rW (RC.t x t)) k=acF ρ P ⟨nd,t,w,eB R U,w,C,Q⟩ d n v r (RC.t x t) i k)
abbrev FY(t:Bool)(dv:DV)(w:Nat):Prop:=P1 (∀nd d ρ P n C Q R U x i k,mF (nd+30) d ρ P (FW ⟨nd,t,w,eB R U,w,C,Q⟩ (.mP dv) n) (rM (RC.t x t) i) (rW (RC.t x t)) k=agg ρ P ⟨nd,t,w,eB R U,w,C,Q⟩ d n dv (RC.t x t) i k)
def atI(v:MV):MV:=match v with
 |.c c=>match b8 c with
  |some n=>.c (aI n.1)|none=>.c c
 |v=>v
def acI(keep:cI)(A:Nat->Addr)(x:Str)(v:MV):MV:=match refOf v with
 |some n=>match bA keep n with
  |some _=>v|none=>.c (.aA (A n))
 |none=>match cD x "piled" ||cD x "line" with
  |true=>atI v|false=>v
noncomputable def X6(keep:cI)(A:Nat->Addr):Lo->Lo
 | []=>[]|p::l=>(p.1,acI keep A p.1 p.2)::X6 keep A l
def acJ(sl:aY->aq->Nat×cI)(C:Spec Prop):Spec Prop:=λhd dp as σ K=>pK ((af σ (sl as σ).1).bind yd) λp=>∀A,C hd dp as (setAt σ (sl as σ).1 (.inst p.1 (X6 (sl as σ).2 A p.2))) K
theorem Nm{ρ:bR}{v:MV}:cR ρ v (atI v):=by
 induction v using MV.casesOn with
 |c c=>
  show cR ρ (.c c) (match b8 c with|some n=>.c (aI n.1)|none=>.c c)
  induction e:b8 c with
  |none=>exact .refl _|some n=>exact .at e
 |_=>exact .refl _
theorem FZ{ρ:bR}{keep:cI}:∀l:Lo,eT ρ l (X6 keep (λn=>(af ρ n).getD 0) l)
 | []=>.nil|p::l=>.cons _ _ _ _ _ (by
   unfold acI;induction e:refOf p.2 with
   |none=>
    show cR ρ p.2 (match cD p.1 "piled" ||cD p.1 "line" with|true=>atI p.2|false=>p.2)
    induction cD p.1 "piled" ||cD p.1 "line" with
    |true=>exact Nm|false=>exact .refl _
   |some n=>
    show cR ρ p.2 (match bA keep n with|some _=>p.2|none=>.c (.aA ((af ρ n).getD 0)))
    induction bA keep n with
    |some _=>exact .refl _|none=>
     rw [ou e];exact λW x q h=>iw.casesOn h λa ha=>by rw [← q,ha];rfl) (FZ l)
theorem X7{cx:Cx Prop}{a:Addr}{C:Spec Prop}{sl:aY->aq->Nat×cI}(H:aV cx a C):aV cx a (acJ sl C):=λF as aj S dp fK o hv k R h ok er=>bZ h λp e h=>bind_some e λc e1 e2=>by
 rw [AN e2] at e1;refine bD.of o (P:=λσ' _=>σ'=_) (λhl=>.inst (i:=(sl as S.σ).1) e1 (FZ (keep:=(sl as S.σ).2) p.2) rfl) λW' σ' n z=>?_;subst z;exact H F as aj ⟨W',_,S.s⟩ dp fK n.2 (hv.up n.1.1) k R (h _) (λS' b v n' q h=>ok S' b v (n.trans n') q h) λS' m b n' q1 q2 h=>er S' m b (n.trans n') q1 q2 h
theorem agh(t r:Bool){w:Nat}(h:w<3):acG t r w:=by
 cases t<;>cases r<;>exact dB ⟨by intros;kernel_rfl⟩ ⟨by intros;kernel_rfl⟩ ⟨by intros;kernel_rfl⟩ h
inductive DF:DV->Prop
 |t (s:Str):DF (.t s)|l:DF (.l (S0 "oh\n"))|n (i:Int):DF (.n i)
theorem acK(t:Bool){w:Nat}(s:Str)(h:w<3):FY t (.t s) w:=by
 cases t<;>exact dB ⟨by intros;kernel_rfl⟩ ⟨by intros;kernel_rfl⟩ ⟨by intros;kernel_rfl⟩ h
theorem acL(t:Bool){w:Nat}(h:w<3):FY t (.l (S0 "oh\n")) w:=by
 cases t<;>exact dB ⟨by intros;kernel_rfl⟩ ⟨by intros;kernel_rfl⟩ ⟨by intros;kernel_rfl⟩ h
theorem acM(t:Bool){w:Nat}(s:Int)(h:w<3):FY t (.n s) w:=by
 cases t<;>exact dB ⟨by intros;kernel_rfl⟩ ⟨by intros;kernel_rfl⟩ ⟨by intros;kernel_rfl⟩ h
theorem acN(t:Bool){w:Nat}{dv:DV}(h:w<3)(q:DF dv):FY t dv w:=q.casesOn (λs=>acK t s h) (acL t h) λi=>acM t i h
def arV(s:MS)(n:Nat)(G:MS->Prop):Prop:=true=true/\true=true/\∀X:Nat->az,(len (X 16)=n/\True)->∃x:MS,True/\true=true/\[MV.ref 10,.c (.str nU)]=[.ref 10,.c (.str nU)]/\bS (s.fr (X 16)) []=bS x []/\∀a w t tw it,((qi x a w t tw it).frames=X 16/\True)/\G ((qi x a w t tw it).fr s.frames)
def laV(s:MS)(n:Nat)(u:Addr)(G:MS->Prop):Prop:=true=true/\true=true/\∀X:Nat->az,(len (X 16)=n/\True)->∃x:MS,True/\true=true/\[MV.ref 12,.c (.aA u)]=[.ref 12,.c (.aA (uD x.m).t)]/\bS (s.fr (X 16)) []=bS x []/\bf x.m.u=true/\len x.E<aW/\((Dt x).frames=X 16/\True)/\G ((Dt x).fr s.frames)
def agi(_:aY)(σ:aq):Nat×cI:=(FT σ,[fG (S0 "known") σ (FT σ) 19])
noncomputable def spT(p:GP)(o:RO):List (Addr×Spec Prop):=[(1155,cG i9 Zl),(1247,acJ agi (cG pB (Of p o))),(414,cG i9 Zm),(28,cG Iv XS),(1212,cG i9 M7),(1141,cG i9 Xw)]
def Ry(j:Nat):Str:=Str.ofString (toString (idx j))
def agj(x:RC)(i:Int)(j e:Nat)(q:Prop):Prop:=dD x i (cj (C6 j)) (0<aW/\dD x.tick (i+1) (jW e) (DT (.str (Ry j))=false/\kM (.str (Ry j)) "int" = false/\q))
def rdH(t:Bool)(piled:Int)(s:Str)(q:Prop):Prop:=s.cps.size<aW/\fX 880 ((match t with|false=>4|true=>piled+0+4)+(match fX 500 (5*s.cps.size) with|true=>500|false=>5*s.cps.size))=false/\q
def rdT(j:Nat)(T:az)(code:CV)(q:Prop):Prop:=mW (.str (Ry j)) (.str (S0 "no program"))=false/\(0<=idx j/\idx j<100/\Ry j=Str.ofString (toString (idx j)))/\(0<=idx j/\idx j<1000000/\af (cat (bT T) []) (idx j).toNat=some (.c code))/\q
noncomputable def MS.made(s:MS):MS:={ s with last:=s.last+1,zero:=s.zero+1 }
noncomputable def acO:CV:=.tup [.int 0,.int 0]
def TN(t:Bool)(piled n:Int)(kn:gI)(q:Prop):Prop:=match t with
 |false=>q|true=>(!(decide (n∈kn)))=true/\(acO=acO/\len kn<900)/\n∈n::kn/\fX 880 (piled+0+4+0+10)=false/\q
def TP(t:Bool)(n:Int)(kn:gI)(q:Prop):Prop:=0<aW/\(0<=(0:Int)/\(0:Int)<aW)/\match t with
 |false=>n∈[n]/\q|true=>(!(decide (n∈n::kn)))=false/\n∈n::kn/\q
noncomputable def Rz(t:Bool)(piled:Int):Int:=match t with
 |false=>4|true=>piled+0+4
noncomputable def knT(t:Bool)(n:Int)(kn:gI):gI:=match t with
 |false=>[n]|true=>n::kn
def RA(p:GP)(j:Nat)(t:Bool)(x:RC)(i:Int)(q:MS->MS->Prop):Prop:=
 agj x i j p.e (FU x.s.tick.tick (len x.s.frames+1) (.str (S0 "")) λy1=>len (bI y1.E)+0<aW/\rdH t x.f.piled (Ry j) (rdT j y1.texts p.code (y1.zero<aW/\arV y1.made (len y1.frames+1) λy2=>len y2.frames+1<aW/\q y1 y2)))
def X8(p:GP)(d:Nat)(t:Bool)(x:RC)(y1 y2:MS)(q:GX->MS->gI->Prop):Prop:=
 fX y2.depth (len y2.frames+1:Nat)=false/\TN t x.f.piled y1.made.last x.f.kn (TP t y1.made.last x.f.kn (len (bI y2.E)+0<aW/\len y2.frames+1<aW/\
  laV y2 (len y2.frames+2) (uD y2.m).t λy3=>∀A:Nat->Addr,gvV p ⟨true,p.e,x.f.line,[.aA (A 35),.aA (uD y2.m).t,.aA (A 32)],Rz t x.f.piled,knT t y1.made.last x.f.kn⟩ y3 (len y3.frames+1) (d+(p.nd+23)) λy s4 _ zk=>q y s4 zk))
noncomputable def knE(t:Bool)(a b:gI):gI:=match t with
 |false=>a|true=>b
def acP(ρ:bR)(P:Lo->aq->KL->Prop)(p:GP)(d:Nat)(j v:Nat)(r t:Bool)(x:RC)(i:Int)(k:KL):Prop:=
 RA p j t x i λy1 y2=>X8 p d t x y1 y2 λy s4 zk=>wX .no s4 (len s4.frames+2) (DE y2) λy5=>y5.zero<aW/\wX .no (y5.zz (y5.zero+1)) (len y5.frames+1) (DE y1) λy6=>wX .no y6 (len y6.frames+1) (DE y1) λy7=>FU y7 (len y7.frames+1) (.str (S0 "")) λy8=>
  DC ρ P p.e (some v) [.c (.lst [aI v])] (39+3*p.e+bN r) ⟨⟨t,x.f.w,x.f.line,x.f.fk,x.f.piled,knE t x.f.kn zk⟩,y8,x.R,x.U,x.ak⟩ (i+1) k
def agl(ρ:bR)(P:Lo->aq->KL->Prop)(p:GP)(d:Nat)(j:Nat)(dv:DV)(t:Bool)(x:RC)(i:Int)(k:KL):Prop:=
 RA p j t x i λy1 y2=>X8 p d t x y1 y2 λy s4 zk=>wX .other s4 (len s4.frames+2) (DE y2) λy5=>y5.zero<aW/\wX .other (y5.zz (y5.zero+1)) (len y5.frames+1) (DE y1) λy6=>Zn dv (FU y6 (len y6.frames+1) (o8 dv) λy7=>wX .no y7 (len y7.frames+1) (DE y1) λy8=>
  DC ρ P p.e none [.c (.lst (wY p.e))] (40+p.e) ⟨⟨t,x.f.w,x.f.line,x.f.fk,x.f.piled,knE t x.f.kn zk⟩,y8,x.R,x.U,x.ak⟩ (i+1) k)
def agm(ρ:bR)(P:Lo->aq->KL->Prop)(p:GP)(j:Nat)(t:Bool)(x:RC)(i:Int)(k:KL):Prop:=
 RA p j t x i λy1 y2=>fX y2.depth (len y2.frames+1:Nat)=true/\wX .other y2 (len y2.frames+1) (DE y1) λy3=>Rx "Deep recursion" x.f.line λm=>FU y3 (len y3.frames+1) (.at (.str (uJ "Deep recursion" m))) λy4=>wX .no y4 (len y4.frames+1) (DE y1) λy5=>
  DC ρ P p.e none [.c (.lst (wY p.e))] (36+p.e) ⟨⟨t,x.f.w,x.f.line,x.f.fk,x.f.piled,x.f.kn⟩,y5,x.R,x.U,x.ak⟩ (i+1) k
def rdN(t:Bool)(piled:Int)(q:Prop):Prop:=match t with
 |false=>q|true=>fX 880 (piled+0+4+50)=false/\q
def acQ(ρ:bR)(P:Lo->aq->KL->Prop)(e:Nat)(t:Bool)(x:RC)(i:Int)(k:KL):Prop:=
 dD x i (cj (.str (S0 "no program"))) (0<aW/\dD x.tick (i+1) (jW e) (FU x.s.tick.tick (len x.s.frames+1) (.str (S0 "")) λy1=>len (bI y1.E)+0<aW/\10<aW/\rdN t x.f.piled (4+9<aW/\13+1<aW/\14+2<aW/\wX .other y1 (len y1.frames+1) (DE y1) λy3=>FU y3 (len y3.frames+1) (.str (S0 "what at line 5.\n")) λy4=>wX .no y4 (len y4.frames+1) (DE y1) λy5=>
  DC ρ P e none [.c (.lst (wY e))] (34+e) ⟨⟨t,x.f.w,x.f.line,x.f.fk,x.f.piled,x.f.kn⟩,y5,x.R,x.U,x.ak⟩ (i+1) k)))
def cxT(p:GP)(o:RO)(j:Nat)(dp:Bool)(t:Bool):List (Cx Prop):=
 let c:Cx Prop:=⟨cg,[(409,10,.bool true),(411,39,jW p.e),(340,7,.bool true),(340,34,.bool false),(1103,15,aI (idx j)),(1106,15,p.code),(660,7,.bool dp)],[(409,15),(679,11),(752,11),(660,7)],spT p o,λq σ=>match aD q.line [(345,false),(122,false),(124,false),(526,false),(1101,false),(515,false)] with
  |some b=>some b|none=>match Nat.beq q.line 506 with
   |true=>some (Nat.ble (len σ) 36)|false=>none,[],[]⟩
 match p.e with
 |0=>[jJ [] (cj (C6 j)),c]|_+1=>[jJ [] (cj (C6 j)),c,jJ [] bV]
def Yb(w:Nat):List (Cx Prop):=
 let c:Cx Prop:=⟨cg,[(409,10,.bool true),(411,39,jW w)],[(409,15),(679,11)],[(1155,cG i9 Zl),(414,cG i9 Zm)],λq _=>aD q.line [(345,false),(526,false)],[],[]⟩
 match w with
 |0=>[jJ [] (cj (.str (S0 "no program"))),c]|_+1=>[jJ [] (cj (.str (S0 "no program"))),c,jJ [] bV]
abbrev acS(t r:Bool)(w:Nat):Prop:=P1 (∀nd d ρ P j (v:Nat) C Q R U x i k,mF (nd+30) d ρ P (cxT ⟨nd,true,w,eB R U,w,C,Q⟩ (.fin r w v) j false t) (rM (RC.t x t) i) (rW (RC.t x t)) k=acP ρ P ⟨nd,true,w,eB R U,w,C,Q⟩ d j v r t (RC.t x t) i k)
abbrev F0(t:Bool)(dv:DV)(w:Nat):Prop:=P1 (∀nd d ρ P j C Q R U x i k,mF (nd+30) d ρ P (cxT ⟨nd,true,w,eB R U,w,C,Q⟩ (.mP dv) j false t) (rM (RC.t x t) i) (rW (RC.t x t)) k=agl ρ P ⟨nd,true,w,eB R U,w,C,Q⟩ d j dv t (RC.t x t) i k)
abbrev acT(t:Bool)(w:Nat):Prop:=P1 (∀nd d ρ P j C Q R U x i k,mF (nd+30) d ρ P (cxT ⟨nd,true,w,eB R U,w,C,Q⟩ (.mP (.n 0)) j true t) (rM (RC.t x t) i) (rW (RC.t x t)) k=agm ρ P ⟨nd,true,w,eB R U,w,C,Q⟩ j t (RC.t x t) i k)
abbrev acU(t:Bool)(w:Nat):Prop:=P1 (∀nd d ρ P x i k,mF (nd+30) d ρ P (Yb w) (rM (RC.t x t) i) (rW (RC.t x t)) k=acQ ρ P w t (RC.t x t) i k)
noncomputable def gv(o:Option GL):At:=match o with
 |some x=>x.v|none=>.none
noncomputable def kV:List SV->List At
 | []=>[]|e::r=>match e.sc with
  |true=>e.v::kV r|false=>kV r
inductive eK(s:MS)(line:Int)(g:GS):Prop
 |mk (told:eG s.told=eG g.told) (okd:kN s.told=true) (flt:dP g.fault=some (gv s.m.a)) (gg:dP g.g=some (gv s.m.g)) (kept:g.kept.map dP=(kV s.E).map some) (line:line=g.line) (ok:FP s.m s.E)
inductive Bd(n:Nat)(s:MS)(kn:gI):Prop
 |mk (st:s.steps+n<=900000) (ze:s.zero+len s.E+n<=900000) (to:len s.told+n<=900000) (ku:6*len kn+n<=5400) (kl:∀k∈kn,k<=s.last)
inductive Kp(s s':MS):Prop
 |mk (fr:s'.frames=s.frames) (tx:s'.texts=s.texts) (de:s'.depth=s.depth) (la:s.last<=s'.last)
section
variable{s s' s2:MS}{n:Nat}{kn:gI}{line:Int}{g:GS}{c:CV}{v:At}{b:Bool}{a w t tw it:Addr}
theorem Kp.refl:Kp s s:=⟨rfl,rfl,rfl,aen _⟩
theorem Kp.trans(h:Kp s s')(q:Kp s' s2):Kp s s2:=h.casesOn λa1 a2 a3 a4=>q.casesOn λb1 b2 b3 b4=>⟨b1.trans a1,b2.trans a2,b3.trans a3,agV a4 b4⟩
theorem Bd.le{m:Nat}(h:Bd n s kn)(k:m<=n):Bd m s kn:=h.casesOn λa b c d e=>⟨by lia,aco (adL k _) b,aco (adL k _) c,aco (adL k _) d,e⟩
theorem Bd.tick(h:Bd (n+1) s kn):Bd n s.tick kn:=h.casesOn λa b c d e=>⟨by show s.steps+1+(n:Int)<=_;lia,acH b,acH c,acH d,e⟩
def MS.tell(s:MS)(c:CV):MS:={ s with told:=app s.told c }
theorem Bd.tell(h:Bd (n+1) s kn):Bd n (s.tell c) kn:=h.casesOn λa b c' d e=>⟨by show s.steps+(n:Int)<=_;lia,acH b,by show len (app s.told c)+n<=_;rw [bu,aez,aeh 1 n];exact c',acH d,e⟩
theorem Bd.zz(h:Bd (n+1) s kn):Bd n (s.zz (s.zero+1)) kn:=h.casesOn λa b c d e=>⟨by show s.steps+(n:Int)<=_;lia,by show s.zero+1+len s.E+n<=_;lia,acH c,acH d,e⟩
theorem Bd.last{i:Int}(h:Bd n s kn)(k:s.last<=i):Bd n (s.st s.m i) kn:=h.casesOn λa b c d e=>⟨a,b,c,d,λx hx=>agV (e x hx) k⟩
theorem Bd.made(h:Bd (n+1) s kn):Bd n s.made kn:=Bd.last (s:=s.zz (s.zero+1)) h.zz (adR (by decide))
theorem Bd.m{m:GM}(h:Bd n s kn):Bd n (s.st m s.last) kn:=h.casesOn λa b c d e=>⟨a,b,c,d,e⟩
theorem Bd.mm{m:GM}{i:Int}(h:Bd n s kn)(k:s.last<=i):Bd n (s.st m i) kn:=(h.last k).m
theorem Bd.fZ{e:SV}(h:Bd (n+1) s kn):Bd n (s.fZ e) kn:=h.casesOn λa b c d k=>⟨by show s.steps+(n:Int)<=_;lia,by show s.zero+len (app s.E e)+n<=_;rw [bu];lia,acH c,acH d,k⟩
theorem Bd.cons{i:Int}(h:Bd (n+6) s kn)(k:i<=s.last):Bd n s (i::kn):=h.casesOn λa b c d e=>⟨by lia,by lia,by lia,by show 6*(len kn+1)+n<=_;lia,λx hx=>(adN.1 hx).elim (λq=>q▸k) (e x)⟩
theorem yN(P:MS->Prop)(h1:eU b s.m≠none->P s)(h2:∀x:GL,x.v =.none->eU b s.m=none->P (s.st (setG b s.m x) (s.last+1+1))):P (cN b s a w t tw):=by
 unfold cN;cases e:eU b s.m with
 |some x=>exact h1 (by rw [e];exact nofun)
 |none=>exact h2 _ rfl e
theorem yO(i:Int):i<=i+1+1:=agV (adR (by decide)) (adR (by decide))
theorem Kp.cN:Kp s (aT.cN b s a w t tw):=yN (Kp s) (λ_=>.refl) λx _ _=>⟨rfl,rfl,rfl,yO _⟩
theorem kC:(cN b s a w t tw).E=s.E:=yN (λy=>y.E=s.E) (λ_=>rfl) λx _ _=>rfl
theorem Bd.cN(h:Bd n s kn):Bd n (aT.cN b s a w t tw) kn:=yN (λy=>Bd n y kn) (λ_=>h) λx _ _=>h.mm (yO _)
theorem yP{m:GM}{e:SV}{x:GL}(h:yM m e)(q:b=true->∀y,m.g=some y->x.a=y.a):yM (setG b m x) e:=by
 unfold yM at *;induction z:e.sc with
 |true=>
  rw [z] at h;obtain ⟨y,hy,ha⟩:=h;induction b with
  |true=>exact ⟨x,rfl,(q rfl y hy).trans ha⟩|false=>exact ⟨y,hy,ha⟩
 |false=>rw [z] at h;cases b<;>exact h
theorem FP.setG{m:GM}{E:List SV}{x:GL}(h:FP m E)(q:b=true->∀y,m.g=some y->x.a=y.a):FP (aT.setG b m x) E:=⟨λi e z=>yP (h.1 i e z) q,λy hy=>h.2 y (by cases b<;>exact hy)⟩
theorem eK.cN(h:eK s line g):eK (aT.cN b s a w t tw) line g:=yN (λy=>eK y line g) (λ_=>h) λx hx e=>h.casesOn λa1 a2 a3 a4 a5 a6 a7=>by
 refine ⟨a1,a2,?_,?_,a5,a6,a7.setG λhb y hy=>?_⟩
 ·induction b with
  |true=>exact a3|false=>rw [a3,show s.m.a=none from e];exact congrArg some hx.symm
 ·induction b with
  |false=>exact a4|true=>rw [a4,show s.m.g=none from e];exact congrArg some hx.symm
 ·subst hb;exact nomatch (show s.m.g=none from e).symm.trans hy
noncomputable def GS.acV(b:Bool)(g:GS)(c:CV):GS:=match b with
 |false=>⟨g.told,c,g.g,g.kept,g.line⟩|true=>⟨g.told,g.fault,c,g.kept,g.line⟩
theorem Yc{m:GM}{x:GL}(e:eU b m=some x):eX b m=x:=by unfold eX;rw [e];rfl
theorem eK.vS(h:eK s line g)(e:eU b s.m=some (eX b s.m))(hv:dP c=some v):eK (aT.vS b s v) line (g.acV b c):=h.casesOn λa1 a2 a3 a4 a5 a6 a7=>by
 have ok:FP (setG b s.m (vaG (eX b s.m) v)) s.E:=a7.setG λhb y hy=>by subst hb;show (eX true s.m).a=y.a;rw [Yc (show eU true s.m=some y from hy)]
 induction b with
 |false=>exact ⟨a1,a2,hv,a4,a5,a6,ok⟩|true=>exact ⟨a1,a2,a3,hv,a5,a6,ok⟩
end
theorem DG(a b:List SV):kV (cat a b)=cat (kV a) (kV b):=by
 induction a with
 |nil=>rfl|cons e a ih=>show (match e.sc with|true=>e.v::kV (cat a b)|false=>kV (cat a b))=cat (match e.sc with|true=>e.v::kV a|false=>kV a) _;induction e.sc with|true=>exact congrArg (e.v :: ·) ih|false=>exact ih
theorem F1{α β:Type}(f:α->β)(l:List α)(i:Nat):af (l.map f) i=(af l i).map f:=by rw [bW,bW,ahM]
theorem yQ{α β:Type}(f:α->β)(a b:List α):(cat a b).map f=cat (a.map f) (b.map f):=by rw [gZ,gZ,List.map_append]
section
variable{p:GM×Nat}{KP more r E:List SV}{m:GM}{e:SV}{s s':MS}{n:Nat}{kn:gI}{line l2:Int}{g st:GS}{c:CV}{v:At}{a w t tw it:Addr}{x:GL}
theorem agn:(uL p r).1.a=p.1.a:=by
 induction r with
 |nil=>rfl|cons e r ih=>show (u1 (uL p r) e).1.a=_;unfold u1;cases e.sc<;>exact ih
theorem ago:gv (uL p r).1.g=(af (kV r) 0).getD (gv p.1.g):=by
 induction r with
 |nil=>rfl|cons e r ih=>
  show gv (u1 (uL p r) e).1.g=(af (match e.sc with|true=>e.v::kV r|false=>kV r) 0).getD _
  unfold u1;induction e.sc with
  |true=>rfl|false=>exact ih
theorem agp:(uL p r).2<=p.2+len r:=by
 induction r with
 |nil=>exact abv _|cons e r ih=>show (u1 (uL p r) e).2<=p.2+(len r+1);unfold u1;induction e.sc with|true=>exact ahX ih|false=>exact Nat.le_succ_of_le ih
theorem acW:∀{k:Nat}{r:List SV}{p:GM×Nat},len r=k->FP p.1 (cat KP r)->FP (uL p r).1 KP:=by
 intro k;induction k with
 |zero=>intro r p hk h;induction r with|nil=>rw [au] at h;exact h|cons a r=>cases hk
 |succ k ih=>
  intro r p hk h;induction yF r with
  |inl q=>rw [q] at hk;cases hk
  |inr q=>
   obtain ⟨a,y,q⟩:=q;subst q;rw [← aP,ez] at h;rw [ez] at hk ⊢;rw [yL];exact ih (Nat.succ.inj ((bu y a).symm.trans hk)) (FP.pop h)
theorem Kp.dG:Kp s (aT.dG s KP more):=⟨rfl,rfl,rfl,aen _⟩
theorem Bd.dG(h:Bd n s kn)(e:s.E=cat KP more):Bd n (aT.dG s KP more) kn:=h.casesOn λa b c d k=>⟨a,by
 have z:=agp (p:=(s.m,s.zero)) (r:=more);rw [e,len_cat] at b;show (uL (s.m,s.zero) more).2+len KP+n<=_;have z:(uL (s.m,s.zero) more).2<=s.zero+len more:=z;lia,c,d,k⟩
theorem eK.dG(h:eK s line g)(e:s.E=cat KP more)(hk:st.kept.map dP=(kV KP).map some):eK (aT.dG s KP more) l2 ⟨g.told,g.fault,(af g.kept (len st.kept)).getD g.g,st.kept,l2⟩:=h.casesOn λa1 a2 a3 a4 a5 a6 a7=>by
 refine ⟨a1,a2,?_,?_,hk,rfl,acW rfl (e▸a7)⟩
 ·show _=some (gv (uL (s.m,s.zero) more).1.a);rw [agn];exact a3
 ·show dP ((af g.kept (len st.kept)).getD g.g)=some (gv (uL (s.m,s.zero) more).1.g)
  have l:len st.kept=len ((kV KP).map some):=by rw [← hk];exact (rU dP _).symm
  have z:(af g.kept (len st.kept)).map dP=(af (kV more) 0).map some:=by
   rw [← F1,a5,e,DG,yQ,l,← F1];exact dJ (j:=0)
  rw [ago];revert z;induction af g.kept (len st.kept) with
  |none=>induction af (kV more) 0 with|none=>exact λ_=>a4|some v=>exact λz=>nomatch (show none=some (some v) from z)
  |some c=>induction af (kV more) 0 with|none=>exact λz=>nomatch (show some (dP c)=none from z)|some v=>exact λz=>aap z
theorem TQ(hu:m.u=none):∀{E:List SV},(∀i e,af E i=some e->yM m e)->uH E=0
 | [],_=>rfl|e::E,h=>by
  have z:=h 0 e rfl;unfold yM at z;show uH E+(match e.sc with|true=>0|false=>1)=0
  induction q:e.sc with
  |true=>exact TQ hu λi e z=>h (i+1) e z|false=>rw [q] at z;exact z.elim λx y=>nomatch hu.symm.trans y.1
theorem qk(P:MS->Prop)(h1:s.m.u≠none->P s)(h2:∀x:GL,x.cnt=1->s.m.u=none->P (s.st (mE s.m x) (s.last+1+1))):P (qi s a w t tw it):=by
 unfold qi;cases e:s.m.u with
 |some x=>exact h1 (by rw [e];exact nofun)
 |none=>exact h2 _ rfl e
theorem Kp.qi:Kp s (aT.qi s a w t tw it):=qk (Kp s) (λ_=>.refl) λx _ _=>⟨rfl,rfl,rfl,yO _⟩
theorem acX:(qi s a w t tw it).E=s.E:=qk (λy=>y.E=s.E) (λ_=>rfl) λx _ _=>rfl
theorem acY:bf (qi s a w t tw it).m.u=true:=qk (λy=>bf y.m.u=true) (λh=>by induction e:s.m.u with|none=>exact (h e).elim|some x=>rfl) λx _ _=>rfl
theorem Bd.qi(h:Bd n s kn):Bd n (aT.qi s a w t tw it) kn:=qk (λy=>Bd n y kn) (λ_=>h) λx _ _=>h.mm (yO _)
theorem TR(h:yM m e)(q:∀y,m.u=some y->x.a=y.a/\x.t=y.t):yM (mE m x) e:=by
 unfold yM at *;induction z:e.sc with
 |true=>rw [z] at h;exact h|false=>rw [z] at h;exact h.elim λy w=>⟨x,rfl,(q y w.1).1.trans w.2.1,(q y w.1).2.trans w.2.2⟩
theorem eK.qi(h:eK s line g):eK (aT.qi s a w t tw it) line g:=qk (λy=>eK y line g) (λ_=>h) λx hx e=>h.casesOn λa1 a2 a3 a4 a5 a6 a7=>
 ⟨a1,a2,a3,a4,a5,a6,⟨λi e' z=>TR (a7.1 i e' z) λy hy=>(nomatch e.symm.trans hy),λy hy=>by cases hy;show x.cnt=(uH s.E:Int)+1;rw [hx,TQ e a7.1];rfl⟩⟩
theorem eK.Dt(h:eK s line g)(hu:bf s.m.u=true):eK (aT.Dt s) line g:=h.casesOn λa1 a2 a3 a4 a5 a6 a7=>by
 induction e:s.m.u with
 |none=>rw [e] at hu;exact bM hu|some x=>
  refine ⟨a1,a2,a3,a4,?_,a6,⟨λi e' z=>?_,λy hy=>?_⟩⟩
  ·show _=(kV (app s.E _)).map some
   rw [← ez,DG];exact a5.trans (congrArg _ (au _).symm)
  ·cases bF z with
   |inl z=>exact TR (a7.1 i e' z) λy hy=>by rw [uF hy];exact ⟨rfl,rfl⟩|inr z=>rw [z.2];exact ⟨_,rfl,rfl,rfl⟩
  ·cases hy
   show (uD s.m).cnt+1=(uH (app s.E _):Int)+1;rw [mq,uF e,a7.2 x e];rfl
theorem Kp.Dt:Kp s (aT.Dt s):=⟨rfl,rfl,rfl,aen _⟩
theorem Bd.Dt(h:Bd (n+1) s kn):Bd n (aT.Dt s) kn:=Bd.fZ (h.m (m:=_))
theorem eK.pA(h:eK s line g)(hg:eU true s.m=some (eX true s.m))(hv:dP c=some v):eK (aT.vS true (aT.pA s t tw) v) line ⟨g.told,g.fault,c,cat g.kept [g.g],g.line⟩:=h.casesOn λa1 a2 a3 a4 a5 a6 a7=>by
 have hg:s.m.g=some (eX true s.m):=hg;refine ⟨a1,a2,a3,hv,?_,a6,⟨λi e' z=>?_,λy hy=>?_⟩⟩
 ·show (cat g.kept [g.g]).map dP=(kV (app s.E (Ir (eX true s.m)))).map some
  rw [← ez,DG,yQ,yQ,a5];refine congrArg (cat _) ?_;show [dP g.g]=[some (eX true s.m).v];rw [a4,hg];rfl
 ·cases bF z with
  |inl z=>exact yP (b:=true) (yP (b:=true) (a7.1 i e' z) λ_ y hy=>by rw [← aap (hg.symm.trans hy)];rfl) λ_ y hy=>by cases hy;rfl
  |inr z=>rw [z.2];exact ⟨_,rfl,rfl⟩
 ·have:=a7.2 y hy
  show y.cnt=(uH (app s.E (Ir (eX true s.m))):Int)+1;rw [mq];exact this
theorem Bd.pA(h:Bd (n+1) s kn):Bd n (aT.pA s t tw) kn:=Bd.fZ (h.mm (m:=_) (i:=s.last+1) (adR (by decide)))
theorem Kp.pA:Kp s (aT.pA s t tw):=⟨rfl,rfl,rfl,adR (by decide)⟩
theorem Kp.vS{b:Bool}:Kp s (aT.vS b s v):=⟨rfl,rfl,rfl,aen _⟩
theorem eK.tick(h:eK s line g):eK s.tick line g:=h.casesOn λa1 a2 a3 a4 a5 a6 a7=>⟨a1,a2,a3,a4,a5,a6,a7⟩
theorem Kp.tick:Kp s s.tick:=⟨rfl,rfl,rfl,aen _⟩
theorem eK.made(h:eK s line g):eK s.made line g:=h.casesOn λa1 a2 a3 a4 a5 a6 a7=>⟨a1,a2,a3,a4,a5,a6,a7⟩
theorem Kp.made:Kp s s.made:=⟨rfl,rfl,rfl,adR (by decide)⟩
theorem eK.zz(h:eK s line g):eK (s.zz n) line g:=h.casesOn λa1 a2 a3 a4 a5 a6 a7=>⟨a1,a2,a3,a4,a5,a6,a7⟩
theorem Kp.zz:Kp s (s.zz n):=⟨rfl,rfl,rfl,aen _⟩
theorem jE(l:az)(c:CV):eG (app l c)=app (eG l) (mX c)/\kN (app l c)=(kN l&&Gq c):=by
 induction l with
 |nil=>exact ⟨rfl,(Bool.and_true _).trans (Bool.true_and _).symm⟩|cons a l ih=>exact ⟨congrArg (mX a :: ·) ih.1,(congrArg (Gq a && ·) ih.2).trans (Bool.and_assoc ..).symm⟩
theorem eK.tell{c':CV}(h:eK s line g)(hc:mX c=mX c')(hok:Gq c=true):eK (s.tell (.lst [c])) line (g.add c'):=h.casesOn λa1 a2 a3 a4 a5 a6 a7=>by
 refine ⟨?_,?_,a3,a4,a5,a6,a7⟩
 ·show eG (app s.told _)=eG (cat g.told _)
  rw [ez,(jE ..).1,(jE ..).1,a1];show app _ (PyData.list [mX c])=app _ (PyData.list [mX c']);rw [hc]
 ·show kN (app s.told _)=true
  rw [(jE ..).2,a2];show (Gq c&&true)=true;rw [hok];rfl
theorem Kp.tell:Kp s (s.tell c):=⟨rfl,rfl,rfl,aen _⟩
end
theorem yR{y z:MS}{F G:az}(h:y=z.fr F)(e:z.frames=G):y.fr G=z:=by rw [h,← e];rfl
section
variable{s:MS}{n m:Nat}{c:CV}{v:At}{G:MS->Prop}{hd:Hd}{mk:Int}{KP more:List SV}{kn:gI}{line:Int}{g:GS}{x:RC}{q:Prop}{row:CV}
theorem Yd{F:az}{a w t tw:Addr}:vS false (cN false (s.fr F) a w t tw) v=(vS false (cN false s a w t tw) v).fr F:=by rw [Dq];rfl
theorem Ye{F:az}{a w t tw t2 kJ:Addr}:pA (cN true (s.fr F) a w t tw) t2 kJ=(pA (cN true s a w t tw) t2 kJ).fr F:=by rw [Dq];rfl
theorem ny(h:dP c=some v)(k:∀a w t tw,G (vS false (cN false s a w t tw) v)):FU s n c G:=⟨rfl,rfl,λX _=>⟨(s.fr (X 16),c,v),trivial,rfl,rfl,rfl,h,λa w t tw=>⟨⟨gx,trivial⟩,(yR (z:=vS false (cN false s a w t tw) v) (F:=X 16) Yd gx).symm▸k a w t tw⟩⟩⟩
theorem jZ(hm:mk=(len KP:Nat))(c:zj s KP more)(k:G (dG s KP more)):wX hd s n mk G:=⟨rfl,rfl,λX _=>⟨(hd,len more+1),(s.fr (X 16),KP,more),rfl,rfl,by rw [hm],rfl,⟨c.1,c.2,c.3,c.4⟩,adY _,⟨rfl,trivial⟩,k⟩⟩
theorem RB(h:len s.E<aW)(k:∀a w t tw t2 kJ,G (pA (cN true s a w t tw) t2 kJ)):acw s n G:=⟨rfl,rfl,λX _=>⟨s.fr (X 16),trivial,rfl,rfl,rfl,h,λa w t tw t2 kJ=>⟨⟨gx,trivial⟩,(yR (z:=pA (cN true s a w t tw) t2 kJ) (F:=X 16) Ye gx).symm▸k a w t tw t2 kJ⟩⟩⟩
theorem Nn{F:az}{a w t tw it:Addr}:qi (s.fr F) a w t tw it=(qi s a w t tw it).fr F:=by unfold qi;show (match s.m.u with|some x=>s.fr F|none=>_)=_;cases s.m.u<;>rfl
theorem Yg(k:∀a w t tw it,G (qi s a w t tw it)):arV s n G:=⟨rfl,rfl,λX _=>⟨s.fr (X 16),trivial,rfl,rfl,rfl,λa w t tw it=>⟨⟨by rw [Nn];rfl,trivial⟩,(yR (z:=qi s a w t tw it) (F:=X 16) Nn (qk (λy=>y.frames=s.frames) (λ_=>rfl) λ_ _ _=>rfl)).symm▸k a w t tw it⟩⟩⟩
theorem Yh{u:Addr}(hu:bf s.m.u=true)(he:len s.E<aW)(hq:u=(uD s.m).t)(k:G (Dt s)):laV s n u G:=⟨rfl,rfl,λX _=>⟨s.fr (X 16),trivial,rfl,by rw [hq];rfl,rfl,hu,he,⟨rfl,trivial⟩,k⟩⟩
theorem Np{p:GP}{f:FR}{dp:Nat}{G:GX->MS->Int->gI->Prop}(hd:p.nd+20<=dp)(ht:p.t=f.t)(hw:p.w=f.w)(h:∀F,len F=n->p.C ⟨s.fr F,f.line,f.fk,f.piled,f.kn⟩/\∀s' aF dc,p.Q ⟨s.fr F,f.line,f.fk,f.piled,f.kn⟩ s' aF dc->s'.frames=F/\G ⟨s.fr F,f.line,f.fk,f.piled,f.kn⟩ (s'.fr s.frames) aF dc):gvV p f s n dp G:=
 ⟨rfl,rfl,λX hX=>⟨⟨s.fr (X 16),f.line,f.fk,f.piled,f.kn⟩,rfl,hd,rfl,by rw [ht,hw];rfl,(h (X 16) hX.1).1,λs' aF dc hq=>⟨⟨((h (X 16) hX.1).2 s' aF dc hq).1,trivial⟩,((h (X 16) hX.1).2 s' aF dc hq).2⟩⟩⟩
theorem Bd.nB(h:Bd n s kn):len s.E+1<aW/\s.zero<aW/\len s.told+0<aW/\len (bI s.E)+0<aW:=h.casesOn λa b c d e=>by
 rw [lQ];unfold aW;lia
theorem zj.of(h:eK s line g)(b:Bd n s kn)(e:s.E=cat KP more):zj s KP more:=⟨e,h.casesOn λ_ _ _ _ _ _ o=>o,b.casesOn λ_ z _ _ _=>by rw [e,len_cat] at z;unfold aW;lia,b.nB.1⟩
theorem bC(hR:af x.R n=some row)(hl:len x.R<=900000)(hb:Bd (m+1) x.s kn)(h:q):dD x (n:Int) row q:=by
 have a:=cQ hR;refine ⟨by unfold aW;lia,FA (afr.2 a),wN (hb.casesOn λz _ _ _ _=>by lia),⟨ahk n,by lia,oW hR⟩,h⟩
end
def Nq(s:String)(m:Nat):Prop:=(S0 s).cps.size+(S0 " at line ").cps.size<aW/\(S0 s++S0 " at line ").cps.size+(Dz m).cps.size<aW/\(S0 s++S0 " at line " ++ Dz m).cps.size+(S0 ".\n").cps.size<aW
theorem DH:∀m,m<19->Nq "oh" m/\Nq "no" m/\Nq "Deep recursion" m:=by unfold Nq;decide +kernel
theorem yS{s:String}{n:Int}{q:Nat->Prop}(h:0<=n/\n<19)(hs:∀m,m<19->Nq s m)(k:∀m,n=Int.ofNat m->q m):Rx s n q:=by
 induction n with
 |negSucc m=>exact absurd h.1 (by lia)|ofNat m=>
  have z:=hs m (afr.mp h.2);exact ⟨z.1,rfl,rfl,λ_ _=>⟨m,trivial,rfl,rfl,rfl,afr.mp h.2,trivial,z.2.1,z.2.2,k m rfl⟩⟩
theorem RD{j:Nat}{n:Int}{q:CV->Prop}(hj:j<4)(h:0<=n/\n<19)(k:q (o8 (vq j n))):XY j n q:=
 lM (P:=λj=>q (o8 (vq j n))->XY j n q) (λk=>yS h (λm hm=>(DH m hm).1) λm e=>by subst e;exact k) id id (λk=>yS h (λm hm=>(DH m hm).2.1) λm e=>by subst e;exact k) hj k
inductive jF:DV->Prop
 |mk (j:Nat) (n:Int) (hj:j<4) (hn:0<=n/\n<19):jF (vq j n)
theorem jF.dv{d:DV}(h:jF d):DF d:=h.casesOn λj n hj _=>lM (P:=λj=>DF (vq j n)) (.t _) .l (.n _) (.t _) hj
def nlS(s:Str):Prop:=s.cps.size<aW/\(!(mW (.str (PySem.Txt.slice s (some (-1)) none)) (.str (S0 "\n"))))=false
theorem F2:∀m,m<19->nlS (uJ "oh" m)/\nlS (uJ "no" m):=by unfold nlS;decide +kernel
theorem Yi{d:DV}{q:Prop}(h:jF d)(k:q):Zn d q:=h.casesOn λj n hj hn=>by
 have t:∀s,(∀m,m<19->nlS (uJ s m))->Zn (gV (S0 s) n) q:=λs hs=>by
  induction n with
  |negSucc m=>exact absurd hn.1 (by lia)|ofNat m=>exact ⟨rfl,(hs m (afr.mp hn.2)).1,(hs m (afr.mp hn.2)).2,k⟩
 exact lM (P:=λj=>Zn (vq j n) q) (t "oh" λm hm=>(F2 m hm).1) k k (t "no" λm hm=>(F2 m hm).2) hj
theorem Yj(d:DV):∃v,dP (o8 d)=some v:=by cases d<;>exact ⟨_,rfl⟩
theorem DI{r:GS×Option DV}{f:GS->GS×Option DV}{d:DV}(h1:r.2=some d->jF d)(h2:r.2=none->(f r.1).2=some d->jF d)(h:(nq r f).2=some d):jF d:=by
 obtain ⟨s,o⟩:=r;cases o with
 |none=>exact h2 rfl h|some v=>cases h;exact h1 rfl
theorem RE{depth:Int}{d:dR}{aa:Nat}{many:Int}{w:Nat}{s:GS}{dv:DV}(ok:Mj aa d)(hl:0<=s.line/\s.line<19)(h:(uS depth d many w s).2=some dv):jF dv:=by
 cases d with
 |mP j=>cases h;exact .mk j s.line ok hl
 |ev t wn ds v rt=>
  cases t with
  |false=>exact bq h|true=>
   have h:(match fX depth many with|true=>_|false=>_:GS×Option DV).2=some dv:=h
   induction q:fX depth many with
   |true=>rw [q] at h;exact bq h|false=>rw [q] at h;exact bq h
 |_=>exact bq h
theorem pC{depth:Int}{aa:Nat}{many:Int}{w:Nat}{dv:DV}:∀(ds:aK){s:GS},fD aa ds->0<=s.line/\s.line<19->(dW depth ds many w s).2=some dv->jF dv
 |.nil,s,_,_,h=>nomatch (show none=some dv from h)
 |.cons d ds,s,ok,hl,h=>DI (λe=>RE ok.1 hl e) (λ_ e=>pC ds ok.2 ((uB depth d aa many w s ok.1).2 hl) e) h
def Zo(o:RO):cB:=match o with
 |.fin r w v=>Nj r w v|.mP _=>.err 26
def roX(o:RO):aq:=match o with
 |.fin r w v=>Nk r w v|.mP d=>[Iw (o8 d)]
noncomputable def mU:aq:=[.gone,.gone,.gone,.gone,.gone,.gone]
noncomputable def j3(o:Option DV)(rt:Bool)(w:Nat)(v:Int):RO:=match o with
 |none=>.fin rt w v|some d=>.mP d
inductive ql(E E':List SV):Prop|mk (more:List SV) (e:E'=cat E more) (na:uH more=0)
inductive jH(s:MS)(t:Bool)(n:Nat)(g':GS)(s':MS)(aF:Int)(dc:gI):Prop
 |mk (rel:eK s' aF g') (E:ql s.E s'.E) (bd:Bd n s' dc) (kp:Kp s s') (kf:t=false->dc=[]) (ln:0<=aF/\aF<19)
noncomputable def FR.up(f:FR)(line:Int)(kn:gI):FR:=⟨f.t,f.w,line,f.fk,f.piled,kn⟩
def LK(s:MS)(f:FR)(n:Nat)(r:GS×Option DV)(rt:Bool)(we:Nat)(ve:Nat)(k:KL):Prop:=∀s' aF dc,jH s f.t n r.1 s' aF dc->k (Zo (j3 r.2 rt we ve),[]) (fW (f.up aF dc) s' (cat mU (roX (j3 r.2 rt we ve))))
structure LX where
 x:RC
 i:Nat
 ds:aK
 ns:Nat
 nt:Nat
 rt:Bool
 we:Nat
 ve:Nat
 g:GS
 n:Nat
inductive Nr(L pre mid post:az)(n:Nat):Prop|mk (e:L=cat pre (cat mid post)) (l:len pre=n)
def LX.c(y:LX):yx:=aG y.ds y.ns y.nt
def nC(t:Bool)(piled:Int)(aa:Nat):Prop:=match t with
 |false=>True|true=>0<=piled/\piled+4*aa<=20
inductive LC(aa i:Nat)(y:LX)(k:KL):Prop
 |mk (hi:y.ds.num<i) (ok:fD aa y.ds) (R:∃pre,Nr y.x.R pre y.c.rows (iy y.we y.ve y.rt) y.i) (U:∃pre,Nr y.x.U pre y.c.subs [] y.ns) (T:∃pre post,Nr y.x.s.texts pre y.c.texts post y.nt) (rn:len y.x.R<=900000) (un:len y.x.U<=900000) (tn:y.nt+len y.c.texts<=90)
   (w:y.x.f.w<3) (we:y.we<3) (rel:eK y.x.s y.x.f.line y.g) (bd:Bd (30*y.ds.cZ+10+y.n) y.x.s y.x.f.kn) (kf:y.x.f.t=false->y.x.f.kn=[]) (pl:nC y.x.f.t y.x.f.piled aa/\len y.x.s.frames+aa<=100) (ln:0<=y.x.f.line/\y.x.f.line<19)
   (k:LK y.x.s y.x.f y.n (dW y.x.s.depth y.ds (len y.x.s.frames+1:Nat) y.x.f.w y.g) y.rt y.we y.ve k)
def lP(aa i:Nat)(m:Lo)(σ:aq)(k:KL):Prop:=∃y:LX,m=rM y.x y.i/\σ=rW y.x/\LC aa i y k
noncomputable def rq(aa:Nat):Nat:=12*aa+20
def iZ(aa i:Nat)(m:Lo)(σ:aq)(k:KL):Prop:=∀d ρ,len σ=len ρ->bD σ ρ λσ' ρ'=>∃c1 cs,gU zd c1/\(∀c'∈cs,gU zd c')/\vm 150 (λe t body σ _=>Ng (rL (rq aa)).ts (rL (rq aa)).pick (rL (rq aa)).c ρ' (λm σ=>lP aa i m σ k) e t body σ k) (c1::cs) ⟨(fnOf 719).sc,[],m,.no,d+rq aa⟩ TG q7 σ' (uG (rL (rq aa)).out (rL (rq aa)).c ρ' k)
section
variable{aa i n:Nat}{y:LX}{k:KL}{d:dR}{ds:aK}{x':RC}{g':GS}{s s' s2:MS}{f:FR}{t:Bool}{line aF:Int}{kn dc:gI}{more:List SV}
theorem F3{b:List SV}:∀{a:List SV},uH (cat a b)=uH a+uH b
 | []=>(aeb _).symm|e::a=>by show uH (cat a b)+_=uH a+_+uH b;rw [F3 (a:=a)];exact aho _ _ _
theorem ql.eq{E E':List SV}(h:E'=E):ql E E':=⟨[],h.trans (au _).symm,rfl⟩
theorem ql.trans{A B C:List SV}(h:ql A B)(q:ql B C):ql A C:=h.casesOn λm e n=>q.casesOn λm' e' n'=>⟨cat m m',by rw [e',e,aP],by rw [F3,n,n']⟩
theorem jH.trans{m:Nat}{g:GS}(e:ql s.E s2.E)(kp:Kp s s2)(h:jH s2 t n g s' aF dc):jH s t n g s' aF dc:=h.casesOn λa b c d e1 f=>⟨a,e.trans b,c,kp.trans d,e1,f⟩
theorem Nt:30*(aK.cons d ds).cZ+10+n=(30*ds.cZ+10+n)+30*d.cZ:=by show 30*(d.cZ+ds.cZ)+10+n=_;lia
theorem F4(c:LC aa (i+1) y k)(hy:y.ds =.cons d ds)(j:Nat)(hj:len (bG d y.ns y.nt).rows=j)(hR:x'.R=y.x.R)(hU:x'.U=y.x.U)(ft:x'.f.t=y.x.f.t)(fw:x'.f.w=y.x.f.w)(fk:x'.f.fk=y.x.f.fk)(fp:x'.f.piled=y.x.f.piled)(e:ql y.x.s.E x'.s.E)(kp:Kp y.x.s x'.s)(rel:eK x'.s x'.f.line g')
  (bd:Bd (30*ds.cZ+10+y.n) x'.s x'.f.kn) (kf:x'.f.t=false->x'.f.kn=[]) (ln:0<=x'.f.line/\x'.f.line<19) (hg:uS y.x.s.depth d (len y.x.s.frames+1:Nat) y.x.f.w y.g=(g',none)):lP aa i (rM x' ((y.i+j:Nat):Int)) (rW x') k:=by
 refine ⟨⟨x',y.i+j,ds,y.ns+len (bG d y.ns y.nt).subs,y.nt+len (bG d y.ns y.nt).texts,y.rt,y.we,y.ve,g',y.n⟩,rfl,rfl,?_⟩;obtain ⟨hi,ok,R,U,T,rn,un,tn,w,we,_,_,_,pl,_,hk⟩:=c;have hc:y.c=aG (.cons d ds) y.ns y.nt:=congrArg (aG · y.ns y.nt) hy
 rw [hc] at R U T tn;rw [hy] at hi ok hk;refine kp.casesOn λk1 k2 k3 k4=>⟨adM hi,ok.2,?_,?_,?_,hR▸rn,hU▸un,?_,fw▸w,we,rel,bd,kf,?_,ln,?_⟩
 ·exact R.elim λpre z=>z.casesOn λe l=>⟨cat pre (bG d y.ns y.nt).rows,by rw [hR,e];show cat pre (cat (cat _ _) _)=cat (cat _ _) (cat _ _);rw [aP,aP];rfl,by rw [len_cat,l,hj]⟩
 ·exact U.elim λpre z=>z.casesOn λe l=>⟨cat pre (bG d y.ns y.nt).subs,by rw [hU,e];show cat pre (cat (cat _ _) _)=cat (cat _ _) (cat _ _);rw [aP,aP];rfl,by rw [len_cat,l]⟩
 ·exact T.elim λpre z=>z.elim λpost z=>z.casesOn λe l=>⟨cat pre (bG d y.ns y.nt).texts,post,by rw [k2,e];show cat pre (cat (cat _ _) _)=cat (cat _ _) (cat _ _);rw [aP,aP];rfl,by rw [len_cat,l]⟩
 ·have tn:y.nt+len (cat (bG d y.ns y.nt).texts _)<=90:=tn
  rw [len_cat,← aez] at tn;exact tn
 ·rw [ft,fp,k1];exact pl
 ·have hd:dW y.x.s.depth (.cons d ds) (len y.x.s.frames+1:Nat) y.x.f.w y.g=dW x'.s.depth ds (len x'.s.frames+1:Nat) x'.f.w g':=by
   show nq (uS _ _ _ _ _) _=_;rw [hg,k3,k1,fw];rfl
  rw [hd] at hk;intro s' aF dc h;have q:=hk s' aF dc (ft▸jH.trans (m:=0) e kp h);rw [show x'.f.up aF dc=y.x.f.up aF dc by unfold FR.up;rw [ft,fw,fk,fp]]
  exact q
theorem cS(c:LC aa (i+1) y k)(hy:y.ds =.cons d ds)(j:Nat){row:CV}(h:af (bG d y.ns y.nt).rows j=some row):af y.x.R (y.i+j)=some row:=by
 obtain ⟨hi,ok,R,U,T,rn,un,tn,w,we,_,_,_,pl,_,hk⟩:=c;have hc:y.c=aG (.cons d ds) y.ns y.nt:=congrArg (aG · y.ns y.nt) hy
 rw [hc] at R;exact R.elim λpre z=>z.casesOn λe l=>by
  rw [e,← l,dJ];exact gp (gp h)
end
section
set_option maxHeartbeats 0
theorem agq(t r:Bool){w:Nat}(h:w<3):acS t r w:=by
 cases t<;>cases r<;>exact dB ⟨by intros;kernel_rfl⟩ ⟨by intros;kernel_rfl⟩ ⟨by intros;kernel_rfl⟩ h
theorem acZ(t:Bool){w:Nat}(h:w<3):acT t w:=by
 cases t<;>exact dB ⟨by intros;kernel_rfl⟩ ⟨by intros;kernel_rfl⟩ ⟨by intros;kernel_rfl⟩ h
theorem agr(t:Bool){w:Nat}(h:w<3):acU t w:=by
 cases t<;>exact dB ⟨by intros;kernel_rfl⟩ ⟨by intros;kernel_rfl⟩ ⟨by intros;kernel_rfl⟩ h
end
section
set_option maxHeartbeats 0
theorem ac0(t:Bool){w:Nat}(s:Str)(h:w<3):F0 t (.t s) w:=by
 cases t<;>exact dB ⟨by intros;kernel_rfl⟩ ⟨by intros;kernel_rfl⟩ ⟨by intros;kernel_rfl⟩ h
theorem ac1(t:Bool){w:Nat}(h:w<3):F0 t (.l (S0 "oh\n")) w:=by
 cases t<;>exact dB ⟨by intros;kernel_rfl⟩ ⟨by intros;kernel_rfl⟩ ⟨by intros;kernel_rfl⟩ h
theorem ac2(t:Bool){w:Nat}(s:Int)(h:w<3):F0 t (.n s) w:=by
 cases t<;>exact dB ⟨by intros;kernel_rfl⟩ ⟨by intros;kernel_rfl⟩ ⟨by intros;kernel_rfl⟩ h
theorem ac3(t:Bool){w:Nat}{dv:DV}(h:w<3)(q:DF dv):F0 t dv w:=q.casesOn (λs=>ac0 t s h) (ac1 t h) λi=>ac2 t i h
end
theorem qm{sp:List (Addr×Spec Prop)}{row:CV}(h:∀p∈sp,aV (jJ sp row) p.1 p.2):gU zd (jJ sp row):=⟨fR h ff ff,rfl⟩
theorem cY{row:CV}:gU zd (jJ [] row):=qm ff
section
variable{aa i n:Nat}{y:LX}{k:KL}{d:dR}{ds:aK}{x x':RC}{g':GS}{tl:aY}{B:List (Addr×SC)}{ex:aq}{ρ:bR}{Q:aq->bR->Prop}{c:CV}{b:Bool}{v:At}
theorem yT(h:bD (rS (x.at (x.s.tell c)) [] B ex) ρ Q):bD (rS x [.c c] B ex) ρ Q:=.then <|.snoc (i:=0) (σ:=rS x [.c c] B ex) rfl (.refl _) h
theorem Nu(e:eU b x.s.m=some (eX b x.s.m))(h:bD (rS (x.at (vS b x.s v)) [] (bP (vS b x.s v).m x.s.E) Bt) ρ Q):bD (rS x [] (setAt (bP x.s.m x.s.E) (yH b) gW) [.uU (.ref 27) (eX b x.s.m).t,i8 (eX b x.s.m).tn (.c (.aA (eX b x.s.m).tw)) (.at v)]) ρ Q:=by
 have hq:∃q,af (setAt (bP x.s.m x.s.E) (yH b) gW) (yH b)=some q:=⟨gW,av _ (Bl e).2⟩;refine hq.elim λq hq=>M3 (s:=x.s) (D:=jD x.s.m) (fr:=[.ref 18]) (k:=8) (ex:=frF x.f::knO x.f.t x.f.kn::Nh (eB x.R x.U) x.ak 25 :: .gone :: .gone :: .gone :: .gone :: .list [] []::_) rfl λh27=>ic (k:=8) rfl <|kj (k:=9) (n:=yH b) (c:=vt (eX b x.s.m).tn (eX b x.s.m).tw v) hq mT.2.1 rfl h27 ?_
 rw [jY,FI e,← FJ (v:=v) e];exact h
theorem Bd.ac4(h:Bd (30*(aK.cons d ds).cZ+10+n) x.s x.f.kn)(e:d.cZ=1):Bd (30*ds.cZ+10+n+30) x.s x.f.kn:=by rw [Nt,e] at h;exact h
theorem iA:0<aW:=by decide
theorem qo:1<aW:=by decide
theorem ags:2<aW:=by decide
theorem LC.yU(c:LC aa i y k)(hy:y.ds =.cons d ds)(e:d.cZ=1):Bd (30*ds.cZ+10+y.n+30) y.x.s y.x.f.kn:=c.casesOn λ_ _ _ _ _ _ _ _ _ _ _ bd _ _ _ _=>Bd.ac4 (d:=d) (by rw [← hy];exact bd) e
theorem LC.rn(c:LC aa i y k):len y.x.R<=900000:=c.casesOn λ_ _ _ _ _ rn _ _ _ _ _ _ _ _ _ _=>rn
theorem LC.rel(c:LC aa i y k):eK y.x.s y.x.f.line y.g:=c.casesOn λ_ _ _ _ _ _ _ _ _ _ rel _ _ _ _ _=>rel
theorem LC.kf(c:LC aa i y k):y.x.f.t=false->y.x.f.kn=[]:=c.casesOn λ_ _ _ _ _ _ _ _ _ _ _ _ kf _ _ _=>kf
theorem LC.ln(c:LC aa i y k):0<=y.x.f.line/\y.x.f.line<19:=c.casesOn λ_ _ _ _ _ _ _ _ _ _ _ _ _ _ ln _=>ln
theorem LC.w(c:LC aa i y k):y.x.f.w<3:=c.casesOn λ_ _ _ _ _ _ _ _ w _ _ _ _ _ _ _=>w
theorem RG(c:LC aa (i+1) y k)(hy:y.ds =.cons d ds)(j:Nat)(hj:len (bG d y.ns y.nt).rows=j){s':MS}(e:ql y.x.s.E s'.E)(kp:Kp y.x.s s')(rel:eK s' y.x.f.line g')(bd:Bd (30*ds.cZ+10+y.n) s' y.x.f.kn)(hg:uS y.x.s.depth d (len y.x.s.frames+1:Nat) y.x.f.w y.g=(g',none)):lP aa i (rM y.x ((y.i+j:Nat):Int)) (rW (y.x.at s')) k:=
 F4 (x':=y.x.at s') c hy j hj rfl rfl rfl rfl rfl rfl e kp rel bd c.kf c.ln hg
theorem e0{s:MS}:ql s.E s.E:=.eq rfl
theorem Yk{m:Int}(c:LC aa (i+1) y k)(hy:y.ds =.cons (.say m) ds):iZ aa i (rM y.x y.i) (rW y.x) k:=λd ρ hl=>.pure ⟨_,[_],cY,aaw.2 ⟨cY,ff⟩,by
 have bd:=c.yU hy rfl;refine ((IB y.x.f.t).1 (12*aa) d ρ (lP aa i) m y.x y.i k).mpr <|bC (cS c hy 0 rfl) c.rn bd ⟨iA,bC (x:=y.x.tick) (n:=y.i+1) (cS c hy 1 rfl) c.rn bd.tick ⟨qo,rfl,iA,qo,bd.nB.2.2.1,λdS _ _=>yT (x:=y.x.tick.tick) <|.pure ?_⟩⟩
 exact RG c hy 2 rfl e0 (Kp.tick.trans (Kp.tick.trans .tell)) (c.rel.tick.tick.tell rfl rfl) (bd.tick.tick.tell.le (abW _ 27)) rfl⟩
theorem eK.atl{s:MS}{line:Int}{g:GS}(h:eK s line g)(l:Int):eK s l ⟨g.told,g.fault,g.g,g.kept,l⟩:=h.casesOn λa1 a2 a3 a4 a5 a6 a7=>⟨a1,a2,a3,a4,a5,rfl,a7⟩
theorem RH{m:Nat}(c:LC aa (i+1) y k)(hy:y.ds =.cons (.line m) ds):iZ aa i (rM y.x y.i) (rW y.x) k:=λd ρ hl=>.pure ⟨_,[],cY,ff,by
 have bd:=c.yU hy rfl;have hm:m<9:=c.casesOn λ_ ok _ _ _ _ _ _ _ _ _ _ _ _ _ _=>by rw [hy] at ok;exact ok.1
 refine ((IB y.x.f.t).4 (12*aa) d ρ (lP aa i) (10+m) y.x y.i k).mpr <|bC (cS c hy 0 rfl) c.rn bd λdS _ _=>.pure ?_
 exact F4 (x':=y.x.tick.line (10+m)) c hy 1 rfl rfl rfl rfl rfl rfl rfl e0 Kp.tick (c.rel.tick.atl _) (bd.tick.le (abW _ 29)) c.kf (by show (0:Int)<=10+m/\(10:Int)+m<19;lia) rfl⟩
theorem RI{w:Nat}:Gq (Be w)=true:=by
 induction w with
 |zero=>rfl|succ w=>cases w<;>rfl
theorem RJ(c:LC aa (i+1) y k)(hy:y.ds =.cons .wanted ds):iZ aa i (rM y.x y.i) (rW y.x) k:=λd ρ hl=>.pure ⟨_,[_],cY,aaw.2 ⟨cY,ff⟩,by
 have bd:=c.yU hy rfl;refine ((acC y.x.f.t c.w).1 (12*aa) d ρ (lP aa i) y.x y.i k).mpr <|bC (cS c hy 0 rfl) c.rn bd ⟨iA,bC (x:=y.x.tick) (n:=y.i+1) (cS c hy 1 rfl) c.rn bd.tick ⟨qo,iA,qo,bd.nB.2.2.1,λdS _ _=>yT (x:=y.x.tick.tick) <|.pure ?_⟩⟩
 exact RG c hy 2 rfl e0 (Kp.tick.trans (Kp.tick.trans .tell)) (c.rel.tick.tick.tell rfl RI) (bd.tick.tick.tell.le (abW _ 27)) rfl⟩
end
theorem TU(a:At):kM a "list" = false:=by cases a<;>rfl
noncomputable def GS.Nv(b:Bool)(g:GS):CV:=match b with
 |false=>g.fault|true=>g.g
theorem ac5{c:CV}{v:At}(h:dP c=some v):mX (.at v)=mX c:=by
 cases c with
 |none|int|str|«at» =>cases h;rfl
 |_=>cases h
theorem ac6(v:At):Gq (.at v)=true:=by cases v<;>rfl
section
variable{aa i n:Nat}{y:LX}{k:KL}{d:dR}{ds:aK}{x x':RC}{g g':GS}{s:MS}{line:Int}{ρ:bR}{b:Bool}{v:At}
theorem eK.val(h:eK s line g)(e:eU b s.m=some (eX b s.m)):dP (g.Nv b)=some (eX b s.m).v:=h.casesOn λa1 a2 a3 a4 a5 a6 a7=>by
 induction b with
 |false=>exact a3.trans (congrArg (λo=>some (gv o)) e)|true=>exact a4.trans (congrArg (λo=>some (gv o)) e)
theorem getset:(g.add (g.Nv b)).acV b (g.Nv b)=g.add (g.Nv b):=by cases b<;>rfl
theorem DJ{row:CV}:∀p∈spS,aV (jJ spS row) p.1 p.2:=bE (FH rfl) ff
theorem Yl{row:CV}:∀p∈[(301,cG i9 Nd)],aV (jJ [(301,cG i9 Nd)] row) p.1 p.2:=bE (XF rfl) ff
theorem Ym{row:CV}:∀p∈[(28,cG Iv XS)],aV (jJ [(28,cG Iv XS)] row) p.1 p.2:=bE (DA rfl) ff
theorem F5{b:Bool}(c:LC aa (i+1) y k)(hy:y.ds =.cons d ds)(hr:(bG d y.ns y.nt).rows=[wW b,iU "fetch",bV])(hz:d.cZ=1)(hg:uS y.x.s.depth d (len y.x.s.frames+1:Nat) y.x.f.w y.g=(y.g.add (y.g.Nv b),none)):DB ρ (lP aa i) b y.x y.i k:=by
 have bd:=c.yU hy hz;refine bC (cS c hy 0 (by rw [hr];rfl)) c.rn bd <|Dr λa w t tw=>?_
 have rel:=(c.rel.tick.cN (b:=b) (a:=a) (w:=w) (t:=t) (tw:=tw));have RK:=bd.tick.cN (b:=b) (a:=a) (w:=w) (t:=t) (tw:=tw);have hv:=rel.val jm;refine ⟨iA,bC (n:=y.i+1) (cS c hy 1 (by rw [hr];rfl)) c.rn RK ⟨iA,bC (n:=y.i+1+1) (cS c hy 2 (by rw [hr];rfl)) c.rn RK.tick ⟨qo,TU _,iA,qo,RK.nB.2.2.1,λdS _ _=>yT <|Nu (x:=RC.at _ _) jm <|.pure ?_⟩⟩⟩
 exact RG (s':=vS b (MS.tell _ _) _) c hy 3 (by rw [hr];rfl) (.eq kC) (Kp.tick.trans (Kp.cN.trans (Kp.tick.trans (Kp.tick.trans (Kp.tell.trans .vS))))) (getset▸(rel.tick.tick.tell (ac5 hv) (ac6 _)).vS jm hv) (RK.tick.tick.tell.m.le (abW _ 26)) hg
theorem Yn(c:LC aa (i+1) y k)(hy:y.ds =.cons .fault ds):iZ aa i (rM y.x y.i) (rW y.x) k:=λd ρ hl=>.pure ⟨_,[_,_],qm DJ,aaw.2 ⟨cY,aaw.2 ⟨cY,ff⟩⟩,((IB y.x.f.t).2 (12*aa) d ρ (lP aa i) y.x y.i k).mpr (F5 c hy rfl rfl rfl)⟩
theorem RL(c:LC aa (i+1) y k)(hy:y.ds =.cons .held ds):iZ aa i (rM y.x y.i) (rW y.x) k:=λd ρ hl=>.pure ⟨_,[_,_],qm DJ,aaw.2 ⟨cY,aaw.2 ⟨cY,ff⟩⟩,((IB y.x.f.t).3 (12*aa) d ρ (lP aa i) y.x y.i k).mpr (F5 c hy rfl rfl rfl)⟩
theorem Nx{m:Int}(c:LC aa (i+1) y k)(hy:y.ds =.cons d ds)(h2:af (bG d y.ns y.nt).rows 2=some (iU "assign"))(h3:af (bG d y.ns y.nt).rows 3=some (iU "drop"))(hn:len (bG d y.ns y.nt).rows=4)(s:MS)(e:eU true s.m=some (eX true s.m))(bd:Bd (30*ds.cZ+10+y.n+2) s y.x.f.kn)(he:ql y.x.s.E s.E)(kp:Kp y.x.s s)
  (rel:eK (vS true s (.int m)) y.x.f.line g') (hg:uS y.x.s.depth d (len y.x.s.frames+1:Nat) y.x.f.w y.g=(g',none)):Ni ρ (lP aa i) m y.x y.i k true s:=
 ⟨qo,bC (x:=y.x.at s) (n:=y.i+1+1) (cS c hy 2 h2) c.rn bd ⟨ags,iA,bC (x:=(y.x.at s).tick) (n:=y.i+1+1+1) (cS c hy 3 h3) c.rn bd.tick λdS _ _=>Nu (x:=(y.x.at s).tick.tick) e <|.pure <|RG (s':=(vS true s (.int m)).tick.tick) c hy 4 hn he (kp.trans (Kp.vS.trans (Kp.tick.trans .tick))) rel.tick.tick bd.m.tick.tick hg⟩⟩
theorem Yo{m:Nat}(c:LC aa (i+1) y k)(hy:y.ds =.cons (.set m) ds):iZ aa i (rM y.x y.i) (rW y.x) k:=λd ρ hl=>.pure ⟨_,[_,_,_],cY,aaw.2 ⟨qm DJ,aaw.2 ⟨cY,aaw.2 ⟨cY,ff⟩⟩⟩,by
 have bd:=c.yU hy rfl;refine ((IB y.x.f.t).6 (12*aa) d ρ (lP aa i) m y.x y.i k).mpr <|bC (cS c hy 0 rfl) c.rn bd ⟨iA,bC (x:=y.x.tick) (n:=y.i+1) (cS c hy 1 rfl) c.rn bd.tick <|Dr λa w t tw=>?_⟩
 exact Nx c hy rfl rfl rfl _ jm (bd.tick.tick.cN.le (abW _ 26)) (.eq kC) (Kp.tick.trans (Kp.tick.trans .cN)) (eK.vS (c:=aI m) c.rel.tick.tick.cN jm rfl) rfl⟩
theorem Yp{m:Nat}(c:LC aa (i+1) y k)(hy:y.ds =.cons (.loc m) ds):iZ aa i (rM y.x y.i) (rW y.x) k:=λd ρ hl=>.pure ⟨_,[_,_,_],cY,aaw.2 ⟨qm Yl,aaw.2 ⟨cY,aaw.2 ⟨cY,ff⟩⟩⟩,by
 have bd:=c.yU hy rfl;refine ((IB y.x.f.t).5 (12*aa) d ρ (lP aa i) m y.x y.i k).mpr <|bC (cS c hy 0 rfl) c.rn bd ⟨iA,bC (x:=y.x.tick) (n:=y.i+1) (cS c hy 1 rfl) c.rn bd.tick <|RB (adU bd.nB.1) λa w t tw t2 kJ=>?_⟩
 exact Nx c hy rfl rfl rfl (pA (cN true y.x.s.tick.tick a w t tw) t2 kJ) rfl (bd.tick.tick.cN.pA.le (abW _ 25)) ⟨[Ir (eX true (cN true y.x.s.tick.tick a w t tw).m)],(congrArg (app · _) kC).trans (ez _ _).symm,rfl⟩ (Kp.tick.trans (Kp.tick.trans (Kp.cN.trans .pA))) (c.rel.tick.tick.cN.pA jm (c:=aI m) rfl) rfl⟩
theorem F6{ks:cI}{r:cB}{ex:aq}(hx:∀n,r =.err n->∀f s,eL (fW f s (cat mU ex)) n)(h:k (r,[]) (fW x.f x.s (cat mU ex))):XZ ks ρ r (rS x [] (bP x.s.m x.s.E) ex) k:=λdS _ _=>
 ic (s:=x.s) (D:=jD x.s.m) (fr:=[.ref 18]) (k:=2) (ex:=frF x.f::knO x.f.t x.f.kn::Nh (eB x.R x.U) x.ak 25 :: .gone :: .gone :: .gone :: .gone :: .list [] []::ex) rfl <|ic (k:=7) rfl <|.pure ⟨λn e=>hx n e _ _,h⟩
theorem eK.ln(h:eK s line g):line=g.line:=h.casesOn λ_ _ _ _ _ l _=>l
theorem LC.out(c:LC aa i y k):LK y.x.s y.x.f y.n (dW y.x.s.depth y.ds (len y.x.s.frames+1:Nat) y.x.f.w y.g) y.rt y.we y.ve k:=c.casesOn λ_ _ _ _ _ _ _ _ _ _ _ _ _ _ _ k=>k
theorem Yq{j:Nat}(c:LC aa (i+1) y k)(hy:y.ds =.cons (.mP j) ds):iZ aa i (rM y.x y.i) (rW y.x) k:=λd ρ hl=>.pure ⟨_,[_],cY,aaw.2 ⟨qm Ym,nofun⟩,by
 have bd:=c.yU hy rfl;have hj:j<4:=c.casesOn λ_ ok _ _ _ _ _ _ _ _ _ _ _ _ _ _=>by rw [hy] at ok;exact ok.1
 refine ((agd y.x.f.t hj).1 (12*aa) d ρ (lP aa i) y.x y.i k).mpr <|bC (cS c hy 0 rfl) c.rn bd ⟨iA,bC (x:=y.x.tick) (n:=y.i+1) (cS c hy 1 rfl) c.rn bd.tick ⟨qo,iA,RD hj c.ln <|F6 (x:=y.x.tick.tick) (λn e f s=>by cases e;exact ⟨_,_,_,_,rfl⟩) ?_⟩⟩
 have hk:=c.out;rw [hy] at hk;have z:k (cB.err 26,[]) (fW y.x.f y.x.s.tick.tick (cat mU [Iw (o8 (vq j y.g.line))])):=hk y.x.s.tick.tick y.x.f.line y.x.f.kn ⟨c.rel.tick.tick,e0,bd.tick.tick.le (by lia),Kp.tick.trans .tick,c.kf,c.ln⟩
 rw [← c.rel.ln] at z;exact z⟩
theorem Yr(c:LC aa (i+1) y k)(hy:y.ds =.nil)(j:Nat){row:CV}(h:af (iy y.we y.ve y.rt) j=some row):af y.x.R (y.i+j)=some row:=by
 refine bB λgg=>?_;obtain ⟨hi,ok,R,U,T,rn,un,tn,w,we,_,_,_,pl,_,hk⟩:=c;refine gg ?_;have hc:y.c=aG .nil y.ns y.nt:=congrArg (aG · y.ns y.nt) hy
 rw [hc] at R;exact bB λgg=>R.elim λpre z=>z.casesOn λe l=>gg <|by rw [e,← l,dJ];exact h
theorem yV{r:Bool}{w:Nat}{v:Int}(n:Nat)(e:Nj r w v =.err n)(f:FR)(s:MS):eL (fW f s (cat mU (Nk r w v))) n:=by
 cases r with
 |false=>cases e
 |true=>cases e;exact ⟨_,_,_,_,rfl⟩
theorem LC.we(c:LC aa i y k):y.we<3:=c.casesOn λ_ _ _ _ _ _ _ _ _ we _ _ _ _ _ _=>we
theorem Ny{r:Bool}{w:Nat}{v:Int}:∃c cs,TM r w v=c::cs/\gU zd c/\∀c'∈cs,gU zd c':=by
 induction w with
 |zero=>exact ⟨_,_,rfl,cY,ff⟩|succ w=>
  induction w with
  |zero=>exact ⟨_,_,rfl,cY,aaw.2 ⟨cY,ff⟩⟩|succ w=>exact ⟨_,_,rfl,cY,aaw.2 ⟨cY,aaw.2 ⟨cY,ff⟩⟩⟩
theorem RM{rt:Bool}{we ve:Nat}(c:LC aa (i+1) y k)(hy:y.ds =.nil)(h:∀(j:Nat){row:CV},af (iy we ve rt) j=some row->af y.x.R (y.i+j)=some row)(hw:we<3)(hk:∀s',jH y.x.s y.x.f.t y.n y.g s' y.x.f.line y.x.f.kn->k (Nj rt we ve,[]) (fW y.x.f s' (cat mU (Nk rt we ve)))):Nl ρ rt we ve y.x y.i k:=by
 have bd:Bd (10+y.n) y.x.s y.x.f.kn:=c.casesOn λ_ _ _ _ _ _ _ _ _ _ _ bd _ _ _ _=>by rw [hy] at bd;exact bd.le (adW (by show _=30*0+10+y.n;lia))
 have bd:Bd (y.n+10) y.x.s y.x.f.kn:=bd.le (adW (aeh ..));have fin:∀{s':MS}{m:Nat},Bd (y.n+m) s' y.x.f.kn->eK s' y.x.f.line y.g->Kp y.x.s s'->s'.E=y.x.s.E->jH y.x.s y.x.f.t y.n y.g s' y.x.f.line y.x.f.kn:=λb r q e=>⟨r,.eq e,b.le (abW ..),q,c.kf,c.ln⟩;revert h hk;refine dB (P:=λwe=>(∀(j:Nat){row:CV},af (iy we ve rt) j=some row->af y.x.R (y.i+j)=some row)->(∀s',jH y.x.s y.x.f.t y.n y.g s' y.x.f.line y.x.f.kn->k (Nj rt we ve,[]) (fW y.x.f s' (cat mU (Nk rt we ve))))->Nl ρ rt we ve y.x y.i k) (λh hk=>?_) (λh hk=>?_) (λh hk=>?_) hw
 ·exact bC (h 0 rfl) c.rn bd <|F6 (x:=y.x.tick) yV (hk _ (fin (m:=9) bd.tick c.rel.tick .tick rfl))
 ·exact bC (h 0 rfl) c.rn bd ⟨iA,bC (x:=y.x.tick) (n:=y.i+1) (h 1 rfl) c.rn bd.tick <|F6 (x:=y.x.tick.tick) yV (hk _ (fin (m:=8) bd.tick.tick c.rel.tick.tick (Kp.tick.trans .tick) rfl))⟩
 ·exact bC (h 0 rfl) c.rn bd ⟨iA,bC (x:=y.x.tick) (n:=y.i+1) (h 1 rfl) c.rn bd.tick ⟨iA,bC (x:=y.x.tick.tick) (n:=y.i+1+1) (h 2 rfl) c.rn bd.tick.tick <|F6 (x:=y.x.tick.tick.tick) yV (hk _ (fin (m:=7) bd.tick.tick.tick c.rel.tick.tick.tick (Kp.tick.trans (Kp.tick.trans .tick)) rfl))⟩⟩
theorem Ys(c:LC aa (i+1) y k)(hy:y.ds =.nil):iZ aa i (rM y.x y.i) (rW y.x) k:=λd ρ hl=>.pure <|by
 refine bB λgg=>?_;obtain ⟨c1,cs,e,h1,h2⟩:=Ny (r:=y.rt) (w:=y.we) (v:=y.ve);refine gg ?_;refine ⟨c1,cs,h1,h2,?_⟩;show mF (12*aa+20) d ρ (lP aa i) (c1::cs) (rM (RC.t y.x y.x.f.t) y.i) (rW (RC.t y.x y.x.f.t)) k;rw [← e];refine ((acD y.x.f.t y.rt c.we).1 (12*aa) d ρ (lP aa i) y.ve y.x y.i k).mpr <|RM c hy (Yr c hy) c.we λs' p=>?_
 have hk:=c.out;rw [hy] at hk;exact hk s' _ _ p
end
inductive GC(aa:Nat)(t:Bool)(T:az)(depth:Int)(many:Nat)(g:GS)(m:Nat)(y:GX):Prop
 |mk (tx:y.s.texts=T) (de:y.s.depth=depth) (fr:len y.s.frames+1=many) (rel:eK y.s y.line g) (bd:Bd m y.s y.kn) (kf:t=false->y.kn=[]) (pl:nC t y.piled aa/\len y.s.frames+aa<=100) (ln:0<=y.line/\y.line<19)
structure GY where
 t:Bool
 w:Nat
 ds:aK
 nt:Nat
 rt:Bool
 v:Nat
 T:az
 depth:Int
 many:Nat
 g:GS
 n:Nat
def GY.c(z:GY):yx:=aG z.ds 0 z.nt
def GY.r(z:GY):GS×Option DV:=dW z.depth z.ds z.many z.w z.g
def GY.p(z:GY)(aa:Nat):GP:=⟨12*aa+2,z.t,z.w,eB (cat z.c.rows (iy z.w z.v z.rt)) z.c.subs,z.w,GC aa z.t z.T z.depth z.many z.g (30*z.ds.cZ+10+z.n),λy=>jH y.s z.t z.n z.r.1⟩
def ID(aa:Nat):Prop:=∀(cx:Cx Prop)(z:GY),cx.top=cg->z.w<3->fD aa z.ds->(∃pre post,Nr z.T pre z.c.texts post z.nt)->len z.c.rows<=800000->len z.c.subs<=900000->z.nt+len z.c.texts<=90->aV cx 1247 (cG pB (Of (z.p aa) (j3 z.r.2 z.rt z.w z.v)))
section
variable{aa i n:Nat}{y:LX}{k:KL}{d:dR}{ds:aK}{x x':RC}{g g':GS}{s s':MS}{line:Int}{ρ:bR}{b:Bool}{v:At}{F kn:az}{L:az}{KP:List SV}{q:Prop}
theorem eK.fr(h:eK s line g):eK (s.fr F) line g:=h.casesOn λa1 a2 a3 a4 a5 a6 a7=>⟨a1,a2,a3,a4,a5,a6,a7⟩
theorem Bd.fr{kn:gI}(h:Bd n s kn):Bd n (s.fr F) kn:=h.casesOn λa b c d e=>⟨a,b,c,d,e⟩
theorem Bd.drop{kn:gI}(h:Bd n s kn):Bd n s []:=h.casesOn λa b c d e=>⟨a,b,c,aco (afQ (adK _) _) d,ff⟩
theorem eK.pD(h:eK s line g)(e:s.E=KP):eK (aT.dG s KP []) line g:=by subst e;exact h
theorem Bd.pD{kn:gI}(h:Bd n s kn)(e:s.E=KP):Bd n (aT.dG s KP []) kn:=by subst e;exact h
theorem rX{α:Type}(l:List α):af l (len l)=none:=AM (abv _)
theorem eK.kept(h:eK s line g):g.kept.map dP=(kV s.E).map some:=h.casesOn λ_ _ _ _ k _ _=>k
theorem eK.ac7(h:eK s line g)(hok:kN L=true):eK (s.tell (.lst L)) line ⟨cat g.told [.lst L],g.fault,g.g,g.kept,g.line⟩:=h.casesOn λa1 a2 a3 a4 a5 a6 a7=>by
 refine ⟨?_,?_,a3,a4,a5,a6,a7⟩
 ·show eG (app s.told _)=eG (cat g.told _)
  rw [ez,(jE ..).1,(jE ..).1,a1]
 ·show kN (app s.told _)=true
  rw [(jE ..).2,a2];exact hok
theorem Yt{w:Nat}{o:Option Int}(h:q):evH w o q:=by
 cases w<;>cases o
 ·exact ⟨iA,qo,h⟩
 ·exact ⟨TU _,iA,qo,h⟩
 ·exact ⟨iA,iA,h⟩
 ·exact ⟨qo,qo,h⟩
theorem mu{w j0 ks:Nat}{o:Option Int}(c:LC aa (i+1) y k)(hy:y.ds =.cons d ds)(hr:w≠0->af (bG d y.ns y.nt).rows (j0+1)=some bV)(hl:len (bG d y.ns y.nt).rows=j0+1+len (ek w))(s:MS)(kn:gI)(rel:eK s y.x.f.line g)(bd:Bd (30*ds.cZ+10+y.n+2) s kn)(e:ql y.x.s.E s.E)(kp:Kp y.x.s s)(kf:y.x.f.t=false->kn=[])
  (tail:az) (ht:(w=0/\tail=[])∨(w≠0/\tail=[.lst L]/\kN L=true)) (hg:uS y.x.s.depth d (len y.x.s.frames+1:Nat) y.x.f.w y.g=(⟨cat g.told tail,g.fault,g.g,g.kept,g.line⟩,none)) :
  DC ρ (lP aa i) w o [.c (.lst L)] ks ⟨⟨y.x.f.t,y.x.f.w,y.x.f.line,y.x.f.fk,y.x.f.piled,kn⟩,s,y.x.R,y.x.U,y.x.ak⟩ (y.i+j0:Nat) k:=by
 induction w with
 |zero=>
  induction ht with
  |inr z=>exact (z.1 rfl).elim|inl z=>
   refine λdS _ _=>.pure ?_;rw [z.2,au] at hg;exact F4 (x':=⟨⟨y.x.f.t,y.x.f.w,y.x.f.line,y.x.f.fk,y.x.f.piled,kn⟩,s,y.x.R,y.x.U,y.x.ak⟩) c hy (j0+1) hl rfl rfl rfl rfl rfl rfl e kp rel (bd.le (abW _ 2)) kf c.ln hg
 |succ w=>
  induction ht with
  |inl z=>exact nomatch z.1
  |inr z=>
   refine ⟨iA,bC (x:=⟨⟨y.x.f.t,y.x.f.w,y.x.f.line,y.x.f.fk,y.x.f.piled,kn⟩,s,y.x.R,y.x.U,y.x.ak⟩) (n:=y.i+(j0+1)) (cS c hy (j0+1) (hr nofun)) c.rn bd ⟨qo,Yt ⟨bd.nB.2.2.1,λdS _ _=>yT <|.pure ?_⟩⟩⟩
   rw [z.2.1] at hg;exact F4 (x':=⟨⟨y.x.f.t,y.x.f.w,y.x.f.line,y.x.f.fk,y.x.f.piled,kn⟩,s.tick.tell (.lst L),y.x.R,y.x.U,y.x.ak⟩) c hy (j0+2) hl rfl rfl rfl rfl rfl rfl e (kp.trans (Kp.tick.trans .tell)) (rel.tick.ac7 z.2.2) bd.tick.tell kf c.ln hg
end
section
variable{aa i n:Nat}{y:LX}{k:KL}{d:dR}{ds cy:aK}{x x':RC}{g g' st:GS}{s s':MS}{line:Int}{ρ:bR}{b:Bool}{v:At}{KP more:List SV}{q:Prop}{hd:Hd}{G:MS->Prop}{kn dc:gI}{dv:DV}{w m:Nat}
theorem Nz(rel:eK s line g)(bd:Bd n s kn)(e:s.E=cat KP more)(hk:st.kept.map dP=(kV KP).map some){mk:Int}(hm:mk=(len KP:Nat)){c1:Nat}{l2:Int}
  (h:∀s',eK s' l2 ⟨g.told,.str (S0 ""),(af g.kept (len st.kept)).getD g.g,st.kept,l2⟩->Bd n s' kn->s'.E=KP->Kp s s'->G s'):wX hd s c1 mk λy3=>wX hd y3 (len y3.frames+1) mk λy4=>FU y4 (len y4.frames+1) (.str (S0 "")) G:=by
 subst hm;have r3:eK (dG s KP more) l2 _:=rel.dG (l2:=l2) e hk;have b3:=bd.dG e;refine jZ rfl (zj.of rel bd e) <|jZ (more:=[]) rfl (zj.of r3 b3 (au _).symm) <|ny rfl λa w t tw=>h _ ((r3.cN (b:=false) (a:=a) (w:=w) (t:=t) (tw:=tw)).vS (b:=false) jm rfl) (b3.cN.m) kC (Kp.dG.trans (Kp.cN.trans .vS))
theorem NB(rel:eK s line g)(bd:Bd n s kn)(e:s.E=cat KP more)(hk:st.kept.map dP=(kV KP).map some){mk:Int}(hm:mk=(len KP:Nat))(hd:jF dv){c1:Nat}{l2:Int}
  (h:∀s',eK s' l2 ⟨g.told,o8 dv,(af g.kept (len st.kept)).getD g.g,st.kept,l2⟩->Bd n s' kn->s'.E=KP->Kp s s'->G s'):wX .other s c1 mk λy3=>Zn dv (FU y3 (len y3.frames+1) (o8 dv) λy4=>wX .no y4 (len y4.frames+1) mk G):=by
 subst hm;have r3:eK (dG s KP more) l2 _:=rel.dG (l2:=l2) e hk;have b3:=bd.dG e;refine jZ rfl (zj.of rel bd e) <|Yi hd <|(Yj dv).elim λv hv=>ny hv λa w t tw=>?_
 have r4:=(r3.cN (b:=false) (a:=a) (w:=w) (t:=t) (tw:=tw)).vS (b:=false) (c:=o8 dv) jm hv;have b4:Bd n (vS false (cN false (dG s KP more) a w t tw) v) kn:=b3.cN.m;have e4:(vS false (cN false (dG s KP more) a w t tw) v).E=KP:=kC;exact jZ (KP:=KP) (more:=[]) rfl (zj.of r4 b4 (e4.trans (au _).symm)) <|h _ (r4.pD e4) (b4.pD e4) rfl (Kp.dG.trans (Kp.cN.trans (Kp.vS.trans .dG)))
theorem jq(e:s.E=KP):DE s=(len KP:Nat):=e▸congrArg (λn:Nat=>(n:Int)) (lQ s.E)
theorem LC.pl(c:LC aa i y k):nC y.x.f.t y.x.f.piled aa/\len y.x.s.frames+aa<=100:=c.casesOn λ_ _ _ _ _ _ _ _ _ _ _ _ _ pl _ _=>pl
theorem mw{w v:Nat}{o:Option DV}:(w=0/\mR w o v=[])∨(w≠0/\mR w o v=[.lst (match o with|none=>[aI v]|some _=>wY w)]/\kN (match o with|none=>[aI v]|some _=>wY w)=true):=by
 induction w with
 |zero=>exact .inl ⟨rfl,rfl⟩|succ w=>exact .inr (by induction o with|none=>exact ⟨nofun,rfl,rfl⟩|some d=>exact ⟨nofun,rfl,by cases w<;>rfl⟩)
theorem Yu{p:GP}{o:RO}{cx:Cx Prop}(ht:cx.top=cg)(h:aV cx 1247 (cG pB (Of p o))):∀q∈spE p o,aV cx q.1 q.2:=bE (Ds ht) (bE h (bE (uI ht) (bE (DA ht) ff)))
theorem Bu{p:GP}{o:RO}{j:Nat}(h:∀cx:Cx Prop,cx.top=cg->aV cx 1247 (cG pB (Of p o))):∃c cs,FW p o j=c::cs/\gU zd c/\∀c'∈cs,gU zd c':=by
 have h1:∀{r a},gU zd (X5 (spE p o) r a []):=⟨fR (Yu rfl (h _ rfl)) ff ff,rfl⟩;unfold FW;induction p.e with
 |zero=>exact ⟨_,_,rfl,h1,ff⟩|succ e=>exact ⟨_,_,rfl,h1,aaw.2 ⟨cY,ff⟩⟩
theorem LC.bdE{t rt:Bool}{wn v:Nat}(c:LC aa i y k)(hy:y.ds =.cons (.ev t wn cy v rt) ds):Bd (30*cy.cZ+10+(30*ds.cZ+10+y.n+8)+12) y.x.s y.x.f.kn:=c.casesOn λ_ _ _ _ _ _ _ _ _ _ _ bd _ _ _ _=>bd.le (by rw [hy];show _<=30*(cy.cZ+1+ds.cZ)+10+y.n;lia)
theorem lR(n:Nat):idx n=(n:Nat):=by unfold idx;lia
def yW(y:LX)(ds cy:aK)(wn v:Nat)(rt:Bool):GY:=⟨y.x.f.t,wn,cy,y.nt,rt,v,y.x.s.texts,y.x.s.depth,len y.x.s.frames+1,y.g.begin,30*ds.cZ+10+y.n+8⟩
theorem Yv{wn v:Nat}{rt:Bool}(c:LC aa (i+1) y k)(hy:y.ds =.cons (.ev false wn cy v rt) ds):af y.x.U y.ns=some ((aG cy 0 y.nt).code (iy wn v rt))/\y.ns<1000000:=by
 refine bB λgg=>?_;obtain ⟨hi,ok,R,U,T,rn,un,tn,w,we,_,_,_,pl,_,hk⟩:=c;refine gg ?_;have hc:y.c=aG (.cons (.ev false wn cy v rt) ds) y.ns y.nt:=congrArg (aG · y.ns y.nt) hy
 rw [hc] at U;exact bB λgg=>U.elim λpre z=>z.casesOn λe l=>gg <|by
  have q:af y.x.U y.ns=some ((aG cy 0 y.nt).code (iy wn v rt)):=by
   rw [e,← l];exact (dJ (j:=0)).trans rfl
  exact ⟨q,by have:=cQ q;lia⟩
theorem TX{wn v:Nat}{t rt:Bool}(hgv:ID aa)(c:LC (aa+1) (i+1) y k)(hy:y.ds =.cons (.ev t wn cy v rt) ds)(z:GY)(e1:z.w=wn)(e2:z.ds=cy)(e3:z.nt=y.nt)(e4:z.T=y.x.s.texts):wn<3/\fD aa cy/\∀cx:Cx Prop,cx.top=cg->aV cx 1247 (cG pB (Of (z.p aa) (j3 z.r.2 z.rt z.w z.v))):=by
 have hs:cy.cZ<=1000:=(c.bdE hy).casesOn λ_ _ _ ku _=>by lia
 refine bB λgg=>?_;obtain ⟨hi,ok,R,U,T,rn,un,tn,w,we,_,_,_,pl,_,hk⟩:=c;refine gg ?_;rw [hy] at ok;have hc:y.c=aG (.cons (.ev t wn cy v rt) ds) y.ns y.nt:=congrArg (aG · y.ns y.nt) hy
 rw [hc] at T tn;have o:=ok.1;have sz:(aG cy 0 y.nt).tot<=5*cy.cZ:=gu cy 0 y.nt;unfold yx.tot at sz;have tx:∃post',(aG (.cons (.ev t wn cy v rt) ds) y.ns y.nt).texts=cat (aG cy 0 y.nt).texts post':=by
  induction t with
  |true=>exact ⟨_,aP _ _ _⟩|false=>exact ⟨_,rfl⟩
 refine ⟨o.1,o.2.1,λcx ht=>hgv cx z ht (e1▸o.1) (e2▸o.2.1) ?_ ?_ ?_ ?_⟩
 ·unfold GY.c
  rw [e2,e3,e4];exact bB λgg=>T.elim λpre q=>q.elim λpost q=>q.casesOn λe l=>tx.elim λp2 h2=>gg <|⟨pre,cat p2 post,by rw [e,h2,aP],l⟩
 ·unfold GY.c
  rw [e2,e3];lia
 ·unfold GY.c
  rw [e2,e3];lia
 ·unfold GY.c
  rw [e2,e3];exact tx.elim λp2 h2=>by rw [h2,len_cat] at tn;lia
end
section
variable{aa i n:Nat}{y:LX}{k:KL}{d:dR}{ds cy:aK}{ρ:bR}{wn v:Nat}{rt:Bool}
theorem Bv{ns nt:Nat}(hr:wn≠0):af (bG (.ev false wn cy v rt) ns nt).rows 1=some bV:=by
 induction wn with
 |zero=>exact (hr rfl).elim|succ w=>rfl
theorem F7{ns nt:Nat}:len (bG (.ev false wn cy v rt) ns nt).rows=0+1+len (ek wn):=(aeh ..).trans (congrArg (· + len (ek wn)) (aeb 1).symm)
theorem F8(c:LC (aa+1) (i+1) y k)(hy:y.ds =.cons (.ev false wn cy v rt) ds)(ok:fD aa cy){p:GP}{f:FR}(hp:p=(yW y ds cy wn v rt).p aa)(hf:f=⟨y.x.f.t,wn,y.x.f.line,y.x.f.fk,y.x.f.piled,y.x.f.kn⟩){dp:Nat}(fK:p.nd+20<=dp){G:GX->MS->Int->gI->Prop}(y1:MS)(rel:eK y1 y.x.f.line y.g.begin)(bd:Bd (30*cy.cZ+10+(30*ds.cZ+10+y.n+8)) y1 y.x.f.kn)(he:y1.E=y.x.s.E)(kp:Kp y.x.s y1)
  (h:∀F s' aF dc more,eK s' aF (yW y ds cy wn v rt).r.1->Bd (30*ds.cZ+10+y.n+8) s' dc->s'.E=cat y.x.s.E more->Kp y.x.s s'->(y.x.f.t=false->dc=[])->G ⟨y1.fr F,y.x.f.line,y.x.f.fk,y.x.f.piled,y.x.f.kn⟩ s' aF dc):gvV p f y1 (len y1.frames+0) dp G:=by
 subst hp hf;have kp0:=kp;obtain ⟨k1,k2,k3,k4⟩:=kp0;refine Np fK rfl rfl λF hF=>⟨⟨k2,k3,by show len F+1=len y.x.s.frames+1;rw [hF,k1],rel.fr,bd.fr,c.kf,?_,c.ln⟩,λs' aF dc hq=>?_⟩
 ·have pl:=c.pl
  refine ⟨?_,by show len F+aa<=100;rw [hF,k1];have:=pl.2;lia⟩
  have pl:=pl.1;show nC y.x.f.t y.x.f.piled aa;induction e:y.x.f.t with
  |false=>trivial|true=>rw [e] at pl;exact ⟨pl.1,by have:=pl.2;lia⟩
 ·obtain ⟨r,⟨more,e,na⟩,b,TY,kf,ln⟩:=hq
  have hfr:s'.frames=F:=TY.casesOn λa _ _ _=>a;refine ⟨hfr,h F _ aF dc more r.fr b.fr (e.trans (congrArg (cat · more) he)) (kp.trans ?_) kf⟩
  exact TY.casesOn λa1 a2 a3 a4=>⟨rfl,a2,a3,a4⟩
theorem Yw(hgv:ID aa)(c:LC (aa+1) (i+1) y k)(hy:y.ds =.cons (.ev false wn cy v rt) ds):iZ (aa+1) i (rM y.x y.i) (rW y.x) k:=λd ρ hl=>.pure <|by
 refine bB λgg=>?_;obtain ⟨hw,ok,hs⟩:=TX hgv c hy (yW y ds cy wn v rt) rfl rfl rfl rfl;refine gg ?_;have sub:=Yv c hy;have bd:=c.bdE hy;have IC:IC y.x.U y.ns ((yW y ds cy wn v rt).p aa).code:=⟨by rw [lR];lia,by rw [lR];have:=sub.2;lia,by rw [lR];exact oW sub.1⟩
 have IE:af y.x.R y.i=some (iV y.ns wn):=cS c hy 0 rfl;have hg:∀out,(yW y ds cy wn v rt).r.2=out->uS y.x.s.depth (.ev false wn cy v rt) (len y.x.s.frames+1:Nat) y.x.f.w y.g=(⟨cat (yW y ds cy wn v rt).r.1.told (mR wn out v),H8 out,(af (yW y ds cy wn v rt).r.1.kept (len y.g.kept)).getD (yW y ds cy wn v rt).r.1.g,y.g.kept,y.x.f.line⟩,none):=λout e=>by rw [c.rel.ln,← e];rfl
 induction ho:(yW y ds cy wn v rt).r.2 with
 |none=>
  rw [ho] at hs;refine bB λgg=>?_;obtain ⟨c1,cs,e,h1,h2⟩:=Bu (j:=y.ns) hs;refine gg ?_;refine ⟨c1,cs,h1,h2,?_⟩;rw [← e];refine ((agh y.x.f.t rt hw).1 (12*aa+2) d ρ (lP (aa+1) i) y.ns v _ _ _ _ y.x y.i k).mpr <|bC IE c.rn bd ⟨IC,ny rfl λa w t tw=>?_⟩
  have vz:=(c.rel.tick.cN (b:=false) (a:=a) (w:=w) (t:=t) (tw:=tw)).vS (b:=false) (c:=.str (S0 "")) jm rfl;have hE:(vS false (cN false y.x.s.tick a w t tw) (.str (S0 ""))).E=y.x.s.E:=kC;refine ⟨(bd.tick.cN.m (m:=_)).nB.2.2.2,F8 c hy ok rfl rfl (by show 12*aa+2+20<=d+(12*aa+2+25);lia) _ vz (bd.tick.cN.m.le (abW _ 11)) kC (Kp.tick.trans (Kp.cN.trans .vS)) λF s' aF dc more r b e2 kp kf=>?_⟩
  refine Nz (st:=y.g) (KP:=y.x.s.E) (l2:=y.x.f.line) r b e2 c.rel.kept (jq hE) λs5 r5 b5 e5 k5=>?_;exact mu (o:=some v) (j0:=0) c hy Bv F7 s5 dc r5 (b5.le (abW _ 6)) (.eq e5) (kp.trans k5) kf _ (mw (o:=none)) (hg none ho)
 |some dv=>
  rw [ho] at hs;have hd:jF dv:=pC cy ok (by show 0<=y.g.line/\y.g.line<19;rw [← c.rel.ln];exact c.ln) ho
  refine bB λgg=>?_;obtain ⟨c1,cs,e,h1,h2⟩:=Bu (j:=y.ns) hs;refine gg ?_;refine ⟨c1,cs,h1,h2,?_⟩;rw [← e];refine ((acN y.x.f.t hw hd.dv).1 (12*aa+2) d ρ (lP (aa+1) i) y.ns _ _ _ _ y.x y.i k).mpr <|bC IE c.rn bd ⟨IC,ny rfl λa w t tw=>?_⟩
  have vz:=(c.rel.tick.cN (b:=false) (a:=a) (w:=w) (t:=t) (tw:=tw)).vS (b:=false) (c:=.str (S0 "")) jm rfl;have hE:(vS false (cN false y.x.s.tick a w t tw) (.str (S0 ""))).E=y.x.s.E:=kC;refine ⟨(bd.tick.cN.m (m:=_)).nB.2.2.2,F8 c hy ok rfl rfl (by show 12*aa+2+20<=d+(12*aa+2+25);lia) _ vz (bd.tick.cN.m.le (abW _ 11)) kC (Kp.tick.trans (Kp.cN.trans .vS)) λF s' aF dc more r b e2 kp kf=>?_⟩
  refine NB (st:=y.g) (KP:=y.x.s.E) (l2:=y.x.f.line) r b e2 c.rel.kept (jq hE) hd λs5 r5 b5 e5 k5=>?_;exact mu (o:=none) (j0:=0) c hy Bv F7 s5 dc r5 (b5.le (abW _ 6)) (.eq e5) (kp.trans k5) kf _ (mw (o:=some dv)) (hg (some dv) ho)
end
theorem F9:∀m,m<100->(Ry m).cps.size<3/\mW (.str (Ry m)) (.str (S0 "no program"))=false:=by unfold Ry;decide +kernel
theorem min_le(n:Int):(match fX 500 n with|true=>500|false=>n)<=500:=by
 induction e:fX 500 n with
 |true=>exact aen _|false=>exact Int.not_lt.1 (of_decide_eq_false e)
section
variable{aa i n m j:Nat}{y:LX}{k:KL}{d:dR}{ds cy:aK}{ρ:bR}{wn v:Nat}{rt t:Bool}{p:GP}{kn:gI}{g:GS}{s y1 y2:MS}{line piled:Int}{q:Prop}{code:CV}
theorem NC(h:nC t piled (aa+1))(hd:aa+1<=3):0<=Rz t piled/\Rz t piled+4*aa<=20:=by
 induction t with
 |false=>show (0:Int)<=4/\4+4*(aa:Int)<=20;lia|true=>have a:=h.1;have b:=h.2;show 0<=piled+0+4/\piled+0+4+4*(aa:Int)<=20;lia
theorem Yx{a b:Int}(h1:a<=24)(h2:b<=500):fX 880 (a+b)=false:=wN (by lia)
theorem Yy(h:nC t piled (aa+1))(hd:aa+1<=3)(hj:j<100)(k:q):rdH t piled (Ry j) q:=
 ⟨by have:=(F9 j hj).1;unfold aW;lia,Yx (by have a:=(NC h hd).2;show Rz t piled<=24;lia) (min_le _),k⟩
inductive TA(y:LX)(m:Nat)(y1 y2:MS):Prop
 |mk (e1:y1.E=y.x.s.E) (k1:Kp y.x.s y1) (rel:eK y2 y.x.f.line y.g.begin) (bd:Bd m y2 y.x.f.kn) (e2:y2.E=y.x.s.E) (kp:Kp y.x.s y2) (u:bf y2.m.u=true) (kl:∀k∈y.x.f.kn,k<=y1.last) (la:y1.made.last<=y2.last)
theorem yX{Q:MS->MS->Prop}(c:LC (aa+1) (i+1) y k)(hd:aa+1<=3)(h0:af y.x.R y.i=some (cj (C6 j)))(h1:af y.x.R (y.i+1)=some (jW p.e))(hc:af y.x.s.texts j=some p.code)(hj:j<100)(bd:Bd (m+3) y.x.s y.x.f.kn)(h:∀y1 y2,TA y m y1 y2->Q y1 y2):RA p j y.x.f.t y.x y.i Q:=by
 refine bC h0 c.rn bd ⟨iA,bC (x:=y.x.tick) (n:=y.i+1) h1 c.rn bd.tick ⟨rfl,rfl,ny rfl λa w t tw=>?_⟩⟩;have vz:=(c.rel.tick.tick.cN (b:=false) (a:=a) (w:=w) (t:=t) (tw:=tw)).vS (b:=false) (c:=.str (S0 "")) jm rfl;have yU:Bd (m+1) (vS false (cN false y.x.s.tick.tick a w t tw) (.str (S0 ""))) y.x.f.kn:=bd.tick.tick.cN.m;have e1:(vS false (cN false y.x.s.tick.tick a w t tw) (.str (S0 ""))).E=y.x.s.E:=kC;have k1:Kp y.x.s (vS false (cN false y.x.s.tick.tick a w t tw) (.str (S0 ""))):=Kp.tick.trans (Kp.tick.trans (Kp.cN.trans .vS));have hx:(vS false (cN false y.x.s.tick.tick a w t tw) (.str (S0 ""))).texts=y.x.s.texts:=k1.casesOn λ_ a _ _=>a;have hf:(vS false (cN false y.x.s.tick.tick a w t tw) (.str (S0 ""))).frames=y.x.s.frames:=k1.casesOn λa _ _ _=>a;revert vz yU e1 k1 hx hf;generalize vS false (cN false y.x.s.tick.tick a w t tw) (.str (S0 ""))=y1;intro vz yU e1 k1 hx hf;refine ⟨yU.nB.2.2.2,Yy c.pl.1 hd hj ⟨(F9 j hj).2,⟨by rw [lR];lia,by rw [lR];lia,rfl⟩,⟨by rw [lR];lia,by rw [lR];lia,by rw [au,hx,lR];exact oW hc⟩,yU.nB.2.1,Yg λa w t tw it=>?_⟩⟩
 have hf2:(qi y1.made a w t tw it).frames=y1.frames:=Kp.qi.casesOn λa _ _ _=>a;refine ⟨by rw [hf2,hf];have:=c.pl.2;unfold aW;lia,h y1 _ ⟨e1,k1,vz.made.qi,yU.made.qi,acX.trans e1,k1.trans (Kp.made.trans .qi),acY,yU.casesOn λ_ _ _ _ kl=>kl,Kp.qi.casesOn λ_ _ _ la=>la⟩⟩
def Bw(y:LX)(ds cy:aK)(wn v:Nat)(rt:Bool):GY:=⟨true,wn,cy,y.nt,rt,v,y.x.s.texts,y.x.s.depth,len y.x.s.frames+1+1,y.g.begin,30*ds.cZ+10+y.n+8⟩
theorem Kp.fr0(h:Kp s y1):y1.frames=s.frames:=h.casesOn λa _ _ _=>a
theorem Kp.de(h:Kp s y1):y1.depth=s.depth:=h.casesOn λ_ _ a _=>a
theorem not_mem{k:Int}(h:∀x∈kn,x<=line)(hk:line<k):(!(decide (k∈kn)))=true:=by
 rw [decide_eq_false λq=>absurd (h k q) (Int.not_le.2 hk)];rfl
theorem ND(h:nC t piled (aa+1))(hk:t=false->kn=[])(hl:∀x∈kn,x<=line)(hn:6*len kn+6<=5400)(k:q):TN t piled (line+1) kn q:=by
 induction t with
 |false=>exact k|true=>exact ⟨not_mem hl (Int.lt_add_one_iff.2 (aen _)),⟨rfl,by lia⟩,.head _,wN (by have:=h.1;have:=h.2;lia),k⟩
theorem NF{n:Int}(k:q):TP t n kn q:=by
 refine ⟨iA,⟨aen _,by decide⟩,?_⟩
 induction t with
 |false=>exact ⟨.head _,k⟩|true=>exact ⟨by rw [decide_eq_true (List.mem_cons_self:n∈n::kn)];rfl,.head _,k⟩
theorem Yz{n:Int}(hk:t=false->kn=[]):knT t n kn=n::kn:=by
 induction t with
 |false=>rw [hk rfl];rfl|true=>rfl
theorem Ga{Q:GX->MS->gI->Prop}(c:LC (aa+1) (i+1) y k)(hd:aa+1<=3)(ok:fD aa cy)(hp:p=(Bw y ds cy wn v rt).p aa)(T:TA y (30*cy.cZ+10+(30*ds.cZ+10+y.n+8)+9) y1 y2)(DK:fX y.x.s.depth (len y.x.s.frames+1:Nat)=false){d:Nat}
  (h:∀y' s4 aF zk more,eK s4 aF (Bw y ds cy wn v rt).r.1->Bd (30*ds.cZ+10+y.n+8) s4 zk->s4.E=cat y2.E more->Kp y.x.s s4->Q y' s4 zk):X8 p d y.x.f.t y.x y1 y2 Q:=by
 subst hp;obtain ⟨e1,k1,rel,bd,e2,kp,u,kl,la⟩:=T;have hf:=kp.fr0;refine ⟨by rw [kp.de,hf];exact DK,ND c.pl.1 c.kf kl (bd.casesOn λ_ _ _ ku _=>by lia) <|NF ⟨bd.nB.2.2.2,by rw [hf];have:=c.pl.2;unfold aW;lia,Yh u (adU bd.nB.1) rfl λA=>Np (by show 12*aa+2+20<=d+(12*aa+2+23);lia) rfl rfl λF hF=>⟨⟨?_,?_,?_,(rel.Dt u).fr,?_,nofun,⟨NC c.pl.1 hd,?_⟩,c.ln⟩,λs' aF dc hq=>?_⟩⟩⟩
 ·exact kp.casesOn λ_ a _ _=>a
 ·exact kp.de
 ·show len F+1=len y.x.s.frames+1+1
  rw [hF,← hf];rfl
 ·show Bd (30*cy.cZ+10+(30*ds.cZ+10+y.n+8)) _ (knT y.x.f.t y1.made.last y.x.f.kn)
  rw [Yz c.kf];exact ((Bd.Dt (bd.le (abW _ 2))).cons la).fr
 ·show len F+aa<=100
  rw [hF,show (Dt y2).frames=y2.frames from rfl,hf]
  have:=c.pl.2;lia
 ·obtain ⟨r,⟨more,e,na⟩,b,TY,kf,ln⟩:=hq
  refine ⟨TY.fr0,h _ _ aF dc (⟨false,(uD y2.m).a,(uD y2.m).t,0,0,.none⟩::more) r.fr b.fr ?_ (kp.trans (Kp.Dt.trans ?_))⟩
  ·show s'.E=_
   rw [e];show cat (app y2.E _) more=_;rw [← ez,aP];rfl
  ·exact TY.casesOn λa1 a2 a3 a4=>⟨rfl,a2,a3,a4⟩
end
section
variable{aa i n m j:Nat}{y:LX}{k:KL}{d:dR}{ds cy:aK}{ρ:bR}{wn v:Nat}{rt t:Bool}{p:GP}{kn zk:gI}{g:GS}{s y1 y2:MS}{line:Int}{KP more:List SV}{c:CV}{G:MS->Prop}{mk:Int}{o:RO}
theorem NG(r3:eK s line g)(b3:Bd n s kn)(e:s.E=KP)(hc:∃v,dP c=some v)(hm:mk=(len KP:Nat))(h:∀s',eK s' line ⟨g.told,c,g.g,g.kept,g.line⟩->Bd n s' kn->s'.E=KP->Kp s s'->G s'):FU s (len s.frames+1) c λy4=>wX .no y4 (len y4.frames+1) mk G:=by
 subst hm;refine hc.elim λv hv=>ny hv λa w t tw=>?_;have r4:=(r3.cN (b:=false) (a:=a) (w:=w) (t:=t) (tw:=tw)).vS (b:=false) (c:=c) jm hv;have b4:Bd n (vS false (cN false s a w t tw) v) kn:=b3.cN.m;have e4:(vS false (cN false s a w t tw) v).E=KP:=kC.trans e;exact jZ (KP:=KP) (more:=[]) rfl (zj.of r4 b4 (e4.trans (au _).symm)) <|h _ (r4.pD e4) (b4.pD e4) rfl (Kp.cN.trans (Kp.vS.trans .dG))
theorem NH(h:Bd n s zk)(hk:t=false->kn=[]):Bd n s (knE t kn zk):=by
 induction t with
 |false=>show Bd n s kn;rw [hk rfl];exact h.drop|true=>exact h
theorem NI(hk:t=false->kn=[])(q:t=false):knE t kn zk=[]:=by subst q;exact hk rfl
theorem YA{cx:Cx Prop}(ht:cx.top=cg)(h:aV cx 1247 (cG pB (Of p o))):∀q∈spT p o,aV cx q.1 q.2:=bE (Ds ht) (bE (X7 h) (bE (uI ht) (bE (DA ht) (bE (Xz ht) (bE (XA ht) ff)))))
theorem DL{b:Bool}(h:∀cx:Cx Prop,cx.top=cg->aV cx 1247 (cG pB (Of p o))):∃c cs,cxT p o j b t=c::cs/\gU zd c/\∀c'∈cs,gU zd c':=by
 have h1:∀{a f r},gU zd ⟨cg,a,f,spT p o,r,[],[]⟩:=⟨fR (YA rfl (h _ rfl)) ff ff,rfl⟩;unfold cxT;induction p.e with
 |zero=>exact ⟨_,_,rfl,cY,aaw.2 ⟨h1,ff⟩⟩|succ e=>exact ⟨_,_,rfl,cY,aaw.2 ⟨h1,aaw.2 ⟨cY,ff⟩⟩⟩
theorem RN{w:Nat}:∃c cs,Yb w=c::cs/\gU zd c/\∀c'∈cs,gU zd c':=by
 have h1:∀{a f r},gU zd ⟨cg,a,f,[(1155,cG i9 Zl),(414,cG i9 Zm)],r,[],[]⟩:=⟨fR (bE (Ds rfl) (bE (uI rfl) ff)) ff ff,rfl⟩;unfold Yb;induction w with
 |zero=>exact ⟨_,_,rfl,cY,aaw.2 ⟨h1,ff⟩⟩|succ e=>exact ⟨_,_,rfl,cY,aaw.2 ⟨h1,aaw.2 ⟨cY,ff⟩⟩⟩
theorem uK{ns nt:Nat}(hr:wn≠0):af (bG (.ev true wn cy v rt) ns nt).rows 2=some bV:=by
 induction wn with
 |zero=>exact (hr rfl).elim|succ w=>rfl
theorem NJ{ns nt:Nat}(hr:wn≠0):af (bG (.qY wn v rt) ns nt).rows 2=some bV:=by
 induction wn with
 |zero=>exact (hr rfl).elim|succ w=>rfl
theorem rY{a b:CV}:len (cat [a,b] (ek wn))=1+1+len (ek wn):=aeh (len (ek wn)) 2
theorem RP(c:LC aa (i+1) y k)(hy:y.ds =.cons (.ev true wn cy v rt) ds):af y.x.s.texts (y.nt+len (aG cy 0 y.nt).texts)=some ((aG cy 0 y.nt).code (iy wn v rt))/\y.nt+len (aG cy 0 y.nt).texts<100:=by
 obtain ⟨hi,ok,R,U,T,rn,un,tn,w,we,_,_,_,pl,_,hk⟩:=c;have hc:y.c=aG (.cons (.ev true wn cy v rt) ds) y.ns y.nt:=congrArg (aG · y.ns y.nt) hy
 rw [hc] at T tn;have e2:(aG (.cons (.ev true wn cy v rt) ds) y.ns y.nt).texts=cat (aG cy 0 y.nt).texts (cat [(aG cy 0 y.nt).code (iy wn v rt)] _):=aP _ _ _;rw [e2] at T tn;refine ⟨T.elim λpre q=>q.elim λpost q=>q.casesOn λe l=>by rw [e,← l,dJ,aP];exact (dJ (j:=0)).trans rfl,?_⟩
 rw [len_cat] at tn;lia
theorem YB{cx:Cx Prop}(hp:∀y,¬p.C y):aV cx 1247 (cG pB (Of p o)):=eg (dN:=cx) (λF as aj S dp sh fK o hv k R h=>h.elim λy h=>(hp y h.2.2.2.2.1).elim) rfl
theorem YC(hgv:ID aa)(hd:aa+1<=3)(c:LC (aa+1) (i+1) y k)(hy:y.ds =.cons (.ev true wn cy v rt) ds):iZ (aa+1) i (rM y.x y.i) (rW y.x) k:=λd ρ hl=>.pure <|by
 refine bB λgg=>?_;obtain ⟨hw,ok,hs⟩:=TX hgv c hy (Bw y ds cy wn v rt) rfl rfl rfl rfl;refine gg ?_;have tx:=RP c hy;have bd:=c.bdE hy;have IE:af y.x.R y.i=some (cj (C6 (y.nt+len (aG cy 0 y.nt).texts))):=cS c hy 0 rfl;have YD:af y.x.R (y.i+1)=some (jW wn):=cS c hy 1 rfl;induction DK:fX y.x.s.depth (len y.x.s.frames+1:Nat) with
 |true=>
  have hg:uS y.x.s.depth (.ev true wn cy v rt) (len y.x.s.frames+1:Nat) y.x.f.w y.g=(gw y.g wn v (y.g.begin,some (gV (S0 "Deep recursion") y.g.line)),none):=by
   show (match fX y.x.s.depth (len y.x.s.frames+1:Nat) with|true=>_|false=>_:GS×Option DV)=_
   rw [DK]
  refine bB λgg=>?_;obtain ⟨c1,cs,e,h1,h2⟩:=DL (p:=⟨12*aa+2,true,wn,(aG cy 0 y.nt).code (iy wn v rt),wn,λ_=>False,λ_ _ _ _=>True⟩) (o:=.mP (.n 0)) (j:=y.nt+len (aG cy 0 y.nt).texts) (t:=y.x.f.t) (b:=true) λcx _=>YB λ_ h=>h;refine gg ?_;refine ⟨c1,cs,h1,h2,?_⟩;rw [← e];refine ((acZ y.x.f.t hw).1 (12*aa+2) d ρ (lP (aa+1) i) _ _ _ _ _ y.x y.i k).mpr <|yX c hd IE YD tx.1 tx.2 (bd.le (abv _)) λy1 y2 T=>?_
  refine bB λgg=>?_;obtain ⟨e1,k1,rel,RK,e2,kp,u,kl,la⟩:=T;refine gg ?_;refine ⟨by rw [kp.de,kp.fr0];exact DK,jZ (KP:=y1.E) (more:=[]) (jq rfl) (zj.of rel RK (e2.trans (e1.symm.trans (au _).symm))) <|yS c.ln (λm hm=>(DH m hm).2.2) λm hm=>?_⟩
  have e3:y2.E=y1.E:=e2.trans e1.symm;refine NG (KP:=y1.E) (rel.pD e3) (RK.pD e3) rfl ⟨_,rfl⟩ (jq rfl) λs' r b e5 k5=>?_;refine mu (o:=none) (j0:=1) c hy uK rY s' y.x.f.kn r (b.le (by lia)) (.eq (e5.trans e1)) (kp.trans (Kp.dG.trans k5)) c.kf _ (mw (o:=some (gV (S0 "Deep recursion") y.g.line)) (v:=v)) (hg.trans ?_)
  show ((⟨_,_,(af y.g.kept (len y.g.kept)).getD y.g.g,y.g.kept,y.g.line⟩:GS),none)=_;have hm:y.x.f.line=Int.ofNat m:=hm;have q:o8 (gV (S0 "Deep recursion") y.g.line) =.at (.str (uJ "Deep recursion" m)):=by rw [← c.rel.ln,hm];rfl
  rw [rX];exact congrArg (λz=>((⟨cat y.g.told (mR wn (some (gV (S0 "Deep recursion") y.g.line)) v),z,y.g.g,y.g.kept,y.g.line⟩:GS),(none:Option DV))) q
 |false=>
  have hg:∀out,(Bw y ds cy wn v rt).r.2=out->uS y.x.s.depth (.ev true wn cy v rt) (len y.x.s.frames+1:Nat) y.x.f.w y.g=(⟨cat (Bw y ds cy wn v rt).r.1.told (mR wn out v),H8 out,(af (Bw y ds cy wn v rt).r.1.kept (len y.g.kept)).getD (Bw y ds cy wn v rt).r.1.g,y.g.kept,y.x.f.line⟩,none):=λout e=>by
   rw [c.rel.ln,← e];show (match fX y.x.s.depth (len y.x.s.frames+1:Nat) with|true=>_|false=>_:GS×Option DV)=_
   rw [DK];rfl
  induction ho:(Bw y ds cy wn v rt).r.2 with
  |none=>
   rw [ho] at hs;refine bB λgg=>?_;obtain ⟨c1,cs,e,h1,h2⟩:=DL (j:=y.nt+len (aG cy 0 y.nt).texts) (t:=y.x.f.t) (b:=false) hs;refine gg ?_;refine ⟨c1,cs,h1,h2,?_⟩;rw [← e];refine ((agq y.x.f.t rt hw).1 (12*aa+2) d ρ (lP (aa+1) i) _ v _ _ _ _ y.x y.i k).mpr <|yX c hd IE YD tx.1 tx.2 (bd.le (abv _)) λy1 y2 T=>Ga c hd ok rfl T DK λy' s4 aF zk more r b e4 k4=>?_
   refine bB λgg=>?_;obtain ⟨e1,k1,rel,RK,e2,kp,u,kl,la⟩:=T;refine gg ?_;have hk:y.g.kept.map dP=(kV y2.E).map some:=by rw [e2];exact c.rel.kept
   refine jZ (KP:=y2.E) (more:=more) (jq rfl) (zj.of r b e4) ⟨(b.dG e4).nB.2.1,?_⟩;have r5:=(r.dG (l2:=y.x.f.line) e4 hk).zz (n:=(dG s4 y2.E more).zero+1);refine Nz (st:=y.g) (KP:=y1.E) (more:=[]) (l2:=y.x.f.line) r5 (b.dG e4).zz ((e2.trans e1.symm).trans (au _).symm) (by rw [e1];exact c.rel.kept) (jq rfl) λs5 r6 b6 e6 k6=>?_
   rw [rX] at r6;exact mu (o:=some v) (j0:=1) c hy uK rY s5 _ r6 ((NH b6 c.kf).le (by lia)) (.eq (e6.trans e1)) (k4.trans (Kp.dG.trans (Kp.zz.trans k6))) (NI c.kf) _ (mw (o:=none)) (hg none ho)
  |some dv=>
   rw [ho] at hs;have hdv:jF dv:=pC cy ok (by show 0<=y.g.line/\y.g.line<19;rw [← c.rel.ln];exact c.ln) ho
   refine bB λgg=>?_;obtain ⟨c1,cs,e,h1,h2⟩:=DL (j:=y.nt+len (aG cy 0 y.nt).texts) (t:=y.x.f.t) (b:=false) hs;refine gg ?_;refine ⟨c1,cs,h1,h2,?_⟩;rw [← e];refine ((ac3 y.x.f.t hw hdv.dv).1 (12*aa+2) d ρ (lP (aa+1) i) _ _ _ _ _ y.x y.i k).mpr <|yX c hd IE YD tx.1 tx.2 (bd.le (abv _)) λy1 y2 T=>Ga c hd ok rfl T DK λy' s4 aF zk more r b e4 k4=>?_
   refine bB λgg=>?_;obtain ⟨e1,k1,rel,RK,e2,kp,u,kl,la⟩:=T;refine gg ?_;have hk:y.g.kept.map dP=(kV y2.E).map some:=by rw [e2];exact c.rel.kept
   refine jZ (KP:=y2.E) (more:=more) (jq rfl) (zj.of r b e4) ⟨(b.dG e4).nB.2.1,?_⟩;have r5:=(r.dG (l2:=y.x.f.line) e4 hk).zz (n:=(dG s4 y2.E more).zero+1);refine NB (st:=y.g) (KP:=y1.E) (more:=[]) (l2:=y.x.f.line) r5 (b.dG e4).zz ((e2.trans e1.symm).trans (au _).symm) (by rw [e1];exact c.rel.kept) (jq rfl) hdv λs5 r6 b6 e6 k6=>?_
   rw [rX] at r6;exact mu (o:=none) (j0:=1) c hy uK rY s5 _ r6 ((NH b6 c.kf).le (by lia)) (.eq (e6.trans e1)) (k4.trans (Kp.dG.trans (Kp.zz.trans k6))) (NI c.kf) _ (mw (o:=some dv)) (hg (some dv) ho)
theorem YE(c:LC (aa+1) (i+1) y k)(hd:aa+1<=3)(hy:y.ds =.cons (.qY wn v rt) ds):iZ (aa+1) i (rM y.x y.i) (rW y.x) k:=λd ρ hl=>.pure <|by
 have bd:=c.yU hy rfl;have hw:wn<3:=c.casesOn λ_ ok _ _ _ _ _ _ _ _ _ _ _ _ _ _=>by rw [hy] at ok;exact ok.1.1
 refine bB λgg=>?_;obtain ⟨c1,cs,e,h1,h2⟩:=RN (w:=wn);refine gg ?_;refine ⟨c1,cs,h1,h2,?_⟩;rw [← e];refine ((agr y.x.f.t hw).1 (12*aa+2) d ρ (lP (aa+1) i) y.x y.i k).mpr <|bC (cS c hy 0 rfl) c.rn bd ⟨iA,bC (x:=y.x.tick) (n:=y.i+1) (cS c hy 1 rfl) c.rn bd.tick <|ny rfl λa w t tw=>?_⟩
 have vz:=(c.rel.tick.tick.cN (b:=false) (a:=a) (w:=w) (t:=t) (tw:=tw)).vS (b:=false) (c:=.str (S0 "")) jm rfl;have yU:Bd (30*ds.cZ+10+y.n+28) (vS false (cN false y.x.s.tick.tick a w t tw) (.str (S0 ""))) y.x.f.kn:=bd.tick.tick.cN.m;have e1:(vS false (cN false y.x.s.tick.tick a w t tw) (.str (S0 ""))).E=y.x.s.E:=kC;have k1:Kp y.x.s (vS false (cN false y.x.s.tick.tick a w t tw) (.str (S0 ""))):=Kp.tick.trans (Kp.tick.trans (Kp.cN.trans .vS));have hr:∀{q:Prop},q->rdN y.x.f.t y.x.f.piled q:=λh=>by
  have pl:=c.pl.1;revert pl;induction y.x.f.t with
  |false=>exact λ_=>h|true=>exact λpl=>⟨wN (by have:=pl.2;lia),h⟩
 refine ⟨yU.nB.2.2.2,by decide,hr ⟨by decide,by decide,by decide,jZ (KP:=y.x.s.E) (more:=[]) (jq e1) (zj.of vz yU (e1.trans (au _).symm)) <|NG (KP:=y.x.s.E) (vz.pD e1) (yU.pD e1) rfl ⟨_,rfl⟩ (jq e1) λs' r b e5 k5=>?_⟩⟩
 refine mu (o:=none) (j0:=1) c hy NJ rY s' y.x.f.kn r (b.le (by lia)) (.eq e5) (k1.trans (Kp.dG.trans k5)) c.kf _ (mw (o:=some uA) (v:=v)) ?_
 show ((⟨_,_,(af y.g.kept (len y.g.kept)).getD y.g.g,y.g.kept,y.g.line⟩:GS),none)=_;rw [rX];rfl
end
def j4(aa:Nat):Prop:=match aa with
 |0=>True|n+1=>ID n
theorem iZ.any{aa i:Nat}{m:Lo}{σ:aq}{k:KL}(h:iZ aa i m σ k){cx:Cx Prop}(ht:cx.top=cg){d:Nat}{ρ:bR}(hl:len σ=len ρ):bD σ ρ λσ' ρ'=>∃c1 cs,gU cx c1/\(∀c'∈cs,gU cx c')/\vm 150 (λe t body σ _=>Ng (rL (rq aa)).ts (rL (rq aa)).pick (rL (rq aa)).c ρ' (λm σ=>lP aa i m σ k) e t body σ k) (c1::cs) ⟨(fnOf 719).sc,[],m,.no,d+rq aa⟩ TG q7 σ' (uG (rL (rq aa)).out (rL (rq aa)).c ρ' k):=
 (h d ρ hl).bind λσ' ρ' z=>.pure <|z.elim λc1 z=>z.elim λcs z=>⟨c1,cs,⟨z.1.1,z.1.2.trans ht.symm⟩,λc' q=>⟨(z.2.1 c' q).1,(z.2.1 c' q).2.trans ht.symm⟩,z.2.2⟩
theorem YF{aa i:Nat}{y:LX}{k:KL}(hg:j4 aa)(hd:aa<=3)(c:LC aa (i+1) y k):iZ aa i (rM y.x y.i) (rW y.x) k:=by
 have ok:fD aa y.ds:=c.casesOn λ_ ok _ _ _ _ _ _ _ _ _ _ _ _ _ _=>ok;cases hy:y.ds with
 |nil=>exact Ys c hy|cons d ds=>
  rw [hy] at ok;cases d with
  |say n=>exact Yk c hy|fault=>exact Yn c hy|wanted=>exact RJ c hy|line r=>exact RH c hy|mP j=>exact Yq c hy|held=>exact RL c hy|set n=>exact Yo c hy|loc n=>exact Yp c hy|ev t wn cy v rt=>
   induction aa with
   |zero=>exact (MC ok.1).elim|succ n=>induction t with
    |true=>exact YC hg hd c hy|false=>exact Yw hg c hy
  |qY wn v rt=>
   induction aa with
   |zero=>exact (C8 ok.1).elim|succ n=>exact YE c hd hy
theorem NK{aa:Nat}(hg:j4 aa)(hd:aa<=3)(I:Nat){cx:Cx Prop}(ht:cx.top=cg):jg cx (Rq (rL (rq aa)).B TG q7 25 (lP aa I)):=Br (n:=150) (L:=rL (rq aa)) I (λi _ m σ d k h ρ hl=>by
 obtain ⟨y,e1,e2,c⟩:=h;subst e1 e2;exact (YF hg hd c).any ht hl) λm σ k h=>by
 obtain ⟨y,e1,e2,c⟩:=h;exact adP _ (c.casesOn λhi _ _ _ _ _ _ _ _ _ _ _ _ _ _ _=>hi)
structure WP where
 t:Bool
 w:Nat
 Pre:GX->Lo->aq->KL->Prop
 B:GX->MS->Int->gI->Prop
def Gb(p:WP)(o:RO)(y:GX):KL:=λr σ=>∃s' aF dc,p.B y s' aF dc/\r=(Zo o,[])/\σ=fW (y.f p.t p.w aF dc) s' (cat mU (roX o))
noncomputable def rTs:List (Str×TV):=[(S0 "machine",.ref 12),(S0 "act",.ref 20),(S0 "rows",.c .any),(S0 "at",.c .int)]
def ada(nd:Nat)(p:WP)(o:RO):En->Expr->cL->M Prop (cB×Lo):=λe t body σ k=>(t=TG/\body=q7/\(rL nd).B.fits e/\Nat.ble (len σ) 25=true)/\∃y:GX,pK (LY rTs e.m []) (λhs=>∀ρ,len σ=len ρ->bD σ ρ λσ' _=>p.Pre y (fF rTs hs).1 σ' (Gb p o y))/\∀s' aF dc,p.B y s' aF dc->k (Zo o,[]) (fW (y.f p.t p.w aF dc) s' (cat mU (roX o)))
theorem RQ{aa:Nat}(hg:j4 aa)(hd:aa<=3)(I:Nat){cx:Cx Prop}(ht:cx.top=cg){p:WP}{o:RO}(hp:∀y m σ k,p.Pre y m σ k->lP aa I m σ k):jg cx (ada (rq aa) p o):=by
 intro F t body S ok k R h IM ers;refine bB λgg=>?_;obtain ⟨h1,y,h2,h3⟩:=h;refine gg ?_;refine bZ h2 λhs e h2=>NK hg hd I ht (F.fix (fF rTs hs).1) t body S (ok.names (yg e)) (Gb p o y) R ⟨h1,λρ hl=>(h2 ρ hl).bind λσ' ρ' z=>.pure (hp _ _ _ _ z)⟩ ?_ ?_
 ·exact λS' g m fl le o' v q=>IM S' g m fl le o' v (by obtain ⟨s',aF,dc,a,b,c⟩:=q;rw [show g=Zo o from congrArg Prod.fst b,show m=[] from congrArg Prod.snd b,c];exact h3 s' aF dc a)
 ·exact λS' n a m le o' e1 e2 tb q=>ers S' n a m le o' e1 e2 tb (by obtain ⟨s',aF,dc,a',b,c⟩:=q;rw [show cB.err n=Zo o from congrArg Prod.fst b,show m=[] from congrArg Prod.snd b,c];exact h3 s' aF dc a')
noncomputable def yY(C:CV):aq:=[.inst 687 [(S0 "code",.c C),(S0 "frame",.ref 18),(S0 "stack",.ref 21),(S0 "marks",.ref 22),(S0 "starts",.ref 23),(S0 "loops",.ref 24)],.list [] [],.list [] [],.list [] [],.list [] []]
noncomputable def yZ:aq:=[.gone,.gone,.gone,.gone,.gone]
def rrR(n:Nat)(o:RO):Ex MV:=match o with
 |.fin r w v=>match r with
  |false=>.ok (Iz w v n)|true=>.error n
 |.mP _=>.error n
def rrX(n:Nat)(o:RO):aq:=match o with
 |.fin r w v=>match r with
  |false=>IA w v|true=>X0 (Iz w v (n+1))::IA w v
 |.mP d=>[Iw (o8 d)]
def NL(n:Nat)(r:Ex MV)(σ:aq):cI:=cat (bh 0 n) (match r with
 |.ok v=>optN (refOf v)|.error m=>m::optN ((xg m σ).bind λx=>(look (S0 "value") x.fs).bind refOf))
def TZ(nd:Nat)(p:WP)(o:RO):Cx Prop:=⟨cg,[],[],[],λ_ _=>none,[],[(409,ada nd p o)]⟩
def rM0(R:az):Lo:=[(S0 "machine",.ref 12),(S0 "act",.ref 20),(S0 "rows",.c (.lst R)),(S0 "at",.c (aI 0))]
noncomputable def rM1(R:az):Lo:=[(S0 "machine",.ref 12),(S0 "act",.ref 20),(S0 "rows",.c (.lst R)),(S0 "at",.c (.int 0))]
def agv(nd dp:Nat)(p:WP)(o:RO)(f:FR)(s:MS)(R U:az)(K:KR):Prop:=
 (TG=TG/\q7=q7/\(rL nd).B.fits ⟨(fnOf 719).sc,[],rM1 R,.no,dp⟩/\true=true)/\∃y:GX,(∀ρ,25=len ρ->bD (fW f s (yY (eB R U))) ρ λσ' _=>p.Pre y (rM0 R) σ' (Gb p o y))/\∀s' aF dc,p.B y s' aF dc->K (rrR 25 o) (fW (y.f p.t p.w aF dc) s' (cat yZ (rrX 25 o)))
abbrev YG(t:Bool)(o:RO):Prop:=P1 (∀nd d w w2 line fk piled kn Pre B s R U K,wO (NL 25) (eO (TZ nd ⟨t,w2,Pre,B⟩ o) 60 (fnOf 719)) .no (d+nd) [.ref 12,.ref 20] (fW ⟨t,w,line,fk,piled,kn⟩ s (yY (eB R U))) K=agv nd (d+nd) ⟨t,w2,Pre,B⟩ o ⟨t,w,line,fk,piled,kn⟩ s R U K)
theorem agw(t:Bool)(dv:DV):YG t (.mP dv):=by
 cases t<;>exact ⟨by intros;kernel_rfl⟩
abbrev RrF(t r:Bool)(w:Nat):Prop:=P1 (∀v,YG t (.fin r w v))
theorem agx(t r:Bool){w:Nat}(h:w<3):RrF t r w:=by
 cases t<;>cases r<;>exact dB ⟨λv=>⟨by intros;kernel_rfl⟩⟩ ⟨λv=>⟨by intros;kernel_rfl⟩⟩ ⟨λv=>⟨by intros;kernel_rfl⟩⟩ h
theorem rrE(t:Bool)(o:Option DV)(rt:Bool){we:Nat}(hw:we<3)(v:Int):YG t (j3 o rt we v):=by
 induction o with
 |none=>exact (agx t rt hw).1 v|some d=>exact agw t d
def rrS(p:GP)(o:RO):Spec Prop:=λhd dp as σ K=>∃y:GX,hd =.no/\p.nd<=dp/\as=[.ref 12,.ref 20]/\σ=fW (y.f p.t p.w y.line y.kn) y.s (yY p.code)/\p.C y/\∀s' aF dc,p.Q y s' aF dc->K (rrR 25 o) (fW (y.f p.t p.w aF dc) s' (cat yZ (rrX 25 o)))
def GY.q(z:GY)(we aa:Nat):GP:=⟨rq aa,z.t,z.w,eB (cat z.c.rows (iy we z.v z.rt)) z.c.subs,we,GC aa z.t z.T z.depth z.many z.g (30*z.ds.cZ+10+z.n),λy=>jH y.s z.t z.n z.r.1⟩
inductive GIn(aa:Nat)(z:GY):Prop|mk (w:z.w<3) (ok:fD aa z.ds) (T:∃pre post,Nr z.T pre z.c.texts post z.nt) (rn:len z.c.rows<=800000) (un:len z.c.subs<=900000) (tn:z.nt+len z.c.texts<=90)
theorem NN{we:Nat}{v:Int}{r:Bool}:len (iy we v r)<=3:=by
 induction we with
 |zero=>exact aeq 1 2|succ w=>induction w with
  |zero=>exact aeq 2 1|succ w=>exact abv 3
theorem YH{aa we:Nat}{z:GY}(h:GIn aa z)(hw:we<3){y:GX}(c:GC aa z.t z.T z.depth z.many z.g (30*z.ds.cZ+10+z.n) y){Pre:GX->Lo->aq->KL->Prop}(ak:az):lP aa (z.ds.num+1) (rM0 (cat z.c.rows (iy we z.v z.rt))) (rW ⟨y.f z.t z.w y.line y.kn,y.s,cat z.c.rows (iy we z.v z.rt),z.c.subs,ak⟩) (Gb ⟨z.t,z.w,Pre,λy=>jH y.s z.t z.n z.r.1⟩ (j3 z.r.2 z.rt we z.v) y):=by
 refine bB λgg=>?_;obtain ⟨w,ok,T,rn,un,tn⟩:=h;obtain ⟨tx,de,fr,rel,bd,kf,pl,ln⟩:=c;refine gg ?_;refine ⟨⟨⟨y.f z.t z.w y.line y.kn,y.s,cat z.c.rows (iy we z.v z.rt),z.c.subs,ak⟩,0,z.ds,0,z.nt,z.rt,we,z.v,z.g,z.n⟩,rfl,rfl,⟨adY _,ok,⟨[],rfl,rfl⟩,⟨[],(au _).symm,rfl⟩,by rw [← tx] at T;exact T,?_,un,tn,w,hw,rel,bd,kf,pl,ln,?_⟩⟩
 ·show len (cat z.c.rows _)<=_
  rw [len_cat];have:=NN (we:=we) (v:=z.v) (r:=z.rt);lia
 ·intro s' aF dc hp
  have e:dW y.s.depth z.ds (len y.s.frames+1:Nat) z.w z.g=z.r:=by rw [de,fr];rfl
  have hp:jH y.s z.t z.n (dW y.s.depth z.ds (len y.s.frames+1:Nat) z.w z.g).1 s' aF dc:=hp;rw [e] at hp;refine ⟨s',aF,dc,hp,?_,?_⟩
  ·show (Zo (j3 (dW y.s.depth z.ds (len y.s.frames+1:Nat) z.w z.g).2 z.rt we z.v),[])=_
   rw [e]
  ·show fW _ s' (cat mU (roX (j3 (dW y.s.depth z.ds (len y.s.frames+1:Nat) z.w z.g).2 z.rt we z.v)))=_
   rw [e];rfl
theorem YI{f:FR}{s:MS}{C:CV}{ρ:bR}{Q:aq->bR->Prop}(hl:25=len ρ)(h:∀ak ρ',bD (fW f s [Nh C ak 25,.gone,.gone,.gone,.gone,.list [] [],.gone,.gone]) ρ' Q):bD (fW f s (yY C)) ρ Q:=by
 refine bB λgg=>?_;obtain ⟨Zp,h21⟩:=bK (i:=21) (ρ:=ρ) (hl▸by decide)
 obtain ⟨Og,h22⟩:=bK (i:=22) (ρ:=ρ) (hl▸by decide)
 obtain ⟨Oh,h23⟩:=bK (i:=23) (ρ:=ρ) (hl▸by decide)
 obtain ⟨Oi,h24⟩:=bK (i:=24) (ρ:=ρ) (hl▸by decide)
 refine gg ?_;exact .then <|.shift (i:=21) (o:=.list [] []) rfl h21 <|.then <|.inst (i:=20) (fs':=[(S0 "code",.c C),(S0 "frame",.ref 18),(S0 "stack",.ref 25),(S0 "marks",.c (lN [.aA Og,.aA Oh,.aA Oi] 0)),(S0 "starts",.c (lN [.aA Og,.aA Oh,.aA Oi] 1)),(S0 "loops",.c (lN [.aA Og,.aA Oh,.aA Oi] 2))]) rfl
  (.cons _ _ _ _ _ (.refl _) <|.cons _ _ _ _ _ (.refl _) <|.cons _ _ _ _ _ (.same (aB _ h21) (ia hl)) <|.cons _ _ _ _ _ (.aA (aB _ h22)) <|.cons _ _ _ _ _ (.aA (aB _ h23)) <|.cons _ _ _ _ _ (.aA (aB _ h24)) .nil) <|
  .then <|.gone (i:=22) (o:=.list [] []) rfl <|.then <|.gone (i:=23) (o:=.list [] []) rfl <|.then <|.gone (i:=24) (o:=.list [] []) rfl <|.then <|.add 0 <|.then <|.add 0 <|h [.aA Og,.aA Oh,.aA Oi] _
theorem T3{aa we:Nat}(hg:j4 aa)(hd:aa<=3){z:GY}(hz:GIn aa z)(hw:we<3){cx:Cx Prop}(ht:cx.top=cg):aJ cx 719 (rrS (z.q we aa) (j3 z.r.2 z.rt we z.v)):=
 (gH (dN:=TZ (rq aa) ⟨z.t,z.w,λ_=>lP aa (z.ds.num+1),λy=>jH y.s z.t z.n z.r.1⟩ (j3 z.r.2 z.rt we z.v)) (n:=60) (f:=fnOf 719) (NL 25) (fR ff ff (aaw.2 ⟨RQ hg hd _ rfl λ_ _ _ _ h=>h,ff⟩)) (by rw [ht];rfl) (by rw [ht];rfl)).imp λhd' dp as σ K h=>by
  obtain ⟨y,h1,h2,h3,h4,h5,h6⟩:=h;subst h1 h3 h4;have h2:rq aa<=dp:=h2;rw [← aef h2];exact ((rrE z.t z.r.2 z.rt hw z.v).1 (rq aa) (dp-rq aa) z.w z.w y.line y.fk y.piled y.kn _ _ y.s _ _ K).mpr ⟨⟨rfl,rfl,⟨rfl,rfl,rfl,aeq _ _⟩,rfl⟩,y,λρ hl=>YI hl λak ρ'=>.pure (YH hz hw h5 ak),h6⟩
def T4(as:aY)(σ:aq):Option (cI×mV):=((af as 1).bind refOf).map λa=>(cat (bh 0 18) [fG (S0 "frame") σ a 18,fG (S0 "known") σ (fG (S0 "frame") σ a 18) 19,a,fG (S0 "stack") σ a 21,fG (S0 "marks") σ a 22,fG (S0 "starts") σ a 23,fG (S0 "loops") σ a 24],[(16,1)])
def RS(p:GP)(o:RO):Cx Prop:=vv [(719,cG T4 (rrS p o))]
def YJ(p:GP)(o:RO)(dp:Nat)(f:FR)(s:MS)(K:KR):Prop:=true=true/\true=true/\∀X:Nat->az,(len (X 16)=len s.frames+0/\True)->∃y:GX,Hd.no=Hd.no/\p.nd<=dp/\[MV.ref 12,.ref 20]=[.ref 12,.ref 20]/\fW f (s.fr (X 16)) (yY p.code)=fW (y.f p.t p.w y.line y.kn) y.s (yY p.code)/\p.C y/\
 ∀s' aF dc,p.Q y s' aF dc->(s'.frames=X 16/\True)/\K (gvR o) (fW (y.f p.t p.w aF dc) (s'.fr s.frames) (gvX o))
abbrev YK(t:Bool)(o:RO)(e:Nat):Prop:=P1 (∀nd nd2 d w line fk piled kn R U C Q s K,wO (NL 20) (eO (RS ⟨nd,t,w,eB R U,e,C,Q⟩ o) 60 (fnOf 1247)) .no (d+(nd2+22)) [.ref 12,.c (eB R U),.c (.int (.ofNat e))] (fW ⟨t,w,line,fk,piled,kn⟩ s []) K=YJ ⟨nd,t,w,eB R U,e,C,Q⟩ o (d+(nd2+21)) ⟨t,w,line,fk,piled,kn⟩ s K)
theorem agA(t:Bool)(dv:DV){e:Nat}(h:e<3):YK t (.mP dv) e:=by
 cases t<;>exact dB ⟨by intros;kernel_rfl⟩ ⟨by intros;kernel_rfl⟩ ⟨by intros;kernel_rfl⟩ h
abbrev GvF(t r:Bool)(w:Nat):Prop:=P1 (∀v,YK t (.fin r w v) w)
theorem agB(t r:Bool){w:Nat}(h:w<3):GvF t r w:=by
 cases t<;>cases r<;>exact dB ⟨λv=>⟨by intros;kernel_rfl⟩⟩ ⟨λv=>⟨by intros;kernel_rfl⟩⟩ ⟨λv=>⟨by intros;kernel_rfl⟩⟩ h
theorem gvE(t:Bool)(o:Option DV)(rt:Bool){w:Nat}(hw:w<3)(v:Int):YK t (j3 o rt w v) w:=by
 induction o with
 |none=>exact (agB t rt hw).1 v|some d=>exact agA t d hw
theorem YL{aa:Nat}(hg:j4 aa)(hd:aa<=3){z:GY}(hz:GIn aa z){cx:Cx Prop}(ht:cx.top=cg):aJ cx 1247 (wO (NL 20) (eO (RS (z.q z.w aa) (j3 z.r.2 z.rt z.w z.v)) 60 (fnOf 1247))):=by
 have hw:z.w<3:=hz.casesOn λw _ _ _ _ _=>w;have hs:aV (RS (z.q z.w aa) (j3 z.r.2 z.rt z.w z.v)) 719 (cG T4 (rrS (z.q z.w aa) (j3 z.r.2 z.rt z.w z.v))):=eg (T3 hg hd hz hw (cx:=zd) rfl) rfl;exact gH _ (fR (aaw.2 ⟨hs,ff⟩) ff ff) (by rw [ht];rfl) (by rw [ht];rfl)
theorem ade{aa:Nat}{z:GY}{dp:Nat}{y:GX}{K:KR}(hd:rq aa<=dp)(c:GC aa z.t z.T z.depth z.many z.g (30*z.ds.cZ+10+z.n) y)(h:∀s' aF dc,jH y.s z.t z.n z.r.1 s' aF dc->K (gvR (j3 z.r.2 z.rt z.w z.v)) (fW (y.f z.t z.w aF dc) s' (gvX (j3 z.r.2 z.rt z.w z.v)))) :
  YJ (z.q z.w aa) (j3 z.r.2 z.rt z.w z.v) dp ⟨z.t,z.w,y.line,y.fk,y.piled,y.kn⟩ y.s K:=by
 unfold YJ;obtain ⟨tx,de,fr,rel,bd,kf,pl,ln⟩:=c;refine ⟨rfl,rfl,λX hX=>⟨⟨y.s.fr (X 16),y.line,y.fk,y.piled,y.kn⟩,rfl,hd,rfl,rfl,?_,λs' aF dc hq=>?_⟩⟩
 ·exact ⟨tx,de,by show len (X 16)+1=_;rw [hX.1];exact fr,rel.fr,bd.fr,kf,⟨pl.1,by show len (X 16)+aa<=100;rw [hX.1];exact pl.2⟩,ln⟩
 ·have hq:jH (y.s.fr (X 16)) z.t z.n z.r.1 s' aF dc:=hq
  obtain ⟨r,e,b,TY,kf,ln⟩:=hq;exact ⟨⟨TY.fr0,trivial⟩,h (s'.fr y.s.frames) aF dc ⟨r.fr,e,b.fr,TY.casesOn λa1 a2 a3 a4=>⟨rfl,a2,a3,a4⟩,kf,ln⟩⟩
theorem YM{aa:Nat}{z:GY}(hw:z.w<3){hd':Hd}{dp:Nat}{as:aY}{σ:aq}{K:KR}(h:Of (z.p aa) (j3 z.r.2 z.rt z.w z.v) hd' dp as σ K):wO (NL 20) (eO (RS (z.q z.w aa) (j3 z.r.2 z.rt z.w z.v)) 60 (fnOf 1247)) hd' dp as σ K:=by
 obtain ⟨y,h1,h2,h3,h4,h5,h6⟩:=h;subst h1 h3 h4;have h2:12*aa+22<=dp:=h2;rw [← aef h2];have E:=(gvE z.t z.r.2 z.rt hw z.v).1 (rq aa) (12*aa) (dp-(12*aa+22)) z.w y.line y.fk y.piled y.kn (cat z.c.rows (iy z.w z.v z.rt)) z.c.subs (z.q z.w aa).C (z.q z.w aa).Q y.s K;refine E.mpr ?_;exact ade (by unfold rq;lia) h5 h6
theorem NO{aa:Nat}(hg:j4 aa)(hd:aa<=3):ID aa:=λcx z ht hw ok T rn un tn=>eg (dN:=cx) ((YL hg hd ⟨hw,ok,T,rn,un,tn⟩ ht).imp λ_ _ _ _ _ h=>YM hw h) rfl
theorem T5:∀aa,aa<=3->ID aa
 |0,hd=>NO (aa:=0) trivial hd|n+1,hd=>NO (aa:=n+1) (T5 n (acH hd)) hd
theorem NP{aa:Nat}(hd:aa<=3):j4 aa:=by
 induction aa with
 |zero=>trivial|succ n=>exact T5 n (acH hd)
noncomputable def vA(T X:az)(dp:Int)(rt rd:Addr)(ms:az):MS:=⟨T,X,dp,1,⟨rt,rd,none,none,none⟩,0,0,[],[],ms,false,[],.none,0,0,[],.none,[]⟩
noncomputable def Bx(w:Nat)(fk:az):FR:=⟨false,w,3,fk,0,[]⟩
def NQ(T X:az)(w dp:Int):aq:=[.list T [],.list X [],.cell (some (.ref 0)),.cell (some (.ref 1)),abY dp,.inst 225 [(S0 "limits",.ref 4),(S0 "last",.c (.int 1)),(S0 "zero",.ref 6)],.list [] [],ab0,.dict [],.dict [],MY,.dict [],
 .inst 666 [(S0 "heap",.ref 5),(S0 "counter",.ref 7),(S0 "stash",.ref 10),(S0 "limits",.ref 4),(S0 "rows",.ref 13),(S0 "lvs",.ref 20),(S0 "funcs",.ref 14),(S0 "operators",.ref 21),(S0 "out",.ref 22),(S0 "err",.ref 23),(S0 "saves",.ref 15),(S0 "frames",.ref 16),(S0 "match",.c .none),(S0 "patterns",.ref 24),(S0 "steps",.c (.int 0)),(S0 "methods",.c .none),(S0 "call_code",.c .none),(S0 "compile_text",.clo (mS 7) []),(S0 "compile_sub",.clo (mS 8) [(S0 "texts",3)])],
 To,MZ,.list [] [],.list [] [.ref 18],.dict [(S0 "const",.c (.aA 740)),(S0 "drop",.c (.aA 747)),(S0 "fetch",.c (.aA 761)),(S0 "wrap",.c (.aA 754))],.inst 624 [(S0 "pad",.ref 25),(S0 "args",.ref 26),(S0 "want",.c (aI w)),(S0 "code",.c .none),(S0 "package",.c (.str (S0 "main"))),(S0 "line",.c (.int 3))],
 .dict [(S0 "func",.c (.aA 1275)),(S0 "glob",.c (.aA 1466)),(S0 "localglob",.c (.aA 1480)),(S0 "assign",.c (.aA 1473)),(S0 "line",.c (.aA 796)),(S0 "wanted",.c (.aA 768)),(S0 "return0",.c (.aA 775)),(S0 "return1",.c (.aA 782)),(S0 "return2",.c (.aA 782)),(S0 "subreturn",.c (.aA 789))],
 .dict [],.dict [],.list [] [],.list [] [],.dict [],.list [] [],.inst 85 [(S0 "number",.c (.int 1)),(S0 "count",.c (.int 0)),(S0 "blessed",.c .none),(S0 "weak",.ref 27),(S0 "is_destroyed",.c (.bool false)),(S0 "is_freed",.c (.bool false)),(S0 "items",.ref 28),(S0 "tied",.c .none)],.list [] [],.list [] []]
def NS:cI:=cat (bh 0 13) [22,25,19,20,23,30,24,14,16,17,18,21,26,27,28,29]
abbrev adf:Prop:=P1 (∀d w dp T X K,wO (λ_ _=>NS) (eO (vv []) 60 (fnOf 1550)) .no (d+20) [.ref 0,.ref 1,.c (aI w),.c (aI dp)] [.list T [],.list X []] K=(0<aW/\K (.ok (.ref 12)) (NQ T X w dp)))
theorem adg:adf:=⟨by intros;kernel_rfl⟩
noncomputable def NT:aq:=[.gone,.gone,.gone,.gone,.gone,.gone,.gone,.gone,.gone]
abbrev GcM:Prop:=P1 (∀w fk T X dp rt rd ms K,Xd (λ_ _=>bh 0 20) 2 K (.ok (.ref 12)) (fW (Bx w fk) (vA T X dp rt rd ms) NT)=K (.ok (.ref 12)) (fW (Bx w fk) (vA T X dp rt rd ms) []))
theorem gcM:GcM:=⟨by intros;kernel_rfl⟩
section
variable{σ:aq}{ρ:bR}{P:aq->bR->Prop}{i:Nat}{A:Addr}
noncomputable def T6:Nat->Nat->aq->aq
 |_,0,σ=>σ|i,n+1,σ=>T6 (i+1) n (setAt σ i .gone)
theorem bD.Gd:∀{n i:Nat}{σ:aq},Nat.ble (i+n) (len σ)=true->P (T6 i n σ) ρ->bD σ ρ P
 |0,i,σ,_,h=>.pure h|n+1,i,σ,hl,h=>by
  have hl:=abV hl;obtain ⟨o,e⟩:∃o,af σ i=some o:=by
   induction e:af σ i with
   |none=>exact absurd (ud e) (by lia)|some o=>exact ⟨o,rfl⟩
  exact .then <|.gone (i:=i) e <|.Gd (n:=n) (i:=i+1) (aeu (by rw [bL];lia)) h
theorem bD.agC{o:MO}{l:List (Addr×SC)}(hi:af σ i=some o)(hA:af ρ i=some A)(h0:∀p,af l 0=some p->p.1=A)(hl:∀j p,af l j=some p->p.2 =.nil)(h:P (setAt σ i (.box l)) ρ):bD σ ρ P:=
 .cell (o':=.box l) hi (λW a hp e ha _=>⟨λ_=>none,λb j z=>bq z,λp z=>(h0 p z).trans (aap (hA.symm.trans ha)),λj p z=>(hl j p z)▸trivial⟩) h
end
def adh:Lo:=[(S0 "heap",.ref 5),(S0 "counter",.ref 7),(S0 "stash",.ref 10),(S0 "limits",.ref 4),(S0 "rows",.ref 13),(S0 "lvs",.ref 20),(S0 "funcs",.ref 14),(S0 "operators",.ref 21),(S0 "out",.ref 22),(S0 "err",.ref 23),(S0 "saves",.ref 15),(S0 "frames",.ref 16),(S0 "match",.c .none),(S0 "patterns",.ref 24),(S0 "steps",.c (.int 0)),(S0 "methods",.c .none),(S0 "call_code",.c .none),(S0 "compile_text",.clo (mS 7) []),(S0 "compile_sub",.clo (mS 8) [(S0 "texts",3)])]
def adi(a20 Zp Og Oh Oi:Addr):Lo:=[(S0 "heap",.ref 5),(S0 "counter",.ref 7),(S0 "stash",.ref 10),(S0 "limits",.ref 4),(S0 "rows",.ref 13),(S0 "lvs",.c (.aA a20)),(S0 "funcs",.ref 14),(S0 "operators",.c (.aA Zp)),(S0 "out",.c (.aA Og)),(S0 "err",.c (.aA Oh)),(S0 "saves",.ref 15),(S0 "frames",.ref 16),(S0 "match",.c .none),(S0 "patterns",.c (.aA Oi)),(S0 "steps",.c (aI 0)),(S0 "methods",.c .none),(S0 "call_code",.c .none),(S0 "compile_text",.clo (mS 7) []),(S0 "compile_sub",.clo (mS 8) [(S0 "texts",3)])]
def YN:Spec Prop:=Rk (λhd=>hd =.no) 20 (λx:az×az×Nat×Int=>[.ref 0,.ref 1,.c (aI x.2.2.1),.c (aI x.2.2.2)]) (λx=>[.list x.1 [],.list x.2.1 []]) λx K=>∀rt rd fk ms,K (.ok (.ref 12)) (fW (Bx x.2.2.1 fk) (vA x.1 x.2.1 x.2.2.2 rt rd ms) [])
theorem YO{T X:az}{w:Nat}{dp:Int}{ρ:bR}{Q:aq->bR->Prop}(hl:29=len ρ)(h:∀rt rd fk ms ρ',bD (fW (Bx w fk) (vA T X dp rt rd ms) NT) ρ' Q):bD (NQ T X w dp) ρ Q:=by
 have ad:∀i,i<29->∃a,af ρ i=some a:=λi hi=>bK (hl▸hi);refine bB λgg=>?_;obtain ⟨a11,h11⟩:=ad 11 (by decide)
 obtain ⟨a17,h17⟩:=ad 17 (by decide)
 obtain ⟨a20,jI⟩:=ad 20 (by decide)
 obtain ⟨Zp,h21⟩:=ad 21 (by decide)
 obtain ⟨Og,h22⟩:=ad 22 (by decide)
 obtain ⟨Oh,h23⟩:=ad 23 (by decide)
 obtain ⟨Oi,h24⟩:=ad 24 (by decide)
 obtain ⟨a25,h25⟩:=ad 25 (by decide)
 obtain ⟨a26,h26⟩:=ad 26 (by decide)
 refine gg ?_;refine .then <|.inst (i:=5) (C:=225) (fs:=[(S0 "limits",.ref 4),(S0 "last",.c (.int 1)),(S0 "zero",.ref 6)]) (fs':=[(S0 "limits",.ref 4),(S0 "last",.c (aI 1)),(S0 "zero",.ref 6)]) (by kernel_rfl) (.cons _ _ _ _ _ (.refl _) <|.cons _ _ _ _ _ (.dP rfl) <|.refl _) ?_
 refine .then <|.to (i:=6) (o:=.list [] []) (o':=.vB 0) (by kernel_rfl) (L5 rfl) ?_
 refine .then <|.Tn (i:=11) (o:=.dict []) (by kernel_rfl) h11 ?_
 refine .then <|.inst (i:=12) (C:=666) (fs:=adh) (fs':=adi a20 Zp Og Oh Oi) (by kernel_rfl)
   (.cons _ _ _ _ _ (.refl _) <|.cons _ _ _ _ _ (.refl _) <|.cons _ _ _ _ _ (.refl _) <|.cons _ _ _ _ _ (.refl _) <|.cons _ _ _ _ _ (.refl _) <|.cons _ _ _ _ _ (.aA jI) <|.cons _ _ _ _ _ (.refl _) <|.cons _ _ _ _ _ (.aA h21) <|.cons _ _ _ _ _ (.aA h22) <|.cons _ _ _ _ _ (.aA h23) <|.cons _ _ _ _ _ (.refl _) <|.cons _ _ _ _ _ (.refl _) <|.cons _ _ _ _ _ (.refl _) <|.cons _ _ _ _ _ (.aA h24) <|.cons _ _ _ _ _ (.dP rfl) <|.refl _) ?_
 refine .then <|.agC (i:=17) (o:=.dict [(S0 "const",.c (.aA 740)),(S0 "drop",.c (.aA 747)),(S0 "fetch",.c (.aA 761)),(S0 "wrap",.c (.aA 754))]) (l:=bP ⟨a17,a11,none,none,none⟩ []) (by kernel_rfl) h17 (λp e=>by cases e;rfl) (λj p e=>by
   match j,e with
   |0,e|1,e|2,e|3,e|4,e|5,e|6,e=>cases e;rfl
   |j+7,e=>exact bq e) ?_
 refine .then <|.inst (i:=18) (C:=624) (fs:=[(S0 "pad",.ref 25),(S0 "args",.ref 26),(S0 "want",.c (aI w)),(S0 "code",.c .none),(S0 "package",.c (.str (S0 "main"))),(S0 "line",.c (.int 3))]) (fs':=fr6 (Bx w [.aA a25,.aA a26,.none])) (by kernel_rfl) (.cons _ _ _ _ _ (.aA h25) <|.cons _ _ _ _ _ (.aA h26) <|.cons _ _ _ _ _ (λ_ _ _ q=>q) <|.cons _ _ _ _ _ (.refl _) <|.cons _ _ _ _ _ (.refl _) <|.cons _ _ _ _ _ (.dP rfl) .nil) ?_
 refine .then <|.Gd (n:=10) (i:=19) (by kernel_rfl) ?_
 refine Eq.mpr (congrArg (λσ=>bD σ ρ Q) (?_:_=fW (Bx w [.aA a25,.aA a26,.none]) (vA T X dp a17 a11 [.aA a20,.aA Zp,.aA Og,.aA Oh,.none,.aA Oi,.none,.none]) NT)) (h a17 a11 [.aA a25,.aA a26,.none] [.aA a20,.aA Zp,.aA Og,.aA Oh,.none,.aA Oi,.none,.none] ρ);kernel_rfl
theorem NU{T X:az}{w d:Nat}{dp:Int}{ρ:bR}{K:KR}(h:∀rt rd fk ms,K (.ok (.ref 12)) (fW (Bx w fk) (vA T X dp rt rd ms) [])) :
  bD [.list T [],.list X []] ρ λσ1 M5=>∃as1,qf M5 [.ref 0,.ref 1,.c (aI w),.c (aI dp)] as1/\∀dS,len σ1=len dS->bD σ1 dS λσ2 dS=>∃as2,qf dS as1 as2/\wO (λ_ _=>NS) (eO (vv []) 60 (fnOf 1550)) .no (d+20) as2 σ2 (Bj dS (Xd (λ_ _=>bh 0 20) (len σ1) (Bj M5 K))):=
 by
 refine bD.pure ⟨_,qf.refl _,?_⟩;intro M5 _;refine bD.pure ⟨_,qf.refl _,?_⟩;rw [adg.1];exact ⟨iA,λdS k2 hl2=>YO hl2 λrt rd fk ms ρ'=>.pure ⟨_,.ok _ _ (λ_ _ _ q=>q),(gcM.1 ..).mpr (iz (h rt rd fk ms))⟩⟩
theorem agH{cx:Cx Prop}(ht:cx.top=cg):aJ cx 1550 YN:=qZ (((gH (dN:=vv []) (n:=60) (f:=fnOf 1550) (λ_ _=>NS) (fh rfl rfl rfl) (by rw [ht];rfl) (by rw [ht];rfl)).nu).gc (pick:=λ_ _=>bh 0 20)) λx hd d K e h ρ _=>by
 subst e;obtain ⟨T,X,w,dp⟩:=x;exact NU h
def NV(as:aY)(_:aq):Option (cI×mV):=((af as 0).bind refOf).bind λa=>((af as 1).bind refOf).map λb=>([a,b],[])
theorem YQ{cx:Cx Prop}(ht:cx.top=cg):aV cx 1550 (cG NV YN):=eg (dN:=cx) (agH ht) rfl
def adk(key:Str)(C:Spec Prop):Spec Prop:=λhd dp as σ K=>pK ((af as 0).bind refOf) λj=>pK (q8 j σ) λfs=>pK ((look key fs).bind refOf) λi=>pK (listOf σ i) λl=>l.2=[]/\C hd dp as (setAt (setAt σ i .gone) j (.dict (put key (.c (.lst (cat l.1 []))) fs))) K
theorem Ge{n:Nat}{σ:aq}{fs:Lo}:q8 n σ=some fs->af σ n=some (.dict fs):=by
 unfold q8;induction af σ n with
 |none=>exact bq|some o=>induction o with
  |dict es=>exact λh=>by rw [← aap h]|_=>exact bq
theorem IF{n:Nat}{σ:aq}{l:az×aY}:listOf σ n=some l->af σ n=some (.list l.1 l.2):=by
 unfold listOf;induction af σ n with
 |none=>exact bq|some o=>induction o with
  |list p b=>exact λh=>by rw [← aap h]|_=>exact bq
theorem Ok.adl{cx:Cx Prop}{F:Fr cx}{S:Pt}(ok:Ok F S){i:Nat}{o o':MO}(hi:af S.σ i=some o)(hc:∀a,af S.W.ρ i=some a->br S.W i a S.s.heap o->br S.W i a S.s.heap o'):Ok F ⟨S.W,setAt S.σ i o',S.s⟩:=by
 refine ⟨⟨ok.1.1,ok.1.2,ok.1.3,ok.1.4,ok.1.5,(bL ..).trans ok.1.6,λj x a q1 q2=>?_,ok.1.8,ok.1.9⟩,ok.2,ok.3,ok.4⟩;by_cases e:i=j
 ·subst e
  rw [← aap ((av o' hi).symm.trans q1)];exact hc _ q2 (ok.1.7 i o a hi q2)
 ·exact ok.1.7 j x a (by rw [← ay o' S.σ e];exact q1) q2
theorem RT{cx:Cx Prop}{a:Addr}{key:Str}{C:Spec Prop}(H:aV cx a C):aV cx a (adk key C):=λF as aj S dp fK o hv k R h ok er=>bZ h λj e0 h=>bZ h λfs e1 h=>bZ h λi e2 h=>bZ h λl e3 h=>bind_some e2 λv e4 e5=>by
 obtain ⟨hb,h⟩:=h;have e1:=Ge e1;have e3:=IF e3;rw [ou e5] at e4;have ne:i≠j:=λq=>by rw [q,e1] at e3;cases e3
 refine gQ o.1.6 e3 λai hai=>?_;have hz:IV 30 (.ref i) S.σ λc σ'=>c =.lst (cat l.1 [])/\σ'=setAt S.σ i .gone:=by
  show (match af S.σ i with|some o=>_|none=>_)
  rw [e3,hb];exact ⟨rfl,rfl⟩
 refine (EN (F:=F) 30).1 (.ref i) (.ref ai) S _ _ o ⟨ai,hai⟩ hz λS' c fr o' hc q=>?_;obtain ⟨q1,q2⟩:=q;have ej:af S'.σ j=some (.dict fs):=by rw [q2,ay _ _ ne];exact e1
 have o2:Ok F ⟨S'.W,setAt S'.σ j (.dict (put key (.c (.lst (cat l.1 []))) fs)),S'.s⟩:=o'.adl ej λb hb c'=>d8.casesOn (motive:=λ_=>d8 S'.W j _ b S'.s.heap) c' λob g ow e say r=>⟨ob,g,ow,e,say.le (gn ..).1,λx=>by
  rw [nV];by_cases z:x=key
  ·rw [if_pos z]
   have y:=r x;rw [z,e4] at y;refine y.elim λy w=>⟨y,z▸w.1,?_⟩;induction w.2 with|mk a ha=>exact q1▸(aap ((fr.1.6 _ _ hai).symm.trans ha))▸hc
  ·rw [if_neg z];exact r x⟩
 have n2:bH F S ⟨S'.W,setAt S'.σ j (.dict (put key (.c (.lst (cat l.1 []))) fs)),S'.s⟩:=⟨⟨fr.1,by show kR S.s S'.s;rw [fr.2];exact ⟨rfl,rfl,rfl⟩⟩,o2⟩
 have h':C F.e.hd dp as (setAt S'.σ j (.dict (put key (.c (.lst (cat l.1 []))) fs))) k:=by rw [q2];exact h
 have z:=H F as aj ⟨S'.W,_,S'.s⟩ dp fK o2 (hv.up fr.1) k R h' (λS2 b v n q h=>ok S2 b v (n2.trans n) q h) λS2 m b n q1 q2 h=>er S2 m b (n2.trans n) q1 q2 h;rw [fr.2] at z;exact z
theorem YR{cx:Cx Prop}{a:Addr}{f:aY->aq->aq}{C:Spec Prop}(H:aV cx a C)(hf:∀as σ,AO σ (f as σ)):aV cx a (λhd dp as σ K=>C hd dp as (f as σ) K):=λF as aj S dp fK o hv k R h ok er=>H F as aj (S.low _) dp fK (o.weak (hf as S.σ)) hv k R h ok.low er.low
def adm(hs:List Hv)(K:KR):Prop:=qV hs λc hs=>qL hs λl hs=>qI hs λo hs=>qI hs λleft _=>pK (CW c) λm=>dz l o/\bf (aD m vn)=true/\∀r:Nat,r<m->K (.ok (.c (aI r))) [ni l (o+1) left]
def adn:Spec Prop:=qT Wf adm
def atR(r:Ex MV):Ex MV:=match r with
 |.ok v=>.ok (atI v)|.error n=>.error n
theorem aJ.atR{cx:Cx Prop}{a:Addr}{C:Spec Prop}(h:aJ cx a C):aJ cx a (λhd dp as σ K=>C hd dp as σ λres σ'=>K (aT.atR res) σ'):=λF as aj S dp sh fK o hv k R hS ok er=>
 h F as aj S dp sh fK o hv _ R hS (λS' b v n q h=>ok S' (atI b) v n (Nm (ρ:=S'.W.ρ) S'.W _ rfl q) h) λS' n x nx e1 e2 h=>er S' n x nx e1 e2 h
theorem RU{hs:List Hv}{K:KR}(h:adm hs K):Wi hs λres σ'=>K (atR res) σ':=
 i7 h λc r1 e1 h1=>fT h1 λl r2 e2 h2=>gq h2 λo r3 e3 h3=>gq h3 λleft r4 e4 h4=>bZ h4 λm e5 h5=>by
  clear h h1 h2 h3 h4;subst e1 e2 e3 e4;show pK (CW c) λm=>dz l o/\Wh m λr=>K (atR (.ok (.c r))) [ni l (o+1) left];rw [e5];refine ⟨h5.1,?_⟩;show pK (aD m vn) _;induction q:aD m vn with
  |none=>rw [q] at h5;exact bM h5.2.1|some b=>induction b with
   |true=>exact allLt_of λr hr=>h5.2.2 r hr|false=>exact λr hr=>h5.2.2 r hr
theorem RV{cx:Cx Prop}(ht:cx.top=cg):aV cx 1494 (cG yq adn):=by
 have h0:aJ cx 1494 (qT Wf Wi):=oQ (aJ.ex (A0 ht)) λhs d K h=>bB λgg=>i7 h λc r1 e1 h=>fT h λl r2 e2 h=>gq h λo r3 e3 h=>gq h λleft r4 e4 h=>gg <|bZ h λm e5 h=>by
  rw [e1,e2,e3,e4,rN e5];exact bZ h.2 λb hm hb=>A1 h.1 hm hb
 exact eg (dN:=cx) (h0.atR.imp λhd dp as σ K h=>bZ h λhs e h=>by
  unfold qT;rw [e];exact RU h) rfl
noncomputable def Zq(d:DV):At:=match d with
 |.t s=>.str s|.l s=>.str s|.n i=>.int i
noncomputable def MS.e0(s:MS):MS:={ s with E:=[] }
noncomputable def g0:GS:=⟨[],.none,.none,[],3⟩
def adp(ds:aK)(T:az)(w:Nat)(dp:Int):GY:=⟨false,w,ds,0,false,0,T,dp,1,g0,0⟩
inductive LawC(ds:aK)(T:az)(w:Nat)(dp:Int)(y:GX):Prop|mk (hz:GIn 3 (adp ds T w dp)) (c:GC 3 false T dp 1 g0 (30*ds.cZ+10+0) y) (e:y.s.E=[])
def rrO(r:GS×Option DV)(Q:GS->MS->Int->gI->Prop)(f0:MS->Int->gI->Prop)(f1:At->MS->Int->gI->Prop):Prop:=match r.2 with
 |none=>∀s' aF dc,Q r.1 s' aF dc->f0 s' aF dc|some d=>∀s' aF dc,Q r.1 s' aF dc->f1 (Zq d) s' aF dc
structure LZ where
 ds:aK
 T:az
 w:Nat
 dp:Int
 y:GX
def LZ.z(q:LZ):GY:=adp q.ds q.T q.w q.dp
def Gf(ds:aK):CV:=eB (cat (aG ds 0 0).rows (iy 0 0 false)) (aG ds 0 0).subs
def rrL:Spec Prop:=λhd dp as σ K=>∃q:LZ,hd =.no/\rq 3<=dp/\as=[.ref 12,.ref 20]/\σ=fW (q.y.f false q.w q.y.line q.y.kn) q.y.s (yY (Gf q.ds))/\LawC q.ds q.T q.w q.dp q.y/\
 rrO q.z.r (jH q.y.s false 0) (λs' aF dc=>K (.ok (.c .none)) (fW (q.y.f false q.w aF dc) s'.e0 yZ)) λa s' aF dc=>K (.error 25) (fW (q.y.f false q.w aF dc) s'.e0 (cat yZ [Iw (.at a)]))
def YS(as:aY)(σ:aq):Option (cI×mV):=((af as 0).bind refOf).bind λm=>((af as 1).bind refOf).bind λa=>((sC σ (m-10)).bind id).bind λt=>(refOf t).bind λt=>((sC σ (m-9)).bind id).bind λx=>(refOf x).map λx=>
 (cat [t,x] (cat (bh (m-10) 18) [a,fG (S0 "stack") σ a 21,fG (S0 "marks") σ a 22,fG (S0 "starts") σ a 23,fG (S0 "loops") σ a 24]),[(m+4,1)])
noncomputable def DM:Lo->Lo
 | []=>[]|p::l=>(p.1,CR p.2)::DM l
def RW(as:aY)(σ:aq):aq:=match (af as 2).bind refOf with
 |some j=>match q8 j σ with
  |some fs=>setAt σ j (.dict (DM fs))|none=>σ
 |none=>σ
def goL:Spec Prop:=λhd dp as σ K=>IT 3 hd dp as (RW as σ) K
def pF:Cx Prop:=⟨cg,[],[],[(1501,adk (S0 "lots") (CX 3)),(1494,cG yq adn),(1515,codeS 3),(1550,cG NV YN),(719,cG YS rrL),(1536,goL)],λp _=>aD p.line [(1130,false),(1132,true)],[],[]⟩
section
set_option maxHeartbeats 0
def IG(S:az):az:=cat (w7 S (su (len S) none) (j5 (len S) (some 50))) []
def YT(l:az)(o:Int)(m:Nat)(f:Nat->Prop):Prop:=oX (dz l o/\bf (aD m vn)=true/\∀r:Nat,r<m->True/\f r)
noncomputable def agI:az:=[.tup [.str (S0 "return0")]]
def agJ(S:az)(q:aK->CV->az->Nat->Nat->Prop):Prop:=([]:aY)=[]/\oX (dz (IG S) 0/\Lf (most 3*cst 3) 13/\∀ds o' dY,fD 3 ds->ds.num<=most 3->dz (IG S) o'->Lg (most 3*cst 3) 13 dY->True/\YT (IG S) o' 3 λw=>YT (IG S) (o'+1) 3 λr=>oX (∃My,cu ds=cu My/\Mw 3 (cat [] (cat [] agI)) [] My λc X'=>True/\q ds c X' w r))
def agK(X:az)(w r:Nat)(f:az×az×Nat×Int->Addr->Addr->az->az->Prop):Prop:=oX (∃x:az×az×Nat×Int,Hd.no=Hd.no/\true=true/\[MV.ref 0,.ref 1,.c (aI w),.c (aI (1+r))]=[.ref 0,.ref 1,.c (aI x.2.2.1),.c (aI x.2.2.2)]/\[MO.list [] [],.list X []]=[.list x.1 [],.list x.2.1 []]/\∀rt rd fk ms,True/\f x rt rd fk ms)
def rrV(M dp:Nat)(f:FR)(s:MS)(c:CV)(f0:LZ->MS->Prop)(f1:LZ->At->MS->Prop):Prop:=true=true/\true=true/\∀X:Nat->az,(len (X M)=0/\True)->∃q:LZ,Hd.no=Hd.no/\rq 3<=dp/\[MV.ref 12,.ref 20]=[.ref 12,.ref 20]/\fW f (s.fr (X M)) (yY c)=fW (q.y.f false q.w q.y.line q.y.kn) q.y.s (yY (Gf q.ds))/\LawC q.ds q.T q.w q.dp q.y/\
 rrO q.z.r (jH q.y.s false 0) (λs' aF dc=>(s'.frames=X M/\True)/\f0 q s') λa s' aF dc=>(s'.frames=X M/\True)/\f1 q a s'
def goV(dp:Nat)(ds:aK)(depth:Int)(w:Nat)(f0:GS->Prop)(f1:DV->GS->Prop):Prop:=true=true/\true=true/\((Nat->az)->True->15<=dp/\∃My,cu ds=cu My/\MF 3 9 My 1 depth w g0 (jo (λs=>True/\f0 s) λv _ _ s=>True/\f1 v s))
def ads(T:az)(q:Prop):Prop:=(kN T=true/\DX (.list (eG T)))/\q
def By(T1 T2:az)(w w2:Nat)(K:KR):Prop:=ads (cat T1 []) (ads (cat T2 []) ((!(mW (.str (PyData.list (eG (cat T1 []))).shown) (.str (PyData.list (eG (cat T2 []))).shown)))=false/\mW (.int (.ofNat w)) (.int w2)=true/\1<aW/\K (.ok (.c (.bool true))) []))
def T7(S:az)(d:Nat)(K:KR):Prop:=len S<aW/\agJ S λds c X' w r=>agK X' w r λx rt rd fk ms=>rrV 19 (d+79) (Bx x.2.2.1 fk) (vA x.1 x.2.1 x.2.2.2 rt rd ms) c
 (λq s'=>goV (d+79) ds (1+r) w (λs=>By s'.told s.told q.w w K) λv s=>K (.ok (.c (.bool false))) [])
 λq a s'=>goV (d+79) ds (1+r) w (λs=>K (.ok (.c (.bool false))) []) λv s=>(!(mW a (Zq v)))=false/\By s'.told s.told q.w w K
abbrev adt:Prop:=P1 (∀d S K,BE (eO pF 150 (fnOf 1557)) .no (d+80) [.c (.lst S)] [] K=T7 S d K)
theorem adu:adt:=⟨by intros;kernel_rfl⟩
end
noncomputable def mt:Nat->Nat
 |0=>0|d+1=>1+3*mt d
mutual
theorem adv(d:dR)(aa:Nat)(h:Mj aa d):d.cZ<=cst aa:=match d,aa,h with
 |.ev _ _ ds _ _,n+1,h=>by
  have a:=DN ds n h.2.1;have b:=afP (cst n) h.2.2.1;show ds.cZ+1<=1+3*cst n;lia
 |.say _,n,_=>lJ n|.fault,n,_=>lJ n|.wanted,n,_=>lJ n|.line _,n,_=>lJ n|.mP _,n,_=>lJ n|.held,n,_=>lJ n|.set _,n,_=>lJ n|.loc _,n,_=>lJ n|.qY _ _ _,n,_=>lJ n
theorem DN(ds:aK)(aa:Nat)(h:fD aa ds):ds.cZ<=ds.num*cst aa:=match ds with
 |.nil=>adK _|.cons d ds=>by
  have a:=adv d aa h.1;have b:=DN ds aa h.2;show d.cZ+ds.cZ<=(ds.num+1)*cst aa;rw [ahn];lia
end
mutual
theorem agM(d:dR)(aa ns nt:Nat)(h:Mj aa d):len (bG d ns nt).texts<=mt aa:=match d,aa,h with
 |.ev t w ds v r,n+1,h=>by
  have a:=NW ds n 0 nt h.2.1;have b:=afP (mt n) h.2.2.1;induction t with
  |true=>
   show len (cat (aG ds 0 nt).texts [_])<=1+3*mt n;rw [len_cat];show _+1<=_;lia
  |false=>show len (aG ds 0 nt).texts<=1+3*mt n;lia
 |.say _,_,_=>adK _|.fault,_,_=>adK _|.wanted,_,_=>adK _|.line _,_,_=>adK _|.mP _,_,_=>adK _|.held,_,_=>adK _|.set _,_,_=>adK _|.loc _,_,_=>adK _|.qY _ _ _,_,_=>adK _
theorem NW(ds:aK)(aa ns nt:Nat)(h:fD aa ds):len (aG ds ns nt).texts<=ds.num*mt aa:=match ds with
 |.nil=>adK _|.cons d ds=>by
  have a:=agM d aa ns nt h.1;have b:=NW ds aa (ns+len (bG d ns nt).subs) (nt+len (bG d ns nt).texts) h.2;show len (cat _ _)<=(ds.num+1)*mt aa;rw [len_cat,ahn];lia
end
theorem NY{depth:Int}{many:Int}{w:Nat}:∀(ds:aK){s:GS},fD 3 ds->(dW depth ds many w s).1.kept=s.kept
 |.nil,s,_=>rfl|.cons d ds,s,h=>by
  have hd:(uS depth d many w s).1.kept=s.kept:=by
   cases d with
   |loc n=>exact absurd h.1.1 (by decide)|ev t wn cy v r=>
    induction t with
    |false=>rfl|true=>
     show (match fX depth many with|true=>_|false=>_:GS×Option DV).1.kept=_
     cases fX depth many<;>rfl
   |_=>rfl
  show (nq (uS depth d many w s) λs=>dW depth ds many w s).1.kept=_;revert hd;generalize uS depth d many w s=r;intro hd;obtain ⟨s',o⟩:=r;induction o with
  |none=>exact (NY ds h.2).trans hd|some v=>exact hd
def qp(c:CV):Bool:=(mX c).leavesShort 8&&Nat.ble (mX c).weight 60&&(mX c).showable&&Nat.ble (mX c).depth 2&&!(mX c).hasDict&&Gq c
theorem YU:∀m:Nat,m<1801->qp (aI ((m:Int)-900))=true:=by decide +kernel
theorem YV:∀m:Nat,m<19->qp (o8 (gV (S0 "oh") m))=true/\qp (o8 (gV (S0 "no") m))=true/\qp (o8 (gV (S0 "Deep recursion") m))=true:=by decide +kernel
theorem i0:qp (o8 (.l (S0 "oh\n")))=true/\qp (o8 (.n 7))=true/\qp (o8 uA)=true/\qp (.str (S0 ""))=true/\qp .none=true/\qp (.int 1)=true:=by decide +kernel
def tdB(c:CV):Bool:=(mX c).leavesShort 8&&Nat.ble (mX c).weight 62&&(mX c).showable&&Nat.ble (mX c).depth 3&&!(mX c).hasDict&&Gq c
theorem adw(d:PyData)(b:Bool)(h:(d.leavesShort 8&&Nat.ble d.weight 60&&d.showable&&Nat.ble d.depth 2&&!d.hasDict&&b)=true):((PyData.list [d]).leavesShort 8&&Nat.ble (PyData.list [d]).weight 62&&(PyData.list [d]).showable&&Nat.ble (PyData.list [d]).depth 3&&!(PyData.list [d]).hasDict&&(b&&true))=true:=by
 simp only [agY,Nat.ble_eq,Bool.not_eq_true',PyData.leavesShort,PyData.leavesShortAll,PyData.weight,PyData.weightAll,PyData.showable,PyData.showableAll,PyData.depth,PyData.depthAll,PyData.hasDict,PyData.hasDictAll,Bool.or_false,and_true] at *;refine bB λgg=>?_;obtain ⟨⟨⟨⟨⟨a,b⟩,c⟩,d⟩,e⟩,f⟩:=h;refine gg ?_;exact ⟨⟨⟨⟨⟨a,by lia⟩,c⟩,by lia⟩,e⟩,f⟩
theorem DO{c:CV}(h:qp c=true):tdB (.lst [c])=true:=adw (mX c) (Gq c) h
theorem YW:tdB (.lst [])=true:=by decide +kernel
noncomputable def uM:az->Prop
 | []=>True|c::r=>tdB c=true/\uM r
noncomputable def wZ:az->Prop
 | []=>True|c::r=>qp c=true/\wZ r
theorem qt{b:az}(hb:uM b):∀{a:az},uM a->uM (cat a b)
 | [],_=>hb|c::a,h=>⟨h.1,qt hb h.2⟩
theorem w4{b:az}(hb:wZ b):∀{a:az},wZ a->wZ (cat a b)
 | [],_=>hb|c::a,h=>⟨h.1,w4 hb h.2⟩
theorem w5{c:CV}:∀{a:az}{i:Nat},wZ a->af a i=some c->qp c=true
 | [],i,_,e=>bq e|x::a,0,h,e=>aap e▸h.1|x::a,i+1,h,e=>w5 h.2 e
inductive TdR(l:az):Prop where
 |mk (s:PyData.leavesShortAll 8 (eG l)=true) (w:PyData.weightAll (eG l)<=63*len l) (sh:PyData.showableAll (eG l)=true) (dp:PyData.depthAll (eG l)<=3) (nd:PyData.hasDictAll (eG l)=false) (ok:kN l=true)
theorem NZ:∀{l:az},uM l->TdR l
 | [],_=>⟨rfl,abv _,rfl,adK _,rfl,rfl⟩|c::l,h=>by
  have r:=NZ h.2;have q:((mX c).leavesShort 8&&Nat.ble (mX c).weight 62&&(mX c).showable&&Nat.ble (mX c).depth 3&&!(mX c).hasDict&&Gq c)=true:=h.1;simp only [agY,Nat.ble_eq,Bool.not_eq_true'] at q;obtain ⟨⟨⟨⟨⟨a,b⟩,c'⟩,d⟩,e⟩,f⟩:=q;have rs:=r.1;have rw':=r.2;have rh:=r.3;have rd:=r.4;have rn:=r.5;have ro:=r.6;refine ⟨?_,?_,?_,?_,?_,?_⟩
  ·show ((mX c).leavesShort 8&&_)=true;rw [a,rs];rfl
  ·show (mX c).weight+1+PyData.weightAll (eG l)<=63*(len l+1);lia
  ·show ((mX c).showable&&_)=true;rw [c',rh];rfl
  ·show max (mX c).depth (PyData.depthAll (eG l))<=3;exact Nat.max_le.2 ⟨d,rd⟩
  ·show ((mX c).hasDict||_)=false;rw [e,rn];rfl
  ·show (Gq c&&kN l)=true;rw [f,ro];rfl
theorem N1{l:az}(r:TdR l)(hl:len l<=1000):DX (.list (eG l)):=by
 have w:=r.2;have z:=PyData.shown_le 8 (by decide) (.list (eG l)) (by show PyData.leavesShortAll 8 (eG l)=true;exact r.1)
 exact ⟨r.3,by show PyData.depthAll (eG l)+1<=20;have:=r.4;lia,r.5,by
  have:(PyData.list (eG l)).weight=PyData.weightAll (eG l):=rfl;rw [this] at z;unfold aW;lia⟩
inductive SG(s:GS):Prop where
 |mk (told:uM s.told) (f:qp s.fault=true) (g:qp s.g=true) (k:wZ s.kept) (ln:0<=s.line/\s.line<19)
theorem Gg{n:Int}(h : -900<=n/\n<=900):qp (aI n)=true:=by
 have z:=YU (n+900).toNat (by lia)
 have e:(((n+900).toNat:Nat):Int)-900=n:=by lia
 rw [e] at z;exact z
theorem y9{n:Int}(h:0<=n/\n<19):qp (o8 (gV (S0 "oh") n))=true/\qp (o8 (gV (S0 "no") n))=true/\qp (o8 (gV (S0 "Deep recursion") n))=true:=by
 induction n with
 |ofNat m=>exact YV m (afr.mp h.2)|negSucc m=>exact absurd h.1 (by lia)
theorem YX{d:DV}(h:jF d):qp (o8 d)=true:=h.casesOn λj n hj hn=>lM (P:=λj=>qp (o8 (vq j n))=true) (y9 hn).1 i0.1 i0.2.1 (y9 hn).2.1 hj
theorem SG.add{s:GS}{v:CV}(h:SG s)(hv:qp v=true):SG (s.add v):=⟨qt (b:=[.lst [v]]) ⟨DO hv,trivial⟩ h.1,h.2,h.3,h.4,h.5⟩
theorem YY{o:Option DV}(h:∀d,o=some d->qp (o8 d)=true):qp (H8 o)=true:=by
 induction o with
 |none=>exact i0.2.2.2.1|some d=>exact h d rfl
theorem RX{w v:Nat}{o:Option DV}(hv:v<30):uM (mR w o v):=by
 induction w with
 |zero=>trivial|succ w=>
  induction o with
  |none=>exact ⟨DO (Gg (by lia)),trivial⟩|some d=>induction w with
   |zero=>exact ⟨DO i0.2.2.2.2.1,trivial⟩|succ w=>exact ⟨YW,trivial⟩
theorem SG.guard{st:GS}{w v:Nat}{r:GS×Option DV}(h:SG st)(hr:SG r.1)(hv:v<30)(ho:∀d,r.2=some d->qp (o8 d)=true):SG (gw st w v r):=⟨qt (RX hv) hr.1,YY ho,by
 show qp ((af r.1.kept (len st.kept)).getD r.1.g)=true;induction e:af r.1.kept (len st.kept) with
 |none=>exact hr.3|some c=>exact w5 hr.4 e,h.4,h.5⟩
theorem SG.begin{s:GS}(h:SG s):SG s.begin:=⟨h.1,i0.2.2.2.1,h.3,h.4,h.5⟩
theorem RY(w:Nat):qp (Be w)=true:=by
 induction w with
 |zero=>exact i0.2.2.2.2.1|succ w=>induction w with
  |zero=>exact i0.2.2.2.1|succ w=>exact i0.2.2.2.2.2
mutual
theorem agP(depth:Int)(d:dR)(aa:Nat)(many:Int)(w:Nat)(s:GS)(ok:Mj aa d)(h:SG s):SG (uS depth d many w s).1:=match d with
 |.say n=>h.add (Gg ok)|.fault=>h.add h.2|.wanted=>h.add (RY w)|.line r=>⟨h.1,h.2,h.3,h.4,by have:r<9:=ok;show (0:Int)<=10+r/\(10:Int)+r<19;lia⟩|.mP _=>h|.held=>h.add h.3|.set n=>⟨h.1,h.2,Gg (by have:=ok.2;lia),h.4,h.5⟩|.loc n=>⟨h.1,h.2,Gg (by have:=ok.2;lia),w4 (b:=[s.g]) ⟨h.3,trivial⟩ h.4,h.5⟩|.qY wn v r=>match aa,ok with
  |n+1,ok=>h.guard (r:=(s.begin,some uA)) h.begin ok.2 λd e=>by cases e;exact i0.2.2.1
 |.ev t wn ds v r=>match aa,ok with
  |n+1,ok=>by
   have g:∀m:Int,SG (gw s wn v (dW depth ds m wn s.begin)):=λm=>h.guard (N2 depth ds n m wn s.begin ok.2.1 h.begin) ok.2.2.2 λd e=>YX (pC (s:=s.begin) ds ok.2.1 h.5 e);cases t with
   |false=>exact g many|true=>
    show SG (match fX depth many with|true=>_|false=>_:GS×Option DV).1
    cases fX depth many with
    |true=>exact h.guard (r:=(s.begin,some (gV (S0 "Deep recursion") s.line))) h.begin ok.2.2.2 λd e=>by cases e;exact (y9 h.5).2.2
    |false=>exact g (many+1)
theorem N2(depth:Int)(ds:aK)(aa:Nat)(many:Int)(w:Nat)(s:GS)(ok:fD aa ds)(h:SG s):SG (dW depth ds many w s).1:=match ds with
 |.nil=>h|.cons d ds=>by
  have h1:=agP depth d aa many w s ok.1 h;show SG (nq (uS depth d many w s) λs=>dW depth ds many w s).1;revert h1;generalize uS depth d many w s=r;intro h1;obtain ⟨s',o⟩:=r;induction o with
  |none=>exact N2 depth ds aa many w s' ok.2 h1|some v=>exact h1
end
theorem N3:∀{E:List SV},kV E=[]->uH E=0->E=[]
 | [],_,_=>rfl|e::r,h,n=>by
  have h:(match e.sc with|true=>e.v::kV r|false=>kV r)=[]:=h
  have n:uH r+(match e.sc with|true=>0|false=>1)=0:=n
  induction q:e.sc with
  |true=>rw [q] at h;cases h
  |false=>rw [q] at n;cases n
theorem adx{s:MS}(h:s.E=[]):s.e0=s:=by unfold MS.e0;rw [← h]
theorem ady{q:LZ}(c:LawC q.ds q.T q.w q.dp q.y){s':MS}{aF:Int}{dc:gI}(h:jH q.y.s false 0 q.z.r.1 s' aF dc):s'.E=[]:=by
 obtain ⟨hz,_,e⟩:=c;obtain ⟨rel,⟨more,e2,na⟩,_,_,_,_⟩:=h;have hk:q.z.r.1.kept=[]:=NY (s:=g0) q.ds (hz.casesOn λ_ ok _ _ _ _=>ok);have k:=rel.kept;rw [hk] at k;rw [e] at e2;have e2:s'.E=more:=e2;rw [e2] at k;rw [e2];exact N3 (by induction h:kV more with|nil=>rfl|cons a b=>rw [h] at k;cases k) na
theorem bD.exc{σ:aq}{ρ:bR}{P:aq->bR->Prop}{i:Nat}{C:Addr}{fs fs':Lo}{t b:Bool}(hi:af σ i=some (.exc C fs t b))(k:eT ρ fs fs')(h:P (setAt σ i (.exc C fs' t b)) ρ):bD σ ρ P:=
 .cell (o':=.exc C fs' t b) hi (λW a hp e _ c=>zE.casesOn c λo vs ow g cls d sz tb cx di=>⟨o,vs,ow,g,cls,d,sz,tb,cx,by
  generalize o.dict=q at di;cases di with
  |no=>cases k;exact .no
  |yes fs d ne nt c=>exact .yes fs' d ne nt (k.Eh e c)⟩) h
theorem YZ(d:DV):dP (o8 d)=some (Zq d):=by cases d<;>rfl
theorem Y0{cx:Cx Prop}(ht:cx.top=cg):aJ cx 719 rrL:=λF as aj S dp sh fK o hv k R h ok er=>by
 refine bB λgg=>?_;obtain ⟨q,h1,h2,h3,h4,h5,h6⟩:=h;refine gg ?_;have hz:GIn 3 q.z:=h5.casesOn λhz _ _=>hz;have c:GC 3 false q.T q.dp 1 g0 (30*q.ds.cZ+10+0) q.y:=h5.casesOn λ_ c _=>c;refine (T3 (NP (abv 3)) (abv 3) hz (we:=0) (by decide) ht).nu F as aj S dp sh fK o hv k R (λρ hl=>.pure ⟨as,.refl _,q.y,h1,h2,h3,h4,c,λs' aF dc hp=>?_⟩) ok er
 have e:=adx (ady h5 hp);unfold rrO at h6;revert h6;induction q.z.r.2 with
 |none=>exact λh6=>iz (by have z:=h6 s' aF dc hp;dsimp only at z;rw [e] at z;exact z)|some d=>
  exact λh6 dS _ _=>bD.exc (i:=25) (fs':=[(S0 "text",.c (.str (S0 "died"))),(S0 "value",.c (.at (Zq d)))]) rfl (.cons _ _ _ _ _ (.refl _) <|.cons _ _ _ _ _ (.dP (YZ d)) .nil) ⟨.error 25,.err _ ⟨_,_,_,_,rfl⟩,by have z:=h6 s' aF dc hp;dsimp only at z;rw [e] at z;exact z⟩
theorem AO.setAt{σ:aq}{i:Nat}{o o':MO}(hi:af σ i=some o)(h:BF o o'):AO σ (aT.setAt σ i o'):=⟨bL ..,λj=>by
 by_cases e:i=j
 ·subst e;rw [hi,av _ hi];exact .yes _ _ h
 ·rw [ay _ _ e];exact (AO.refl σ).2 j⟩
theorem w6(x:Str):∀fs:Lo,look x (DM fs)=(look x fs).map CR
 | []=>rfl|p::fs=>by
  show look x ((p.1,CR p.2)::DM fs)=(look x ((p.1,p.2)::fs)).map CR;rw [aC,aC,w6 x fs];by_cases e:p.1=x
  ·rw [if_pos e,if_pos e];rfl
  ·rw [if_neg e,if_neg e]
theorem BA:∀fs:Lo,len (DM fs)=len fs
 | []=>rfl|p::fs=>congrArg (· + 1) (BA fs)
theorem RZ(fs:Lo):DLe fs (DM fs):=⟨adW (BA fs).symm,λW g h x=>by
 have z:=h x;rw [w6];induction e:look x fs with
 |none=>rw [e] at z;exact z|some v=>rw [e] at z;exact z.elim λy w=>⟨y,w.1,E0 v W y w.2⟩⟩
theorem R0(as:aY)(σ:aq):AO σ (RW as σ):=by
 unfold RW;induction (af as 2).bind refOf with
 |none=>exact .refl _|some j=>
  show AO σ (match q8 j σ with|some fs=>aT.setAt σ j (.dict (DM fs))|none=>σ)
  induction e:q8 j σ with
  |none=>exact .refl _|some fs=>exact .setAt (Ge e) λW i a h c=>(RZ fs).at c
theorem Y3:aV pF 1536 goL:=YR (C:=IT 3) (f:=RW) (abU 3 pF rfl) R0
theorem N4:eN pF:=fR (bE (RT (Mt 3 (abv 3) pF rfl)) <|bE (RV rfl) <|bE (Dc 3 (abv 3) pF rfl) <|bE (YQ rfl) <|bE (eg (dN:=pF) (Y0 rfl) rfl) <|bE Y3 ff) ff ff
theorem Y4{S:az}(hS:Mh S):dz (IG S) 0:=by
 have e:IG S=(S.drop 0).take (j5 (len S) (some 50)-0):=au _;rw [e];refine ⟨λi hi=>?_,?_,aen _⟩
 ·rw [bl,ahZ,aic] at hi
  have hl:i<len S:=by rw [bl];lia
  refine (hS i hl).elim λz hz=>⟨z,?_⟩;rw [bW] at hz ⊢;rw [List.getElem?_take,if_pos (by lia),aiC,aeb];exact hz
 ·rw [bl,ahZ]
  have h:j5 (len S) (some 50)-0<=50:=by
   show bound (len S) 50-0<=50;show (match Nat.ble 50 (len S) with|true=>50|false=>len S)-0<=50
   induction e:Nat.ble 50 (len S) with
   |true=>exact abv _|false=>have hn:¬50<=len S:=λh=>nomatch e.symm.trans (aeu h);show len S-0<=50;lia
  lia
section
variable{S:az}{K:KR}{d w:Nat}
theorem Gh{l:az}{o:Int}{f:Nat->Prop}(h:dz l o)(k:∀r,r<3->f r):YT l o 3 f:=⟨rfl,rfl,λ_ _=>⟨h,rfl,λr hr=>⟨trivial,k r hr⟩⟩⟩
theorem Y5{T1 T2:az}(h1:eG T1=eG T2)(ok:kN T1=true)(r:TdR T2)(hl:len T2<=1000)(h:K (.ok (.c (.bool true))) []):By T1 T2 w w K:=by
 unfold By;rw [au,au,h1];have s:=N1 r hl;exact ⟨⟨ok,h1▸s⟩,⟨r.6,s⟩,by rw [show mW (.str (PyData.list (eG T2)).shown) (.str (PyData.list (eG T2)).shown)=true from decide_eq_true rfl];rfl,decide_eq_true rfl,by decide,h⟩
theorem adz:SG g0:=⟨trivial,i0.2.2.2.2.1,i0.2.2.2.2.1,trivial,by decide⟩
theorem rZ{ds:aK}(ok:fD 3 ds)(num:ds.num<=most 3):ds.cZ<=160/\len (aG ds 0 0).texts<=52:=by
 have a:=DN ds 3 ok;have b:=NW ds 3 0 0 ok;have n:ds.num<=4:=num;have a':ds.cZ<=ds.num*40:=a;have b':len (aG ds 0 0).texts<=ds.num*13:=b;lia
theorem R1{ds:aK}(ok:fD 3 ds)(num:ds.num<=most 3){w:Nat}(hw:w<3){dp:Int}{rt rd:Addr}{ms fk F:az}(hF:len F=0):LawC ds (aG ds 0 0).texts w dp ⟨(vA [] (aG ds 0 0).texts dp rt rd ms).fr F,3,fk,0,[]⟩:=by
 have s:=rZ ok num;have c:(aG ds 0 0).tot<=5*ds.cZ:=gu ds 0 0;unfold yx.tot at c;refine ⟨⟨hw,ok,⟨[],[],(au _).symm,rfl⟩,?_,?_,?_⟩,⟨rfl,rfl,by show len F+1=1;rw [hF],⟨rfl,rfl,rfl,rfl,rfl,rfl,⟨λi e q=>bq q,λx q=>bq q⟩⟩,⟨?_,?_,?_,?_,ff⟩,λ_=>rfl,⟨trivial,by show len F+3<=100;rw [hF];decide⟩,(show (0:Int)<=3/\(3:Int)<19 by decide)⟩,rfl⟩
 ·show len (aG ds 0 0).rows<=800000;lia
 ·show len (aG ds 0 0).subs<=900000;lia
 ·show 0+len (aG ds 0 0).texts<=90;lia
 ·show (0:Int)+((30*ds.cZ+10+0:Nat):Int)<=900000;lia
 ·show 0+0+(30*ds.cZ+10+0)<=900000;lia
 ·show 0+(30*ds.cZ+10+0)<=900000;lia
 ·show 6*0+(30*ds.cZ+10+0)<=5400;lia
theorem N5{dp:Nat}(hd:15<=dp){ds:aK}(ok:fD 3 ds)(num:ds.num<=most 3){depth:Int}(hw:w<3){f0:GS->Prop}{f1:DV->GS->Prop}(h0:(dW depth ds 1 w g0).2=none->f0 (dW depth ds 1 w g0).1)(h1:∀v,(dW depth ds 1 w g0).2=some v->f1 v (dW depth ds 1 w g0).1):goV dp ds depth w f0 f1:=by
 have s:=rZ ok num;have n:ds.num<=4:=num;exact ⟨rfl,rfl,λ_ _=>⟨hd,ds,rfl,⟨by lia,ok,hw,by show 0+ds.cZ<=100000;lia,by show 0+ds.cZ<=100000;lia,by decide,FD (λe=>⟨trivial,h0 e⟩) λv e _ _=>⟨trivial,h1 v e⟩⟩⟩⟩
theorem Y6(hS:Mh S)(hl:len S<aW)(h:K (.ok (.c (.bool true))) []):T7 S d K:=by
 refine ⟨hl,rfl,rfl,rfl,λ_ _=>⟨Y4 hS,⟨by decide,by decide⟩,λds o' dY ok num hat lg=>⟨trivial,Gh hat λw hw=>Gh hat.inc λr hr=>⟨rfl,rfl,λ_ _=>⟨ds,rfl,⟨ok,num,by decide,by have:=(rZ ok num).1;show 0+5*ds.cZ<=100000;lia,trivial,?_⟩⟩⟩⟩⟩⟩
 refine ⟨rfl,rfl,λ_ _=>⟨([],(aG ds 0 0).texts,w,1+r),rfl,rfl,rfl,rfl,λrt rd fk ms=>⟨trivial,?_⟩⟩⟩;refine ⟨rfl,rfl,λX hX=>⟨⟨ds,(aG ds 0 0).texts,w,1+r,⟨(vA [] (aG ds 0 0).texts (1+r) rt rd ms).fr (X 19),3,fk,0,[]⟩⟩,rfl,by show 56<=d+79;lia,rfl,rfl,R1 ok num hw hX.1,?_⟩⟩
 have sg:SG (dW (1+r) ds 1 w g0).1:=N2 _ ds 3 _ w g0 ok adz;have gl:len (dW (1+r) ds 1 w g0).1.told<=1000:=by have a:=(mh (1+r) ds 3 1 w g0 ok).1;have b:=(rZ ok num).1;have a:len (dW (1+r) ds 1 w g0).1.told<=0+ds.cZ:=a;lia
 have fin:∀{s':MS}{aF:Int}{dc:gI}{s0:MS},jH s0 false 0 (dW (1+r) ds 1 w g0).1 s' aF dc->By s'.told (dW (1+r) ds 1 w g0).1.told w w K:=λhp=>hp.casesOn λrel _ _ _ _ _=>rel.casesOn λa1 a2 _ _ _ _ _=>Y5 a1 a2 (NZ sg.1) gl h;have fr:∀{s':MS}{aF:Int}{dc:gI},jH ((vA [] (aG ds 0 0).texts (1+r) rt rd ms).fr (X 19)) false 0 (dW (1+r) ds 1 w g0).1 s' aF dc->s'.frames=X 19:=λhp=>hp.casesOn λ_ _ _ kp _ _=>kp.fr0;show rrO (dW (1+r) ds 1 w g0) _ _ _;unfold rrO;induction hr:(dW (1+r) ds 1 w g0).2 with
 |none=>exact λs' aF dc hp=>⟨⟨fr hp,trivial⟩,N5 (by lia) ok num hw (λ_=>fin hp) λv e=>nomatch hr.symm.trans e⟩
 |some dv=>exact λs' aF dc hp=>⟨⟨fr hp,trivial⟩,N5 (by lia) ok num hw (λe=>nomatch hr.symm.trans e) λv e=>by
   cases hr.symm.trans e;exact ⟨by rw [show mW (Zq dv) (Zq dv)=true from decide_eq_true rfl];rfl,fin hp⟩⟩
theorem R2(hS:Mh S)(hl:len S<aW):BE (eO pF 150 (fnOf 1557)) .no (d+80) [.c (.lst S)] [] λres _=>res =.ok (.c (.bool true)):=(adu.1 d S _).mpr (Y6 hS hl rfl)
end
section
abbrev uN(w:World):Prop:=P3 (mJ (fH w).get? (fH w).objs.size=true) (B3 (fH w).get? fM=B4 fM) (B5 (fH w).get? (kY (fH w).get?)=B6 (fH w).get? w.params (kY (fH w).get?))
def i6(H:Heap)(P:Addr):Prop:=∃a o,H.get? a=some o/\jc o P
noncomputable def tabOf(o:fy):Option aH:=match o with
 |some o=>match o.data with
  |.fields vs=>some (.tab vs)|_=>none
 |none=>none
open Classical in
def BB(H H':Heap):Addr->fy:=λa=>if i6 H a then none else H'.get? a
open Classical in
def DP(H:Heap):Addr->Option aH:=λa=>if i6 H a then tabOf (H.get? a) else none
section
variable{H H':Heap}{F:Addr->fy}{a:Addr}{o:Obj}
theorem uO{f:Nat->Bool}:∀{n:Nat},D9 n f=true->∀a,a<n->f a=true
 |0,_,_,h=>(adP _ h).elim|n+1,h,a,ha=>aO h λh1 h2=>(ahO.mp ha).elim (uO h2 a) λz=>z▸h1
inductive agQ(H:Heap)(P:Addr):Prop|mk (ps:ig) (h:H.get? P=some (PySem.W.tabObj ps)) (t:JA H.get? ps.toList=true)
theorem i6.is(hb:mJ H.get? H.objs.size=true)(h:i6 H a):agQ H a:=by
 refine bB λgg=>?_;obtain ⟨c,o,hc,ht,vs,hv,h11⟩:=h;refine gg ?_;refine bB λgg=>aO hb λhb _=>aO hb λhb _=>aO hb λhb _=>aO hb λhb _=>aO hb λh1 _=>gg <|?_
 refine ck (uO h1 c (ado hc)) λo' e z=>?_;rw [hc] at e;cases e;unfold ZR at z;rw [hv] at z;dsimp only at z;rw [show af vs.toList 11=some (.ref a) by rw [E7,agT];exact h11] at z
 have z:(!(mC o.cls "code")||nT (H.get? a) (JB H.get?))=true:=z
 rw [ht,show mC (.type "code") "code" = true from beq_self_eq_true _] at z
 refine ck z λo2 e z=>?_;unfold JB at z;cases hd:o2.data with
 |fields ps=>
  rw [hd] at z;exact bB λgg=>aO z λz z3=>aO z λz1 z2=>gg <|⟨ps,e.trans (congrArg some ((E1 z2 hd).trans (by rw [ug z1]))),z3⟩
 |_=>rw [hd] at z;exact bM z
theorem Gi{g:Addr->fy}(kn:Kn F g):∀{l:bU},JA g l=true->TriplesOk l/\∀pos v,codeAmong pos l=some v->jt F v
 | [],_=>⟨trivial,λpos v q=>by simp [codeAmong] at q⟩ | [_],h=>aO h λ_ h=>bM h | [_,_],h=>aO h λ_ h=>aO h λ_ h=>bM h|v::u::c::r,h=>aO h λh1 h=>aO h λh2 h=>aO h λh3 h4=>by
  obtain ⟨i,t,e⟩:=l8 h1;obtain ⟨j,t',e'⟩:=l8 h2;cases e;cases e';have z:=Gi kn h4;refine ⟨z.1,λpos v q=>?_⟩;simp only [codeAmong] at q;split at q
  ·cases q;exact E8 kn h3
  ·exact z.2 pos v q
theorem N6{ob:Obj}(h:(H.push ob).get? a=some o):(a=H.objs.size/\o=ob)∨H.get? a=some o:=by
 obtain ⟨e1,e2⟩:=aiE.mp h;rw [show (H.push ob).objs=H.objs.push ob by cases H;rfl,Array.getElem?_push] at e1
 by_cases q:a=H.objs.size
 ·rw [if_pos q] at e1;exact .inl ⟨q,(aap e1).symm⟩
 ·rw [if_neg q] at e1;exact .inr (aiE.mpr ⟨e1,e2⟩)
theorem II{ps:ig}:j7 (PySem.W.tabObj ps)=false:=rfl
theorem kn0(hb:mJ H.get? H.objs.size=true)(up:∀b o,H.get? b=some o->H'.get? b=some o):Kn (BB H H') H.get?:=λa o e n=>by
 unfold BB;by_cases t:i6 H a
 ·cases t.is hb with|mk ps h _=>rw [h] at e;cases e;exact bM (II.symm.trans n)
 ·rw [if_neg t];exact up a o e
theorem Gj(h:BB H H' a=some o):¬i6 H a/\H'.get? a=some o:=by
 unfold BB at h;by_cases t:i6 H a
 ·rw [if_pos t] at h;exact bq h
 ·rw [if_neg t] at h;exact ⟨t,h⟩
theorem za(hb:mJ H.get? H.objs.size=true){r:aH}(h:DP H a=some r):∃ps,i6 H a/\r =.tab ps/\H.get? a=some (PySem.W.tabObj ps)/\JA H.get? ps.toList=true:=by
 unfold DP at h;by_cases t:i6 H a
 ·rw [if_pos t] at h
  induction t.is hb with|mk ps e z=>
  rw [e] at h;exact ⟨ps,t,(aap h).symm,e,z⟩
 ·rw [if_neg t] at h;exact bq h
theorem zb(t:i6 H a){ps:ig}(e:H.get? a=some (PySem.W.tabObj ps)):DP H a=some (.tab ps):=by
 unfold DP;rw [if_pos t,e];rfl
theorem agR(hb:mJ H.get? H.objs.size=true){ob:Obj}(e:H'=H.push ob)(hc:ob.cls≠ .type "code"):Inv ⟨BB H H',DP H,[]⟩ [] H':=by
 have up:∀b o,H.get? b=some o->H'.get? b=some o:=λb o z=>e▸aas _ z;have kn:=kn0 hb up;have own:∀a r,DP H a=some r->(∀ps,r≠ .tab ps)->False:=λa r h n=>(za hb h).elim λps z=>n ps z.2.1;refine ⟨λa o h=>(Gj h).2,λa o h=>(own _ _ h nofun).elim,λa o h=>(own _ _ h nofun).elim,λa r h=>?_,λa h=>?_,rfl,λi o a h=>bq h,⟨λa o P h t=>?_,λP q h=>?_⟩,λa h=>(own _ _ h nofun).elim⟩
 ·exact (za hb h).elim λps z=>if_pos z.1
 ·have:¬i6 H a:=λt=>by
   induction t.is hb with|mk ps z _=>
   exact afJ.mpr h (ado (up _ _ z))
  exact if_neg this
 ·have z:=(Gj h).2
  rw [e] at z;have:i6 H P:=(N6 z).elim (λq=>(hc (q.2▸t.1)).elim) λq=>⟨a,o,q,t⟩;cases this.is hb with|mk ps z _=>exact ⟨ps,zb this z⟩
 ·obtain ⟨ps,_,e1,e2,e3⟩:=za hb h
  cases e1;have t:=Gi kn e3;exact ⟨q,up _ _ e2,t.1,t.2,#[],(Array.append_empty).symm⟩
end
section
variable{cx:Cx Prop}{W:Wd}{s:Shared}{as:aY}{aj:bU}{n dp:Nat}
def Wd.top(W:Wd)(L:Addr):Wd:=⟨W.aU,cO W.own L (some .cur),W.ρ⟩
theorem Inv.top{σ:aq}{h:Heap}(I:Inv W σ h){ob:Obj}(hf:ob.isFreed=false):W.Le (W.top h.objs.size)/\Inv (W.top h.objs.size) σ (h.push ob):=by
 have hL:=I.5 _ (abv _);have ko:∀b r,W.own b=some r->(W.top h.objs.size).own b=some r:=λb r e=>(aM (Wd.dj hL e)).trans e;refine ⟨⟨λ_ _ e=>e,λ_ _=>ko _ _,λ_ _=>ko _ _,λ_=>ko _ _,λ_ _=>ko _ _,λ_ _ e=>e⟩,I.own (λb o _ e=>aas _ e) (by rw [acR];exact adq _) (λb i e=>ko b _ e) (λb _ e=>ko b _ e) λb r e=>?_⟩
 refine (bX e).elim (λz=>.inr ?_) λz=>.inl z.2;rw [z.1,← aap z.2];exact ⟨I.jh (abv _),.cur ob (abX _ hf)⟩
theorem call_top(HC:eN cx)(I:Inv W [] s.heap)(hρ:W.ρ=[])(T:iK cx W.aU){f:Fn}{a:Addr}(hf:aD a cx.top.fns=some f)(has:ah W as aj)(fK:Nat.ble dp 100=true){k:Ex MV->aq->Prop}{R:Result->Shared->Prop}(h:zB cx (aT.R cx n) .no dp f [] as [] [] k)
  (ok:∀(S':Pt)(b:MV)(v:Value),W.Le S'.W->kR s S'.s->Inv S'.W S'.σ S'.s.heap->ao S'.W b v->k (.ok b) S'.σ->R (.ok (.ret v)) S'.s) (er:∀n σ,¬k (.error n) σ):codeAny Md callerA (.call (.ref a) ⟨aj,[]⟩) R s:=aQ h λbs q1 h=>by
 have fK:=abV fK;induction T.7 a f hf with|mk ob fd ho hF hcl=>
 have hob:=I.1 _ _ ho;refine bB λgg=>?_;obtain ⟨ds,hdef,hdr⟩:=hF.SJ (S:=⟨W,[],s⟩) I;obtain ⟨binds,hb1,hb2⟩:=(tE has (show bY W [] [] from rfl) hdr).get q1
 obtain ⟨qn,Vg⟩:=hF.callee (S:=⟨W,[],s⟩) I hob;refine gg ?_;refine j8 (A:=callerA) (by decide +kernel) Vg (qJ hF.6 hdef (hF.5▸hb1) ?_)
 simp only [newFunctionEnv,ahm,afb,if_false,hF.4];refine aag (ahR ?_);have I1:=I.top (ob:=qK) rfl;refine aag (tF (λp acc=>?_) f.sc.names [] fd.closure ⟨W.top s.heap.objs.size,[],{ s with heap:=s.heap.push qK }⟩ I1.2 (by rw [hcl];exact rfl) h λS2 c c' ir I2 hc2 h2 KD=>?_)
 ·dsimp only
 ·have hL:S2.s.heap.get? s.heap.objs.size=some qK:=KD _ _ (abX _ rfl)
  have cur:S2.W.own s.heap.objs.size=some .cur:=ir.1.4 _ aL;let env:=Ct f fd s.heap.objs.size a c' (qn++".<locals>.");have T2:=T.up (I1.1.trans ir.1).1;have o2:Ok (cx:=cx) ⟨⟨f.sc,c,[],.no,dp⟩,env,callerA.deeper env⟩ S2:=⟨I2,⟨rfl,hF.13,cur,⟨λ_=>none,⟨qK,#[],0,hL,rfl,(λ_ he=>by simp at he),λ_=>rfl⟩,λx v z=>bq z⟩,.of hc2,hF.7,hF.8,rfl,hF.9.mono (I1.1.trans ir.1).1⟩,T2,
   ⟨.no,by show 1+300+1+6*dp<1000;lia,by show 4+3+60*dp+60<9900;lia,⟨[],rfl,λ_ hx=>(ahW hx).elim⟩,rfl⟩⟩
  refine aag (tG (F:=⟨⟨f.sc,c,[],.no,dp⟩,env,callerA.deeper env⟩) (k:=λm σ'=>(bindM ((aT.R cx n).exs ⟨f.sc,c,m,.no,dp⟩ f.body) UB) σ' k) (λp u=>?_) bs binds S2 rfl o2 (hb2.low ⟨(I1.1.trans ir.1).1,(I1.1.trans ir.1).6⟩) h2 λS3 m pG o3 h3=>?_)
  ·rfl
  ·refine aaq ⟨o3.nolimit,codeAny_func (((xZ HC n).exs _ f.body S3 o3).go h3 (λS4 n b m4 xO o4 e1 e2 h4=>?_) λS4 g m4 fl xO o4 v4 h4=>?_)⟩
   ·exact tH (n:=n) (σ:=S4.σ) (k:=k) (g:=λ_=>(aE (.error n):M Prop (Ex MV))) h4 λX hi h4=>(er _ _ h4).elim
   ·have le:W.Le S4.W:=(((I1.1.trans ir.1).trans pG.1).trans xO.1)
    have sm:kR s S4.s:=kR.trans ⟨ir.2.1,ir.2.2,ir.2.3⟩ (kR.trans pG.2 xO.2);induction v4 with
    |next=>exact ok S4 (.c .none) _ le sm o4.1 rfl h4|ret v x hv=>exact ok S4 v x le sm o4.1 hv h4|brk=>exact h4.elim|cont=>exact h4.elim
end
theorem end_is{res:Ex MV}{σ:aq}(h:gcK 0 (λr _=>r =.ok (.c (.bool true))) res σ):res =.ok (.c (.bool true)):=bZ h λp e q=>by
 refine (bz e).elim λ_ e=>bind_some e λσ3 _ e=>map_some e λr e z=>?_;have q:r =.ok (.c (.bool true)):=by rw [← q,← z]
 subst q;cases res with
 |error n=>exact map_some e λm _ z=>nomatch z
 |ok v=>
  exact map_some e λu e z=>by
   cases z;cases v with
   |c v=>cases e;rfl
   |ref n=>exact map_some e λm _ z=>nomatch z
   |tup l=>exact map_some e λm _ z=>nomatch z
   |clo f l=>exact map_some e λm _ z=>nomatch z
theorem ints_of{F:Addr->fy}:∀{l:bU},(∀v∈l,∃i t,v =.int i t)->∃S,bO F S l/\Mh S/\len S=l.length
 | [],_=>⟨[],rfl,λi hi=>(adP _ hi).elim,rfl⟩|v::r,h=>by
  obtain ⟨S,h1,h2,h3⟩:=ints_of (F:=F) λu hu=>h u (.tail _ hu);obtain ⟨i,t,e⟩:=h v (.head _);refine ⟨.at (.int i)::S,⟨v,r,rfl,e▸⟨t⟩,h1⟩,λj hj=>?_,congrArg (· + 1) h3⟩
  induction j with
  |zero=>exact ⟨i,rfl⟩|succ j=>exact h2 j (adM hj)
theorem aim(hw:uN w):Aim w:=λs its e hi hl Q E q=>by
 refine bB λgg=>?_;obtain ⟨S,h1,h2,h3⟩:=ints_of (F:=BB (fH w) s.heap) hi;refine gg ?_;have up:∀b o,(fH w).get? b=some o->s.heap.get? b=some o:=λb o z=>e▸aas _ z;have I:=agR hw.1 e (by show Value.type "list" ≠ .type "code";decide)
 have hs:s.heap.get? (fH w).objs.size=some (aX its.toArray 0):=by rw [e];exact abX _ rfl
 have nt:¬i6 (fH w) (fH w).objs.size:=λt=>by cases t.is hw.1 with|mk ps z _=>exact aec _ (ado z)
 have v1:ah ⟨BB (fH w) s.heap,DP (fH w),[]⟩ [.c (.lst S)] [.ref (fH w).objs.size]:=⟨_,[],rfl,⟨_,its,0,(if_neg nt).trans hs,h1⟩,rfl⟩;have hlim:len S<aW:=adQ (h3▸hl) (by decide)
 have T:iK pF (BB (fH w) s.heap):=Wc (kn0 hw.1 up) hw.1 hw.2 hw.3 rfl;have run:codeAny Md callerA (.call (.ref 1557) ⟨[.ref (fH w).objs.size],[]⟩) (λr s'=>r =.ok (.ret (.bool true))/\OldK s.heap s'.heap/\s'.os=s.os/\s'.gens=s.gens) s:=
  call_top (n:=150) (dp:=0+80) N4 I rfl T (f:=fnOf 1557) rfl v1 rfl (R2 (d:=0) h2 hlim) (λS' b v le sm I' hv h=>?_) λn σ h=>nomatch end_is h
 ·unfold Md at run
  rw [show prog=PySem.Challenge.pw_qd0167_01 by unfold prog;rfl] at run
  exact ahB (codeAny_mono run λr s' z=>by
   cases z.1;exact q s' z.2.1 z.2.2.1 z.2.2.2)
 ·cases end_is h
  refine ⟨by rw [show v =.bool true from hv],⟨λb o z=>?_,λb o z=>?_⟩,sm.3,sm.1⟩
  ·by_cases t:i6 (fH w) b
   ·induction t.is hw.1 with|mk ps g _=>
    cases (up _ _ g).symm.trans z;have ow:=le.5 b ps (zb t g);refine bB λgg=>?_;obtain ⟨ps',g',_,_,more,e'⟩:=I'.8.2 b ps ow;obtain ⟨c,oc,hc,ht,vs,hv',h11⟩:=t;refine gg ?_;exact .inr (.inl ⟨⟨c,oc,vs,up _ _ hc,ht,hv',h11⟩,rfl,ps,more,rfl,by rw [g',e']⟩)
   ·exact .inl (I'.1 b o (le.1 b o ((if_neg t).trans z)))
  ·by_cases t:i6 (fH w) b
   ·induction t.is hw.1 with|mk ps g _=>
    refine bB λgg=>?_;obtain ⟨ps',g',_⟩:=I'.8.2 b ps (le.5 b ps (zb t g));refine gg ?_;exact ⟨_,g'⟩
   ·exact ⟨o,I'.1 b o (le.1 b o ((if_neg t).trans z))⟩
theorem R3(h:∀w,uN w)(v:World):Aim v:=Classical.byContradiction λn=>(Classical.epsilon_spec_aux _ (λw=>¬Aim w) ⟨v,n⟩) (aim (h w))
end
section
set_option maxHeartbeats 0
open PySem PySem.W PyProof.Rows
theorem Y7{s:SharedT}{f:Obj->Bool}(h:D9 s.n (λa=>nT (gS s a) f)=true):gS s=s.abs.heap.get?:=funext λa=>by
 by_cases q:a<s.n
 ·refine ck (uO h a q) λo e _=>?_
  have e1:=e;unfold gS at e1;rw [show Nat.blt a s.n=true from aeu q] at e1
  dsimp only at e1;induction z:s.tree.get a with
  |none=>rw [z] at e1;exact bq e1|some o'=>
   rw [z] at e1;exact e.trans (e1.symm.trans (abs_get q z).symm)
 ·have:Nat.blt a s.n=false:=by
   induction z:Nat.blt a s.n with
   |false=>rfl|true=>exact absurd (abV z) q
  show (match Nat.blt a s.n with|true=>_|false=>none)=_
  rw [this];exact (abs_get_none q).symm
theorem N7{p:Program}{w:World}{N n:Nat}{ann:cK}{s s':Shared}(h1:(s.heap.isNs mainGlobals,s.heap.objs.size,s.heap.nsMap mainGlobals "__annotations__")=(true,n,ann))(hg:s.gens = #[])(r:topRun treeTable p w n ann N s (topStub p)=some s')
  (c:(staticsOk (importedModules p.main.body) s.heap s'.heap&&namesBound p s'.heap&&gensDone s'&&laidKept s.heap s'.heap)=true):topFrom treeTable p w N s=some s':=by
 obtain ⟨z1,z2,z3⟩:_/\_/\_:=by simpa only [Prod.mk.injEq] using h1
 unfold topFrom;rw [z1,z2,z3,r,hg];show (match (staticsOk (importedModules p.main.body) s.heap s'.heap&&namesBound p s'.heap&&gensDone s'&&laidKept s.heap s'.heap) with|true=>some s'|false=>none)=_
 rw [c]
theorem IJ{p:Program}{w:World}{N:Nat}{H₀:Heap}{d₀:Drawn}{k₀:Nat}(h:(fencedOpening treeTable p w N).map (λs=>(s.heap,s.gens,s.drawn,s.toks))=some (H₀,Array.mk [],d₀,k₀)){G:Prop}
  (c:∀os,(∀s',topFrom treeTable p w N ⟨H₀,#[],d₀,k₀,os⟩=some s'->openEnds treeTable p w N=some s')->G):G:=by
 obtain ⟨⟨hh,gs,d,k,os⟩,e,e'⟩:=Option.map_eq_some_iff.mp h;obtain ⟨rfl,rfl,rfl,rfl⟩:hh=H₀/\gs=Array.mk []/\d=d₀/\k=k₀:=by simpa using e'
 refine c os λs' t=>?_;unfold openEnds;rw [e];exact t
inductive Left(w:World):Prop
 |mk (s:SharedT) (h:zC w=some s.abs) (seen:openSeen q1 fB mods (λ_=>true) true s.abs=openGood q1 fB) (ok:mJ (gS s) s.n=true) (f:B3 (gS s) fM=B4 fM) (hs:B5 (gS s) (kY (gS s))=B6 (gS s) w.params (kY (gS s)))
theorem se{α β:Type}{a a':α}{b b':β}(h:(a,b)=(a',b')):a=a'/\b=b':=Prod.mk.inj h
theorem N8{α β:Type}{o:Option α}{f g:α->β}(h1:o.isSome=true)(h2:o.map f=o.map g):∃a,o=some a/\f a=g a:=by
 induction o with
 |none=>exact bM h1|some a=>exact ⟨a,rfl,aap h2⟩
theorem Y8{α β:Type}{o:Option α}{f g:α->β}{a:α}(h1:o=some a)(h2:o.map f=o.map g):f a=g a:=by
 subst h1;exact aap h2
theorem Gk(x:Str):∀l:List Str,JJ x l=l.contains x
 | []=>rfl|y::r=>by
  show (match cD y x with|true=>true|false=>JJ x r)=_
  rw [Gk x r,adS,n8];by_cases q:y=x
  ·subst q;simp
  ·rw [decide_eq_false q,show (x==y)=false from beq_false_of_ne (Ne.symm q)];rfl
theorem Y9(h:Heap):nmB h=namesBound pw h:=by
 unfold nmB namesBound;simp only [Gk]
theorem R4(w:World):(fencedOpening treeTable pw w 25000).map (λs=>(s.heap,s.gens,s.drawn,s.toks))=some (afp w.params,Array.mk [],boot_drawn,boot_toks):=boot_open (by kernel_rfl) (by decide) (λs=>by kernel_rfl) w
theorem R5{w:World}{s s':SharedT}{t:Thread}{S:Shared}(e:s.abs=S)(h:goT w s t=some s'):topRun treeTable pw w 11 (some (.ref 6)) 25000 S t=some s'.abs:=by
 subst e;exact OI s s.tree s.n s.toks t.cur t.code t.pos t.stack s' h
theorem R6{s:SharedT}(h:Sv s=openGood q1 fB):openSeen q1 fB mods (λ_=>true) true s.abs=openGood q1 fB:=(congrFun (congrFun (congrFun (congrFun (congrFun (congrFun PySem.W.Fast.te4187177175401517315 q1) fB) mods) _) true) s.abs).trans h
theorem adA{P:Params}{s:SharedT}(h:tpB P s=true):(staticsOk mods (afp P) s.abs.heap&&namesBound pw s.abs.heap&&gensDone s.abs&&laidKept (afp P) s.abs.heap)=true:=by
 rw [← Y9];exact h
theorem Gl(w:World):Left w:=IJ (R4 w) λos c=>by
 have R:=se ((ZZ w).1 os);obtain ⟨s,q,r⟩:=N8 R.1 R.2;have r1:=se r;have m:=Y8 q ((Z0 w).1 os);have r2:=se m;have r3:=se r2.2;have tf:=N7 (p:=pw) (Ed w).2 rfl (R5 ((Ed w).1 os) q) (adA r1.1);exact ⟨s,c s.abs tf,R6 r1.2,r2.1,r3.1,r3.2⟩
theorem R7{w:World}{H:Heap}(eh:fH w=H){g:Addr->fy}{n:Nat}(hg:g=H.get?)(hn:n=H.objs.size)(ok:mJ g n=true)(f:B3 g fM=B4 fM)(hs:B5 g (kY g)=B6 g w.params (kY g)):uN w:=by
 subst hg hn eh;exact ⟨ok,f,hs⟩
theorem Gm{w:World}{s:Shared}(h:zC w=some s):fH w=s.heap:=Ox h
theorem N9{s:SharedT}(ok:mJ (gS s) s.n=true):gS s=s.abs.heap.get?:=bB λgg=>aO ok λok _=>aO ok λok _=>aO ok λok _=>aO ok λok _=>aO ok λok _=>gg <|Y7 ok
theorem Gn(w:World):uN w:=(Gl w).casesOn λs h _ ok f hs=>R7 (Gm h) (N9 ok) (absHeap_size ..).symm ok f hs
theorem R8{w:World}{s:Shared}(h:zC w=some s)(sn:openSeen q1 fB mods (λ_=>true) true s=openGood q1 fB):(zC w).map (λs=>(openSeen q1 fB mods (λ_=>true) true s,s.heap))=some (openGood q1 fB,fH w):=by
 rw [Gm h,h];exact congrArg some (Prod.ext sn rfl)
theorem adB:LeftO pw q1 fB (λ_=>true) (λs=>s.heap) fH 25000:=λw=>(Gl w).casesOn λs h sn _ _ _=>R8 h sn
end
section
set_option maxHeartbeats 0
open PySem PySem.W PyProof.Rows
noncomputable abbrev IK:OpenLaw:=PySem.Challenge.rw_qd0167_01
theorem adC:PySem.W.Fast.tw12908688711261696721 pw=true:=by
 unfold PySem.W.Fast.tw12908688711261696721;iterate 5 refine look_both ?_ ?_
 all_goals decide +kernel
theorem adD:PySem.W.Fast.tw2436336058641802641 (PySem.W.Fast.tw2368527892694137696 IK)=true:=by
 unfold PySem.W.Fast.tw2436336058641802641;iterate 13 refine look_both ?_ ?_
 ·exact adC
 all_goals decide +kernel
theorem adE:PySem.W.Fast.tw17960256430627541270 (PySem.W.Fast.tw2368527892694137696 IK)=true:=by
 unfold PySem.W.Fast.tw17960256430627541270;iterate 2 refine look_both ?_ ?_
 ·exact adD
 all_goals decide +kernel
theorem adF:PySem.W.Fast.tw9446332074065402090 IK=true:=by
 unfold PySem.W.Fast.tw9446332074065402090;iterate 18 refine look_both ?_ ?_
 ·exact adE
 all_goals decide +kernel
theorem said:IK.wellSaid=true:=(congrFun PySem.W.Fast.te9446332074065402090 IK).trans adF
theorem adG:pw.tablesWhole=true:=by
 unfold Program.tablesWhole TablesWhole.wProgram;rw [PySem.W.Fast.te6116379765354995101];decide +kernel
theorem adH:IK.row.prog.bare:=⟨rfl,rfl,rfl,rfl,rfl,adG⟩
theorem ok1:(chainsOk q1&&opensWell IK.row.prog&&(frees IK.row.toRowW&&IK.row.within.isEmpty))=true:=by decide +kernel
theorem adI:IK.row.toRowW.promised:=⟨[ofPy (PyData.list [])],by decide +kernel,by decide +kernel⟩
theorem R9:∃d kwd,defOf q1 "law" = some (d,kwd)/\pw.theDef "law" = some (d.params,d.body,d.scope)/\kwWritten? d.params.kwonlyargs d.params.kw_defaults=some kwd:=by
 have e1:(defOf q1 "law").map (λx=>some (x.1.params,x.1.body,x.1.scope))=(defOf q1 "law").map λ_=>pw.theDef "law" :=by kernel_rfl
 have e2:(defOf q1 "law").map (λx=>kwWritten? x.1.params.kwonlyargs x.1.params.kw_defaults)=(defOf q1 "law").map λx=>some x.2:=by kernel_rfl
 have e3:(defOf q1 "law").isSome=true:=by kernel_rfl
 revert e1 e2 e3;generalize defOf q1 "law" = o;intro e1 e2 e3;induction o with
 |none=>exact bM e3|some x=>exact ⟨x.1,x.2,rfl,(aap e1).symm,aap e2⟩
theorem IL{R:WRecords}{w:World}{s₀ s₁:Shared}{ns:gI}{a:Addr}{as:bR}(L:Laid R w s₀ s₁ [ofPy (PyData.list (ns.map PyData.int))] [.ref a] as):∃vs:bU,a=s₀.heap.objs.size/\s₁.heap=s₀.heap.push { cls:=.type "list",data:=.seq vs.toArray 0 }:=by
 obtain ⟨ord,_,e⟩:=L.laid;simp only [ofPy,layAllW,layW] at e;induction q:layAllW R (classAt s₀.heap) w.params ord (ofPys (List.map PyData.int ns)) s₀ with
 |none=>rw [q] at e;exact bq e|some r=>
  rw [q] at e;have hh:=X.lay_ints ns s₀ r q;simp only [Option.some.injEq,Prod.mk.injEq,List.cons.injEq,Value.ref.injEq] at e;obtain ⟨⟨ea,_⟩,es⟩:=e;exact ⟨r.1,by rw [← ea,hh],by rw [← es,hh]⟩
theorem uP:∀{vs:bU}{ns:gI},IntsAre vs ns->(∀v∈vs,∃i t,v =.int i t)/\vs.length=ns.length
 |_,_,.nil=>⟨ff,rfl⟩|_,_,.cons n t h=>⟨λv hv=>(adN.mp hv).elim (λz=>⟨n,t,z⟩) ((uP h).1 v),congrArg (· + 1) (uP h).2⟩
theorem BC:(S0 "law",CV.aA 1557)∈jd:=oU (by rfl)
theorem Za{w:World}(hw:uN w){h:Heap}{mg:Str->cK}(k:∀b o,(fH w).get? b=some o->h.get? b=some o)(hg:h.Ns mainGlobals mg){a:Addr}(e:mg "law" = some (.ref a)):a=1557:=
 aO hw.1 λhb _=>aO hb λhb _=>aO hb λ_ h4=>ck h4 λm em h4=>ck h4 λb eb h4=>aO h4 λ_ b2=>by
  have hm:=um b2 _ BC;cases oS em with|mk es ep g1 k1=>
  have e2:mg (S0 "law")=fc (S0 "law") es.toList:=by
   rw [← jA];obtain ⟨o,es',SA,ho,hd,_,hn⟩:=hg;cases (k _ _ g1).symm.trans ho;cases hd;exact (hn _).symm
  have e3:fc (S0 "law") es.toList=some (.ref a):=e2.symm.trans e;refine hm.elim (λz=>z.elim λy z=>?_) λz=>bq (z.1.symm.trans e3);cases z.1.symm.trans e3;exact (aax (show Nat.beq 1557 a=true from z.2)).symm
theorem Sa{c:ClaimW}{cl:Str->Option Addr}{mean:ExcName->cK}{args:List WData}{s₁ s':Shared}(hr:∀cls,c.raises args cls=false)(hp:c.post args (.bool true) args=true)(o:OldK s₁.heap s'.heap)(os:s'.os=s₁.os)(g:s'.gens=s₁.gens)(g0:s₁.gens = #[]) :
  GoodWG c cl mean args s₁ (.ok (.ret (.bool true))) s':=⟨.inl ⟨_,_,[],rfl,hr,ReadsW.bool true,hp,λ_=>⟨ahv,λ_ hm=>(nomatch hm)⟩⟩,o,os,.of_eq (g.trans g0)⟩
theorem walk1{d:DefRec}{kwd:List (Str×Expr)}(hd1:defOf q1 "law" = some (d,kwd)):WalkX q1 fB (λ_ _=>True) (λs=>s.heap) fH IK.row.toRowW d kwd (λf vs=>PySem.call f vs):=by
 intro w s₀ s₁ mg mb G y fa o pm cd doc dV kV ho hd hcd hD hmg hg args aj as L hpre hlay hrd hwl hlo;have y:s₀.heap=fH w:=y;have hw:=Gn w;have hfa:fa=1557:=Za hw (h:=s₁.heap) (λb o e=>L.keeps b o (y▸e)) G.T.g (by rw [← defOf_name hd1];exact hmg)
 subst hfa;have Lg:=L.gens;wrow_args hpre hlay hrd hwl hlo;have hI:= ‹IntsAre _ _›;have hL:= ‹Heap.IsList _ _ _›;have hc:= ‹¬((63:Nat):Int)<_›;obtain ⟨vs,ea,eh⟩:=IL L;subst ea;obtain ⟨o',ho',_,n,hd'⟩:=hL;have e1:=(show s₁.heap.get? s₀.heap.objs.size=some { cls:=.type "list",data:=.seq vs.toArray 0 } by rw [eh];exact abX _ rfl).symm.trans ho'
 cases e1;cases hd';have hi:=uP hI;rw [y];exact R3 Gn w s₁ _ (by rw [eh,y]) hi.1 (by rw [hi.2];lia) _ _ λs' o1 o2 o3=>Sa (λ_=>rfl) (by first|rfl|wrow_post) o1 o2 o3 Lg
theorem agS:IK.Holds:=holds_law said λsd=>by
 obtain ⟨d,kwd,e1,e2,e3⟩:=R9;exact holds_openX (r:=IK.row) (q:=q1) (loose:=fB) (Xt:=λ_=>true) (XP:=λ_ _=>True) (Yf:=λs=>s.heap) (Ya:=fH) (d:=d) (kwd:=kwd) (N:=25000) adB (λ_ _=>trivial) (λ_ _ _ _ _=>trivial) e1 e2 e3 (λs _=>recFacts_of rfl) rfl sd ok1 adH adI (walk1 e1)
end
end
end aT
theorem PySem.Challenge.cw_qd0167_01_holds : PySem.Challenge.rw_qd0167_01.Holds :=
  aT.agS
