import PyProof.Rows.All
import PySem.Value
import PyProof.EqLayable
import PyProof.SliceMore
import Wide.All
import OpenK.AllK
import Wide.FinOn
import PyProof.ExcArgs
import PyProof.RulesAs
import PyProof.RulesDel
import KE.KTryMore
import PyProof.ExcClass2
import PyProof.ExcBaseAll.Exception
import PyProof.InstStoreFacts
import KE.KDictOf
import PyProof.AttrMissSeq
import PyProof.SliceList
import Lean
import PySem.Challenge.RW_ov0016_01
set_option genSizeOf false
set_option backward.match.sparseCases false
set_option genInjectivity false
set_option bootstrap.genMatcherCode false
set_option linter.all false
set_option Elab.async false
set_option maxRecDepth 100000
set_option maxHeartbeats 8000000
open PySem.Str renaming ofString->aa
open Option.some renaming inj->ae
open PySem renaming wpAny_bind->ag,Value->ai,Shared->ak,wpAny_pure->ao,Addr->ax,Expr->az,wpAny_holding->aL,wpAny_mono->aR,Around->a7,Heap->bt,wpAny_standAt->bP,Stmt->bT,PyData->dm,DictEntry->dF,wpAny_newObj_type->dR,wpAny_truthy_bool->eR,wpAny_loadPart_at->eU,wpAny_field->fH,Program->fK,Model->fY,wpAny_ite_false->fZ,wpAny_call_entry->gF,wpAny_execs_nil->g5,wpAny_callSpecial?_slot->ix,wpAny_loadPart->iO,wpAny_assign_Name->iQ,wpAny_execs_cons->jq,ExceptHandler->jL,World->ky,wpAny_isSubtype_exc->kz,wpAny_mkText->kA,wpAny_setField->lN,NameKind->oR,aRefKeyMayBeTheName_at->pD,Builtin->pG,Result->pH,wpAny_call->pI,Scope->rz,wpAny_loadName_local->rA,FuncData->rC,wpAny_seqItems->rD,codeAny_call_builtin->rG,wpAny_rule->uy,wpAny_pyIter_tuple->uz,wpAny_Name->uB,slot_list_getitem->wy,wpAny_askSetting->x8,wpAny_updatePart->x9,wpAny_lookBehind->ya,pastItsLine_dict->yb,sizeLine_eq->zU,eqBool->Aa,wpAny_loadPart'->Ac,Operator->CB,wpAny_ite_true->CI,wpAt_of_wpAny->Fb,Comprehension->G7,wpAny_getItem_list_slice->G9,Flow->Ha,wpAny_pyNext_list_item->Jq,wpAny_allTrue_And_cons->Jt
open Nat renaming le_trans->ah,lt_of_le_of_lt->aB,le_of_eq->aH,le_refl->aK,succ_le_succ->aP,zero_le->aV,lt_of_lt_of_le->aY,le_add_right->bb,le_of_not_lt->bp,le_succ->br,le_of_lt->bz,add_le_add_right->bE,lt_succ_self->bM,succ_add_eq_add_succ->bO,add_le_add_left->bQ,casesOn->b8,le_of_ble_eq_true->b9,lt_trans->cg,zero_add->cj,succ->de,not_lt_zero->dM,lt_irrefl->dY,add_right_comm->eh,add_assoc->eI,add_le_add->eZ,ne_of_lt->fw,add_comm->fx,succ_lt_succ->gr,mul_le_mul_left->gA,lt_of_succ_lt_succ->hJ,lt_succ_of_lt->hK,le_of_lt_succ->hO,not_lt->iP,le_antisymm->jn,min_eq_left->jo,le_of_succ_le->lK,lt_succ_of_le->lM,succ_ne_zero->mV,lt_add_of_pos_right->mW,sub_le_iff_le_add->oS,add_sub_cancel'->qq,sub_le->rI,lt_of_le_of_ne->rK,sub_self->tN,succ_pos->tO,le_succ_of_le->tQ,succ_ne_self->uA,le_add_left->wA,le_of_succ_le_succ->CC,ne_of_gt->CH,mul_succ->CJ,le_of_sub_eq_zero->E4,sub_eq_zero_of_le->E7,lt_of_lt_of_eq->Jx
open List renaming length_map->aj,getElem?_eq_some_iff->aq,mem_singleton->au,mem_of_getElem?->av,length_append->aw,append_assoc->ay,mem_cons->aC,all_eq_true->aD,nodup_cons->aJ,replicate->aM,map_append->aN,getElem?_eq_getElem->aO,length_set->aQ,mem_map->aS,mem_map_of_mem->aU,mem_append_left->aZ,mem_append_right->a8,getElem?_set_self->a9,append_nil->bf,getElem?_append_left->bk,getElem?_map->bw,getD_eq_getElem?_getD->bG,prefix_append->bH,getElem?_set_ne->bS,map_map->bU,getElem?_concat_length->cc,mem_append->cp,map_cons->cq,casesOn->cy,prefix_refl->cM,cons_ne_nil->cP,getElem?_append_right->cX,contains_iff_mem->di,not_mem_nil->dk,range'->dA,nodup_append->dI,filterMap_cons->dO,contains_cons->d8,map_congr_left->eT,length_take->eV,length_drop->eW,perm_middle->eY,lookup->fg,mem_iff_getElem?->fG,perm_append_comm->fJ,length_range->fN,any_eq_true->gm,lookup_cons->gn,mem_flatMap->gp,filter_cons->gq,getElem?_eq_none_iff->gu,mem_filter->gE,size_toArray->gY,getElem?_eq_none->iD,length_replicate->iE,range->iK,take_length->iL,any_cons->iN,eq_nil_of_length_eq_zero->iZ,length->i6,elem->jO,reverse_cons->kC,flatMap_cons->kE,all_cons->lJ,length_cons->mK,getElem_mem->mL,length_filter_le->ou,forIn_nil->o5,getElem?_range->qk,flatMap_append->qm,pairwise_cons->rh,getElem?_drop->rj,mem_replicate->rn,length_range'->rq,map_singleton->ru,map_set->sS,find?_cons->wg,append_inj->wj,all_append->wo,sublist_append_right->yf,drop_eq_getElem_cons->yg,length_filterMap_le->z7,not_any_eq_all_not->Ae,length_eq_zero_iff->Ag,filter_eq_nil_iff->Cn,drop_eq_nil_of_le->Cp,take_of_length_le->Cq,getElem?_toArray->CE,set_append_right->CK,mem_cons_of_mem->E9,map->Fd,map_eq_cons_iff->Fe,replicate_succ'->Ff,map_eq_nil_iff->He,filter_sublist->Hg,lookup_append->Jc,zip_nil_right->Jd,take_add_one->Jo,ext_getElem?->Jp,take_sublist->Jr
open PySem.Heap renaming get?_push_of_some->aA,get?_push_size->aE,get?_update_self->aW,get?_update_other->bV,SameBut->cb,get?_none_of_le->cO,lt_size->dQ,size_push->jW,ExtBut->E8,get?_update_ne->Hd,get?_push_at->Jv
open Bool renaming false_ne_true->aT,and_eq_true->bR,noConfusion->dX,not_eq_true'->fM,casesOn->g4,or_true->g6,eq_iff_iff->nh,true_and->qp,or_eq_true->wq,and_false->xe,rec->xh,or_eq_false_iff->E5
open False renaming elim->bA
open Int renaming natCast_nonneg->bI,ofNat_lt->bW,ofNat_le->cD,le_trans->cE,eq_ofNat_of_zero_le->cS,lt_of_le_of_lt->fu,not_lt->gI,le_of_lt->jQ,fmod_nonneg_of_pos->ni,not_le->rB,fmod_lt_of_pos->rJ,toNat_natCast->tL,mul_le_mul_of_nonneg_right->uD,fdiv_eq_ediv_of_nonneg->yd,lt_irrefl->Ab,toNat_lt->CD,le_of_eq->CG,ne_of_gt->CN,sub_nonneg_of_le->Hc,toNat_of_nonneg->Jb,add_sub_cancel->Jw
open PySem.SeqAt renaming shaped->bL
open Prod.mk renaming inj->bY
open PySem.Heap.SameBut renaming update->cK
open PySem.W renaming Frag->cT,putName_dict->eS,looks_findIn->kB,Looks->rF,any_some->wx,looks_clsIn->zT,callWith_of->zZ
open PySem.Value renaming ref->cY,none->fh,builtin->ql,noConfusion->ry,int->zW,str->Jn
open List.cons renaming inj->dJ
open Ne renaming symm->dK
open Option renaming map->dZ,isSome_iff_exists->eD,bind_some->iw,some_ne_none->ja,casesOn->jM,isSome->pE,isSome_map->Hh
open PySem.F renaming excBase_Exception->ei,slot_tuple_iterator_next->gv,slot_list_getattribute->hM,excAttr_ValueError->uC,slot_str_getitem->wz,plainAttrs_dict->xf,slot_dict_items->xg,args_tuple_iterator_next_1->ye,slot_int_rmul->zV,slot_dict_get->zX,entry_tuple_iterator_next->zY
open PySem.Builtin.SmallTypes renaming nextOf->e6
open PySem.PyData renaming eqv->fb,keyHash->fW,canLayAll0->rt,depthAll->uc,canLay0->wk
open PySem.Builtin.Str renaming strSliceIndices->fe,occurrences->t9
open PySem.Obj renaming data_mapFields->fy,isFreed_of_fields->fO,putName->jc,mapFields->rk,mapSeq->yc,data_mapDictKeys->G8,isFreed_of_dict->Ja,isFreed_of_seq->Jm
open PySem.W.Looks renaming of_pure->fE
open PySem.Expr.Tuple renaming elim->gi
open Int.ofNat renaming inj->gZ
open PySem.Builtin.Int renaming intBits->iy
open Array renaming any_toList->iC,getElem?_eq_some_iff->jP,getElem?_setIfInBounds_self_of_lt->oq,length_toList->pF,toList_push->Je
open Nat.succ renaming inj->i0
open PySem.Expr.Name renaming elim->jb
open Classical renaming byContradiction->jr,propDecidable->wc,em->Jl
open Decidable renaming casesOn->jN
open PySem.Code renaming quiet_builtin->jX
open PySem.Expr.Attribute renaming elim->lG
open PySem.Expr.Subscript renaming elim->lH
open PySem.Stmt.AugAssign renaming elim->lI
open ForInStep renaming yield->lL
open PySem.Expr.ListComp renaming elim->mT
open PySem.Expr.Constant renaming elim->mU
open PySem.EntryCells renaming newEntry->m9
open PySem.Expr.UnaryOp renaming elim->om
open PySem.Expr.Compare renaming elim->oo
open PySem.Expr.BoolOp renaming elim->pA
open PySem.Stmt.Return renaming elim->pB
open PySem.Stmt.Assign renaming elim->pC
open PySem.Expr.BinOp renaming elim->qX
open PySem.Expr.IfExp renaming elim->qY
open PySem.Expr.Slice renaming elim->qZ
open PySem.Stmt.While renaming elim->q0
open PySem.Stmt.Raise renaming elim->rg
open PySem.Calls renaming Name_function_global->rE,evalArgs_plain->CL
open List.Perm renaming trans->rH
open PySem.Value.int renaming elim->tE
open PySem.Value.str renaming elim->tF,inj->I9
open PySem.Expr.Dict renaming elim->tG
open PySem.Expr.Call renaming elim->tH
open PySem.Expr.List renaming elim->tI
open PySem.Stmt.Expr renaming elim->tJ
open PySem.Stmt.Pass renaming elim->tK
open PySem.Data.func renaming elim->tM
open PySem.Builtin.Dict renaming updateFrom->tP
open PySem.Stmt.For renaming elim->wd
open PySem.Stmt.Try renaming elim->we
open PySem.Data.cls renaming elim->wi
open PySem.Stmt.If renaming elim->x7
open PySem.IsRange renaming new->Af
open Iff renaming trans->Co
open PySem.EqMixed renaming eq_int_str->Cz,eq_str_int->CA
open Prod renaming fst->E6
open Sum renaming casesOn->Hf
open PySem.NameKind renaming free->Js
noncomputable section
namespace Mine.Internal
class inductive bq{α β:Type}(P:α->β->Prop):List α->List β->Prop where
 |nil:bq P [] []
 |cons {a:α} {b:β} {as:List α} {bs:List β}:P a b->bq P as bs->bq P (a::as) (b::bs)
namespace bq
variable{α β:Type}{P Q:α->β->Prop}
theorem imp(f:∀a b,P a b->Q a b){as:List α}{bs:List β}(h:bq P as bs):bq Q as bs:=by
 induction h with
 |nil=>exact .nil
 |cons x _ ih=>exact .cons (f _ _ x) ih
theorem len{as:List α}{bs:List β}(h:bq P as bs):as.length=bs.length:=by
 induction h with
 |nil=>rfl
 |cons _ _ ih=>simp[ih]
theorem get{as:List α}{bs:List β}(h:bq P as bs):∀{i:Nat}{a:α},as[i]?=some a->∃b,bs[i]?=some b/\P a b:=by
 induction h with
 |nil=>exact λe=>nomatch e
 |cons x _ ih=>
  intro i a e
  cases i with
  |zero=>exact ae e▸⟨_,rfl,x⟩
  |succ i=>exact ih e
theorem ZL{as:List α}{bs:List β}(h:bq P as bs):∀{i:Nat}{b:β},bs[i]?=some b->∃a,as[i]?=some a/\P a b:=by
 induction h with
 |nil=>exact λe=>nomatch e
 |cons x _ ih=>
  intro i a e
  cases i with
  |zero=>exact ae e▸⟨_,rfl,x⟩
  |succ i=>exact ih e
theorem append{as as':List α}{bs bs':List β}(h:bq P as bs)(h':bq P as' bs'):bq P (as++as') (bs++bs'):=by
 induction h with
 |nil=>exact h'
 |cons x _ ih=>exact .cons x ih
theorem one{a:α}{b:β}(h:P a b):bq P [a] [b]:=.cons h .nil
theorem set{as:List α}{bs:List β}(h:bq P as bs){i:Nat}{a:α}{b:β}(x:P a b):bq P (as.set i a) (bs.set i b):=by
 induction h generalizing i with
 |nil=>exact .nil
 |cons y h ih=>
  cases i with
  |zero=>exact .cons x h
  |succ i=>exact .cons y ih
theorem take{as:List α}{bs:List β}(h:bq P as bs)(n:Nat):bq P (as.take n) (bs.take n):=by
 induction h generalizing n with
 |nil=>simp;exact .nil
 |cons y h ih=>
  cases n with
  |zero=>exact .nil
  |succ n=>exact .cons y (ih n)
theorem drop{as:List α}{bs:List β}(h:bq P as bs)(n:Nat):bq P (as.drop n) (bs.drop n):=by
 induction h generalizing n with
 |nil=>simp;exact .nil
 |cons y h ih=>
  cases n with
  |zero=>exact .cons y h
  |succ n=>exact ih n
theorem replicate{a:α}{b:β}(x:P a b):∀n,bq P (aM n a) (aM n b)
 |0=>.nil
 |n+1=>.cons x (replicate x n)
theorem of_get{as:List α}:∀{bs:List β},as.length=bs.length->(∀(i:Nat)(a:α)(b:β),as[i]?=some a->bs[i]?=some b->P a b)->bq P as bs:=by
 induction as with
 |nil=>exact λ{bs} e _=>iZ e.symm▸.nil
 |cons a as ih=>exact λ{bs} e h=>(by
   cases bs with
   |nil=>cases e
   |cons b bs=>exact .cons (h 0 a b rfl rfl) (ih (i0 e) λi x y h1 h2=>h (i+1) x y h1 h2))
theorem map{γ δ:Type}{R:γ->δ->Prop}{f:α->γ}{g:β->δ}(x:∀a b,P a b->R (f a) (g b)){as:List α}{bs:List β}(h:bq P as bs):bq R (as.map f) (bs.map g):=by
 induction h with
 |nil=>exact .nil
 |cons y _ ih=>exact .cons (x _ _ y) ih
theorem cons_inv{a:α}{as:List α}{bs:List β}(h:bq P (a::as) bs):∃b bs',bs=b::bs'/\P a b/\bq P as bs':=
 bq.casesOn (motive:=λl bs _=>cy (motive:=λ_=>Prop) l True λa as=>∃b bs',bs=b::bs'/\P a b/\bq P as bs') h trivial λx y=>⟨_,_,rfl,x,y⟩
theorem nil_inv{bs:List β}(h:bq P [] bs):bs=[]:=bq.casesOn (motive:=λl bs _=>cy (motive:=λ_=>Prop) l (bs=[]) λ_ _=>True) h rfl λ_ _=>trivial
end bq
open PySem
noncomputable abbrev S:=List Nat
noncomputable def toS(s:String):S:=s.toList.map Char.toNat
noncomputable def S.str(s:S):Str:=⟨s.toArray⟩
noncomputable def xA{α β:Type}[DecidableEq β](f:α->β)(g:β->α)(h:∀x,g (f x)=x):DecidableEq α:=λa b=>if e:f a=f b then .isTrue ((h a).symm.trans ((congrArg g e).trans (h b))) else .isFalse λz=>e (congrArg f z)
inductive bF where
 |iF|leftOut|jY|thrown|ref|absent|obj|arr|frame|host
noncomputable def bF.of(n:Nat):bF:=[.iF,.leftOut,.jY,.thrown,.ref,.absent,.obj,.arr,.frame,.host].getD n .iF
theorem bF.rP(c:bF):bF.of c.ctorIdx=c:=by cases c<;>rfl
instance:DecidableEq bF:=xA bF.ctorIdx bF.of bF.rP
noncomputable abbrev At:=Nat
namespace At
noncomputable def why:At:=0
noncomputable def name:At:=1
noncomputable def text:At:=2
noncomputable def code:At:=3
noncomputable def value:At:=4
noncomputable def Bq:At:=5
noncomputable def holders:At:=6
noncomputable def types:At:=7
noncomputable def xp:At:=8
noncomputable def cls:At:=9
noncomputable def handle:At:=10
noncomputable def props:At:=11
noncomputable def data:At:=12
noncomputable def guards:At:=13
noncomputable def F7:At:=14
noncomputable def pj:At:=15
noncomputable def hU:At:=16
noncomputable def keys:At:=17
noncomputable def vals:At:=18
noncomputable def heads:At:=19
noncomputable def pe:At:=20
noncomputable def size:At:=21
noncomputable def count:At:=22
noncomputable def next:At:=23
noncomputable def at_:At:=24
noncomputable def oJ:At:=25
noncomputable def walks:At:=26
noncomputable def func:At:=27
noncomputable def this:At:=28
noncomputable def static:At:=29
noncomputable def vars:At:=30
noncomputable def args:At:=31
noncomputable def QJ:At:=32
noncomputable def QI:At:=33
noncomputable def execs:At:=34
noncomputable def top:At:=35
noncomputable def frame:At:=36
noncomputable def AG:At:=37
noncomputable def silent:At:=38
noncomputable def parts:At:=39
noncomputable def G6:At:=40
noncomputable def depth:At:=41
noncomputable def limit:At:=42
noncomputable def spent:At:=43
noncomputable def fuel:At:=44
noncomputable def FI:At:=45
noncomputable def classes:At:=46
noncomputable def xn:At:=47
noncomputable def constants:At:=48
noncomputable def nY:At:=49
noncomputable def made:At:=50
noncomputable def xt:At:=51
end At
noncomputable def bF.fields:bF->List At
 |.iF|.leftOut|.jY=>[.why]
 |.thrown=>[.name,.text,.code,.value,.Bq]
 |.ref=>[.value,.holders,.types]
 |.absent=>[.xp]
 |.obj=>[.cls,.handle,.props,.data,.guards,.F7,.pj]
 |.arr=>[.hU,.keys,.vals,.heads,.pe,.size,.count,.next,.at_,.oJ,.walks]
 |.frame=>[.func,.this,.cls,.static,.vars,.args]
 |.host=>[.QJ,.QI,.execs,.top,.frame,.AG,.silent,.parts,.G6,.depth,.limit,.spent,.fuel,.FI,.classes,.xn,.constants,.nY,.made,.xt]
inductive Bi where
 |len|isinstance|list|str|int|bool|dict|ord|sorted|sum|min
noncomputable def Bi.of(n:Nat):Bi:=[.len,.isinstance,.list,.str,.int,.bool,.dict,.ord,.sorted,.sum,.min].getD n .len
theorem Bi.rP(b:Bi):Bi.of b.ctorIdx=b:=by cases b<;>rfl
instance:DecidableEq Bi:=xA Bi.ctorIdx Bi.of Bi.rP
noncomputable abbrev Fn:=Nat
namespace Fn
noncomputable def Vi:Fn:=0
noncomputable def kept:Fn:=1
noncomputable def draw:Fn:=2
noncomputable def zu:Fn:=3
noncomputable def names:Fn:=4
noncomputable def hold:Fn:=5
noncomputable def yx:Fn:=6
noncomputable def u3:Fn:=7
noncomputable def sF:Fn:=8
noncomputable def zg:Fn:=9
noncomputable def ip:Fn:=10
noncomputable def GR:Fn:=11
noncomputable def sO:Fn:=12
noncomputable def things:Fn:=13
noncomputable def packed:Fn:=14
noncomputable def kind:Fn:=15
noncomputable def nj:Fn:=16
noncomputable def listOf:Fn:=17
noncomputable def qJ:Fn:=18
noncomputable def least:Fn:=19
noncomputable def append:Fn:=20
noncomputable def has:Fn:=21
noncomputable def add:Fn:=22
noncomputable def j5:Fn:=23
noncomputable def DQ:Fn:=24
noncomputable def Ea:Fn:=25
noncomputable def si:Fn:=26
noncomputable def D1:Fn:=27
noncomputable def link:Fn:=28
noncomputable def hashOf:Fn:=29
noncomputable def nE:Fn:=30
noncomputable def oB:Fn:=31
noncomputable def xG:Fn:=32
noncomputable def pV:Fn:=33
noncomputable def qw:Fn:=34
noncomputable def uo:Fn:=35
noncomputable def jJ:Fn:=36
noncomputable def entries:Fn:=37
noncomputable def marked:Fn:=38
noncomputable def slotsOf:Fn:=39
noncomputable def BN:Fn:=40
noncomputable def given:Fn:=41
noncomputable def warn:Fn:=42
noncomputable def put:Fn:=43
noncomputable def find:Fn:=44
noncomputable def uk:Fn:=45
noncomputable def Hm:Fn:=46
noncomputable def isDigit:Fn:=47
noncomputable def yy:Fn:=48
noncomputable def signed:Fn:=49
noncomputable def digitsValue:Fn:=50
noncomputable def taken:Fn:=51
noncomputable def seen:Fn:=52
noncomputable def pairs:Fn:=53
noncomputable def xT:Fn:=54
noncomputable def isName:Fn:=55
noncomputable def refused:Fn:=56
noncomputable def goal:Fn:=57
noncomputable def vn:Fn:=58
noncomputable def uN:Fn:=59
noncomputable def extract:Fn:=60
noncomputable def ti:Fn:=61
noncomputable def j6:Fn:=62
noncomputable def B8:Fn:=63
noncomputable def GY:Fn:=64
noncomputable def jw:Fn:=65
noncomputable def isNameStart:Fn:=66
noncomputable def isNameSign:Fn:=67
noncomputable def assigned:Fn:=68
noncomputable def back:Fn:=69
noncomputable def mD:Fn:=70
noncomputable def error:Fn:=71
end Fn
set_option genCtorIdx false
inductive AV where
 |none|bool (b:Bool)|int (i:Int)|str (s:S)|ref (l:Nat)|cls (c:bF)|fn (f:Fn)|bi (b:Bi)
noncomputable def AV.ctorIdx(x:AV):Nat:=AV.casesOn x 0 (λ_=>1) (λ_=>2) (λ_=>3) (λ_=>4) (λ_=>5) (λ_=>6) (λ_=>7)
noncomputable def AV.enc(x:AV):Nat×Int×S:=AV.casesOn x (0,0,[]) (λb=>(1,cond b 1 0,[])) (λi=>(2,i,[])) (λs=>(3,0,s)) (λl=>(4,l,[])) (λc=>(5,c.ctorIdx,[])) (λf=>(6,(f:Nat),[])) λb=>(7,b.ctorIdx,[])
noncomputable def AV.dec(x:Nat×Int×S):AV:=[.none,.bool (x.2.1==1),.int x.2.1,.str x.2.2,.ref x.2.1.toNat,.cls (.of x.2.1.toNat),.fn x.2.1.toNat,.bi (.of x.2.1.toNat)].getD x.1 .none
instance:DecidableEq AV:=xA AV.enc AV.dec λx=>by
 cases x with
 |bool b=>cases b<;>rfl
 |cls c=>exact congrArg AV.cls (bF.rP c)
 |bi b=>exact congrArg AV.bi (Bi.rP b)
 |_=>rfl
inductive aF where
 |list (vs:List AV)|tup (vs:List AV)|dict (es:List (AV×AV))|inst (c:bF) (fs:List AV)
  |iG (c:bF) (fs:List AV)
noncomputable def aF.ctorIdx(x:aF):Nat:=aF.casesOn x (λ_=>0) (λ_=>1) (λ_=>2) (λ_ _=>3) (λ_ _=>4)
noncomputable abbrev Hp:=List aF
inductive R(α:Type) where
 |ok (a:α) (σ:Hp)
 |err (e:Nat) (σ:Hp)
 |bad
noncomputable def MM(α:Type):=Hp->R α
namespace MM
variable{α β:Type}
noncomputable def pure(a:α):MM α:=λσ=>.ok a σ
noncomputable def bind(m:MM α)(f:α->MM β):MM β:=λσ=>match m σ with
 |.ok a σ'=>f a σ'
 |.err e σ'=>.err e σ'
 |.bad=>.bad
noncomputable def bad:MM α:=λ_=>.bad
end MM
instance:Monad MM where
 pure:=MM.pure
 bind:=MM.bind
noncomputable def mS{α:Type}:Option α->MM α
 |some a=>MM.pure a
 |none=>MM.bad
noncomputable def aa0(l:Nat):MM aF:=λσ=>match σ[l]? with
 |some o=>.ok o σ
 |none=>.bad
noncomputable def Sd(l:Nat)(o:aF):MM Unit:=λσ=>.ok () (σ.set l o)
noncomputable def alloc(o:aF):MM AV:=λσ=>.ok (.ref σ.length) (σ++[o])
noncomputable def lim:Nat:=100000
noncomputable def fP(vs:List AV):MM AV:=if vs.length<=lim then alloc (.list vs) else MM.bad
noncomputable def nz(vs:List AV):MM AV:=if vs.length<=lim then alloc (.tup vs) else MM.bad
set_option genCtorIdx true
inductive Op where
 |add|sub|mul|floordiv|mod|pow|shr|sA|AW
noncomputable def Op.of(n:Nat):Op:=[.add,.sub,.mul,.floordiv,.mod,.pow,.shr,.sA,.AW].getD n .add
instance:DecidableEq Op:=xA Op.ctorIdx Op.of λx=>by cases x<;>rfl
inductive oH where
 |eq|ne|lt|le|gt|ge|is|qD|GP|o8
noncomputable def oH.of(n:Nat):oH:=[.eq,.ne,.lt,.le,.gt,.ge,.is,.qD,.GP,.o8].getD n .eq
instance:DecidableEq oH:=xA oH.ctorIdx oH.of λx=>by cases x<;>rfl
set_option genCtorIdx false
mutual
inductive E where
 |none|bool (b:Bool)|int (i:Int)|str (s:S)
 |loc (i:Nat)
 |glob (v:AV)
 |attr (e:E) (x:At)
 |sub (e i:E)
 |slice (e:E) (lo hi st:E)
 |call (f:E) (args:Es)
 |wZ (o:E) (m:S) (args:Es)
 |bin (op:Op) (a b:E)
 |neg (e:E)
 |not (e:E)
 |cmp (op:oH) (a b:E)
 |r6 (a:E) (op1:oH) (b:E) (op2:oH) (c:E)
 |and (es:Es)
 |or (es:Es)
 |ite (c t e:E)
 |list (es:Es)
 |tup (es:Es)
 |dict
 |comp (elt:E) (n:Nat) (it:It) (cond:E)
 |listOf (it:It)
inductive Es where
 |nil
 |cons (e:E) (es:Es)
inductive It where
 |plain (e:E)
 |dU (e:E)
 |kj (a b:E)
 |enum (e:E)
 |items (e:E)
end
inductive Ov where
 |loc (i:Nat)
 |attr (e:E) (x:At)
 |sub (e i:E)
 |tup (is:List Nat)
mutual
inductive St where
 |expr (e:E)
 |assign (t:Ov) (e:E)
 |ze (i:Nat) (op:Op) (e:E)
 |B4 (o:E) (x:At) (op:Op) (e:E)
 |ret (e:E)
 |ite (c:E) (t e:dH)
 |o7 (c:E) (b:dH)
 |for (is:List Nat) (it:It) (b:dH)
 |raise (e:E)
 |try (k:Nat) (e:E) (c1:bF) (i:Nat) (x:At) (c2:bF) (s:S)
 |pass
  |stop
inductive dH where
 |nil
 |cons (s:St) (ss:dH)
end
noncomputable def uS:oH->Bool
 |.lt|.le|.gt|.ge=>true
 |_=>false
noncomputable def cmpInt(op:oH)(a b:Int):Bool:=match op with
 |.lt=>a<b|.le=>a<=b|.gt=>b<a|.ge=>b<=a
 |_=>false
noncomputable def N5(a b:S):Bool:=decide (a<b)
noncomputable def mF(op:oH)(a b:S):Bool:=match op with
 |.lt=>N5 a b|.le=>!N5 b a|.gt=>N5 b a|.ge=>!N5 a b
 |_=>false
noncomputable def Lm(a b:S):Option Bool:=match a with
 |[c]=>some (b.contains c)
 |_=>none
noncomputable def w5:AV->AV->Option Bool
 |.none,.none=>some true
 |.none,.bool _|.none,.int _|.none,.str _=>some false
 |.bool x,.bool y=>some (x==y)
 |.bool _,.none|.bool _,.str _=>some false
 |.int x,.int y=>some (x==y)
 |.int _,.none|.int _,.str _=>some false
 |.str x,.str y=>some (x==y)
 |.str _,.none|.str _,.bool _|.str _,.int _=>some false
 |_,_=>none
open PySem Builtin
noncomputable def lO:List At->At->Option Nat
 |[],_=>.none
 |y::r,x=>if y=x then some 0 else(lO r x).map (·+1)
noncomputable def dG:List (AV×AV)->AV->Option AV
 |[],_=>.none
 |(k',v)::r,k=>if k'=k then some v else dG r k
noncomputable def dput:List (AV×AV)->AV->AV->List (AV×AV)
 |[],k,v=>[(k,v)]
 |(k',v')::r,k,v=>if k'=k then(k',v)::r else(k',v')::dput r k v
theorem R0{p:AV×AV}{r:List (AV×AV)}{k:AV}:dG (p::r) k=if p.1=k then some p.2 else dG r k:=rfl
theorem ma{p:AV×AV}{r:List (AV×AV)}{k v:AV}:dput (p::r) k v=if p.1=k then(p.1,v)::r else p::dput r k v:=rfl
noncomputable def isKey:AV->Bool
 |.str _|.int _=>true
 |_=>false
noncomputable def bF.isExc:bF->Bool
 |.iF|.leftOut|.jY|.thrown=>true
 |_=>false
noncomputable def m8{α:Type}(v:AV)(f:Nat->MM α):MM α:=match v with
 |.ref l=>f l
 |_=>MM.bad
noncomputable def oZ{α:Type}(v:AV)(f:Int->MM α):MM α:=match v with
 |.int l=>f l
 |_=>MM.bad
noncomputable def yh{α:Type}(v:AV)(f:S->MM α):MM α:=match v with
 |.str l=>f l
 |_=>MM.bad
noncomputable def ee{α:Type}(l:Nat)(f:aF->MM α):MM α:=λσ=>match σ[l]? with
 |some o=>f o σ
 |.none=>.bad
noncomputable def ph{α:Type}(o:aF)(f:List AV->MM α):MM α:=match o with
 |.list vs=>f vs
 |_=>MM.bad
noncomputable def O6{α:Type}(o:aF)(f:List AV->MM α):MM α:=match o with
 |.tup vs=>f vs
 |_=>MM.bad
noncomputable def BX{α:Type}(o:aF)(f:List (AV×AV)->MM α):MM α:=match o with
 |.dict vs=>f vs
 |_=>MM.bad
noncomputable def xR{α:Type}(o:aF)(f:bF->List AV->MM α):MM α:=match o with
 |.inst c fs=>f c fs
 |_=>MM.bad
noncomputable def kq{α:Type}(p:Prop)[Decidable p](m:MM α):MM α:=λσ=>if p then m σ else .bad
noncomputable def opt{α β:Type}(o:Option β)(f:β->MM α):MM α:=match o with
 |some b=>f b
 |.none=>MM.bad
noncomputable def cv:AV->MM Bool
 |.none=>MM.pure false
 |.bool b=>MM.pure b
 |.int i=>MM.pure (i !=0)
 |.str s=>kq (s.length<=lim) (MM.pure (s !=[]))
 |.ref l=>ee l λo=>ph o λvs=>MM.pure (vs !=[])
 |_=>MM.bad
noncomputable def PJ(v:AV)(x:At):MM AV:=m8 v λl=>ee l λo=>xR o λc fs=>kq (c.isExc=false) (opt (lO c.fields x) λi=>opt fs[i]? MM.pure)
noncomputable def O1(v:AV)(x:At)(w:AV):MM Unit:=m8 v λl=>ee l λo=>xR o λc fs=>kq (c.isExc=false) (opt (lO c.fields x) λi=>kq (i<=fs.length) (Sd l (.inst c (if i<fs.length then fs.set i w else fs++[w]))))
noncomputable def S6(vs:List AV)(i:AV):MM AV:=oZ i λk=>kq (0<=k) (opt vs[k.toNat]? MM.pure)
noncomputable def UP(o i:AV):MM AV:=match o with
 |.ref l=>ee l λob=>match ob with
  |.list vs=>S6 vs i
  |.tup vs=>S6 vs i
  |.dict es=>kq (isKey i=true) (opt (dG es i) MM.pure)
  |_=>MM.bad
 |.str s=>oZ i λk=>kq (0<=k/\k<=lim) (opt s[k.toNat]? λc=>MM.pure (.str [c]))
 |_=>MM.bad
noncomputable def IG(o i w:AV):MM Unit:=m8 o λl=>ee l λob=>match ob with
 |.list vs=>oZ i λk=>kq (0<=k/\k.toNat<vs.length) (Sd l (.list (vs.set k.toNat w)))
 |.dict es=>kq (isKey i=true/\es.length<lim) (Sd l (.dict (dput es i w)))
 |_=>MM.bad
noncomputable def nM{α:Type}(vs:List α)(lo st:Int):List α:=(sliceRange (sliceBounds (some lo) none (some st) vs.length).1 (sliceBounds (some lo) none (some st) vs.length).2.1 (sliceBounds (some lo) none (some st) vs.length).2.2).filterMap (vs[·]?)
noncomputable def TK(vs:List AV)(lo hi st:AV):Option (List AV):=match lo with
 |.none=>match hi with
  |.int h=>if 0<=h/\st=.none then some (vs.take h.toNat) else .none
  |_=>.none
 |.int a=>if 0<=a/\hi=.none then(match st with
  |.none=>some (vs.drop a.toNat)
  |.int s=>if 0<s then some (nM vs a s) else .none
  |_=>.none) else .none
 |_=>.none
noncomputable def cut(v lo hi st:AV):MM AV:=match v with
 |.ref l=>ee l λo=>ph o λvs=>opt (TK vs lo hi st) fP
 |.str s=>kq (lo=.none/\st=.none) (oZ hi λh=>kq (0<=h/\h<=s.length/\s.length<=lim) (MM.pure (.str (s.take h.toNat))))
 |_=>MM.bad
noncomputable def r5(op:Op)(a b:Int):Option Int:=match op with
 |.add=>some (a+b)
 |.sub=>some (a - b)
 |.mul=>if -(2^64)<a/\a<2^64 then some (a*b) else .none
 |.floordiv=>if b=0\/2^128<b.natAbs then .none else some (a.fdiv b)
 |.mod=>if b=0 then .none else some (a.fmod b)
 |.pow=>if(a=2/\b=63)\/(a=2/\b=64)\/(a=10/\b=40) then some (a^b.toNat) else .none
 |.shr=>if 0<=b/\b<=64/\0<=a then some (a.fdiv (2^b.toNat)) else .none
 |.sA=>some (Builtin.bitAnd a b)
 |.AW=>some (Builtin.bitOr a b)
noncomputable def SR(op:Op)(a b:AV):MM AV:=match a with
 |.int x=>oZ b λy=>opt (r5 op x y) λz=>MM.pure (.int z)
 |.str s=>yh b λt=>kq (op=.add/\s.length<=lim/\t.length<=lim) (MM.pure (.str (s++t)))
 |.ref l=>ee l λo=>ph o λxs=>match b with
  |.ref l'=>ee l' λo=>ph o λys=>kq (op=.add) (fP (xs++ys))
  |.int n=>match xs with
   |[x]=>kq (op=.mul/\0<=n/\n<=lim) (fP (aM n.toNat x))
   |_=>MM.bad
  |_=>MM.bad
 |_=>MM.bad
noncomputable def vY:AV->Option dm
 |.none=>some .none
 |.bool b=>some (.bool b)
 |.int i=>some (.int i)
 |.str s=>some (.str ⟨s.toArray⟩)
 |_=>.none
noncomputable def eA(f:AV->Option dm):List AV->Option (List dm)
 |[]=>some []
 |v::r=>match f v with
  |some d=>(eA f r).map (d::·)
  |.none=>.none
noncomputable def QV{α:Type}(v:AV)(f:Nat->α)(g:α):α:=match v with
 |.ref l=>f l
 |_=>g
noncomputable def pW{α:Type}(o:Option aF)(f g:List AV->Option α):Option α:=match o with
 |some (.list vs)=>f vs
 |some (.tup vs)=>g vs
 |_=>.none
noncomputable def dataOf(σ:Hp):Nat->AV->Option dm
 |0,v=>vY v
 |n+1,v=>QV v (λl=>pW σ[l]? (λvs=>(eA (dataOf σ n) vs).map .list) λvs=>(eA (dataOf σ n) vs).map .tuple) (vY v)
noncomputable def W2(op:Op)(a b:AV):MM AV:=kq (op=.add) (oZ a λx=>oZ b λy=>MM.pure (.int (x+y)))
noncomputable def Em(ys:List (AV×AV)):List (AV×AV)->Option Bool
 |[]=>some true
 |(k,v)::r=>match dG ys k with
  |.none=>some false
  |some w=>match w5 v w,Em ys r with
   |some a,some b=>some (a&&b)
   |_,_=>.none
noncomputable def dictAt(σ:Hp):AV->Option (List (AV×AV))
 |.ref l=>match σ[l]? with
  |some (.dict es)=>some es
  |_=>.none
 |_=>.none
noncomputable def NW(a b:AV):MM Bool:=match w5 a b with
 |some r=>MM.pure r
 |.none=>λσ=>match dictAt σ a with
  |some xs=>opt (dictAt σ b) (λys=>if xs.length≠ys.length then MM.pure false else opt (Em ys xs) MM.pure) σ
  |.none=>opt (dataOf σ 3 a) (λx=>opt (dataOf σ 3 b) λy=>kq (bL x=true/\bL y=true) (MM.pure (fb x y))) σ
noncomputable def vL:AV->Bool
 |.int _=>true
 |_=>false
noncomputable def WV(a b:AV):MM Bool:=match b with
 |.str t=>yh a λs=>opt (Lm s t) MM.pure
 |.ref l=>ee l λo=>match o with
  |.dict es=>kq (isKey a=true) (MM.pure (dG es a).isSome)
  |.tup vs=>oZ a λi=>kq (vs.all vL=true) (MM.pure (vs.contains (.int i)))
  |_=>MM.bad
 |_=>MM.bad
noncomputable def Qz:AV->Bool
 |.ref _|.int _|.str _|.bool _=>true
 |_=>false
noncomputable def W3(a b:AV):MM Bool:=match b with
 |.none=>if a=.none then MM.pure true else kq (Qz a=true) (MM.pure false)
 |.ref l'=>m8 a λl=>ee l λo=>xR o λ_ _=>ee l' λ_=>MM.pure (l==l')
 |_=>MM.bad
noncomputable def Sj(op:oH)(a b:AV):MM Bool:=match a with
 |.int x=>oZ b λy=>MM.pure (cmpInt op x y)
 |.str s=>yh b λt=>MM.pure (mF op s t)
 |_=>MM.bad
noncomputable def Nx(op:oH)(a b:AV):MM Bool:=match op with
 |.eq=>NW a b
 |.ne=>do let r<-NW a b;pure (!r)
 |.GP=>WV a b
 |.o8=>do let r<-WV a b;pure (!r)
 |.is=>W3 a b
 |.qD=>do let r<-W3 a b;pure (!r)
 |op=>Sj op a b
noncomputable def je(n:Int):S:=toS (toString n)
noncomputable def EI(x:S):List S->List S
 |[]=>[x]
 |y::r=>if N5 y x then y::EI x r else x::y::r
theorem nP{d:List (AV×AV)}{k v:AV}:(dput d k v).length<=d.length+1:=by
 induction d with
 |nil=>exact aK _
 |cons p d ih=>
  rw[ma]
  by_cases h:p.1=k
  ·rw[if_pos h];exact br _
  ·rw[if_neg h];exact aP ih
theorem AF{P:AV×AV->Prop}{d:List (AV×AV)}{k v:AV}(h:∀p∈d,P p)(h':P (k,v)):∀p∈dput d k v,P p:=by
 induction d with
 |nil=>exact λp m=>au.mp m▸h'
 |cons a r ih=>
  rw[ma]
  by_cases e:a.1=k
  ·rw[if_pos e,e];exact λp m=>(aC.mp m).elim (λx=>x▸h') λm=>h p (.tail _ m)
  ·rw[if_neg e];exact λp m=>(aC.mp m).elim (λx=>x▸h a (.head _)) (ih (λq m=>h q (.tail _ m)) p)
theorem Ka{x y:S}{r:List S}:EI x (y::r)=if N5 y x=true then y::EI x r else x::y::r:=rfl
noncomputable def mR:List S->List S
 |[]=>[]
 |x::r=>EI x (mR r)
theorem Aw{x:S}{l:List S}:(EI x l).Perm (x::l):=by
 induction l with
 |nil=>exact .refl _
 |cons y r ih=>
  rw[Ka]
  by_cases h:N5 y x=true
  ·rw[if_pos h];exact(ih.cons y).trans (.swap x y r)
  ·rw[if_neg h]
theorem hZ{l:List S}:(mR l).Perm l:=by
 induction l with
 |nil=>exact .refl _
 |cons x r ih=>exact Aw.trans (ih.cons x)
noncomputable def strsOf:List AV->Option (List S)
 |[]=>some []
 |.str s::r=>(strsOf r).map (s::·)
 |_=>.none
noncomputable def intsOf:List AV->Option (List Int)
 |[]=>some []
 |.int s::r=>(intsOf r).map (s::·)
 |_=>.none
set_option genCtorIdx false
inductive Kd where
 |none|bool|int|str|list|tup|dict|inst (c:bF)
noncomputable def Kd.ctorIdx(x:Kd):Nat:=Kd.casesOn x 0 1 2 3 4 5 6 (λ_=>7)
instance:DecidableEq Kd:=xA (λx=>(x.ctorIdx,Kd.casesOn (motive:=λ_=>Nat) x 0 0 0 0 0 0 0 λc=>c.ctorIdx)) (λp=>[Kd.none,.bool,.int,.str,.list,.tup,.dict,.inst (.of p.2)].getD p.1 .none) λx=>by
 cases x with
 |inst c=>exact congrArg Kd.inst (bF.rP c)
 |_=>rfl
noncomputable def kdOf(σ:Hp):AV->Option Kd
 |.none=>some .none
 |.bool _=>some .bool
 |.int _=>some .int
 |.str _=>some .str
 |.ref l=>match σ[l]? with
  |some (.list _)=>some .list
  |some (.tup _)=>some .tup
  |some (.dict _)=>some .dict
  |some (.inst c _)=>if c.isExc then .none else some (.inst c)
  |_=>.none
 |_=>.none
noncomputable def BS:AV->Bool
 |.bi .int|.bi .bool|.bi .str|.bi .list=>true
 |.cls .ref|.cls .absent|.cls .arr|.cls .obj=>true
 |_=>false
noncomputable def yL(k:Kd):AV->Bool
 |.bi .int=>k==.int||k==.bool
 |.bi .bool=>k==.bool
 |.bi .str=>k==.str
 |.bi .list=>k==.list
 |.cls c=>k==.inst c
 |_=>false
noncomputable def FV(v t:AV):MM Bool:=λσ=>opt (kdOf σ v) (λk=>kq (BS t=true) (MM.pure (yL k t))) σ
noncomputable def Rd{α:Type}(f:AV->AV->Option α):List AV->Option α:=λl=>cy (motive:=λ_=>Option α) l .none λk l=>cy (motive:=λ_=>Option α) l .none λv l=>cy (motive:=λ_=>Option α) l (f k v) λ_ _=>.none
noncomputable def pairsOf(σ:Hp):List AV->Option (List (AV×AV))
 |[]=>some []
 |v::r=>QV v (λl=>pW σ[l]? (λ_=>.none) (Rd λk v=>if isKey k then(pairsOf σ r).map ((k,v)::·) else .none)) .none
noncomputable def a1{α:Type}(args:List AV)(f:AV->MM α):MM α:=match args with
 |[v]=>f v
 |_=>MM.bad
noncomputable def a2{α:Type}(args:List AV)(f:AV->AV->MM α):MM α:=match args with
 |[v,w]=>f v w
 |_=>MM.bad
noncomputable def vG(b:Bi)(args:List AV):MM AV:=match b with
 |.len=>a1 args λv=>match v with
  |.str s=>kq (s.length<=lim) (MM.pure (.int s.length))
  |.ref l=>ee l λo=>ph o λvs=>MM.pure (.int vs.length)
  |_=>MM.bad
 |.isinstance=>a2 args λv t=>do let r<-FV v t;pure (.bool r)
 |.str=>a1 args λv=>match v with
  |.str s=>MM.pure (.str s)
  |.int n=>kq (n.natAbs<10^20) (MM.pure (.str (je n)))
  |_=>MM.bad
 |.ord=>a1 args λv=>yh v λs=>match s with
  |[c]=>MM.pure (.int c)
  |_=>MM.bad
 |.sorted=>a1 args λv=>m8 v λl=>ee l λo=>BX o λes=>opt (strsOf (es.map (·.1))) λss=>kq (ss.length<64) (fP ((mR ss).map .str))
 |.sum=>a1 args λv=>m8 v λl=>ee l λo=>ph o λvs=>opt (intsOf vs) λis=>MM.pure (.int is.sum)
 |.min=>a2 args λa b=>oZ a λa=>oZ b λb=>MM.pure (.int (if b<a then b else a))
 |.dict=>a1 args λv=>m8 v λl=>ee l λo=>ph o λvs=>λσ=>opt (pairsOf σ vs) (λps=>alloc (.dict (ps.foldl (λd p=>dput d p.1 p.2) []))) σ
 |_=>MM.bad
noncomputable def qj:bF->Option Fn
 |.ref=>some .yx
 |.absent=>some .pV
 |.obj=>some .zg
 |.arr=>some .qJ
 |.frame=>some .sF
 |.host=>some .u3
 |_=>.none
noncomputable def noneOnly(m:MM AV)(w:AV):MM AV:=λσ=>match m σ with
 |.ok v σ'=>if v=.none then .ok w σ' else .bad
 |_=>.bad
noncomputable def PG(C:Fn->List AV->MM AV)(c:bF)(args:List AV):MM AV:=match qj c with
 |some f=>λσ=>noneOnly (C f (.ref σ.length::args)) (.ref σ.length) (σ++[.inst c []])
 |.none=>match c with
  |.thrown=>a2 args λa b=>yh a λa=>yh b λb=>alloc (.inst .thrown [.str a,.str b,.int 0,.none,.none])
  |.leftOut=>a1 args λa=>yh a λa=>alloc (.inst .leftOut [.str a])
  |_=>MM.bad
noncomputable def FY(C:Fn->List AV->MM AV)(f:AV)(args:List AV):MM AV:=match f with
 |.fn f=>C f args
 |.cls c=>PG C c args
 |.bi b=>vG b args
 |_=>MM.bad
noncomputable def vf:bF->S->Option Fn
 |.arr,m=>if m=toS "find" then some .find else if m=toS "put" then some .put else if m=toS "append" then some .append else if m=toS "has" then some .has else if m=toS "key_at" then some .BN else .none
 |.host,m=>if m=toS "warn" then some .warn else .none
 |_,_=>.none
inductive Mh where
 |fn (f:Fn)|app|get
noncomputable def QZ(o:AV)(m:S):MM Mh:=m8 o λl=>ee l λo=>match o with
 |.inst c _=>opt (vf c m) λf=>MM.pure (.fn f)
 |.list _=>kq (m=toS "append") (MM.pure .app)
 |.dict _=>kq (m=toS "get") (MM.pure .get)
 |_=>MM.bad
noncomputable def Yy(C:Fn->List AV->MM AV)(o:AV)(h:Mh)(args:List AV):MM AV:=match h with
 |.fn f=>C f (o::args)
 |.app=>m8 o λl=>a1 args λv=>ee l λob=>ph ob λvs=>kq (vs.length<lim) (λσ=>.ok .none (σ.set l (.list (vs++[v]))))
 |.get=>m8 o λl=>a1 args λk=>ee l λob=>BX ob λes=>kq (isKey k=true) (MM.pure ((dG es k).getD .none))
inductive Item where
 |one (v:AV)
 |pair (a b:AV)
noncomputable abbrev Loc:=List (Option AV)
noncomputable abbrev HI:=List Item×Option (Nat×aF)
noncomputable def MR(v:AV):MM HI:=match v with
 |.ref l=>ee l λo=>match o with
  |.list vs=>MM.pure (vs.map .one,some (l,.list vs))
  |.tup vs=>MM.pure (vs.map .one,some (l,.tup vs))
  |.dict es=>MM.pure (es.map (.one ·.1),some (l,.dict es))
  |_=>MM.bad
 |.str s=>MM.pure (s.map λc=>.one (.str [c]),.none)
 |_=>MM.bad
noncomputable def jZ(a b:AV):MM HI:=oZ a λx=>oZ b λy=>kq (0<=x/\x<=lim/\y<=lim/\ -lim<=y) (MM.pure ((iK (y - x).toNat).map (λ(k:Nat)=>Item.one (.int (x+(k:Int)))),.none))
noncomputable def lB:Nat->List AV->List Item
 |_,[]=>[]
 |n,v::r=>.pair (.int n) v::lB (n+1) r
noncomputable def EW(v:AV):MM HI:=m8 v λl=>ee l λo=>O6 o λvs=>MM.pure (lB 0 vs,some (l,.tup vs))
noncomputable def itemsOf(v:AV):MM HI:=m8 v λl=>ee l λo=>BX o λes=>MM.pure (es.map (λe=>.pair e.1 e.2),some (l,.dict es))
noncomputable def jz(k:Option (Nat×aF)):MM Unit:=λσ=>match k with
 |.none=>.ok () σ
 |some (l,o)=>@ite _ (σ[l]?=some o) (wc _) (.ok () σ) .bad
noncomputable def kY(n:Nat)(it:Item):MM (List AV):=match it with
 |.pair a b=>kq (n=2) (MM.pure [a,b])
 |.one v=>if n=1 then MM.pure [v] else kq (n=2) (m8 v λl=>ee l λo=>O6 o λvs=>kq (vs.length=2) (MM.pure vs))
noncomputable def fS:List Item->MM (List AV)
 |[]=>MM.pure []
 |.one v::r=>do let vs<-fS r;pure (v::vs)
 |.pair a b::r=>do let t<-nz [a,b];let vs<-fS r;pure (t::vs)
noncomputable def QS(v:AV):MM AV:=m8 v λl=>ee l λo=>match o with
 |.list vs=>fP vs
 |.dict es=>kq (es=[]) (fP [])
 |_=>MM.bad
noncomputable def o6{α:Type}(m:MM α):MM α:=λσ=>match m σ with
 |.err _ _=>.bad
 |r=>r
noncomputable def mP(k:Option (Nat×aF))(n:Nat)(turn:List AV->MM (Option AV)):List Item->MM (List AV)
 |[]=>do jz k;pure []
 |it::r=>do
  jz k
  let vs<-kY n it
  let v<-turn vs
  let ws<-mP k n turn r
  pure (match v with|some v=>v::ws|.none=>ws)
mutual
noncomputable def ev(C:Fn->List AV->MM AV):E->Loc->MM AV
 |.none,_=>MM.pure .none
 |.bool b,_=>MM.pure (.bool b)
 |.int i,_=>MM.pure (.int i)
 |.str s,_=>MM.pure (.str s)
 |.loc i,ρ=>opt ρ[i]? λo=>opt o MM.pure
 |.glob v,_=>MM.pure v
 |.attr e x,ρ=>do let v<-ev C e ρ;PJ v x
 |.sub e i,ρ=>do let v<-ev C e ρ;let k<-ev C i ρ;UP v k
 |.slice e lo hi st,ρ=>do let v<-ev C e ρ;let a<-ev C lo ρ;let b<-ev C hi ρ;let c<-ev C st ρ;cut v a b c
 |.call f args,ρ=>do let g<-ev C f ρ;let vs<-GA C args ρ;FY C g vs
 |.wZ o m args,ρ=>do let v<-ev C o ρ;let h<-QZ v m;let vs<-GA C args ρ;Yy C v h vs
 |.bin op a b,ρ=>do let x<-ev C a ρ;let y<-ev C b ρ;SR op x y
 |.neg e,ρ=>do
  let v<-ev C e ρ
  oZ v λi=>MM.pure (.int (-i))
 |.not e,ρ=>do let v<-ev C e ρ;let b<-cv v;pure (.bool (!b))
 |.cmp op a b,ρ=>do let x<-ev C a ρ;let y<-ev C b ρ;let r<-Nx op x y;pure (.bool r)
 |.r6 a o1 b o2 c,ρ=>do
  let x<-ev C a ρ
  let y<-ev C b ρ
  let r<-Nx o1 x y
  if r then do let z<-ev C c ρ;let r<-Nx o2 y z;pure (.bool r) else pure (.bool false)
 |.and es,ρ=>Ck C es ρ
 |.or es,ρ=>Lg C es ρ
 |.ite c t e,ρ=>do
  let v<-ev C c ρ
  let b<-cv v
  if b then ev C t ρ else ev C e ρ
 |.list es,ρ=>do let vs<-GA C es ρ;fP vs
 |.tup es,ρ=>do let vs<-GA C es ρ;nz vs
 |.dict,_=>alloc (.dict [])
 |.comp elt n it cond,ρ=>do
  let p<-o6 (Mg C it ρ)
  let vs<-o6 (mP p.2 n (λvs=>do
   let ρ':=ρ++vs.map some
   let c<-ev C cond ρ'
   let b<-cv c
   if b then do let v<-ev C elt ρ';pure (some v) else pure .none) p.1)
  fP vs
 |.listOf it,ρ=>match it with
  |.plain e=>do let v<-o6 (ev C e ρ);QS v
  |.dU e=>do let v<-o6 (ev C e ρ);let p<-jZ (.int 0) v;let vs<-fS p.1;fP vs
  |.items e=>do let v<-o6 (ev C e ρ);let p<-itemsOf v;let vs<-fS p.1;fP vs
  |_=>MM.bad
noncomputable def GA(C:Fn->List AV->MM AV):Es->Loc->MM (List AV)
 |.nil,_=>MM.pure []
 |.cons e es,ρ=>do let v<-ev C e ρ;let vs<-GA C es ρ;pure (v::vs)
noncomputable def Ck(C:Fn->List AV->MM AV):Es->Loc->MM AV
 |.nil,_=>MM.bad
 |.cons e es,ρ=>do
  let v<-ev C e ρ
  match es with
  |.nil=>pure v
  |es=>do
   let b<-cv v
   if b then Ck C es ρ else pure v
noncomputable def Lg(C:Fn->List AV->MM AV):Es->Loc->MM AV
 |.nil,_=>MM.bad
 |.cons e es,ρ=>do
  let v<-ev C e ρ
  match es with
  |.nil=>pure v
  |es=>do
   let b<-cv v
   if b then pure v else Lg C es ρ
noncomputable def Mg(C:Fn->List AV->MM AV):It->Loc->MM HI
 |.plain e,ρ=>do let v<-ev C e ρ;MR v
 |.dU e,ρ=>do let v<-ev C e ρ;jZ (.int 0) v
 |.kj a b,ρ=>do let x<-ev C a ρ;let y<-ev C b ρ;jZ x y
 |.enum e,ρ=>do let v<-ev C e ρ;EW v
 |.items _,_=>MM.bad
end
inductive pM where
 |next (ρ:Loc)
 |ret (v:AV)
noncomputable def dC:List Nat->List AV->Loc->Option Loc
 |[],[],ρ=>some ρ
 |i::is,v::vs,ρ=>if i<ρ.length then dC is vs (ρ.set i (some v)) else .none
 |_,_,_=>.none
noncomputable def yC(C:Fn->List AV->MM AV)(t:Ov)(v:AV)(ρ:Loc):MM Loc:=match t with
 |.loc i=>mS (dC [i] [v] ρ)
 |.attr e x=>do let o<-ev C e ρ;O1 o x v;pure ρ
 |.sub e i=>do let o<-ev C e ρ;let k<-ev C i ρ;IG o k v;pure ρ
 |.tup is=>m8 v λl=>ee l λo=>match o with
  |.tup vs=>kq (vs.length=is.length) (mS (dC is vs ρ))
  |.list vs=>kq (vs.length=is.length) (mS (dC is vs ρ))
  |_=>MM.bad
noncomputable def pg(k:Option (Nat×aF))(n:Nat)(turn:List AV->Loc->MM pM):List Item->Loc->MM pM
 |[],ρ=>do jz k;pure (.next ρ)
 |it::r,ρ=>do
  jz k
  let vs<-kY n it
  let f<-turn vs ρ
  match f with
  |.next ρ'=>pg k n turn r ρ'
  |.ret v=>pure (.ret v)
noncomputable def uU(turn:Loc->MM (Option pM)):Nat->Loc->MM pM
 |0,_=>MM.bad
 |n+1,ρ=>do
  let f<-turn ρ
  match f with
  |.none=>pure (.next ρ)
  |some (.next ρ')=>uU turn n ρ'
  |some (.ret v)=>pure (.ret v)
noncomputable def Di{α:Type}(o:aF)(f:bF->List AV->MM α):MM α:=match o with
 |.iG c fs=>f c fs
 |_=>MM.bad
noncomputable def vN(ρ:Loc)(k:Nat)(c1:bF)(i:Nat)(x:At)(c2:bF)(t:S)(e:Nat):MM pM:=ee e λo=>Di o λc fs=>if c=c1 then opt (lO c.fields x) λn=>opt fs[n]? λv=>MM.pure (.next ((ρ.set k (some v)).set i .none)) else kq (c=c2) (MM.pure (.next (ρ.set k (some (.str t)))))
noncomputable def Tf(m:MM AV)(ρ:Loc)(k:Nat)(c1:bF)(i:Nat)(x:At)(c2:bF)(t:S):MM pM:=kq (i≠k/\i<ρ.length/\k<ρ.length/\c1≠c2) λσ=>match m σ with
 |.ok v σ'=>.ok (.next (ρ.set k (some v))) σ'
 |.err e σ'=>vN ρ k c1 i x c2 t e σ'
 |.bad=>.bad
noncomputable def oI:Nat:=1000
mutual
noncomputable def ex(C:Fn->List AV->MM AV):St->Loc->MM pM
 |.expr e,ρ=>do let _<-ev C e ρ;pure (.next ρ)
 |.assign t e,ρ=>do let v<-ev C e ρ;let ρ'<-yC C t v ρ;pure (.next ρ')
 |.ze i op e,ρ=>do
  let a<-ev C (.loc i) ρ
  let b<-ev C e ρ
  let v<-W2 op a b
  let ρ'<-yC C (.loc i) v ρ
  pure (.next ρ')
 |.B4 o x op e,ρ=>do
  let ov<-ev C o ρ
  let a<-PJ ov x
  let b<-ev C e ρ
  let v<-W2 op a b
  O1 ov x v
  pure (.next ρ)
 |.ret e,ρ=>do let v<-ev C e ρ;pure (.ret v)
 |.ite c t e,ρ=>do
  let v<-ev C c ρ
  let b<-cv v
  if b then Cy C t ρ else Cy C e ρ
 |.o7 c b,ρ=>o6 (uU (λρ=>do
   let v<-ev C c ρ
   let t<-cv v
   if t then do let f<-Cy C b ρ;pure (some f) else pure .none) oI ρ)
 |.for is it b,ρ=>do
  let p<-o6 (Mg C it ρ)
  pg p.2 is.length (λvs ρ=>do
   let ρ'<-mS (dC is vs ρ)
   Cy C b ρ') p.1 ρ
 |.raise e,ρ=>do
  let v<-ev C e ρ
  m8 v λl=>ee l λo=>xR o λc fs=>kq (c.isExc=true) λσ=>.err l (σ.set l (.iG c fs))
 |.try k e c1 i x c2 t,ρ=>Tf (ev C e ρ) ρ k c1 i x c2 t
 |.pass,ρ=>pure (.next ρ)
 |.stop,_=>MM.bad
noncomputable def Cy(C:Fn->List AV->MM AV):dH->Loc->MM pM
 |.nil,ρ=>pure (.next ρ)
 |.cons s ss,ρ=>do
  let f<-ex C s ρ
  match f with
  |.next ρ'=>Cy C ss ρ'
  |.ret v=>pure (.ret v)
end
structure bc where
 name:String
 names:List String
 np:Nat
 dflt:List AV
 body:dH
noncomputable def Ow(C:Fn->List AV->MM AV)(fd:bc)(args:List AV):MM AV:=
 if args.length<=fd.np/\fd.np<=args.length+fd.dflt.length then do
  let f<-Cy C fd.body (((args++fd.dflt.drop (args.length+fd.dflt.length - fd.np)).map some)++aM (fd.names.length - fd.np) .none)
  match f with
  |.next _=>pure .none
  |.ret v=>pure v
 else MM.bad
theorem yA{a b:Int}(h:AV.int a=.int b):a=b:=AV.noConfusion h id
theorem iX{a b:S}(h:AV.str a=.str b):a=b:=AV.noConfusion h id
theorem QE{a b:bF}(h:Kd.inst a=.inst b):a=b:=Kd.noConfusion h id
noncomputable def Wp{α:Type}(r:R α)(Q:α->Hp->Prop)(X:Nat->Hp->Prop):Prop:=match r with
 |.ok a σ=>Q a σ
 |.err e σ=>X e σ
 |.bad=>False
noncomputable def R.bind{α β:Type}(r:R α)(f:α->MM β):R β:=match r with
 |.ok a σ'=>f a σ'
 |.err e σ'=>.err e σ'
 |.bad=>.bad
theorem wb{α β:Type}{m:MM α}{f:α->MM β}{σ:Hp}{Q:β->Hp->Prop}{X:Nat->Hp->Prop}(h:Wp ((m>>=f) σ) Q X):Wp (m σ) (λa σ=>Wp (f a σ) Q X) X:=
 R.casesOn (motive:=λr=>Wp (r.bind f) Q X->Wp r (λa σ=>Wp (f a σ) Q X) X) (m σ) (λ_ _ h=>h) (λ_ _ h=>h) (λh=>h) h
theorem Wp.mono{α:Type}{r:R α}{Q Q':α->Hp->Prop}{X X':Nat->Hp->Prop}(h:Wp r Q X)(k:∀a σ,Q a σ->Q' a σ)(kx:∀a σ,X a σ->X' a σ):Wp r Q' X':=
 R.casesOn (motive:=λr=>Wp r Q X->Wp r Q' X') r (λ_ _ h=>k _ _ h) (λ_ _ h=>kx _ _ h) (λh=>h) h
section
open dH renaming cons->C,nil->Z
open Es renaming cons->c,nil->z
open E renaming loc->l,glob->g,call->k,int->i,attr->a,str->s,cmp->q,bin->b,sub->u,bool->y,wZ->m
open St renaming assign->A,ret->r,expr->x,ite->I
noncomputable def Wy:dH:=(C (A (.loc 0) (.slice (l 0) .none (i 63) .none)) (C (r (q .eq (.comp (k (g (.fn .kept)) (c (.list (c (b .mod (k (g (.bi .sum)) (c (.slice (l 0) (l 1) .none (i 3)) z)) (b .pow (i 10) (i 40))) z)) z)) 1 (.dU (i 3)) (y true)) (.list (c (y true) (c (y true) (c (y true) z)))))) Z))
noncomputable def RM:bc:=⟨"law",["script"],1,[],Wy⟩
noncomputable def TY:dH:=(C (A (.loc 1) (k (g (.cls .host)) z)) (C (A (.attr (l 1) .frame) (k (g (.cls .frame)) (c .none (c (.ite (q .eq (k (g (.fn .draw)) (c (l 0) (c (i 1) (c (i 2) z)))) (i 1)) (k (g (.cls .obj)) (c .none (c (i 77) z))) .none) z)))) (C (A (.tup [2,3]) (k (g (.fn .zu)) (c (l 0) (c (l 1) z)))) (C (I (.or (c (.not (k (g (.fn .ip)) (c (l 1) (c (l 2) (c (l 3) z))))) (c (.not (k (g (.fn .sO)) (c (l 0) (c (l 1) (c (l 2) (c (l 3) z)))))) z))) (C (r (y false)) Z) Z) (C (.for [4] (.dU (i 2)) (C (I (.or (c (.not (k (g (.fn .uN)) (c (l 0) (c (l 1) (c (l 2) (c (l 3) z)))))) (c (.not (k (g (.fn .ip)) (c (l 1) (c (l 2) (c (l 3) z))))) z))) (C (r (y false)) Z) Z) Z)) (C (r (.and (c (k (g (.fn .sO)) (c (l 0) (c (l 1) (c (l 2) (c (l 3) z))))) (c (k (g (.fn .back)) (c (l 1) (c (l 2) (c (l 3) z)))) z)))) Z))))))
noncomputable def Uv:bc:=⟨"_law_kept",["pen","host","book","cells","turn"],1,[],TY⟩
noncomputable def TJ:dH:=(C (A (.loc 3) (b .mod (b .add (l 1) (u (l 0) (i 0))) (l 2))) (C (A (.sub (l 0) (i 0)) (b .floordiv (u (l 0) (i 0)) (l 2))) (C (r (l 3)) Z)))
noncomputable def Ua:bc:=⟨"_law_draw",["pen","told","many","drawn"],3,[],TJ⟩
noncomputable def LQ:dH:=(C (A (.tup [2,3,4]) (.tup (c .dict (c (.list z) (c .dict z))))) (C (.for [5,6] (.enum (k (g (.fn .names)) z)) (C (A (.loc 7) (k (g (.fn .draw)) (c (l 0) (c (u (.tup (c (i 1) (c (i 2) (c (i 2) (c (i 3) (c (i 0) z)))))) (l 5)) (c (i 4) z))))) (C (I (.and (c (q .eq (l 7) (i 2)) (c (q .GP (s [115,104,97,114,101,100]) (l 4)) z))) (C (A (.sub (l 2) (l 6)) (u (u (l 4) (s [115,104,97,114,101,100])) (i 1))) (C (A (.sub (a (a (l 1) .frame) .vars) (l 6)) (k (g (.fn .hold)) (c (u (u (l 4) (s [115,104,97,114,101,100])) (i 0)) z))) Z)) (C (I (q .gt (l 7) (i 0)) (C (A (.sub (l 2) (l 6)) (k (g (.bi .len)) (c (l 3) z))) (C (x (m (l 3) [97,112,112,101,110,100] (c (b .add (l 5) (i 20)) z))) (C (A (.sub (a (a (l 1) .frame) .vars) (l 6)) (b .add (l 5) (i 20))) (C (I (q .eq (l 7) (i 2)) (C (A (.sub (l 4) (s [115,104,97,114,101,100])) (.tup (c (k (g (.fn .hold)) (c (k (g (.cls .ref)) (c (b .add (l 5) (i 20)) z)) z)) (c (b .sub (k (g (.bi .len)) (c (l 3) z)) (i 1)) z)))) (C (A (.sub (a (a (l 1) .frame) .vars) (l 6)) (u (u (l 4) (s [115,104,97,114,101,100])) (i 0))) Z)) Z) Z)))) Z) Z)) Z))) (C (r (.tup (c (l 2) (c (l 3) z)))) Z)))
noncomputable def NH:bc:=⟨"_law_frame",["pen","host","book","cells","refs","at","name","way"],2,[],LQ⟩
noncomputable def OI:dH:=(C (r (.tup (c (s [97]) (c (s [98]) (c (s [95,99]) (c (s [55]) (c (s [112,95,97]) z))))))) Z)
noncomputable def Qe:bc:=⟨"_law_names",[],0,[],OI⟩
noncomputable def Tu:dH:=(C (.B4 (l 0) .holders .add (i 1)) (C (r (l 0)) Z))
noncomputable def Tv:bc:=⟨"hold",["ref"],1,[],Tu⟩
noncomputable def IV:dH:=(C (A (.attr (l 0) .value) (l 1)) (C (A (.attr (l 0) .holders) (i 0)) (C (A (.attr (l 0) .types) (.list z)) Z)))
noncomputable def HK:bc:=⟨"Ref.__init__",["self","value"],2,[.none],IV⟩
noncomputable def Dv:dH:=(C (A (.attr (l 0) .QJ) .dict) (C (A (.attr (l 0) .QI) .dict) (C (A (.attr (l 0) .execs) .dict) (C (A (.attr (l 0) .top) (k (g (.cls .frame)) z)) (C (A (.attr (l 0) .frame) (a (l 0) .top)) (C (A (.attr (l 0) .AG) (.list z)) (C (A (.attr (l 0) .silent) (i 0)) (C (A (.attr (l 0) .parts) (.list z)) (C (A (.attr (l 0) .G6) (.list z)) (C (A (.attr (l 0) .depth) (i 0)) (C (A (.attr (l 0) .limit) (l 1)) (C (A (.attr (l 0) .spent) (i 0)) (C (A (.attr (l 0) .fuel) (l 2)) (C (A (.attr (l 0) .FI) (i 0)) (C (A (.attr (l 0) .classes) .dict) (C (A (.attr (l 0) .xn) .dict) (C (A (.attr (l 0) .constants) .dict) (C (A (.attr (l 0) .nY) (.list z)) (C (A (.attr (l 0) .made) (.list z)) (C (A (.attr (l 0) .xt) (y false)) Z))))))))))))))))))))
noncomputable def En:bc:=⟨"Host.__init__",["self","limit","fuel"],3,[.int 12,.none],Dv⟩
noncomputable def BY:dH:=(C (A (.attr (l 0) .func) (l 1)) (C (A (.attr (l 0) .this) (l 2)) (C (A (.attr (l 0) .cls) (l 3)) (C (A (.attr (l 0) .static) (l 4)) (C (A (.attr (l 0) .vars) .dict) (C (A (.attr (l 0) .args) (.list z)) Z))))))
noncomputable def Ca:bc:=⟨"Frame.__init__",["self","func","this","cls","static"],5,[.none,.none,.none,.none],BY⟩
noncomputable def Hj:dH:=(C (A (.attr (l 0) .cls) (l 1)) (C (A (.attr (l 0) .handle) (l 2)) (C (A (.attr (l 0) .props) .dict) (C (A (.attr (l 0) .data) .none) (C (A (.attr (l 0) .guards) .dict) (C (A (.attr (l 0) .F7) (y false)) (C (A (.attr (l 0) .pj) (y false)) Z)))))))
noncomputable def HW:bc:=⟨"Obj.__init__",["self","cls","handle"],3,[],Hj⟩
noncomputable def yo:dH:=(C (A (.loc 3) (a (a (l 0) .frame) .vars)) (C (I (.or (c (q .ne (k (g (.bi .sorted)) (c (l 3) z)) (k (g (.bi .sorted)) (c (l 1) z))) (c (q .ne (.comp (k (g (.fn .GR)) (c (u (l 3) (l 7)) z)) 1 (.plain (l 1)) (y true)) (.comp (u (l 2) (u (l 1) (l 7))) 1 (.plain (l 1)) (y true))) z))) (C (r (y false)) Z) Z) (C (.for [4] (.plain (l 1)) (C (A (.loc 5) (.comp (l 7) 1 (.plain (l 1)) (q .eq (u (l 1) (l 7)) (u (l 1) (l 4))))) (C (I (q .gt (k (g (.bi .len)) (c (l 5) z)) (i 1)) (C (.for [6] (.plain (l 5)) (C (I (.or (c (.not (k (g (.bi .isinstance)) (c (u (l 3) (l 6)) (c (g (.cls .ref)) z)))) (c (q .qD (u (l 3) (l 6)) (u (l 3) (l 4))) z))) (C (r (y false)) Z) Z) Z)) (C (I (q .ne (a (u (l 3) (l 4)) .holders) (k (g (.bi .len)) (c (l 5) z))) (C (r (y false)) Z) Z) Z)) Z) Z))) (C (r (y true)) Z))))
noncomputable def zd:bc:=⟨"_law_cells_right",["host","book","cells","found","name","others","other"],3,[],yo⟩
noncomputable def Qh:dH:=(C (I (k (g (.bi .isinstance)) (c (l 0) (c (g (.cls .ref)) z))) (C (A (.loc 0) (a (l 0) .value)) Z) Z) (C (I (k (g (.bi .isinstance)) (c (l 0) (c (g (.cls .absent)) z))) (C (r .none) Z) Z) (C (r (l 0)) Z)))
noncomputable def Om:bc:=⟨"deref",["slot"],1,[],Qh⟩
noncomputable def BB:dH:=(C (A (.loc 4) (.comp (u (k (g (.fn .things)) z) (k (g (.fn .draw)) (c (l 0) (c (u (.tup (c (i 9) (c (i 3) (c (i 6) (c (i 10) z))))) (l 10)) (c (i 12) z))))) 1 (.dU (i 4)) (y true))) (C (A (.loc 4) (.slice (l 4) .none (b .sub (i 4) (k (g (.fn .draw)) (c (l 0) (c (i 0) (c (i 4) z))))) .none)) (C (A (.tup [5,6]) (.tup (c .dict (c (.listOf (.plain (a (l 1) .AG))) z)))) (C (.for [7] (.dU (k (g (.bi .len)) (c (l 4) z))) (C (x (k (g (.fn .packed)) (c (u (l 4) (l 7)) (c (b .add (l 7) (i 1)) (c (l 2) (c (l 3) (c (a (a (l 1) .frame) .this) (c (l 5) (c (l 6) z))))))))) Z)) (C (A (.loc 8) (.comp (k (g (.fn .nj)) (c (l 10) z)) 1 (.plain (l 4)) (y true))) (C (A (.loc 9) (k (g (.fn .uo)) (c (l 1) (c (.list (c (u (l 8) (i 0)) (c (.slice (l 8) (i 1) .none .none) z))) z)))) (C (r (.and (c (q .eq (k (g (.fn .seen)) (c (l 9) z)) (.listOf (.items (l 5)))) (c (q .eq (a (l 1) .AG) (l 6)) z)))) Z)))))))
noncomputable def BF:bc:=⟨"_law_pack_right",["pen","host","book","cells","things","made","notes","at","values","found"],4,[],BB⟩
noncomputable def Lq:dH:=(C (r (.tup (c (s [97]) (c (s [98]) (c (s [95,99]) (c (s [55]) (c (s [112,95,97]) (c (s [110,111,119,104,101,114,101]) (c (s [116,104,105,115]) (c (i 4) (c .none (c (.list (c (s [97]) (c (s [110,111,110,101]) (c (i 5) z)))) (c (.list (c (.list (c (s [95,99]) z)) (c (s [55]) z))) (c (.list z) z)))))))))))))) Z)
noncomputable def Mk:bc:=⟨"_law_things",[],0,[],Lq⟩
noncomputable def Na:dH:=(C (I (k (g (.bi .isinstance)) (c (l 0) (c (g (.bi .list)) z))) (C (.for [7] (.plain (l 0)) (C (x (k (g (.fn .packed)) (c (l 7) (c (l 1) (c (l 2) (c (l 3) (c (l 4) (c (l 5) (c (l 6) z))))))))) Z)) Z) (C (I (.not (k (g (.bi .isinstance)) (c (l 0) (c (g (.bi .str)) z)))) (C (A (.loc 8) (b .add (b .add (s [99,111,109,112,97,99,116,40,41,58,32,65,114,103,117,109,101,110,116,32,35]) (k (g (.bi .str)) (c (l 1) z))) (s [32,109,117,115,116,32,98,101,32,115,116,114,105,110,103,32,111,114,32,97,114,114,97,121,32,111,102,32,115,116,114,105,110,103,115,44,32]))) (C (x (m (l 6) [97,112,112,101,110,100] (c (.tup (c (s [87,97,114,110,105,110,103]) (c (b .add (b .add (l 8) (k (g (.fn .kind)) (c (l 0) z))) (s [32,103,105,118,101,110])) z))) z))) Z)) (C (I (q .GP (l 0) (l 2)) (C (A (.sub (l 5) (.ite (q .eq (l 0) (s [55])) (i 7) (l 0))) (u (l 3) (u (l 2) (l 0)))) Z) (C (I (q .eq (l 0) (s [116,104,105,115])) (C (I (q .qD (l 4) .none) (C (A (.sub (l 5) (s [116,104,105,115])) (a (l 4) .handle)) Z) Z) Z) (C (x (m (l 6) [97,112,112,101,110,100] (c (.tup (c (s [87,97,114,110,105,110,103]) (c (b .add (s [99,111,109,112,97,99,116,40,41,58,32,85,110,100,101,102,105,110,101,100,32,118,97,114,105,97,98,108,101,32,36]) (l 0)) z))) z))) Z)) Z)) Z)) Z)) Z)
noncomputable def LH:bc:=⟨"_law_packed",["thing","at","book","cells","this","made","notes","one","words"],7,[],Na⟩
noncomputable def RU:dH:=(C (I (q .is (l 0) .none) (C (r (s [110,117,108,108])) Z) Z) (C (I (k (g (.bi .isinstance)) (c (l 0) (c (g (.bi .bool)) z))) (C (r (s [98,111,111,108])) Z) Z) (C (I (k (g (.bi .isinstance)) (c (l 0) (c (g (.bi .int)) z))) (C (r (s [105,110,116])) Z) Z) (C (I (k (g (.bi .isinstance)) (c (l 0) (c (g (.bi .str)) z))) (C (r (s [115,116,114,105,110,103])) Z) Z) (C (I (k (g (.bi .isinstance)) (c (l 0) (c (g (.cls .arr)) z))) (C (r (s [97,114,114,97,121])) Z) Z) (C (I (k (g (.bi .isinstance)) (c (l 0) (c (g (.cls .obj)) z))) (C (r (s [111,98,106,101,99,116])) Z) Z) (C (.raise (k (g (.cls .jY)) (c (s [116,104,105,115,32,105,115,32,110,111,32,118,97,108,117,101]) z))) Z)))))))
noncomputable def S4:bc:=⟨"kind",["value"],1,[],RU⟩
noncomputable def LZ:dH:=(C (I (.not (k (g (.bi .isinstance)) (c (l 0) (c (g (.bi .list)) z)))) (C (r (l 0)) Z) Z) (C (r (k (g (.fn .listOf)) (c (.comp (k (g (.fn .nj)) (c (l 1) z)) 1 (.plain (l 0)) (y true)) z))) Z))
noncomputable def Mc:bc:=⟨"_law_value",["thing"],1,[],LZ⟩
noncomputable def Kv:dH:=(C (A (.loc 1) (k (g (.cls .arr)) z)) (C (.for [2] (.plain (l 0)) (C (x (m (l 1) [97,112,112,101,110,100] (c (l 2) z))) Z)) (C (r (l 1)) Z)))
noncomputable def JP:bc:=⟨"list_of",["values","made","value"],1,[],Kv⟩
noncomputable def H3:dH:=(C (A (.attr (l 0) .hU) (y true)) (C (A (.attr (l 0) .keys) (.list z)) (C (A (.attr (l 0) .vals) (.list z)) (C (A (.attr (l 0) .heads) (.list z)) (C (A (.attr (l 0) .pe) (.list z)) (C (A (.attr (l 0) .size) (l 1)) (C (A (.attr (l 0) .count) (i 0)) (C (A (.attr (l 0) .next) (k (g (.fn .least)) z)) (C (A (.attr (l 0) .at_) (i 0)) (C (A (.attr (l 0) .oJ) (y false)) (C (A (.attr (l 0) .walks) .dict) Z)))))))))))
noncomputable def Iq:bc:=⟨"Arr.__init__",["self","size"],2,[.int 8],H3⟩
noncomputable def Oc:dH:=(C (r (.neg (b .pow (i 2) (i 63)))) Z)
noncomputable def Qc:bc:=⟨"least",[],0,[],Oc⟩
noncomputable def JT:dH:=(C (A (.loc 2) (.ite (q .eq (a (l 0) .next) (k (g (.fn .least)) z)) (i 0) (a (l 0) .next))) (C (I (.and (c (q .eq (l 2) (k (g (.fn .qw)) z)) (c (m (l 0) [104,97,115] (c (l 2) z)) z))) (C (.raise (k (g (.fn .error)) (c (s [67,97,110,110,111,116,32,97,100,100,32,101,108,101,109,101,110,116,32,116,111,32,116,104,101,32,97,114,114,97,121,32,97,115,32,116,104,101,32,110,101,120,116,32,101,108,101,109,101,110,116,32,105,115,32,97,108,114,101,97,100,121,32,111,99,99,117,112,105,101,100]) z))) Z) Z) (C (x (k (g (.fn .add)) (c (l 0) (c (l 2) (c (l 1) z))))) (C (r (l 2)) Z))))
noncomputable def Nk:bc:=⟨"Arr.append",["self","slot","key"],2,[],JT⟩
noncomputable def V6:dH:=(C (r (q .ge (m (l 0) [102,105,110,100] (c (l 1) z)) (i 0))) Z)
noncomputable def Xk:bc:=⟨"Arr.has",["self","key"],2,[],V6⟩
noncomputable def Xp:dH:=(C (I (.and (c (a (l 0) .hU) (c (.not (k (g (.fn .j5)) (c (l 0) (c (l 1) z)))) z))) (C (I (q .ge (k (g (.bi .len)) (c (a (l 0) .vals) z)) (a (l 0) .size)) (C (A (.attr (l 0) .size) (b .mul (a (l 0) .size) (i 2))) Z) Z) (C (x (k (g (.fn .DQ)) (c (l 0) z))) Z)) Z) (C (I (a (l 0) .hU) (C (x (k (g (.fn .oB)) (c (l 0) (c (l 1) (c (l 2) z))))) Z) (C (x (k (g (.fn .xG)) (c (l 0) (c (l 1) (c (l 2) z))))) Z)) (C (.B4 (l 0) .count .add (i 1)) (C (I (.and (c (k (g (.bi .isinstance)) (c (l 1) (c (g (.bi .int)) z))) (c (q .ge (l 1) (a (l 0) .next)) z))) (C (A (.attr (l 0) .next) (k (g (.bi .min)) (c (b .add (l 1) (i 1)) (c (k (g (.fn .qw)) z) z)))) Z) Z) Z))))
noncomputable def XG:bc:=⟨"add",["arr","key","slot"],3,[],Xp⟩
noncomputable def wB:dH:=(C (I (.or (c (.not (k (g (.bi .isinstance)) (c (l 1) (c (g (.bi .int)) z)))) (c (q .lt (l 1) (k (g (.bi .len)) (c (a (l 0) .vals) z))) z))) (C (r (y false)) Z) Z) (C (I (.and (c (q .ge (l 1) (a (l 0) .size)) (c (q .lt (b .shr (l 1) (i 1)) (a (l 0) .size)) (c (q .lt (b .shr (a (l 0) .size) (i 1)) (a (l 0) .count)) z)))) (C (A (.attr (l 0) .size) (b .mul (a (l 0) .size) (i 2))) Z) Z) (C (r (q .lt (l 1) (a (l 0) .size))) Z)))
noncomputable def wL:bc:=⟨"takes_packed",["arr","key"],2,[],wB⟩
noncomputable def Nh:dH:=(C (A (.attr (l 0) .keys) (.listOf (.dU (k (g (.bi .len)) (c (a (l 0) .vals) z))))) (C (A (.attr (l 0) .hU) (y false)) (C (x (k (g (.fn .Ea)) (c (l 0) z))) Z)))
noncomputable def Mq:bc:=⟨"to_hash",["arr"],1,[],Nh⟩
noncomputable def Mm:dH:=(C (A (.loc 1) (.comp (l 3) 1 (.dU (k (g (.bi .len)) (c (a (l 0) .vals) z))) (k (g (.fn .nE)) (c (l 0) (c (l 3) z))))) (C (A (.attr (l 0) .at_) (k (g (.fn .si)) (c (l 1) (c (a (l 0) .at_) z)))) (C (.for [2] (.plain (.listOf (.plain (a (l 0) .walks)))) (C (A (.sub (a (l 0) .walks) (l 2)) (k (g (.fn .si)) (c (l 1) (c (u (a (l 0) .walks) (l 2)) z)))) Z)) (C (A (.attr (l 0) .keys) (.comp (u (a (l 0) .keys) (l 3)) 1 (.plain (l 1)) (y true))) (C (A (.attr (l 0) .vals) (.comp (u (a (l 0) .vals) (l 3)) 1 (.plain (l 1)) (y true))) (C (x (k (g (.fn .D1)) (c (l 0) z))) Z))))))
noncomputable def M9:bc:=⟨"rehash",["arr","living","number"],1,[],Mm⟩
noncomputable def BV:dH:=(C (r (k (g (.bi .len)) (c (.comp (l 2) 1 (.plain (l 0)) (q .lt (l 2) (l 1))) z))) Z)
noncomputable def AK:bc:=⟨"many_ahead",["living","place"],2,[],BV⟩
noncomputable def Bk:dH:=(C (A (.attr (l 0) .heads) (b .mul (.list (c (.neg (i 1)) z)) (a (l 0) .size))) (C (A (.attr (l 0) .pe) (b .mul (.list (c (.neg (i 1)) z)) (k (g (.bi .len)) (c (a (l 0) .vals) z)))) (C (.for [1] (.dU (k (g (.bi .len)) (c (a (l 0) .vals) z))) (C (I (k (g (.fn .nE)) (c (l 0) (c (l 1) z))) (C (x (k (g (.fn .link)) (c (l 0) (c (l 1) z)))) Z) Z) Z)) Z)))
noncomputable def LY:bc:=⟨"chains",["arr","place"],1,[],Bk⟩
noncomputable def SN:dH:=(C (A (.loc 2) (b .mod (k (g (.fn .hashOf)) (c (u (a (l 0) .keys) (l 1)) z)) (a (l 0) .size))) (C (A (.sub (a (l 0) .pe) (l 1)) (u (a (l 0) .heads) (l 2))) (C (A (.sub (a (l 0) .heads) (l 2)) (l 1)) Z)))
noncomputable def Ut:bc:=⟨"link",["arr","place","chain"],2,[],SN⟩
noncomputable def BE:dH:=(C (I (k (g (.bi .isinstance)) (c (l 0) (c (g (.bi .int)) z))) (C (r (b .mod (l 0) (b .pow (i 2) (i 64)))) Z) Z) (C (A (.loc 1) (i 5381)) (C (.for [2] (.plain (l 0)) (C (A (.loc 1) (b .mod (b .add (b .mul (l 1) (i 33)) (k (g (.bi .ord)) (c (l 2) z))) (b .pow (i 2) (i 64)))) Z)) (C (r (b .AW (l 1) (b .pow (i 2) (i 63)))) Z))))
noncomputable def JN:bc:=⟨"hash_of",["key","found","sign"],1,[],BE⟩
noncomputable def ES:dH:=(C (r (.and (c (.r6 (i 0) .le (l 1) .lt (k (g (.bi .len)) (c (a (l 0) .vals) z))) (c (.not (k (g (.bi .isinstance)) (c (u (a (l 0) .vals) (l 1)) (c (g (.cls .absent)) z)))) z)))) Z)
noncomputable def C2:bc:=⟨"is_living",["arr","place"],2,[],ES⟩
noncomputable def Bp:dH:=(C (.o7 (q .lt (k (g (.bi .len)) (c (a (l 0) .vals) z)) (l 1)) (C (x (m (a (l 0) .vals) [97,112,112,101,110,100] (c (k (g (.cls .absent)) z) z))) Z)) (C (x (m (a (l 0) .vals) [97,112,112,101,110,100] (c (l 2) z))) Z))
noncomputable def BU:bc:=⟨"add_packed",["arr","key","slot"],3,[],Bp⟩
noncomputable def Am:dH:=(C (A (.loc 3) (k (g (.bi .len)) (c (a (l 0) .vals) z))) (C (I (q .ge (l 3) (a (l 0) .size)) (C (I (q .gt (l 3) (b .add (a (l 0) .count) (b .shr (a (l 0) .count) (i 5)))) (C (x (k (g (.fn .Ea)) (c (l 0) z))) Z) (C (A (.attr (l 0) .size) (b .mul (a (l 0) .size) (i 2))) (C (x (k (g (.fn .D1)) (c (l 0) z))) Z))) Z) Z) (C (x (m (a (l 0) .keys) [97,112,112,101,110,100] (c (l 1) z))) (C (x (m (a (l 0) .vals) [97,112,112,101,110,100] (c (l 2) z))) (C (x (m (a (l 0) .pe) [97,112,112,101,110,100] (c (.neg (i 1)) z))) (C (x (k (g (.fn .link)) (c (l 0) (c (b .sub (k (g (.bi .len)) (c (a (l 0) .vals) z)) (i 1)) z)))) Z))))))
noncomputable def BO:bc:=⟨"add_hashed",["arr","key","slot","used"],3,[],Am⟩
noncomputable def zH:dH:=(C (A (.attr (l 0) .xp) (l 1)) Z)
noncomputable def yq:bc:=⟨"Absent.__init__",["self","was_unset"],2,[.bool false],zH⟩
noncomputable def Ei:dH:=(C (r (b .sub (b .pow (i 2) (i 63)) (i 1))) Z)
noncomputable def CR:bc:=⟨"greatest",[],0,[],Ei⟩
noncomputable def Ir:dH:=(C (A (.loc 2) (k (g (.cls .arr)) z)) (C (A (.loc 3) (b .add (.list (c (u (l 1) (i 0)) z)) (u (l 1) (i 1)))) (C (.for [4] (.dU (k (g (.bi .len)) (c (l 3) z))) (C (x (k (g (.fn .jJ)) (c (l 0) (c (l 2) (c (u (l 3) (l 4)) (c (b .add (l 4) (i 1)) (c (.list z) z))))))) Z)) (C (r (l 2)) Z))))
noncomputable def HS:bc:=⟨"compact_action",["host","args","made","names","at"],2,[],Ir⟩
noncomputable def Dn:dH:=(C (I (q .eq (k (g (.fn .kind)) (c (l 2) z)) (s [97,114,114,97,121])) (C (.for [5] (.plain (l 4)) (C (I (q .is (l 5) (l 2)) (C (.raise (k (g (.fn .error)) (c (s [82,101,99,117,114,115,105,111,110,32,100,101,116,101,99,116,101,100]) z))) Z) Z) Z)) (C (.for [6,7] (.plain (k (g (.fn .entries)) (c (l 2) z))) (C (x (k (g (.fn .jJ)) (c (l 0) (c (l 1) (c (l 7) (c (l 3) (c (b .add (l 4) (.list (c (l 2) z))) z))))))) Z)) Z)) (C (I (q .ne (k (g (.fn .kind)) (c (l 2) z)) (s [115,116,114,105,110,103])) (C (x (m (l 0) [119,97,114,110] (c (s [87,97,114,110,105,110,103]) (c (b .add (b .add (b .add (b .add (s [99,111,109,112,97,99,116,40,41,58,32,65,114,103,117,109,101,110,116,32,35]) (k (g (.bi .str)) (c (l 3) z))) (s [32,109,117,115,116,32,98,101,32,115,116,114,105,110,103,32,111,114,32,97,114,114,97,121,32,111,102,32,115,116,114,105,110,103,115,44,32])) (k (g (.fn .given)) (c (l 2) z))) (s [32,103,105,118,101,110])) z)))) Z) (C (I (q .GP (l 2) (a (a (l 0) .frame) .vars)) (C (x (m (l 1) [112,117,116] (c (k (g (.fn .uk)) (c (l 2) z)) (c (k (g (.fn .taken)) (c (k (g (.fn .GR)) (c (u (a (a (l 0) .frame) .vars) (l 2)) z)) z)) z)))) Z) (C (I (q .eq (l 2) (s [116,104,105,115])) (C (I (q .qD (a (a (l 0) .frame) .this) .none) (C (x (m (l 1) [112,117,116] (c (l 2) (c (a (a (l 0) .frame) .this) z)))) Z) Z) Z) (C (x (m (l 0) [119,97,114,110] (c (s [87,97,114,110,105,110,103]) (c (b .add (s [99,111,109,112,97,99,116,40,41,58,32,85,110,100,101,102,105,110,101,100,32,118,97,114,105,97,98,108,101,32,36]) (l 2)) z)))) Z)) Z)) Z)) Z)) Z)
noncomputable def Dw:bc:=⟨"pack_name",["host","made","name","at","above","other","key","inner"],5,[],Dn⟩
noncomputable def Io:dH:=(C (r (.comp (.tup (c (l 1) (c (k (g (.fn .marked)) (c (k (g (.fn .GR)) (c (l 2) z)) z)) z))) 2 (.plain (k (g (.fn .slotsOf)) (c (l 0) z))) (y true))) Z)
noncomputable def HN:bc:=⟨"entries",["arr"],1,[],Io⟩
noncomputable def JB:dH:=(C (I (k (g (.bi .isinstance)) (c (l 0) (c (g (.cls .arr)) z))) (C (A (.attr (l 0) .oJ) (y true)) Z) Z) (C (r (l 0)) Z))
noncomputable def Ni:bc:=⟨"marked",["value"],1,[],JB⟩
noncomputable def HL:dH:=(C (r (.comp (.tup (c (m (l 0) [107,101,121,95,97,116] (c (l 1) z)) (c (u (a (l 0) .vals) (l 1)) z))) 1 (.dU (k (g (.bi .len)) (c (a (l 0) .vals) z))) (k (g (.fn .nE)) (c (l 0) (c (l 1) z))))) Z)
noncomputable def HV:bc:=⟨"slots_of",["arr"],1,[],HL⟩
noncomputable def OQ:dH:=(C (r (.ite (a (l 0) .hU) (l 1) (u (a (l 0) .keys) (l 1)))) Z)
noncomputable def Qq:bc:=⟨"Arr.key_at",["self","place"],2,[],OQ⟩
noncomputable def PW:dH:=(C (I (k (g (.bi .isinstance)) (c (l 0) (c (g (.cls .obj)) z))) (C (r (a (a (l 0) .cls) .name)) Z) Z) (C (r (k (g (.fn .kind)) (c (l 0) z))) Z))
noncomputable def Of:bc:=⟨"given",["value"],1,[],PW⟩
noncomputable def SP:dH:=(C (I (q .eq (a (l 0) .silent) (i 0)) (C (x (m (a (l 0) .AG) [97,112,112,101,110,100] (c (.tup (c (l 1) (c (l 2) z))) z))) Z) Z) Z)
noncomputable def UM:bc:=⟨"Host.warn",["self","level","text"],3,[],SP⟩
noncomputable def WU:dH:=(C (A (.loc 3) (m (l 0) [102,105,110,100] (c (l 1) z))) (C (I (q .ge (l 3) (i 0)) (C (A (.sub (a (l 0) .vals) (l 3)) (l 2)) Z) (C (x (k (g (.fn .add)) (c (l 0) (c (l 1) (c (l 2) z))))) Z)) Z))
noncomputable def Ye:bc:=⟨"Arr.put",["self","key","slot","place"],3,[],WU⟩
noncomputable def DN:dH:=(C (I (a (l 0) .hU) (C (r (.ite (.and (c (k (g (.bi .isinstance)) (c (l 1) (c (g (.bi .int)) z))) (c (k (g (.fn .nE)) (c (l 0) (c (l 1) z))) z))) (l 1) (.neg (i 1)))) Z) Z) (C (A (.loc 2) (u (a (l 0) .heads) (b .mod (k (g (.fn .hashOf)) (c (l 1) z)) (a (l 0) .size)))) (C (.o7 (.and (c (q .ge (l 2) (i 0)) (c (q .ne (u (a (l 0) .keys) (l 2)) (l 1)) z))) (C (A (.loc 2) (u (a (l 0) .pe) (l 2))) Z)) (C (r (l 2)) Z))))
noncomputable def Sx:bc:=⟨"Arr.find",["self","key","place"],2,[],DN⟩
noncomputable def IX:dH:=(C (A (.loc 1) (k (g (.fn .Hm)) (c (l 0) z))) (C (r (.ite (q .is (l 1) .none) (l 0) (l 1))) Z))
noncomputable def HF:bc:=⟨"text_key",["text","number"],1,[],IX⟩
noncomputable def Aj:dH:=(C (A (.loc 1) (q .eq (.slice (l 0) .none (i 1) .none) (s [45]))) (C (A (.loc 2) (.ite (l 1) (i 1) (i 0))) (C (I (.or (c (.not (k (g (.fn .isDigit)) (c (l 0) (c (l 2) z)))) (c (q .ne (k (g (.fn .yy)) (c (l 0) (c (l 2) z))) (k (g (.bi .len)) (c (l 0) z))) z))) (C (r .none) Z) Z) (C (I (.and (c (q .eq (u (l 0) (l 2)) (s [48])) (c (.or (c (l 1) (c (q .gt (k (g (.bi .len)) (c (l 0) z)) (i 1)) z))) z))) (C (r .none) Z) Z) (C (r (k (g (.fn .signed)) (c (l 1) (c (k (g (.fn .digitsValue)) (c (l 0) (c (l 2) (c (k (g (.bi .len)) (c (l 0) z)) z)))) z)))) Z)))))
noncomputable def B1:bc:=⟨"key_number",["text","is_minus","first"],1,[],Aj⟩
noncomputable def Im:dH:=(C (r (.and (c (q .lt (l 1) (k (g (.bi .len)) (c (l 0) z))) (c (.r6 (s [48]) .le (u (l 0) (l 1)) .le (s [57])) z)))) Z)
noncomputable def Ia:bc:=⟨"is_digit",["text","at"],2,[],Im⟩
noncomputable def uM:dH:=(C (.o7 (k (g (.fn .isDigit)) (c (l 0) (c (l 1) z))) (C (.ze 1 .add (i 1)) Z)) (C (r (l 1)) Z))
noncomputable def uY:bc:=⟨"digits_behind",["text","at"],2,[],uM⟩
noncomputable def M8:dH:=(C (A (.loc 2) (.ite (l 0) (.neg (l 1)) (l 1))) (C (I (.or (c (q .lt (l 2) (k (g (.fn .least)) z)) (c (q .gt (l 2) (k (g (.fn .qw)) z)) z))) (C (r .none) Z) Z) (C (r (l 2)) Z)))
noncomputable def JA:bc:=⟨"signed",["is_minus","value","n"],2,[],M8⟩
noncomputable def w9:dH:=(C (A (.loc 3) (i 0)) (C (.for [4] (.kj (l 1) (l 2)) (C (A (.loc 3) (b .sub (b .add (b .mul (l 3) (i 10)) (k (g (.bi .ord)) (c (u (l 0) (l 4)) z))) (i 48))) (C (I (q .gt (l 3) (b .pow (i 2) (i 63))) (C (r (b .add (b .pow (i 2) (i 63)) (i 1))) Z) Z) Z))) (C (r (l 3)) Z)))
noncomputable def w3:bc:=⟨"digits_value",["text","first","behind","value","at"],3,[],w9⟩
noncomputable def PZ:dH:=(C (I (k (g (.bi .isinstance)) (c (l 0) (c (g (.cls .arr)) z))) (C (A (.attr (l 0) .oJ) (y true)) Z) Z) (C (r (l 0)) Z))
noncomputable def Oa:bc:=⟨"taken",["value"],1,[],PZ⟩
noncomputable def T5:dH:=(C (r (.comp (.tup (c (l 1) (c (.ite (k (g (.bi .isinstance)) (c (l 2) (c (g (.cls .obj)) z))) (a (l 2) .handle) (l 2)) z))) 2 (.plain (k (g (.fn .slotsOf)) (c (l 0) z))) (y true))) Z)
noncomputable def Sg:bc:=⟨"_law_seen",["arr"],1,[],T5⟩
noncomputable def Pq:dH:=(C (A (.loc 1) (.tup (c (s [97]) (c (s [98]) (c (s [95,99]) (c (s [110,101,119]) (c (i 3) (c (s [57,120]) (c (s [120,32,121]) (c (s []) (c (s [116,104,105,115]) (c (s [112,95,97]) z)))))))))))) (C (A (.loc 2) (.list z)) (C (.for [3] (.dU (b .sub (i 5) (k (g (.fn .draw)) (c (l 0) (c (i 0) (c (i 5) z)))))) (C (x (m (l 2) [97,112,112,101,110,100] (c (.tup (c (u (l 1) (k (g (.fn .draw)) (c (l 0) (c (u (.tup (c (i 1) (c (i 3) (c (i 5) (c (i 0) (c (i 4) z)))))) (l 3)) (c (i 10) z))))) (c (b .add (l 3) (i 30)) z))) z))) Z)) (C (r (k (g (.fn .xT)) (c (l 2) z))) Z))))
noncomputable def Qn:bc:=⟨"_law_pairs",["pen","keys","pairs","turn"],1,[],Pq⟩
noncomputable def Bb:dH:=(C (A (.loc 1) (k (g (.cls .arr)) z)) (C (.for [2,3] (.plain (l 0)) (C (x (m (l 1) [112,117,116] (c (l 2) (c (l 3) z)))) Z)) (C (r (l 1)) Z)))
noncomputable def Be:bc:=⟨"from_pairs",["pairs","made","key","slot"],1,[],Bb⟩
noncomputable def MQ:dH:=(C (A (.loc 1) (s [97,98,99,100,101,102,103,104,105,106,107,108,109,110,111,112,113,114,115,116,117,118,119,120,121,122,95])) (C (I (.or (c (q .eq (l 0) (s [])) (c (q .o8 (u (l 0) (i 0)) (l 1)) z))) (C (r (y false)) Z) Z) (C (r (q .eq (.comp (l 2) 1 (.plain (l 0)) (q .o8 (l 2) (b .add (l 1) (s [48,49,50,51,52,53,54,55,56,57])))) (.list z))) Z)))
noncomputable def LJ:bc:=⟨"_law_is_name",["text","letters"],1,[],MQ⟩
noncomputable def Ie:dH:=(C (A (.loc 2) (s [101,120,116,114,97,99,116,40,41,58,32,65,114,103,117,109,101,110,116,32,35])) (C (I (q .gt (b .mod (l 0) (i 256)) (i 6)) (C (r (b .add (l 2) (s [50,32,40,36,102,108,97,103,115,41,32,109,117,115,116,32,98,101,32,97,32,118,97,108,105,100,32,101,120,116,114,97,99,116,32,116,121,112,101]))) Z) Z) (C (I (.and (c (q .GP (b .mod (l 0) (i 256)) (.tup (c (i 2) (c (i 3) (c (i 4) (c (i 5) z)))))) (c (q .eq (l 1) (s [])) z))) (C (r (b .add (l 2) (s [51,32,40,36,112,114,101,102,105,120,41,32,105,115,32,114,101,113,117,105,114,101,100,32,119,104,101,110,32,117,115,105,110,103,32,116,104,105,115,32,101,120,116,114,97,99,116,32,116,121,112,101]))) Z) Z) (C (I (q .gt (l 0) (i 3)) (C (r (s [108,101,102,116])) Z) Z) (C (I (.and (c (q .ne (l 1) (s [])) (c (.not (k (g (.fn .isName)) (c (l 1) z))) z))) (C (r (b .add (l 2) (s [51,32,40,36,112,114,101,102,105,120,41,32,109,117,115,116,32,98,101,32,97,32,118,97,108,105,100,32,105,100,101,110,116,105,102,105,101,114]))) Z) Z) (C (r (s [])) Z))))))
noncomputable def HC:bc:=⟨"_law_refused",["mode","prefix","head"],2,[],Ie⟩
noncomputable def UG:dH:=(C (I (q .eq (l 1) (i 3)) (C (A (.loc 4) (.ite (q .eq (l 0) (s [])) (s []) (b .add (b .add (l 2) (s [95])) (k (g (.bi .str)) (c (l 0) z))))) Z) (C (I (.not (k (g (.bi .isinstance)) (c (l 0) (c (g (.bi .str)) z)))) (C (A (.loc 4) (s [])) Z) (C (I (.and (c (q .eq (l 1) (i 2)) (c (.or (c (q .GP (l 0) (l 3)) (c (q .eq (l 0) (s [116,104,105,115])) z))) z))) (C (A (.loc 4) (.ite (q .eq (l 0) (s [])) (s []) (b .add (b .add (l 2) (s [95])) (l 0)))) Z) (C (A (.loc 4) (.ite (.and (c (q .eq (l 1) (i 1)) (c (.or (c (q .GP (l 0) (l 3)) (c (q .eq (l 0) (s [116,104,105,115])) z))) z))) (s []) (l 0))) Z)) Z)) Z)) (C (r (.ite (k (g (.fn .isName)) (c (l 4) z)) (l 4) (s []))) Z))
noncomputable def U7:bc:=⟨"_law_goal",["key","mode","prefix","book","name"],4,[],UG⟩
noncomputable def yE:dH:=(C (A (.loc 5) (i 0)) (C (.for [6,7] (.plain (l 0)) (C (A (.loc 8) (k (g (.fn .goal)) (c (l 6) (c (l 1) (c (l 2) (c (l 3) z)))))) (C (I (q .eq (l 8) (s [116,104,105,115])) (C (r (s [67,97,110,110,111,116,32,114,101,45,97,115,115,105,103,110,32,36,116,104,105,115])) Z) Z) (C (I (q .ne (l 8) (s [])) (C (I (q .o8 (l 8) (l 3)) (C (A (.sub (l 3) (l 8)) (k (g (.bi .len)) (c (l 4) z))) (C (x (m (l 4) [97,112,112,101,110,100] (c .none z))) Z)) Z) (C (A (.sub (l 4) (u (l 3) (l 8))) (l 7)) (C (.ze 5 .add (i 1)) Z))) Z) Z)))) (C (r (l 5)) Z)))
noncomputable def yG:bc:=⟨"_law_taken_apart",["pairs","mode","prefix","book","cells","many","key","value","name"],5,[],yE⟩
noncomputable def yU:dH:=(C (A (.loc 4) (k (g (.fn .pairs)) (c (l 0) z))) (C (A (.loc 5) (u (.tup (c (i 0) (c (i 1) (c (i 2) (c (i 3) (c (i 0) (c (i 3) (c (i 7) (c (i 256) (c (i 5) z)))))))))) (k (g (.fn .draw)) (c (l 0) (c (i 0) (c (i 9) z)))))) (C (A (.loc 6) (u (.tup (c (s [112]) (c (s []) (c (s [49,112]) (c (s [95]) z))))) (k (g (.fn .draw)) (c (l 0) (c (i 0) (c (i 4) z)))))) (C (A (.loc 7) (k (g (.fn .refused)) (c (l 5) (c (l 6) z)))) (C (I (q .eq (l 7) (s [])) (C (A (.loc 7) (k (g (.fn .vn)) (c (k (g (.fn .slotsOf)) (c (l 4) z)) (c (l 5) (c (l 6) (c (l 2) (c (l 3) z))))))) Z) Z) (C (.try 8 (k (g (.fn .extract)) (c (l 1) (c (.list (c (l 4) (c (l 5) (c (l 6) z)))) z))) .thrown 9 .text .leftOut [108,101,102,116]) (C (r (q .eq (l 8) (l 7))) Z)))))))
noncomputable def zc:bc:=⟨"_law_apart_right",["pen","host","book","cells","arr","mode","prefix","due","found","thrown"],4,[],yU⟩
noncomputable def IU:dH:=(C (A (.tup [2,3,4]) (l 1)) (C (A (.loc 5) (k (g (.fn .ti)) (c (l 3) (c (l 4) z)))) (C (A (.loc 6) (a (a (l 0) .frame) .vars)) (C (A (.loc 7) (i 0)) (C (.for [8,9] (.plain (k (g (.fn .entries)) (c (l 2) z))) (C (A (.loc 10) (k (g (.fn .j6)) (c (l 6) (c (l 8) (c (l 5) (c (l 4) z)))))) (C (I (.and (c (q .eq (l 10) (s [116,104,105,115])) (c (q .eq (l 5) (i 0)) z))) (C (.raise (k (g (.fn .error)) (c (s [67,97,110,110,111,116,32,114,101,45,97,115,115,105,103,110,32,36,116,104,105,115]) z))) Z) Z) (C (I (.and (c (q .ne (l 10) (s [116,104,105,115])) (c (k (g (.fn .jw)) (c (l 10) z)) z))) (C (A (.sub (l 6) (l 10)) (k (g (.fn .assigned)) (c (l 0) (c (m (l 6) [103,101,116] (c (l 10) z)) (c (l 9) z))))) (C (.ze 7 .add (i 1)) Z)) Z) Z)))) (C (r (l 7)) Z))))))
noncomputable def IB:bc:=⟨"extract_action",["host","args","arr","flags","prefix","sort","variables","many","key","value","name"],2,[],IU⟩
noncomputable def xa:dH:=(C (A (.loc 2) (b .sA (l 0) (i 255))) (C (I (q .gt (l 2) (i 6)) (C (.raise (k (g (.fn .mD)) (c (s [101,120,116,114,97,99,116,40,41,58,32,65,114,103,117,109,101,110,116,32,35,50,32,40,36,102,108,97,103,115,41,32,109,117,115,116,32,98,101,32,97,32,118,97,108,105,100,32,101,120,116,114,97,99,116,32,116,121,112,101]) z))) Z) Z) (C (I (.and (c (.r6 (i 1) .lt (l 2) .lt (i 6)) (c (q .eq (l 1) (s [])) z))) (C (.raise (k (g (.fn .mD)) (c (s [101,120,116,114,97,99,116,40,41,58,32,65,114,103,117,109,101,110,116,32,35,51,32,40,36,112,114,101,102,105,120,41,32,105,115,32,114,101,113,117,105,114,101,100,32,119,104,101,110,32,117,115,105,110,103,32,116,104,105,115,32,101,120,116,114,97,99,116,32,116,121,112,101]) z))) Z) Z) (C (I (.or (c (q .gt (l 2) (i 3)) (c (q .ne (b .sA (l 0) (i 256)) (i 0)) z))) (C (.raise (k (g (.cls .leftOut)) (c (s [97,32,115,111,114,116,32,111,102,32,101,120,116,114,97,99,116]) z))) Z) Z) (C (I (.and (c (q .ne (l 1) (s [])) (c (.not (k (g (.fn .jw)) (c (l 1) z))) z))) (C (.raise (k (g (.fn .mD)) (c (s [101,120,116,114,97,99,116,40,41,58,32,65,114,103,117,109,101,110,116,32,35,51,32,40,36,112,114,101,102,105,120,41,32,109,117,115,116,32,98,101,32,97,32,118,97,108,105,100,32,105,100,101,110,116,105,102,105,101,114]) z))) Z) Z) (C (r (l 2)) Z))))))
noncomputable def wM:bc:=⟨"extract_sort",["flags","prefix","sort"],2,[],xa⟩
noncomputable def tV:dH:=(C (I (q .eq (l 2) (i 3)) (C (r (.ite (q .eq (l 1) (s [])) (s []) (b .add (b .add (l 3) (s [95])) (k (g (.fn .B8)) (c (l 1) z))))) Z) Z) (C (I (.or (c (q .eq (k (g (.fn .kind)) (c (l 1) z)) (s [105,110,116])) (c (q .eq (l 1) (s [])) z))) (C (r (s [])) Z) Z) (C (I (.and (c (q .eq (l 2) (i 1)) (c (q .GP (l 1) (l 0)) z))) (C (r (s [])) Z) Z) (C (I (.and (c (q .eq (l 2) (i 2)) (c (.or (c (q .GP (l 1) (l 0)) (c (q .eq (l 1) (s [116,104,105,115])) z))) z))) (C (r (b .add (b .add (l 3) (s [95])) (l 1))) Z) Z) (C (r (l 1)) Z)))))
noncomputable def tZ:bc:=⟨"extracted_name",["variables","key","sort","prefix"],4,[],tV⟩
noncomputable def Ej:dH:=(C (I (q .eq (k (g (.fn .kind)) (c (l 0) z)) (s [105,110,116])) (C (r (k (g (.fn .GY)) (c (l 0) z))) Z) Z) (C (r (l 0)) Z))
noncomputable def Dl:bc:=⟨"prop_name",["key"],1,[],Ej⟩
noncomputable def HA:dH:=(C (r (k (g (.bi .str)) (c (l 0) z))) Z)
noncomputable def Hz:bc:=⟨"int_text",["n"],1,[],HA⟩
noncomputable def kW:dH:=(C (I (.or (c (q .eq (l 0) (s [])) (c (.not (k (g (.fn .isNameStart)) (c (u (l 0) (i 0)) z))) z))) (C (r (y false)) Z) Z) (C (.for [1] (.plain (l 0)) (C (I (.not (k (g (.fn .isNameSign)) (c (l 1) z))) (C (r (y false)) Z) Z) Z)) (C (r (y true)) Z)))
noncomputable def rT:bc:=⟨"is_variable_name",["name","sign"],1,[],kW⟩
noncomputable def wD:dH:=(C (r (.and (c (q .ne (l 0) (s [])) (c (.or (c (q .eq (l 0) (s [95])) (c (.r6 (s [97]) .le (l 0) .le (s [122])) (c (.r6 (s [65]) .le (l 0) .le (s [90])) (c (q .ge (k (g (.bi .ord)) (c (l 0) z)) (i 128)) z))))) z)))) Z)
noncomputable def wO:bc:=⟨"is_name_start",["c"],1,[],wD⟩
noncomputable def zk:dH:=(C (r (.or (c (k (g (.fn .isNameStart)) (c (l 0) z)) (c (.r6 (s [48]) .le (l 0) .le (s [57])) z)))) Z)
noncomputable def zI:bc:=⟨"is_name_sign",["c"],1,[],zk⟩
noncomputable def Eu:dH:=(C (I (.not (k (g (.bi .isinstance)) (c (l 1) (c (g (.cls .ref)) z)))) (C (r (l 2)) Z) Z) (C (I (a (l 1) .types) (C .stop Z) Z) (C (A (.attr (l 1) .value) (l 2)) (C (r (l 1)) Z))))
noncomputable def ET:bc:=⟨"assigned",["host","slot","value"],3,[],Eu⟩
noncomputable def UC:dH:=(C (A (.loc 3) (.comp (l 5) 1 (.plain (k (g (.bi .sorted)) (c (l 1) z))) (q .ne (l 5) (s [55])))) (C (I (q .eq (l 3) (.list z)) (C (r (y true)) Z) Z) (C (A (.loc 4) (k (g (.fn .uo)) (c (l 0) (c (.list (c (k (g (.fn .listOf)) (c (l 3) z)) (c (.list z) z))) z)))) (C (A (.attr (l 0) .frame) (k (g (.cls .frame)) z)) (C (I (q .ne (k (g (.fn .extract)) (c (l 0) (c (.list (c (l 4) (c (i 0) (c (s []) z)))) z))) (k (g (.bi .len)) (c (l 3) z))) (C (r (y false)) Z) Z) (C (r (q .eq (a (a (l 0) .frame) .vars) (k (g (.bi .dict)) (c (.comp (.tup (c (l 5) (c (u (l 2) (u (l 1) (l 5))) z))) 1 (.plain (l 3)) (y true)) z)))) Z))))))
noncomputable def Sa:bc:=⟨"_law_back",["host","book","cells","names","arr"],3,[],UC⟩
noncomputable def zl:dH:=(C (r (k (g (.cls .thrown)) (c (s [86,97,108,117,101,69,114,114,111,114]) (c (l 0) z)))) Z)
noncomputable def yR:bc:=⟨"value_error",["text"],1,[],zl⟩
noncomputable def O0:dH:=(C (r (k (g (.cls .thrown)) (c (s [69,114,114,111,114]) (c (l 0) z)))) Z)
noncomputable def PQ:bc:=⟨"error",["text"],1,[],O0⟩
end
noncomputable def ZO:List bc:=[RM,Uv,Ua,NH,Qe,Tv,HK,En,Ca,HW,zd,Om,BF,Mk,LH,S4,Mc,JP,Iq,Qc,Nk,Xk,XG,wL,Mq,M9,AK,LY,Ut,JN,C2,BU,BO,yq,CR,HS,Dw,HN,Ni,HV,Qq,Of,UM,Ye,Sx,HF,B1,Ia,uY,JA,w3,Oa,Sg,Qn,Be,LJ,HC,U7,yG,zc,IB,wM,tZ,Dl,Hz,rT,wO,zI,ET,Sa,yR,PQ]
noncomputable def tU(f:Fn):bc:=ZO.getD f RM
noncomputable def xS:Nat->Fn->List AV->MM AV
 |0,_,_=>MM.bad
 |d+1,f,args=>Ow (xS d) (tU f) args
open PySem.W PySem.Calls PyProof.Rows
noncomputable def strOf(s:S):Str:=⟨s.toArray⟩
structure Tab where
 bZ:bF->ax
 uv:Fn->ax
structure Gl where
 prog:fK
 w:ky
 T:Tab
 base:bt
noncomputable abbrev Gl.M(g:Gl):fY:=model g.prog g.w
noncomputable def XU:Bi->ai
 |.len=>.builtin "len"|.isinstance=>.builtin "isinstance"|.list=>.type "list"|.str=>.type "str"|.int=>.type "int"|.bool=>.type "bool"|.dict=>.type "dict"
 |.ord=>.builtin "ord"|.sorted=>.builtin "sorted"|.sum=>.builtin "sum"|.min=>.builtin "min"
noncomputable abbrev Ad:=List (ax×ax)
theorem mm{α:Type}{as bs:List α}(h:as<+:bs){i:Nat}{x:α}(e:as[i]?=some x):bs[i]?=some x:=h.elim λ_ q=>q▸(bk (aq.mp e).1).trans e
noncomputable def VR(T:Tab)(ad:Ad):AV->ai->Prop
 |.none,v=>v=.none
 |.bool b,v=>v=.bool b
 |.int i,v=>∃t,v=.int i t
 |.str s,v=>∃t,v=.str (strOf s) t
 |.ref l,v=>∃p,ad[l]?=some p/\v=.ref p.1
 |.cls c,v=>v=.ref (T.bZ c)
 |.fn f,v=>v=.ref (T.uv f)
 |.bi b,v=>v=XU b
theorem VR.mono{T:Tab}{ad ad':Ad}(x:ad<+:ad'){a:AV}{v:ai}(h:VR T ad a v):VR T ad' a v:=by
 cases a with
 |ref l=>exact h.elim λp q=>⟨p,mm x q.1,q.2⟩
 |_=>exact h
noncomputable abbrev eJ(T:Tab)(ad:Ad)(as:List AV)(vs:List ai):Prop:=bq (VR T ad) as vs
theorem eJ.mono{T:Tab}{ad ad':Ad}(x:ad<+:ad'){as:List AV}{vs:List ai}(h:eJ T ad as vs):eJ T ad' as vs:=h.imp λ_ _ y=>y.mono x
noncomputable def keyHash(w:ky):AV->Int
 |.int i=>hashInt i
 |.str s=>hashStr w (strOf s)
 |_=>0
noncomputable def Eb(v:ai)(f:Int->Bool):Bool:=if h:v.ctorIdx=4 then tE (motive:=λ_=>Bool) v h λj _=>f j else false
noncomputable def MB(v:ai)(f:Str->Bool):Bool:=if h:v.ctorIdx=6 then tF (motive:=λ_=>Bool) v h λj _=>f j else false
theorem yN{p:Prop}[Decidable p]{g:p->Bool}(h:(if e:p then g e else false)=true):∃e,g e=true:=if e:p then⟨e,(dif_pos e).symm.trans h⟩ else dX ((dif_neg e).symm.trans h)
@[elab_as_elim] theorem Ar {f:Int->Bool} {P:ai->Prop} {v:ai} (h:Eb v f=true) (k:∀j t,f j=true->P (.int j t)):P v:=(yN h).elim λe q=>
 tE (motive:=λv=>∀e:v.ctorIdx=4,tE (motive:=λ_=>Bool) v e (λj _=>f j)=true->P v) v e (λj t _ q=>k j t q) e q
@[elab_as_elim] theorem Me {f:Str->Bool} {P:ai->Prop} {v:ai} (h:MB v f=true) (k:∀j t,f j=true->P (.str j t)):P v:=(yN h).elim λe q=>
 tF (motive:=λv=>∀e:v.ctorIdx=6,tF (motive:=λ_=>Bool) v e (λj _=>f j)=true->P v) v e (λj t _ q=>k j t q) e q
noncomputable def mM(k:AV)(v:ai):Bool:=match k with
 |.int i=>Eb v λj=>i==j
 |.str s=>MB v λt=>t==strOf s
 |_=>false
theorem sJ{a b:S}(h:strOf a=strOf b):a=b:=congrArg (λx:Str=>x.cps.toList) h
theorem rM(s:S):(strOf s).cps.toList=s:=rfl
theorem zR(x:Str):strOf x.cps.toList=x:=rfl
theorem gW{P:AV->ai->Prop}(ki:∀i t,P (.int i) (.int i t))(ks:∀s t,P (.str s) (.str (strOf s) t)):∀{k:AV}{v:ai},mM k v=true->P k v
 |.int i,_,h=>Ar h λj t q=>eq_of_beq q▸ki i t
 |.str s,_,h=>Me h λx t q=>(eq_of_beq q).symm▸ks s t
 |.none,_,h=>dX (h:false=true)
 |.bool _,_,h=>dX (h:false=true)
 |.ref _,_,h=>dX (h:false=true)
 |.cls _,_,h=>dX (h:false=true)
 |.fn _,_,h=>dX (h:false=true)
 |.bi _,_,h=>dX (h:false=true)
theorem Hq(i:Int)(t:Tok):mM (.int i) (.int i t)=true:=beq_self_eq_true i
theorem Ih(s:S)(t:Tok):mM (.str s) (.str (strOf s) t)=true:=beq_self_eq_true (strOf s)
section
variable{prog:fK}{w:ky}{A:a7}{E:ai->ak->Prop}{s:ak}
theorem H8{a:Int}{y:Str}{t u:Tok}{Q:Bool->ak->Prop}(h:Q false s):wpAny (model prog w) A (eqBool (.int a t) (.str y u)) Q E s:=by
 unfold eqBool
 rw[if_neg (by simp)]
 exact aL (ag (Cz (eR h)))
theorem HH{a:Int}{y:Str}{t u:Tok}{Q:Bool->ak->Prop}(h:Q false s):wpAny (model prog w) A (eqBool (.str y u) (.int a t)) Q E s:=by
 unfold eqBool
 rw[if_neg (by simp)]
 exact aL (ag (CA (eR h)))
end
theorem Le{p q:Prop}[Decidable p][Decidable q](h:p↔q){Q:Bool->Prop}(x:Q (decide q)):Q (decide p):=decide_eq_decide.mpr h▸x
theorem LG{p:Prop}[Decidable p](h:¬p){Q:Bool->Prop}(x:Q (decide p)):Q false:=decide_eq_false h▸x
theorem Ws{v:ai}{b:AV}:∀{a:AV},mM a v=true->mM b v=true->a=b:=λ{a} h1 h2=>
 gW (P:=λa v=>mM b v=true->a=b) (λi t h=>gW (P:=λb v=>v=.int i t->AV.int i=b) (λ_ _ e=>congrArg AV.int (Value.int.inj e).1.symm) (λ_ _ e=>ry e) h rfl)
  (λs t h=>gW (P:=λb v=>v=.str (strOf s) t->AV.str s=b) (λ_ _ e=>ry e) (λ_ _ e=>congrArg AV.str (sJ (I9 e).1).symm) h rfl) h1 h2
noncomputable def cV(prog:fK)(w:ky):KeyKind prog w AV where
 is:=mM
 hash:=keyHash w
 inj:=λv a b h1 h2=>Ws h1 h2
 byValue:=λk v h=>gW (P:=λ_ v=>carriedByValue v=true) (λ_ _=>rfl) (λ_ _=>rfl) h
 pyHash:=λ{A E s k v Q} hv h=>gW (P:=λk v=>Q (keyHash w k) {s with toks:=s.toks+1}->wpAny (model prog w) A (PySem.pyHash v) Q E s) (λ_ _ h=>wpAny_pyHash_int h) (λ_ _ h=>wpAny_pyHash_str h) hv h
 eqBool:=λ{A E s a b u v Q} hu hv h=>gW (P:=λa u=>Q (decide (a=b)) s->wpAny (model prog w) A (Aa u v) Q E s)
  (λi t=>gW (P:=λb v=>Q (decide (AV.int i=b)) s->wpAny (model prog w) A (Aa (.int i t) v) Q E s) (λj u h=>wpAny_eqBool_int ((Bool.beq_eq_decide_eq i j).symm▸Le (Q:=λb=>Q b s) ⟨λe=>congrArg AV.int e,λe=>yA e⟩ h)) (λr u h=>H8 (LG (Q:=λb=>Q b s) (λe=>AV.noConfusion e) h)) hv)
  (λx t=>gW (P:=λb v=>Q (decide (AV.str x=b)) s->wpAny (model prog w) A (Aa (.str (strOf x) t) v) Q E s) (λj u h=>HH (LG (Q:=λb=>Q b s) (λe=>AV.noConfusion e) h)) (λr u h=>wpAny_eqBool_str (Le (Q:=λb=>Q b s) ⟨λe=>congrArg AV.str (sJ e),λe=>congrArg strOf (iX e)⟩ h)) hv) hu h
 «strs»:=λk x t v h=>gW (P:=λk u=>u=.str x t->mM k v=v.isStr x) (λ_ _ e=>ry e) (λs t' e=>(I9 e).1▸(by cases v<;>rfl)) h rfl
noncomputable def NO:List Str:=[aa "why",aa "name",aa "text",aa "code",aa "value",aa "previous",aa "holders",aa "types",aa "was_unset",aa "cls",aa "handle",aa "props",aa "data",aa "guards",aa "is_busy",aa "is_destructed",aa "is_packed",aa "keys",aa "vals",aa "heads",aa "nexts",aa "size",aa "count",aa "next",aa "at",aa "is_shared",aa "walks",aa "func",aa "this",aa "static",aa "vars",aa "args",aa "tools",aa "evals",aa "execs",aa "top",aa "frame",aa "notes",aa "silent",aa "parts",aa "buffers",aa "depth",aa "limit",aa "spent",aa "fuel",aa "handles",aa "classes",aa "functions",aa "constants",aa "autoload_order",aa "made",aa "is_strict"]
noncomputable def At.str(x:At):Str:=NO.getD x (aa "why")
theorem SG{P:Str→Bool}(h:NO.all P=true)(h0:P (aa "why")=true)(x:At):P x.str=true:=by
 unfold At.str
 rw[bG]
 cases e:NO[x]? with
 |none=>exact h0
 |some s=>exact aD.mp h s (av e)
structure FR(T:Tab)(ad:Ad)(p:At×AV)(d:dF):Prop where
 key:∃t,d.key=.str p.1.str t
 val:VR T ad p.2 d.val
theorem FR.mono{T:Tab}{ad ad':Ad}(x:ad<+:ad'){e:At×AV}{d:dF}(h:FR T ad e d):FR T ad' e d:=⟨h.1,h.2.mono x⟩
noncomputable def Vl(h:bt)(a:ax):Prop:=∃o,h.get? a=some o/\o.dict=none
structure DV(T:Tab)(ad:Ad)(e:AV×AV)(p:AV×ai):Prop where
 k:e.1=p.1
 is:isKey e.1=true
 v:VR T ad e.2 p.2
theorem DV.mono{T:Tab}{ad ad':Ad}(x:ad<+:ad'){e:AV×AV}{p:AV×ai}(h:DV T ad e p):DV T ad' e p:=⟨h.1,h.2,h.3.mono x⟩
section
variable(g:Gl)(h:bt)(ad:Ad)(a d:ax)
inductive dN(vs:List AV):Prop where
 |mk (xs:Array ai) (h1:h.IsList a xs) (h2:eJ g.T ad vs xs.toList) (h3:vs.length<=lim) (h4:Vl h a)
inductive TupAt(vs:List AV):Prop where
 |mk (xs:Array ai) (h1:IsTup h a xs) (h2:eJ g.T ad vs xs.toList) (h3:vs.length<=lim)
inductive g7(es:List (AV×AV)):Prop where
 |mk (kvs:List (AV×ai)) (h1:h.DictAt (cV g.prog g.w) a kvs kvs.length) (h2:bq (DV g.T ad) es kvs) (h3:es.length<=lim)
inductive NG(c:bF)(fs:List AV):Prop where
 |mk (xs:List dF) (n:Nat) (h1:h.get? d=some (dictOf xs n)) (h2:bq (FR g.T ad) (c.fields.zip fs) xs)
inductive RecAt(c:bF)(P:Array ai->Prop):Prop where
 |mk (vs:Array ai) (sl:Array (Option ai)) (h1:h.get? a=some ⟨.ref (g.T.bZ c),some d,.fields vs,sl⟩) (h2:6<=vs.size) (h3:P vs)
structure j3(c:bF)(fs:List AV):Prop where
 len:fs.length<=c.fields.length
 exc:c.isExc=true->RecAt g h a d c (λvs=>vs[1]?=some .none)
 obj:c.isExc=false->h.get? a=some (instObj (g.T.bZ c) d)
 fs:NG g h ad d c fs
structure xQ(c:bF)(fs:List AV):Prop where
 obj:RecAt g h a d c (λ_=>True)
 fs:NG g h ad d c fs
noncomputable def iH:aF->Prop
 |.list vs=>dN g h ad a vs
 |.tup vs=>TupAt g h ad a vs
 |.dict es=>g7 g h ad a es
 |.inst c fs=>j3 g h ad a d c fs
 |.iG c fs=>xQ g h ad a d c fs
end
theorem ft{P:Prop}(h:false=true):P:=dX h
theorem aX{α:Type}{o:Option α}{a:α}{P:Prop}(h:o=none)(e:o=some a):P:=(ja a (e.symm.trans h)).elim
theorem cu{α:Type}{o:Option α}{a b:α}(h:o=some a)(e:o=some b):a=b:=ae (h.symm.trans e)
noncomputable def own(ad:Ad)(b:ax):Prop:=∃p,p∈ad/\(b=p.1\/b=p.2)
section
variable{ad ad':Ad}{i:Nat}{p:ax×ax}{b:ax}
theorem own.l(h:ad[i]?=some p):own ad p.1:=⟨p,av h,.inl rfl⟩
theorem own.r(h:ad[i]?=some p):own ad p.2:=⟨p,av h,.inr rfl⟩
theorem own.mono(x:ad<+:ad')(h:own ad b):own ad' b:=h.elim λp q=>⟨p,x.subset q.1,q.2⟩
theorem own.app(h:own (ad++[p]) b):own ad b\/b=p.1\/b=p.2:=h.elim λq z=>(cp.mp z.1).elim (λy=>.inl ⟨q,y,z.2⟩) λy=>.inr (au.mp y▸z.2)
end
structure Pt where
 σ:Hp
 ad:Ad
 h:bt
noncomputable abbrev Pt.on(p:Pt)(s:ak)(tk:Nat):ak:={s with heap:=p.h,toks:=tk}
noncomputable def oY(h h':bt):Prop:=∀b o,h.get? b=some o->h'.get? b=some o
theorem oY.push(h:bt)(o:Obj):oY h (h.push o):=λ_ _ e=>aA _ e
section
variable{g:Gl}{h h':bt}{ad ad':Ad}{a d:ax}
theorem Vl.to(k:∀ob,h.get? a=some ob->h'.get? a=some ob)(x:Vl h a):Vl h' a:=x.elim λo q=>⟨o,k o q.1,q.2⟩
theorem NG.to{c:bF}{fs:List AV}(x:ad<+:ad')(k:∀ob,h.get? d=some ob->h'.get? d=some ob):NG g h ad d c fs->NG g h' ad' d c fs
 |⟨xs,n,r1,r2⟩=>⟨xs,n,k _ r1,r2.imp λ_ _ y=>y.mono x⟩
theorem RecAt.to{c:bF}{P:Array ai->Prop}(k:∀ob,h.get? a=some ob->h'.get? a=some ob):RecAt g h a d c P->RecAt g h' a d c P
 |⟨vs,sl,e,z,p⟩=>⟨vs,sl,k _ e,z,p⟩
theorem dN.to{vs:List AV}(x:ad<+:ad')(k:∀ob,h.get? a=some ob->h'.get? a=some ob):dN g h ad a vs->dN g h' ad' a vs
 |⟨xs,e,r,q,n⟩=>⟨xs,e.elim λo e=>⟨o,k _ e.1,e.2⟩,eJ.mono x r,q,n.to k⟩
theorem TupAt.to{vs:List AV}(x:ad<+:ad')(k:∀ob,h.get? a=some ob->h'.get? a=some ob):TupAt g h ad a vs->TupAt g h' ad' a vs
 |⟨xs,e,r,q⟩=>⟨xs,e.elim λo e=>⟨o,k _ e.1,e.2⟩,eJ.mono x r,q⟩
theorem g7.to{es:List (AV×AV)}(x:ad<+:ad')(k:∀ob,h.get? a=some ob->h'.get? a=some ob):g7 g h ad a es->g7 g h' ad' a es
 |⟨kvs,e,r,q⟩=>⟨kvs,e.elim λo e=>e.elim λes e=>⟨o,es,k _ e.1,e.2⟩,r.imp λ_ _ y=>y.mono x,q⟩
theorem iH.congr(x:ad<+:ad')(h1:∀ob,h.get? a=some ob->h'.get? a=some ob)(h2:∀ob,h.get? d=some ob->h'.get? d=some ob):∀{o:aF},iH g h ad a d o->iH g h' ad' a d o
 |.list _,H=>dN.to x h1 H
 |.tup _,H=>TupAt.to x h1 H
 |.dict _,H=>g7.to x h1 H
 |.inst _ _,H=>⟨H.1,λhc=>(H.2 hc).to h1,λhc=>h1 _ (H.3 hc),H.4.to x h2⟩
 |.iG _ _,H=>⟨H.1.to h1,H.2.to x h2⟩
end
inductive vX(base:bt)(fr:List ax)(h:bt)(b:ax):Prop where
 |mk (h1:base.get? b=none) (h2:b∉fr) (o:Obj) (h3:h.get? b=some o)
theorem vX.b{base:bt}{fr:List ax}{h:bt}{b:ax}:vX base fr h b->base.get? b=none
 |⟨x,_,_,_⟩=>x
theorem vX.f{base:bt}{fr:List ax}{h:bt}{b:ax}:vX base fr h b->b∉fr
 |⟨_,x,_,_⟩=>x
theorem vX.o{base:bt}{fr:List ax}{h:bt}{b:ax}:vX base fr h b->∃o,h.get? b=some o
 |⟨_,_,_,x⟩=>⟨_,x⟩
inductive O4(base h:bt)(b:ax):Prop where
 |mk (h1:base.get? b=none) (o:Obj) (h2:h.get? b=some o) (h3:∀vs,o.data≠.fields vs)
theorem O4.b{base h:bt}{b:ax}:O4 base h b->base.get? b=none
 |⟨x,_,_,_⟩=>x
inductive Kept(X fr:List ax)(h':bt)(b:ax)(o:Obj):Prop where
 |mk (o':Obj) (e:h'.get? b=some o') (k:b∉X->(∃sl,o'={o with slots:=sl})/\(b∉fr->o'=o))
theorem Kept.same{X fr:List ax}{h':bt}{b:ax}{o:Obj}(e:h'.get? b=some o):Kept X fr h' b o:=⟨o,e,λ_=>⟨⟨o.slots,rfl⟩,λ_=>rfl⟩⟩
theorem Kept.is{X fr:List ax}{h':bt}{b:ax}{o:Obj}:Kept X fr h' b o->∃o',h'.get? b=some o'
 |⟨_,e,_⟩=>⟨_,e⟩
theorem Kept.touched{X fr:List ax}{h':bt}{b:ax}{o:Obj}(hX:b∈X):(∃o',h'.get? b=some o')->Kept X fr h' b o
 |⟨o',e⟩=>⟨o',e,λn=>(n hX).elim⟩
noncomputable def Apart(p p':ax×ax):Prop:=(p.1≠p'.1/\p.1≠p'.2)/\p.2≠p'.1/\p.2≠p'.2
structure Inv(g:Gl)(fr:List ax)(p:Pt):Prop where
 len:p.ad.length=p.σ.length
 objs:∀(l:Nat)(o:aF),p.σ[l]?=some o->∀q,p.ad[l]?=some q->iH g p.h p.ad q.1 q.2 o
 wQ:∀(l l':Nat)(q q':ax×ax),p.ad[l]?=some q->p.ad[l']?=some q'->l≠l'->Apart q q'
 off:∀b,own p.ad b->vX g.base fr p.h b
 stays:oY g.base p.h
 MI:∀b,b∈fr->O4 g.base p.h b
structure iM(X fr:List ax)(p p':Pt):Prop where
 ext:p.ad<+:p'.ad
 kp:∀b o,p.h.get? b=some o->¬own p.ad b->Kept X fr p'.h b o
 new:∀b,own p'.ad b->own p.ad b\/p.h.get? b=none
structure gH(g:Gl)(X fr:List ax)(p p':Pt):Prop where
 I:Inv g fr p'
 S:iM X fr p p'
section
variable{X Y fr:List ax}{p p' p'':Pt}
theorem iM.of_keeps{σ':Hp}{h':bt}(k:oY p.h h'):iM X fr p ⟨σ',p.ad,h'⟩:=⟨cM _,λb o e _=>.same (k b o e),λ_ x=>.inl x⟩
theorem iM.refl:iM X fr p p:=.of_keeps λ_ _ e=>e
theorem iM.off(x:iM X fr p p'){b:ax}{o:Obj}(e:p.h.get? b=some o)(n:¬own p.ad b):¬own p'.ad b:=λq=>(x.new b q).elim n λz=>aX z e
theorem iM.fresh(x:iM X fr p p'){b:ax}(n:p'.h.get? b=none)(q:¬own p.ad b):p.h.get? b=none:=match e:p.h.get? b with
 |none=>rfl
 |some o=>(x.kp b o e q).is.elim λ_ e'=>aX n e'
theorem iM.trans(x:iM X fr p p')(y:iM X fr p' p''):iM X fr p p'':=
 ⟨x.ext.trans y.ext,λb o e n=>match x.kp b o e n with
  |⟨o',e',k⟩=>match y.kp b o' e' (x.off e n) with
   |⟨o'',e'',k'⟩=>⟨o'',e'',λhX=>⟨(k hX).1.elim λ_ q=>(k' hX).1.elim λsl' q'=>⟨sl',q'.trans (congrArg (λo:Obj=>{o with slots:=sl'}) q)⟩,λhf=>((k' hX).2 hf).trans ((k hX).2 hf)⟩⟩,
 λb hb=>(y.new b hb).elim (x.new b) λq=>(Jl (own p.ad b)).imp id (x.fresh q)⟩
theorem iM.mono(x:iM X fr p p')(k:∀b∈X,b∈Y):iM Y fr p p':=
 ⟨x.ext,λb o e n=>match x.kp b o e n with|⟨o',e',q⟩=>⟨o',e',λz=>q λzz=>z (k b zz)⟩,x.new⟩
theorem iM.of0(x:iM [] fr p p'):iM X fr p p':=x.mono λ_ q=>nomatch q
theorem iM.keep(x:iM X fr p p'){b:ax}{o:Obj}(e:p.h.get? b=some o)(n:¬own p.ad b)(nX:b∉X)(nf:b∉fr):p'.h.get? b=some o:=match x.kp b o e n with
 |⟨_,e',k⟩=>(k nX).2 nf▸e'
theorem iM.lQ{σ':Hp}{h':bt}{a:ax}(ha:own p.ad a)(k:cb a p.h h'):iM X fr p ⟨σ',p.ad,h'⟩:=
 ⟨cM _,λb o e n=>.same ((k.2 b λq=>n (q▸ha)).trans e),λ_ x=>.inl x⟩
theorem iM.Ug{σ':Hp}{h':bt}(k:oY p.h h'){a d:ax}(ha:p.h.get? a=none)(hd:p.h.get? d=none):iM X fr p ⟨σ',p.ad++[(a,d)],h'⟩:=
 ⟨bH _ _,λb o e _=>.same (k b o e),λ_ q=>q.app.imp id λq=>q.elim (λz=>z▸ha) λz=>z▸hd⟩
end
theorem cA(h:bt):h.get? h.objs.size=none:=match q:h.get? h.objs.size with
 |none=>rfl
 |some _=>absurd (dQ q) (dY _)
theorem kT{α:Type}{l:List α}{x:α}{i:Nat}{y:α}(h:(l++[x])[i]?=some y):l[i]?=some y\/(i=l.length/\y=x):=
 if q:i<l.length then .inl ((bk q).symm.trans h) else
  have e:=(cX (bp q)).symm.trans h
  match z:i - l.length,e with
  |0,e=>.inr ⟨jn (E4 z) (bp q),(ae e).symm⟩
theorem jt{α:Type}{l:List α}{x:α}:(l++[x]).length=l.length+1:=aw
theorem O8{α:Type}{l:List α}{x:α}:(l++[x])[l.length]?=some x:=cc
theorem F8{σ:Hp}{l l':Nat}{o o':aF}(e:(σ.set l o)[l']?=some o'):(l'=l/\o'=o)\/(l'≠l/\σ[l']?=some o'):=
 if q:l=l' then .inl ⟨q.symm,by subst q;exact(cu (a9 (aQ▸(aq.mp e).1)) e).symm⟩ else .inr ⟨λz=>q z.symm,(bS q).symm.trans e⟩
section
variable{g:Gl}{fr X:List ax}{p:Pt}{h':bt}
theorem iH.cast{h:bt}{ad:Ad}{a d:ax}{q:ax×ax}{o o':aF}(e:q=(a,d))(z:o'=o)(H:iH g h ad a d o):iH g h ad q.1 q.2 o':=by subst e z;exact H
theorem Inv.BA(I:Inv g fr p)(k:∀b o,p.h.get? b=some o->own p.ad b\/(∃o',g.base.get? b=some o')->h'.get? b=some o)
  (kf:∀b∈fr,∀o,p.h.get? b=some o->(∀vs,o.data≠.fields vs)->∃o',h'.get? b=some o'/\∀vs,o'.data≠.fields vs):Inv g fr ⟨p.σ,p.ad,h'⟩:=
 ⟨I.len,λl o e p hp=>(I.objs l o e p hp).congr (cM _) (λ_ q=>k _ _ q (.inl (own.l hp))) (λ_ q=>k _ _ q (.inl (own.r hp))),I.wQ,
  λb hb=>match I.off b hb with|⟨h1,h2,o,h3⟩=>⟨h1,h2,o,k b o h3 (.inl hb)⟩,λb o e=>k b o (I.stays b o e) (.inr ⟨o,e⟩),
  λb hb=>match I.MI b hb with|⟨h1,o,h2,h3⟩=>(kf b hb o h2 h3).elim λo' q=>⟨h1,o',q.1,q.2⟩⟩
theorem Inv.keeps(I:Inv g fr p)(k:oY p.h h'):Inv g fr ⟨p.σ,p.ad,h'⟩:=
 I.BA (λb o e _=>k b o e) λb _ o e q=>⟨o,k b o e,q⟩
theorem Inv.sameBut(I:Inv g fr p){a:ax}(hs:cb a p.h h')(ho:¬own p.ad a)(hb:g.base.get? a=none)(hf:a∉fr):Inv g fr ⟨p.σ,p.ad,h'⟩:=
 I.BA (λb o e q=>(hs.2 b λz=>q.elim (λq=>ho (z▸q)) λq=>q.elim λo' q=>aX hb (z▸q)).trans e) λb hb' o e q=>⟨o,(hs.2 b λz=>hf (z▸hb')).trans e,q⟩
theorem Inv.fresh(I:Inv g fr p){a:ax}(e:p.h.get? a=none):¬own p.ad a/\g.base.get? a=none/\a∉fr:=
 ⟨λq=>(I.off a q).o.elim λ_ z=>aX e z,match q:g.base.get? a with|none=>rfl|some o=>aX e (I.stays a o q),λq=>match I.MI a q with|⟨_,_,z,_⟩=>aX e z⟩
theorem Inv.Pg(I:Inv g fr p)(k:oY p.h h'){a d:ax}{o:aF}(fa:¬own p.ad a/\g.base.get? a=none/\a∉fr)(fd:¬own p.ad d/\g.base.get? d=none/\d∉fr)(ha':∃ob,h'.get? a=some ob)(hd':∃ob,h'.get? d=some ob)
  (H:iH g h' (p.ad++[(a,d)]) a d o):Inv g fr ⟨p.σ++[o],p.ad++[(a,d)],h'⟩:=
 have far:∀{l:Nat}{q:ax×ax},p.ad[l]?=some q->(q.1≠a/\q.1≠d)/\q.2≠a/\q.2≠d:=λhp=>
   ⟨⟨λq=>fa.1 (q▸own.l hp),λq=>fd.1 (q▸own.l hp)⟩,λq=>fa.1 (q▸own.r hp),λq=>fd.1 (q▸own.r hp)⟩
 ⟨jt.trans ((congrArg (·+1) I.len).trans jt.symm),λl o' e q hp=>(kT hp).elim
   (λhp=>(kT e).elim (λe=>(I.objs l o' e q hp).congr (bH _ _) (λob q=>k _ _ q) λob q=>k _ _ q) λz=>absurd (aq.mp hp).1 (I.len▸z.1▸dY _))
   (λz=>(kT e).elim (λe=>absurd (aq.mp e).1 (I.len▸z.1▸dY _)) λy=>H.cast z.2 y.2),
  λl l' q q' hp hp' hne=>(kT hp).elim
   (λhp=>(kT hp').elim (λhp'=>I.wQ l l' q q' hp hp' hne) λz=>z.2▸far hp)
   (λy=>(kT hp').elim (λhp'=>y.2▸have f:=far hp';⟨⟨f.1.1.symm,f.2.1.symm⟩,f.1.2.symm,f.2.2.symm⟩) λz=>absurd (y.1.trans z.1.symm) hne),
  λb hb=>hb.app.elim (λhb=>match I.off b hb with|⟨h1,h2,o,h3⟩=>⟨h1,h2,o,k b o h3⟩) λq=>q.elim (λq=>q▸ha'.elim λo z=>⟨fa.2.1,fa.2.2,o,z⟩) λq=>q▸hd'.elim λo z=>⟨fd.2.1,fd.2.2,o,z⟩,
  λb o e=>k b o (I.stays b o e),λb hb=>match I.MI b hb with|⟨h1,o,h2,h3⟩=>⟨h1,o,k b o h2,h3⟩⟩
theorem Inv.new(I:Inv g fr p)(k:oY p.h h'){a d:ax}{o:aF}(ha:p.h.get? a=none)(hd:p.h.get? d=none)(ha':∃ob,h'.get? a=some ob)(hd':∃ob,h'.get? d=some ob)
  (H:iH g h' (p.ad++[(a,d)]) a d o):Inv g fr ⟨p.σ++[o],p.ad++[(a,d)],h'⟩:=I.Pg k (I.fresh ha) (I.fresh hd) ha' hd' H
theorem Inv.upd(I:Inv g fr p){l:Nat}{q:ax×ax}{o:aF}{a:ax}(hp:p.ad[l]?=some q)(ha:a=q.1\/a=q.2)(hs:cb a p.h h')(hx:∃ob,h'.get? a=some ob)
  (H:iH g h' p.ad q.1 q.2 o):Inv g fr ⟨p.σ.set l o,p.ad,h'⟩:=
 have oa:own p.ad a:=ha.elim (λq=>q▸own.l hp) λq=>q▸own.r hp
 have fa:=I.off a oa
 ⟨I.len.trans (aQ).symm,λl' o' e p' hp'=>(F8 e).elim (λz=>iH.cast (cu hp (z.1▸hp')).symm z.2 H) λz=>
   have dj:=I.wQ l l' q p' hp hp' z.1.symm
   (I.objs l' o' z.2 p' hp').congr (cM _) (λob q=>(hs.2 _ λq=>ha.elim (λz=>dj.1.1 (z.symm.trans q.symm)) λz=>dj.2.1 (z.symm.trans q.symm)).trans q) λob q=>(hs.2 _ λq=>ha.elim (λz=>dj.1.2 (z.symm.trans q.symm)) λz=>dj.2.2 (z.symm.trans q.symm)).trans q,
  I.wQ,λb hb=>match I.off b hb with|⟨h1,h2,ob,h3⟩=>if q:b=a then hx.elim λo z=>⟨h1,h2,o,q▸z⟩ else⟨h1,h2,ob,(hs.2 b q).trans h3⟩,
  λb o e=>(hs.2 b λq=>aX fa.b (q▸e)).trans (I.stays b o e),λb hb=>match I.MI b hb with|⟨h1,ob,h2,h3⟩=>⟨h1,ob,(hs.2 b λq=>fa.f (q▸hb)).trans h2,h3⟩⟩
end
section
variable{g:Gl}{fr X Y:List ax}{p p' p'':Pt}
theorem gH.refl(I:Inv g fr p):gH g X fr p p:=⟨I,.refl⟩
theorem gH.trans(x:gH g X fr p p')(y:gH g X fr p' p''):gH g X fr p p'':=⟨y.I,x.S.trans y.S⟩
theorem gH.mono(x:gH g X fr p p')(k:∀b∈X,b∈Y):gH g Y fr p p':=⟨x.I,x.S.mono k⟩
theorem gH.of0(x:gH g [] fr p p'):gH g X fr p p':=⟨x.I,x.S.of0⟩
theorem gH.keeps(I:Inv g fr p){h':bt}(k:oY p.h h'):gH g X fr p ⟨p.σ,p.ad,h'⟩:=⟨I.keeps k,.of_keeps k⟩
theorem gH.new(I:Inv g fr p){h':bt}(k:oY p.h h'){a d:ax}{o:aF}(ha:p.h.get? a=none)(hd:p.h.get? d=none)(ha':∃ob,h'.get? a=some ob)(hd':∃ob,h'.get? d=some ob)
  (H:iH g h' (p.ad++[(a,d)]) a d o):gH g X fr p ⟨p.σ++[o],p.ad++[(a,d)],h'⟩:=⟨I.new k ha hd ha' hd' H,.Ug k ha hd⟩
theorem lT(I:Inv g fr p)(q:ax×ax):VR g.T (p.ad++[q]) (.ref p.σ.length) (.ref q.1):=⟨q,I.len▸O8,rfl⟩
end
inductive uE(base:bt)(fr:List ax)(h₀:bt)(p:Pt)(v:Option ai)(fl:ai->Prop):Prop where
 |mk (t:ax) (ot:Obj) (ts:Array ai) (f:ai) (q1:v=some (.ref t)) (q2:¬own p.ad t) (q3:t∉fr) (q4:base.get? t=none) (q5:h₀.get? t=none) (q6:p.h.get? t=some ot) (q7:ot.data=.fields ts) (q8:ts[3]?=some f) (q9:fl f)
inductive Tb(base:bt)(fr:List ax)(h₀:bt)(p:Pt)(a:ax)(fl:ai->Prop):Prop where
 |mk (c:ai) (d:Option ax) (vs:Array ai) (sl:Array (Option ai)) (h1:p.h.get? a=some ⟨c,d,.fields vs,sl⟩) (h2:6<=vs.size) (h3:vs[1]?=some .none\/uE base fr h₀ p vs[1]? fl)
inductive Flew(p:Pt)(e:Nat)(a:ax):Prop where
 |mk (d:ax) (h1:p.ad[e]?=some (a,d)) (c:bF) (fs:List AV) (h2:p.σ[e]?=some (.iG c fs))
structure KR(g:Gl)(X fr:List ax)(fl:ai->Prop)(p:Pt)(e:Nat)(p':Pt)(a:ax):Prop where
 af:gH g X fr p p'
 f:Flew p' e a
 t:Tb g.base fr p.h p' a fl
noncomputable def EC(g:Gl)(X fr:List ax)(fl:ai->Prop)(s:ak)(p:Pt)(Er:Nat->Hp->Prop)(E:ai->ak->Prop):Prop:=∀e p' tk a,Er e p'.σ->KR g X fr fl p e p' a->E (.ref a) (p'.on s tk)
noncomputable def KC(g:Gl)(X fr:List ax){α β:Type}(V:Pt->α->β->Prop)(s:ak)(p:Pt)(Q:α->Hp->Prop)(K:β->ak->Prop):Prop:=∀v u p' tk,Q v p'.σ->gH g X fr p p'->V p' v u->K u (p'.on s tk)
noncomputable abbrev VV(g:Gl):Pt->AV->ai->Prop:=λp v u=>VR g.T p.ad v u
noncomputable abbrev VVs(g:Gl):Pt->List AV->List ai->Prop:=λp v u=>eJ g.T p.ad v u
noncomputable abbrev VE{α:Type}:Pt->α->α->Prop:=λ_ v u=>v=u
section
variable{g:Gl}{fr X Y:List ax}{p p₁ p':Pt}{fl fl':ai->Prop}
theorem uE.from{a:Option ai}(S:iM X fr p p₁)(x:p₁.ad<+:p'.ad)(k:∀v,fl v->fl' v):uE g.base fr p₁.h p' a fl->uE g.base fr p.h p' a fl'
 |⟨t,ot,ts,f,q1,q2,q3,q4,q5,q6,q7,q8,q9⟩=>⟨t,ot,ts,f,q1,q2,q3,q4,S.fresh q5 λz=>q2 (z.mono (S.ext.trans x)),q6,q7,q8,k _ q9⟩
theorem Tb.from{a:ax}(S:iM X fr p p₁)(x:p₁.ad<+:p'.ad)(k:∀v,fl v->fl' v):Tb g.base fr p₁.h p' a fl->Tb g.base fr p.h p' a fl'
 |⟨c,d,vs,sl,h1,h2,h3⟩=>⟨c,d,vs,sl,h1,h2,h3.imp id λq=>q.from S x k⟩
theorem KR.from{e:Nat}{a:ax}(S:iM X fr p p₁)(o:KR g X fr fl p₁ e p' a):KR g X fr fl p e p' a:=⟨⟨o.af.I,S.trans o.af.S⟩,o.f,o.t.from S o.af.S.ext λ_ z=>z⟩
theorem KR.of0{e:Nat}{a:ax}(o:KR g [] fr fl p e p' a):KR g X fr fl p e p' a:=⟨o.af.of0,o.f,o.t⟩
variable{s:ak}{Er:Nat->Hp->Prop}{E:ai->ak->Prop}
theorem EC.on(k:EC g X fr fl s p Er E)(S:iM X fr p p₁):EC g X fr fl s p₁ Er E:=λe p' tk a q o=>k e p' tk a q (o.from S)
theorem EC.N0(k:EC g X fr fl s p Er E):EC g [] fr fl s p Er E:=λe p' tk a q o=>k e p' tk a q o.of0
end
noncomputable def bg:List Str->Str->Option Nat
 |[],_=>none
 |y::r,x=>match bg r x with
  |some i=>some (i+1)
  |none=>if y=x then some 0 else none
noncomputable def W0:List Str:=[aa "law",aa "_law_kept",aa "_law_draw",aa "_law_frame",aa "_law_names",aa "hold",aa "__init__",aa "__init__",aa "__init__",aa "__init__",aa "_law_cells_right",aa "deref",aa "_law_pack_right",aa "_law_things",aa "_law_packed",aa "kind",aa "_law_value",aa "list_of",aa "__init__",aa "least",aa "append",aa "has",aa "add",aa "takes_packed",aa "to_hash",aa "rehash",aa "many_ahead",aa "chains",aa "link",aa "hash_of",aa "is_living",aa "add_packed",aa "add_hashed",aa "__init__",aa "greatest",aa "compact_action",aa "pack_name",aa "entries",aa "marked",aa "slots_of",aa "key_at",aa "given",aa "warn",aa "put",aa "find",aa "text_key",aa "key_number",aa "is_digit",aa "digits_behind",aa "signed",aa "digits_value",aa "taken",aa "_law_seen",aa "_law_pairs",aa "from_pairs",aa "_law_is_name",aa "_law_refused",aa "_law_goal",aa "_law_taken_apart",aa "_law_apart_right",aa "extract_action",aa "extract_sort",aa "extracted_name",aa "prop_name",aa "int_text",aa "is_variable_name",aa "is_name_start",aa "is_name_sign",aa "assigned",aa "_law_back",aa "value_error",aa "error"]
noncomputable def Fn.dW(f:Fn):Str:=W0.getD f (aa "law")
noncomputable def bF.dW:bF->Str
 |.iF=>aa "PhpFault"|.leftOut=>aa "LeftOut"|.jY=>aa "Misused"|.thrown=>aa "Thrown"|.ref=>aa "Ref"|.absent=>aa "Absent"
 |.obj=>aa "Obj"|.arr=>aa "Arr"|.frame=>aa "Frame"|.host=>aa "Host"
noncomputable def Bi.dW:Bi->Str
 |.len=>aa "len"|.isinstance=>aa "isinstance"|.list=>aa "list"|.str=>aa "str"|.int=>aa "int"|.bool=>aa "bool"|.dict=>aa "dict"
 |.ord=>aa "ord"|.sorted=>aa "sorted"|.sum=>aa "sum"|.min=>aa "min"
noncomputable def vO:AV->Option Str
 |.fn f=>some f.dW
 |.cls c=>some c.dW
 |.bi b=>some b.dW
 |_=>none
noncomputable def qK:AV->Bool
 |.fn f=>!jO f [.yx,.u3,.sF,.zg,.qJ,.pV,.append,.has,.BN,.warn,.put,.find]
 |.cls _|.bi _=>true
 |_=>false
noncomputable def zf:Op->CB
 |.add=>.Add|.sub=>.Sub|.mul=>.Mult|.floordiv=>.FloorDiv|.mod=>.Mod|.pow=>.Pow|.shr=>.RShift|.sA=>.BitAnd|.AW=>.BitOr
noncomputable def k6:oH->CmpOp
 |.eq=>.Eq|.ne=>.NotEq|.lt=>.Lt|.le=>.LtE|.gt=>.Gt|.ge=>.GtE|.is=>.Is|.qD=>.IsNot|.GP=>.In|.o8=>.NotIn
noncomputable abbrev Ks:=List (Str×oR)
noncomputable def w4(ks ks':Ks):Ks:=ks'.map λp=>if p.2=.free/\ks.lookup p.1=some .cell then(p.1,.cell) else p
noncomputable def Cu(x:az)(i:Nat)(g:x.ctorIdx=i->Bool):Bool:=if h:x.ctorIdx=i then g h else false
theorem jB{x:az}{i:Nat}{g:x.ctorIdx=i->Bool}(h:Cu x i g=true):∃e,g e=true:=if e:x.ctorIdx=i then⟨e,(dif_pos e).symm.trans h⟩ else ft ((dif_neg e).symm.trans h)
noncomputable def Kc(x:az)(f:BoolOp->(List az)->Bool):Bool:=Cu x 0 λh=>pA (motive_1:=λ_=>Bool) x h (λa0 a1 _=>f a0 a1)
@[elab_as_elim] theorem uj {f:BoolOp->(List az)->Bool} {P:az->Prop} {x:az} (h:Kc x f=true) (k:∀a0 a1 a2,f a0 a1=true->P (Expr.BoolOp a0 a1 a2)):P x:=(jB h).elim λe q=>pA (motive_1:=λx=>∀e:x.ctorIdx=0,pA (motive_1:=λ_=>Bool) x e (λa0 a1 _=>f a0 a1)=true->P x) x e (λa0 a1 a2 _ q=>k a0 a1 a2 q) e q
noncomputable def QD(x:az)(f:az->CB->az->Bool):Bool:=Cu x 2 λh=>qX (motive_1:=λ_=>Bool) x h (λa0 a1 a2 _=>f a0 a1 a2)
@[elab_as_elim] theorem FK {f:az->CB->az->Bool} {P:az->Prop} {x:az} (h:QD x f=true) (k:∀a0 a1 a2 a3,f a0 a1 a2=true->P (Expr.BinOp a0 a1 a2 a3)):P x:=(jB h).elim λe q=>qX (motive_1:=λx=>∀e:x.ctorIdx=2,qX (motive_1:=λ_=>Bool) x e (λa0 a1 a2 _=>f a0 a1 a2)=true->P x) x e (λa0 a1 a2 a3 _ q=>k a0 a1 a2 a3 q) e q
noncomputable def R3(x:az)(f:UnaryOp->az->Bool):Bool:=Cu x 3 λh=>om (motive_1:=λ_=>Bool) x h (λa0 a1 _=>f a0 a1)
@[elab_as_elim] theorem yu {f:UnaryOp->az->Bool} {P:az->Prop} {x:az} (h:R3 x f=true) (k:∀a0 a1 a2,f a0 a1=true->P (Expr.UnaryOp a0 a1 a2)):P x:=(jB h).elim λe q=>om (motive_1:=λx=>∀e:x.ctorIdx=3,om (motive_1:=λ_=>Bool) x e (λa0 a1 _=>f a0 a1)=true->P x) x e (λa0 a1 a2 _ q=>k a0 a1 a2 q) e q
noncomputable def RK(x:az)(f:az->az->az->Bool):Bool:=Cu x 5 λh=>qY (motive_1:=λ_=>Bool) x h (λa0 a1 a2 _=>f a0 a1 a2)
@[elab_as_elim] theorem Fu {f:az->az->az->Bool} {P:az->Prop} {x:az} (h:RK x f=true) (k:∀a0 a1 a2 a3,f a0 a1 a2=true->P (Expr.IfExp a0 a1 a2 a3)):P x:=(jB h).elim λe q=>qY (motive_1:=λx=>∀e:x.ctorIdx=5,qY (motive_1:=λ_=>Bool) x e (λa0 a1 a2 _=>f a0 a1 a2)=true->P x) x e (λa0 a1 a2 a3 _ q=>k a0 a1 a2 a3 q) e q
noncomputable def QU(x:az)(f:(List (Option az))->(List az)->Bool):Bool:=Cu x 6 λh=>tG (motive_1:=λ_=>Bool) x h (λa0 a1 _=>f a0 a1)
@[elab_as_elim] theorem Fp {f:(List (Option az))->(List az)->Bool} {P:az->Prop} {x:az} (h:QU x f=true) (k:∀a0 a1 a2,f a0 a1=true->P (Expr.Dict a0 a1 a2)):P x:=(jB h).elim λe q=>tG (motive_1:=λx=>∀e:x.ctorIdx=6,tG (motive_1:=λ_=>Bool) x e (λa0 a1 _=>f a0 a1)=true->P x) x e (λa0 a1 a2 _ q=>k a0 a1 a2 q) e q
noncomputable def FJ(x:az)(f:az->(List G7)->rz->Bool):Bool:=Cu x 8 λh=>mT (motive_1:=λ_=>Bool) x h (λa0 a1 a2 _=>f a0 a1 a2)
@[elab_as_elim] theorem I1 {f:az->(List G7)->rz->Bool} {P:az->Prop} {x:az} (h:FJ x f=true) (k:∀a0 a1 a2 a3,f a0 a1 a2=true->P (Expr.ListComp a0 a1 a2 a3)):P x:=(jB h).elim λe q=>mT (motive_1:=λx=>∀e:x.ctorIdx=8,mT (motive_1:=λ_=>Bool) x e (λa0 a1 a2 _=>f a0 a1 a2)=true->P x) x e (λa0 a1 a2 a3 _ q=>k a0 a1 a2 a3 q) e q
noncomputable def L6(x:az)(f:az->(List CmpOp)->(List az)->Bool):Bool:=Cu x 15 λh=>oo (motive_1:=λ_=>Bool) x h (λa0 a1 a2 _=>f a0 a1 a2)
@[elab_as_elim] theorem uq {f:az->(List CmpOp)->(List az)->Bool} {P:az->Prop} {x:az} (h:L6 x f=true) (k:∀a0 a1 a2 a3,f a0 a1 a2=true->P (Expr.Compare a0 a1 a2 a3)):P x:=(jB h).elim λe q=>oo (motive_1:=λx=>∀e:x.ctorIdx=15,oo (motive_1:=λ_=>Bool) x e (λa0 a1 a2 _=>f a0 a1 a2)=true->P x) x e (λa0 a1 a2 a3 _ q=>k a0 a1 a2 a3 q) e q
noncomputable def kh(x:az)(f:az->(List az)->(List Keyword)->Pos->Bool):Bool:=Cu x 16 λh=>tH (motive_1:=λ_=>Bool) x h (λa0 a1 a2 a3=>f a0 a1 a2 a3)
@[elab_as_elim] theorem gO {f:az->(List az)->(List Keyword)->Pos->Bool} {P:az->Prop} {x:az} (h:kh x f=true) (k:∀a0 a1 a2 a3,f a0 a1 a2 a3=true->P (Expr.Call a0 a1 a2 a3)):P x:=(jB h).elim λe q=>tH (motive_1:=λx=>∀e:x.ctorIdx=16,tH (motive_1:=λ_=>Bool) x e (λa0 a1 a2 a3=>f a0 a1 a2 a3)=true->P x) x e (λa0 a1 a2 a3 _ q=>k a0 a1 a2 a3 q) e q
noncomputable def j2(x:az)(f:Const->Bool):Bool:=Cu x 19 λh=>mU (motive_1:=λ_=>Bool) x h (λa0 _ _=>f a0)
@[elab_as_elim] theorem ij {f:Const->Bool} {P:az->Prop} {x:az} (h:j2 x f=true) (k:∀a0 a1 a2,f a0=true->P (Expr.Constant a0 a1 a2)):P x:=(jB h).elim λe q=>mU (motive_1:=λx=>∀e:x.ctorIdx=19,mU (motive_1:=λ_=>Bool) x e (λa0 _ _=>f a0)=true->P x) x e (λa0 a1 a2 _ q=>k a0 a1 a2 q) e q
noncomputable def mJ(x:az)(f:az->Str->Pos->Bool):Bool:=Cu x 20 λh=>lG (motive_1:=λ_=>Bool) x h (λa0 a1 a2=>f a0 a1 a2)
@[elab_as_elim] theorem gy {f:az->Str->Pos->Bool} {P:az->Prop} {x:az} (h:mJ x f=true) (k:∀a0 a1 a2,f a0 a1 a2=true->P (Expr.Attribute a0 a1 a2)):P x:=(jB h).elim λe q=>lG (motive_1:=λx=>∀e:x.ctorIdx=20,lG (motive_1:=λ_=>Bool) x e (λa0 a1 a2=>f a0 a1 a2)=true->P x) x e (λa0 a1 a2 _ q=>k a0 a1 a2 q) e q
noncomputable def GN(x:az)(f:az->az->Bool):Bool:=Cu x 21 λh=>lH (motive_1:=λ_=>Bool) x h (λa0 a1 _=>f a0 a1)
@[elab_as_elim] theorem mf {f:az->az->Bool} {P:az->Prop} {x:az} (h:GN x f=true) (k:∀a0 a1 a2,f a0 a1=true->P (Expr.Subscript a0 a1 a2)):P x:=(jB h).elim λe q=>lH (motive_1:=λx=>∀e:x.ctorIdx=21,lH (motive_1:=λ_=>Bool) x e (λa0 a1 _=>f a0 a1)=true->P x) x e (λa0 a1 a2 _ q=>k a0 a1 a2 q) e q
noncomputable def eC(x:az)(f:Str->Bool):Bool:=Cu x 23 λh=>jb (motive_1:=λ_=>Bool) x h (λa0 _=>f a0)
@[elab_as_elim] theorem cG {f:Str->Bool} {P:az->Prop} {x:az} (h:eC x f=true) (k:∀a0 a1,f a0=true->P (Expr.Name a0 a1)):P x:=(jB h).elim λe q=>jb (motive_1:=λx=>∀e:x.ctorIdx=23,jb (motive_1:=λ_=>Bool) x e (λa0 _=>f a0)=true->P x) x e (λa0 a1 _ q=>k a0 a1 q) e q
noncomputable def Q8(x:az)(f:(List az)->Bool):Bool:=Cu x 24 λh=>tI (motive_1:=λ_=>Bool) x h (λa0 _=>f a0)
@[elab_as_elim] theorem F6 {f:(List az)->Bool} {P:az->Prop} {x:az} (h:Q8 x f=true) (k:∀a0 a1,f a0=true->P (Expr.List a0 a1)):P x:=(jB h).elim λe q=>tI (motive_1:=λx=>∀e:x.ctorIdx=24,tI (motive_1:=λ_=>Bool) x e (λa0 _=>f a0)=true->P x) x e (λa0 a1 _ q=>k a0 a1 q) e q
noncomputable def Gg(x:az)(f:(List az)->Bool):Bool:=Cu x 25 λh=>gi (motive_1:=λ_=>Bool) x h (λa0 _ _=>f a0)
@[elab_as_elim] theorem oQ {f:(List az)->Bool} {P:az->Prop} {x:az} (h:Gg x f=true) (k:∀a0 a1 a2,f a0=true->P (Expr.Tuple a0 a1 a2)):P x:=(jB h).elim λe q=>gi (motive_1:=λx=>∀e:x.ctorIdx=25,gi (motive_1:=λ_=>Bool) x e (λa0 _ _=>f a0)=true->P x) x e (λa0 a1 a2 _ q=>k a0 a1 a2 q) e q
noncomputable def Q2(x:az)(f:(Option az)->(Option az)->(Option az)->Bool):Bool:=Cu x 26 λh=>qZ (motive_1:=λ_=>Bool) x h (λa0 a1 a2 _=>f a0 a1 a2)
@[elab_as_elim] theorem Ge {f:(Option az)->(Option az)->(Option az)->Bool} {P:az->Prop} {x:az} (h:Q2 x f=true) (k:∀a0 a1 a2 a3,f a0 a1 a2=true->P (Expr.Slice a0 a1 a2 a3)):P x:=(jB h).elim λe q=>qZ (motive_1:=λx=>∀e:x.ctorIdx=26,qZ (motive_1:=λ_=>Bool) x e (λa0 a1 a2 _=>f a0 a1 a2)=true->P x) x e (λa0 a1 a2 a3 _ q=>k a0 a1 a2 a3 q) e q
noncomputable def vm(x:bT)(i:Nat)(g:x.ctorIdx=i->Bool):Bool:=if h:x.ctorIdx=i then g h else false
theorem ku{x:bT}{i:Nat}{g:x.ctorIdx=i->Bool}(h:vm x i g=true):∃e,g e=true:=if e:x.ctorIdx=i then⟨e,(dif_pos e).symm.trans h⟩ else ft ((dif_neg e).symm.trans h)
noncomputable def MA(x:bT)(f:(Option az)->Bool):Bool:=vm x 3 λh=>pB (motive_2:=λ_=>Bool) x h (λa0 _=>f a0)
@[elab_as_elim] theorem JG {f:(Option az)->Bool} {P:bT->Prop} {x:bT} (h:MA x f=true) (k:∀a0 a1,f a0=true->P (Stmt.Return a0 a1)):P x:=(ku h).elim λe q=>pB (motive_2:=λx=>∀e:x.ctorIdx=3,pB (motive_2:=λ_=>Bool) x e (λa0 _=>f a0)=true->P x) x e (λa0 a1 _ q=>k a0 a1 q) e q
noncomputable def rQ(x:bT)(f:(List az)->az->Bool):Bool:=vm x 5 λh=>pC (motive_2:=λ_=>Bool) x h (λa0 a1 _=>f a0 a1)
@[elab_as_elim] theorem k7 {f:(List az)->az->Bool} {P:bT->Prop} {x:bT} (h:rQ x f=true) (k:∀a0 a1 a2,f a0 a1=true->P (Stmt.Assign a0 a1 a2)):P x:=(ku h).elim λe q=>pC (motive_2:=λx=>∀e:x.ctorIdx=5,pC (motive_2:=λ_=>Bool) x e (λa0 a1 _=>f a0 a1)=true->P x) x e (λa0 a1 a2 _ q=>k a0 a1 a2 q) e q
noncomputable def EX(x:bT)(f:az->CB->az->Bool):Bool:=vm x 7 λh=>lI (motive_2:=λ_=>Bool) x h (λa0 a1 a2 _=>f a0 a1 a2)
@[elab_as_elim] theorem BJ {f:az->CB->az->Bool} {P:bT->Prop} {x:bT} (h:EX x f=true) (k:∀a0 a1 a2 a3,f a0 a1 a2=true->P (Stmt.AugAssign a0 a1 a2 a3)):P x:=(ku h).elim λe q=>lI (motive_2:=λx=>∀e:x.ctorIdx=7,lI (motive_2:=λ_=>Bool) x e (λa0 a1 a2 _=>f a0 a1 a2)=true->P x) x e (λa0 a1 a2 a3 _ q=>k a0 a1 a2 a3 q) e q
noncomputable def KD(x:bT)(f:az->az->(List bT)->(List bT)->Bool):Bool:=vm x 9 λh=>wd (motive_2:=λ_=>Bool) x h (λa0 a1 a2 a3 _=>f a0 a1 a2 a3)
@[elab_as_elim] theorem JM {f:az->az->(List bT)->(List bT)->Bool} {P:bT->Prop} {x:bT} (h:KD x f=true) (k:∀a0 a1 a2 a3 a4,f a0 a1 a2 a3=true->P (Stmt.For a0 a1 a2 a3 a4)):P x:=(ku h).elim λe q=>wd (motive_2:=λx=>∀e:x.ctorIdx=9,wd (motive_2:=λ_=>Bool) x e (λa0 a1 a2 a3 _=>f a0 a1 a2 a3)=true->P x) x e (λa0 a1 a2 a3 a4 _ q=>k a0 a1 a2 a3 a4 q) e q
noncomputable def Mf(x:bT)(f:az->(List bT)->(List bT)->Bool):Bool:=vm x 11 λh=>q0 (motive_2:=λ_=>Bool) x h (λa0 a1 a2 _=>f a0 a1 a2)
@[elab_as_elim] theorem Lb {f:az->(List bT)->(List bT)->Bool} {P:bT->Prop} {x:bT} (h:Mf x f=true) (k:∀a0 a1 a2 a3,f a0 a1 a2=true->P (Stmt.While a0 a1 a2 a3)):P x:=(ku h).elim λe q=>q0 (motive_2:=λx=>∀e:x.ctorIdx=11,q0 (motive_2:=λ_=>Bool) x e (λa0 a1 a2 _=>f a0 a1 a2)=true->P x) x e (λa0 a1 a2 a3 _ q=>k a0 a1 a2 a3 q) e q
noncomputable def RH(x:bT)(f:az->(List bT)->(List bT)->Bool):Bool:=vm x 12 λh=>x7 (motive_2:=λ_=>Bool) x h (λa0 a1 a2 _=>f a0 a1 a2)
@[elab_as_elim] theorem OL {f:az->(List bT)->(List bT)->Bool} {P:bT->Prop} {x:bT} (h:RH x f=true) (k:∀a0 a1 a2 a3,f a0 a1 a2=true->P (Stmt.If a0 a1 a2 a3)):P x:=(ku h).elim λe q=>x7 (motive_2:=λx=>∀e:x.ctorIdx=12,x7 (motive_2:=λ_=>Bool) x e (λa0 a1 a2 _=>f a0 a1 a2)=true->P x) x e (λa0 a1 a2 a3 _ q=>k a0 a1 a2 a3 q) e q
noncomputable def K8(x:bT)(f:(Option az)->(Option az)->Bool):Bool:=vm x 16 λh=>rg (motive_2:=λ_=>Bool) x h (λa0 a1 _=>f a0 a1)
@[elab_as_elim] theorem JC {f:(Option az)->(Option az)->Bool} {P:bT->Prop} {x:bT} (h:K8 x f=true) (k:∀a0 a1 a2,f a0 a1=true->P (Stmt.Raise a0 a1 a2)):P x:=(ku h).elim λe q=>rg (motive_2:=λx=>∀e:x.ctorIdx=16,rg (motive_2:=λ_=>Bool) x e (λa0 a1 _=>f a0 a1)=true->P x) x e (λa0 a1 a2 _ q=>k a0 a1 a2 q) e q
noncomputable def Mp(x:bT)(f:(List bT)->(List jL)->(List bT)->(List bT)->Bool):Bool:=vm x 17 λh=>we (motive_2:=λ_=>Bool) x h (λa0 a1 a2 a3 _=>f a0 a1 a2 a3)
@[elab_as_elim] theorem Nz {f:(List bT)->(List jL)->(List bT)->(List bT)->Bool} {P:bT->Prop} {x:bT} (h:Mp x f=true) (k:∀a0 a1 a2 a3 a4,f a0 a1 a2 a3=true->P (Stmt.Try a0 a1 a2 a3 a4)):P x:=(ku h).elim λe q=>we (motive_2:=λx=>∀e:x.ctorIdx=17,we (motive_2:=λ_=>Bool) x e (λa0 a1 a2 a3 _=>f a0 a1 a2 a3)=true->P x) x e (λa0 a1 a2 a3 a4 _ q=>k a0 a1 a2 a3 a4 q) e q
noncomputable def E3(x:bT)(f:az->Bool):Bool:=vm x 24 λh=>tJ (motive_2:=λ_=>Bool) x h (λa0 _=>f a0)
@[elab_as_elim] theorem Ay {f:az->Bool} {P:bT->Prop} {x:bT} (h:E3 x f=true) (k:∀a0 a1,f a0=true->P (Stmt.Expr a0 a1)):P x:=(ku h).elim λe q=>tJ (motive_2:=λx=>∀e:x.ctorIdx=24,tJ (motive_2:=λ_=>Bool) x e (λa0 _=>f a0)=true->P x) x e (λa0 a1 _ q=>k a0 a1 q) e q
noncomputable def Nq(x:bT)(b:Bool):Bool:=vm x 25 λh=>tK (motive_2:=λ_=>Bool) x h (λ_=>b)
@[elab_as_elim] theorem KN {b:Bool} {P:bT->Prop} {x:bT} (h:Nq x b=true) (k:∀a0,b=true->P (Stmt.Pass a0)):P x:=(ku h).elim λe q=>tK (motive_2:=λx=>∀e:x.ctorIdx=25,tK (motive_2:=λ_=>Bool) x e (λ_=>b)=true->P x) x e (λa0 _ q=>k a0 q) e q
noncomputable def Ct{α:Type}(xs:List α)(f:α->Bool):Bool:=match xs with|[]=>false|a::r=>match r with|[]=>f a|_::_=>false
@[elab_as_elim] theorem i7 {α:Type} {f:α->Bool} {P:List α->Prop}:∀{xs:List α},Ct xs f=true->(∀a,f a=true->P [a])->P xs
 |[_],h,k=>k _ h
 |[],h,_=>ft h
 |_::_::_,h,_=>ft h
noncomputable def SU{α:Type}(xs:List α)(f:α->α->Bool):Bool:=match xs with|[]=>false|a::r=>Ct r (f a)
@[elab_as_elim] theorem xM {α:Type} {f:α->α->Bool} {P:List α->Prop}:∀{xs:List α},SU xs f=true->(∀a b,f a b=true->P [a,b])->P xs
 |[],h,_=>ft h
 |a::r,h,k=>i7 (P:=λr=>P (a::r)) (xs:=r) h (k a)
noncomputable def rR{α:Type}(xs:List α)(b:Bool):Bool:=match xs with|[]=>b|_::_=>false
@[elab_as_elim] theorem gc {α:Type} {b:Bool} {P:List α->Prop}:∀{xs:List α},rR xs b=true->(b=true->P [])->P xs
 |[],h,k=>k h
 |_::_,h,_=>ft h
noncomputable def n0{α:Type}(xs:List α)(f:α->List α->Bool):Bool:=match xs with|[]=>false|a::r=>f a r
@[elab_as_elim] theorem iJ {α:Type} {f:α->List α->Bool} {P:List α->Prop}:∀{xs:List α},n0 xs f=true->(∀a r,f a r=true->P (a::r))->P xs
 |[],h,_=>ft h
 |_::_,h,k=>k _ _ h
noncomputable def jF{α:Type}(o:Option α)(f:α->Bool):Bool:=match o with|some a=>f a|none=>false
@[elab_as_elim] theorem kF {α:Type} {f:α->Bool} {P:Option α->Prop}:∀{o:Option α},jF o f=true->(∀a,f a=true->P (some a))->P o
 |some _,h,k=>k _ h
 |none,h,_=>ft h
noncomputable def vT{α:Type}(o:Option α)(b:Bool):Bool:=match o with|some _=>false|none=>b
@[elab_as_elim] theorem qx {α:Type} {b:Bool} {P:Option α->Prop}:∀{o:Option α},vT o b=true->(b=true->P none)->P o
 |some _,h,_=>ft h
 |none,h,k=>k h
theorem gX{a b:Bool}{P:Prop}(h:(a&&b)=true)(k:a=true->b=true->P):P:=match a,h with
 |true,h=>k rfl h
 |false,h=>ft h
theorem mx{a b c:Bool}{P:Prop}(h:(a&&(b&&c))=true)(k:a=true->b=true->c=true->P):P:=gX h λx h=>gX h (k x)
theorem xD{a b c d:Bool}{P:Prop}(h:(a&&(b&&(c&&d)))=true)(k:a=true->b=true->c=true->d=true->P):P:=gX h λx h=>mx h (k x)
theorem Za{a b c d e:Bool}{P:Prop}(h:(a&&(b&&(c&&(d&&e))))=true)(k:a=true->b=true->c=true->d=true->e=true->P):P:=gX h λx h=>xD h (k x)
theorem el6{a b c d e f:Bool}{P:Prop}(h:(a&&(b&&(c&&(d&&(e&&f)))))=true)(k:a=true->b=true->c=true->d=true->e=true->f=true->P):P:=gX h λx h=>Za h (k x)
theorem CP{a b:Bool}{P:Prop}(h:(a||b)=true)(k:a=true->P)(k':b=true->P):P:=match a,h with
 |true,_=>k rfl
 |false,h=>k' h
@[elab_as_elim] theorem LC {α:Type} [BEq α] [LawfulBEq α] {a:α} {P:α->Prop} {b:α} (h:(a==b)=true) (k:P a):P b:=eq_of_beq h▸k
@[elab_as_elim] theorem m6 {α:Type} [BEq α] [LawfulBEq α] {b:α} {P:α->Prop} {a:α} (h:(a==b)=true) (k:P b):P a:=eq_of_beq h▸k
theorem QQ{α:Type}[BEq α]{a b:α}(h:(a !=b)=true):(a==b)=false:=match e:a==b,h with
 |false,_=>rfl
 |true,h=>ft (((congrArg (!·) e).symm.trans h))
theorem cJ{b:Bool}(h:(!b)=true):b=false:=match b,h with
 |false,_=>rfl
 |true,h=>ft h
noncomputable def fT(x:az):Bool:=x.ctorIdx !=7
noncomputable def notStar(x:az):Bool:=x.ctorIdx !=22
noncomputable def notAttr(x:az):Bool:=x.ctorIdx !=20
noncomputable def kQ(x:az):Bool:=x.ctorIdx !=26
noncomputable def f9(x:az):Bool:=x.ctorIdx !=16
noncomputable def Po:E->Bool
 |.none=>true
 |_=>false
noncomputable def GK:It->az->Bool
 |.enum _,t=>t.ctorIdx==25
 |_,_=>true
noncomputable def nm(x:az):Str:=if h:x.ctorIdx=23 then jb (motive_1:=λ_=>Str) x h λy _=>y else aa ""
noncomputable def Dk(x:az):List az:=if h:x.ctorIdx=25 then gi (motive_1:=λ_=>List az) x h λts _ _=>ts else[]
noncomputable def pN(n:Nat)(t:az):List Str:=if n=1 then[nm t] else(Dk t).map nm
noncomputable def Ke(xs:List Str)(t:az):Bool:=n0 xs λx r=>match r with
 |[]=>eC t λa=>a==x
 |y::r=>rR r (Gg t λts=>SU ts λa b=>eC a λa=>eC b λb=>a==x&&(b==y&&x !=y))
noncomputable def kL(ks:Ks)(x:Str):Bool:=ks.lookup x==some .local||ks.lookup x==some .cell
noncomputable def kG(ks:Ks)(x:Str):Bool:=ks.lookup x==some .globalImplicit
noncomputable def sY(x:Str):Bool:=x !=aa "__debug__"
noncomputable def F5(ks ks':Ks)(ns xs:List Str):Bool:=xs.all (λx=>ks'.lookup x==some .local)&&(!(ns.contains (aa ".0"))&&ks'.all (λp=>p.2 !=.cell&&((p.2 !=.local||((xs.contains p.1||p.1==aa ".0")&&ks'.lookup p.1==some .local))&&(p.2 !=.free||(ks.lookup p.1==some .cell&&(bg ns p.1).isSome)))))
mutual
noncomputable def i8(ks:Ks)(ns:List Str):E->az->Bool
 |.none,x=>j2 x λc=>c==.none
 |.bool b,x=>j2 x λc=>c==.bool b
 |.int i,x=>j2 x λc=>c==.int i
 |.str s,x=>j2 x λc=>c==.str (strOf s)
 |.loc i,x=>eC x λy=>bg ns y==some i&&(kL ks y&&sY y)
 |.glob v,x=>eC x λy=>vO v==some y&&(qK v&&(kG ks y&&sY y))
 |.attr e y,x=>mJ x λv n _=>y.str==n&&(f9 v&&i8 ks ns e v)
 |.sub e i,x=>GN x λv t=>kQ t&&(i8 ks ns e v&&i8 ks ns i t)
 |.slice e lo hi st,x=>GN x λv t=>Q2 t λl u t=>i8 ks ns e v&&((match l with|some x=>i8 ks ns lo x|none=>Po lo)&&((match u with|some x=>i8 ks ns hi x|none=>Po hi)&&(match t with|some x=>i8 ks ns st x|none=>Po st)))
 |.call f args,x=>kh x λg as kw _=>rR kw (match f with|.glob v=>qK v&&(notAttr g&&(i8 ks ns f g&&(Ci ks ns args as&&decide (as.length<=20))))|_=>false)
 |.wZ o m args,x=>kh x λg as kw pp=>rR kw (mJ g λv n ap=>ap.endLine==pp.line&&(strOf m==n&&(f9 v&&(i8 ks ns o v&&(Ci ks ns args as&&decide (as.length<=20))))))
 |.bin op a b,x=>QD x λl o r=>zf op==o&&(i8 ks ns a l&&i8 ks ns b r)
 |.neg e,x=>R3 x λo y=>o==.USub&&i8 ks ns e y
 |.not e,x=>R3 x λo y=>o==.Not&&i8 ks ns e y
 |.cmp op a b,x=>L6 x λl os rs=>Ct os λo=>Ct rs λr=>k6 op==o&&(fT r&&(i8 ks ns a l&&i8 ks ns b r))
 |.r6 a o1 b o2 c,x=>L6 x λl os rs=>SU os λp1 p2=>SU rs λr1 r2=>k6 o1==p1&&(k6 o2==p2&&((fT r1&&fT r2)&&(i8 ks ns a l&&(i8 ks ns b r1&&i8 ks ns c r2))))
 |.and es,x=>Kc x λo vs=>o==.And&&Ci ks ns es vs
 |.or es,x=>Kc x λo vs=>o==.Or&&Ci ks ns es vs
 |.ite c t e,x=>RK x λc' t' e'=>i8 ks ns c c'&&(i8 ks ns t t'&&i8 ks ns e e')
 |.list es,x=>Q8 x λvs=>Ci ks ns es vs
 |.tup es,x=>Gg x λvs=>Ci ks ns es vs
 |.dict,x=>QU x λa b=>rR a (rR b true)
 |.comp elt n it cond,x=>FJ x λelt' gens scope=>Ct gens λg=>(decide (g.is_async=0)&&(Ke (pN n g.target) g.target&&(decide (n=(pN n g.target).length)&&F5 ks scope.names ns (pN n g.target))))&&(scope.kind==.function&&((GK it g.target&&(fT g.iter&&QB ks ns it g.iter))&&
    (i8 (w4 ks scope.names) (ns++pN n g.target) elt elt'&&(match g.ifs with
     |[]=>(match cond with|.bool b=>b|_=>false)
     |c::r=>rR r (i8 (w4 ks scope.names) (ns++pN n g.target) cond c)))))
 |.listOf it,x=>kh x λg as kw _=>rR kw (eC g λf=>f==aa "list"&&(kG ks f&&Ct as λa=>QB ks ns it a))
noncomputable def Ci(ks:Ks)(ns:List Str):Es->List az->Bool
 |.nil,xs=>rR xs true
 |.cons e es,xs=>n0 xs λx xs=>notStar x&&(i8 ks ns e x&&Ci ks ns es xs)
noncomputable def QB(ks:Ks)(ns:List Str):It->az->Bool
 |.dU e,x=>kh x λg as kw _=>rR kw (eC g λf=>f==aa "range"&&(kG ks f&&Ct as λa=>notStar a&&i8 ks ns e a))
 |.kj e e',x=>kh x λg as kw _=>rR kw (eC g λf=>f==aa "range"&&(kG ks f&&SU as λa b=>(notStar a&&notStar b)&&(i8 ks ns e a&&i8 ks ns e' b)))
 |.enum e,x=>kh x λg as kw _=>rR kw (eC g λf=>f==aa "enumerate"&&(kG ks f&&Ct as λa=>notStar a&&i8 ks ns e a))
 |.items e,x=>kh x λg as kw pp=>rR kw (rR as (mJ g λv n ap=>ap.endLine==pp.line&&(n==aa "items"&&(f9 v&&i8 ks ns e v))))
 |.plain e,x=>fT x&&(notStar x&&i8 ks ns e x)
end
noncomputable def jH(ks:Ks)(ns:List Str)(i:Nat)(x:az):Bool:=eC x λy=>bg ns y==some i&&kL ks y
noncomputable def zt(ks:Ks)(ns:List Str):List Nat->List az->Bool
 |[],ts=>rR ts true
 |i::is,ts=>n0 ts λt ts=>jH ks ns i t&&zt ks ns is ts
noncomputable def Lr(ks:Ks)(ns:List Str)(is:List Nat)(t:az):Bool:=Gg t λts=>zt ks ns is ts&&(decide is.Nodup&&decide (2<=is.length))
noncomputable def BI(ks:Ks)(ns:List Str)(is:List Nat)(t:az):Bool:=match is with
 |[i]=>jH ks ns i t
 |is=>Lr ks ns is t
noncomputable def T9(ks:Ks)(ns:List Str):Ov->az->Bool
 |.loc i,t=>jH ks ns i t
 |.attr e x,t=>mJ t λv n _=>x.str==n&&i8 ks ns e v
 |.sub e i,t=>GN t λv s=>kQ s&&(i8 ks ns e v&&i8 ks ns i s)
 |.tup is,t=>Lr ks ns is t
noncomputable def cU(x:az):Bool:=x.ctorIdx==8||(x.ctorIdx==9||x.ctorIdx==10)
noncomputable def bF.leaf:bF->Bool
 |.thrown|.leftOut=>true
 |_=>false
noncomputable def nT(t x:az):Bool:=t.ctorIdx !=25||(x.ctorIdx !=25||!((Dk x).all (constantsAlone 8)))
noncomputable def Zs:jL->Option az|.ExceptHandler t _ _ _=>t
noncomputable def Y2:jL->Option Str|.ExceptHandler _ n _ _=>n
noncomputable def Zx:jL->List bT|.ExceptHandler _ _ b _=>b
noncomputable def RN(ks:Ks)(ns:List Str)(k i:Nat)(c1 c2:bF)(t0 t1 t2 x0:az)(n1 n2 v1:Str):Bool:=
 (jH ks ns k t0&&(jH ks ns k t1&&jH ks ns k t2))&&(!cU x0&&((n1==c1.dW&&(n2==c2.dW&&(c1.leaf&&c2.leaf)))&&((kG ks n1&&(kG ks n2&&(sY n1&&(sY n2&&sY v1))))&&(bg ns v1==some i&&ks.lookup v1==some .local))))
noncomputable def RP(ks:Ks)(ns:List Str)(k:Nat)(ok:az->Bool)(c1:bF)(i:Nat)(x:At)(c2:bF)(t:S)(body:List bT)(hs:List jL):Bool:=
 Ct body λb=>rQ b λts x0=>Ct ts λt0=>SU hs λh1 h2=>jF (Zs h1) λe1=>eC e1 λn1=>jF (Y2 h1) λv1=>Ct (Zx h1) λb1=>rQ b1 λts1 y1=>Ct ts1 λt1=>mJ y1 λw1 a1 _=>eC w1 λv1'=>
  jF (Zs h2) λe2=>eC e2 λn2=>vT (Y2 h2) (Ct (Zx h2) λb2=>rQ b2 λts2 y2=>Ct ts2 λt2=>j2 y2 λs2=>RN ks ns k i c1 c2 t0 t1 t2 x0 n1 n2 v1&&(ok x0&&(v1==v1'&&(a1==x.str&&s2==.str (strOf t)))))
mutual
noncomputable def Zr(ks:Ks)(ns:List Str):St->bT->Bool
 |.expr e,x=>E3 x λx=>!cU x&&i8 ks ns e x
 |.assign t e,x=>rQ x λts x=>Ct ts λt'=>nT t' x&&(T9 ks ns t t'&&i8 ks ns e x)
 |.ze i op e,x=>EX x λt o v=>jH ks ns i t&&(zf op==o&&i8 ks ns e v)
 |.B4 o x op e,y=>EX y λt p y=>mJ t λv n _=>x.str==n&&(zf op==p&&(i8 ks ns o v&&i8 ks ns e y))
 |.ret e,x=>MA x λo=>jF o λx=>i8 ks ns e x
 |.ite c t e,x=>RH x λc' t' e'=>i8 ks ns c c'&&(zm ks ns t t'&&zm ks ns e e')
 |.o7 c b,x=>Mf x λc' b' r=>rR r (i8 ks ns c c'&&zm ks ns b b')
 |.for is it b,y=>KD y λt x b' r=>rR r (BI ks ns is t&&(GK it t&&(fT x&&(QB ks ns it x&&zm ks ns b b'))))
 |.raise e,y=>K8 y λa b=>vT b (jF a λx=>i8 ks ns e x)
 |.try k e c1 i x c2 t,y=>Mp y λb hs r f=>rR r (rR f (RP ks ns k (λx=>i8 ks ns e x) c1 i x c2 t b hs))
 |.pass,x=>Nq x true
 |.stop,_=>true
noncomputable def zm(ks:Ks)(ns:List Str):dH->List bT->Bool
 |.nil,xs=>rR xs true
 |.cons s ss,xs=>n0 xs λx xs=>Zr ks ns s x&&zm ks ns ss xs
end
structure Fr where
 A:a7
 fr:List ax
 env:Env
 L:ax
 ns:List Str
noncomputable def dq(env:Env):List ax:=env.locals::(env.cells.filter λp=>env.cells.lookup p.1==some p.2).map (·.2)
inductive zB(g:Gl)(f:Fr)(p:Pt)(c:ax):Prop where
 |mk (n1:¬own p.ad c) (n2:g.base.get? c=none) (n3:c∉f.fr) (n4:c≠f.env.locals) (o:Obj) (u:Option ai) (h1:p.h.get? c=some o) (h2:o.data=.cell u)
structure ba(g:Gl)(f:Fr)(ρ:Loc)(p:Pt):Prop where
 kind:f.env.scope.kind=.function
 glob:f.env.globals=mainGlobals
 bi:f.env.builtins=builtinsNs
 loc:∃m:Str->Option ai,p.h.Ns f.env.locals m/\∀x i v,bg f.ns x=some i->f.env.kindOf x=some .local->ρ[i]?=some (some v)->∃u,m x=some u/\VR g.T p.ad v u
 M4:∀x i,bg f.ns x=some i->f.env.kindOf x=some .cell->∃c,f.env.cells.lookup x=some c/\∀o u,p.h.get? c=some o->o.data=.cell u->∀v,ρ[i]?=some (some v)->∃z,u=some z/\VR g.T p.ad v z
 r8:¬own p.ad f.env.locals/\g.base.get? f.env.locals=none
 mc:∀x c,f.env.cells.lookup x=some c->zB g f p c
 dist:∀x y c,f.env.cells.lookup x=some c->f.env.cells.lookup y=some c->x=y
structure mQ(g:Gl)(f:Fr)(ρ:Loc)(p:Pt):Prop where
 F:ba g f ρ p
 I:Inv g f.fr p
 hl:ρ.length=f.ns.length
theorem lookup_mem{α:Type}[BEq α][LawfulBEq α]{β:Type}{x:α}{c:β}:∀{l:List (α×β)},l.lookup x=some c->(x,c)∈l
 |(y,d)::r,e=>by
  unfold fg at e
  cases q:x==y with
  |true=>rw[q] at e;rw[eq_of_beq q,<-ae e];exact .head _
  |false=>rw[q] at e;exact .tail _ (lookup_mem e)
theorem xW{env:Env}{x:Str}{c:ax}(e:env.cells.lookup x=some c):c∈dq env:=
 .tail _ (aS.mpr ⟨(x,c),gE.mpr ⟨lookup_mem e,beq_iff_eq.mpr e⟩,rfl⟩)
theorem uO{env:Env}{b:ax}(h:b∈dq env):b=env.locals\/∃x,env.cells.lookup x=some b:=
 (aC.mp h).imp id λz=>(aS.mp z).elim λp q=>⟨p.1,q.2▸eq_of_beq (gE.mp q.1).2⟩
section
variable{g:Gl}{f:Fr}{X:List ax}{ρ:Loc}{p p':Pt}
theorem zB.step(S:iM X f.fr p p'){c:ax}(n:c∉X):zB g f p c->zB g f p' c
 |⟨n1,n2,n3,n4,oc,u,h5,h6⟩=>⟨S.off h5 n1,n2,n3,n4,oc,u,S.keep h5 n1 n n3,h6⟩
theorem JX{fr:List ax}{m:Str->Option ai}{L:ax}(S:iM X fr p p')(n:¬own p.ad L)(nL:L∉X):p.h.Ns L m->p'.h.Ns L m/\¬own p'.ad L
 |⟨o,es,ep,ho,hd,hk,hf⟩=>⟨match S.kp _ o ho n with|⟨o',ho',q⟩=>(q nL).1.elim λ_ e=>⟨o',es,ep,ho',(congrArg Obj.data e).trans hd,hk,hf⟩,S.off ho n⟩
theorem ba.step(F:ba g f ρ p)(S:iM X f.fr p p')(nL:f.env.locals∉X)(nC:∀x c,f.env.cells.lookup x=some c->c∉X):ba g f ρ p':=
 ⟨F.kind,F.glob,F.bi,F.loc.elim λm q=>⟨m,(JX S F.r8.1 nL q.1).1,λx i v h1 h2 h3=>(q.2 x i v h1 h2 h3).elim λu z=>⟨u,z.1,z.2.mono S.ext⟩⟩,
  λx i h1 h2=>(F.M4 x i h1 h2).elim λc q=>⟨c,q.1,λo₂ u₂ q1 q2 v hv=>match F.mc x c q.1 with
   |⟨n1,_,n3,_,_,_,h5,_⟩=>(q.2 _ _ (cu (S.keep h5 n1 (nC x c q.1) n3) q1▸h5) q2 v hv).elim λz y=>⟨z,y.1,y.2.mono S.ext⟩⟩,
  F.loc.elim λm q=>⟨(JX S F.r8.1 nL q.1).2,F.r8.2⟩,λx c e=>(F.mc x c e).step S (nC x c e),F.dist⟩
theorem ba.on(F:ba g f ρ p)(S:iM [] f.fr p p'):ba g f ρ p':=F.step S (λq=>nomatch q) λ_ _ _ q=>nomatch q
theorem mQ.on(a:mQ g f ρ p)(x:gH g [] f.fr p p'):mQ g f ρ p':=⟨a.F.on x.S,x.I,a.hl⟩
variable{s:ak}{tk:Nat}{E:ai->ak->Prop}{K:ai->ak->Prop}{M:fY}{A:a7}
theorem Fj{ks:Ks}{env:Env}{x:Str}(hn:env.scope.names=ks)(h:kL ks x=true):env.kindOf x=some .local\/env.kindOf x=some .cell:=CP h (λh=>.inl ((congrArg (fg x) hn).trans (eq_of_beq h))) λh=>.inr ((congrArg (fg x) hn).trans (eq_of_beq h))
theorem WO{ks:Ks}{env:Env}{x:Str}(hn:env.scope.names=ks)(h:kG ks x=true):env.kindOf x=some .globalImplicit:=(congrArg (fg x) hn).trans (eq_of_beq h)
theorem pY{x:Str}{i:Nat}{v:AV}(F:ba g f ρ p)(hi:bg f.ns x=some i)(hk:f.env.kindOf x=some .local\/f.env.kindOf x=some .cell)
  (hv:ρ[i]?=some (some v)) (hQ:∀u,VR g.T p.ad v u->K u (p.on s tk)):wpAny M A (loadName f.env x) K E (p.on s tk):=
 hk.elim (λhk=>F.loc.elim λm q=>(q.2 x i v hi hk hv).elim λu z=>rA F.kind hk q.1 z.1 (hQ u z.2))
  λhk=>(F.M4 x i hi hk).elim λc q=>match F.mc x c q.1 with
   |⟨_,_,_,_,o,u,h3,h4⟩=>(q.2 o u h3 h4 v hv).elim λz y=>wpAny_loadName_cell F.kind hk q.1 ⟨o,h3,h4.trans (congrArg Data.cell y.1)⟩ (hQ z y.2)
end
structure rv(d:Nat)(A:a7)(envs:List Env)(fr:List ax):Prop where
 handled:A.handled=none
 frames:A.frames=some envs
 here:envs.filterMap (·.frame)=fr
 kinds:∀e∈envs,e.scope.kind≠.module/\e.frame.isSome=true
 depth:A.depth+8*d<900
 units:A.units+64*d+1000<cLine
section
variable{α β:Type}{σ:Hp}{Q:α->Hp->Prop}{X:Nat->Hp->Prop}
@[elab_as_elim] theorem iq {P:AV->Prop} {v:AV} {f:Nat->MM α} (h:Wp (m8 v f σ) Q X) (k:∀l,Wp (f l σ) Q X->P (.ref l)):P v:=
 AV.casesOn (motive:=λv=>Wp (m8 v f σ) Q X->P v) v (λh=>h.elim) (λ_ h=>h.elim) (λ_ h=>h.elim) (λ_ h=>h.elim) k (λ_ h=>h.elim) (λ_ h=>h.elim) (λ_ h=>h.elim) h
@[elab_as_elim] theorem fA {P:AV->Prop} {v:AV} {f:Int->MM α} (h:Wp (oZ v f σ) Q X) (k:∀l,Wp (f l σ) Q X->P (.int l)):P v:=
 AV.casesOn (motive:=λv=>Wp (oZ v f σ) Q X->P v) v (λh=>h.elim) (λ_ h=>h.elim) k (λ_ h=>h.elim) (λ_ h=>h.elim) (λ_ h=>h.elim) (λ_ h=>h.elim) (λ_ h=>h.elim) h
@[elab_as_elim] theorem qf {P:AV->Prop} {v:AV} {f:S->MM α} (h:Wp (yh v f σ) Q X) (k:∀l,Wp (f l σ) Q X->P (.str l)):P v:=
 AV.casesOn (motive:=λv=>Wp (yh v f σ) Q X->P v) v (λh=>h.elim) (λ_ h=>h.elim) (λ_ h=>h.elim) k (λ_ h=>h.elim) (λ_ h=>h.elim) (λ_ h=>h.elim) (λ_ h=>h.elim) h
@[elab_as_elim] theorem jf {P:aF->Prop} {o:aF} {f:List AV->MM α} (h:Wp (ph o f σ) Q X) (k:∀l,Wp (f l σ) Q X->P (.list l)):P o:=
 aF.casesOn (motive:=λv=>Wp (ph v f σ) Q X->P v) o k (λ_ h=>h.elim) (λ_ h=>h.elim) (λ_ _ h=>h.elim) (λ_ _ h=>h.elim) h
@[elab_as_elim] theorem LK {P:aF->Prop} {o:aF} {f:List AV->MM α} (h:Wp (O6 o f σ) Q X) (k:∀l,Wp (f l σ) Q X->P (.tup l)):P o:=
 aF.casesOn (motive:=λv=>Wp (O6 v f σ) Q X->P v) o (λ_ h=>h.elim) k (λ_ h=>h.elim) (λ_ _ h=>h.elim) (λ_ _ h=>h.elim) h
@[elab_as_elim] theorem zq {P:aF->Prop} {o:aF} {f:List (AV×AV)->MM α} (h:Wp (BX o f σ) Q X) (k:∀l,Wp (f l σ) Q X->P (.dict l)):P o:=
 aF.casesOn (motive:=λv=>Wp (BX v f σ) Q X->P v) o (λ_ h=>h.elim) (λ_ h=>h.elim) k (λ_ _ h=>h.elim) (λ_ _ h=>h.elim) h
@[elab_as_elim] theorem uw {P:aF->Prop} {o:aF} {f:bF->List AV->MM α} (h:Wp (xR o f σ) Q X) (k:∀c l,Wp (f c l σ) Q X->P (.inst c l)):P o:=
 aF.casesOn (motive:=λv=>Wp (xR v f σ) Q X->P v) o (λ_ h=>h.elim) (λ_ h=>h.elim) (λ_ h=>h.elim) k (λ_ _ h=>h.elim) h
@[elab_as_elim] theorem NS {P:aF->Prop} {o:aF} {f:bF->List AV->MM α} (h:Wp (Di o f σ) Q X) (k:∀c l,Wp (f c l σ) Q X->P (.iG c l)):P o:=
 aF.casesOn (motive:=λv=>Wp (Di v f σ) Q X->P v) o (λ_ h=>h.elim) (λ_ h=>h.elim) (λ_ h=>h.elim) (λ_ _ h=>h.elim) k h
@[elab_as_elim] theorem K7 {P:Option β->Prop} {o:Option β} {f:β->MM α} (h:Wp (opt o f σ) Q X) (k:∀b,Wp (f b σ) Q X->P (some b)):P o:=
 jM (motive:=λv=>Wp (opt v f σ) Q X->P v) o (λh=>h.elim) k h
theorem jU{P:Prop}{o:Option β}{f:β->MM α}(h:Wp (opt o f σ) Q X)(k:∀b,o=some b->Wp (f b σ) Q X->P):P:=K7 (P:=λx=>o=x->P) h (λb h e=>k b e h) rfl
theorem rZ{P:Prop}{o:Option α}(h:Wp (mS o σ) Q X)(k:∀b,o=some b->Q b σ->P):P:=jM (motive:=λv=>o=v->Wp (mS v σ) Q X->P) o (λ_ h=>h.elim) k rfl h
theorem cw{P:Prop}{l:Nat}{f:aF->MM α}(h:Wp (ee l f σ) Q X)(k:∀o,σ[l]?=some o->Wp (f o σ) Q X->P):P:=
 jM (motive:=λv=>σ[l]?=v->Wp (match v with|some o=>f o σ|none=>.bad) Q X->P) σ[l]? (λ_ h=>h.elim) k rfl h
theorem cB{P p:Prop}[d:Decidable p]{m:MM α}(h:Wp (kq p m σ) Q X)(k:p->Wp (m σ) Q X->P):P:=
 jN (motive:=λd=>Wp (@kq α p d m σ) Q X->P) d (λ_ h=>h.elim) k h
theorem qR{P p:Prop}[d:Decidable p]{m n:MM α}(h:Wp ((if p then m else n) σ) Q X)(k:p->Wp (m σ) Q X->P)(k':¬p->Wp (n σ) Q X->P):P:=
 jN (motive:=λd=>Wp ((@ite (MM α) p d m n) σ) Q X->P) d k' k h
@[elab_as_elim] theorem za {P:List AV->Prop} {args:List AV} {f:AV->MM α} (h:Wp (a1 args f σ) Q X) (k:∀v,Wp (f v σ) Q X->P [v]):P args:=
 cy (motive:=λargs=>Wp (a1 args f σ) Q X->P args) args (λh=>h.elim) (λv r=>cy (motive:=λr=>Wp (a1 (v::r) f σ) Q X->P (v::r)) r (k v) (λ_ _ h=>h.elim)) h
@[elab_as_elim] theorem TB {P:List AV->Prop} {args:List AV} {f:AV->AV->MM α} (h:Wp (a2 args f σ) Q X) (k:∀v w,Wp (f v w σ) Q X->P [v,w]):P args:=
 cy (motive:=λargs=>Wp (a2 args f σ) Q X->P args) args (λh=>h.elim) (λv r=>cy (motive:=λr=>Wp (a2 (v::r) f σ) Q X->P (v::r)) r (λh=>h.elim) (λw r=>cy (motive:=λr=>Wp (a2 (v::w::r) f σ) Q X->P (v::w::r)) r (k v w) (λ_ _ h=>h.elim))) h
theorem lS{m:MM α}(h:Wp (o6 m σ) Q X):Wp (m σ) Q (λ_ _=>False):=
 R.casesOn (motive:=λr=>Wp (match r with|.err _ _=>.bad|r=>r:R α) Q X->Wp r Q (λ_ _=>False)) (m σ) (λ_ _ h=>h) (λ_ _ h=>h) (λh=>h) h
end
section
variable{T:Tab}{ad:Ad}
@[elab_as_elim] theorem dD {i:Int} {P:ai->Prop} {u:ai} (h:VR T ad (.int i) u) (k:∀t,P (.int i t)):P u:=h.elim λt e=>e▸k t
@[elab_as_elim] theorem fj {x:S} {P:ai->Prop} {u:ai} (h:VR T ad (.str x) u) (k:∀t,P (.str (strOf x) t)):P u:=h.elim λt e=>e▸k t
@[elab_as_elim] theorem dB {l:Nat} {P:ai->Prop} {u:ai} (h:VR T ad (.ref l) u) (k:∀a d,ad[l]?=some (a,d)->P (.ref a)):P u:=h.elim λp e=>e.2▸k p.1 p.2 e.1
end
theorem gM(c:bF):(c.fields.map At.str).Nodup:=by cases c<;>decide+kernel
theorem yz{y x:At}{F:List At}{i:Nat}{P:Prop}(h:lO (y::F) x=some i)(k0:y=x->i=0->P)(kS:∀j,y≠x->lO F x=some j->i=j+1->P):P:=
 if q:y=x then k0 q (ae ((if_pos q).symm.trans h)).symm else
  match z:lO F x,((if_neg q).symm.trans h:(lO F x).map (·+1)=some i) with
  |some j,e=>kS j q z (ae e).symm
  |none,e=>nomatch e
theorem jD{x:At}:∀{F:List At}{i:Nat},lO F x=some i->F[i]?=some x
 |[],_,e=>nomatch e
 |y::F,_,e=>yz e (λq z=>(congrArg (λi=>(y::F)[i]?) z).trans (congrArg some q)) λj _ q z=>have h:F[j]?=some x:=jD q;(congrArg (λi=>(y::F)[i]?) z).trans h
section
variable{T:Tab}{ad:Ad}
theorem FR.isStr{p:At×AV}{d:dF}(h:FR T ad p d)(x:Str):d.key.isStr x=(p.1.str==x):=h.1.elim λ_ e=>congrArg (Value.isStr · x) e
theorem FR.strs{y x:At}{F:List At}{j:Nat}(nd:y.str∉F.map At.str)(e:F[j]?=some x):(y.str==x.str)=false:=beq_eq_false_iff_ne.mpr λz=>nd (z▸aU (av e))
theorem vh{x:At}{w:AV}{F:List At}:∀{fs:List AV}{xs:List dF}{i:Nat},(F.map At.str).Nodup->bq (FR T ad) (F.zip fs) xs->lO F x=some i->fs[i]?=some w->
  ∃d,xs.find? (·.key.isStr x.str)=some d/\VR T ad w d.val:=by
 induction F with
 |nil=>exact λ_ _ e=>nomatch e
 |cons y F ih=>
  intro fs xs i nd H e hw
  cases fs with
  |nil=>exact nomatch hw
  |cons v fs=>
   obtain⟨b,bs,rfl,hd,H'⟩:=H.cons_inv
   rw[wg,hd.isStr]
   exact yz e (λq z=>by subst q z;cases hw;rw[beq_self_eq_true];exact⟨_,rfl,hd.val⟩) λj _ q z=>by
    subst z;rw[FR.strs (aJ.mp nd).1 (jD q)];exact ih (aJ.mp nd).2 H' q hw
theorem sQ{x:At}{w:AV}{u key:ai}{hsh:Int}(hu:VR T ad w u)(hk:∃t,key=.str x.str t){F:List At}:∀{fs:List AV}{xs:List dF}{i:Nat},(F.map At.str).Nodup->bq (FR T ad) (F.zip fs) xs->lO F x=some i->i<=fs.length->
  bq (FR T ad) (F.zip (if i<fs.length then fs.set i w else fs++[w])) (putL x.str hsh key u xs):=by
 induction F with
 |nil=>exact λ_ _ e=>nomatch e
 |cons y F ih=>
  intro fs xs i nd H e hi
  cases fs with
  |nil=>
   obtain rfl:=H.nil_inv
   exact yz e (λq z=>by subst q z;exact .cons ⟨hk,hu⟩ (by rw[List.zipWith_nil_right];exact .nil)) λj _ _ z=>nomatch z▸hi
  |cons v fs=>
   obtain⟨b,bs,rfl,hd,H'⟩:=H.cons_inv
   unfold putL
   rw[hd.isStr]
   exact yz e (λq z=>by subst q z;rw[beq_self_eq_true];exact .cons ⟨hd.key,hu⟩ H') λj _ q z=>by
    subst z
    rw[FR.strs (aJ.mp nd).1 (jD q)]
    have ih:=ih (aJ.mp nd).2 H' q (CC hi)
    by_cases q2:j<fs.length
    ·rw[if_pos q2] at ih;rw[if_pos (show j+1<(v::fs).length from gr q2)];exact .cons hd ih
    ·rw[if_neg q2] at ih;rw[if_neg (show ¬j+1<(v::fs).length from λz=>q2 (hJ z))];exact .cons hd ih
theorem oj{F:List (At×AV)}{xs:List dF}(H:bq (FR T ad) F xs):xs.any (·.refKey)=false:=by
 induction H with
 |nil=>rfl
 |cons h _ ih=>
  obtain⟨⟨t,e⟩,_⟩:=h
  rw[iN,ih,Bool.or_false]
  unfold DictEntry.refKey;rw[e]
end
structure Wt(K:cT)(C:ax)(c:bF):Prop where
 cd:(clsIn K C).any (·.hasDict)=true
 ga:findIn K (.ref C) "__getattribute__"=some (some (.builtin "object.__getattribute__"))
 gt:findIn K (.ref C) "__getattr__"=some none
 no:∀x∈c.fields,findIn K (.ref C) x.str=some none
 sa:findIn K (.ref C) "__setattr__"=some (some (.builtin "object.__setattr__"))
 po:plainOver K C=true
section
variable{prog:fK}{w:ky}{A:a7}{E:ai->ak->Prop}{K:cT}{s:ak}{T:Tab}{ad:Ad}
theorem tw{v:AV}{u:ai}(h:VR T ad v u):handedIn u=true:=by
 cases v with
 |bi b=>cases h;cases b<;>decide+kernel
 |none=>cases h;rfl
 |bool b=>cases h;rfl
 |int i=>obtain⟨t,rfl⟩:=h;rfl
 |str x=>obtain⟨t,rfl⟩:=h;rfl
 |ref l=>obtain⟨p,_,rfl⟩:=h;rfl
 |cls c=>cases h;rfl
 |fn f=>cases h;rfl
theorem Sm(x:At):copiedNames.contains x.str=false:=(fM _).mp (SG (P:=λs=>!copiedNames.contains s) (by decide+kernel) (by decide+kernel) x)
theorem Bd{name:Str}{hsh:Int}{k v:ai}{es:List dF}:(putL name hsh k v es).length<=es.length+1:=by
 induction es with
 |nil=>exact aK _
 |cons e r ih=>
  unfold putL
  split
  ·exact br _
  ·exact aP ih
theorem Ap{x dx C:ax}{ox:Obj}{es:List dF}{n:Nat}{name:Str}{v:ai}{Q:Unit->ak->Prop}(X:K.In s.heap)(IA:InstAt s.heap x ox C (some (dictOf es n)))(hdx:ox.dict=some dx)
  (hsa:findIn K (.ref C) "__setattr__"=some (some (.builtin "object.__setattr__"))) (hpo:plainOver K C=true) (hno:findIn K (.ref C) name=some none) (hcd:(clsIn K C).any (·.hasDict)=true)
  (hr:es.any (·.refKey)=false) (hz:es.length<=1000)
  (hQ:∀hsh tk,Q () {s with heap:=s.heap.update dx (jc name hsh (.str name tk) v),toks:=tk+1}):wpAny (model prog w) A (setAttr (.ref x) name v) Q E s:=by
 obtain⟨hh,g,d,t,os⟩:=s
 dsimp only at X IA
 refine set_plain X IA hsa (osa_open (s:=⟨hh,g,d,t+1,os⟩) (r:=none) X IA hpo (by unfold takerIn;rw[hno];rfl) λb=>?_)
 obtain⟨cd,hc,hd'⟩:=wx hcd
 obtain⟨hx,hcl,hn,hdd⟩:=IA
 obtain⟨oc,odi,oda,osl⟩:=ox
 dsimp only at hcl hdx hdd
 subst hcl hdx
 refine ag (ao (ag (ag (iO hx (ag ((zT X hc).at ?_))))))
 rw[hd']
 refine ao (a:=some dx) (ag (ao (ag ?_)))
 unfold nsSet
 refine ag (ag (x8 (ao (ag (kA (ag (iO hdd ?_)))))))
 have c:(!(es.toArray.any (·.key.isStr name))&&es.toArray.any (·.refKey))=false:=by
  rw[<-iC,<-iC]
  show(!es.any _&&es.any _)=false
  rw[hr,xe]
 show wpAny _ _ (if aRefKeyMayBeTheName name es.toArray=true then _ else _) _ _ _
 rw[pD,c]
 refine x9 hdd ?_
 refine ag (ya (o:=dictOf (putL name (fW w.params name) (.str name (t+1)) v es) (putN name es n)) ?_ (yb (by rw[gY,zU];exact ah Bd (ah (aP hz) (by decide)))) ?_)
 ·have:=aW (jc name (fW w.params name) (.str name (t+1)) v) hdd (by rw[eS];rfl)
  rw[eS] at this
  exact this
 ·exact ao (hQ _ _)
end
theorem KZ{c:bF}{x:At}{fs:List AV}{i:Nat}{w:AV}(hi:lO c.fields x=some i)(hle:i<=fs.length)(h:fs.length<=c.fields.length):(if i<fs.length then fs.set i w else fs++[w]).length<=c.fields.length:=by
 by_cases q:i<fs.length
 ·rw[if_pos q,aQ];exact h
 ·rw[if_neg q,jt,<-jn hle (bp q)];exact(aq.mp (jD hi)).1
theorem C0(c:bF):c.fields.length<=20:=by cases c<;>decide
noncomputable def Gp(K:cT)(T:Tab):Prop:=∀c:bF,c.isExc=false->Wt K (T.bZ c) c
section
variable{g:Gl}{fr:List ax}{p:Pt}{s:ak}{tk:Nat}{K:cT}{A:a7}{E:ai->ak->Prop}{Q:AV->Hp->Prop}{Er:Nat->Hp->Prop}{Kk:ai->ak->Prop}
inductive V7(g:Gl)(p:Pt)(a d:ax)(c:bF)(fs:List AV):Prop where
 |mk (xs:List dF) (n:Nat) (h1:InstAt p.h a (instObj (g.T.bZ c) d) (g.T.bZ c) (some (dictOf xs n))) (h2:p.h.get? d=some (dictOf xs n)) (h3:bq (FR g.T p.ad) (c.fields.zip fs) xs)
theorem j3.plain{a d:ax}{c:bF}{fs:List AV}(hc:c.isExc=false)(H:j3 g p.h p.ad a d c fs):V7 g p a d c fs:=match H.fs with
 |⟨xs,n,h1,h2⟩=>⟨xs,n,⟨H.obj hc,rfl,rfl,h1⟩,h1,h2⟩
theorem Bn{C:ax}{x:Str}{xs:List dF}{n:Nat}{d:dF}{cd:ClassData}(h1:clsIn K C=some cd)(h2:cd.hasDict=true)(hno:findIn K (.ref C) x=some none)(hf:xs.find? (·.key.isStr x)=some d):findObj K C (some (dictOf xs n)) x=some (.value d.val):=by
 unfold findObj
 rw[h1,iw,hno,iw,iw,iw]
 show((PySem.W.ownOf cd (some (dictOf xs n)) x).bind _)=_
 unfold PySem.W.ownOf
 rw[h2,if_pos rfl]
 show((lookIn x (dictOf xs n)).bind _)=_
 rw[lookIn_dict]
 unfold getL
 rw[hf]
 rfl
theorem vJ{v:AV}{u:ai}{x:At}{expr:Bool}(X:K.In p.h)(I:Inv g fr p)(CF:Gp K g.T)(hu:VR g.T p.ad v u)(h:Wp (PJ v x p.σ) Q Er)
  (k:∀z y tk,Q z p.σ->VR g.T p.ad z y->Kk y (p.on s tk)):wpAny g.M A (getAttr u x.str expr) Kk E (p.on s tk):=by
 refine iq (P:=λv=>VR g.T p.ad v u->_) h (λl h hu=>cw h λo e h=>uw (P:=λo=>p.σ[l]?=some o->_) h (λc fs h e=>cB h λhc h=>jU h λi hi h=>jU h λz hz q=>dB hu λa d hp=>?_) e) hu
 match j3.plain hc (I.objs l _ e _ hp) with
 |⟨xs,n,IA,_,H⟩=>exact(vh (gM c) H hi hz).elim λe q'=>(wx (CF c hc).cd).elim λcd hcd=>get_value X IA (CF c hc).ga (v:=e.val) (Bn hcd.1 hcd.2 ((CF c hc).no x (av (jD hi))) q'.1) (tw q'.2) (k z _ _ q q'.2)
theorem vu{v w:AV}{u y:ai}{x:At}{Q:Unit->Hp->Prop}{Kk:Unit->ak->Prop}(X:K.In p.h)(I:Inv g fr p)(CF:Gp K g.T)(hu:VR g.T p.ad v u)(hv:VR g.T p.ad w y)(h:Wp (O1 v x w p.σ) Q Er)
  (k:∀p' tk,Q () p'.σ->gH g [] fr p p'->Kk () (p'.on s tk)):wpAny g.M A (setAttr u x.str y) Kk E (p.on s tk):=by
 refine iq (P:=λv=>VR g.T p.ad v u->_) h (λl h hu=>cw h λo e h=>uw (P:=λo=>p.σ[l]?=some o->_) h (λc fs h e=>cB h λhc h=>jU h λi hi h=>cB h λhle q=>dB hu λa d hp=>?_) e) hu
 have H0:j3 g p.h p.ad a d c fs:=I.objs l _ e _ hp
 match H0.plain hc with
 |⟨xs,n,IA,hd,H⟩=>
   have hF:xs.length<=20:=H.len▸List.length_zip▸ah (Nat.min_le_left ..) (C0 c)
   refine Ap (es:=xs) (n:=n) X IA rfl (CF c hc).sa (CF c hc).po ((CF c hc).no x (av (jD hi))) (CF c hc).cd (oj H) (ah hF (by decide)) λhsh tk=>?_
   have hs:cb d p.h (p.h.update d (jc x.str hsh (.str x.str tk) y)):=cK ..
   have hg:=aW (jc x.str hsh (.str x.str tk) y) hd (by rw[eS];rfl)
   rw[eS] at hg
   have ne:a≠d:=λq=>by have h1:=IA.at_;rw[q,hd] at h1;cases h1
   exact k ⟨_,_,_⟩ _ q ⟨I.upd hp (.inr rfl) hs ⟨_,hg⟩ (show j3 g _ p.ad a d c _ from⟨KZ hi hle H0.len,λz=>ft (hc.symm.trans z),λ_=>(hs.2 _ ne).trans IA.at_,_,_,hg,sQ hv ⟨_,rfl⟩ (gM c) H hi hle⟩),.lQ (own.r hp) hs⟩
end
theorem eK:lim<=sizeLine:=by decide
theorem ifP{α:Type}{p:Prop}[d:Decidable p]{a b:α}(h:p):(if p then a else b)=a:=if_pos h
section
variable{g:Gl}{M:fY}{A:a7}{fr X:List ax}{s:ak}{p:Pt}{tk:Nat}{E:ai->ak->Prop}{K:ai->ak->Prop}
theorem eJ.app{ad:Ad}{vs:List AV}{us:List ai}{x:ax×ax}(h:eJ g.T ad vs us):eJ g.T (ad++[x]) vs us:=eJ.mono (bH _ _) h
theorem L8(h:bt)(o:Obj)(hf:o.isFreed=false):∃ob,(h.push o).get? h.objs.size=some ob:=⟨_,aE _ hf⟩
theorem ic{ob:Obj}{o:aF}(I:Inv g fr p)(hf:ob.isFreed=false)(H:iH g (p.h.push ob) (p.ad++[(p.h.objs.size,p.h.objs.size)]) p.h.objs.size p.h.objs.size o)
  (k:∀v u p' tk,(v=.ref p.σ.length/\p'.σ=p.σ++[o])->gH g X fr p p'->VR g.T p'.ad v u->K u (p'.on s tk)):K (.ref p.h.objs.size) {p.on s tk with heap:=p.h.push ob}:=
 k _ _ ⟨p.σ++[o],p.ad++[(p.h.objs.size,p.h.objs.size)],p.h.push ob⟩ tk ⟨rfl,rfl⟩ (.new I (.push _ _) (cA _) (cA _) (L8 _ _ hf) (L8 _ _ hf) H) (lT I _)
theorem room{ad:Ad}{vs:List AV}{us:List ai}(V:eJ g.T ad vs us)(hl:vs.length<=lim):us.toArray.size<=sizeLine:=gY▸V.len▸ah hl eK
theorem D3{vs:List AV}{us:List ai}(I:Inv g fr p)(V:eJ g.T p.ad vs us)(hl:vs.length<=lim)
  (k:∀v u p' tk,(v=.ref p.σ.length/\p'.σ=p.σ++[.list vs])->gH g X fr p p'->VR g.T p'.ad v u->K u (p'.on s tk)):wpAny M A (newList us) K E (p.on s tk):=
 have e:=aE (h:=p.h) (o:=listOf us.toArray 0) rfl
 dR (ic (o:=.list vs) (ob:=listOf us.toArray 0) I rfl ⟨us.toArray,⟨_,e,rfl,_,rfl⟩,V.app,hl,_,e,rfl⟩ k) (room V hl)
theorem Dq{vs:List AV}{us:List ai}(I:Inv g fr p)(V:eJ g.T p.ad vs us)(hl:vs.length<=lim)
  (k:∀v u p' tk,(v=.ref p.σ.length/\p'.σ=p.σ++[.tup vs])->gH g X fr p p'->VR g.T p'.ad v u->K u (p'.on s tk)):wpAny M A (newTuple us) K E (p.on s tk):=
 have e:=aE (h:=p.h) (o:={cls:=.type "tuple",data:=.seq us.toArray}) rfl
 dR (ic (o:=.tup vs) (ob:={cls:=.type "tuple",data:=.seq us.toArray}) I rfl ⟨us.toArray,⟨_,e,rfl,_,rfl⟩,V.app,hl⟩ k) (room V hl)
theorem vH(h:bt):(h.push {cls:=.type "dict",data:=.dict #[]}).DictAt (cV g.prog g.w) h.objs.size [] 0:=
 ⟨_,#[],aE _ rfl,⟨rfl,rfl,rfl⟩,rfl,λ_ he=>by simp at he,.nil,List.nodup_nil⟩
theorem De(I:Inv g fr p)(k:∀v u p' tk,(v=.ref p.σ.length/\p'.σ=p.σ++[.dict []])->gH g X fr p p'->VR g.T p'.ad v u->K u (p'.on s tk)):wpAny M A newDict K E (p.on s tk):=
 dR (ic (o:=.dict []) (ob:={cls:=.type "dict",data:=.dict #[]}) I rfl ⟨[],vH _,.nil,aV _⟩ k)
theorem gw{σ:Hp}{vs:List AV}{Q:AV->Hp->Prop}{Er:Nat->Hp->Prop}{P:Prop}(h:Wp (fP vs σ) Q Er)(k:vs.length<=lim->Q (.ref σ.length) (σ++[.list vs])->P):P:=qR (m:=alloc (.list vs)) (n:=MM.bad) h k λ_ h=>h.elim
theorem AE{σ:Hp}{vs:List AV}{Q:AV->Hp->Prop}{Er:Nat->Hp->Prop}{P:Prop}(h:Wp (nz vs σ) Q Er)(k:vs.length<=lim->Q (.ref σ.length) (σ++[.tup vs])->P):P:=qR (m:=alloc (.tup vs)) (n:=MM.bad) h k λ_ h=>h.elim
variable{Q:AV->Hp->Prop}{Er:Nat->Hp->Prop}
theorem eqQ{v w:AV}{σ σ':Hp}(h:Q w σ')(e:v=w/\σ=σ'):Q v σ:=e.1▸e.2▸h
theorem y0{vs:List AV}{us:List ai}(I:Inv g fr p)(V:eJ g.T p.ad vs us)(h:Wp (fP vs p.σ) Q Er)(k:KC g X fr (VV g) s p Q K):wpAny M A (newList us) K E (p.on s tk):=
 gw h λhl q=>D3 I V hl λv u p' tk e=>k v u p' tk (eqQ q e)
theorem yZ{vs:List AV}{us:List ai}(I:Inv g fr p)(V:eJ g.T p.ad vs us)(h:Wp (nz vs p.σ) Q Er)(k:KC g X fr (VV g) s p Q K):wpAny M A (newTuple us) K E (p.on s tk):=
 AE h λhl q=>Dq I V hl λv u p' tk e=>k v u p' tk (eqQ q e)
end
section
variable{T:Tab}{ad:Ad}
theorem DV.dec{a:AV×AV}{b:AV×ai}(h:DV T ad a b)(k:AV):decide (b.1=k)=decide (a.1=k):=congrArg (λx=>decide (x=k)) h.k.symm
inductive DG(T:Tab)(ad:Ad)(k:AV)(es:List (AV×AV))(kvs:List (AV×ai)):Prop where
 |no (h1:dG es k=none) (h2:valueAt kvs k=none)
 |is (v:AV) (u:ai) (h1:dG es k=some v) (h2:valueAt kvs k=some u) (h3:VR T ad v u)
theorem ud{k:AV}{es:List (AV×AV)}{kvs:List (AV×ai)}(H:bq (DV T ad) es kvs):DG T ad k es kvs:=by
 induction H with
 |nil=>exact .no rfl rfl
 |@cons a b as bs h H ih=>
  have e:valueAt (b::bs) k=if a.1=k then some b.2 else valueAt bs k:=by
   unfold valueAt
   rw[wg,h.dec]
   by_cases q:a.1=k
   ·rw[decide_eq_true q,if_pos q];rfl
   ·rw[decide_eq_false q,if_neg q]
  by_cases q:a.1=k
  ·rw[if_pos q] at e;exact .is a.2 b.2 (if_pos q) e h.v
  ·rw[if_neg q] at e
   cases ih with
   |no h1 h2=>exact .no ((if_neg q).trans h1) (e.trans h2)
   |is v u h1 h2 h3=>exact .is v u ((if_neg q).trans h1) (e.trans h2) h3
theorem xx{es:List (AV×AV)}{kvs:List (AV×ai)}(H:bq (DV T ad) es kvs){k v:AV}(e:dG es k=some v):∃u,valueAt kvs k=some u/\VR T ad v u:=
 match ud (k:=k) H with
 |.no h1 _=>aX h1 e
 |.is _ u h1 h2 h3=>⟨u,h2,cu h1 e▸h3⟩
theorem Ht{es:List (AV×AV)}{kvs:List (AV×ai)}(H:bq (DV T ad) es kvs){k:AV}(e:dG es k=none):valueAt kvs k=none:=
 match ud (k:=k) H with
 |.no _ h=>h
 |.is _ _ h1 _ _=>aX e h1
theorem ta{es:List (AV×AV)}{kvs:List (AV×ai)}(H:bq (DV T ad) es kvs)(k:AV):(valueAt kvs k).isSome=(dG es k).isSome:=
 match ud (k:=k) H with
 |.no h1 h=>(congrArg pE h).trans (congrArg pE h1).symm
 |.is _ _ h1 h _=>(congrArg pE h).trans (congrArg pE h1).symm
theorem tC{k v:AV}{u:ai}(hk:isKey k=true)(hv:VR T ad v u){es:List (AV×AV)}{kvs:List (AV×ai)}(H:bq (DV T ad) es kvs)(nd:(kvs.map (·.1)).Nodup):bq (DV T ad) (dput es k v) (stored kvs k u):=by
 induction H with
 |nil=>exact .cons ⟨rfl,hk,hv⟩ .nil
 |@cons a b as bs h H ih=>
  rw[cq,aJ] at nd
  by_cases q:a.1=k
  ·have q':b.1=k:=h.k▸q
   have e:stored (b::bs) k u=(b.1,u)::bs:=by
    unfold stored
    rw[iN,decide_eq_true q',Bool.true_or,if_pos rfl,cq,if_pos q',map_store_of_not_mem bs k u (q'▸nd.1)]
   rw[e]
   show bq _ (if a.1=k then(a.1,v)::as else _) _
   rw[if_pos q]
   exact .cons ⟨h.k,h.is,hv⟩ H
  ·have q':¬b.1=k:=h.k▸q
   have e:stored (b::bs) k u=b::stored bs k u:=by
    unfold stored
    rw[iN,decide_eq_false q',Bool.false_or]
    by_cases z:(bs.any λkv=>kv.1=k)=true
    ·rw[if_pos z,if_pos z,cq,if_neg q']
    ·rw[if_neg z,if_neg z];rfl
   rw[e]
   show bq _ (if a.1=k then _ else(a.1,a.2)::dput as k v) _
   rw[if_neg q]
   exact .cons h (ih nd.2)
theorem key_is{prog:fK}{w:ky}{k:AV}{u:ai}(h:isKey k=true)(x:VR T ad k u):(cV prog w).is k u=true:=
 AV.casesOn (motive:=λk=>isKey k=true->VR T ad k u->mM k u=true) k (λh _=>ft h) (λ_ h _=>ft h) (λi _ h=>dD (P:=λu=>mM (.int i) u=true) h λt=>Hq i t) (λx _ h=>fj (P:=λu=>mM (.str x) u=true) h λt=>Ih x t) (λ_ h _=>ft h) (λ_ h _=>ft h) (λ_ h _=>ft h) (λ_ h _=>ft h) h x
end
theorem Eo:(lim:Int)<2^63:=by decide
theorem qO{n:Nat}(h:n<=lim):(n:Int)<2^63:=fu (cD.mpr h) Eo
theorem gD(x:S):(strOf x).length=x.length:=gY ..
structure Shp(x:az):Prop where
 slice:kQ x=true->∀o i,subscripted x false o i=operate [o,i] (getItem o i)
 star:notStar x=true->∀rest env,starEach (x::rest) env=(false,eval x env)::starEach rest env
 each:notStar x=true->∀env,(assignEach [x] env).map (·.2)=[assign x env]
 set:fT x=true->(∀op,behindInMarks op x=false)/\∀env v,foldedSetIterable x env v=pure v
 base:f9 x=true->∀n env whole,attributeBase x n env whole=whole
 call:notAttr x=true->∀as pos env,eval (.Call x as [] pos) env=(do callWith pos (<-eval x env) [] (backTo pos (starEach as env)) (backToKw pos (keywordEach [] env)))
 comp:(!cU x)=true->∀t line env,swapsWith x t line env=pure false
 swp:x.ctorIdx≠23->∀eltx gens scope pos line env,swapsWith (.ListComp eltx gens scope pos) (some x) line env=pure false
 sws:x.ctorIdx≠25->∀ts kk p env,swappedStores [.Tuple ts kk p] x env=pure none
theorem NX(x:az):Shp x:=by
 cases x<;>exact⟨by first|exact λ_ _ _=>rfl|exact λh=>ft h,by first|exact λ_ _ _=>rfl|exact λh=>ft h,by first|exact λ_ _=>rfl|exact λh=>ft h,by first|exact λ_=>⟨λ_=>rfl,λ_ _=>rfl⟩|exact λh=>ft h,by first|exact λ_ _ _ _=>rfl|exact λh=>ft h,by first|exact λ_ _ _ _=>rfl|exact λh=>ft h,by first|exact λ_ _ _ _=>rfl|exact λh=>ft h,by first|exact λ_ _ _ _ _ _ _=>rfl|exact λh=>(h rfl).elim,by first|exact λ_ _ _ _ _=>rfl|exact λh=>(h rfl).elim⟩
theorem gP{slice:az}{o i:ai}(h:kQ slice=true):subscripted slice false o i=operate [o,i] (getItem o i):=(NX slice).slice h o i
section
variable{prog:fK}{w:ky}{A:a7}{T:Tab}{ad:Ad}{s:ak}{E:ai->ak->Prop}
theorem dn{vs:List AV}{xs:Array ai}(h:eJ T ad vs xs.toList):xs.size=vs.length:=h.len.symm
theorem u5{d:ax}{kvs:List (AV×ai)}{k:AV}{key v:ai}{Q:Unit->ak->Prop}(hkey:(cV prog w).is k key=true)(hm:s.heap.DictAt (cV prog w) d kvs kvs.length)(hsz:kvs.length<=sizeLine)
  (hQ:∀h',h'.DictAt (cV prog w) d (stored kvs k v) (stored kvs k v).length->cb d s.heap h'->Q () {s with heap:=h',toks:=s.toks+1}):wpAny (model prog w) A (dictSet d key v) Q E s:=by
 obtain⟨o,es,ho,hc,hd,hk,hp,hn⟩:=hm
 have size_eq:es.size=kvs.length:=by rw[<-hp.length,pF]
 have idx:(es.findIdx? λe=>(cV prog w).is k e.key)=kvs.findIdx? λkv=>decide (kv.1=k):=by rw[<-hp.findIdx k];obtain⟨l⟩:=es;simp
 unfold dictSet
 refine aL (ag ((cV prog w).pyHash hkey ?_))
 unfold dictSetHashed
 refine aL (ag (wpAny_dictFind_of (s:={s with toks:=s.toks+1}) hkey ho hd hk ?_))
 cases hi:es.findIdx? λe=>(cV prog w).is k e.key with
 |some i=>
  have there:=any_of_findIdx_some (idx▸hi)
  have e:stored kvs k v=kvs.map (λkv=>if kv.1=k then(kv.1,v) else kv):=by rw[stored,if_pos there]
  refine ag (uy (ag (wpAny_updateDict (s:={s with toks:=s.toks+1}) ho hd (wpAny_point (hQ _ ⟨_,es.modify i λe=>{e with val:=v},aW _ ho (Ja (Obj.data_mapDict hd _)),hc.mapDict _,?_,hk.modify i v,?_,?_⟩ (cK ..))))))
  ·rw[e,aj];exact Obj.data_mapDict hd _
  ·rw[e]
   have hl:(es.toList.findIdx? λe=>(cV prog w).is k e.key)=some i:=by rw[<-hi];obtain⟨l⟩:=es;simp
   have:=hp.modify hn hl v
   obtain⟨l⟩:=es
   simpa using this
  ·rw[e,keys_map_store];exact hn
 |none=>
  have hnot:k∉kvs.map (·.1):=not_mem_of_findIdx_none (idx▸hi)
  have e:stored kvs k v=kvs++[(k,v)]:=by
   rw[stored,if_neg]
   rw[gm]
   rintro ⟨kv,hkv,he⟩
   exact hnot (aS.mpr ⟨kv,hkv,of_decide_eq_true he⟩)
  refine ag (uy (wpAny_updateDictKeys (hz:=size_eq▸hsz) (s:={s with toks:=s.toks+1}) ho hd (hQ _ ⟨_,es.push ⟨(cV prog w).hash k,key,v⟩,aW _ ho (Ja (G8 hd _)),hc.mapDictKeys _,?_,hk.push hkey v,?_,?_⟩ (cK ..))))
  ·rw[e,aw];exact G8 hd _
  ·rw[e]
   have:=hp.append hkey ((cV prog w).hash k) v
   obtain⟨l⟩:=es
   simpa using this
  ·rw[e,aN,dI]
   refine⟨hn,by simp,λa ha b hb z=>?_⟩
   simp only[cq,List.map_nil,au] at hb
   exact hnot (hb▸z▸ha)
theorem E1{d:ax}{kvs:List (AV×ai)}{k:AV}{key v:ai}{Q:Unit->ak->Prop}(hkey:(cV prog w).is k key=true)(hm:s.heap.DictAt (cV prog w) d kvs kvs.length)(hsz:kvs.length<=sizeLine)
  (hQ:∀h',h'.DictAt (cV prog w) d (stored kvs k v) (stored kvs k v).length->cb d s.heap h'->Q () {s with heap:=h',toks:=s.toks+1}):wpAny (model prog w) A (setItem (.ref d) key v) Q E s:=by
 have hT:=hm.dictOf.typeIs
 unfold setItem
 refine aL (ag (wpAny_sequenceKey hT (by decide) (ag (ix (name:=aa "__setitem__") hT slot_dict_setitem (gF slot_dict_setitem hT entry_dict_setitem ?_ (args_dict_setitem _ _ _))))))
 show wpAny _ _ (Builtin.Dict.notOrdered "__setitem__" ⟨[.ref d,key,v],[]⟩>>=_) _ _ s
 refine ag (wpAny_notOrdered_dict hT ?_)
 show wpAny _ _ (dictSet d key v>>=_) _ _ s
 exact ag (u5 hkey hm hsz λh' D S=>ao ⟨.none,rfl,ao (hQ h' D S)⟩)
theorem aG{α:Type}{a:α}{P:Prop}(h:none=some a):P:=(ja a h.symm).elim
theorem gS{α:Type}{p:Prop}[d:Decidable p]{a:Option α}{b:α}{P:Prop}(h:(if p then a else none)=some b)(k:p->a=some b->P):P:=
 jN (motive:=λd=>@ite _ p d a none=some b->P) d (λ_ h=>aG h) k h
theorem Nt{n:Int}{k:Nat}(h0:0<=n)(h:n.toNat<k)(hl:k<=lim):n<2^63:=Int.lt_trans ((CD h0).mp h) (qO hl)
theorem seqIndex_at{n:Int}{k:Nat}(h0:0<=n)(h:n.toNat<k):seqIndex? n k=some n.toNat:=by
 unfold seqIndex?
 rw[if_neg (gI.mpr h0)]
 exact if_pos ((bR _ _).mpr ⟨decide_eq_true h0,decide_eq_true ((CD h0).mp h)⟩)
theorem nS(o:Obj)(f:Array ai->Array ai):(o.mapSeq f).dict=o.dict:=by
 obtain⟨c,d,dt,sl⟩:=o
 cases dt<;>rfl
theorem Bw{l:ax}{items:Array ai}{k:Int}{t:Tok}{v:ai}{Q:Unit->ak->Prop}(hl:s.heap.IsList l items)(hnd:Vl s.heap l)(h0:0<=k)(hfit:k<2^63)(hn:k<items.size)
  (hQ:∀h',h'.IsList l (items.setIfInBounds k.toNat v)->Vl h' l->cb l s.heap h'->Q () {s with heap:=h'}):wpAny (model prog w) A (setItem (.ref l) (.int k t) v) Q E s:=by
 obtain⟨o,ho,hc,ne,hd⟩:=id hl
 obtain⟨o',ho',hdn⟩:=hnd
 rw[ho] at ho';cases ho'
 unfold setItem
 try with_reducible refine aL ?_
 first|refine ag (ao ?_)|skip
 refine ag (wpAny_sequenceKey hl.typeIs (by decide) ?_)
 refine ag (ix (name:=aa "__setitem__") hl.typeIs slot_list_setitem
  (gF slot_list_setitem hl.typeIs entry_list_setitem ?_ (args_list_setitem _ _ _)))
 show wpAny _ _ (Builtin.List.listSubscript? (.int k t)>>=_) _ _ s
 refine ag (wpAny_listSubscript_int (fitsIndex_of h0 hfit) ?_)
 clear hfit
 obtain⟨j,rfl⟩:=cS h0
 have hj:j<items.size:=bW.mp hn
 have hx':items[j]?=some items[j]:=Array.getElem?_eq_getElem hj
 show wpAny _ _ ((seqItemAt l j>>=λr=>pure (r.map (j,·)))>>=_) _ _ s
 refine ag (ag (wpAny_seqItemAt ho hd (ao ?_)))
 rw[hx']
 show wpAny _ _ (setSeqItemAt l j v>>=_) _ _ s
 obtain⟨n',hd'⟩:=Obj.data_mapSeq hd (·.setIfInBounds j v)
 have hat:=aW (yc (·.setIfInBounds j v)) ho (Jm hd')
 have hfin:(s.heap.update l (yc (·.setIfInBounds j v))).IsList l (items.setIfInBounds j v):=⟨_,hat,(Obj.cls_mapSeq ..).trans hc,n',hd'⟩
 refine ag (wpAny_setSeqItemAt ho hd ?_)
 first
  |exact ag (ao (ao ⟨.none,rfl,ao (hQ _ hfin ⟨_,hat,(nS ..).trans hdn⟩ (cK ..))⟩))
  |exact ao ⟨.none,rfl,ao (hQ _ hfin ⟨_,hat,(nS ..).trans hdn⟩ (cK ..))⟩
theorem vi{vs:List AV}{us:List ai}(h:eJ T ad vs us):∀is:List Nat,eJ T ad (is.filterMap (vs[·]?)) (is.filterMap (us[·]?))
 |[]=>.nil
 |i::is=>by
  rw[dO,dO]
  cases e:vs[i]? with
  |none=>
   have:us[i]?=none:=by
    rw[gu,<-h.len]
    exact gu.mp e
   rw[this];exact vi h is
  |some v=>
   obtain⟨x,hx,hV⟩:=h.get e
   rw[hx];exact .cons hV (vi h is)
theorem part_of{v:AV}{u:ai}{a:Int}(h:VR T ad (.int a) u):IsPart u (some a):=dD h λt=>.int a t
end
theorem R7{α:Type}[BEq α](vs:List α):((vs.length:Int)!=0)=(vs !=[]):=by
 cases vs with
 |nil=>rfl
 |cons a r=>exact(bne_iff_ne.mpr (λe=>mV _ (gZ e)):(((a::r).length:Int)!=0)=true)
theorem Tx{α:Type}[BEq α]{vs:List α}{β:Type}{xs:Array β}(h:xs.size=vs.length):(!xs.isEmpty)=(vs !=[]):=by
 rw[Array.isEmpty,h]
 cases vs<;>rfl
theorem nk{α:Type}{xs:Array α}{i:Nat}{x:α}(h:xs.toList[i]?=some x):xs[i]?=some x:=Array.getElem?_toList.symm.trans h
section
variable{g:Gl}{fr X:List ax}{p:Pt}{s:ak}{tk:Nat}{A:a7}{E:ai->ak->Prop}{Er:Nat->Hp->Prop}{K:ai->ak->Prop}
theorem ji{v:AV}{u:ai}{Q:Bool->Hp->Prop}{K:Bool->ak->Prop}(I:Inv g fr p)(hu:VR g.T p.ad v u)(h:Wp (cv v p.σ) Q Er)(k:∀b tk,Q b p.σ->K b (p.on s tk)):wpAny g.M A (truthy u) K E (p.on s tk):=by
 cases v with
 |none=>cases hu;exact truthy_none (k _ _ h)
 |bool c=>cases hu;exact eR (k _ _ h)
 |int i=>exact dD hu λt=>truthy_int (k _ _ h)
 |str x=>exact cB h λhl q=>fj hu λt=>PySem.P.truthy_str (gD x▸rB.mpr (qO hl)) (k _ _ (show Q (((strOf x).length:Int)!=0) _ from gD x▸R7 x▸q))
 |ref l=>exact cw h λo e h=>jf (P:=λo=>p.σ[l]?=some o->_) h (λvs q e=>dB hu λa d hp=>match (I.objs l _ e _ hp:dN g p.h p.ad a vs) with
   |⟨xs,hL,hv,hl,_⟩=>wpAny_truthy_list hL (dn hv▸qO hl) (k _ _ (Tx (dn hv)▸q))) e
 |_=>exact h.elim
theorem jA{d:ax}(I:Inv g fr p)(hs:∃o,g.base.get? sysModules=some o)(hd:own p.ad d):(d==sysModules)=false:=
 beq_eq_false_iff_ne.mpr λe=>hs.elim λo ho=>aX (I.off _ hd).b (e▸ho)
theorem J8{vs:List AV}{i:AV}{k:ai}{Q:AV->Hp->Prop}{P:Prop}{us:List ai}(h:Wp (S6 vs i p.σ) Q Er)(hk:VR g.T p.ad i k)(V:eJ g.T p.ad vs us)(c:∀n t v u,k=.int n t->0<=n->n.toNat<vs.length->us[n.toNat]?=some u->VR g.T p.ad v u->Q v p.σ->P):P:=
 fA (P:=λi=>VR g.T p.ad i k->P) h (λn h hk=>cB h λh0 h=>jU h λv hv q=>hk.elim λt e=>(V.get hv).elim λu z=>c n t v u e h0 (aq.mp hv).1 z.1 z.2 q) hk
theorem DH{o i:AV}{u kv:ai}{value slice:az}{Q:AV->Hp->Prop}(I:Inv g fr p)(hsl:kQ slice=true)(hu:VR g.T p.ad o u)(hk:VR g.T p.ad i kv)(h:Wp (UP o i p.σ) Q Er)
  (k:∀z y tk,Q z p.σ->VR g.T p.ad z y->K y (p.on s tk)):wpAny g.M A (subscriptTail value slice u kv) K E (p.on s tk):=by
 cases o with
 |ref l=>
  refine cw h λo e h=>dB hu λa d hp=>?_
  have H:=I.objs l _ e _ hp
  clear e
  cases o with
  |list vs=>exact match (H:dN g p.h p.ad a vs) with
   |⟨xs,hL,hv,hl,_⟩=>J8 h hk hv λn t v u e h0 hn hx hV q=>e▸tail_any hL.typeIs wy.lookup (wpAny_getItem_list hL h0 (Nt h0 hn hl) (nk hx) (k v u _ q hV)) (gP hsl)
  |tup vs=>exact match (H:TupAt g p.h p.ad a vs) with
   |⟨xs,hL,hv,hl⟩=>J8 h hk hv λn t v u e h0 hn hx hV q=>e▸tail_any (T:="tuple") (hL.elim λo z=>⟨o,z.1,z.2.1⟩) slot_tuple_getitem.lookup (PyProof.Rows.getItem_tuple hL (cE (by decide) h0) (Nt h0 hn hl) (seqIndex_at h0 (dn hv▸hn)) (nk hx) (k v u _ q hV)) (gP hsl)
  |dict es=>exact cB h λhkey h=>jU h λv hv q=>match (H:g7 g p.h p.ad a es) with
   |⟨kvs,hD,V,hl⟩=>(xx V hv).elim λu z=>tail_any hD.dictOf.typeIs slot_dict_getitem.lookup (wpAny_getItem_of (key_is hkey hk) hD.dictOf.mapOf z.1 (k v u _ q z.2)) (gP hsl)
  |_=>exact h.elim
 |str x=>
  refine fj hu λt=>fA (P:=λi=>VR g.T p.ad i kv->_) h (λn h hk=>cB h λh0 h=>jU h λc hc q=>dD hk λtn=>?_) hk
  have hch:Txt.charAt (strOf x) n=some c:=by
   unfold Txt.charAt
   rw[seqIndex_at h0.1 (gD x▸(aq.mp hc).1)]
   exact(CE ..).trans hc
  have e:Txt.item (strOf x) n=strOf [c]:=by unfold Txt.item;rw[hch];rfl
  refine tail_any (typeIs_str _ _ _) wz.lookup (SB.getItem ?_ (by rw[hch];rfl) (k (.str [c]) (.str (Txt.item (strOf x) n) tk) (tk+1) q ⟨tk,congrArg (Jn · tk) e⟩)) (gP hsl)
  rw[(show fitsSsize n=true from(congrArg not (E5.mpr ⟨decide_eq_false (gI.mpr (cE (by decide) h0.1)),decide_eq_false (rB.mpr (fu h0.2 Eo))⟩)))]
 |_=>exact h.elim
theorem CV{o i z:AV}{u kv y:ai}{Q:Unit->Hp->Prop}{K:Unit->ak->Prop}(I:Inv g fr p)(hu:VR g.T p.ad o u)(hk:VR g.T p.ad i kv)(hz:VR g.T p.ad z y)(h:Wp (IG o i z p.σ) Q Er)
  (k:∀p' tk,Q () p'.σ->gH g [] fr p p'->K () (p'.on s tk)):wpAny g.M A (setItem u kv y) K E (p.on s tk):=by
 refine iq (P:=λv=>VR g.T p.ad v u->_) h (λl h hu=>cw h λo e h=>dB hu λa d hp=>?_) hu
 have H:=I.objs l _ e _ hp
 clear e
 cases o with
 |list vs=>
  refine match (H:dN g p.h p.ad a vs) with
   |⟨xs,hL,hv,hl,hno⟩=>fA (P:=λi=>VR g.T p.ad i kv->_) h (λn h hk=>cB h λh0 q=>dD hk λt=>Bw hL hno h0.1 (Nt h0.1 h0.2 hl) (dn hv▸(CD h0.1).mp h0.2) λh' hL' hno' hs=>?_) hk
  exact k ⟨_,_,_⟩ _ q ⟨I.upd hp (.inl rfl) hs (hL'.elim λo z=>⟨o,z.1⟩) (show dN g h' p.ad a _ from⟨_,hL',by rw[Array.toList_setIfInBounds];exact hv.set hz,by rw[aQ];exact hl,hno'⟩),.lQ (own.l hp) hs⟩
 |dict es=>
  refine match (H:g7 g p.h p.ad a es) with
   |⟨kvs,hD,hv,hl⟩=>cB h λh0 q=>E1 (key_is h0.1 hk) hD (hv.len▸ah hl eK) λh' hD' hs=>?_
  have H':=tC h0.1 hz hv hD.nodup
  exact k ⟨_,_,_⟩ _ q ⟨I.upd hp (.inl rfl) hs (hD'.elim λo z=>z.elim λ_ z=>⟨o,z.1⟩) (show g7 g h' p.ad a _ from⟨_,hD',H',H'.len▸ah (stored_length_le kvs i y) (hv.len▸h0.2)⟩),.lQ (own.l hp) hs⟩
 |_=>exact h.elim
inductive Zl(vs ws:List AV)(xs:Array ai)(g:Gl)(p:Pt)(a b c:ai):Prop where
 |mk (lo' hi' st':Option Int) (q1:IsPart a lo') (q2:IsPart b hi') (q3:IsPart c st') (q4:st'≠some 0) (q5:eJ g.T p.ad ws (slicePick xs lo' hi' st').toList)
theorem Ma{n:Int}(h:0<=n):((n.toNat:Nat):Int)=n:=Jb h
theorem u0{u:ai}{ad:Ad}{T:Tab}(h:VR T ad .none u):IsPart u none:=(h:u=.none)▸.none
theorem I3{vs ws:List AV}{xs:Array ai}{lo hi st:AV}{a b c:ai}(hv:eJ g.T p.ad vs xs.toList)(ha:VR g.T p.ad lo a)(hb:VR g.T p.ad hi b)(hc:VR g.T p.ad st c)(h:TK vs lo hi st=some ws):Zl vs ws xs g p a b c:=by
 cases lo with
 |none=>
  cases hi with
  |int n=>
   have h:(if 0<=n/\st=.none then some (vs.take n.toNat) else none)=some ws:=h
   by_cases q:0<=n/\st=.none
   ·rw[if_pos q] at h
    have e:=slicePick_upto' xs n.toNat
    rw[Ma q.1] at e
    exact⟨none,some n,none,u0 ha,part_of (v:=.none) hb,u0 (q.2▸hc),λe=>(nomatch e),e▸ae h▸hv.take _⟩
   ·rw[if_neg q] at h;cases h
  |_=>cases h
 |int n=>
  have h:(if 0<=n/\hi=.none then(match st with|.none=>some (vs.drop n.toNat)|.int s=>if 0<s then some (nM vs n s) else .none|_=>.none) else none)=some ws:=h
  by_cases q:0<=n/\hi=.none
  ·rw[if_pos q] at h
   cases st with
   |none=>
    have e:=slicePick_from' xs n.toNat
    rw[Ma q.1] at e
    exact⟨some n,none,none,part_of (v:=.none) ha,u0 (q.2▸hb),u0 hc,λe=>(nomatch e),e▸ae h▸hv.drop _⟩
   |int m=>
    have h:(if 0<m then some (nM vs n m) else none)=some ws:=h
    by_cases z:0<m
    ·rw[if_pos z] at h
     refine⟨some n,none,some m,part_of (v:=.none) ha,u0 (q.2▸hb),part_of (v:=.none) hc,λe=>Ab 0 (ae e▸z),?_⟩
     rw[<-ae h]
     unfold slicePick nM
     rw[dn hv]
     have:=vi hv (sliceRange (sliceBounds (some n) none (some m) vs.length).1 (sliceBounds (some n) none (some m) vs.length).2.1 (sliceBounds (some n) none (some m) vs.length).2.2)
     simpa using this
    ·rw[if_neg z] at h;cases h
   |_=>cases h
  ·rw[if_neg q] at h;cases h
 |_=>cases h
theorem HY{o lo hi st:AV}{u a b c:ai}{value slice:az}{sl:ax}{Q:AV->Hp->Prop}(I:Inv g fr p)(hu:VR g.T p.ad o u)(ha:VR g.T p.ad lo a)(hb:VR g.T p.ad hi b)(hc:VR g.T p.ad st c)
  (hsl:p.h.IsSliceOf sl a b c) (hops:∀u,∃ops,subscripted slice false u (.ref sl)=operate ops (getItem u (.ref sl))) (h:Wp (cut o lo hi st p.σ) Q Er) (k:KC g X fr (VV g) s p Q K):wpAny g.M A (subscriptTail value slice u (.ref sl)) K E (p.on s tk):=by
 cases o with
 |ref l=>
  refine cw h λo e h=>jf (P:=λo=>p.σ[l]?=some o->_) h (λvs h e=>jU h λws hw h=>gw h λhlen q=>dB hu λx d hp=>?_) e
  match (I.objs l _ e _ hp:dN g p.h p.ad x vs) with
  |⟨xs,hL,hv,hl,_⟩=>exact match I3 hv ha hb hc hw with
   |⟨lo',hi',st',q1,q2,q3,q4,q5⟩=>(hops (.ref x)).elim λops hops=>have e:=aE (h:=p.h) (o:=listOf (slicePick xs lo' hi' st') 0) rfl
    tail_any hL.typeIs wy.lookup (G9 hL hsl q1 q2 q3 q4 (ic (o:=.list ws) (ob:=listOf (slicePick xs lo' hi' st') 0) I rfl ⟨_,⟨_,e,rfl,_,rfl⟩,q5.app,hlen,_,e,rfl⟩ λv u p' tk e=>k v u p' tk (eqQ q e)) (dn hv▸ah hl eK)) hops
 |str x=>
  refine fj hu λt=>cB h λhn h=>fA (P:=λi=>VR g.T p.ad i b->_) h (λn h hb=>cB h λh0 q=>(hops (.str (strOf x) t)).elim λops hops=>?_) hb
  obtain⟨tn,rfl⟩:=hb
  cases (hn.1▸ha:VR g.T p.ad .none a)
  cases (hn.2▸hc:VR g.T p.ad .none c)
  have hS:p.h.IsSlice sl none (some (n,tn)) none:=hsl
  refine tail_any (typeIs_str _ _ t) wz.lookup (wpAny_getItem_str_slice hS rfl ?_) hops
  have e:Txt.slice (strOf x) none (some n)=strOf (x.take n.toNat):=by
   have:=slice_closes_to (x:=strOf x) (j:=n) (by rw[rM];exact⟨h0.1,h0.2.1⟩)
   rw[beq_iff_eq.mp this,rM]
   simp[strOf]
  have e':(if((1:Int)==1&&(fe none (some n) 1 (strOf x).length).length==(strOf x).length)=true then strOf x else⟨((fe none (some n) 1 (strOf x).length).filterMap ((strOf x).cps[·]?)).toArray⟩)=strOf (x.take n.toNat):=e
  unfold sliceMade
  show Made.post (if((1:Int)==1&&(fe none (some n) 1 (strOf x).length).length==(strOf x).length)=true then _ else _) K (p.on s tk)
  by_cases z:((1:Int)==1&&(fe none (some n) 1 (strOf x).length).length==(strOf x).length)=true
  ·rw[if_pos z] at e'⊢
   exact k _ _ p _ q (.refl I) ⟨t,by rw[e']⟩
  ·rw[if_neg z] at e'⊢
   refine⟨ah (aH (congrArg Str.length e')) ?_,k _ _ p _ q (.refl I) ⟨_,by rw[<-e'];rfl⟩⟩
   rw[gD,eV]
   exact ah (Nat.min_le_right ..) (ah h0.2.2 eK)
 |_=>exact h.elim
end
theorem GF{α:Type}{p:Prop}[d:Decidable p]{a:Option α}{b:α}{P:Prop}(h:(if p then none else a)=some b)(k:¬p->a=some b->P):P:=if q:p then aG ((if_pos q).symm.trans h) else k q ((if_neg q).symm.trans h)
theorem log2_small{n:Nat}(h:¬2^128<n):n.log2<9000:=if z:n=0 then z▸(by decide:Nat.log2 0<9000) else cg ((Nat.log2_lt z).mpr (aB (iP.mp h) (by decide:2^128<2^129))) (by decide)
theorem Ot{n m:Nat}(q:iy n<=m):n<2^m:=by
 by_cases z:n=0
 ·rw[z];exact Nat.two_pow_pos m
 ·exact aY Nat.lt_log2_self (Nat.pow_le_pow_right (by decide) ((if_neg λh=>z (Int.natCast_eq_zero.mp (eq_of_beq h)):iy n=n.log2+1)▸q))
theorem aai{n m:Nat}(q:iy n<=m):(n:Int).fdiv (2^(m:Int).toNat)=0:=by
 show(n:Int).fdiv (2^m)=0
 rw[show(2:Int)^m=((2^m:Nat):Int) from(Int.natCast_pow 2 m).symm,yd _ (bI _)]
 exact Int.ediv_eq_zero_of_lt (bI _) (bW.mpr (Ot q))
theorem R8{n:Int}(h0:0<=n)(h1:n<=lim):Builtin.List.listFitsIndex n=true:=(bR _ _).mpr ⟨decide_eq_true (cE (by decide) h0),decide_eq_true (fu h1 Eo)⟩
theorem Mv{n:Int}{y:ai}(h1:n<=lim):(#[y]:Array ai).size*n.toNat<=lim:=ah (aH (Nat.one_mul _)) (Int.toNat_le.mpr h1)
section
variable{prog:fK}{w:ky}{A:a7}{s:ak}{E:ai->ak->Prop}
theorem Dj{op:Op}{a b z:Int}{t u:Tok}{Q:ai->ak->Prop}(hr:r5 op a b=some z)(hQ:∀tk,Q (.int z tk) {s with toks:=s.toks+1}):wpAny (model prog w) A (binaryOp (zf op) (.int a t) (.int b u)) Q E s:=by
 cases op with
 |add=>cases hr;exact PySem.P.add_int (hQ _)
 |sub=>cases hr;exact PySem.P.sub_int (hQ _)
 |mul=>exact gS hr λh e=>by cases e;exact PySem.P.mul_int (hQ _) (.of_left (PySem.intBits_le_64 h.1 h.2))
 |floordiv=>exact GF hr λh e=>by cases e;exact PySem.AutoIntOps.floordiv_1 (λz=>h (.inl (eq_of_beq z))) (by rw[PyProof.noPylong_of_log2 (log2_small λz=>h (.inr z))];decide) (hQ _)
 |mod=>exact GF hr λh e=>by cases e;exact PySem.AutoIntOps.mod_1 (λz=>h (eq_of_beq z)) (hQ _)
 |pow=>
  refine gS hr λh e=>?_
  ·cases e
   rcases h with⟨rfl,rfl⟩|⟨rfl,rfl⟩|⟨rfl,rfl⟩<;>exact PySem.AutoIntOps.pow_4 (by decide) (by decide) (by decide) (by decide) (by decide+kernel) (hQ _)
 |shr=>
  refine gS hr λh e=>?_
  ·cases e
   obtain⟨h1,h2,h3⟩:=h
   by_cases q:b>=((iy a:Nat):Int)
   ·refine PySem.AutoIntOps.rshift_1 (gI.mpr h1) q ?_
    obtain⟨n,rfl⟩:=cS h3
    obtain⟨m,rfl⟩:=cS h1
    rw[if_neg (gI.mpr h3),<-aai (cD.mp q)]
    exact hQ _
   ·exact PySem.AutoIntOps.rshift_2 (gI.mpr h1) q (hQ _)
 |sA=>cases hr;exact PyProof.Rows.and_int (hQ _)
 |AW=>cases hr;exact PyProof.Rows.or_int (hQ _)
end
section
variable{g:Gl}{fr X:List ax}{p:Pt}{s:ak}{tk:Nat}{A:a7}{E:ai->ak->Prop}{Er:Nat->Hp->Prop}{K:ai->ak->Prop}{Q:AV->Hp->Prop}
inductive W8(h:bt)(a:ax)(xs:Array ai):Prop where
 |mk (d:Option ax) (n:Nat) (sl:Array (Option ai)) (e:h.get? a=some ⟨.type "list",d,.seq xs n,sl⟩)
theorem KG{h:bt}{a:ax}{xs:Array ai}(H:h.IsList a xs):W8 h a xs:=by
 obtain⟨⟨c,d,dt,sl⟩,e,hc,n,hd⟩:=H
 cases hc;cases hd
 exact⟨d,n,sl,e⟩
theorem I8(x y:S):strOf x++strOf y=strOf (x++y):=by
 show Str.append _ _=_
 unfold Str.append strOf
 simp
theorem Rk{ws:List AV}{us:Array ai}(I:Inv g fr p)(V:eJ g.T p.ad ws us.toList)(hl:ws.length<=lim)(q:Q (.ref p.σ.length) (p.σ++[.list ws]))(k:KC g X fr (VV g) s p Q K):K (.ref p.h.objs.size) {p.on s tk with heap:=p.h.push (listOf us 0)}:=
 have e:=aE (h:=p.h) (o:=listOf us 0) rfl
 ic (o:=.list ws) (ob:=listOf us 0) I rfl ⟨us,⟨_,e,rfl,_,rfl⟩,V.app,hl,_,e,rfl⟩ λv u p' tk e=>k v u p' tk (eqQ q e)
theorem Ig{op:Op}{a b:AV}{u v:ai}(I:Inv g fr p)(hu:VR g.T p.ad a u)(hv:VR g.T p.ad b v)(h:Wp (SR op a b p.σ) Q Er)(k:KC g X fr (VV g) s p Q K):wpAny g.M A (binaryOp (zf op) u v) K E (p.on s tk):=by
 cases a with
 |int x=>exact fA (P:=λb=>VR g.T p.ad b v->_) h (λy h hv=>jU h λn e q=>dD hu λt=>dD hv λt'=>Dj e λtk=>k _ _ p _ q (.refl I) ⟨tk,rfl⟩) hv
 |str x=>exact qf (P:=λb=>VR g.T p.ad b v->_) h (λy h hv=>cB h λhc q=>fj hu λt=>fj hv λt'=>hc.1▸
   PyProof.Rows.add_str (λt' tk=>k _ _ p tk q (.refl I) ⟨t',congrArg (Jn · t') (I8 x y)⟩) (by rw[gD,gD];exact ah (eZ hc.2.1 hc.2.2) (by decide))) hv
 |ref l=>
  refine cw h λo e h=>jf (P:=λo=>p.σ[l]?=some o->_) h (λxs h e=>dB hu λa1 d1 hp=>?_) e
  match (I.objs l _ e _ hp:dN g p.h p.ad a1 xs) with
  |⟨us,L1,hv1,hl1,_⟩=>exact match KG L1 with
   |⟨od1,n1,sl1,g1⟩=>by
    cases b with
    |ref l'=>
     refine cw h λo e h=>jf (P:=λo=>p.σ[l']?=some o->_) h (λys h e=>cB h λhop h=>gw h λhlen q=>dB hv λa2 d2 hp'=>?_) e
     cases hop
     match (I.objs l' _ e _ hp':dN g p.h p.ad a2 ys) with
     |⟨ws,L2,hv2,hl2,_⟩=>exact match KG L2 with
      |⟨od2,n2,sl2,g2⟩=>concat_meets ⟨_,g1,rfl⟩ ⟨_,g2,rfl⟩ noFill_list_add seq_list_add PySem.F.slot_list_add PySem.F.entry_list_add (PySem.F.args_list_add_2 _ _) (list_addW a1 a2 us ws n1 n2 od1 od2 sl1 sl2 (by rw[dn hv1,dn hv2,<-aw];exact ah hlen eK)) ⟨g1,g2,Rk I (by rw[Array.toList_append];exact hv1.append hv2) hlen q k⟩
    |int n=>
     cases xs with
     |nil=>exact h.elim
     |cons x r=>
     cases r with
     |cons _ _=>exact h.elim
     |nil=>
      refine cB h λhc h=>gw h λhlen q=>dD hv λt=>?_
      obtain⟨rfl,h0,h1⟩:=hc
      obtain⟨y,ys,ey,hV,hN⟩:=hv1.cons_inv
      obtain rfl:=hN.nil_inv
      have eu:us=#[y]:=Array.ext' ey
      subst eu
      have e1:List.foldl (λx1 x2=>x1++x2) #[] (aM (if(#[y]:Array ai).isEmpty=true then 0 else n.toNat) #[y])=(aM n.toNat y).toArray:=by
       rw[PyProof.Rows.listMul_foldl_if]
       show(aM n.toNat [y]).flatten.toArray=_
       rw[PyProof.Rows.lm_rep_flat_one]
      exact wpAny_binaryOp_repeat_ref (T:="list") (U:="int") (by decide) ⟨_,g1,rfl⟩ (λs'=>typeIs_int s' n t) noFill_list_mul PySem.F.fills_int_mul zV repeat_list PySem.F.slot_int_index.lookup
       (call_meets zV (typeIs_int (p.on s tk) n t) PySem.F.entry_int_rmul (PySem.F.args_int_rmul_2 _ _) (lm_int_rmul_list_any n t a1 #[y] n1 od1 sl1)
        ⟨g1,rfl,⟨_,g1,rfl⟩,call_meets PySem.F.slot_list_mul ⟨_,g1,rfl⟩ PySem.F.entry_list_mul (PySem.F.args_list_mul_2 _ _)
         (lm_list_mul_any a1 #[y] n1 od1 sl1 n t (by rw[R8 h0 h1];decide) (iP.mpr (ah (Mv h1) (by decide))) (λz=>iP.mpr (ah (Mv h1) eK) (of_decide_eq_true z))) ⟨g1,e1▸Rk I (.replicate hV _) hlen q k⟩⟩)
    |_=>exact h.elim
 |_=>exact h.elim
end
noncomputable def nb(n b:Bool):Bool:=match n with
 |true=>!b
 |false=>b
noncomputable def Nb(n:Bool):CmpOp:=match n with
 |true=>.NotEq
 |false=>.Eq
noncomputable def X7(n:Bool):CmpOp:=match n with
 |true=>.NotIn
 |false=>.In
noncomputable def OW(n:Bool):CmpOp:=match n with
 |true=>.IsNot
 |false=>.Is
section
variable{prog:fK}{M:fY}{w:ky}{A:a7}{T:Tab}{ad:Ad}{s:ak}{E:ai->ak->Prop}{Q:ai->ak->Prop}{n:Bool}
theorem cEq{a b:ai}{da db:dm}{as bs:List ax}(ra:Reads s.heap a da as)(rb:Reads s.heap b db bs)(ha:bL da=true)(hb:bL db=true)(hu:A.units+64<cLine)(h:Q (.bool (nb n (fb da db))) s):wpAny (model prog w) A (compareOp (Nb n) a b) Q E s:=
 match n,h with
 |true,h=>SeqAt.compareNe_shaped ra rb ha hb hu h
 |false,h=>SeqAt.compareEq_shaped ra rb ha hb hu h
theorem Ra{knd:KeyKind prog w AV}{a b:ax}{ka kb:List (AV×ai)}{r:Bool}(ha:(a==sysModules)=false)(hb:(b==sysModules)=false)(da:s.heap.DictOf knd a ka)(db:s.heap.DictOf knd b kb)(hu:A.units<cLine)(hits:ka.length=kb.length->KeqHits A.in1 s kb ka r)
  (h:Q (.bool (nb n (ka.length==kb.length&&r))) s):wpAny (model prog w) A (compareOp (Nb n) (.ref a) (.ref b)) Q E s:=match n,h with
 |true,h=>keq_ne ha hb da db hu hits h
 |false,h=>keq_eq ha hb da db hu hits h
theorem XW{a b:ai}(hp:plainIs a b=true)(h:Q (.bool (nb n (a==b))) s):wpAny M A (compareOp (OW n) a b) Q E s:=match n,h with
 |true,h=>wpAny_isNot_plain hp h
 |false,h=>wpAny_is_plain hp h
theorem Qk{x:ax}(h:Q (.bool (nb n true)) s):wpAny M A (compareOp (OW n) (.ref x) (.ref x)) Q E s:=match n,h with
 |true,h=>wpAny_isNot_ref_self h
 |false,h=>wpAny_is_ref_self h
theorem Km{x y:ax}{ox oy:Obj}(hxy:x≠y)(hx:s.heap.get? x=some ox)(hy:s.heap.get? y=some oy)(hnt:ox.cls≠.type "tuple")(h:Q (.bool (nb n false)) s):wpAny M A (compareOp (OW n) (.ref x) (.ref y)) Q E s:=match n,h with
 |true,h=>wpAny_isNot_ref_other hxy hx hy hnt h
 |false,h=>wpAny_is_ref_other hxy hx hy hnt h
theorem gC{v:AV}{u:ai}{d:dm}(hu:VR T ad v u)(e:vY v=some d)(h:bt):Reads h u d []:=by
 cases v with
 |none=>cases hu;exact ae e▸.none
 |bool b=>cases hu;exact ae e▸.bool _
 |int i=>exact dD hu λt=>ae e▸.int _ t
 |str x=>exact fj hu λt=>ae e▸.str _ t
 |_=>exact aG e
theorem Gh{x r:Bool}{u v:ai}(h1:∀{Q:ai->ak->Prop},Q (.bool (!x)) s->wpAny M A (compareOp .NotEq u v) Q E s)(h2:∀{Q:ai->ak->Prop},Q (.bool x) s->wpAny M A (compareOp .Eq u v) Q E s)(e:some x=some r)(h:Q (.bool (nb n r)) s):wpAny M A (compareOp (Nb n) u v) Q E s:=by
 cases ae e
 cases n with
 |true=>exact h1 h
 |false=>exact h2 h
theorem JR{a b:AV}{u v:ai}{r:Bool}(hu:VR T ad a u)(hv:VR T ad b v)(e:w5 a b=some r)(h:Q (.bool (nb n r)) s):wpAny (model prog w) A (compareOp (Nb n) u v) Q E s:=by
 cases a with
 |none=>
  cases hu
  cases b with
  |none=>cases hv;exact Gh EqNone.ne_none_none EqNone.eq_none_none e h
  |bool y=>cases hv;exact Gh EqNone.ne_none_bool EqNone.eq_none_bool e h
  |int y=>exact dD hv λt'=>Gh EqNone.ne_none_int EqNone.eq_none_int e h
  |str y=>exact fj hv λt'=>Gh EqNone.ne_none_str EqNone.eq_none_str e h
  |_=>exact aG e
 |bool x=>
  cases hu
  cases b with
  |none=>cases hv;exact Gh EqNone.ne_bool_none EqNone.eq_bool_none e h
  |bool y=>cases hv;exact Gh PyProof.Rows.ne_bool PyProof.Rows.eq_bool e h
  |str y=>exact fj hv λt'=>Gh EqMixed.ne_bool_str EqMixed.eq_bool_str e h
  |_=>exact aG e
 |int x=>
  cases b with
  |none=>cases hv;exact dD hu λt=>Gh EqNone.ne_int_none EqNone.eq_int_none e h
  |int y=>exact dD hu λt=>dD hv λt'=>Gh PySem.P.ne_int PySem.P.eq_int e h
  |str y=>exact dD hu λt=>fj hv λt'=>Gh EqMixed.ne_int_str Cz e h
  |_=>exact aG e
 |str x=>
  cases b with
  |none=>cases hv;exact fj hu λt=>Gh EqNone.ne_str_none EqNone.eq_str_none e h
  |bool y=>cases hv;exact fj hu λt=>Gh EqMixed.ne_str_bool EqMixed.eq_str_bool e h
  |int y=>exact fj hu λt=>dD hv λt'=>Gh EqMixed.ne_str_int CA e h
  |str y=>exact fj hu λt=>fj hv λt'=>Gh PySem.P.ne_str PySem.P.eq_str e h
  |_=>exact aG e
 |_=>exact aG e
inductive rX(a b:AV)(r:Bool):Prop where
 |mk (x y:dm) (h1:vY a=some x) (h2:vY b=some y) (h3:fb x y=r)
theorem Hy(x y:S):(strOf x==strOf y)=(x==y):=by
 by_cases q:x=y
 ·subst q;rw[beq_self_eq_true,beq_self_eq_true]
 ·rw[beq_eq_false_iff_ne.mpr q,beq_eq_false_iff_ne.mpr λz=>q (sJ z)]
theorem NB{a b:AV}{r:Bool}:w5 a b=some r->rX a b r:=
 AV.casesOn (motive:=λa=>w5 a b=some r->rX a b r) a
  (AV.casesOn (motive:=λb=>w5 .none b=some r->rX .none b r) b (λe=>⟨_,_,rfl,rfl,ae e⟩) (λ_ e=>⟨_,_,rfl,rfl,ae e⟩) (λ_ e=>⟨_,_,rfl,rfl,ae e⟩) (λ_ e=>⟨_,_,rfl,rfl,ae e⟩) (λ_=>aG) (λ_=>aG) (λ_=>aG) (λ_=>aG))
  (λx=>AV.casesOn (motive:=λb=>w5 (.bool x) b=some r->rX (.bool x) b r) b (λe=>⟨_,_,rfl,rfl,ae e⟩) (λ_ e=>⟨_,_,rfl,rfl,ae e⟩) (λ_=>aG) (λ_ e=>⟨_,_,rfl,rfl,ae e⟩) (λ_=>aG) (λ_=>aG) (λ_=>aG) (λ_=>aG))
  (λx=>AV.casesOn (motive:=λb=>w5 (.int x) b=some r->rX (.int x) b r) b (λe=>⟨_,_,rfl,rfl,ae e⟩) (λ_=>aG) (λ_ e=>⟨_,_,rfl,rfl,ae e⟩) (λ_ e=>⟨_,_,rfl,rfl,ae e⟩) (λ_=>aG) (λ_=>aG) (λ_=>aG) (λ_=>aG))
  (λx=>AV.casesOn (motive:=λb=>w5 (.str x) b=some r->rX (.str x) b r) b (λe=>⟨_,_,rfl,rfl,ae e⟩) (λ_ e=>⟨_,_,rfl,rfl,ae e⟩) (λ_ e=>⟨_,_,rfl,rfl,ae e⟩) (λy e=>⟨_,_,rfl,rfl,(Hy x y).trans (ae e)⟩) (λ_=>aG) (λ_=>aG) (λ_=>aG) (λ_=>aG))
  (λ_=>aG) (λ_=>aG) (λ_=>aG) (λ_=>aG)
theorem gL{α β:Type}{f:α->β}{o:Option α}{b:β}{P:Prop}(h:o.map f=some b)(k:∀a,o=some a->f a=b->P):P:=jM (motive:=λo'=>o=o'->o'.map f=some b->P) o (λ_ h=>aG h) (λa e h=>k a e (ae h)) rfl h
end
section
variable{g:Gl}{fr X:List ax}{p:Pt}{s:ak}{tk:Nat}{A:a7}{E:ai->ak->Prop}{Er:Nat->Hp->Prop}{K:ai->ak->Prop}
theorem DK{f:AV->Option dm}{v:AV}{vs:List AV}{ds:List dm}{P:Prop}(e:eA f (v::vs)=some ds)(k:∀d ds',f v=some d->eA f vs=some ds'->ds=d::ds'->P):P:=by
 have e:(match f v with|some d=>(eA f vs).map (d::·)|.none=>.none)=some ds:=e
 cases e1:f v with
 |none=>rw[e1] at e;exact aG e
 |some d=>rw[e1] at e;exact gL e λds' e2 e=>k d ds' e1 e2 e.symm
theorem vV{o:Option aF}{f:List AV->Option (List dm)}{d:dm}{P:Prop}(e:pW o (λvs=>(f vs).map .list) (λvs=>(f vs).map .tuple)=some d)(kl:∀vs ds,o=some (.list vs)->f vs=some ds->.list ds=d->P)(kt:∀vs ds,o=some (.tup vs)->f vs=some ds->.tuple ds=d->P):P:=by
 cases o with
 |none=>exact aG e
 |some o=>cases o with
  |list vs=>exact gL e λds e1 e2=>kl vs ds rfl e1 e2
  |tup vs=>exact gL e λds e1 e2=>kt vs ds rfl e1 e2
  |_=>exact aG e
theorem xI{f:AV->Option dm}{T:Tab}{ad:Ad}{h:bt}(ih:∀{v:AV}{u:ai}{d:dm},f v=some d->VR T ad v u->∃as,Reads h u d as){vs:List AV}{us:List ai}(V:eJ T ad vs us):∀{ds:List dm},eA f vs=some ds->∃as,ReadsAll h us ds as:=by
 induction V with
 |nil=>exact λe=>ae e▸⟨_,.nil⟩
 |cons hv V ihV=>exact λe=>DK e λd ds' e1 e2 q=>q▸(ih e1 hv).elim λas h1=>(ihV e2).elim λbs h2=>⟨_,.cons h1 h2⟩
theorem sT(I:Inv g fr p)(n:Nat):∀{v:AV}{u:ai}{d:dm},dataOf p.σ n v=some d->VR g.T p.ad v u->∃as,Reads p.h u d as:=by
 induction n with
 |zero=>exact λe hu=>⟨[],gC hu e _⟩
 |succ n ih=>
  intro v u d e hu
  cases v with
  |ref l=>exact dB hu λa d hp=>vV e (λvs ds e1 e2 q=>dN.casesOn (I.objs l _ e1 _ hp:dN g p.h p.ad a vs) λxs h1 hv _ _=>h1.elim λo z=>z.2.2.elim λ_ hd=>(xI ih hv e2).elim λas h=>q▸⟨_,Reads.list z.1 z.2.1 hd h⟩) λvs ds e1 e2 q=>TupAt.casesOn (I.objs l _ e1 _ hp:TupAt g p.h p.ad a vs) λxs h1 hv _=>h1.elim λo z=>z.2.2.elim λ_ hd=>(xI ih hv e2).elim λas h=>q▸⟨_,Reads.tuple z.1 z.2.1 hd h⟩
  |none=>exact⟨[],gC hu e _⟩
  |bool=>exact⟨[],gC hu e _⟩
  |int=>exact⟨[],gC hu e _⟩
  |str=>exact⟨[],gC hu e _⟩
  |_=>exact aG e
theorem NM{ad:Ad}{s:ak}{ys:List (AV×AV)}{kb:List (AV×ai)}(Hb:bq (DV g.T ad) ys kb){xs:List (AV×AV)}{ka:List (AV×ai)}(H:bq (DV g.T ad) xs ka):∀{r:Bool},Em ys xs=some r->KeqHits A s kb ka r:=by
 induction H with
 |nil=>intro r e;exact ae e▸.nil
 |@cons a b as bs h H ih=>
  intro r e
  obtain⟨k,v⟩:=a
  obtain⟨k',u⟩:=b
  obtain⟨h1,h2,h3⟩:=h
  cases (h1:k=k')
  have e:(match dG ys k with|.none=>some false|some w=>match w5 v w,Em ys as with|some a,some b=>some (a&&b)|_,_=>.none)=some r:=e
  cases q:dG ys k with
  |none=>rw[q] at e;exact ae e▸.miss (Ht Hb q)
  |some w=>
   have e:(match w5 v w,Em ys as with|some a,some b=>some (a&&b)|_,_=>.none)=some r:=by rw[q] at e;exact e
   cases q2:w5 v w with
   |none=>rw[q2] at e;exact aG e
   |some a=>
    cases q3:Em ys as with
    |none=>rw[q2,q3] at e;exact aG e
    |some b=>
     rw[q2,q3] at e
     exact match NB q2 with
      |⟨dx,dy,f1,f2,f3⟩=>(xx Hb q).elim λy z=>ae e▸f3▸KeqHits.hit z.1 (keq_flat (A:=A) (s:=s) (λh=>gC h3 f1 h) (λh=>gC z.2 f2 h)) (ih q3)
inductive Yv(g:Gl)(p:Pt)(es:List (AV×AV))(u:ai):Prop where
 |mk (a:ax) (kvs:List (AV×ai)) (h1:u=.ref a) (h2:own p.ad a) (h3:p.h.DictOf (cV g.prog g.w) a kvs) (h4:bq (DV g.T p.ad) es kvs)
theorem oP{v:AV}{u:ai}{es:List (AV×AV)}(I:Inv g fr p)(hu:VR g.T p.ad v u)(e:dictAt p.σ v=some es):Yv g p es u:=by
 cases v with
 |ref l=>
  have e:(match p.σ[l]? with|some (.dict es)=>some es|_=>.none)=some es:=e
  cases q:p.σ[l]? with
  |none=>rw[q] at e;exact aG e
  |some o=>
   rw[q] at e
   cases o with
   |dict es'=>
    cases ae e
    exact dB hu λa d hp=>match (I.objs l _ q _ hp:g7 g p.h p.ad a es) with
     |⟨kvs,hD,hv,_⟩=>⟨a,kvs,rfl,own.l hp,hD.dictOf,hv⟩
   |_=>exact aG e
 |_=>exact aG e
variable{Q:Bool->Hp->Prop}{n:Bool}
theorem Xf{a b:AV}{σ:Hp}{P:Prop}(h:Wp (NW a b σ) Q Er)(k1:∀r,w5 a b=some r->Q r σ->P)(k2:∀xs ys,dictAt σ a=some xs->dictAt σ b=some ys->xs.length≠ys.length->Q false σ->P)
  (k3:∀xs ys r,dictAt σ a=some xs->dictAt σ b=some ys->xs.length=ys.length->Em ys xs=some r->Q r σ->P) (k4:∀x y,dataOf σ 3 a=some x->dataOf σ 3 b=some y->bL x=true/\bL y=true->Q (fb x y) σ->P):P:=by
 unfold NW at h
 cases e:w5 a b with
 |some r=>rw[e] at h;exact k1 r e h
 |none=>
  rw[e] at h
  have h:Wp (match dictAt σ a with|some xs=>opt (dictAt σ b) (λys=>if xs.length≠ys.length then MM.pure false else opt (Em ys xs) MM.pure) σ|.none=>opt (dataOf σ 3 a) (λx=>opt (dataOf σ 3 b) λy=>kq (bL x=true/\bL y=true) (MM.pure (fb x y))) σ) Q Er:=h
  cases e1:dictAt σ a with
  |some xs=>rw[e1] at h;exact jU h λys e2 h=>qR h (λz q=>k2 xs ys e1 e2 z q) λz h=>jU h λr e3 q=>k3 xs ys r e1 e2 (Decidable.not_not.mp z) e3 q
  |none=>rw[e1] at h;exact jU h λx e2 h=>jU h λy e3 h=>cB h λz q=>k4 x y e2 e3 z q
theorem BG{a b:AV}{u v:ai}(I:Inv g fr p)(hs:∃o,g.base.get? sysModules=some o)(hA:A.units+64<cLine)(hu:VR g.T p.ad a u)(hv:VR g.T p.ad b v)
  (h:Wp (NW a b p.σ) Q Er) (k:∀r,Q r p.σ->K (.bool (nb n r)) (p.on s tk)):wpAny g.M A (compareOp (Nb n) u v) K E (p.on s tk):=by
 have hA':A.units<cLine:=aB (bb ..) hA
 refine Xf h (λr e q=>?_) (λxs ys e1 e2 hne q=>?_) (λxs ys r e1 e2 hl e q=>?_) λx y e1 e2 hsh q=>?_
 ·exact JR hu hv e (k r q)
 ·match oP I hu e1,oP I hv e2 with
  |⟨a,ka,r1,o1,d1,h1⟩,⟨b,kb,r2,o2,d2,h2⟩=>
   have hl:¬ka.length=kb.length:=h1.len▸h2.len▸hne
   exact r1▸r2▸Ra (r:=true) (jA I hs o1) (jA I hs o2) d1 d2 hA' (λq=>absurd q hl) (beq_eq_false_iff_ne.mpr hl▸k _ q)
 ·match oP I hu e1,oP I hv e2 with
  |⟨a,ka,r1,o1,d1,h1⟩,⟨b,kb,r2,o2,d2,h2⟩=>
   have hl:ka.length=kb.length:=h1.len▸h2.len▸hl
   exact r1▸r2▸Ra (jA I hs o1) (jA I hs o2) d1 d2 hA' (λ_=>NM h2 h1 e) (by rw[hl,beq_self_eq_true,qp];exact k _ q)
 ·exact(sT I 3 e1 hu).elim λas h1=>(sT I 3 e2 hv).elim λbs h2=>cEq h1 h2 hsh.1 hsh.2 hA (k _ q)
theorem JH{a b:S}{r:Bool}(h:Lm a b=some r):(!(t9 (strOf b) (strOf a) 0 (strOf b).length 1).isEmpty)=r:=by
 cases a with
 |nil=>exact aG h
 |cons c t=>cases t with
  |cons _ _=>exact aG h
  |nil=>
   rw[<-ae h]
   have:=PySem.StrLaws.found_one (strOf b) c
   rw[rM] at this
   refine Eq.trans this ?_
   by_cases q:c∈b
   ·rw[decide_eq_true q];exact(di.mpr q).symm
   ·rw[decide_eq_false q];exact(Bool.eq_false_iff.mpr λz=>q (di.mp z)).symm
theorem SX{M:fY}{x y:Str}{t u:Tok}{s:ak}{b:Bool}(e:(!(t9 y x 0 y.length 1).isEmpty)=b)(h:K (.bool (nb n b)) s):wpAny g.M A (compareOp (X7 n) (.str x t) (.str y u)) K E s:=match n,h with
 |true,h=>PyProof.Rows.notIn_str (e.symm▸h)
 |false,h=>PyProof.Rows.in_str (e.symm▸h)
noncomputable def uh(i:Int):ai->Bool
 |.int j _=>j==i
 |_=>false
theorem AH{x:AV}{P:AV->Prop}(h:vL x=true)(k:∀j,P (.int j)):P x:=AV.casesOn (motive:=λx=>vL x=true->P x) x ft (λ_=>ft) (λj _=>k j) (λ_=>ft) (λ_=>ft) (λ_=>ft) (λ_=>ft) (λ_=>ft) h
theorem DW{i j:Int}:(j==i)=(AV.int i==AV.int j):=by
 by_cases q:j=i
 ·rw[q,beq_self_eq_true,beq_self_eq_true]
 ·rw[beq_eq_false_iff_ne.mpr q,beq_eq_false_iff_ne.mpr λz=>q (yA z).symm]
theorem any_ints{T:Tab}{ad:Ad}{i:Int}{vs:List AV}{us:List ai}(V:eJ T ad vs us)(h:vs.all vL=true):us.any (uh i)=vs.contains (.int i):=by
 induction V with
 |nil=>rfl
 |cons hV hv' ih=>
  rw[lJ,bR] at h
  rw[iN,d8,ih h.2]
  refine congrArg (·||_) (AH (P:=λx=>VR T ad x _->_=(AV.int i==x)) h.1 (λj hV=>dD (P:=λu=>uh i u=(AV.int i==AV.int j)) hV λt=>DW) hV)
theorem As{a b:AV}{u v:ai}(I:Inv g fr p)(hs:∃o,g.base.get? sysModules=some o)(hu:VR g.T p.ad a u)(hv:VR g.T p.ad b v)
  (h:Wp (WV a b p.σ) Q Er) (k:∀r tk,Q r p.σ->K (.bool (nb n r)) (p.on s tk)):wpAny g.M A (compareOp (X7 n) u v) K E (p.on s tk):=by
 cases b with
 |str y=>exact fj hv λt=>qf (P:=λa=>VR g.T p.ad a u->_) h (λx h hu=>fj hu λt'=>jU h λr e q=>SX (M:=g.M) (JH e) (k r _ q)) hu
 |ref l=>
  refine cw h λo e h=>dB hv λx d hp=>?_
  have H:=I.objs l _ e _ hp
  clear e
  cases o with
  |dict es=>exact match (H:g7 g p.h p.ad x es) with
   |⟨kvs,hD,V,_⟩=>cB h λhk q=>match n,k with
    |true,k=>wpAny_notIn_of (key_is hk hu) (jA I hs (own.l hp)) hD.dictOf.mapOf (ta V a▸k _ _ q)
    |false,k=>wpAny_in_of (key_is hk hu) (jA I hs (own.l hp)) hD.dictOf.mapOf (ta V a▸k _ _ q)
  |tup vs=>
   refine match (H:TupAt g p.h p.ad x vs) with
   |⟨xs,hL,V,_⟩=>fA (P:=λa=>VR g.T p.ad a u->_) h (λi h hu=>cB h λhall q=>dD hu λt=>?_) hu
   have he:∀y,y∈xs->SeqAt.EqAt A.in1 (p.on s tk) y (.int i t) (uh i y):=λy hy=>(fG.mp (Array.mem_toList_iff.mpr hy)).elim λn hn=>(V.ZL hn).elim λx z=>
    AH (P:=λx=>VR g.T p.ad x y->_) (aD.mp hall x (av z.1)) (λj hV=>dD hV λt=>λ{_ _ _ _} hq=>wpAny_eqBool_int hq) z.2
   have hany:xs.any (uh i)=vs.contains (.int i):=iC▸any_ints V hall
   exact match n,k with
    |true,k=>SeqAt.notIn_tupleAt _ hL he (hany▸k _ _ q)
    |false,k=>SeqAt.in_tupleAt _ hL he (hany▸k _ _ q)
  |_=>exact h.elim
 |_=>exact h.elim
theorem j3.some{a d:ax}{c:bF}{fs:List AV}(H:j3 g p.h p.ad a d c fs):∃ox,p.h.get? a=some ox∧ox.cls≠.type "tuple":=match hc:c.isExc with
 |true=>match H.exc hc with
  |⟨_,_,e,_,_⟩=>⟨_,e,λz=>nomatch z⟩
 |false=>⟨_,H.obj hc,λz=>nomatch z⟩
theorem iH.some{a d:ax}{o:aF}(H:iH g p.h p.ad a d o):∃ob,p.h.get? a=some ob:=by
 cases o with
 |list vs=>exact match H with|⟨_,h,_,_,_⟩=>h.elim λo z=>⟨o,z.1⟩
 |tup vs=>exact match H with|⟨_,h,_,_⟩=>h.elim λo z=>⟨o,z.1⟩
 |dict es=>exact match H with|⟨_,h,_,_⟩=>h.elim λo z=>z.elim λ_ z=>⟨o,z.1⟩
 |inst c fs=>exact(j3.some H).elim λo z=>⟨o,z.1⟩
 |iG c fs=>exact match H.obj with|⟨_,_,e,_,_⟩=>⟨_,e⟩
theorem Az{a b:AV}{u v:ai}(I:Inv g fr p)(hu:VR g.T p.ad a u)(hv:VR g.T p.ad b v)(h:Wp (W3 a b p.σ) Q Er)(k:∀r,Q r p.σ->K (.bool (nb n r)) (p.on s tk)):wpAny g.M A (compareOp (OW n) u v) K E (p.on s tk):=by
 cases b with
 |none=>
  cases hv
  refine qR h (λe q=>?_) λne h=>cB h λhn q=>?_
  ·cases e;cases hu;exact XW rfl (k true q)
  ·cases a with
   |bool b=>cases hu;exact XW rfl (k false q)
   |int i=>exact dD hu λt=>XW rfl (k false q)
   |str x=>exact fj hu λt=>XW rfl (k false q)
   |ref l=>exact dB hu λ_ _ _=>XW rfl (k false q)
   |_=>exact ft hn
 |ref l'=>exact iq (P:=λa=>VR g.T p.ad a u->_) h (λl h hu=>cw h λo e h=>uw (P:=λo=>p.σ[l]?=some o->_) h (λc fs h e=>cw h λo' e' q=>dB hu λx d hp=>dB hv λx' d' hp'=>
   if z:l=l' then by
    subst z
    cases cu hp hp'
    exact Qk (k true (beq_self_eq_true l▸q))
   else(j3.some (I.objs l _ e _ hp)).elim λ_ h1=>(iH.some (I.objs l' _ e' _ hp')).elim λ_ h2=>Km (I.wQ l l' _ _ hp hp' z).1.1 h1.1 h2 h1.2 (k false (beq_eq_false_iff_ne.mpr z▸q))) e) hu
 |_=>exact h.elim
theorem UE{m:MM Bool}{σ:Hp}(h:Wp ((do let r<-m;pure (!r):MM Bool) σ) Q Er):Wp (m σ) (λr σ=>Q (!r) σ) Er:=wb h
theorem Oo{op:oH}{x y:Int}{t t':Tok}{M:fY}{s:ak}(ho:uS op=true)(h:K (.bool (cmpInt op x y)) s):wpAny g.M A (compareOp (k6 op) (.int x t) (.int y t')) K E s:=by
 cases op with
 |lt=>exact PySem.P.lt_int h
 |le=>exact PySem.P.le_int h
 |gt=>exact PySem.P.gt_int h
 |ge=>exact PySem.P.ge_int h
 |_=>exact ft ho
theorem N9{op:oH}{x y:S}{t t':Tok}{M:fY}{s:ak}(ho:uS op=true)(h:K (.bool (mF op x y)) s):wpAny g.M A (compareOp (k6 op) (.str (strOf x) t) (.str (strOf y) t')) K E s:=by
 cases op with
 |lt=>exact PySem.P.lt_str h
 |le=>exact PySem.P.le_str h
 |gt=>exact PySem.P.gt_str h
 |ge=>exact PySem.P.ge_str h
 |_=>exact ft ho
theorem Hn{op:oH}{a b:AV}{u v:ai}(ho:uS op=true)(hu:VR g.T p.ad a u)(hv:VR g.T p.ad b v)(h:Wp (Sj op a b p.σ) Q Er)(k:∀r,Q r p.σ->K (.bool r) (p.on s tk)):wpAny g.M A (compareOp (k6 op) u v) K E (p.on s tk):=by
 cases a with
 |int x=>exact fA (P:=λb=>VR g.T p.ad b v->_) h (λy q hv=>dD hu λt=>dD hv λt'=>Oo (M:=g.M) ho (k _ q)) hv
 |str x=>exact qf (P:=λb=>VR g.T p.ad b v->_) h (λy q hv=>fj hu λt=>fj hv λt'=>N9 (M:=g.M) ho (k _ q)) hv
 |_=>exact h.elim
theorem jm{op:oH}{a b:AV}{u v:ai}(I:Inv g fr p)(hs:∃o,g.base.get? sysModules=some o)(hA:A.units+64<cLine)(hu:VR g.T p.ad a u)(hv:VR g.T p.ad b v)
  (h:Wp (Nx op a b p.σ) Q Er) (k:∀r tk,Q r p.σ->K (.bool r) (p.on s tk)):wpAny g.M A (compareOp (k6 op) u v) K E (p.on s tk):=by
 cases op with
 |eq=>exact BG (n:=false) I hs hA hu hv h λr q=>k r _ q
 |ne=>exact BG (n:=true) I hs hA hu hv (UE h) λr q=>k _ _ q
 |is=>exact Az (n:=false) I hu hv h λr q=>k r _ q
 |qD=>exact Az (n:=true) I hu hv (UE h) λr q=>k _ _ q
 |GP=>exact As (n:=false) I hs hu hv h λr _ q=>k r _ q
 |o8=>exact As (n:=true) I hs hu hv (UE h) λr _ q=>k _ _ q
 |_=>exact Hn rfl hu hv h λr q=>k r _ q
end
noncomputable def S9(T:Tab):Kd->ai
 |.none=>.type "NoneType"|.bool=>.type "bool"|.int=>.type "int"|.str=>.type "str"|.list=>.type "list"|.tup=>.type "tuple"|.dict=>.type "dict"|.inst c=>.ref (T.bZ c)
noncomputable def RT(T:Tab):AV->ai
 |.bi b=>XU b
 |.cls c=>.ref (T.bZ c)
 |_=>.none
structure WQ(T:Tab)(K:cT)(c:bF):Prop where
 pl:plainGet K (T.bZ c) "__class__"=true
 hd:hasDictIn K (T.bZ c)=true
 fi:findIn K (.ref (T.bZ c)) "__class__"=some (some (.builtin "object.__class__"))
 mr:mroIn K (T.bZ c) (.type "object")=some true
structure Od(T:Tab)(K:cT):Prop where
 one:∀k t,(∀c,k=.inst c->c.isExc=false)->BS t=true->kitOne K (S9 T k) (RT T t)=some (yL k t)
 own:∀c:bF,c.isExc=false->WQ T K c
 get:specialIn K (.builtin "object.__class__") "__get__"=some (some (.builtin "getset_descriptor.__get__"))
 take:takesIn K (.builtin "object.__class__")=some true
theorem Cg(x:S){l:List S}(h:l.Pairwise (λa b=>a<=b)):(EI x l).Pairwise (λa b=>a<=b):=by
 induction l with
 |nil=>exact List.pairwise_singleton _ _
 |cons y r ih=>
  have h2:=rh.mp h
  rw[Ka]
  by_cases q:N5 y x=true
  ·rw[if_pos q];exact rh.mpr ⟨λz hz=>(aC.mp (Aw.mem_iff.mp hz)).elim (λe=>e▸List.le_of_lt (of_decide_eq_true q)) (h2.1 z),ih h2.2⟩
  ·rw[if_neg q]
   have q:x<=y:=λz=>q (decide_eq_true z)
   exact rh.mpr ⟨λz hz=>(aC.mp hz).elim (λe=>e▸q) λm=>List.le_trans q (h2.1 z m),h⟩
theorem yw{l:List S}:(mR l).Pairwise (λa b=>a<=b):=by
 induction l with
 |nil=>exact .nil
 |cons x r ih=>exact Cg x ih
theorem wR{a b:List S}(h:a.Perm b)(ha:a.Pairwise (λa b=>a<=b))(hb:b.Pairwise (λa b=>a<=b)):a=b:=
 List.Perm.eq_of_pairwise (λx y _ _ h1 h2=>List.le_antisymm h1 h2) ha hb h
noncomputable def cpsOf:ai->S
 |.str x _=>x.cps.toList
 |_=>[]
section
variable{T:Tab}{ad:Ad}
@[elab_as_elim] theorem aab {P:List ai->Prop} {us:List ai} (V:eJ T ad [] us) (k:P []):P us:=V.nil_inv▸k
@[elab_as_elim] theorem Xh {P:List ai->Prop} {v:AV} {vs:List AV} {us:List ai} (V:eJ T ad (v::vs) us) (k:∀u us,VR T ad v u->eJ T ad vs us->P (u::us)):P us:=match V.cons_inv with
 |⟨u,us',e,h,V'⟩=>e▸k u us' h V'
@[elab_as_elim] theorem yk {P:List ai->Prop} {v:AV} {us:List ai} (V:eJ T ad [v] us) (k:∀u,VR T ad v u->P [u]):P us:=Xh V λu us h V=>aab (P:=λus=>P (u::us)) V (k u h)
@[elab_as_elim] theorem Um {P:List ai->Prop} {v w:AV} {us:List ai} (V:eJ T ad [v,w] us) (k:∀u x,VR T ad v u->VR T ad w x->P [u,x]):P us:=Xh V λu us h V=>yk (P:=λus=>P (u::us)) V λx hx=>k u x h hx
theorem Sk{t:AV}{u:ai}(ht:BS t=true)(h:VR T ad t u):RT T t=u:=by
 cases t with
 |bi b=>exact h.symm
 |cls c=>exact h.symm
 |_=>exact ft ht
theorem XQ{v:AV}{vs:List AV}{is:List Int}{P:AV->Prop}(h:intsOf (v::vs)=some is)(k:∀i js,intsOf vs=some js->i::js=is->P (.int i)):P v:=by
 cases v with
 |int i=>exact gL h λjs e q=>k i js e q
 |_=>exact aG h
inductive Q5(us:List ai)(is:List Int):Prop where
 |mk (xs:List (Int×Tok)) (h1:us=xs.map λp=>zW p.1 p.2) (h2:xs.map (·.1)=is)
theorem yQ{vs:List AV}{us:List ai}(V:eJ T ad vs us):∀{is:List Int},intsOf vs=some is->Q5 us is:=by
 induction V with
 |nil=>intro is e;exact⟨[],rfl,ae e⟩
 |@cons v u vs us hV V ih=>intro is e;exact XQ (P:=λv=>VR T ad v u->Q5 (u::us) is) e (λi js e q hV=>match ih e with
   |⟨xs,h1,h2⟩=>hV.elim λt z=>⟨(i,t)::xs,congr (congrArg List.cons z) h1,(congrArg (i::·) h2).trans q⟩) hV
theorem Wg{v:AV}{vs:List AV}{is:List S}{P:AV->Prop}(h:strsOf (v::vs)=some is)(k:∀i js,strsOf vs=some js->i::js=is->P (.str i)):P v:=by
 cases v with
 |str i=>exact gL h λjs e q=>k i js e q
 |_=>exact aG h
theorem A4{es:List (AV×AV)}{kvs:List (AV×ai)}(H:bq (DV T ad) es kvs):∀{ss:List S},strsOf (es.map (·.1))=some ss->kvs.map (·.1)=ss.map .str:=by
 induction H with
 |nil=>intro ss e;exact ae e▸rfl
 |cons h H ih=>intro ss e;exact Wg (P:=λv=>v=_->_) e (λi js e q z=>q▸congr (congrArg List.cons z.symm) (ih e)) h.k
theorem Ai{vs:List ai}(h:∀v∈vs,∃x t,v=.str x t):KeysOf PyProof.Rows.strKind (PyProof.Rows.pairsOf vs):=(strsAre_map vs h).keysOf
theorem EK{vs:List ai}{ss:List S}(hs:vs.map cpsOf=ss)(ht:∀v∈vs,∃x t,v=.str x t){xs:Array Keyed}(hp:xs.Perm (PyProof.Rows.pairsOf vs))(hso:SortedToK PyProof.Rows.strKind xs (PyProof.Rows.pairsOf vs).size):
  eJ T ad ((mR ss).map .str) (xs.map (·.2)).toList:=by
 have hl:xs.toList.Perm (vs.zip vs):=by rw[<-pairsOf_toList];exact Array.perm_iff_toList_perm.mp hp
 have hmem:∀p,p∈xs.toList->p.1=p.2/\p.1∈vs:=λp hp'=>mem_zip_self (hl.mem_iff.mp hp')
 have e:(xs.map (·.2)).toList=xs.toList.map (·.1):=by
  rw[Array.toList_map];exact eT λp hp'=>(hmem p hp').1.symm
 rw[e]
 have hperm:(xs.toList.map λp=>cpsOf p.1).Perm ss:=by
  have h1:=hl.map (λp=>cpsOf p.1)
  have e2:(vs.zip vs).map (λp=>cpsOf p.1)=ss:=by
   have:(vs.zip vs).map (λp=>cpsOf p.1)=((vs.zip vs).map E6).map cpsOf:=by rw[bU];rfl
   rw[this,List.map_fst_zip (aK _),hs]
  rwa [e2] at h1
 have hsorted:(xs.toList.map λp=>cpsOf p.1).Pairwise (λa b=>a<=b):=by
  rw[List.pairwise_iff_getElem]
  intro i j hi hj hij
  have hi':i<xs.size:=by simpa using hi
  have hj':j<xs.size:=by simpa using hj
  have h1:=hso i j (bz hij) (by rw[<-hp.size_eq];exact hj')
  obtain⟨x,t,ex⟩:=ht _ (hmem xs[i] (by simp)).2
  obtain⟨y,u,ey⟩:=ht _ (hmem xs[j] (by simp)).2
  rw[KK_str hi' (x:=x) (t:=t) (q:=xs[i].2) (Prod.ext ex rfl),KK_str hj' (x:=y) (t:=u) (q:=xs[j].2) (Prod.ext ey rfl)] at h1
  change decide (y.cps.toList<x.cps.toList)=false at h1
  simp only[List.getElem_map,Array.getElem_toList]
  rw[show cpsOf xs[i].1=x.cps.toList by rw[ex];rfl,show cpsOf xs[j].1=y.cps.toList by rw[ey];rfl]
  simpa using h1
 rw[<-wR (hperm.trans (hZ (l:=ss)).symm) hsorted (yw (l:=ss)),bU]
 refine bq.of_get (by simp) λi a b ha hb=>?_
 rw[bw] at ha hb
 cases q:xs.toList[i]? with
 |none=>rw[q] at ha;cases ha
 |some p=>
  rw[q] at ha hb
  cases ha;cases hb
  obtain⟨x,t,ex⟩:=ht _ (hmem p (av q)).2
  show VR T ad (.str (cpsOf p.1)) p.1
  rw[ex]
  exact⟨t,by rw[show cpsOf (Jn x t)=x.cps.toList from rfl,zR]⟩
end
theorem AX(xs:Array (Int×Tok)):preSum (numAt xs) xs.size=(xs.toList.map (·.1)).sum:=by
 have key:∀(n:Nat),n<=xs.size->preSum (numAt xs) n=((xs.toList.take n).map (·.1)).sum:=by
  intro n
  induction n with
  |zero=>intro _;rfl
  |succ n ih=>
   intro h
   show preSum (numAt xs) n+numAt xs n=_
   rw[ih (lK h),Jo]
   have:xs.toList[n]?=some xs[n]:=by simp
   rw[this]
   simp[numAt,Nat.lt_of_succ_le h]
 rw[key _ (aK _)]
 rw[show xs.size=xs.toList.length by simp,iL]
theorem sd(x:String):strOf (toS x)=aa x:=(Str.ofString_eq_toList x).symm
theorem tB{a b:Int}(ha:0<=a)(ha':a<=lim)(hb:b<=lim)(hb': -lim<=b):Builtin.Range.small a b 1=true:=small_one (cE (by decide) ha) (fu ha' (by decide)) (cE (by decide) hb') (fu hb (by decide))
theorem WR{n:Nat}(h:n<10^20):n.log2<1920:=if z:n=0 then z▸(by decide:Nat.log2 0<1920) else cg ((Nat.log2_lt z).mpr (cg h (by decide:10^20<2^68))) (by decide)
section
variable{g:Gl}{fr X:List ax}{p:Pt}{s:ak}{tk:Nat}{A:a7}{E:ai->ak->Prop}{Er:Nat->Hp->Prop}{K:ai->ak->Prop}{Kf:cT}
inductive KdP(g:Gl)(p:Pt)(Kf:cT)(u:ai)(k:Kd):Prop where
 |mk (H:bt→Prop) (Z:KitX Kf u (S9 g.T k) H) (h:H p.h) (n:u≠.builtin "__main__.__loader__#opaque") (c:∀c,k=.inst c→c.isExc=false)
theorem Wu{v:AV}{u:ai}{k:Kd}(KF:Od g.T Kf)(I:Inv g fr p)(hu:VR g.T p.ad v u)(e:kdOf p.σ v=some k):KdP g p Kf u k:=by
 cases v with
 |none=>cases hu;exact ae e▸⟨_,kitx_none,trivial,(λz=>nomatch z),λ_ z=>nomatch z⟩
 |bool b=>cases hu;exact ae e▸⟨_,kitx_bool,trivial,(λz=>nomatch z),λ_ z=>nomatch z⟩
 |int i=>exact dD hu λt=>ae e▸⟨_,kitx_int,trivial,(λz=>nomatch z),λ_ z=>nomatch z⟩
 |str x=>exact fj hu λt=>ae e▸⟨_,kitx_str,trivial,(λz=>nomatch z),λ_ z=>nomatch z⟩
 |ref l=>
  have e:(match p.σ[l]? with|some (.list _)=>some Kd.list|some (.tup _)=>some .tup|some (.dict _)=>some .dict|some (.inst c _)=>if c.isExc then .none else some (.inst c)|_=>.none)=some k:=e
  refine dB hu λa d hp=>?_
  cases eo:p.σ[l]? with
  |none=>rw[eo] at e;exact aG e
  |some o=>
   have H:=I.objs l o eo _ hp
   rw[eo] at e
   cases o with
   |list vs=>exact match H with|⟨_,h,_,_,_⟩=>ae e▸⟨_,kitx_list,h.elim λo z=>⟨o,z.1,z.2.1⟩,(λz=>nomatch z),λ_ z=>nomatch z⟩
   |tup vs=>exact match H with|⟨_,h,_,_⟩=>ae e▸⟨_,kitx_tuple,h.elim λo z=>⟨o,z.1,z.2.1⟩,(λz=>nomatch z),λ_ z=>nomatch z⟩
   |dict es=>exact match H with|⟨_,h,_,_⟩=>ae e▸⟨_,kitx_dict,h.elim λo z=>z.elim λ_ z=>⟨o,z.1,z.2.1.1⟩,(λz=>nomatch z),λ_ z=>nomatch z⟩
   |inst c fs=>
    have e:(if c.isExc=true then none else some (Kd.inst c))=some k:=e
    cases hc:c.isExc with
    |true=>rw[hc] at e;exact aG e
    |false=>rw[hc] at e;exact match j3.plain hc H,KF.own c hc with
     |⟨_,_,IA,_,_⟩,W=>ae e▸⟨_,kitx_own W.pl W.hd W.fi KF.get KF.take W.mr,IA,(λz=>nomatch z),λc' z=>QE z▸hc⟩
   |iG c fs=>exact aG e
 |_=>exact aG e
theorem y9{v t:AV}{u y:ai}{Q:Bool->Hp->Prop}(X:Kf.In p.h)(KF:Od g.T Kf)(I:Inv g fr p)(hu:VR g.T p.ad v u)(hy:VR g.T p.ad t y)
  (h:Wp (FV v t p.σ) Q Er) (k:∀r tk,Q r p.σ→K (.bool r) (p.on s tk)):wpAny g.M A (call (.builtin "isinstance") [u,y]) K E (p.on s tk):=
 jU (σ:=p.σ) h λkd e h=>cB h λht q=>match Wu KF I hu e with
  |⟨H,Z,hH,hn,hc⟩=>Sk ht hy▸kia_one Z X hH (KF.one kd t hc ht) hn λtk=>k _ tk q
theorem mz{vs:List AV}{acc:Array ai}{c:Nat}{h':bt}{a:ax}(I:Inv g fr p)(ha:p.h.get? a=none)(k:oY p.h h')
  (e:h'.get? a=some {cls:=.type "list",dict:=none,data:=.seq acc c,slots:=#[]}) (V:eJ g.T p.ad vs acc.toList) (hl:vs.length≤lim) {Q:AV→Hp→Prop} (q:Q (.ref p.σ.length) (p.σ++[.list vs])) (kc:KC g X fr (VV g) s p Q K):K (.ref a) (Pt.on ⟨p.σ++[.list vs],p.ad++[(a,a)],h'⟩ s tk):=
 kc _ _ ⟨p.σ++[.list vs],p.ad++[(a,a)],h'⟩ tk q (gH.new (o:=.list vs) I k ha ha ⟨_,e⟩ ⟨_,e⟩ ⟨acc,⟨_,e,rfl,_,rfl⟩,V.app,hl,_,e,rfl⟩) (lT I _)
theorem sV{P:Nat->ai->Prop}{acc:Array ai}{T:Tab}{ad:Ad}{vs:List AV}(h:ItemsOf P acc vs.length)(k:∀(i:Nat) a v,vs[i]?=some a->P i v->VR T ad a v):eJ T ad vs acc.toList:=
 bq.of_get h.1.symm λi a b ha hb=>k i a b ha (h.2 i b (nk hb))
theorem get_none{h h':bt}(k:oY h h'):h.get? h'.objs.size=none:=match q:h.get? h'.objs.size with
 |none=>rfl
 |some _=>absurd (dQ (k _ _ q)) (dY _)
theorem Jy{n:Nat}(h:n<64):n<=lim:=bz (cg h (by decide))
variable{Q:AV->Hp->Prop}
theorem yM{l:Nat}{es:List (AV×AV)}{ss:List S}{u:ai}(hh:A.handled=none)(hm:∃o,g.base.get? sysModules=some o)(I:Inv g fr p)(hu:VR g.T p.ad (.ref l) u)
  (ho:p.σ[l]?=some (.dict es)) (hs:strsOf (es.map (·.1))=some ss) (h64:ss.length<64) (q:Q (.ref p.σ.length) (p.σ++[.list ((mR ss).map .str)])) (k:KC g X fr (VV g) s p Q K):wpAny g.M A (call (.builtin "sorted") [u]) K E (p.on s tk):=by
 refine dB hu λa d hp=>?_
 match (I.objs l _ ho _ hp:g7 g p.h p.ad a es) with
 |⟨kvs,hD,H,_⟩=>
 have hk:=A4 H hs
 have hlen:kvs.length=ss.length:=by have:=congrArg i6 hk;simpa using this
 refine call_function_entry kind_sorted plain_sorted entry_sorted (args_sorted1 _) ?_
 unfold pG.«sorted»
 refine ag (m:=checkCount "sorted" 1 1 _) (ao ?_)
 refine ag (kdu_collect (A:=A.in1) (kdl_dict (knd:=cV g.prog g.w) (kvs:=kvs) (ep:=kvs.length) (jA I hm (own.l hp))) hh hD (ah (hlen▸Jy h64) eK) λh₁ tk acc hk₁ hacc=>?_)
 have hvs:∀(i:Nat)(v:ai),acc.toList[i]?=some v->∃x t,ss[i]?=some x/\v=.str (strOf x) t:=λi v hv=>by
  obtain⟨k,x,h1,h2⟩:=hacc.2 i v (nk hv)
  have h3:(kvs.map (·.1))[i]?=some k:=by rw[bw,h1];rfl
  rw[hk,bw] at h3
  exact gL h3 λy e q=>gW (P:=λk v=>AV.str y=k->∃x t,ss[i]?=some x/\v=.str (strOf x) t) (λ_ _ z=>nomatch z) (λz t q=>⟨y,t,e,iX q▸rfl⟩) h2 q
 have hn:acc.toList.length=ss.length:=hacc.1.trans hlen
 have hcps:acc.toList.map cpsOf=ss:=Jp λi=>by
  rw[bw]
  cases q:acc.toList[i]? with
  |none=>rw[gu.mpr (hn▸gu.mp q)];rfl
  |some v=>obtain⟨x,t,h1,rfl⟩:=hvs i v q;rw[h1];rfl
 have hall:∀v∈acc.toList,∃x t,v=.str x t:=λv hv=>(fG.mp hv).elim λi hi=>(hvs i v hi).elim λx z=>z.elim λt z=>⟨_,t,z.2⟩
 refine ag (wpAny_newList ?_ (hn▸ah (Jy h64) eK))
 have hg:(h₁.push (seqObj "list" acc.toList.toArray 0)).get? h₁.objs.size=some (seqObj "list" acc.toList.toArray 0):=aE _ rfl
 refine ag (aL (gF slot_list_sort ⟨_,hg,rfl⟩ entry_list_sort (list_sort_treeK strKind_oneLt hg (Ai hall) (λv₁ v₂ rest e=>keyKind_strs (by rw[<-e];exact strsAre_map _ hall)) (hn▸h64) λst' hpm hso=>⟨_,rfl,?_⟩) (args_list_sort _)))
 have k₂:oY p.h (sortedHeap (h₁.push (seqObj "list" acc.toList.toArray 0)) h₁.objs.size acc.toList ((arrOf st').map (·.2))):=λb o e=>by
  have lt:=dQ (hk₁ b o e)
  rw[sortedHeap_old (fw lt) (by rw[size_push'];exact hK lt)]
  exact aA _ (hk₁ b o e)
 obtain⟨e,hend⟩:=sortedHeap_at (out:=(arrOf st').map (·.2)) hg
 exact ao ⟨_,rfl,mz I (get_none hk₁) k₂ hend (EK hcps hall hpm hso) (by rw[aj,(hZ (l:=ss)).length_eq];exact Jy h64) q k⟩
theorem B2{n:Int}{t:Tok}(hn:n.natAbs<10^20)(k:KC g X fr (VV g) s p Q K)(I:Inv g fr p)(q:Q (.str (je n)) p.σ):wpAny g.M A (call (.type "str") [.int n t]) K E (p.on s tk):=by
 refine P.str_of_int ?_ (k _ _ p _ q (.refl I) ⟨_,by unfold je;rw[sd]⟩)
 exact WR hn
theorem C3{l:Nat}{es:List (AV×AV)}{u:ai}{pl:Sem Bool}{K:ai×List ai->ak->Prop}(I:Inv g fr p)(ho:p.σ[l]?=some (.dict es))(hu:VR g.T p.ad (.ref l) u)
  (hQ:K (.builtin "dict.get",[u]) (p.on s tk)):wpAny g.M A (getMethod u "get" pl) K E (p.on s tk):=
 dB (P:=λu=>K (.builtin "dict.get",[u]) (p.on s tk)→wpAny g.M A (getMethod u "get" pl) K E (p.on s tk)) hu (λa d hp hQ=>match (I.objs l _ ho _ hp:g7 g p.h p.ad a es) with
  |⟨kvs,h1,_,_⟩=>getMethod_builtin h1.dictOf.typeIs xf zX PySem.F.type_dict_get h1.dictOf.mapOf.noDict hQ) hQ
theorem Eg{l:Nat}{es:List (AV×AV)}{k:AV}{u y:ai}(hs:∃o,g.base.get? sysModules=some o)(I:Inv g fr p)(ho:p.σ[l]?=some (.dict es))(hk:isKey k=true)(hu:VR g.T p.ad (.ref l) u)(hy:VR g.T p.ad k y)
  (q:Q ((dG es k).getD .none) p.σ) (kc:KC g X fr (VV g) s p Q K):wpAny g.M A (call (.builtin "dict.get") [u,y]) K E (p.on s tk):=
 dB hu λa d hp=>match (I.objs l _ ho _ hp:g7 g p.h p.ad a es) with
  |⟨kvs,h1,h2,_⟩=>call_meetsIn zX h1.dictOf.typeIs PySem.F.entry_dict_get (PySem.F.args_dict_get_2 _ _) (meets_dict_get (cV g.prog g.w) a (key_is hk hy) (jA I hs (own.l hp))) ⟨_,h1.dictOf.mapOf,match ud (k:=k) h2 with
   |.no e1 e2=>by rw[e1] at q;rw[e2];exact kc _ _ p _ q (.refl I) rfl
   |.is v z e1 e2 r=>by rw[e1] at q;rw[e2];exact kc _ _ p _ q (.refl I) r⟩
theorem BK{l:Nat}{vs:List AV}{u:ai}(I:Inv g fr p)(ho:p.σ[l]?=some (.list vs))(hu:VR g.T p.ad (.ref l) u)(h:Wp (fP vs p.σ) Q Er)(k:KC g X fr (VV g) s p Q K):wpAny g.M A (call (.type "list") [u]) K E (p.on s tk):=
 gw h λhl q=>dB hu λa d hp=>match (I.objs l _ ho _ hp:dN g p.h p.ad a vs) with
  |⟨xs,⟨o,e,hc,n,hd⟩,V,_,_⟩=>call_list_seq (hsz:=dn V▸ah hl eK) a (.inl rfl) e hc hd λh' c' kp e=>mz (tk:=tk) I (cA _) kp e V hl q k
theorem Cm{l:Nat}{u:ai}(hh:A.handled=none)(hs:∃o,g.base.get? sysModules=some o)(I:Inv g fr p)(ho:p.σ[l]?=some (.dict []))(hu:VR g.T p.ad (.ref l) u)(h:Wp (fP [] p.σ) Q Er)(k:KC g X fr (VV g) s p Q K):wpAny g.M A (call (.type "list") [u]) K E (p.on s tk):=
 gw h λhl q=>dB hu λa d hp=>match (I.objs l _ ho _ hp:g7 g p.h p.ad a []) with
  |⟨kvs,h1,h2,_⟩=>by
   cases h2
   exact kdl_call (kdl_dict (knd:=cV g.prog g.w) (kvs:=[]) (ep:=0) (jA I hs (own.l hp))) hh h1 (aV _) λh' tk acc c kp e hacc=>mz (vs:=[]) I (cA _) kp e (sV hacc λi a v e _=>aG e) hl q k
theorem WZ{n:Nat}(h:n<=lim):¬(n:Int)>=2^63:=rB.mpr (qO h)
end
open PySem.AutoSeq1 (wpAny_loadPart')
theorem pS{names:List Str}{vs:List ai}:∀(_:names.Nodup){i:Nat}{n:Str},names[i]?=some n->(names.zip vs).lookup n=vs[i]?:=by
 induction names generalizing vs with
 |nil=>intro _ i n h;simp at h
 |cons m r ih=>
  intro nd i n h
  rw[aJ] at nd
  cases vs with
  |nil=>simp
  |cons v vs=>
   rw[List.zip_cons_cons,gn]
   cases i with
   |zero=>
    simp at h;subst h
    simp
   |succ i=>
    have h:r[i]?=some n:=by simpa using h
    have:(n==m)=false:=by
     rw[beq_eq_false_iff_ne];rintro rfl;exact nd.1 (av h)
    rw[this]
    simpa using ih nd.2 h
noncomputable def IY(L:List (Str×ai))(sl:List (Str×ai)):List (Str×ai):=L.foldl (λsl p=>if(sl.lookup p.1).isNone then sl++[p] else sl) sl
theorem BL(n:Str)(L:List (Str×ai)):∀sl:List (Str×ai),(IY L sl).lookup n=(sl.lookup n).or (L.lookup n):=by
 induction L with
 |nil=>exact λsl=>Option.or_none.symm
 |cons p r ih=>
  intro sl
  obtain⟨m,d⟩:=p
  show(IY r (if(sl.lookup m).isNone=true then sl++[(m,d)] else sl)).lookup n=_
  rw[ih,gn]
  by_cases q:n=m
  ·subst q
   rw[beq_self_eq_true]
   cases e:sl.lookup n with
   |none=>
    show((sl++[(n,d)]).lookup n).or _=_
    rw[Jc,e,gn,beq_self_eq_true];rfl
   |some v=>show(sl.lookup n).or _=_;rw[e];rfl
  ·rw[beq_eq_false_iff_ne.mpr q]
   by_cases z:(sl.lookup m).isNone=true
   ·rw[if_pos z,Jc,gn,beq_eq_false_iff_ne.mpr q,List.lookup_nil,Option.or_none]
   ·rw[if_neg z]
theorem wY{f:Str->Option (Str×ai)}{names:List Str}:∀{vs:List ai},names.length=vs.length->(∀(i:Nat) n,names[i]?=some n->∃v,vs[i]?=some v/\f n=some (n,v))->names.filterMap f=names.zip vs:=by
 induction names with
 |nil=>intro vs _ _;rfl
 |cons n r ih=>
  intro vs hl h
  cases vs with
  |nil=>cases hl
  |cons v vs=>
   obtain⟨v',h1,h2⟩:=h 0 n rfl
   rw[dO,h2,ih (i0 hl) λi n hi=>h (i+1) n hi]
   exact congrArg (λv=>(n,v)::r.zip vs) (ae h1).symm
theorem EH{M:fY}{A:a7}{E:ai->ak->Prop}(f:Str×ai->List (Str×ai)->Sem (ForInStep (List (Str×ai))))(hf:∀n d sl,f (n,d) sl=if(sl.lookup n).isNone=true then pure (.yield (sl++[(n,d)])) else pure (.yield sl)):
  ∀(L sl:List (Str×ai))(s:ak)(Q:List (Str×ai)->ak->Prop),Q (IY L sl) s->wpAny M A (forIn L sl f) Q E s:=by
 intro L
 induction L with
 |nil=>exact λsl s Q h=>by rw[o5];exact ao h
 |cons p r ih=>
  intro sl s Q h
  obtain⟨m,d⟩:=p
  rw[List.forIn_cons,hf]
  have h:Q (IY r (if(sl.lookup m).isNone then sl++[(m,d)] else sl)) s:=h
  by_cases q:(sl.lookup m).isNone=true
  ·rw[if_pos q] at h⊢;exact ag (ao (ih _ s Q h))
  ·rw[if_neg q] at h⊢;exact ag (ao (ih _ s Q h))
theorem nz5{u d n i:Nat}(h2:n<=u+d)(hi:i<n - d):i<u:=aY hi (oS.mpr h2)
theorem nz0{u d n i:Nat}(h2:n<=u+d)(q:¬i<u):n - d<=i:=ah (oS.mpr h2) (bp q)
theorem Yx{u d n:Nat}(h1:u<=n)(h2:n<=u+d):n=u+(d - (u+d - n)):=by rw[Nat.sub_sub_right d h2,fx u d,Nat.add_sub_add_left,qq h1]
theorem nz2{u d n i:Nat}(h2:n<=u+d)(h3:d<=n)(hi:i<n)(q:¬i<u):i - (n - d)<d:=Nat.sub_lt_left_of_lt_add (nz0 h2 q) ((Nat.sub_add_cancel h3).symm▸hi)
theorem nz3{u d n i:Nat}(h2:n<=u+d)(q:¬i<u):n - d+(i - (n - d))=i:=qq (nz0 h2 q)
theorem nz4{u d n i:Nat}(h2:n<=u+d)(h3:d<=n)(q:¬i<u):u+d - n+(i - u)=i - (n - d):=by
 rw[<-Nat.sub_sub_right u h3,fx];exact Nat.sub_add_sub_cancel (bp q) (oS.mpr h2)
theorem JU{names:List Str}{us ds:List ai}(nd:names.Nodup)(h1:us.length<=names.length)(h2:names.length<=us.length+ds.length)(h3:ds.length<=names.length):
  names.filterMap (λn=>((IY ((names.drop (names.length - ds.length)).zip ds) (names.zip us)).lookup n).map λv=>(n,v))=names.zip (us++ds.drop (us.length+ds.length - names.length)):=by
 refine wY (by rw[aw,eW];exact Yx h1 h2) λi n hi=>?_
 have hlt:i<names.length:=(aq.mp hi).1
 rw[BL,pS nd hi]
 by_cases q:i<us.length
 ·refine⟨us[i],by rw[bk q,aO q],?_⟩
  rw[aO q];rfl
 ·have hd:i - (names.length - ds.length)<ds.length:=nz2 h2 h3 hlt q
  have hi':(names.drop (names.length - ds.length))[i - (names.length - ds.length)]?=some n:=by
   rw[rj,nz3 h2 q];exact hi
  refine⟨ds[i - (names.length - ds.length)],?_,?_⟩
  ·rw[cX (bp q),rj,nz4 h2 h3 q]
   exact aO hd
  ·rw[iD (bp q),Option.none_or,pS ((List.drop_sublist _ _).nodup nd) hi',aO hd];rfl
theorem IW{names:List Str}{us ds:List ai}(nd:names.Nodup)(h1:us.length<=names.length)(h2:names.length<=us.length+ds.length)(h3:ds.length<=names.length):
  (names++[]).filterMap (λn=>((IY ((names.drop (names.length - (ds.drop (ds.length - names.length)).length)).zip (ds.drop (ds.length - names.length))) (names.zip us)).lookup n).map λv=>(n,v))=names.zip (us++ds.drop (us.length+ds.length - names.length)):=by
 rw[bf,E7 h3]
 exact JU nd h1 h2 h3
theorem IJ{names:List Str}{us ds:List ai}(nd:names.Nodup)(h2:names.length<=us.length+ds.length):(List.filter (λn=>(fg n (names.zip us)).isNone) (List.take (names.length - ds.length) names))=[]:=by
 rw[Cn]
 intro n hn
 obtain⟨i,hi⟩:=fG.mp hn
 rw[List.getElem?_take] at hi
 split at hi
 ·rename_i q
  rw[pS nd hi,aO (nz5 h2 q)]
  exact aT
 ·cases hi
theorem D7{names:List Str}{us ds:List ai}(nd:names.Nodup)(h2:names.length<=us.length+ds.length)(h3:ds.length<=names.length):(List.filter (λn=>(fg n (names.zip us)).isNone) (List.take (names.length - (ds.drop (ds.length - names.length)).length) names))=[]:=by
 rw[E7 h3];exact IJ nd h2
inductive mi(p:Arguments)(names:List Str):Prop where
 |mk (ar:List Arg) (kd:List (Option az)) (df:List az) (e:p=⟨[],ar,none,[],kd,none,df⟩) (ns:names=ar.map (·.arg)) (nd:names.Nodup)
theorem uK{fd:rC}{us ds:List ai}{s:ak}{names:List Str}{r:Option (Array ai)}(P:mi fd.params names)
  (hdef:∀(M:fY)(A:a7)(E:ai->ak->Prop)(Q:Option (Array ai)->ak->Prop),Q r s->wpAny M A (seqItems? fd.defaults) Q E s) (hr:(r.getD #[]).toList=ds)
  (h1:us.length<=names.length) (h2:names.length<=us.length+ds.length) (h3:ds.length<=names.length):
  BindsTo s fd ⟨us,[]⟩ (names.zip (us++ds.drop (us.length+ds.length - names.length))):=by
 obtain⟨ar,kd,df,e,ns,nd⟩:=P
 subst hr ns
 have miss:=D7 nd h2 h3
 have fin:=IW nd h1 h2 h3
 intro M A E Q hQ
 unfold bindArgs
 rw[e]
 refine ag (wpAny_of_eq (by exact o5) ?_)
 refine ag (hdef M A E _ ?_)
 refine fZ (decide_eq_false λh=>iP.mpr h1 (of_decide_eq_true ((bR _ _).mp h).1)) ?_
 refine fZ (decide_eq_false λh=>?_) ?_
 ·exact ft ((congrArg (λl=>!(List.isEmpty l)) miss).symm.trans h)
 refine ag (EH _ (λn d sl=>rfl) _ _ _ _ ?_)
 refine ag (wpAny_of_eq (by exact o5) ?_)
 refine fZ rfl ?_
 exact ao ((congrArg (Q · s) fin).mpr hQ)
end Mine.Internal
set_option backward.match.sparseCases true
namespace Mine.Internal
open PySem PySem.W PySem.Calls PyProof.Rows
open PySem.AutoSeq1 (wpAny_loadPart')
inductive Rp(g:Gl)(ad:Ad)(h:bt)(a b:AV)(v:ai):Prop where
 |mk (t:ax) (x y:ai) (e:v=.ref t) (h1:h.IsTuple t #[x,y]) (h2:VR g.T ad a x) (h3:VR g.T ad b y)
noncomputable def FQ(g:Gl)(ad:Ad)(h:bt):Item->ai->Prop
 |.one a,v=>VR g.T ad a v
 |.pair a b,v=>Rp g ad h a b v
noncomputable def vE(fp:List ax)(h h':bt):Prop:=∀b o,b∉fp->h.get? b=some o->h'.get? b=some o
theorem vE.refl(fp:List ax)(h:bt):vE fp h h:=λ_ _ _ e=>e
theorem vE.trans{fp:List ax}{h h' h'':bt}(x:vE fp h h')(y:vE fp h' h''):vE fp h h'':=λb o n e=>y b o n (x b o n e)
theorem vE.nJ{I:ax}{h h':bt}(x:E8 I h h'):vE [I] h h':=λb o n e=>x b o (λq=>n (q▸.head _)) e
theorem vE.of_same{I:ax}{h h':bt}(x:cb I h h'):vE [I] h h':=.nJ x.extBut
noncomputable def OC:List String:=["enumerate","zip","dict_itemiterator","dict_reverseitemiterator","odict_iterator","itertools.zip_longest","itertools.pairwise"]
section
variable{M:fY}{A:a7}{s:ak}{E:ai->ak->Prop}
theorem kX{target:az}{I:ax}{o:Obj}{n:String}{v:ai}{Q:Unit->ak->Prop}(ho:s.heap.get? I=some o)(hc:o.cls=.type n)(hn:OC.contains n=false)(hQ:Q () s):
  wpAny M A (letOwnedTupleGo target (.ref I) v) Q E s:=by
 have key:wpAny M A (do
  let (.ref r,.ref a):=(cY I,v)|return
  let o<-load r
  match o.cls,o.data with
  |.type n,.fields vs=>
   if["enumerate","zip","dict_itemiterator","dict_reverseitemiterator","odict_iterator","itertools.zip_longest","itertools.pairwise"].contains n&&vs[0]?==some (rawInt a) then
    rule "for.unpacks-the-owned-tuple"
    updateField r 0 .none
  |_,_=>pure ()) Q E s:=by
  cases v with
  |ref a=>
   refine ag (wpAny_load ho ?_)
   rw[hc]
   cases o.data with
   |fields vs=>exact fZ (decide_eq_false λh=>ft (hn.symm.trans ((bR _ _).mp h).1)) (ao hQ)
   |_=>exact ao hQ
  |_=>exact ao hQ
 unfold letOwnedTupleGo
 cases target with
 |Tuple elts k pos=>exact key
 |List elts pos=>exact key
 |_=>exact ao hQ
end
noncomputable def pT(k:Option (Nat×aF))(σ:Hp):Prop:=∀l o,k=some (l,o)->σ[l]?=some o
structure nI(g:Gl)(A:a7)(fr:List ax)(ad₀:Ad)(target:az)(k:Option (Nat×aF))(dh:List Item)(itv:ai)(fp:List ax)(St:Nat->bt->Prop):Prop where
 frame:∀i h h',St i h->(∀b∈fp,∀o,h.get? b=some o->h'.get? b=some o)->St i h'
 live:∀i h,St i h->∀b∈fp,∃o,h.get? b=some o
 self:∀(s:ak)(K:ai->ak->Prop)(E:ai->ak->Prop),St 0 s.heap->K itv s->wpAny g.M A (pyIter itv) K E s
 item:∀i it(p:Pt)(s:ak) tk(K:ai->ak->Prop)(E:ai->ak->Prop),dh[i]?=some it->St i p.h->ad₀<+:p.ad->Inv g fr p->pT k p.σ->(∀b∈fp,¬own p.ad b)->
  (∀v h' tk,FQ g p.ad h' it v->St (i+1) h'->vE fp p.h h'->K v (Pt.on ⟨p.σ,p.ad,h'⟩ s tk))->
  wpAny g.M A (pyNext itv) (λr s₁=>∃v,r=some v/\wpAny g.M A (letOwnedTupleGo target itv v) (λ_ s₂=>K v s₂) E s₁) E (p.on s tk)
 done:∀(p:Pt)(s:ak) tk(K:Option ai->ak->Prop)(E:ai->ak->Prop),St dh.length p.h->ad₀<+:p.ad->Inv g fr p->pT k p.σ->(∀b∈fp,¬own p.ad b)->
  (∀h' tk,vE fp p.h h'->K none (Pt.on ⟨p.σ,p.ad,h'⟩ s tk))->wpAny g.M A (pyNext itv) K E (p.on s tk)
section
variable{g:Gl}{A:a7}{fr:List ax}{target:az}{p:Pt}{ad₀:Ad}{l:Nat}{a d I:ax}
theorem Inv.listAt(Iv:Inv g fr p)(x:ad₀<+:p.ad)(hp:ad₀[l]?=some (a,d)){vs:List AV}(ho:pT (some (l,.list vs)) p.σ):dN g p.h p.ad a vs:=Iv.objs l _ (ho _ _ rfl) _ (mm x hp)
theorem Inv.Gj(Iv:Inv g fr p)(x:ad₀<+:p.ad)(hp:ad₀[l]?=some (a,d)){vs:List AV}(ho:pT (some (l,.tup vs)) p.σ):TupAt g p.h p.ad a vs:=Iv.objs l _ (ho _ _ rfl) _ (mm x hp)
theorem Inv.dictAt(Iv:Inv g fr p)(x:ad₀<+:p.ad)(hp:ad₀[l]?=some (a,d)){vs:List (AV×AV)}(ho:pT (some (l,.dict vs)) p.σ):g7 g p.h p.ad a vs:=Iv.objs l _ (ho _ _ rfl) _ (mm x hp)
theorem qS{α β:Type}{xs:Array α}{vs:List β}(h:xs.size=vs.length):xs[vs.length]?=none:=Array.getElem?_eq_none (aH h)
theorem Bs{α:Type}{f:α->Item}{vs:List α}{i:Nat}{it:Item}{P:Prop}(h:(vs.map f)[i]?=some it)(k:∀v,vs[i]?=some v->f v=it->P):P:=gL (bw.symm.trans h) k
theorem nq{h:bt}(e:∃o,h.get? I=some o):∀b∈[I],∃o,h.get? b=some o:=λb hb=>au.mp hb▸e
theorem ZU{ad:Ad}{h:bt}{n:Int}{t:Tok}{it:Item}(q:Item.one (AV.int n)=it):FQ g ad h it (.int n t):=q▸⟨t,rfl⟩
theorem XT{ad:Ad}{h:bt}{n:S}{t:Tok}{it:Item}(q:Item.one (AV.str n)=it):FQ g ad h it (.str (strOf n) t):=q▸⟨t,rfl⟩
theorem Dd(hh:A.handled=none){vs:List AV}(hp:ad₀[l]?=some (a,d)):nI g A fr ad₀ target (some (l,.list vs)) (vs.map .one) (.ref I) [I] (λi h=>h.IsListIter I a i) where
 frame:=λi h h' e k=>e.elim λo e=>⟨o,k I (.head _) o e.1,e.2⟩
 live:=λi h e=>nq (e.elim λo z=>⟨o,z.1⟩)
 self:=λs Q E st hQ=>wpAny_pyIter_listiter st hQ
 item:=λi it p s tk K E hi st hx Iv hk hf c=>Bs hi λv hv q=>match Iv.listAt hx hp hk with
  |⟨xs,h1,h2,_,_⟩=>(h2.get hv).elim λu z=>Jq st h1 (nk z.1) λh' hit hs=>⟨u,rfl,hit.elim λo e=>kX e.1 e.2.1 (by decide) (c _ _ tk (q▸z.2) hit (.of_same hs))⟩
 done:=λp s tk K E st hx Iv hk hf c=>match Iv.listAt hx hp hk with
  |⟨xs,h1,h2,_,_⟩=>wpAny_pyNext_list_end hh (aj (α:=AV) (β:=Item) _▸st) h1 (qS (dn h2)) λh' hs=>c h' tk (.nJ hs)
theorem H4(hh:A.handled=none){vs:List AV}(hp:ad₀[l]?=some (a,d)):nI g A fr ad₀ target (some (l,.tup vs)) (vs.map .one) (.ref I) [I] (λi h=>h.IsTupleIter I a i) where
 frame:=λi h h' e k=>e.elim λo e=>⟨o,k I (.head _) o e.1,e.2⟩
 live:=λi h e=>nq (e.elim λo z=>⟨o,z.1⟩)
 self:=λs Q E st hQ=>wpAny_pyIter_tupleiter st hQ
 item:=λi it p s tk K E hi st hx Iv hk hf c=>Bs hi λv hv q=>match Iv.Gj hx hp hk with
  |⟨xs,h1,h2,_⟩=>(h2.get hv).elim λu z=>wpAny_pyNext_tuple_item st h1 (nk z.1) λh' hit hs=>⟨u,rfl,hit.elim λo e=>kX e.1 e.2.1 (by decide) (c _ _ tk (q▸z.2) hit (.of_same hs))⟩
 done:=λp s tk K E st hx Iv hk hf c=>match Iv.Gj hx hp hk with
  |⟨xs,h1,h2,_⟩=>wpAny_pyNext_tuple_end hh (aj (α:=AV) (β:=Item) _▸st) h1 (qS (dn h2)) λh' hs=>c h' tk (.nJ hs)
theorem Ln{T:Tab}{ad:Ad}{k:AV}{u:ai}(h:mM k u=true):VR T ad k u:=gW (P:=λk u=>VR T ad k u) (λ_ t=>⟨t,rfl⟩) (λ_ t=>⟨t,rfl⟩) h
theorem EG(hh:A.handled=none){es:List (AV×AV)}(hp:ad₀[l]?=some (a,d)):nI g A fr ad₀ target (some (l,.dict es)) (es.map (.one ·.1)) (.ref I) [I] (λi h=>h.IsKeyIter I a i es.length es.length) where
 frame:=λi h h' e k=>e.elim λo e=>⟨o,k I (.head _) o e.1,e.2⟩
 live:=λi h e=>nq (e.elim λo z=>⟨o,z.1⟩)
 self:=λs Q E st hQ=>wpAny_pyIter_keyiter st hQ
 item:=λi it p s tk K E hi st hx Iv hk hf c=>Bs hi λv hv q=>match Iv.dictAt hx hp hk with
  |⟨kvs,h1,h2,_⟩=>(h2.get hv).elim λu z=>wpAny_pyNext_dict_item (knd:=cV g.prog g.w) (h2.len▸st) h1 (k:=u.1) (v:=u.2) z.1 λkey h' hkey hit hs=>⟨key,rfl,hit.elim λo e=>kX e.1 e.2.1 (by decide)
    (c _ _ tk (q▸(show VR g.T p.ad v.1 key from z.2.k▸Ln hkey)) (h2.len▸hit) (.of_same hs))⟩
 done:=λp s tk K E st hx Iv hk hf c=>match Iv.dictAt hx hp hk with
  |⟨kvs,h1,h2,_⟩=>by
   rw[aj,h2.len] at st
   exact wpAny_pyNext_dict_end (knd:=cV g.prog g.w) hh st h1 (iD (aK _)) λh' hs=>c h' tk (.nJ hs)
theorem A5(hh:A.handled=none)(x:Int)(n:Nat):nI g A fr ad₀ target none ((iK n).map (λ(k:Nat)=>Item.one (.int (x+(k:Int))))) (.ref I) [I] (λi h=>IsRangeIter h I (x+(i:Int)) ((n:Int) - i) 1) where
 frame:=λi h h' e k=>k I (.head _) _ e
 live:=λi h e=>nq ⟨_,e⟩
 self:=λs Q E st hQ=>wpAny_pyIter_rangeiter st hQ
 item:=λi it p s tk K E hi st hx Iv hk hf c=>Bs hi λv hv q=>by
  have hlt:i<n:=fN (n:=n)▸(aq.mp hv).1
  cases cu hv (qk hlt)
  refine wpAny_pyNext_range_item st (Int.sub_pos_of_lt (bW.mpr hlt)) λh' hit hs=>⟨_,rfl,kX hit rfl (by decide) (c _ _ _ (ZU q) ?_ (.of_same hs))⟩
  show IsRangeIter h' I (x+((i+1:Nat):Int)) ((n:Int) - ((i+1:Nat):Int)) 1
  rw[show x+((i+1:Nat):Int)=x+i+1 from(Int.add_assoc x i 1).symm,show(n:Int) - ((i+1:Nat):Int)=(n:Int) - i - 1 from(Int.sub_sub n i 1).symm]
  exact hit
 done:=λp s tk K E st hx Iv hk hf c=>by
  rw[aj,fN] at st
  exact wpAny_pyNext_range_end hh st (CG (Int.sub_self _)) λh' hs=>c h' tk (.nJ hs)
theorem Hl(hh:A.handled=none)(x:S)(t:Tok):nI g A fr ad₀ target none (x.map λc=>Item.one (.str [c])) (.ref I) [I] (λi h=>h.IsStrIter I (strIterType (strOf x)) (strOf x) t i) where
 frame:=λi h h' e k=>e.elim λo e=>⟨o,k I (.head _) o e.1,e.2⟩
 live:=λi h e=>nq (e.elim λo z=>⟨o,z.1⟩)
 self:=λs Q E st hQ=>by
  unfold strIterType at st
  by_cases z:((strOf x).cps.all λc=>decide (c<128))=true
  ·rw[if_pos z] at st;exact wpAny_pyIter_striter_ascii st hQ
  ·rw[if_neg z] at st;exact wpAny_pyIter_striter_wide st hQ
 item:=λi it p s tk K E hi st hx Iv hk hf c=>Bs hi λv hv q=>by
  have hc:(strOf x).cps[i]?=some v:=(CE ..).trans hv
  unfold strIterType at st c
  by_cases z:((strOf x).cps.all λc=>decide (c<128))=true
  ·rw[if_pos z] at st
   simp only[if_pos z] at c
   exact wpAny_pyNext_ascii_item st hc λh' hit hs=>⟨_,rfl,hit.elim λo e=>kX e.1 e.2.1 (by decide) (c _ _ _ (XT q) hit (.of_same hs))⟩
  ·rw[if_neg z] at st
   simp only[if_neg z] at c
   exact wpAny_pyNext_wide_item st hc λh' hit hs=>⟨_,rfl,hit.elim λo e=>kX e.1 e.2.1 (by decide) (c _ _ _ (XT q) hit (.of_same hs))⟩
 done:=λp s tk K E st hx Iv hk hf c=>by
  rw[aj] at st
  have hc:(strOf x).cps[x.length]?=none:=qS rfl
  unfold strIterType at st
  by_cases z:((strOf x).cps.all λc=>decide (c<128))=true
  ·rw[if_pos z] at st;exact wpAny_pyNext_ascii_end hh st hc λh' hs=>c h' tk (.nJ hs)
  ·rw[if_neg z] at st;exact wpAny_pyNext_wide_end hh st hc λh' hs=>c h' tk (.nJ hs)
end
section
variable{prog:fK}{w:ky}{A:a7}{E:ai->ak->Prop}{s:ak}
theorem EP{it t:ax}{i:Nat}{items}{x:ai}{Q:ai->ak->Prop}(hit:s.heap.IsTupleIter it t i)(ht:s.heap.IsTuple t items)(hx:items[i]?=some x)
  (hQ:∀h',h'.IsTupleIter it t (i+1)->cb it s.heap h'->Q x {s with heap:=h'}):wpAny (model prog w) A (e6 (.ref it)) Q E s:=by
 obtain⟨o,ho,hc,hd⟩:=id hit
 obtain⟨ol,hol,_,nl,hdl⟩:=ht
 unfold e6
 refine ag (ix (name:=aa "__next__") hit.typeIs gv
  (gF gv hit.typeIs zY ?_ (ye _)))
 show wpAny _ _ (field (.ref it) 0>>=_) _ _ s
 refine ag (fH ho hd (x:=.ref t) rfl ?_)
 show wpAny _ _ (if(cY t==fh)=true then _ else _) _ _ s
 rw[if_neg (show ¬((cY t==fh)=true) from aT)]
 show wpAny _ _ (field (.ref it) 1>>=_) _ _ s
 refine ag (fH ho hd (x:=.int i 0) rfl ?_)
 show wpAny _ _ (seqItems? (.ref t)>>=_) _ _ s
 refine ag (rD hol hdl ?_)
 simp only[tL,hx]
 refine ag (lN ho hd (by simp) (ao ⟨_,rfl,ao (hQ _ ?_ (cK ..))⟩))
 exact⟨_,aW _ ho (fO (fy hd _)),(Obj.cls_mapFields ..).trans hc,by
  rw[fy hd];simp[rawInt]⟩
theorem vI{it t:ax}{i:Nat}{items}{Q:ai->ak->Prop}(hh:A.handled=none)(hit:s.heap.IsTupleIter it t i)(ht:s.heap.IsTuple t items)(hx:items[i]?=none)
  (hE:∀h' e,E8 it s.heap h'→(∃o,h'.get? e=some o∧o.cls=.type "StopIteration")→E (.ref e) {s with heap:=h'}):wpAny (model prog w) A (e6 (.ref it)) Q E s:=by
 obtain⟨o,ho,hc,hd⟩:=id hit
 obtain⟨ol,hol,_,nl,hdl⟩:=ht
 unfold e6
 refine ag (ix (name:=aa "__next__") hit.typeIs gv
  (gF gv hit.typeIs zY ?_ (ye _)))
 show wpAny _ _ (field (.ref it) 0>>=_) _ _ s
 refine ag (fH ho hd (x:=.ref t) rfl ?_)
 show wpAny _ _ (if(cY t==fh)=true then _ else _) _ _ s
 rw[if_neg (show ¬((cY t==fh)=true) from aT)]
 show wpAny _ _ (field (.ref it) 1>>=_) _ _ s
 refine ag (fH ho hd (x:=.int i 0) rfl ?_)
 show wpAny _ _ (seqItems? (.ref t)>>=_) _ _ s
 refine ag (rD hol hdl ?_)
 simp only[tL,hx]
 refine ag (uy (ag (lN ho hd (by simp) ?_)))
 show wpAny _ _ (newExc (.type "StopIteration") []>>=_) _ _ _
 refine ag ?_
 simp only[newExc,newTuple]
 refine ag (dR ?_ (by size_fits))
 refine ag (m:=firstArgMember _ _) (wpAny_of_eq (a:=fh) (by first|rfl|(simp only[firstArgMember];rfl)) ?_)
 refine dR ?_ (by size_fits)
 unfold raiseNew
 refine ag (wpAny_handled ?_)
 first|rw[show A.in1.handled=none from hh]|rw[hh]
 refine ag (ao (wpAny_throw ?_))
 exact hE _ _ (((cK ..).extBut.push _).push _) ⟨_,aE _ rfl,rfl⟩
end
theorem xX{prog:fK}{w:ky}{A:a7}(hh:A.handled=none)(it l:ax)(hne:l≠it)(items:Array ai):
  Draws prog w A it [it,l] items.size (λi v=>items[i]?=some v) (λi h=>h.IsTupleIter it l i/\h.IsTuple l items) where
 live:=λ_ _ st=>let ⟨o,ho,_⟩:=st.1;⟨o,ho⟩
 frame:=λ_ _ _ st hk=>⟨st.1.at λo e=>hk it (by simp) o e,st.2.at λo e=>hk l (by simp) o e⟩
 item:=λi s Q E hi st hQ=>EP st.1 st.2 (x:=items[i]) (by simp[hi]) λh' hit' hs'=>hQ _ h' s.toks (by simp[hi]) ⟨hit',st.2.extBut hs'.extBut hne⟩ hs'
 done:=λs Q E st hE=>vI hh st.1 st.2 (by simp) hE
theorem V2{M:fY}{A:a7}{b:Bool}{Q:Bool->ak->Prop}{E:ai->ak->Prop}{s:ak}(h:Q false s)(h':Q true s):wpAny M A (pure b) Q E s:=ao (g4 (motive:=λb=>Q b s) b h h')
theorem v7(l:ax)(items:Array ai)(n:Nat)(dct:Option ax)(sl:Array (Option ai)):
  Meets (pG.«enumerate.__new__» ⟨[.type "enumerate",.ref l],[]⟩) (λ_ R s=>s.heap.get? l=some {cls:=.type "tuple",dict:=dct,data:=.seq items n,slots:=sl}∧
   R (.ok (.ret (.ref (s.heap.push {cls:=.type "tuple_iterator",data:=.fields #[.ref l,.int 0 0]}).objs.size)))
    {s with heap:=(s.heap.push {cls:=.type "tuple_iterator",data:=.fields #[.ref l,.int 0 0]}).push {cls:=.type "enumerate",data:=.fields #[.none,.bool false,.ref s.heap.objs.size,rawInt 0,.none,.none]}}):=
 .of_wp λprog w A R s h=>by
  obtain⟨hp,g,d,tk,os⟩:=s;obtain⟨hl,h⟩:=h
  have hsub:=sub_enumerate
  have hL:Heap.IsTuple (Shared.heap ⟨hp,g,d,tk,os⟩) l items:=⟨_,hl,rfl,n,rfl⟩
  wp_walk using Ac hl
  refine wpAny_stack_any λst=>V2 ?_ ?_
  ·wp_walk using Ac hl,uz hL
   exact⟨_,rfl,h⟩
  ·wp_walk using Ac hl,uz hL
   exact⟨_,rfl,h⟩
section
variable{prog:fK}{w:ky}{A:a7}{E:ai->ak->Prop}{s:ak}
theorem wU{l:ax}{items:Array ai}{Q:ai->ak->Prop}(hL:s.heap.IsTuple l items)
  (h:∀h',IsEnum h' (s.heap.objs.size+1) s.heap.objs.size 0 .none->h'.IsTupleIter s.heap.objs.size l 0->
   (∀b o,s.heap.get? b=some o->h'.get? b=some o)->Q (.ref (s.heap.objs.size+1)) {s with heap:=h'}):
  wpAny (model prog w) A (call (.type "enumerate") [.ref l]) Q E s:=by
 obtain⟨⟨c,dct,dt,sl⟩,hl,hc,n,hd⟩:=hL
 replace hc:c=.type "tuple":=hc
 replace hd:dt=.seq items n:=hd
 subst hc hd
 refine callType_new F.called_enumerate (by decide) (F.typeCall_enumerate_1 _) (F.newCall_enumerate_1 _) (λobj=>F.args_object_init_2 obj _) F.entry_enumerate_new
  (v7 l items n dct sl) ⟨hl,?_⟩
 have hz:(s.heap.push {cls:=.type "tuple_iterator",data:=.fields #[.ref l,.int 0 0]}).objs.size=s.heap.objs.size+1:=jW ..
 show _/\_
 rw[hz]
 have he:IsEnum ((s.heap.push {cls:=.type "tuple_iterator",data:=.fields #[.ref l,.int 0 0]}).push
   {cls:=.type "enumerate",data:=.fields #[.none,.bool false,.ref s.heap.objs.size,rawInt 0,.none,.none]}) (s.heap.objs.size+1) s.heap.objs.size 0 .none:=by
  have:=aE (s.heap.push {cls:=.type "tuple_iterator",data:=.fields #[.ref l,.int 0 0]})
   (o:={cls:=.type "enumerate",data:=.fields #[.none,.bool false,.ref s.heap.objs.size,rawInt 0,.none,.none]}) rfl
  rw[hz] at this;exact this
 exact⟨⟨_,he,rfl⟩,h _ he ⟨_,aA _ (aE _ rfl),rfl,rfl⟩ λb o x=>aA _ (aA _ x)⟩
end
theorem yH:∀{vs:List AV}{n i:Nat}{it:Item}{P:Prop},(lB n vs)[i]?=some it->(∀v,vs[i]?=some v->.pair (.int ((n+i:Nat):Int)) v=it->P)->P:=by
 intro vs
 induction vs with
 |nil=>intro n i it P h _;exact aG h
 |cons v r ih=>
  intro n i it P h k
  cases i with
  |zero=>exact k v rfl (ae h)
  |succ i=>exact ih (n:=n+1) (i:=i) h λw h1 h2=>k w h1 ((congrArg (λm:Nat=>Item.pair (.int (m:Int)) w) (Nat.succ_add n i).symm).trans h2)
theorem qU:∀(vs:List AV)(n:Nat),(lB n vs).length=vs.length
 |[],_=>rfl
 |v::r,n=>congrArg (·+1) (qU r (n+1))
inductive Sl(I J a:ax)(i:Nat)(h:bt):Prop where
 |mk (old:ai) (h1:IsEnum h I J i old) (h2:h.IsTupleIter J a i)
section
variable{g:Gl}{A:a7}{fr:List ax}{ad₀:Ad}{l:Nat}{a d I J:ax}
theorem VG{α:Type}{I J b:α}{P:α->Prop}(hb:b∈[I,J])(h1:P I)(h2:P J):P b:=(aC.mp hb).elim (λq=>q▸h1) λq=>au.mp q▸h2
theorem D9(hh:A.handled=none){vs:List AV}{elts:List az}{kk:Nat}{pos:Pos}(hp:ad₀[l]?=some (a,d))(hIJ:I≠J):
  nI g A fr ad₀ (.Tuple elts kk pos) (some (l,.tup vs)) (lB 0 vs) (.ref I) [I,J] (Sl I J a) where
 frame:=λi h h' ⟨old,e,e'⟩ k=>⟨old,k I (.head _) _ e,e'.elim λo z=>⟨o,k J (.tail _ (.head _)) o z.1,z.2⟩⟩
 live:=λi h ⟨old,e,e'⟩ b hb=>VG (P:=λb=>∃o,h.get? b=some o) hb ⟨_,e⟩ (e'.elim λo z=>⟨o,z.1⟩)
 self:=λs Q E ⟨old,e,_⟩ hQ=>wpAny_pyIter_enum e hQ
 item:=λi it p s tk K E hi ⟨old,he,hit⟩ hx Iv hk hf c=>yH hi λv hv q=>match Iv.Gj hx hp hk with
  |⟨xs,h1,h2,_⟩=>(h2.get hv).elim λu z=>by
   have hlt:i<xs.size:=(aq.mp z.1).1
   have hpI:a≠I:=λq=>hf I (.head _) (q▸own.l (mm hx hp))
   have hpJ:a≠J:=λq=>hf J (.tail _ (.head _)) (q▸own.l (mm hx hp))
   refine wpAny_pyNext_enum_itemD (xX (A:=A.in1) hh J a hpJ xs) he ⟨hit,h1⟩ hlt hIJ (by simp[hIJ,dK hpI]) λx h' tk hx' ho hit' hT hsz hkp=>⟨_,rfl,wpAny_letOwnedTupleGo_enum ho λh₂ he₂ hs₂=>?_⟩
   cases cu hx' (nk z.1)
   refine c (.ref p.h.objs.size) h₂ (tk+1) (q▸⟨p.h.objs.size,.int i tk,u,rfl,⟨_,(hs₂.2 _ (CH (dQ he))).trans hT,rfl,_,rfl⟩,⟨tk,by rw[cj]⟩,z.2⟩)
    ⟨_,he₂,hit'.1.elim λo z=>⟨o,(hs₂.2 _ (dK hIJ)).trans z.1,z.2⟩⟩ λb o n e=>?_
   have n1:b≠I:=λq=>n (aC.mpr (.inl q))
   exact(hs₂.2 _ n1).trans (hkp b o n1 (λq=>n (aC.mpr (.inr (au.mpr q)))) e)
 done:=λp s tk K E ⟨old,he,hit⟩ hx Iv hk hf c=>match Iv.Gj hx hp hk with
  |⟨xs,h1,h2,_⟩=>by
   have hpJ:a≠J:=λq=>hf J (.tail _ (.head _)) (q▸own.l (mm hx hp))
   rw[qU,<-dn h2] at he hit
   exact wpAny_pyNext_enum_endD (xX (A:=A.in1) hh J a hpJ xs) he ⟨hit,h1⟩ λh' hs=>c h' tk λb o n e=>hs b o (λq=>n (aC.mpr (.inr (au.mpr q)))) e
end
end Mine.Internal
set_option backward.match.sparseCases false
namespace Mine.Internal
open PySem PySem.W PySem.Calls PyProof.Rows
theorem lX{base h:bt}:∀{envs:List Env},(∀e∈envs,e.scope.kind≠.module/\e.frame.isSome=true)->(∀b∈envs.filterMap (·.frame),O4 base h b)->h.FunFrames base envs
 |[],_,_=>trivial
 |e::r,hk,hf=>(eD.mp (hk e (.head _)).2).elim λL hL=>
  have hm:∀b,(b=L\/b∈r.filterMap (·.frame))->b∈(e::r).filterMap (·.frame):=λb q=>by rw[dO,hL];exact aC.mpr q
  match hf L (hm L (.inl rfl)) with
  |⟨q1,o,q2,q3⟩=>⟨(hk e (.head _)).1,⟨L,o,hL,q1,q2,q3⟩,lX (λx hx=>hk x (.tail _ hx)) λb hb=>hf b (hm b (.inr hb))⟩
section
variable{M:fY}{A:a7}{E:ai->ak->Prop}{s:ak}{base:bt}{env:Env}{outer:List Env}{L e:ax}
theorem I2{oe:Obj}{vs:Array ai}{head:ai}{hadNext:Bool}{Q:Unit->ak->Prop}(hfr:A.frames=some (env::outer))(hl:s.heap.FunFrames base (env::outer))(hf:env.frame=some L)
  (he:s.heap.get? e=some oe) (hd:oe.data=.fields vs) (hsz:1<vs.size)
  (h:∀h' t oT ts,s.heap.get? t=none->h'.get? e=some (rk (·.setIfInBounds 1 (.ref t)) oe)->h'.get? t=some oT->oT.data=.fields ts->ts[3]?=some (rawInt L)->
   (∀b o,b≠e->s.heap.get? b=some o->∃sl,h'.get? b=some {o with slots:=sl}/\(b∉(env::outer).filterMap (·.frame)->h'.get? b=some o))->Q () {s with heap:=h'}):
  wpAny M A (do let a<-frameOf env;let pl<-entryPlaceOf L hadNext;let b<-m9 head a .none (rawInt L) .none pl;setField (.ref e) 1 b) Q E s:=by
 have hene:e∉(env::outer).filterMap (·.frame):=λhm=>by
  obtain⟨_,o,ho,hnf⟩:=hl.mem hm
  rw[he] at ho;injection ho with ho;subst ho;exact hnf vs hd
 refine ag (wpAny_frameOf_fun hfr hl hf λh₁ hs₁=>?_)
 refine ag (wpAny_entryPlaceOf λpl hpl=>?_)
 unfold m9 newFields
 refine ag (dR ?_ (hpl.sizeOk5 _ _ _ _ _))
 generalize hob:({cls:=.type "traceback",dict:=none,data:=.fields ([head,.ref L,.none,rawInt L,.none]++(if pl.isEmpty then aM 6 fh else pl)).toArray}:Obj)=ob
 have he₁:h₁.get? e=some oe:=(hs₁.2.1 e hene).trans he
 have he₂:=aA (h:=h₁) ob he₁
 have hbd:ob.data=.fields ([head,.ref L,.none,rawInt L,.none]++(if pl.isEmpty then aM 6 fh else pl)).toArray:=by rw[<-hob]
 have hT:=aE h₁ (fO hbd)
 refine lN he₂ hd hsz ?_
 have hTe:h₁.objs.size≠e:=CH (dQ he₁)
 refine h _ h₁.objs.size _ _ ?_ (aW _ he₂ (fO (fy hd _))) ((bV _ _ (dK hTe)).trans hT) hbd ?_ λb o hbe hb=>?_
 ·have:=hs₁.1
  rw[this];exact cA _
 ·rcases hpl with rfl|⟨_,_,_,_,_,_,_,rfl⟩<;>simp
 ·obtain⟨sl,hsl⟩:=hs₁.2.2 b o hb
  refine⟨sl,?_,λhn=>?_⟩
  ·rw[bV _ _ (dK hbe)];exact aA _ hsl
  ·rw[bV _ _ (dK hbe)];exact aA _ ((hs₁.2.1 b hn).trans hb)
end
inductive Z1(base:bt)(fr:List ax)(h₀:bt)(p:Pt)(a:ax)(fl:ai->Prop):Prop where
 |mk (c:ai) (d:Option ax) (vs:Array ai) (sl:Array (Option ai)) (h1:p.h.get? a=some ⟨c,d,.fields vs,sl⟩) (h2:6<=vs.size) (h3:uE base fr h₀ p vs[1]? fl)
structure ym(g:Gl)(X fr:List ax)(fl:ai->Prop)(p:Pt)(e:Nat)(p':Pt)(a:ax):Prop where
 af:gH g X fr p p'
 f:Flew p' e a
 t:Z1 g.base fr p.h p' a fl
section
variable{g:Gl}{fr X:List ax}{p₀ p p':Pt}{fl fl':ai->Prop}{e:Nat}{a:ax}
theorem uE.imp{h₀:bt}{v:Option ai}(k:∀v,fl v->fl' v):uE g.base fr h₀ p v fl->uE g.base fr h₀ p v fl'
 |⟨t,ot,ts,f,q1,q2,q3,q4,q5,q6,q7,q8,q9⟩=>⟨t,ot,ts,f,q1,q2,q3,q4,q5,q6,q7,q8,k _ q9⟩
theorem Z1.tb{h₀:bt}(k:∀v,fl v->fl' v):Z1 g.base fr h₀ p a fl->Tb g.base fr h₀ p a fl'
 |⟨c,d,vs,sl,h1,h2,h3⟩=>⟨c,d,vs,sl,h1,h2,.inr (h3.imp k)⟩
theorem ym.thr(k:∀v,fl v->fl' v)(o:ym g X fr fl p e p' a):KR g X fr fl' p e p' a:=⟨o.af,o.f,o.t.tb k⟩
noncomputable def TS(g:Gl)(fr:List ax)(h₀:bt)(p:Pt)(t:ax):Prop:=¬own p.ad t/\g.base.get? t=none/\h₀.get? t=none/\t∉fr
theorem tm(o:gH g X fr p₀ p)(f:Flew p e a){c:ai}{d:Option ax}{vs vs':Array ai}{sl:Array (Option ai)}{h':bt}(he:p.h.get? a=some ⟨c,d,.fields vs,sl⟩)(h6:6<=vs'.size)
  (he':h'.get? a=some ⟨c,d,.fields vs',sl⟩) {t:ax} (ht0:t=a\/TS g fr p₀.h p t)
  (k:∀b o,b≠a->b≠t->p.h.get? b=some o->∃sl,h'.get? b=some {o with slots:=sl}/\(b∉fr->h'.get? b=some o)):gH g X fr p₀ ⟨p.σ,p.ad,h'⟩:=by
 obtain⟨I,S⟩:=o
 obtain⟨da,hp,c₀,fs₀,hfl⟩:=f
 have H:xQ g p.h p.ad a da c₀ fs₀:=I.objs e _ hfl _ hp
 have ownp:=own.l hp
 have hnd:da≠a:=λq=>match H.fs with
  |⟨xs,n,e,_⟩=>nomatch (cu (q▸e) he:dictOf xs n=_)
 have keep:∀b o,own p.ad b->b≠a->p.h.get? b=some o->h'.get? b=some o:=λb o hb n e=>
  (k b o n (λq=>ht0.elim (λz=>n (q.trans z)) λz=>z.1 (q▸hb)) e).elim λ_ z=>z.2 (I.off b hb).f
 have nt:∀{b:ax},b≠a->(TS g fr p₀.h p t->b≠t)->b≠t:=λn z q=>ht0.elim (λy=>n (q.trans y)) λy=>z y q
 refine⟨⟨I.len,λl' o e' q' hp'=>?_,I.wQ,λb hb=>?_,λb o e=>?_,λb hb=>?_⟩,S.ext,λb o e n=>?_,S.new⟩
 ·by_cases q:l'=e
  ·subst q
   cases cu hp hp'
   cases cu hfl e'
   exact match H.obj with
    |⟨vs₂,sl₂,z2,_,_⟩=>(⟨⟨vs',sl,by cases cu z2 he;exact he',h6,trivial⟩,H.fs.to (cM _) λob z=>keep _ _ (own.r hp) hnd z⟩:xQ g h' p.ad a da c₀ fs₀)
  ·have dj:=I.wQ e l' _ q' hp hp' (dK q)
   exact(I.objs l' o e' q' hp').congr (cM _) (λob z=>keep _ _ (own.l hp') (dK dj.1.1) z) λob z=>keep _ _ (own.r hp') (dK dj.1.2) z
 ·exact match I.off b hb with
   |⟨q1,q2,ob,q3⟩=>if q:b=a then⟨q1,q2,_,q▸he'⟩ else⟨q1,q2,_,keep b ob hb q q3⟩
 ·have n1:b≠a:=λq=>aX (I.off _ ownp).b (q▸e)
  exact(k b o n1 (nt n1 λz q=>aX z.2.1 (q▸e)) (I.stays b o e)).elim λ_ z=>z.2 λhf=>aX (I.MI b hf).b e
 ·have n1:b≠a:=λq=>(I.off _ ownp).f (q▸hb)
  exact match I.MI b hb with
   |⟨q1,ob,q2,q3⟩=>(k b ob n1 (nt n1 λz q=>z.2.2.2 (q▸hb)) q2).elim λ_ z=>⟨q1,_,z.1,q3⟩
 ·have n1:b≠a:=λq=>S.off e n (q▸ownp)
  exact match S.kp b o e n with
   |⟨o',e',q⟩=>(k b o' n1 (nt n1 λz q=>aX z.2.2.1 (q▸e)) e').elim λsl z=>⟨_,z.1,λhX=>⟨(q hX).1.elim λsl' z1=>⟨sl,congrArg (λo:Obj=>{o with slots:=sl}) z1⟩,λhf=>(cu z.1 (z.2 hf)).trans ((q hX).2 hf)⟩⟩
variable{M:fY}{A:a7}{E:ai->ak->Prop}{s:ak}{tk:Nat}{env:Env}{outer:List Env}{L:ax}
theorem uE.moved{v:Option ai}{h₀:bt}{σ':Hp}{h':bt}(k:∀t ot ts f,v=some (.ref t)->p.h.get? t=some ot->ot.data=.fields ts->ts[3]?=some f->∃ot' ts' f',h'.get? t=some ot'/\ot'.data=.fields ts'/\ts'[3]?=some f'/\fl' f'):
  uE g.base fr h₀ p v fl->uE g.base fr h₀ ⟨σ',p.ad,h'⟩ v fl'
 |⟨t,ot,ts,f,q1,q2,q3,q4,q5,q6,q7,q8,_⟩=>match k t ot ts f q1 q6 q7 q8 with
  |⟨ot',ts',f',z1,z2,z3,z4⟩=>⟨t,ot',ts',f',q1,q2,q3,q4,q5,z1,z2,z3,z4⟩
theorem Rc(t:ax):(cY t !=fh)=true:=bne_iff_ne.mpr λz=>nomatch z
theorem VN(t:ax):(cY t==fh)=false:=beq_eq_false_iff_ne.mpr λz=>nomatch z
theorem ZI{ts:Array ai}{f v:ai}(h:ts[3]?=some f):(ts.setIfInBounds 3 v)[3]?=some v:=oq (jP.mp h).1
theorem nK{fo:Option ax}{Q:Unit->ak->Prop}(o:ym g X fr fl p₀ e p a)(hQ:∀p',p'.σ=p.σ->ym g X fr (·=fo.elim .none λf=>rawInt f) p₀ e p' a->Q () (p'.on s tk)):wpAny M A (setFlight (.ref a) fo) Q E (p.on s tk):=by
 obtain⟨af,hF,c,d,vs,sl,h7,h8,h9⟩:=o
 obtain⟨t,ot,ts,f,q1,q2,q3,q4,q5,q6,q7,q8,q9⟩:=id h9
 have npt:a≠t:=λq=>match hF with|⟨_,h,_,_,_⟩=>q2 (q▸own.l h)
 have hu:=aW (rk (·.setIfInBounds 3 (fo.elim .none λf=>rawInt f))) q6 (fO (fy q7 _))
 have other:∀b,b≠t->(p.h.update t (rk (·.setIfInBounds 3 (fo.elim .none λf=>rawInt f)))).get? b=p.h.get? b:=λb hb=>bV _ _ (dK hb)
 refine ag (fH h7 rfl q1 (CI (decide_eq_true (Rc t)) (lN q6 q7 (jP.mp q8).1 (hQ ⟨p.σ,p.ad,_⟩ rfl ⟨?_,match hF with|⟨d,h1,c,fs,h2⟩=>⟨d,h1,c,fs,h2⟩,c,d,vs,sl,(other _ npt).trans h7,h8,?_⟩))))
 ·exact tm af hF h7 h8 ((other _ npt).trans h7) (t:=t) (.inr ⟨q2,q4,q5,q3⟩) λb o _ n2 e=>⟨o.slots,(other b n2).trans e,λ_=>(other b n2).trans e⟩
 ·exact h9.moved λt' ot' ts' f' z1 z2 z3 z4=>by
   cases q1.symm.trans z1
   cases cu q6 z2
   cases q7.symm.trans z3
   exact⟨_,_,_,hu,fy q7 _,ZI q8,rfl⟩
theorem DM{Q:Unit->ak->Prop}(hfr:A.frames=some (env::outer))(hk:∀e∈env::outer,e.scope.kind≠.module/\e.frame.isSome=true)(hhr:(env::outer).filterMap (·.frame)=fr)(hf:env.frame=some L)
  (o:KR g X fr fl p₀ e p a) (hfl:∀v,fl v->v=.none\/v=rawInt L) (hQ:∀p',p'.σ=p.σ->ym g X fr (·=rawInt L) p₀ e p' a->Q () (p'.on s tk)):wpAny M A (noteFrame (.ref a) env) Q E (p.on s tk):=by
 obtain⟨af,hF,c,d,vs,sl,h7,h8,h9⟩:=o
 have I:=af.I
 have FF:p.h.FunFrames g.base (env::outer):=lX hk λb hb=>I.MI b (hhr▸hb)
 have hsz:1<vs.size:=aY (by decide) h8
 unfold noteFrame
 simp only[hf]
 have fin:∀(H:bt)(t':ax),(H.FunFrames g.base (env::outer))->H.get? a=some ⟨c,d,.fields vs,sl⟩->(t'=a\/TS g fr p₀.h p t')->(∀b o,b≠t'->p.h.get? b=some o->H.get? b=some o)->(∀b,H.get? b=none->p.h.get? b=none)->∀head hn,
   wpAny M A (do let x<-frameOf env;let pl<-entryPlaceOf L hn;let b<-m9 head x .none (rawInt L) .none pl;setField (.ref a) 1 b) Q E {p.on s tk with heap:=H}:=λH t' FH hH ht' kH kN head hn=>by
  refine I2 (s:={p.on s tk with heap:=H}) hfr FH hf hH rfl hsz λh'' t oT ts z1 z2 z3 z4 z5 z6=>hQ ⟨p.σ,p.ad,h''⟩ rfl ?_
  have tn:p.h.get? t=none:=kN t z1
  have tf:=I.fresh tn
  have sz:6<=(vs.setIfInBounds 1 (.ref t)).size:=by rw[Array.size_setIfInBounds];exact h8
  have A':=tm (h':=h'') af hF h7 sz z2 ht' λb o n1 n2 eb=>by
   have:=z6 b o n1 (kH b o n2 eb)
   rw[hhr] at this;exact this
  exact⟨A',match hF with|⟨d,h1,c,fs,h2⟩=>⟨d,h1,c,fs,h2⟩,c,d,_,sl,z2,sz,t,oT,ts,_,oq hsz,tf.1,tf.2.2,tf.2.1,af.S.fresh tn λz=>tf.1 (z.mono af.S.ext),z3,z4,z5,rfl⟩
 rcases h9 with h9|h9
 ·exact ag (fH h7 rfl h9 (fZ rfl (fin p.h a FF h7 (.inl rfl) (λb o _ q=>q) (λb q=>q) _ _)))
 ·obtain⟨t,ot,ts,f,q1,q2,q3,q4,q5,q6,q7,q8,q9⟩:=id h9
  refine ag (fH h7 rfl q1 (CI (decide_eq_true (Rc t)) (ag (fH q6 q7 q8 ?_))))
  refine(hfl f q9).elim (λz=>?_) λz=>?_
  ·refine fZ (decide_eq_false λh=>nomatch (z▸eq_of_beq h:fh=rawInt L)) (ag (lN q6 q7 (jP.mp q8).1 ?_))
   have npt:a≠t:=λq=>match hF with|⟨_,h,_,_,_⟩=>q2 (q▸own.l h)
   have other:∀b,b≠t->(p.h.update t (rk (·.setIfInBounds 3 fh))).get? b=p.h.get? b:=λb hb=>bV _ _ (dK hb)
   refine fin _ t (lX hk λb hb=>match I.MI b (hhr▸hb) with|⟨z1,ob,z2,z3⟩=>⟨z1,ob,(other b λq=>q3 (q▸(hhr▸hb))).trans z2,z3⟩) ((other _ npt).trans h7) (.inr ⟨q2,q4,q5,q3⟩) (λb o n q=>(other b n).trans q) (λb q=>?_) _ _
   exact if z:b=t then aX (z▸q) (aW _ q6 (fO (fy q7 _))) else(other b z).symm.trans q
  ·exact CI (by rw[z];exact decide_eq_true (beq_self_eq_true _)) (ao (hQ p rfl ⟨af,hF,c,d,vs,sl,h7,h8,h9.moved λt' ot' ts' f' z1 z2 z3 z4=>⟨ot',ts',f',z2,z3,z4,by cases q1.symm.trans z1;cases cu q6 z2;cases q7.symm.trans z3;exact(cu z4 q8).trans z⟩⟩))
theorem IC{Q:Unit->ak->Prop}(hfr:A.frames=some (env::outer))(hk:∀e∈env::outer,e.scope.kind≠.module/\e.frame.isSome=true)(hhr:(env::outer).filterMap (·.frame)=fr)(hf:env.frame=some L)
  (o:KR g X fr fl p₀ e p a) (hfl:∀v,fl v->v=.none\/v=rawInt L) (hQ:∀p',p'.σ=p.σ->ym g X fr (·=.none) p₀ e p' a->Q () (p'.on s tk)):wpAny M A (leaving env (.ref a)) Q E (p.on s tk):=
 ag (DM hfr hk hhr hf o hfl λp' q o'=>nK (fo:=none) o' λp'' q'=>hQ p'' (q'.trans q))
theorem CT{E':ai->ak->Prop}(hf:env.frame=some L)(o:ym g X fr fl p₀ e p a)(hQ:∀p',p'.σ=p.σ->ym g X fr (·=rawInt L) p₀ e p' a->E' (.ref a) (p'.on s tk)):cameBackBy M A env E' (.ref a) (p.on s tk):=by
 unfold cameBackBy
 match o.t with
 |⟨c,d,vs,sl,h7,h8,h9⟩=>exact match h9 with
  |⟨t,_,_,_,q1,_,_,_,_,_,_,_,_⟩=>ag (fH h7 rfl q1 (fZ (decide_eq_false λh=>ft ((VN t).symm.trans h)) (by rw[hf];exact nK (fo:=some L) o hQ)))
end
end Mine.Internal
set_option backward.match.sparseCases true
namespace Mine.Internal
open PySem PySem.W PySem.Calls PyProof.Rows
noncomputable def DU(d:Data)(f:rC->Bool):Bool:=if h:d.ctorIdx=7 then tM (motive:=λ_=>Bool) d h f else false
@[elab_as_elim] theorem KU {f:rC->Bool} {P:Data->Prop} {d:Data} (h:DU d f=true) (k:∀x,f x=true->P (.func x)):P d:=(yN h).elim λe q=>
 tM (motive:=λd=>∀e:d.ctorIdx=7,tM (motive:=λ_=>Bool) d e f=true->P d) d e (λx _ q=>k x q) e q
noncomputable def ug(d:FuncBody)(f:List bT->Bool):Bool:=match d with
 |.stmts b=>f b
 |.expr _=>false
@[elab_as_elim] theorem IQ {f:List bT->Bool} {P:FuncBody->Prop} {d:FuncBody} (h:ug d f=true) (k:∀x,f x=true->P (.stmts x)):P d:=
 FuncBody.casesOn (motive:=λd=>ug d f=true->P d) d k (λ_=>ft) h
noncomputable def Fh:AV->ai->Bool
 |.none,v=>v==.none
 |.bool b,v=>v==.bool b
 |.int i,v=>Eb v λj=>i==j
 |_,_=>false
theorem EA{T:Tab}{ad:Ad}{a:AV}{v:ai}(h:Fh a v=true):VR T ad a v:=by
 cases a with
 |none=>exact eq_of_beq h
 |bool b=>exact eq_of_beq h
 |int i=>exact Ar (P:=λv=>VR T ad (.int i) v) h λj t q=>eq_of_beq q▸⟨t,rfl⟩
 |_=>exact ft h
noncomputable def oF:List AV->List ai->Bool
 |[],vs=>rR vs true
 |a::as,vs=>n0 vs λv vs=>Fh a v&&oF as vs
theorem gU{T:Tab}{ad:Ad}:∀{as:List AV}{vs:List ai},oF as vs=true->eJ T ad as vs
 |[],_,h=>gc (P:=λvs=>eJ T ad [] vs) h λ_=>.nil
 |a::as,_,h=>iJ (P:=λvs=>eJ T ad (a::as) vs) h λv vs h=>gX h λh1 h2=>.cons (EA h1) (gU h2)
noncomputable def MO:Data->Option (List ai)
 |.seq items _=>some items.toList
 |_=>none
noncomputable def Gy(K:cT):ai->Option (List ai)
 |.none=>some []
 |.ref t=>(K.lookup t).bind λo=>MO o.data
 |_=>none
inductive DfP(K:cT)(v:ai)(ds:List ai):Prop where
 |no (h:v=.none) (e:ds=[])
 |is (t:ax) (o:Obj) (items:Array ai) (n:Nat) (h:v=.ref t) (h1:K.lookup t=some o) (h2:o.data=.seq items n) (e:items.toList=ds)
theorem OG{d:Data}{ds:List ai}{P:Prop}(h:MO d=some ds)(k:∀items n,d=.seq items n->items.toList=ds->P):P:=by
 cases d with
 |seq items n=>exact k items n rfl (ae h)
 |_=>exact aG h
theorem KH{K:cT}{v:ai}{ds:List ai}(h:Gy K v=some ds):DfP K v ds:=by
 cases v with
 |none=>exact .no rfl (ae h).symm
 |ref t=>
  have h:(K.lookup t).bind (λo=>MO o.data)=some ds:=h
  cases e:K.lookup t with
  |none=>rw[e] at h;exact aG h
  |some o=>rw[e] at h;exact OG h λitems n h2 q=>.is t o items n rfl e h2 q
 |_=>exact aG h
noncomputable def Gu(p:Arguments)(names:List Str):Bool:=rR p.posonlyargs (rR p.kwonlyargs (vT p.vararg (vT p.kwarg (p.args.map (·.arg)==names&&decide names.Nodup))))
theorem DB{p:Arguments}{names:List Str}(h:Gu p names=true):mi p names:=by
 obtain⟨po,ar,va,ko,kd,ka,df⟩:=p
 exact gc (P:=λpo=>mi ⟨po,ar,va,ko,kd,ka,df⟩ names) h λh=>gc (P:=λko=>mi ⟨[],ar,va,ko,kd,ka,df⟩ names) h λh=>qx (P:=λva=>mi ⟨[],ar,va,[],kd,ka,df⟩ names) h λh=>qx (P:=λka=>mi ⟨[],ar,none,[],kd,ka,df⟩ names) h λh=>gX h λh1 h2=>⟨ar,kd,df,rfl,(eq_of_beq h1).symm,of_decide_eq_true h2⟩
noncomputable def bc.ns(D:bc):List Str:=D.names.map aa
noncomputable def bc.ps(D:bc):List Str:=D.ns.take D.np
noncomputable def A0(K:cT)(a:ax)(D:bc)(ok:Ks->List bT->Bool):Bool:=jF (K.lookup a) λoc=>DU oc.data λfd=>ug fd.body λbody=>(codeIn K fd.code fd.qualname&&(fd.closure.isEmpty&&(fd.globals==mainGlobals&&(fd.builtins==builtinsNs&&(!fd.scope.isCoroutine&&!fd.scope.isGenerator)))))&&
 ((fd.scope.kind==.function&&Gu fd.params D.ps)&&(jF (Gy K fd.defaults) (λds=>oF D.dflt ds)&&(ok fd.scope.names body&&(D.ps.all (kL fd.scope.names)&&(decide (D.dflt.length<=D.np)&&(decide (D.np<=D.names.length)&&decide D.ns.Nodup))))))
noncomputable abbrev VA(K:cT)(a:ax)(D:bc):Bool:=A0 K a D λks body=>zm ks D.ns D.body body
structure ZQ(K:cT)(a:ax)(D:bc)(ok:Ks->List bT->Bool)(oc:Obj)(fd:rC)(body:List bT)(ds:List ai):Prop where
 at_:K.lookup a=some oc
 data:oc.data=.func fd
 bd:fd.body=.stmts body
 cd:codeIn K fd.code fd.qualname=true
 clo:fd.closure=[]
 gl:fd.globals=mainGlobals
 bi:fd.builtins=builtinsNs
 co:fd.scope.isCoroutine=false
 ge:fd.scope.isGenerator=false
 kf:fd.scope.kind=.function
 ps:mi fd.params D.ps
 df:DfP K fd.defaults ds
 vr:oF D.dflt ds=true
 ck:ok fd.scope.names body=true
 kn:∀n∈D.ps,kL fd.scope.names n=true
 l1:D.dflt.length<=D.np
 l2:D.np<=D.names.length
 nd:D.ns.Nodup
theorem vc{α:Type}{o:Option α}{f:α->Bool}(h:jF o f=true):∃a,o=some a/\f a=true:=kF (P:=λo=>∃a,o=some a/\f a=true) h λa q=>⟨a,rfl,q⟩
theorem Kx{d:Data}{f:rC->Bool}(h:DU d f=true):∃a,d=.func a/\f a=true:=KU (P:=λo=>∃a,o=.func a/\f a=true) h λa q=>⟨a,rfl,q⟩
theorem H2{d:FuncBody}{f:List bT->Bool}(h:ug d f=true):∃a,d=.stmts a/\f a=true:=IQ (P:=λo=>∃a,o=.stmts a/\f a=true) h λa q=>⟨a,rfl,q⟩
theorem sq{K:cT}{a:ax}{D:bc}{ok:Ks->List bT->Bool}{P:Prop}(h:A0 K a D ok=true)(k:∀oc fd body ds,ZQ K a D ok oc fd body ds->P):P:=
 (vc h).elim λoc q=>(Kx q.2).elim λfd q1=>(H2 q1.2).elim λbody q2=>gX q2.2 λx y=>el6 x λc1 c2 c3 c4 c5 c6=>el6 y λy1 y2 y3 y4 y5 y=>gX y λy6 y7=>gX y1 λz1 z2=>(vc y2).elim λds q3=>
  k oc fd body ds ⟨q.1,q1.1,q2.1,c1,List.isEmpty_iff.mp c2,eq_of_beq c3,eq_of_beq c4,cJ c5,cJ c6,eq_of_beq z1,DB z2,KH q3.1,q3.2,y3,aD.mp y4,of_decide_eq_true y5,of_decide_eq_true y6,of_decide_eq_true y7⟩
theorem dP:∀{ns:List Str}{x:Str}{i:Nat},bg ns x=some i->ns[i]?=some x:=by
 intro ns
 induction ns with
 |nil=>intro x i h;exact aG h
 |cons y r ih=>
  intro x i h
  have h:(match bg r x with|some i=>some (i+1)|none=>if y=x then some 0 else none)=some i:=h
  cases q:bg r x with
  |some j=>rw[q] at h;cases ae h;exact ih q
  |none=>
   rw[q] at h
   by_cases z:y=x
   ·have h:(if y=x then some 0 else none)=some i:=h
    rw[if_pos z] at h;cases ae h;exact congrArg some z
   ·have h:(if y=x then some 0 else none)=some i:=h
    rw[if_neg z] at h;exact aG h
section
variable{kindOf:Str->Option oR}{x:Str}{binds:List (Str×ai)}
theorem H6:∀{m:Str->Option ai},x∉binds.map (·.1)->bindL kindOf binds m x=m x:=by
 induction binds with
 |nil=>exact λ_=>rfl
 |cons p r ih=>
  intro m h
  show bindL kindOf r (if kindOf p.1=some .local then λy=>if y=p.1 then some p.2 else m y else m) x=m x
  rw[ih λq=>h (E9 _ q)]
  by_cases z:kindOf p.1=some .local
  ·rw[if_pos z];exact if_neg λq:x=p.1=>h (q▸.head _)
  ·rw[if_neg z]
theorem HU:∀{m:Str->Option ai},x∉binds.map (·.1)->bindC kindOf binds m x=m x:=by
 induction binds with
 |nil=>exact λ_=>rfl
 |cons p r ih=>
  intro m h
  show bindC kindOf r (if kindOf p.1=some .local then m else λy=>if y=p.1 then some p.2 else m y) x=m x
  rw[ih λq=>h (E9 _ q)]
  by_cases z:kindOf p.1=some .local
  ·rw[if_pos z]
  ·rw[if_neg z];exact if_neg λq:x=p.1=>h (q▸.head _)
theorem vg(hk:kindOf x=some .local):∀{m:Str->Option ai}{i:Nat}{v:ai},(binds.map (·.1)).Nodup->binds[i]?=some (x,v)->bindL kindOf binds m x=some v:=by
 induction binds with
 |nil=>exact λ_ h=>nomatch h
 |cons p r ih=>
  intro m i v nd h
  have nd:=aJ.mp nd
  cases i with
  |zero=>
   cases ae h
   show bindL kindOf r (if kindOf x=some .local then λy=>if y=x then some v else m y else m) x=_
   rw[H6 nd.1,if_pos hk];exact if_pos rfl
  |succ i=>exact ih nd.2 h
theorem Cf(hk:kindOf x=some .cell):∀{m:Str->Option ai}{i:Nat}{v:ai},(binds.map (·.1)).Nodup->binds[i]?=some (x,v)->bindC kindOf binds m x=some v:=by
 induction binds with
 |nil=>exact λ_ h=>nomatch h
 |cons p r ih=>
  intro m i v nd h
  have nd:=aJ.mp nd
  cases i with
  |zero=>
   cases ae h
   show bindC kindOf r (if kindOf x=some .local then m else λy=>if y=x then some v else m y) x=_
   rw[HU nd.1,if_neg (by rw[hk];decide)];exact if_pos rfl
  |succ i=>exact ih nd.2 h
end
theorem D8{names:List Str}{vals:List ai}{i:Nat}{x:Str}{v:ai}(h:names[i]?=some x)(h':vals[i]?=some v):(names.zip vals)[i]?=some (x,v):=List.getElem?_zip_eq_some.mpr ⟨h,h'⟩
theorem sg{names:List Str}{vals:List ai}(h:names.length=vals.length):(names.zip vals).map (·.1)=names:=List.map_fst_zip (aH h)
theorem ig{α:Type}{x:Str}{v:α}{r:List (Str×α)}:((x,v)::r).lookup x=some v:=by rw[gn,beq_self_eq_true]
theorem gb{α:Type}{x y:Str}{v:α}{r:List (Str×α)}(h:x≠y):((y,v)::r).lookup x=r.lookup x:=by rw[gn,beq_eq_false_iff_ne.mpr h]
theorem ia{x:Str}{names:List (Str×oR)}:∀{n:Nat}{acc:List (Str×ax)},((acc.lookup x).isSome=true\/names.lookup x=some .cell)->((cellsFrom n names acc).lookup x).isSome=true:=by
 induction names with
 |nil=>exact λh=>h.elim id λh=>nomatch h
 |cons p r ih=>
  intro n acc h
  obtain⟨y,k⟩:=p
  show((if(k==.cell)=true then cellsFrom (n+1) r ((y,n)::acc) else cellsFrom n r acc).lookup x).isSome=true
  by_cases z:(k==.cell)=true
  ·rw[if_pos z]
   exact ih (if q:x=y then .inl (by rw[q,ig];rfl) else h.imp (λh=>by rw[gb q];exact h) λh=>(gb q).symm.trans h)
  ·rw[if_neg z]
   exact ih (h.imp id λh=>if q:x=y then absurd (beq_iff_eq.mpr (by cases q;exact ae (ig.symm.trans h))) z else(gb q).symm.trans h)
structure Cx(g:Gl)(K:cT)(d:Fn->bc):Prop where
 inb:K.In g.base
 kd:Od g.T K
 cls:Gp K g.T
 sys:∃o,g.base.get? sysModules=some o
 lim:g.base.NoLimit
 fn:∀f,VA K (g.T.uv f) (d f)=true
structure RY(d:Nat)(A:a7)(envs:List Env)(fr:List ax):Prop where
 handled:A.handled=none
 frames:A.frames=some envs
 here:envs.filterMap (·.frame)=fr
 kinds:∀e∈envs,e.scope.kind≠.module/\e.frame.isSome=true
 depth:A.depth+8*d<906
 units:A.units+64*d+1000<cLine+40
theorem rv.c{d:Nat}{A:a7}{envs:List Env}{fr:List ax}(h:rv d A envs fr):RY d A envs fr:=⟨h.1,h.2,h.3,h.4,cg h.5 (by decide),cg h.6 (mW (by decide))⟩
noncomputable def Ji(L:ax):ai->Prop:=λv=>v=.none\/v=rawInt L
noncomputable def Zd(g:Gl)(f:Fr)(p:Pt):pM->Ha->Prop
 |.next ρ,fl=>fl=.next/\ba g f ρ p/\ρ.length=f.ns.length
 |.ret a,fl=>∃v,fl=.ret v/\VR g.T p.ad a v
noncomputable abbrev KF(g:Gl)(f:Fr)(s:ak)(p:Pt)(Q:pM->Hp->Prop)(K:Ha->ak->Prop):Prop:=KC g (dq f.env) f.fr (Zd g f) s p Q K
noncomputable abbrev EF(g:Gl)(f:Fr)(s:ak)(p:Pt)(Er:Nat->Hp->Prop)(E:ai->ak->Prop):Prop:=EC g (dq f.env) f.fr (Ji f.L) s p Er E
noncomputable def ny(g:Gl)(CM:Fn->List AV->MM AV)(f:Fr)(ss:dH)(body:List bT):Prop:=
 ∀(s:ak)(p:Pt) tk ρ Q Er K E,mQ g f ρ p->Wp (Cy CM ss ρ p.σ) Q Er->KF g f s p Q K->EF g f s p Er E->wpAny g.M f.A (execs body f.env) K E (p.on s tk)
noncomputable def BodyOk(g:Gl)(CM:Fn->List AV->MM AV)(n:Nat)(ns:List Str)(ks:Ks)(ss:dH)(body:List bT):Prop:=
 ∀(f:Fr)(envs:List Env),f.ns=ns->rv n f.A (f.env::envs) f.fr->f.env.frame=some f.L->f.env.scope.names=ks->f.env.scope.kind=.function->ny g CM f ss body
structure RC(g:Gl)(fr:List ax)(fl:ai->Prop)(s:ak)(p:Pt)(Q:AV->Hp->Prop)(Er:Nat->Hp->Prop)(R:pH->ak->Prop):Prop where
 ok:∀v u p' tk,Q v p'.σ->gH g [] fr p p'->VR g.T p'.ad v u->R (.ok (.ret u)) (p'.on s tk)
 er:∀e p' tk a,Er e p'.σ->KR g [] fr fl p e p' a->R (.error (.ref a)) (p'.on s tk)
noncomputable def r7(g:Gl)(CM:Fn->List AV->MM AV)(n:Nat):Prop:=
 ∀(f:Fn)(args:List AV)(us:List ai)(A:a7)(envs:List Env)(fr:List ax)(s:ak)(p:Pt) tk(fl:ai->Prop) Q Er R,RY n A envs fr->Inv g fr p->eJ g.T p.ad args us->fl .none->Wp (CM f args p.σ) Q Er->RC g fr fl s p Q Er R->
  codeAny g.M A (.call (.ref (g.T.uv f)) ⟨us,[]⟩) R (p.on s tk)
section
variable{g:Gl}{A:a7}{K:cT}{fr:List ax}{s:ak}{p:Pt}{tk:Nat}{d:Fn->bc}
theorem Cx.at(C:Cx g K d)(I:Inv g fr p):K.In p.h:=λa o e=>I.stays a o (C.inb a o e)
theorem Cx.Xa(C:Cx g K d)(I:Inv g fr p):p.h.NoLimit:=C.lim.keeps λb o e=>I.stays b o e
noncomputable def r9(D:bc)(args:List AV):List AV:=args++D.dflt.drop (args.length+D.dflt.length - D.np)
noncomputable def Nl(D:bc)(args:List AV):Loc:=(r9 D args).map some++aM (D.names.length - D.np) none
theorem OR{D:bc}{args:List AV}{vals:List ai}(V:eJ g.T p.ad (r9 D args) vals)(hl:(r9 D args).length=D.np){i:Nat}{a:AV}{P:Prop}(q:(Nl D args)[i]?=some (some a))(k:∀u,i<D.np->vals[i]?=some u->VR g.T p.ad a u->P):P:=by
 unfold Nl at q
 by_cases z:i<D.np
 ·rw[bk (by rw[aj,hl];exact z),bw] at q
  exact gL q λb e e'=>(V.get e).elim λu y=>k u z y.1 (ae e'▸y.2)
 ·rw[cX (by rw[aj,hl];exact bp z)] at q
  exact nomatch (rn.mp (av q)).2
theorem wa{ok:Ks->List bT->Bool}{D:bc}{oc:Obj}{fd:rC}{body:List bT}{ds vals:List ai}{a:ax}{ρ:Loc}{env:Env}{h₁:bt}{tk₁:Nat}(P:ZQ K a D ok oc fd body ds)(I:Inv g fr p)(lg:∀{i:Nat}{v:AV}{P:Prop},ρ[i]?=some (some v)->(∀u,i<D.np->vals[i]?=some u->VR g.T p.ad v u->P)->P)(hvl:vals.length=D.np)
  (he:env=newEnv fd.scope p.h.objs.size fd.globals (cellsFrom (p.h.objs.size+1) fd.scope.names []) (fd.qualname++".<locals>.") (some a) fd.code none fd.builtins)
  (x:InCallC (p.on s tk) env.locals (bindL env.kindOf (D.ps.zip vals) λ_=>none) env.cells (bindC env.kindOf (D.ps.zip vals) λ_=>none) {p.on s tk with heap:=h₁,toks:=tk₁}) (L:ax) (A:a7):
  ba g ⟨A,env.locals::fr,env,L,D.ns⟩ ρ ⟨p.σ,p.ad,h₁⟩:=by
 have eL:env.locals=p.h.objs.size:=he▸rfl
 have hps:D.ps.length=D.np:=by unfold bc.ps bc.ns;rw[eV,aj];exact jo P.l2
 have hbn:(D.ps.zip vals).map (·.1)=D.ps:=sg (hps.trans hvl.symm)
 have ndp:((D.ps.zip vals).map (·.1)).Nodup:=by rw[hbn];exact(Jr _ _).nodup P.nd
 have nget:∀{y:Str}{i:Nat},bg D.ns y=some i->i<D.np->D.ps[i]?=some y:=λ{y i} q z=>(List.getElem?_take_of_lt z).trans (dP q)
 have frL:=I.fresh (eL▸cA p.h:p.h.get? env.locals=none)
 refine⟨he▸P.kf,he▸P.gl,he▸P.bi,⟨_,x.toInCall.ns,λy i v q1 q2 q3=>?_⟩,λy i q1 q2=>?_,⟨frL.1,frL.2.1⟩,λy c q=>?_,λy z c q1 q2=>name_of_addr x.apart (mem_of_lookup q1) (mem_of_lookup q2)⟩
 ·exact lg q3 λu z e r=>⟨u,vg q2 ndp (D8 (nget q1 z) e),r⟩
 ·have hc:(env.cells.lookup y).isSome=true:=by
   rw[he] at q2⊢;exact ia (.inr q2)
  refine(eD.mp hc).elim λc hc=>⟨c,hc,λo u e1 e2 v q3=>lg q3 λu' z e r=>(x.cell y c hc).elim λo' w=>?_⟩
  cases cu w.1 e1
  cases w.2.symm.trans e2
  exact⟨u',Cf q2 ndp (D8 (nget q1 z) e),r⟩
 ·have nl:c≠env.locals:=CH (x.above y c (mem_of_lookup q))
  have fc:=I.fresh (cO (bz (eL▸x.above y c (mem_of_lookup q))):p.h.get? c=none)
  exact(x.cell y c q).elim λo w=>⟨fc.1,fc.2.1,λz=>(aC.mp z).elim nl fc.2.2,nl,o,_,w.1,w.2⟩
theorem Al{env:Env}{h₁:bt}{m:Str->Option ai}(I:Inv g fr p)(keep:oY p.h h₁)(nL:p.h.get? env.locals=none)(ns:h₁.Ns env.locals m):Inv g (env.locals::fr) ⟨p.σ,p.ad,h₁⟩:=
 have I₀:Inv g fr ⟨p.σ,p.ad,h₁⟩:=I.keeps keep
 have frL:=I.fresh nL
 ⟨I₀.len,I₀.objs,I₀.wQ,λb hb=>match I₀.off b hb with
   |⟨q1,q2,o,q3⟩=>⟨q1,λz=>(aC.mp z).elim (λz=>frL.1 (z▸hb)) q2,o,q3⟩,I₀.stays,λb hb=>(aC.mp hb).elim (λz=>match ns with
   |⟨o,es,ep,h1,h2,_,_⟩=>⟨z▸frL.2.1,o,z▸h1,λvs q=>nomatch (h2.symm.trans q)⟩) (I₀.MI b)⟩
theorem Gf{a m n b' c x:Nat}(k b:Nat)(h:a+m*(n+1)+b'<c+x)(e:k+b+x<=m+b'):a+k+m*n+b<c:=by
 refine Nat.lt_of_add_lt_add_right (aB ?_ h)
 rw[eh a k,eI (a+m*n) k,eI (a+m*n) (k+b),CJ,<-eI a,eI (a+m*n) m]
 exact bQ e _
theorem RY.deep{n:Nat}{envs:List Env}{env:Env}(hA:RY (n+1) A envs fr)(eF:env.frame=some env.locals)(hk:env.scope.kind=.function):rv n (A.deeper env) (env::envs) (env.locals::fr):=by
 obtain⟨a1,a2,a3,a4,a5,a6⟩:=hA
 refine⟨a1,congrArg (dZ _) a2,by rw[dO,eF,a3],λe he'=>(aC.mp he').elim (λz=>z▸⟨by rw[hk];decide,eF▸rfl⟩) (a4 e),?_,?_⟩
 ·exact Gf (b':=0) (c:=900) (x:=6) 1 0 a5 (by decide)
 ·exact Gf (b':=1000) (x:=40) 3 1000 a6 (by decide)
theorem uI{ok:Ks->List bT->Bool}{D:bc}{a:ax}{oc:Obj}{fd:rC}{body:List bT}{us ds:List ai}{R:pH->ak->Prop}(C:Cx g K d)(P:ZQ K a D ok oc fd body ds)(hdep:A.depth<recursionLimit)(I:Inv g fr p)(hul:us.length<=D.np)(hge:D.np<=us.length+D.dflt.length)
  (k:∀vals env h₁ tk₁,vals=us++ds.drop (us.length+ds.length - D.ps.length)→env=newEnv fd.scope p.h.objs.size fd.globals (cellsFrom (p.h.objs.size+1) fd.scope.names []) (fd.qualname++".<locals>.") (some a) fd.code none fd.builtins→
   InCallC (p.on s tk) env.locals (bindL env.kindOf (D.ps.zip vals) λ_=>none) env.cells (bindC env.kindOf (D.ps.zip vals) λ_=>none) {p.on s tk with heap:=h₁,toks:=tk₁}->oY p.h h₁->
   wpAny g.M (A.deeper env) (execs body env) (λf s'=>R (.ok (.ret (match f with|.ret v=>v|_=>.none))) s') (λe s'=>wpAny g.M (A.deeper env) (leaving env e) (λ_ s''=>R (.error e) s'') (λe' s''=>R (.error e') s'') s') (Pt.on ⟨p.σ,p.ad,h₁⟩ s tk₁)):
  codeAny g.M A (.call (.ref a) ⟨us,[]⟩) R (p.on s tk):=by
 have X:=C.at I
 have Vd:eJ g.T p.ad D.dflt ds:=gU P.vr
 have hds:ds.length=D.dflt.length:=Vd.len.symm
 have hps:D.ps.length=D.np:=by unfold bc.ps bc.ns;rw[eV,aj];exact jo P.l2
 have b1:us.length<=D.ps.length:=hps▸hul
 have b2:D.ps.length<=us.length+ds.length:=by rw[hps,hds];exact hge
 have b3:ds.length<=D.ps.length:=by rw[hps,hds];exact P.l1
 have B:BindsTo (p.on s tk) fd ⟨us,[]⟩ (D.ps.zip (us++ds.drop (us.length+ds.length - D.ps.length))):=match P.df with
  |.no e e'=>uK (r:=none) P.ps (λM A E Q hQ=>by rw[e];exact ao hQ) e'.symm b1 b2 b3
  |.is t o items n e h1 h2 e'=>uK (r:=some items) P.ps (λM A E Q hQ=>by rw[e];exact rD (X _ _ h1) h2 hQ) e' b1 b2 b3
 have hvl:D.ps.length=(us++ds.drop (us.length+ds.length - D.ps.length)).length:=by rw[aw,eW];exact Yx b1 b2
 refine codeAny_call_function hdep (X _ _ P.at_) P.data P.co P.ge P.bd (codeRec_of X P.cd) (B _ _ _ _ ?_)
 rw[P.clo]
 refine wpAny_newFunctionEnv_cells P.kf (λx hx=>?_) λenv he s₁ x=>?_
 ·exact CP (P.kn x.1 (sg hvl▸aU hx)) (λz=>.inl (eq_of_beq z)) λz=>.inr ⟨eq_of_beq z,ia (.inr (eq_of_beq z))⟩
 obtain⟨h₁,tk₁,rfl,keep⟩:=x.done
 exact⟨C.Xa (I.keeps keep),codeAny_func (k _ env h₁ tk₁ rfl he x keep)⟩
theorem uR{f:Fn}{n:Nat}{CM:Fn->List AV->MM AV}{args:List AV}{us:List ai}{envs:List Env}{fl:ai->Prop}{Q:AV->Hp->Prop}{Er:Nat->Hp->Prop}{R:pH->ak->Prop}(C:Cx g K d)(hA:RY (n+1) A envs fr)(I:Inv g fr p)(V:eJ g.T p.ad args us)(hfl:fl .none)
  (h:Wp (Ow CM (d f) args p.σ) Q Er) (hR:RC g fr fl s p Q Er R) (hbody:∀ks body,zm ks (d f).ns (d f).body body=true->BodyOk g CM n (d f).ns ks (d f).body body):
  codeAny g.M A (.call (.ref (g.T.uv f)) ⟨us,[]⟩) R (p.on s tk):=by
 refine sq (C.fn f) λoc fd body ds P=>qR h (λhcnt h=>?_) λ_ h=>h.elim
 have Vd:eJ g.T p.ad (d f).dflt ds:=gU P.vr
 have hul:us.length=args.length:=V.len.symm
 have hds:ds.length=(d f).dflt.length:=Vd.len.symm
 have hps:(d f).ps.length=(d f).np:=by unfold bc.ps bc.ns;rw[eV,aj];exact jo P.l2
 have hal:(r9 (d f) args).length=(d f).np:=by
  unfold r9;rw[aw,eW];exact(Yx hcnt.1 hcnt.2).symm
 refine uI C P (aB (bb ..) (cg hA.depth (by decide))) I (hul▸hcnt.1) (hul▸hcnt.2) λvals env h₁ tk₁ hv he x keep=>?_
 have Vv:eJ g.T p.ad (r9 (d f) args) vals:=hv▸V.append (by rw[hul,hds,hps];exact Vd.drop _)
 have I₀:Inv g fr ⟨p.σ,p.ad,h₁⟩:=I.keeps keep
 have eL:env.locals=p.h.objs.size:=he▸rfl
 have eF:env.frame=some env.locals:=he▸rfl
 have nL:p.h.get? env.locals=none:=eL▸cA p.h
 have I₁:=Al I keep nL x.toInCall.ns
 have F:=wa P I (λq k=>OR Vv hal q k) (Vv.len.symm.trans hal) he x env.locals (A.deeper env)
 have hA':rv n (A.deeper env) (env::envs) (env.locals::fr):=hA.deep eF F.kind
 have Sfin:∀{p'},gH g (dq env) (env.locals::fr) ⟨p.σ,p.ad,h₁⟩ p'->gH g [] fr p p':=λ{p'} a=>by
  refine⟨⟨a.I.len,a.I.objs,a.I.wQ,λb hb=>match a.I.off b hb with|⟨q1,q2,o,q3⟩=>⟨q1,λz=>q2 (.tail _ z),o,q3⟩,a.I.stays,λb hb=>a.I.MI b (.tail _ hb)⟩,a.S.ext,λb o e hn=>?_,λb hb=>(a.S.new b hb).imp id λz=>?_⟩
  ·have nl:b≠env.locals:=λz=>aX nL (z▸e)
   have nX:b∉dq env:=λz=>(uO z).elim nl λ⟨y,hm⟩=>Nat.lt_asymm (eL▸x.above y b (mem_of_lookup hm)) (dQ e)
   exact match a.S.kp b o (keep b o e) hn with
    |⟨o',e',q⟩=>⟨o',e',λ_=>⟨(q nX).1,λhf=>(q nX).2 λz=>(aC.mp z).elim nl hf⟩⟩
  ·match q:p.h.get? b with
   |none=>rfl
   |some o=>exact aX z (keep b o q)
 refine hbody fd.scope.names body P.ck ⟨A.deeper env,env.locals::fr,env,env.locals,(d f).ns⟩ envs rfl hA' eF (he▸rfl) (he▸P.kf) s ⟨p.σ,p.ad,h₁⟩ tk₁ _ _ Er _ _ ⟨F,I₁,?_⟩ (wb h) (λw fl' p' tk' q a hm=>?_) λe p' tk' ea q o=>?_
 ·unfold Nl bc.ns;rw[aw,aj,iE,aj,hal];exact qq P.l2
 ·cases w with
  |next ρ'=>obtain⟨rfl,_⟩:=hm;exact hR.ok .none .none p' tk' q (Sfin a) rfl
  |ret v=>obtain⟨u,rfl,hv⟩:=hm;exact hR.ok v u p' tk' q (Sfin a) hv
 ·refine IC hA'.frames hA'.kinds hA'.here eF o (λv q=>q) λp'' e'' o'=>hR.er e p'' tk' ea (e''▸q) ?_
  obtain⟨a,hf,c,dd,vs,sl',h7,h8,h9⟩:=o'
  exact⟨Sfin a,hf,c,dd,vs,sl',h7,h8,.inr (match h9 with
   |⟨t,ot,ts,w,q1,q2,q3,q4,q5,q6,q7,q8,q9⟩=>⟨t,ot,ts,w,q1,q2,λz=>q3 (.tail _ z),q4,(match q:p.h.get? t with|none=>rfl|some o=>aX q5 (keep t o q)),q6,q7,q8,q9▸hfl⟩)⟩
end
end Mine.Internal
set_option backward.match.sparseCases false
namespace Mine.Internal
open PySem PySem.W PySem.Calls PyProof.Rows
structure R4(T:Tab)(K:cT)(c:bF)(f:Fn):Prop where
 made:makesIn K (T.bZ c)=true
 Sr:findIn K (.ref (T.bZ c)) "__init__"=some (some (.ref (T.uv f)))
 ty:typeIn K (.ref (T.uv f))=some (.type "function")
structure U6(T:Tab)(K:cT)(c:bF)(m:S)(f:Fn):Prop where
 exc:c.isExc=false
 fi:findIn K (.ref (T.bZ c)) (strOf m)=some (some (.ref (T.uv f)))
 ty:typeIn K (.ref (T.uv f))=some (.type "function")
 no:∀x∈c.fields,x.str≠strOf m
structure w7(T:Tab)(K:cT):Prop where
 make:∀c f,qj c=some f->R4 T K c f
 exc:∀c f,qj c=some f->c.isExc=false
 wZ:∀c m f,vf c m=some f->U6 T K c m f
 LW:∀f,keepIn K (.ref (T.uv f))=true
 Rh:∀c,keepIn K (.ref (T.bZ c))=true
noncomputable def Wd(r:R AV)(w:AV):R AV:=match r with
 |.ok v σ'=>if v=.none then .ok w σ' else .bad
 |_=>.bad
theorem Rm{α:Type}{P p:Prop}[d:Decidable p]{m n:R α}{Q:α->Hp->Prop}{X:Nat->Hp->Prop}(h:Wp (if p then m else n) Q X)(k:p->Wp m Q X->P)(k':¬p->Wp n Q X->P):P:=
 jN (motive:=λd=>Wp (@ite (R α) p d m n) Q X->P) d k' k h
section
variable{g:Gl}{A:a7}{K:cT}{fr X:List ax}{s:ak}{p:Pt}{tk:Nat}{d:Fn->bc}{E:ai->ak->Prop}{Kk:ai->ak->Prop}{Er:Nat->Hp->Prop}{Q:AV->Hp->Prop}
theorem rv.make{n:Nat}{envs:List Env}(h:rv n A envs fr)(C:ax)(us:List ai):RY n (A.under (.builtin "type.__call__" ⟨.ref C::us,[]⟩)) envs fr:=by
 obtain⟨a1,a2,a3,a4,a5,a6⟩:=h
 refine⟨a1,a2,a3,a4,?_,?_⟩
 ·show A.depth+1+8*n<906
  rw[eh];exact cg (gr a5) (by decide)
 ·show A.units+1+64*n+1000<cLine+40
  rw[eh A.units,eh _ 1];exact aY (gr a6) (bQ (show 1<=40 by decide) cLine)
theorem DR{m:MM AV}{w:AV}{σ:Hp}(h:Wp (noneOnly m w σ) Q Er):Wp (m σ) (λv σ=>v=.none/\Q w σ) (λ_ _=>False):=
 R.casesOn (motive:=λr=>Wp (Wd r w) Q Er->Wp r (λv σ=>v=.none/\Q w σ) (λ_ _=>False)) (m σ) (λv σ' h=>Rm h (λe h=>⟨e,h⟩) λ_ h=>bA h) (λ_ _ h=>bA h) (λh=>bA h) h
theorem Iz{c:bF}{f:Fn}{n:Nat}{CM:Fn->List AV->MM AV}{args:List AV}{us:List ai}{envs:List Env}(C:Cx g K d)(MK:w7 g.T K)(CO:r7 g CM n)(hA:rv n A envs fr)(I:Inv g fr p)(V:eJ g.T p.ad args us)
  (hc:qj c=some f) (h:Wp (PG CM c args p.σ) Q Er) (k:KC g [] fr (VV g) s p Q Kk):wpAny g.M A (call (.ref (g.T.bZ c)) us) Kk E (p.on s tk):=by
 have W:=MK.make c f hc
 have hex:=MK.exc c f hc
 have X:=C.at I
 unfold PG at h
 rw[hc] at h
 have h:=DR h
 refine pI (make_core (makes_of X W.made) (kB X W.Sr) (λself=>bind_fn X self W.ty) (.inl rfl) ?_)
 have gd:((p.h.push emptyDict).push (instObj (g.T.bZ c) p.h.objs.size)).get? p.h.objs.size=some (dictOf [] 0):=aA _ (aE _ rfl)
 have gx:((p.h.push emptyDict).push (instObj (g.T.bZ c) p.h.objs.size)).get? (p.h.objs.size+1)=some (instObj (g.T.bZ c) p.h.objs.size):=by heap_get
 have a:gH g [] fr p ⟨p.σ++[.inst c []],p.ad++[(p.h.objs.size+1,p.h.objs.size)],(p.h.push emptyDict).push (instObj (g.T.bZ c) p.h.objs.size)⟩:=gH.new (o:=.inst c []) I (λb o e=>aA _ (aA _ e)) (cO (br _)) (cA _) ⟨_,gx⟩ ⟨_,gd⟩
  ⟨aV _,λz=>ft (hex.symm.trans z),λ_=>gx,[],0,gd,by rw[Jd];exact .nil⟩
 have r:=lT I (p.h.objs.size+1,p.h.objs.size)
 exact CO f _ _ _ envs fr s _ tk (λ_=>True) _ _ _ (hA.make _ _) a.I (.cons r V.app) trivial h ⟨λv u p' tk' q b hu=>by cases q.1;exact⟨hu,k _ _ p' tk' q.2 (a.trans b) (r.mono b.S.ext)⟩,λ_ _ _ _ q _=>q.elim⟩
theorem Et{F:List (At×AV)}{xs:List dF}{y:Str}(H:bq (FR g.T p.ad) F xs)(hn:∀p∈F,p.1.str≠y):getL y xs=some none:=by
 have h1:xs.find? (·.key.isStr y)=none:=by
  induction H with
  |nil=>rfl
  |@cons p d as bs h _ ih=>
   rw[wg,h.isStr,beq_eq_false_iff_ne.mpr (hn p (.head _))]
   exact ih λq hq=>hn q (.tail _ hq)
 unfold getL
 rw[h1,oj H]
 rfl
theorem CW{l:Nat}{c:bF}{fs:List AV}{m:S}{f:Fn}{u:ai}{pl:Sem Bool}{Kk:ai×List ai->ak->Prop}(C:Cx g K d)(MK:w7 g.T K)(I:Inv g fr p)
  (ho:p.σ[l]?=some (.inst c fs)) (hm:vf c m=some f) (hu:VR g.T p.ad (.ref l) u) (k:Kk (.ref (g.T.uv f),[u]) (p.on s tk)):wpAny g.M A (getMethod u (strOf m) pl) Kk E (p.on s tk):=by
 have W:=MK.wZ c m f hm
 refine dB (P:=λu=>Kk (.ref (g.T.uv f),[u]) (p.on s tk)->wpAny g.M A (getMethod u (strOf m) pl) Kk E (p.on s tk)) hu (λa d hp k=>?_) k
 match j3.plain W.exc (I.objs l _ ho _ hp) with
 |⟨xs,n,IA,hd,H⟩=>
  refine method_fn (C.at I) IA (C.cls c W.exc).ga (C.cls c W.exc).gt W.fi W.ty ?_ k
  show(lookIn (strOf m) (dictOf xs n)).map _=_
  rw[lookIn_dict,Et H λq hq=>W.no q.1 (List.of_mem_zip hq).1]
  rfl
inductive X9(h:bt)(a:ax)(xs:Array ai):Prop where
 |mk (n:Nat) (sl:Array (Option ai)) (e:h.get? a=some ⟨.type "list",none,.seq xs n,sl⟩)
theorem RB{vs:List AV}{a:ax}{P:Prop}(H:dN g p.h p.ad a vs)(k:∀xs,X9 p.h a xs->eJ g.T p.ad vs xs.toList->vs.length<=lim->P):P:=by
 obtain⟨xs,hL,V,hl,o,e,hd⟩:=H
 obtain⟨od,n,sl,e'⟩:=KG hL
 cases cu e e'
 cases hd
 exact k xs ⟨n,sl,e⟩ V hl
theorem yi{l:Nat}{vs:List AV}{v:AV}{u y:ai}{Q:AV->Hp->Prop}(I:Inv g fr p)(ho:p.σ[l]?=some (.list vs))(hlt:vs.length<lim)(hu:VR g.T p.ad (.ref l) u)(hv:VR g.T p.ad v y)
  (q:Q .none (p.σ.set l (.list (vs++[v])))) (k:KC g X fr (VV g) s p Q Kk):wpAny g.M A (call (.builtin "list.append") [u,y]) Kk E (p.on s tk):=
 dB hu λa d hp=>RB (I.objs l _ ho _ hp) λxs ⟨n,sl,e⟩ V hl=>by
  obtain⟨n',hd'⟩:=Obj.data_mapSeq (o:=⟨.type "list",none,.seq xs n,sl⟩) rfl (·.push y)
  have hat:=aW (yc (·.push y)) e (Jm hd')
  have hs:cb a p.h (p.h.update a (yc (·.push y))):=cK ..
  have hsz:xs.size<=sizeLine:=by rw[dn V];exact ah hl eK
  refine gF slot_list_append ⟨_,e,rfl⟩ entry_list_append ?_ (args_list_append _ _)
  show wpAny _ _ (updateSeq a (·.push y)>>=λ_=>ret .none) _ _ _
  refine ag ?_
  refine wpAny_updateSeq e rfl (ao ⟨.none,rfl,k .none .none ⟨_,p.ad,_⟩ tk q ⟨I.upd hp (.inl rfl) hs ⟨_,hat⟩ (o:=.list (vs++[v])) ⟨xs.push y,⟨_,hat,Obj.cls_mapSeq ..,n',hd'⟩,?_,?_,_,hat,nS ..⟩,.lQ (own.l hp) hs⟩ rfl⟩)
  ·rw[Je];exact V.append (.one hv)
  ·rw[jt];exact hlt
theorem yT{l:Nat}{vs:List AV}{u:ai}{pl:Sem Bool}{Kk:ai×List ai->ak->Prop}(I:Inv g fr p)(ho:p.σ[l]?=some (.list vs))(hu:VR g.T p.ad (.ref l) u)
  (k:Kk (.builtin "list.append",[u]) (p.on s tk)):wpAny g.M A (getMethod u "append" pl) Kk E (p.on s tk):=
 dB (P:=λu=>Kk (.builtin "list.append",[u]) (p.on s tk)→wpAny g.M A (getMethod u "append" pl) Kk E (p.on s tk)) hu (λa d hp k=>RB (I.objs l _ ho _ hp) λxs ⟨n,sl,e⟩ V hl=>getMethod_list_append e rfl rfl k) k
inductive tY(base:bt)(fr:List ax)(h:bt)(p':Pt)(b:ax):Prop where
 |mk (q1:h.get? b=none) (o:Obj) (q2:p'.h.get? b=some o) (q3:¬own p'.ad b) (q4:base.get? b=none) (q5:b∉fr)
inductive Ready(g:Gl)(A:a7)(fr:List ax)(target:az)(s:ak)(p:Pt)(Q:HI->Hp->Prop)(itv:ai)(s₂:ak):Prop where
 |mk (dh:HI) (p':Pt) (tk:Nat) (fp:List ax) (St:Nat->bt->Prop) (q:Q dh p'.σ) (e:s₂=p'.on s tk) (a:gH g [] fr p p') (W:nI g A fr p'.ad target dh.2 dh.1 itv fp St) (h0:St 0 p'.h) (hfp:∀b∈fp,tY g.base fr p.h p' b)
variable{target:az}{Qi:HI->Hp->Prop}
theorem jE{dh:HI}{ob:Obj}{St:Nat->bt->Prop}(I:Inv g fr p)(hf:ob.isFreed=false)(q:Qi dh p.σ)(W:nI g A fr p.ad target dh.2 dh.1 (.ref p.h.objs.size) [p.h.objs.size] St)(h0:St 0 (p.h.push ob)):
  Ready g A fr target s p Qi (.ref p.h.objs.size) {p.on s tk with heap:=p.h.push ob}:=
 have f:=I.fresh (cA p.h)
 ⟨dh,⟨p.σ,p.ad,p.h.push ob⟩,tk,_,_,q,rfl,.keeps I (.push _ _),W,h0,λb hb=>au.mp hb▸⟨cA _,_,aE _ hf,f.1,f.2.1,f.2.2⟩⟩
theorem AA{v:AV}{u:ai}(hh:A.handled=none)(hs:∃o,g.base.get? sysModules=some o)(I:Inv g fr p)(hu:VR g.T p.ad v u)(h:Wp (MR v p.σ) Qi Er):
  wpAny g.M A (pyIter u) (Ready g A fr target s p Qi) E (p.on s tk):=by
 cases v with
 |ref l=>
  refine cw h λo e h=>dB hu λa d hp=>?_
  have H:=I.objs l _ e _ hp
  clear e
  cases o with
  |list vs=>exact match (H:dN g p.h p.ad a vs) with|⟨xs,h1,_,_,_⟩=>wpAny_pyIter_list h1 (jE I rfl h (Dd hh hp) ⟨_,aE _ rfl,rfl,rfl⟩)
  |tup vs=>exact match (H:TupAt g p.h p.ad a vs) with|⟨xs,h1,_,_⟩=>uz h1 (jE I rfl h (H4 hh hp) ⟨_,aE _ rfl,rfl,rfl⟩)
  |dict es=>exact match (H:g7 g p.h p.ad a es) with|⟨kvs,h1,h2,_⟩=>wpAny_pyIter_dict (knd:=cV g.prog g.w) (jA I hs (own.l hp)) h1 (jE I rfl h (EG hh hp) (h2.len▸⟨_,aE _ rfl,rfl,rfl⟩))
  |_=>exact h.elim
 |str x=>exact fj hu λt=>wpAny_pyIter_strU (jE I rfl h (Hl hh x t) ⟨_,aE _ rfl,rfl,rfl⟩)
 |_=>exact h.elim
theorem NJ{a b:Int}:Builtin.Range.rangeSize a b 1=((b - a).toNat:Int):=by
 rw[rangeSize_one]
 by_cases h:a<b
 ·rw[if_pos h,Jb (Hc (jQ h))]
 ·rw[if_neg h,Int.toNat_of_nonpos (Int.sub_nonpos_of_le (gI.mp h))];rfl
theorem tc{a b:Int}{r:ax}{t u v:Tok}(hh:A.handled=none)(I:Inv g fr p)(hR:IsRange p.h r a b 1 t u v)(h:Wp (jZ (.int a) (.int b) p.σ) Qi Er):wpAny g.M A (pyIter (.ref r)) (Ready g A fr target s p Qi) E (p.on s tk):=by
 refine cB h λc q=>wpAny_pyIter_range hR (tB c.1 c.2.1 c.2.2.1 c.2.2.2) (jE I rfl q (A5 hh a (b - a).toNat) ?_)
 show IsRangeIter _ _ (a+0) (((b - a).toNat:Int) - 0) 1
 rw[Int.add_zero,Int.sub_zero,<-NJ]
 exact aE _ rfl
theorem Dg{v:AV}{u:ai}{elts:List az}{kk:Nat}{pos:Pos}(hh:A.handled=none)(I:Inv g fr p)(hu:VR g.T p.ad v u)(h:Wp (EW v p.σ) Qi Er):
  wpAny g.M A (call (.type "enumerate") [u]) (λx s₁=>wpAny g.M A (pyIter x) (Ready g A fr (.Tuple elts kk pos) s p Qi) E s₁) E (p.on s tk):=
 iq (P:=λv=>VR g.T p.ad v u->_) h (λl h hu=>cw h λo e h=>LK (P:=λo=>p.σ[l]?=some o->_) h (λvs q e=>dB hu λa d hp=>match (I.objs l _ e _ hp:TupAt g p.h p.ad a vs) with
  |⟨xs,h1,_,_⟩=>wU h1 λh' he hit k=>wpAny_pyIter_enum he (
    have n1:p.h.get? (p.h.objs.size+1)=none:=cO (br _)
    have f1:=I.fresh n1
    have f2:=I.fresh (cA p.h)
    ⟨_,⟨p.σ,p.ad,h'⟩,tk,_,_,q,rfl,.keeps I k,D9 hh hp (uA _),⟨_,he,hit⟩,λb hb=>VG (P:=λb=>tY g.base fr p.h ⟨p.σ,p.ad,h'⟩ b) hb ⟨n1,_,he,f1.1,f1.2.1,f1.2.2⟩ (hit.elim λo z=>⟨cA _,o,z.1,f2.1,f2.2.1,f2.2.2⟩)⟩)) e) hu
end
theorem yK{ρ:Loc}{i j:Nat}{v a:AV}(h:(ρ.set i (some v))[j]?=some (some a)):(j=i/\a=v)\/(j≠i/\ρ[j]?=some (some a)):=
 if q:i=j then .inl ⟨q.symm,by subst q;exact(ae (cu (a9 (aQ▸(aq.mp h).1)) h)).symm⟩ else .inr ⟨λz=>q z.symm,(bS q).symm.trans h⟩
noncomputable def HX(env:Env)(X:List ax)(x:Str):Prop:=(env.kindOf x=some .local->env.locals∈X)/\∀c,env.kindOf x=some .cell->env.cells.lookup x=some c->c∈X
theorem HX.frame(env:Env)(x:Str):HX env (dq env) x:=⟨λ_=>.head _,λc _ e=>xW e⟩
section
variable{g:Gl}{A:a7}{f:Fr}{X:List ax}{s:ak}{p:Pt}{tk:Nat}{E:ai->ak->Prop}{ρ:Loc}{x:Str}{i:Nat}{v:AV}{u:ai}
theorem iM.Kw{fr:List ax}{a:ax}{h':bt}(ha:a∈X)(hs:cb a p.h h')(hx:∃o,h'.get? a=some o):iM X fr p ⟨p.σ,p.ad,h'⟩:=
 ⟨cM _,λb o e _=>if q:b=a then .touched (q▸ha) (q▸hx) else .same ((hs.2 b q).trans e),λ_ q=>.inl q⟩
structure BH(g:Gl)(f:Fr)(X:List ax)(p:Pt)(ρ':Loc)(h':bt):Prop where
 a:gH g X f.fr p ⟨p.σ,p.ad,h'⟩
 k:∀b o,b∉X->p.h.get? b=some o->h'.get? b=some o
 F:ba g f ρ' ⟨p.σ,p.ad,h'⟩
theorem Hi{h':bt}{m:Str->Option ai}(F:ba g f ρ p)(I:Inv g f.fr p)(hi:bg f.ns x=some i)(hk:f.env.kindOf x=some .local)(hX:f.env.locals∈X)(hu:VR g.T p.ad v u)
  (hl:∀x i v,bg f.ns x=some i->f.env.kindOf x=some .local->ρ[i]?=some (some v)->∃u,m x=some u/\VR g.T p.ad v u) (hn:h'.Ns f.env.locals λy=>if y=x then some u else m y) (hs:cb f.env.locals p.h h'):BH g f X p (ρ.set i (some v)) h':=by
 have hns:=dP hi
 have L:∃o,h'.get? f.env.locals=some o/\∀vs,o.data≠.fields vs:=match hn with|⟨o,es,ep,h1,h2,_,_⟩=>⟨o,h1,λvs q=>nomatch (h2.symm.trans q)⟩
 refine⟨⟨I.BA (λb o e q=>(hs.2 b λz=>q.elim (λq=>F.r8.1 (z▸q)) λq=>q.elim λo' q=>aX F.r8.2 (z▸q)).trans e) λb _ o e z=>if q:b=f.env.locals then q▸L else⟨o,(hs.2 b q).trans e,z⟩,
  .Kw hX hs (L.elim λo z=>⟨o,z.1⟩)⟩,λb o n e=>(hs.2 b λq=>n (q▸hX)).trans e,F.kind,F.glob,F.bi,⟨_,hn,λy j a q1 q2 q3=>?_⟩,λy j q1 q2=>?_,F.r8,λy c q=>?_,F.dist⟩
 ·refine(yK q3).elim (λz=>?_) λz=>?_
  ·cases cu hns (z.1▸dP q1)
   exact⟨u,if_pos rfl,z.2▸hu⟩
  ·exact(hl y j a q1 q2 z.2).elim λu' r=>⟨u',(if_neg λw=>z.1 (ae ((w▸q1.symm).trans hi))).trans r.1,r.2⟩
 ·refine(F.M4 y j q1 q2).elim λc r=>⟨c,r.1,λo z e1 e2 a q3=>match F.mc y c r.1 with
   |⟨_,_,_,nl,_,_,_,_⟩=>(yK q3).elim (λw=>?_) λw=>r.2 o z ((hs.2 c nl).symm.trans e1) e2 a w.2⟩
  cases cu hns (w.1▸dP q1)
  exact nomatch (hk.symm.trans q2)
 ·exact match F.mc y c q with|⟨n1,n2,n3,n4,o,z,e1,e2⟩=>⟨n1,n2,n3,n4,o,z,(hs.2 c n4).trans e1,e2⟩
theorem MP{h':bt}{c:ax}(F:ba g f ρ p)(I:Inv g f.fr p)(hi:bg f.ns x=some i)(hk:f.env.kindOf x=some .cell)(hX:c∈X)(hu:VR g.T p.ad v u)(r1:f.env.cells.lookup x=some c)(hc:h'.IsCell c (some u))(hs:cb c p.h h'):BH g f X p (ρ.set i (some v)) h':=by
 have hns:=dP hi
 obtain⟨n1,n2,n3,n4,o,z,e1,e2⟩:=F.mc x c r1
 obtain⟨oc,hoc,hdc⟩:=hc
 refine⟨⟨I.sameBut hs n1 n2 n3,.Kw hX hs ⟨_,hoc⟩⟩,λb o n e=>(hs.2 b λq=>n (q▸hX)).trans e,F.kind,F.glob,F.bi,F.loc.elim λm q=>⟨m,q.1.sameBut hs (dK n4),λy j a q1 q2 q3=>(yK q3).elim (λw=>?_) λw=>q.2 y j a q1 q2 w.2⟩,λy j q1 q2=>?_,F.r8,λy c' q=>?_,F.dist⟩
 ·cases cu hns (w.1▸dP q1)
  exact nomatch (hk.symm.trans q2)
 ·refine(F.M4 y j q1 q2).elim λc' r=>⟨c',r.1,λo' z' e1' e2' a q3=>(yK q3).elim (λw=>?_) λw=>r.2 o' z' ((hs.2 c' λy'=>w.1 (ae ((F.dist y x c (y'▸r.1) r1▸q1.symm).trans hi))).symm.trans e1') e2' a w.2⟩
  cases cu hns (w.1▸dP q1)
  cases cu r1 r.1
  cases cu hoc e1'
  cases hdc.symm.trans e2'
  exact⟨u,rfl,w.2▸hu⟩
 ·exact match F.mc y c' q with
   |⟨m1,m2,m3,m4,o',z',e1',e2'⟩=>if w:c'=c then w▸⟨n1,n2,n3,n4,_,_,hoc,hdc⟩ else⟨m1,m2,m3,m4,o',z',(hs.2 c' w).trans e1',e2'⟩
theorem ej{K:Unit->ak->Prop}(F:ba g f ρ p)(I:Inv g f.fr p)(hi:bg f.ns x=some i)(hk:f.env.kindOf x=some .local\/f.env.kindOf x=some .cell)(hX:HX f.env X x)(hu:VR g.T p.ad v u)
  (k:∀h' tk,BH g f X p (ρ.set i (some v)) h'->K () (Pt.on ⟨p.σ,p.ad,h'⟩ s tk)):wpAny g.M A (storeName f.env x u) K E (p.on s tk):=
 hk.elim (λhk=>F.loc.elim λm q=>wpAny_storeName_local hk q.1 (λh' hn hs=>k h' _ (Hi F I hi hk (hX.1 hk) hu q.2 hn hs)) (by rw[F.kind];rfl))
  λhk=>(F.M4 x i hi hk).elim λc r=>match F.mc x c r.1 with
   |⟨_,_,_,_,o,z,e1,e2⟩=>wpAny_storeName_cell F.kind hk r.1 ⟨o,e1,e2⟩ λh' hc hs=>k h' _ (MP F I hi hk (hX.2 c hk r.1) hu r.1 hc hs)
end
theorem jk:∀{is:List Nat}{vs:List AV}{ρ ρ':Loc},dC is vs ρ=some ρ'->ρ'.length=ρ.length/\is.length=vs.length
 |[],[],_,_,h=>⟨congrArg i6 (ae h).symm,rfl⟩
 |_::_,_::_,_,_,h=>gS h λ_ h=>have q:=jk h;⟨q.1.trans aQ,congrArg (·+1) q.2⟩
 |[],_::_,_,_,h=>aG h
 |_::_,[],_,_,h=>aG h
noncomputable def Og(env:Env)(φ:ai->Sem Unit)(x:Str):Prop:=∀(M:fY)(A:a7)(v:ai)(Q:Unit->ak->Prop)(E:ai->ak->Prop)(s:ak),wpAny M A (storeName env x v) Q E s->wpAny M A (φ v) Q E s
structure gR(f:Fr)(X:List ax)(x:Str)(i:Nat):Prop where
 hi:bg f.ns x=some i
 hk:f.env.kindOf x=some .local\/f.env.kindOf x=some .cell
 hX:HX f.env X x
inductive uf(f:Fr)(X:List ax)(φ:ai->Sem Unit)(i:Nat):Prop where
 |mk (x:Str) (n:gR f X x i) (st:Og f.env φ x)
structure xb(f:Fr)(X:List ax)(ts:List az)(is:List Nat):Prop where
 nm:bq (gR f X) (ts.filterMap nameOf?) is
 st:bq (uf f X) ((assignEach ts f.env).map (·.2)) is
 no:(assignEach ts f.env).findIdx? (·.1)=none
 ln:(assignEach ts f.env).length=is.length
section
variable{g:Gl}{A:a7}{f:Fr}{X:List ax}{s:ak}{p p':Pt}{tk:Nat}{E:ai->ak->Prop}{K:Unit->ak->Prop}{ρ ρ':Loc}{h' h'':bt}
theorem BH.refl(F:ba g f ρ p)(I:Inv g f.fr p):BH g f X p ρ p.h:=⟨.refl I,λ_ _ _ e=>e,F⟩
theorem BH.trans(x:BH g f X p ρ h')(y:BH g f X ⟨p.σ,p.ad,h'⟩ ρ' h''):BH g f X p ρ' h'':=⟨x.a.trans y.a,λb o n e=>y.k b o n (x.k b o n e),y.F⟩
theorem vd{φs:List (ai->Sem Unit)}{is:List Nat}(H:bq (uf f X) φs is):∀{vs:List AV}{us:List ai}{ρ ρ':Loc}{p:Pt}{tk:Nat},eJ g.T p.ad vs us->dC is vs ρ=some ρ'->ba g f ρ p->Inv g f.fr p->
  (∀h' tk,BH g f X p ρ' h'->K () (Pt.on ⟨p.σ,p.ad,h'⟩ s tk))->wpAny g.M A (assignInOrder φs us) K E (p.on s tk):=by
 induction H with
 |nil=>exact λ{vs us ρ ρ' p tk} V hs F I k=>bq.casesOn (motive:=λvs us _=>dC [] vs ρ=some ρ'->wpAny g.M A (assignInOrder [] us) K E (p.on s tk)) V (λhs=>ao (k p.h tk (.refl (ae hs▸F) I))) (λ_ _ hs=>aG hs) hs
 |@cons φ i φs is h1 _ ih=>exact λ{vs us ρ ρ' p tk} V hs F I k=>bq.casesOn (motive:=λvs us _=>dC (i::is) vs ρ=some ρ'->wpAny g.M A (assignInOrder (φ::φs) us) K E (p.on s tk)) V (λhs=>aG hs) (λh3 V hs=>gS hs λ_ hs=>match h1 with|⟨x,n,st⟩=>ag (aL (st _ _ _ _ _ _ (ej F I n.hi n.hk n.hX h3 λh' tk S=>ih (p:=⟨p.σ,p.ad,h'⟩) V hs S.F S.a.I λh'' tk' S'=>k h'' tk' (S.trans S'))))) hs
theorem yl{ks:Ks}{i:Nat}{P:az->Prop}{t:az}(hn:f.env.scope.names=ks)(h:jH ks f.ns i t=true)(hX:∀x i',i'=i->bg f.ns x=some i'->HX f.env X x)(k:∀x pos,gR f X x i->P (.Name x pos)):P t:=
 cG h λx pos h=>gX h λh1 h2=>k x pos ⟨eq_of_beq h1,Fj hn h2,hX x i rfl (eq_of_beq h1)⟩
theorem xb.cons{x:Str}{pos:Pos}{i:Nat}{ts:List az}{is:List Nat}(n:gR f X x i)(T:xb f X ts is):xb f X (.Name x pos::ts) (i::is):=
 ⟨.cons n T.nm,.cons ⟨x,n,λ_ _ _ _ _ _ q=>iQ q⟩ T.st,by show List.findIdx? _ ((false,_)::assignEach ts f.env)=none;rw[List.findIdx?_cons,T.no];rfl,congrArg (·+1) T.ln⟩
theorem zJ{ks:Ks}(hn:f.env.scope.names=ks):∀{is:List Nat}{ts:List az},zt ks f.ns is ts=true->(∀x i,i∈is->bg f.ns x=some i->HX f.env X x)->xb f X ts is
 |[],_,h,_=>gc h λ_=>⟨.nil,.nil,rfl,rfl⟩
 |_::_,_,h,hX=>iJ h λt ts h=>gX h λh1 h2=>yl (P:=λt=>xb f X (t::ts) _) hn h1 (λx j e=>hX x j (e▸.head _)) λ_ _ n=>.cons n (zJ hn h2 λx j hj=>hX x j (.tail _ hj))
noncomputable def xY(g:Gl)(A:a7)(v:ai)(us:List ai)(s:ak)(p:Pt)(tk:Nat):Prop:=∀(K:List ai->ak->Prop)(E:ai->ak->Prop),(∀h',oY p.h h'->K us (Pt.on ⟨p.σ,p.ad,h'⟩ s tk))->wpAny g.M A (unpackItems v us.length none) K E (p.on s tk)
theorem xC{h h':bt}(x:E8 h.objs.size h h'):oY h h':=λb o e=>x b o (fw (dQ e)) e
theorem rN{t:ax}{xs:Array ai}(hh:A.handled=none)(h:p.h.IsTuple t xs):xY g A (.ref t) xs.toList s p tk:=λK E k=>by
 rw[pF]
 exact wpAny_unpackItems_tuple hh h λh' x=>k h' (xC x)
theorem DJ{t:ax}{xs:Array ai}(hh:A.handled=none)(h:p.h.IsList t xs):xY g A (.ref t) xs.toList s p tk:=λK E k=>by
 rw[pF]
 exact kun_itemsOf hh h λh' x=>k h' (xC x)
theorem opened{v:ai}{φs:List (ai->Sem Unit)}{is:List Nat}{vs:List AV}{us:List ai}{n:Nat}(O:xY g A v us s p tk)(H:bq (uf f X) φs is)(V:eJ g.T p.ad vs us)(hs:dC is vs ρ=some ρ')(F:ba g f ρ p)(I:Inv g f.fr p)(hn:n=is.length)
  (k:∀h' tk,BH g f X p ρ' h'->K () (Pt.on ⟨p.σ,p.ad,h'⟩ s tk)):wpAny g.M A (unpackItems v n none) (λus s=>wpAny g.M A (assignInOrder φs us) K E s) E (p.on s tk):=by
 rw[hn,(jk hs).2,V.len]
 exact O _ _ λh' e=>vd (p:=⟨p.σ,p.ad,h'⟩) H V hs (F.on (.of_keeps e)) (I.keeps e) λh'' tk' S=>k h'' tk' (BH.trans ⟨.keeps I e,λb o _ q=>e b o q,F.on (.of_keeps e)⟩ S)
theorem mn{is:List Nat}{ts:List az}{kk:Nat}{pos:Pos}{v:ai}{vs:List AV}{us:List ai}(T:xb f X ts is)(O:xY g A v us s p tk)(V:eJ g.T p.ad vs us)(hs:dC is vs ρ=some ρ')(F:ba g f ρ p)(I:Inv g f.fr p)
  (k:∀h' tk,BH g f X p ρ' h'->K () (Pt.on ⟨p.σ,p.ad,h'⟩ s tk)):wpAny g.M A (assign (.Tuple ts kk pos) f.env v) K E (p.on s tk):=by
 rw[arm_assign_Tuple]
 refine ag (bP ?_)
 unfold unpack
 rw[T.no]
 exact ag (aL (opened O T.st V hs F I T.ln k))
@[elab_as_elim] theorem Pb {ks:Ks} {ns:List Str} {is:List Nat} {t:az} {P:List Nat->Prop} (h:BI ks ns is t=true) (k1:∀i,jH ks ns i t=true->P [i]) (k2:∀is,Lr ks ns is t=true->P is):P is:=
 match is,h with
 |[],h=>k2 _ h
 |[i],h=>k1 i h
 |_::_::_,h=>k2 _ h
noncomputable def Y8(g:Gl)(f:Fr)(X:List ax)(s:ak)(p:Pt)(K:Unit->ak->Prop)(is:List Nat)(ρ:Loc)(vs:List AV):Prop:=∃ρ',dC is vs ρ=some ρ'/\∀h' tk,BH g f X p ρ' h'->K () (Pt.on ⟨p.σ,p.ad,h'⟩ s tk)
theorem zO{i:Nat}{v:AV}(h:dC [i] [v] ρ=some ρ'):ρ.set i (some v)=ρ':=gS h λ_ h=>ae h
theorem Inv.W4{l:Nat}{a d:ax}{vs:List AV}{fr:List ax}{P:Prop}(I:Inv g fr p)(hp:p.ad[l]?=some (a,d))(e:p.σ[l]?=some (.tup vs))(k:∀xs:Array ai,p.h.IsTuple a xs->eJ g.T p.ad vs xs.toList->P):P:=match (I.objs l _ e _ hp:TupAt g p.h p.ad a vs) with
 |⟨xs,h1,h2,_⟩=>k xs h1 h2
inductive n9(f:Fr)(X:List ax):az->List Nat->Prop where
 |one (x:Str) (pos:Pos) (i:Nat) (n:gR f X x i):n9 f X (.Name x pos) [i]
 |tup (ts:List az) (kk:Nat) (pos:Pos) (is:List Nat) (h2:2<=is.length) (T:xb f X ts is):n9 f X (.Tuple ts kk pos) is
theorem n9.of{ks:Ks}{is:List Nat}{t:az}(hn:f.env.scope.names=ks)(ht:BI ks f.ns is t=true)(hX:∀x i,i∈is->bg f.ns x=some i->HX f.env X x):n9 f X t is:=by
 revert hX
 exact Pb ht (λi ht hX=>yl (P:=λt=>n9 f X t [i]) hn ht (λx j e=>hX x j (e▸.head _)) λx pos n=>.one x pos i n) λis ht hX=>oQ (P:=λt=>n9 f X t is) ht λts kk pos ht=>mx ht λht _ h2=>.tup ts kk pos is (of_decide_eq_true h2) (zJ hn ht hX)
theorem uX{is:List Nat}{t:az}{it:Item}{v:ai}{Q:List AV->Hp->Prop}{Er:Nat->Hp->Prop}(hh:A.handled=none)(ht:n9 f X t is)(hv:FQ g p.ad p.h it v)(h:Wp (kY is.length it p.σ) Q Er)
  (F:ba g f ρ p) (I:Inv g f.fr p) (k:∀vs,Q vs p.σ->vs.length=is.length->Y8 g f X s p K is ρ vs):wpAny g.M A (assign t f.env v) K E (p.on s tk):=by
 cases ht with
 |one x pos i n=>
  cases it with
  |one a=>exact(k [a] h rfl).elim λρ' q=>iQ (ej F I n.hi n.hk n.hX hv (zO q.1▸q.2))
  |pair a b=>exact cB h λe=>nomatch e
 |tup ts kk pos is h2 T=>
  cases it with
  |pair a b=>exact cB h λe h=>(k [a,b] h e.symm).elim λρ' q=>match (hv:Rp g p.ad p.h a b v) with|⟨t,x,y,e,h1,h2,h3⟩=>e▸mn T (rN hh h1) (.cons h2 (.one h3)) q.1 F I q.2
  |one a=>
   refine qR h (λe=>absurd h2 (e▸by decide)) λ_ h=>cB h λe2 h=>iq (P:=λa=>VR g.T p.ad a v->_) h (λl h hv=>cw h λo e h=>LK (P:=λo=>p.σ[l]?=some o->_) h (λvs h e=>cB h λe3 h=>?_) e) hv
   exact(k vs h (e3.trans e2.symm)).elim λρ' q=>dB hv λa d hp=>I.W4 hp e λxs h1 h2=>mn T (rN hh h1) h2 q.1 F I q.2
end
theorem drop_cons{α:Type}{l:List α}{i:Nat}{x:α}{r:List α}(h:l.drop i=x::r):l[i]?=some x/\l.drop (i+1)=r/\i<l.length:=
 have h1:l[i]?=some x:=by have:=congrArg (λz=>z[0]?) h;simpa [rj] using this
 ⟨h1,by have:=congrArg List.tail h;simpa [List.tail_drop] using this,(aq.mp h1).1⟩
theorem mv{α:Type}{l:List α}{i:Nat}(h:l.drop i=[])(hi:i<=l.length):i=l.length:=jn hi (E4 (eW.symm.trans (congrArg i6 h)))
theorem FU{n i:Nat}(h:i<n):n+1 - (i+1)<n+1 - i:=Nat.sub_succ_lt_self _ _ (hK h)
section
variable{g:Gl}{f:Fr}{X fr:List ax}{s:ak}{p p' p₁:Pt}{tk:Nat}{ρ:Loc}{h':bt}{fp:List ax}{Q:pM->Hp->Prop}{Er:Nat->Hp->Prop}{KK:Ha->ak->Prop}{EE:ai->ak->Prop}{envs:List Env}{n:Nat}{CM:Fn->List AV->MM AV}
theorem qP{α:Type}{k:Option (Nat×aF)}{σ:Hp}{Q:Unit->Hp->Prop}{P:Prop}(h:Wp (jz k σ) Q Er)(c:pT k σ->Q () σ->P):P:=
 jM (motive:=λk=>Wp (jz k σ) Q Er->(pT k σ->Q () σ->P)->P) k (λh c=>c (λ_ _ q=>aG q) h) (λx h c=>Rm (d:=wc _) h (λe h=>c (λ_ _ q=>by cases q;exact e) h) λ_ h=>bA h) h c
theorem iM.step(S:iM X fr p p')(k:vE fp p'.h h')(hf:∀b∈fp,p.h.get? b=none):iM X fr p ⟨p'.σ,p'.ad,h'⟩:=
 ⟨S.ext,λb o e n=>match S.kp b o e n with|⟨o',e',q⟩=>⟨o',k b o' (λz=>aX (hf b z) e) e',q⟩,S.new⟩
theorem Inv.step(I:Inv g fr p)(k:vE fp p.h h')(hf:∀b∈fp,¬own p.ad b/\g.base.get? b=none/\b∉fr):Inv g fr ⟨p.σ,p.ad,h'⟩:=
 I.BA (λb o e q=>k b o (λz=>q.elim (hf b z).1 λq=>q.elim λo' q=>aX (hf b z).2.1 q) e) λb hb o e q=>⟨o,k b o (λz=>(hf b z).2.2 hb) e,q⟩
theorem ba.Lj(F:ba g f ρ p)(k:vE fp p.h h')(nL:f.env.locals∉fp)(nC:∀x c,f.env.cells.lookup x=some c->c∉fp):ba g f ρ ⟨p.σ,p.ad,h'⟩:=
 ⟨F.kind,F.glob,F.bi,F.loc.elim λm q=>⟨m,q.1.at' λo e=>k _ o nL e,q.2⟩,λx i q1 q2=>(F.M4 x i q1 q2).elim λc r=>⟨c,r.1,λo' z' e1' e2'=>match F.mc x c r.1 with
   |⟨_,_,_,_,o,z,e1,e2⟩=>r.2 o' z' (cu (k c o (nC x c r.1) e1) e1'▸e1) e2'⟩,F.r8,λx c q=>match F.mc x c q with
  |⟨n1,n2,n3,n4,o,z,e1,e2⟩=>⟨n1,n2,n3,n4,o,z,k c o (nC x c q) e1,e2⟩,F.dist⟩
theorem ba.Ku(F:ba g f ρ p)(k:vE fp p.h h')(hf:∀b∈fp,b∉dq f.env):ba g f ρ ⟨p.σ,p.ad,h'⟩:=
 F.Lj k (λz=>hf _ z (.head _)) λx c q z=>hf _ z (xW q)
theorem ba.has(F:ba g f ρ p){b:ax}(h:b∈dq f.env):∃o,p.h.get? b=some o:=(uO h).elim
 (λe=>F.loc.elim λm q=>match q.1 with|⟨o,_,_,h1,_,_,_⟩=>⟨o,e▸h1⟩) λ⟨x,e⟩=>match F.mc x b e with|⟨_,_,_,_,o,_,h1,_⟩=>⟨o,h1⟩
theorem tY.nX{b:ax}(F:ba g f ρ p)(h:p.h.get? b=none):b∉dq f.env:=λz=>(F.has z).elim λ_ e=>aX h e
noncomputable def gj(g:Gl)(CM:Fn->List AV->MM AV)(f:Fr)(e:Mine.Internal.E)(x:az):Prop:=
 ∀(s:ak)(p:Pt) tk ρ Q Er K E,mQ g f ρ p->Wp (ev CM e ρ p.σ) (λv σ=>Wp (cv v σ) Q Er) Er->KC g [] f.fr VE s p Q K->EC g [] f.fr (Ji f.L) s p Er E->wpAny g.M f.A (isTrue x f.env (eval x f.env)) K E (p.on s tk)
theorem KC.on{α β:Type}{V:Pt->α->β->Prop}{Q:α->Hp->Prop}{K:β->ak->Prop}(k:KC g X fr V s p Q K)(S:iM X fr p p₁):KC g X fr V s p₁ Q K:=λv u p' tk q a h=>k v u p' tk q ⟨a.I,S.trans a.S⟩ h
theorem EF.told(k:EF g f s p Er EE)(hA:rv n f.A (f.env::envs) f.fr)(hf:f.env.frame=some f.L):EF g f s p Er (notedBy g.M f.A f.env λe s'=>cameBackBy g.M f.A f.env EE e s'):=λe p' tk a h o=>
 DM hA.frames hA.kinds hA.here hf o (λ_ q=>q) λp'' q o₂=>CT hf o₂ λp₃ q₃ o₃=>k e p₃ tk a (by rw[q₃,q];exact h) (o₃.thr λ_ q=>.inr q)
structure Y1(g:Gl)(f:Fr)(p:Pt)(ad₁:Ad)(fp:List ax)(St:Nat->bt->Prop)(W:Loc->Hp->Prop)(i:Nat)(ρ:Loc)(p':Pt):Prop where
 st:St i p'.h
 a:mQ g f ρ p'
 x:ad₁<+:p'.ad
 S:iM (dq f.env) f.fr p p'
 no:∀b∈fp,¬own p'.ad b
 w:W ρ p'.σ
inductive Yl(g:Gl)(f:Fr)(s:ak)(p:Pt)(ad₁:Ad)(fp:List ax)(St:Nat->bt->Prop)(n:Nat)(W:Nat->Loc->Hp->Prop)(m:Nat)(s':ak):Prop where
 |mk (i:Nat) (ρ:Loc) (p':Pt) (tk:Nat) (hm:m=n+1 - i) (hi:i<=n) (e:s'=p'.on s tk) (I:Y1 g f p ad₁ fp St (W i) i ρ p')
theorem JS{ks:Ks}{is:List Nat}{t:az}{b:dH}{body:List bT}{k:Option (Nat×aF)}{dh:List Item}{itv:ai}{St:Nat->bt->Prop}(hA:rv n f.A (f.env::envs) f.fr)(hf:f.env.frame=some f.L)(hn:f.env.scope.names=ks)(ht:BI ks f.ns is t=true)
  (HB:ny g CM f b body) (W:nI g f.A f.fr p₁.ad t k dh itv fp St) (F₀:ba g f ρ p) (S₁:iM (dq f.env) f.fr p p₁) (hfp:∀b∈fp,tY g.base f.fr p.h p₁ b) (h0:St 0 p₁.h) (a:mQ g f ρ p₁)
  (h:Wp (pg k is.length (λvs ρ=>do let ρ'<-mS (dC is vs ρ);Cy CM b ρ') dh ρ p₁.σ) Q Er) (kk:KF g f s p Q KK) (ke:EF g f s p Er EE):
  codeAny g.M f.A (.forLoop t itv body [] f.env) (λr s'=>match r with|.ok fl=>KK fl s'|.error e=>cameBackBy g.M f.A f.env EE e s') (p₁.on s tk):=by
 have f0:∀b∈fp,p.h.get? b=none:=λb hb=>match hfp b hb with|⟨q,_,_,_,_,_⟩=>q
 have fX:∀b∈fp,b∉dq f.env:=λb hb=>tY.nX F₀ (f0 b hb)
 have f5:∀b∈fp,b∉f.fr:=λb hb=>match hfp b hb with|⟨_,_,_,_,_,q⟩=>q
 refine codeAny_forLoop_any (Yl g f s p p₁.ad fp St dh.length λi ρ σ=>Wp (pg k is.length (λvs ρ=>do let ρ'<-mS (dC is vs ρ);Cy CM b ρ') (dh.drop i) ρ σ) Q Er) (λm s' I=>?_) (dh.length+1)
  ⟨0,ρ,p₁,tk,rfl,aV _,rfl,h0,a,cM _,S₁,λb hb=>match hfp b hb with|⟨_,_,_,q,_,_⟩=>q,h⟩
 obtain⟨i,ρ,p',tk,rfl,hi,rfl,I⟩:=I
 have f3:∀b∈fp,¬own p'.ad b/\g.base.get? b=none/\b∉f.fr:=λb hb=>⟨I.no b hb,match hfp b hb with|⟨_,_,_,_,q,_⟩=>q,f5 b hb⟩
 have w:=I.w
 have ste:∀{h':bt},vE fp p'.h h'->gH g (dq f.env) f.fr p ⟨p'.σ,p'.ad,h'⟩:=λkp=>⟨I.a.I.step kp f3,I.S.step kp f0⟩
 cases hd:dh.drop i with
 |nil=>
  rw[hd] at w
  obtain rfl:=mv hd hi
  exact qP (α:=Unit) (wb w) λh1 w=>W.done p' s tk _ _ I.st I.x I.a.I h1 I.no λh' tk' kp=>g5 (kk (.next ρ) .next ⟨p'.σ,p'.ad,h'⟩ tk' w (ste kp) ⟨rfl,I.a.F.Ku kp fX,I.a.hl⟩)
 |cons it rest=>
  rw[hd] at w
  have dc:=drop_cons hd
  refine qP (α:=Unit) (wb w) λh1 w=>?_
  refine aR (W.item i it p' s tk (λv s₂=>wpAny g.M f.A (assign t f.env v) (λ_ s₂=>wpAny g.M f.A (execs body f.env) (λfl s₃=>match fl with
      |.next|.cont=>∃m,m<dh.length+1 - i/\Yl g f s p p₁.ad fp St dh.length (λi ρ σ=>Wp (pg k is.length (λvs ρ=>do let ρ'<-mS (dC is vs ρ);Cy CM b ρ') (dh.drop i) ρ σ) Q Er) m s₃
      |.brk=>KK .next s₃
      |.ret v=>KK (.ret v) s₃) (notedBy g.M f.A f.env λe s'=>cameBackBy g.M f.A f.env EE e s') s₂) (notedBy g.M f.A f.env λe s'=>cameBackBy g.M f.A f.env EE e s') s₂) (notedBy g.M f.A f.env λe s'=>cameBackBy g.M f.A f.env EE e s') dc.1 I.st I.x I.a.I h1 I.no λv h' tk' hv st' kp=>?_) (λrr s₁ hq=>?_) λ_ _ q=>q
  ·have A₁:=ste kp
   refine uX (p:=⟨p'.σ,p'.ad,h'⟩) hA.handled (.of hn ht λx _ _ _=>HX.frame f.env x) hv (wb w) (I.a.F.Ku kp fX) A₁.I λvs w _=>rZ (wb (wb w)) λρ' q1 w=>⟨ρ',q1,λh'' tk'' S=>?_⟩
   have A₂:=A₁.trans S.a
   refine HB s ⟨p'.σ,p'.ad,h''⟩ tk'' ρ' _ _ _ _ ⟨S.F,A₂.I,(jk q1).1.trans I.a.hl⟩ w (λfl u p₃ tk₃ w a₃ r=>?_) ((ke.told hA hf).on A₂.S)
   cases fl with
   |next ρ₃=>
    obtain⟨rfl,F₃,l₃⟩:=r
    refine⟨_,FU dc.2.2,i+1,ρ₃,p₃,tk₃,rfl,dc.2.2,rfl,W.frame _ _ _ st' λb hb o eo=>?_,⟨F₃,a₃.I,l₃⟩,I.x.trans a₃.S.ext,A₂.S.trans a₃.S,λb hb=>?_,by rw[dc.2.1];exact w⟩
    ·exact a₃.S.keep (S.k b o (fX b hb) eo) (I.no b hb) (fX b hb) (f5 b hb)
    ·exact(W.live _ _ st' b hb).elim λo eo=>a₃.S.off (S.k b o (fX b hb) eo) (I.no b hb)
   |ret v=>
    obtain⟨u',rfl,hv⟩:=r
    exact kk (.ret v) _ p₃ tk₃ w (A₂.trans a₃) ⟨u',rfl,hv⟩
  ·obtain⟨v,rfl,hq⟩:=hq
   exact hq
inductive WhS(g:Gl)(f:Fr)(s:ak)(p:Pt)(W:Nat->Loc->Hp->Prop)(m:Nat)(s':ak):Prop where
 |mk (ρ:Loc) (p':Pt) (tk:Nat) (e:s'=p'.on s tk) (a:mQ g f ρ p') (S:iM (dq f.env) f.fr p p') (w:W m ρ p'.σ)
noncomputable abbrev Cw:Nat->Hp->Prop:=λ_ _=>False
theorem EC.no{fl:ai->Prop}{E:ai->ak->Prop}:EC g X fr fl s p Cw E:=λ_ _ _ _ q _=>q.elim
theorem Ec{c:Mine.Internal.E}{cx:az}{b:dH}{body:List bT}(HT:gj g CM f c cx)(HB:ny g CM f b body)(a:mQ g f ρ p)
  (h:Wp (uU (λρ=>do
   let v<-ev CM c ρ
   let t<-cv v
   if t then do let f<-Cy CM b ρ;pure (some f) else pure .none) oI ρ p.σ) Q Cw) (kk:KF g f s p Q KK):
  codeAny g.M f.A (.whileLoop cx body [] f.env) (λr s'=>match r with|.ok fl=>KK fl s'|.error e=>cameBackBy g.M f.A f.env EE e s') (p.on s tk):=by
 refine codeAny_whileLoop (WhS g f s p λm ρ σ=>Wp (uU (λρ=>do
   let v<-ev CM c ρ
   let t<-cv v
   if t then do let f<-Cy CM b ρ;pure (some f) else pure .none) m ρ σ) Q Cw) (λm s' I=>?_) oI ⟨ρ,p,tk,rfl,a,.refl,h⟩
 obtain⟨ρ,p',tk,rfl,a,S,w⟩:=I
 cases m with
 |zero=>exact bA w
 |succ m=>
  refine HT s p' tk ρ _ _ _ _ a ((wb (wb w)).mono (λv σ h=>wb h) λ_ _ h=>h) (λt u p₁ tk₁ w a₁ e=>?_) .no
  cases (e:t=u)
  cases t with
  |false=>exact g5 (kk (.next ρ) .next p₁ tk₁ w ⟨a₁.I,S.trans a₁.S.of0⟩ ⟨rfl,a.F.on a₁.S,a.hl⟩)
  |true=>
   refine HB s p₁ tk₁ ρ _ _ _ _ (a.on a₁) (wb (m:=Cy CM b ρ) (f:=λf=>pure (some f)) w) (λfl u p₃ tk₃ w a₃ r=>?_) .no
   have S₃:=(S.trans a₁.S.of0).trans a₃.S
   cases fl with
   |next ρ₃=>
    obtain⟨rfl,F₃,l₃⟩:=r
    exact⟨m,bM m,ρ₃,p₃,tk₃,rfl,⟨F₃,a₃.I,l₃⟩,S₃,w⟩
   |ret v=>
    obtain⟨u',rfl,hv⟩:=r
    exact kk (.ret v) _ p₃ tk₃ w ⟨a₃.I,S₃⟩ ⟨u',rfl,hv⟩
end
inductive MV(env:Env)(P:Str->Prop)(m:Sem (List (Str×ax))):Prop where
 |mk (cl:List (Str×ax)) (e:m=pure cl) (h1:∀n c,cl.lookup n=some c->env.cells.lookup n=some c) (h2:∀n,P n->(cl.lookup n).isSome=true)
theorem ED{env:Env}(l:List (Str×oR)):∀(acc:List (Str×ax)),(∀p∈l,p.2=.free->∃c,env.cells.lookup p.1=some c)->(∀n c,acc.lookup n=some c->env.cells.lookup n=some c)->
  MV env (λn=>(acc.lookup n).isSome=true\/l.lookup n=some .free) (forIn l acc (λ(x:Str×oR) (r:List (Str×ax))=>(do if x.2==.free then(do let a<-cellOf env x.1;pure (lL ((x.1,a)::r))) else pure (lL r):Sem (ForInStep (List (Str×ax))))):Sem (List (Str×ax))):=by
 induction l with
 |nil=>exact λacc _ h2=>⟨acc,o5,h2,λn h=>h.elim id λz=>aG z⟩
 |cons p r ih=>
  intro acc h1 h2
  obtain⟨n,k⟩:=p
  rw[List.forIn_cons]
  by_cases q:k=.free
  ·subst q
   obtain⟨c,hc⟩:=h1 (n,.free) (.head _) rfl
   have e:cellOf env n=pure c:=by unfold cellOf;rw[show env.cells.lookup n=some c from hc]
   obtain⟨cl,e1,e2,e3⟩:=ih ((n,c)::acc) (λp hp=>h1 p (.tail _ hp)) λm d hd=>if z:m=n then by subst z;exact(cu ig hd)▸hc else h2 m d ((gb z).symm.trans hd)
   refine⟨cl,?_,e2,λm hm=>e3 m ?_⟩
   ·rw[if_pos (show((n,Js).snd==Js)=true from rfl),e];exact e1
   ·exact if z:m=n then .inl (by rw[z,ig];rfl) else hm.imp (λy=>by rw[gb z];exact y) λy=>(gb z).symm.trans y
  ·obtain⟨cl,e1,e2,e3⟩:=ih acc (λp hp=>h1 p (.tail _ hp)) h2
   refine⟨cl,?_,e2,λm hm=>e3 m (hm.imp id λy=>if z:m=n then absurd (cu ig (z▸y)) q else(gb z).symm.trans y)⟩
   rw[if_neg λh=>q (eq_of_beq h)];exact e1
theorem Dz{scope:rz}{env:Env}(h:∀p∈scope.names,p.2=.free->∃c,env.cells.lookup p.1=some c):MV env (λn=>scope.names.lookup n=some .free) (closureFor scope env):=
 match ED scope.names [] h λn c z=>aG z with
 |⟨cl,e1,e2,e3⟩=>⟨cl,by rw[<-e1];unfold closureFor;simp only[bind_pure],e2,λn hn=>e3 n (.inr hn)⟩
theorem nu{ks:Ks}{x:Str}:∀{ks':Ks},(w4 ks ks').lookup x=(ks'.lookup x).map λk=>if k=.free/\ks.lookup x=some .cell then .cell else k
 |[]=>rfl
 |(n,k)::r=>by
  have e:w4 ks ((n,k)::r)=(n,if k=.free/\ks.lookup n=some .cell then .cell else k)::w4 ks r:=congrArg (·::w4 ks r) (apply_ite (Prod.mk n) _ _ _).symm
  rw[e]
  by_cases z:x=n
  ·rw[z,ig,ig];rfl
  ·rw[gb z,gb z];exact nu
theorem Kr{ks ks':Ks}{x:Str}{k:oR}{P:Prop}(h:(w4 ks ks').lookup x=some k)(k1:ks'.lookup x=some .free->ks.lookup x=some .cell->k=.cell->P)(k2:ks'.lookup x=some k->P):P:=
 gL (nu.symm.trans h) λk' h1 h2=>if z:k'=.free/\ks.lookup x=some .cell then k1 (z.1▸h1) z.2 ((if_pos z).symm.trans h2).symm else k2 (((if_neg z).symm.trans h2)▸h1)
theorem px{scope:rz}{env:Env}(hk:env.scope.kind=.function):(relabel scope env).names=w4 env.scope.names scope.names:=
 eT λp _=>by
  show(if(p.2==.free&&env.scope.kind==.function&&env.kindOf p.1==some .cell)=true then(p.1,NameKind.cell) else p)=_
  rw[hk]
  exact ite_congr (propext ⟨λz=>gX z λz1 z2=>⟨eq_of_beq (gX z1 λy _=>y),eq_of_beq z2⟩,λz=>by rw[z.1,show env.kindOf p.1=some .cell from z.2];rfl⟩) (λ_=>rfl) λ_=>rfl
theorem iu{x y:Str}{r:List Str}:bg (y::r) x=((bg r x).map (·+1)).or (if y=x then some 0 else none):=by
 show(match bg r x with|some i=>some (i+1)|none=>if y=x then some 0 else none)=_
 cases bg r x<;>rfl
theorem A8{x:Str}{l:List Str}(h:x∈l):∃j,bg l x=some j:=by
 induction l with
 |nil=>exact(dk h).elim
 |cons y r ih=>
  rw[iu]
  cases e:bg r x with
  |some i=>exact⟨_,rfl⟩
  |none=>exact⟨0,if_pos ((aC.mp h).elim Eq.symm λz=>(ih z).elim λ_ q=>aX e q)⟩
theorem s9{x:Str}{xs ns:List Str}:bg (ns++xs) x=((bg xs x).map (ns.length+·)).or (bg ns x):=by
 induction ns with
 |nil=>cases e:bg xs x with
  |none=>exact e
  |some j=>exact e.trans (congrArg some (cj j).symm)
 |cons y r ih=>
  rw[List.cons_append,iu,ih,iu]
  cases bg xs x with
  |none=>rfl
  |some j=>exact congrArg some (eh ..)
theorem Y9{x y:Str}(h:x≠y):bg [x,y] x=some 0:=iu.trans (by rw[iu,if_neg h.symm,if_pos rfl];rfl)
theorem Y5{x y:Str}:bg [x,y] y=some 1:=iu.trans (by rw[iu,if_pos rfl];rfl)
theorem tl{x:Str}{ns xs:List Str}{j:Nat}(h:bg xs x=some j):bg (ns++xs) x=some (ns.length+j):=by rw[s9,h];rfl
theorem sU{x:Str}{ns xs:List Str}{i:Nat}{P:Prop}(h:bg (ns++xs) x=some i)(hi:i<ns.length)(k:x∉xs->bg ns x=some i->P):P:=by
 cases e:bg xs x with
 |none=>rw[s9,e] at h;exact k (λz=>(A8 z).elim λ_ q=>aX e q) h
 |some j=>exact absurd hi (iP.mpr (ae ((tl e).symm.trans h)▸bb ..))
structure ir(ks:Ks)(ns xs:List Str)(names:Ks):Prop where
 loc:∀x∈xs,names.lookup x=some .local
 dot:aa ".0"∉ns
 cell:∀p∈names,p.2≠.cell
 lc:∀p∈names,p.2=.local→(p.1∈xs∨p.1=aa ".0")∧names.lookup p.1=some .local
 free:∀p∈names,p.2=.free->ks.lookup p.1=some .cell/\(bg ns p.1).isSome=true
theorem YG{α:Type}[BEq α][LawfulBEq α]{a b:α}(h:(a !=b)=true):a≠b:=λe=>ft ((QQ h).symm.trans (beq_iff_eq.mpr e))
theorem ir.of{ks ks':Ks}{ns xs:List Str}(h:F5 ks ks' ns xs=true):ir ks ns xs ks':=mx h λh1 h2 h3=>
 have h3:=aD.mp h3
 ⟨λx hx=>eq_of_beq (aD.mp h1 x hx),λz=>ft ((cJ h2).symm.trans (di.mpr z)),λp hp=>gX (h3 p hp) λz _=>YG z,
  λp hp e=>mx (h3 p hp) λ_ z _=>CP z (λz=>absurd e (YG z)) λz=>gX z λz1 z2=>⟨CP z1 (λy=>.inl (di.mp y)) λy=>.inr (eq_of_beq y),eq_of_beq z2⟩,
  λp hp e=>mx (h3 p hp) λ_ _ z=>CP z (λz=>absurd e (YG z)) λz=>gX z λz1 z2=>⟨eq_of_beq z1,z2⟩⟩
noncomputable abbrev qA(f:Fr)(scope:rz)(cl:List (Str×ax))(C:ax)(xs:List Str):Fr:=⟨f.A,f.fr,compEnvC scope cl C f.env,f.L,f.ns++xs⟩
section
variable{g:Gl}{f:Fr}{X fr fp:List ax}{s:ak}{p p' p₁:Pt}{tk:Nat}{ρ:Loc}{h':bt}{ks:Ks}{xs:List Str}{scope:rz}{cl:List (Str×ax)}{C D:ax}
theorem sM(hf:f.env.scope.kind=.function)(qo:f.env.scope.names=ks)(x:Str):(compEnvC scope cl C f.env).kindOf x=(w4 ks scope.names).lookup x:=congrArg (fg x) ((px hf).trans (qo▸rfl))
theorem ba.weak{ρ':Loc}(F:ba g f ρ p)(k:∀(i:Nat)(v:AV),ρ'[i]?=some (some v)->ρ[i]?=some (some v)):ba g f ρ' p:=
 ⟨F.kind,F.glob,F.bi,F.loc.elim λm q=>⟨m,q.1,λx i v q1 q2 q3=>q.2 x i v q1 q2 (k i v q3)⟩,λx i q1 q2=>(F.M4 x i q1 q2).elim λc r=>⟨c,r.1,λo u e1 e2 v hv=>r.2 o u e1 e2 v (k i v hv)⟩,F.r8,F.mc,F.dist⟩
theorem zv{m:Nat}{i:Nat}{v:AV}{P:Prop}(e:(ρ++aM m none)[i]?=some (some v))(k:i<ρ.length->ρ[i]?=some (some v)->P):P:=
 if q:i<ρ.length then k q ((bk q).symm.trans e) else nomatch (rn.mp (av ((cX (bp q)).symm.trans e))).2
theorem ba.back{vs:List AV}{n:Nat}(F:ba g f (ρ++vs.map some) p):ba g f (ρ++aM n none) p:=
 F.weak λi v e=>zv e λhi q=>(bk hi).trans q
theorem C5(qo:f.env.scope.names=ks)(CS:ir ks f.ns xs scope.names)(hkf:scope.kind=.function)(e1:∀m c,cl.lookup m=some c->f.env.cells.lookup m=some c)(e2:∀m,scope.names.lookup m=some .free->(cl.lookup m).isSome=true)
  (F:ba g f ρ p) (hl:ρ.length=f.ns.length) (k:oY p.h h') (hC:p.h.get? C=none) (fC:¬own p.ad C/\g.base.get? C=none) (hm:∃m,h'.Ns C m):ba g (qA f scope cl C xs) (ρ++aM xs.length none) ⟨p.σ,p.ad,h'⟩:=by
 refine⟨hkf,F.glob,F.bi,hm.elim λm hm=>⟨m,hm,λx i v q1 q2 q3=>zv q3 λhi _=>sU q1 (hl▸hi) λnx q1=>Kr ((sM F.kind qo x).symm.trans q2) (λ_ _ e=>nomatch e) λr=>(CS.lc _ (lookup_mem r) rfl).1.elim (λz=>absurd z nx) λz=>absurd (av (dP q1)) (show x∉f.ns from(show x=_ from z)▸CS.dot)⟩,
  λx i q1 q2=>Kr ((sM F.kind qo x).symm.trans q2) (λr z _=>?_) λr=>absurd rfl (CS.cell _ (lookup_mem r)),fC,λx c q=>?_,λx y c q1 q2=>F.dist x y c (e1 _ _ q1) (e1 _ _ q2)⟩
 ·refine(eD.mp (e2 x r)).elim λc hc=>⟨c,hc,λo u f1 f2 v q3=>zv q3 λhi q3=>sU q1 (hl▸hi) λ_ q1=>(F.M4 x i q1 ((congrArg (fg x) qo).trans z)).elim λc' w=>?_⟩
  cases cu (e1 _ _ hc) w.1
  exact match F.mc x c (e1 _ _ hc) with|⟨_,_,_,_,o',u',y1,y2⟩=>w.2 o u (cu (k c o' y1) f1▸y1) f2 v q3
 ·exact match F.mc x c (e1 _ _ q) with|⟨n1,n2,n3,n4,o,u,y1,y2⟩=>⟨n1,n2,n3,λz=>aX hC (z▸y1),o,u,k c o y1,y2⟩
inductive mB(f:Fr)(X:List ax)(t:az)(n:Nat)(ρ:Loc):Prop where
 |mk (is:List Nat) (hl:is.length=n) (T:n9 f X t is) (k:∀vs:List AV,vs.length=n->dC is vs (ρ++aM n none)=some (ρ++vs.map some))
theorem u2{ns:List Str}{x:Str}{j:Nat}(hf:f.env.scope.kind=.function)(qo:f.env.scope.names=ks)(CS:ir ks ns xs scope.names)(hx:x∈xs)(hj:bg xs x=some j):gR (qA f scope cl C xs) [C] x (f.ns.length+j):=
 have e:(compEnvC scope cl C f.env).kindOf x=some .local:=(sM hf qo x).trans (nu.trans (by rw[CS.loc x hx];rfl))
 ⟨tl hj,.inl e,λ_=>.head _,λc h _=>nomatch e.symm.trans h⟩
theorem Xg{vs:List AV}{P:List AV->Prop}(h:vs.length=1)(k:∀v,P [v]):P vs:=
 cy (motive:=λvs=>vs.length=1->P vs) vs (λh=>(mV 0 h.symm).elim) (λv r h=>iZ (i0 h)▸k v) h
theorem Zn{vs:List AV}{P:List AV->Prop}(h:vs.length=2)(k:∀v w,P [v,w]):P vs:=
 cy (motive:=λvs=>vs.length=2->P vs) vs (λh=>(mV 1 h.symm).elim) (λv r h=>Xg (P:=λr=>P (v::r)) (i0 h) (k v)) h
theorem GO{a b:Option AV}{r:Loc}:(ρ++a::r).set ρ.length b=ρ++b::r:=by rw[CK _ _ (aK _),tN];rfl
theorem Ft{i:Nat}{is:List Nat}{v:AV}{vs:List AV}(h:i<ρ.length):dC (i::is) (v::vs) ρ=dC is vs (ρ.set i (some v)):=if_pos h
theorem Ki{a:Option AV}{r:Loc}:ρ.length<(ρ++a::r).length:=by rw[aw];exact mW (tO _)
theorem FC{v:AV}:dC [ρ.length] [v] (ρ++[none])=some (ρ++[some v]):=(Ft Ki).trans (congrArg some GO)
theorem Oi{v w:AV}:dC [ρ.length,ρ.length+1] [v,w] (ρ++[none,none])=some (ρ++[some v,some w]):=(Ft Ki).trans (by
 rw[GO,List.append_cons,show ρ.length+1=(ρ++[some v]).length from jt.symm,FC,ay];rfl)
theorem zy{t:az}(h:Ke xs t=true)(hf:f.env.scope.kind=.function)(qo:f.env.scope.names=ks)(CS:ir ks f.ns xs scope.names)(hl:ρ.length=f.ns.length):mB (qA f scope cl C xs) [C] t xs.length ρ:=by
 revert CS
 refine iJ h λx r h=>?_
 cases r with
 |nil=>exact λCS=>cG (P:=λt=>mB _ _ t _ _) h λa pos h=>m6 (P:=λa=>mB _ _ (.Name a pos) _ _) h ⟨[f.ns.length],rfl,.one x pos _ (u2 hf qo CS (.head _) (j:=0) (if_pos rfl)),λvs e=>Xg (P:=λvs=>dC _ vs _=some (ρ++vs.map some)) e λv=>hl▸FC⟩
 |cons y r=>exact gc (P:=λr=>ir ks f.ns (x::y::r) scope.names->mB (qA f scope cl C (x::y::r)) [C] t (x::y::r).length ρ) h λh CS=>oQ (P:=λt=>mB _ _ t _ _) h λts kk pos h=>xM (P:=λts=>mB _ _ (.Tuple ts kk pos) _ _) h λa b h=>cG (P:=λa=>mB _ _ (.Tuple [a,b] kk pos) _ _) h λa pa h=>cG (P:=λb=>mB _ _ (.Tuple [_,b] kk pos) _ _) h λb pb h=>mx h λh1 h2 h3=>(by
   cases eq_of_beq h1
   cases eq_of_beq h2
   exact⟨[f.ns.length,f.ns.length+1],rfl,.tup _ _ _ _ (aK 2) (.cons (u2 hf qo CS (.head _) (j:=0) (Y9 (YG h3))) (.cons (u2 hf qo CS (.tail _ (.head _)) (j:=1) Y5) ⟨.nil,.nil,rfl,rfl⟩)),λvs e=>Zn (P:=λvs=>dC _ vs _=some (ρ++vs.map some)) e λv w=>hl▸Oi⟩)
end
theorem yt(elt target iter:az)(ifs:List az)(scope:rz)(pos:Pos)(it acc:ai)(env:Env):
  compTurn (.ListComp elt [⟨target,iter,ifs,0⟩] scope pos) 0 it acc env=(do
   standAt iter.pos
   match<-pyNext it with
   |none=>pure (.done .next)
   |some v=>
    letOwnedTupleGo target it v
    assign target env v
    let mut ok:=true
    for c in ifs do
     if ok then ok<-isTrue c env (eval c env)
    if ok then
     (do let _←call (.builtin "list.append") [acc,←eval elt env])
    again (.compLoop (.ListComp elt [⟨target,iter,ifs,0⟩] scope pos) 0 it acc env)):=compTurn_list ..
noncomputable abbrev tests(ifs:List az)(env:Env):Sem Bool:=forIn ifs true λc r=>if r=true then do let ok<-isTrue c env (eval c env);pure (lL ok) else pure (lL r)
section
variable{prog:fK}{w:ky}{A:a7}{E:ai->ak->Prop}{R:pH->ak->Prop}{s:ak}
noncomputable def vq(M:fY)(A:a7)(elt target:az)(ifs:List az)(acc:ai)(env:Env)(E:ai->ak->Prop)(J:ak->Prop)(v:ai)(s:ak):Prop:=
 wpAny M A (assign target env v) (λ_ s₂=>wpAny M A (tests ifs env) (λok s₃=>if ok=true then wpAny M A (eval elt env) (λx s₄=>wpAny M A (call (.builtin "list.append") [acc,x]) (λ_ s₅=>J s₅) E s₄) E s₃ else J s₃) E s₂) E s
theorem H7{elt target iter:az}{ifs:List az}{scope:rz}{pos:Pos}{it acc:ai}{env:Env}(I:Nat->ak->Prop)
  (turn:∀n s,I n s->wpAny (model prog w) A (pyNext it) (λr s₁=>match r with
   |none=>R (.ok .next) s₁
   |some v=>wpAny (model prog w) A (letOwnedTupleGo target it v) (λ_ s₂=>vq (model prog w) A elt target ifs acc env (notedBy (model prog w) A env λe s'=>R (.error e) s') (λs'=>∃m,m<n/\I m s') v s₂) (notedBy (model prog w) A env λe s'=>R (.error e) s') s₁) (notedBy (model prog w) A env λe s'=>R (.error e) s') s)
  (n:Nat) (h:I n s):codeAny (model prog w) A (.compLoop (.ListComp elt [⟨target,iter,ifs,0⟩] scope pos) 0 it acc env) R s:=by
 refine codeAny_loop rfl I (λn s hI=>?_) n h
 show wpAny _ A ((compTurn (.ListComp elt [⟨target,iter,ifs,0⟩] scope pos) 0 it acc env).onRaise (λx=>do noteFrame x env;theTreesLotGoes x)) _ _ s
 refine wpAny_noted ?_
 rw[yt]
 refine ag (bP (ag (aR (turn n s hI) (λr s₁ h₁=>?_) λ_ _ h'=>h')))
 cases r with
 |none=>exact ao h₁
 |some v=>
  refine ag (aR h₁ (λ_ s₁' h₁'=>?_) λ_ _ h'=>h')
  refine ag (aR h₁' (λ_ s₂ h₂=>ag (aR h₂ (λok s₃ h₃=>?_) λ_ _ h'=>h')) λ_ _ h'=>h')
  cases ok with
  |false=>exact ao ⟨rfl,h₃⟩
  |true=>exact ag (ag (aR h₃ (λx s₄ h₄=>ag (aR h₄ (λ_ s₅ h₅=>ao (ao ⟨rfl,h₅⟩)) λ_ _ h'=>h')) λ_ _ h'=>h'))
end
noncomputable def fq(g:Gl)(CM:Fn->List AV->MM AV)(f:Fr)(e:Mine.Internal.E)(x:az):Prop:=
 ∀(s:ak)(p:Pt) tk ρ Q Er K E,mQ g f ρ p->Wp (ev CM e ρ p.σ) Q Er->KC g [] f.fr (VV g) s p Q K->EC g [] f.fr (Ji f.L) s p Er E->wpAny g.M f.A (eval x f.env) K E (p.on s tk)
inductive pU(g:Gl)(CM:Fn->List AV->MM AV)(f:Fr):List az->Mine.Internal.E->Prop where
 |no:pU g CM f [] (.bool true)
 |one (c:az) (e:Mine.Internal.E) (T:gj g CM f e c):pU g CM f [c] e
noncomputable def Bh(CM:Fn->List AV->MM AV)(cond elt:Mine.Internal.E)(ρ:Loc):List AV->MM (Option AV):=λvs=>do
 let ρ':=ρ++vs.map some
 let c<-ev CM cond ρ'
 let b<-cv c
 if b then do let v<-ev CM elt ρ';pure (some v) else pure .none
theorem Wp.get{α:Type}{r:R α}{Q:α->Hp->Prop}{P:Prop}(h:Wp r Q Cw)(k:∀a σ,Q a σ->P):P:=R.casesOn (motive:=λr=>Wp r Q Cw->P) r k (λ_ _ h=>h.elim) (λh=>h.elim) h
section
variable{g:Gl}{f:Fr}{X fr fp:List ax}{s:ak}{p p' p'' p₁:Pt}{tk:Nat}{ρ:Loc}{h':bt}{ks:Ks}{xs:List Str}{scope:rz}{cl:List (Str×ax)}{C D:ax}{CM:Fn->List AV->MM AV}{E:ai->ak->Prop}
theorem D6{ifs:List az}{cond:Mine.Internal.E}{Q:Bool->Hp->Prop}{K:Bool->ak->Prop}(H:pU g CM f ifs cond)(a:mQ g f ρ p)(h:Wp (ev CM cond ρ p.σ) (λv σ=>Wp (cv v σ) Q Cw) Cw)(k:KC g [] f.fr VE s p Q K):wpAny g.M f.A (tests ifs f.env) K E (p.on s tk):=by
 cases H with
 |no=>exact wpAny_tests_nil (k true true p tk h (.refl a.I) rfl)
 |one c e T=>exact wpAny_tests_one (T s p tk ρ Q Cw K E a h k .no)
theorem iM.over{Y:List ax}(S:iM X fr p p')(S':iM Y fr p' p'')(k:∀b∈Y,p.h.get? b=none):iM X fr p p'':=
 ⟨S.ext.trans S'.ext,λb o e n=>match S.kp b o e n with
  |⟨o',e',q⟩=>match S'.kp b o' e' (S.off e n) with
   |⟨o'',e'',q'⟩=>⟨o'',e'',λhX=>
    have z':=q' λhY=>aX (k b hY) e
    ⟨(q hX).1.elim λsl z=>z'.1.elim λsl' w=>⟨sl',w.trans (congrArg (λo:Obj=>{o with slots:=sl'}) z)⟩,λhf=>(z'.2 hf).trans ((q hX).2 hf)⟩⟩,
  λb hb=>(S'.new b hb).elim (S.new b) λq=>(Jl (own p.ad b)).imp id (S.fresh q)⟩
structure IL(g:Gl)(f:Fr)(p p₁:Pt)(fp:List ax)(b:ax):Prop where
 fr:p₁.h.get? b=none
 own:¬own p₁.ad b/\g.base.get? b=none/\b∉f.fr
 new:p.h.get? b=none
 fp:b∉fp
 cell:∀x c,f.env.cells.lookup x=some c->c≠b
theorem IL.of{b:ax}(F:ba g f ρ p₁)(I:Inv g f.fr p₁)(S:iM X f.fr p p₁)(hfp:∀b∈fp,tY g.base f.fr p.h p₁ b)(e:p₁.h.get? b=none):IL g f p p₁ fp b:=
 have w:=I.fresh e
 ⟨e,w,S.fresh e λz=>w.1 (z.mono S.ext),λz=>match hfp b z with|⟨_,o,q,_,_,_⟩=>aX e q,λx c q z=>match F.mc x c q with|⟨_,_,_,_,o,_,y,_⟩=>aX e (z▸y)⟩
structure pd(g:Gl)(f fc:Fr)(p p₁:Pt)(t:az)(k:Option (Nat×aF))(dh:List Item)(itv:ai)(fp:List ax)(St:Nat->bt->Prop)(C D:ax):Prop where
 W:nI g f.A f.fr p₁.ad t k dh itv fp St
 sC:IL g f p p₁ fp C
 sD:IL g f p p₁ fp D
 ne:D≠C
 fps:∀b∈fp,tY g.base f.fr p.h p₁ b
 BP:fc.fr=f.fr
 VI:∀x c,fc.env.cells.lookup x=some c->c∉fp
 Xz:∀x c,fc.env.cells.lookup x=some c->c≠D
 locals:fc.env.locals=C
structure CompI(g:Gl)(f fc:Fr)(p p₁:Pt)(fp:List ax)(St:Nat->bt->Prop)(C D:ax)(i:Nat)(ρ:Loc)(acc:List AV)(ys:Array ai)(p':Pt):Prop where
 st:St i p'.h
 I:Inv g f.fr p'
 x:p₁.ad<+:p'.ad
 S:iM [] f.fr p p'
 F:ba g fc ρ p'
 no:∀b∈fp,¬own p'.ad b
 hD:p'.h.PlainList D ys
 V:eJ g.T p'.ad acc ys.toList
 nD:¬own p'.ad D
 nC:¬own p'.ad C
variable{fc:Fr}{t:az}{k:Option (Nat×aF)}{dh:List Item}{itv:ai}{St:Nat->bt->Prop}{i:Nat}{acc:List AV}{ys:Array ai}
theorem pd.f0(Z:pd g f fc p p₁ t k dh itv fp St C D){b:ax}(hb:b∈fp):p.h.get? b=none:=match Z.fps b hb with|⟨q,_,_,_,_,_⟩=>q
theorem pd.f3(Z:pd g f fc p p₁ t k dh itv fp St C D){b:ax}(hb:b∈fp):g.base.get? b=none/\b∉f.fr:=match Z.fps b hb with|⟨_,_,_,_,q,q'⟩=>⟨q,q'⟩
theorem CompI.on(B:CompI g f fc p p₁ fp St C D i ρ acc ys p')(Z:pd g f fc p p₁ t k dh itv fp St C D)(a:gH g [] f.fr p' p''):CompI g f fc p p₁ fp St C D i ρ acc ys p'':=
 ⟨Z.W.frame _ _ _ B.st λb hb o e=>a.S.keep e (B.no b hb) (λq=>nomatch q) (Z.f3 hb).2,a.I,B.x.trans a.S.ext,B.S.trans a.S,B.F.on (Z.BP.symm▸a.S),λb hb=>(Z.W.live _ _ B.st b hb).elim λo e=>a.S.off e (B.no b hb),
  B.hD.at λo e=>a.S.keep e B.nD (λq=>nomatch q) Z.sD.own.2.2,B.V.mono a.S.ext,B.hD.elim λn e=>a.S.off e B.nD,(B.F.has (.head _)).elim λo e=>a.S.off (Z.locals▸e) B.nC⟩
theorem CompI.draw(B:CompI g f fc p p₁ fp St C D i ρ acc ys p')(Z:pd g f fc p p₁ t k dh itv fp St C D)(kp:vE fp p'.h h'){j:Nat}(st:St j h'):CompI g f fc p p₁ fp St C D j ρ acc ys ⟨p'.σ,p'.ad,h'⟩:=
 ⟨st,B.I.step kp λb hb=>⟨B.no b hb,Z.f3 hb⟩,B.x,B.S.step kp λb hb=>Z.f0 hb,B.F.Lj kp (Z.locals▸Z.sC.fp) Z.VI,B.no,B.hD.at λo q=>kp D o Z.sD.fp q,B.V,B.nD,B.nC⟩
theorem CompI.stored{ρ':Loc}(B:CompI g f fc p p₁ fp St C D i ρ acc ys p')(Z:pd g f fc p p₁ t k dh itv fp St C D)(S:BH g fc [C] p' ρ' h'):CompI g f fc p p₁ fp St C D i ρ' acc ys ⟨p'.σ,p'.ad,h'⟩:=
 ⟨Z.W.frame _ _ _ B.st λb hb o e=>S.k b o (λz=>Z.sC.fp (au.mp z▸hb)) e,Z.BP▸S.a.I,B.x,B.S.over (Z.BP▸S.a.S) λb hb=>au.mp hb▸Z.sC.new,S.F,B.no,B.hD.at λo q=>S.k D o (λz=>Z.ne (au.mp z)) q,B.V,B.nD,B.nC⟩
theorem CompI.push{v:AV}{u:ai}(B:CompI g f fc p p₁ fp St C D i ρ acc ys p')(Z:pd g f fc p p₁ t k dh itv fp St C D)(hu:VR g.T p'.ad v u)(hs:cb D p'.h h')(hD:h'.PlainList D (ys.push u)):CompI g f fc p p₁ fp St C D i ρ (acc++[v]) (ys.push u) ⟨p'.σ,p'.ad,h'⟩:=
 have kD:vE [D] p'.h h':=vE.of_same hs
 ⟨Z.W.frame _ _ _ B.st λb hb o e=>kD b o (λz=>Z.sD.fp (au.mp z▸hb)) e,B.I.sameBut hs B.nD Z.sD.own.2.1 Z.sD.own.2.2,B.x,B.S.step kD λb hb=>au.mp hb▸Z.sD.new,
  B.F.Lj kD (λz=>Z.ne ((au.mp z).symm.trans Z.locals)) λx c q z=>Z.Xz x c q (au.mp z),B.no,hD,by rw[Je];exact B.V.append (.one hu),B.nD,B.nC⟩
structure CompEnd(g:Gl)(f:Fr)(p:Pt)(vs:List AV)(p':Pt)(D C:ax)(ys:Array ai):Prop where
 inv:Inv g f.fr p'
 stp:iM [] f.fr p p'
 acc:p'.h.PlainList D ys
 val:eJ g.T p'.ad vs ys.toList
 ns:∃m,p'.h.Ns C m
 d:p.h.get? D=none/\¬own p'.ad D/\g.base.get? D=none/\D∉f.fr
 c:p.h.get? C=none/\¬own p'.ad C/\g.base.get? C=none/\C∉f.fr
 ne:D≠C
inductive Ga(g:Gl)(f fc:Fr)(s:ak)(p p₁:Pt)(fp:List ax)(St:Nat->bt->Prop)(C D:ax)(n:Nat)(ρ:Loc)(W:Nat->List AV->Hp->Prop)(m:Nat)(s':ak):Prop where
 |mk (i:Nat) (p':Pt) (tk:Nat) (acc:List AV) (ys:Array ai) (hm:m=n+1 - i) (hi:i<=n) (e:s'=p'.on s tk) (I:CompI g f fc p p₁ fp St C D i ρ acc ys p') (w:W i acc p'.σ)
noncomputable abbrev vz(CM:Fn->List AV->MM AV)(k:Option (Nat×aF))(dh:List Item)(n:Nat)(cond elt:Mine.Internal.E)(ρ:Loc)(Q:List AV->Hp->Prop):Nat->List AV->Hp->Prop:=
 λi acc σ=>Wp (mP k n (Bh CM cond elt ρ) (dh.drop i) σ) (λws σ=>Q (acc++ws) σ) Cw
theorem Ee{Q:List AV->Hp->Prop}{R:pH->ak->Prop}{eltx iter:az}{ifs:List az}{pos:Pos}{elt cond:Mine.Internal.E}{n:Nat}(hA:f.A.handled=none)(Z:pd g f fc p p₁ t k dh itv fp St C D)(hfA:fc.A=f.A)(T:mB fc [C] t n ρ)(hl:ρ.length+n=fc.ns.length)
  (HT:pU g CM fc ifs cond) (HE:fq g CM fc elt eltx) (hq:∀vs σ,Q vs σ->vs.length<=lim) (hR:∀vs p' tk ys,Q vs p'.σ->CompEnd g f p vs p' D C ys->R (.ok .next) (p'.on s tk))
  (m:Nat) (s':ak) (B:Ga g f fc s p p₁ fp St C D dh.length (ρ++aM n none) (vz CM k dh n cond elt ρ Q) m s'):
  wpAny g.M f.A (pyNext itv) (λr s₁=>match r with
   |none=>R (.ok .next) s₁
   |some v=>wpAny g.M f.A (letOwnedTupleGo t itv v) (λ_ s₂=>vq g.M f.A eltx t ifs (.ref D) fc.env (notedBy g.M f.A fc.env λe s'=>R (.error e) s') (λs'=>∃m',m'<m/\Ga g f fc s p p₁ fp St C D dh.length (ρ++aM n none) (vz CM k dh n cond elt ρ Q) m' s') v s₂) (notedBy g.M f.A fc.env λe s'=>R (.error e) s') s₁) (notedBy g.M f.A fc.env λe s'=>R (.error e) s') s':=by
 obtain⟨is,rfl,T,hs⟩:=T
 obtain⟨i,p',tk,acc,ys,rfl,hi,rfl,B,w⟩:=B
 cases hd:dh.drop i with
 |nil=>
  unfold vz at w
  rw[hd] at w
  obtain rfl:=mv hd hi
  refine qP (α:=Unit) (wb w) λh1 w=>Z.W.done p' s tk _ _ B.st B.x B.I h1 B.no λh' tk' kp=>?_
  have w:Q (acc++[]) p'.σ:=w
  rw[bf] at w
  exact hR acc ⟨p'.σ,p'.ad,h'⟩ tk' ys w ⟨B.I.step kp λb hb=>⟨B.no b hb,Z.f3 hb⟩,B.S.step kp λb hb=>Z.f0 hb,B.hD.at λo q=>kp D o Z.sD.fp q,B.V,B.F.loc.elim λm q=>⟨m,(Z.locals▸q.1).at' λo q=>kp C o Z.sC.fp q⟩,⟨Z.sD.new,B.nD,Z.sD.own.2⟩,⟨Z.sC.new,B.nC,Z.sC.own.2⟩,Z.ne⟩
 |cons it rest=>
  unfold vz at w
  rw[hd] at w
  have dc:=drop_cons hd
  refine qP (α:=Unit) (wb w) λh1 w=>?_
  refine aR (Z.W.item i it p' s tk (λv s₂=>vq g.M f.A eltx t ifs (.ref D) fc.env (notedBy g.M f.A fc.env λe s'=>R (.error e) s') (λs'=>∃m',m'<dh.length+1 - i/\Ga g f fc s p p₁ fp St C D dh.length (ρ++aM is.length none) (vz CM k dh is.length cond elt ρ Q) m' s') v s₂) (notedBy g.M f.A fc.env λe s'=>R (.error e) s') dc.1 B.st B.x B.I h1 B.no λv h' tk' hv st' kp=>?_) (λrr s₁ hq=>?_) λ_ _ q=>q
  ·have B₁:=B.draw Z kp st'
   refine uX (p:=⟨p'.σ,p'.ad,h'⟩) hA T hv (wb w) B₁.F (Z.BP.symm▸B₁.I) λvs w el=>⟨_,hs vs el,λh'' tk'' S=>?_⟩
   have B₂:=B₁.stored Z S
   have lv:(ρ++vs.map some).length=fc.ns.length:=by rw[aw,aj,el,hl]
   have go:∀{p₃:Pt}{tk₃:Nat}{ys:Array ai}{acc:List AV},CompI g f fc p p₁ fp St C D (i+1) (ρ++vs.map some) acc ys p₃->Wp (mP k is.length (Bh CM cond elt ρ) rest p₃.σ) (λws σ=>Q (acc++ws) σ) Cw->
     ∃m',m'<dh.length+1 - i/\Ga g f fc s p p₁ fp St C D dh.length (ρ++aM is.length none) (vz CM k dh is.length cond elt ρ Q) m' (p₃.on s tk₃):=λ{p₃ tk₃ ys acc} B w=>
    ⟨_,FU dc.2.2,i+1,p₃,tk₃,acc,ys,rfl,dc.2.2,rfl,⟨B.st,B.I,B.x,B.S,B.F.back,B.no,B.hD,B.V,B.nD,B.nC⟩,by unfold vz;rw[dc.2.1];exact w⟩
   have w:=wb w
   show wpAny g.M f.A (tests ifs fc.env) _ _ _
   rw[<-hfA]
   refine D6 (p:=⟨p'.σ,p'.ad,h''⟩) HT ⟨B₂.F,Z.BP.symm▸B₂.I,lv⟩ ((wb w).mono (λv σ h=>wb h) λ_ _ h=>h) λb u p₃ tk₃ w a₃ e=>?_
   cases (e:b=u)
   have B₃:=B₂.on Z (Z.BP▸a₃)
   cases b with
   |false=>exact go B₃ (wb (m:=mP k is.length (Bh CM cond elt ρ) rest) (f:=λws=>pure ws) w)
   |true=>
    refine HE s p₃ tk₃ _ _ _ _ _ ⟨B₃.F,Z.BP.symm▸B₃.I,lv⟩ (wb (m:=ev CM elt (ρ++vs.map some)) (f:=λv=>pure (some v)) w) (λa u p₄ tk₄ w a₄ hu=>?_) .no
    have B₄:=B₃.on Z (Z.BP▸a₄)
    have w:Wp (mP k is.length (Bh CM cond elt ρ) rest p₄.σ) (λws σ=>Q (acc++a::ws) σ) Cw:=wb (f:=λws=>pure (a::ws)) w
    have hsz:ys.size<=sizeLine:=by
     rw[dn B₄.V]
     exact w.get λws σ q=>ah (ah (aw▸bb _ _) (hq _ _ q)) eK
    rw[hfA]
    refine wpAny_list_append_plain (hsz:=hsz) B₄.hD λh₅ hD₅ hs₅=>go (B₄.push Z hu hs₅ hD₅) (w.mono (λws σ q=>?_) λ_ _ h=>h)
    rw[ay];exact q
  ·obtain⟨v,rfl,hq⟩:=hq
   exact hq
end
theorem uL{iter:az}{env:Env}(h:fT iter=true):∀x,foldedSetIterable iter env x=pure x:=λx=>((NX iter).set h).2 env x
noncomputable def Ey(g:Gl)(CM:Fn->List AV->MM AV)(f:Fr)(it:It)(x t:az):Prop:=
 ∀(s:ak)(p:Pt) tk ρ Q E,mQ g f ρ p->Wp (Mg CM it ρ p.σ) Q Cw->wpAny g.M f.A (eval x f.env) (λxv s₁=>wpAny g.M f.A (pyIter xv) (Ready g f.A f.fr t s p Q) E s₁) E (p.on s tk)
structure qv(g:Gl)(CM:Fn->List AV->MM AV)(f:Fr)(ks:Ks)(xs:List Str)(scope:rz)(t eltx iter:az)(ifs:List az)(elt cond:Mine.Internal.E)(it:It):Prop where
 qo:f.env.scope.names=ks
 CS:ir ks f.ns xs scope.names
 kind:scope.kind=.function
 tgt:Ke xs t=true
 fT:fT iter=true
 src:Ey g CM f it iter t
 test:∀cl C,pU g CM (qA f scope cl C xs) ifs cond
 elt:∀cl C,fq g CM (qA f scope cl C xs) elt eltx
section
variable{g:Gl}{f:Fr}{X fr fp:List ax}{s:ak}{p p' p'' p₁:Pt}{tk:Nat}{ρ:Loc}{h':bt}{ks:Ks}{xs:List Str}{scope:rz}{cl:List (Str×ax)}{C D:ax}{CM:Fn->List AV->MM AV}{E:ai->ak->Prop}{t eltx iter:az}{ifs:List az}{elt cond:Mine.Internal.E}{it:It}{Q:List AV->Hp->Prop}{pos:Pos}
theorem Kt{k:Option (Nat×aF)}{dh:List Item}{itv:ai}{St:Nat->bt->Prop}{RR:ai->ax->pH->ak->Prop}(hA:f.A.handled=none)(P:qv g CM f ks xs scope t eltx iter ifs elt cond it)
  (c1:∀m c,cl.lookup m=some c->f.env.cells.lookup m=some c) (c2:∀m,scope.names.lookup m=some .free->(cl.lookup m).isSome=true) (a:mQ g f ρ p₁) (S₁:iM [] f.fr p p₁) (W:nI g f.A f.fr p₁.ad t k dh itv fp St) (h0:St 0 p₁.h) (hfp:∀b∈fp,tY g.base f.fr p.h p₁ b) (hfx:∀x c,f.env.cells.lookup x=some c->c∉fp)
  (h:Wp (mP k xs.length (Bh CM cond elt ρ) dh p₁.σ) Q Cw) (hq:∀vs σ,Q vs σ->vs.length<=lim) (hRR:∀D C vs p' tk ys,Q vs p'.σ->CompEnd g f p vs p' D C ys->RR (.ref D) C (.ok .next) (p'.on s tk)):
  wpAny g.M f.A (newList []) (λacc s₃=>wpAny g.M f.A (newFunctionEnv scope f.env.globals cl [] f.env.qual none .none (some f.env)) (λcenv s₄=>
   codeAny g.M f.A (.compStart (.ListComp eltx [⟨t,iter,ifs,0⟩] scope pos) 0 itv acc {cenv with scope:=relabel scope f.env}) (RR acc cenv.locals) s₄) E s₃) E (p₁.on s tk):=by
 refine dR (wpAny_newFunctionEnv P.CS.cell (λ_ hy=>nomatch hy) (λh₃ hns hsb=>?_) P.kind)
 have hns:h₃.Ns (p₁.h.objs.size+1) _:=jW p₁.h _▸hns
 have hsb:cb (p₁.h.objs.size+1) ((p₁.h.push {cls:=.type "list",dict:=none,data:=.seq ([]:List ai).toArray}).push {cls:=.type "dict",data:=.dict #[]}) h₃:=jW p₁.h _▸hsb
 have fC:p₁.h.get? (p₁.h.objs.size+1)=none:=cO (br _)
 have old:oY p₁.h h₃:=λb o e=>hsb.extBut b o (λz=>aX fC (z▸e)) (aA _ (aA _ e))
 have Z:pd g f (qA f scope cl (p₁.h.objs.size+1) xs) p p₁ t k dh itv fp St (p₁.h.objs.size+1) p₁.h.objs.size:=
  have sC:=IL.of a.F a.I S₁ hfp fC
  have sD:=IL.of a.F a.I S₁ hfp (cA p₁.h)
  ⟨W,sC,sD,(uA _).symm,hfp,rfl,λx c q=>hfx x c (c1 x c q),λx c q=>sD.cell x c (c1 x c q),rfl⟩
 have loop:=H7 (R:=RR (.ref p₁.h.objs.size) (p₁.h.objs.size+1)) (iter:=iter) (scope:=scope) (pos:=pos) _ (Ee (iter:=iter) (pos:=pos) (s:=s) hA Z rfl (zy P.tgt a.F.kind P.qo P.CS a.hl) (a.hl▸aw.symm) (P.test cl _) (P.elt cl _) hq λvs p' tk ys q Z=>hRR _ _ vs p' tk ys q Z) (dh.length+1)
  ⟨0,⟨p₁.σ,p₁.ad,h₃⟩,tk,[],#[],rfl,aV _,rfl,⟨W.frame _ _ _ h0 λb _ o e=>old b o e,a.I.keeps old,cM _,S₁.trans (.of_keeps old),C5 P.qo P.CS P.kind c1 c2 a.F a.hl old fC ⟨Z.sC.own.1,Z.sC.own.2.1⟩ ⟨_,hns⟩,λb hb=>(match hfp b hb with|⟨_,_,_,q,_,_⟩=>q),⟨0,hsb.extBut _ _ (uA _).symm (aA _ (aE _ rfl))⟩,.nil,Z.sD.own.1,Z.sC.own.1⟩,h⟩
 rw[show(p₁.h.push {cls:=.type "list",dict:=none,data:=.seq ([]:List ai).toArray}).objs.size=p₁.h.objs.size+1 from jW ..]
 exact codeAny_compStart_list loop (W.self _ _ _ (W.frame _ _ _ h0 λb _ o e=>old b o e) loop)
noncomputable abbrev Pt.adopt(p:Pt)(vs:List AV)(D:ax):Pt:=⟨p.σ++[.list vs],p.ad++[(D,D)],p.h⟩
theorem CompEnd.own{vs:List AV}{ys:Array ai}(Z:CompEnd g f p vs p' D C ys)(hv:vs.length<=lim):gH g [] f.fr p (p'.adopt vs D):=Z.acc.elim λn e=>
 ⟨Z.inv.Pg (λ_ _ e=>e) Z.d.2 Z.d.2 ⟨_,e⟩ ⟨_,e⟩ (o:=.list vs) ⟨ys,⟨_,e,rfl,_,rfl⟩,Z.val.app,hv,_,e,rfl⟩,Z.stp.ext.trans (bH _ _),Z.stp.kp,λb hb=>hb.app.elim (Z.stp.new b) λq=>q.elim (λq=>.inr (q▸Z.d.1)) λq=>.inr (q▸Z.d.1)⟩
theorem CompEnd.nC{vs:List AV}{ys:Array ai}(Z:CompEnd g f p vs p' D C ys):¬Mine.Internal.own (p'.ad++[(D,D)]) C:=λq=>q.app.elim Z.c.2.1 λq=>q.elim (λq=>Z.ne q.symm) λq=>Z.ne q.symm
theorem gH.sameBut{b:ax}(a:gH g X fr p p')(hs:cb b p'.h h')(n:¬own p'.ad b)(c:p.h.get? b=none)(nb:g.base.get? b=none)(nf:b∉fr):gH g X fr p ⟨p'.σ,p'.ad,h'⟩:=
 ⟨a.I.sameBut hs n nb nf,a.S.step (vE.of_same hs) λ_ q=>au.mp q▸c⟩
theorem AU{n:Nat}{use:Option (ai->Sem Unit)}{K:ai->ak->Prop}{Er:Nat->Hp->Prop}{Q:AV->Hp->Prop}(hA:f.A.handled=none)(P:qv g CM f ks xs scope t eltx iter ifs elt cond it)(a:mQ g f ρ p)(h:Wp (ev CM (.comp elt xs.length it cond) ρ p.σ) Q Er)
  (hQ:∀D C vs p' tk ys,vs.length<=lim/\Q (.ref p'.σ.length) (p'.σ++[.list vs])->CompEnd g f p vs p' D C ys->compPost g.M f.A E use K (.ref D) C (.ok .next) (p'.on s tk)):
  wpAny g.M f.A (comprehension (.ListComp eltx [⟨t,iter,ifs,0⟩] scope pos) scope f.env iter.pos (newList []) false (eval iter f.env) use) K E (p.on s tk):=
 match Dz (scope:=scope) (env:=f.env) λq hq hfree=>have z:=P.CS.free q hq hfree;(eD.mp z.2).elim λi e=>(a.F.M4 _ i e ((congrArg (fg q.1) P.qo).trans z.1)).elim λc w=>⟨c,w.1⟩ with
 |⟨cl,c1,c2,c3⟩=>wpAny_comprehension_free (gs:=[]) rfl (uL P.fT) c1 P.kind (λx hx hloc=>(P.CS.lc x hx hloc).2) (aR (P.src s p tk ρ _ E a (lS (wb h))) (λxv s₁ h₁=>aR h₁ (λitv s₂ h₂=>match h₂ with
  |⟨dh,p₁,tk,fp,St,q,e,A₁,W,h0,hfp⟩=>e▸Kt hA P c2 c3 (a.on A₁) A₁.S W h0 hfp (λx c q z=>match a.F.mc x c q,hfp c z with|⟨_,_,_,_,o,_,y,_⟩,⟨z,_,_,_,_,_⟩=>aX z y) ((lS (wb q)).mono (λvs σ h=>gw h And.intro) λ_ _ h=>h) (λ_ _ q=>q.1) hQ) λ_ _ e=>e) λ_ _ e=>e)
theorem Ts(hA:f.A.handled=none)(P:qv g CM f ks xs scope t eltx iter ifs elt cond it):fq g CM f (.comp elt xs.length it cond) (.ListComp eltx [⟨t,iter,ifs,0⟩] scope pos):=λs p tk ρ Q Er K E a h kk ke=>by
 rw[eval_ListComp]
 exact AU (n:=0) hA P a h λD C vs p' tk ys q Z=>Z.ns.elim λm hm=>⟨m,hm,λh'' hs=>kk _ _ ⟨p'.σ++[.list vs],p'.ad++[(D,D)],h''⟩ tk q.2 ((Z.own q.1).sameBut hs Z.nC Z.c.1 Z.c.2.2.1 Z.c.2.2.2) (lT Z.inv (D,D))⟩
theorem AB{y:Str}{i:Nat}{py spos:Pos}{K:Ha->ak->Prop}{Er:Nat->Hp->Prop}{Q:AV->Hp->Prop}(hA:f.A.handled=none)(P:qv g CM f ks xs scope t eltx iter ifs elt cond it)(hsw:swapsWith (.ListComp eltx [⟨t,iter,ifs,0⟩] scope pos) (some (.Name y py)) spos.line f.env=pure true)
  (a:mQ g f ρ p) (h:Wp (ev CM (.comp elt xs.length it cond) ρ p.σ) Q Er) (n:gR f (dq f.env) y i) (k:∀v p' tk,Q v p'.σ->gH g (dq f.env) f.fr p p'->ba g f (ρ.set i (some v)) p'->K .next (p'.on s tk)):
  wpAny g.M f.A (exec (.Assign [.Name y py] (.ListComp eltx [⟨t,iter,ifs,0⟩] scope pos) spos) f.env) K E (p.on s tk):=by
 rw[exec_Assign_Name_used _ _ _ _ hsw]
 refine ag (bP (ag ?_))
 show wpAny _ _ (do let _<-comprehension (.ListComp eltx [⟨t,iter,ifs,0⟩] scope pos) scope f.env iter.pos (newList []) false (eval iter f.env) (some (assign (.Name y py) f.env))) _ _ _
 refine ag (aR (AU (n:=0) (use:=some (assign (.Name y py) f.env)) (K:=λ_ s'=>K .next s') hA P a h λD C vs p' tk ys q Z=>?_) (λ_ s' hq=>ao (ao hq)) λ_ _ e=>e)
 have A₁:=Z.own q.1
 have hCX:C∉dq f.env:=tY.nX a.F Z.c.1
 show wpAny _ _ (assign (.Name y py) f.env (.ref D)) _ _ _
 refine iQ (ej (p:=p'.adopt vs D) (a.F.on A₁.S) A₁.I n.hi n.hk n.hX (lT Z.inv (D,D)) λh₂ tk₂ S=>Z.ns.elim λm hm=>⟨m,hm.at' λo e=>S.k C o hCX e,λh₃ hs=>?_⟩)
 exact k _ ⟨p'.σ++[.list vs],p'.ad++[(D,D)],h₃⟩ tk₂ q.2 ((A₁.of0.trans S.a).sameBut hs Z.nC Z.c.1 Z.c.2.2.1 Z.c.2.2.2) (S.F.Ku (vE.of_same hs) λb q=>au.mp q▸hCX)
end
structure jT(g:Gl)(K:cT)(mg mb:Str->Option ai):Prop where
 gl:g.base.Ns mainGlobals mg
 bl:g.base.Ns builtinsNs mb
 own:∀f,qK (.fn f)=true->nsIn K mainGlobals f.dW=some (some (.ref (g.T.uv f)))
 cls:∀c,nsIn K mainGlobals c.dW=some (some (.ref (g.T.bZ c)))
 bi:∀b:Bi,nsIn K mainGlobals b.dW=some none/\mb b.dW=some (XU b)
 xV:nsIn K mainGlobals (aa "range")=some none∧mb (aa "range")=some (.type "range")
 enu:nsIn K mainGlobals (aa "enumerate")=some none∧mb (aa "enumerate")=some (.type "enumerate")
theorem gN{v:az}{n:Str}{env:Env}{whole:Sem ai}(h:f9 v=true):attributeBase v n env whole=whole:=(NX v).base h n env whole
theorem oK{op:CmpOp}{r:az}(h:fT r=true):behindInMarks op r=false:=((NX r).set h).1 op
theorem jj{x:az}{rest:List az}{env:Env}(h:notStar x=true):starEach (x::rest) env=(false,eval x env)::starEach rest env:=(NX x).star h rest env
theorem M5{α:Type}{l:Nat}{f:aF->MM α}{σ:Hp}{o:aF}(e:σ[l]?=some o):ee l f σ=f o σ:=congrArg (λx=>match x with|some o=>f o σ|.none=>.bad) e
inductive UZ(v:AV)(σ:Hp)(Q:Bool->Hp->Prop):Prop where
 |mk (b:Bool) (e:cv v σ=.ok b σ) (q:Q b σ)
theorem Cc{v:AV}{σ:Hp}{Q:Bool->Hp->Prop}{X:Nat->Hp->Prop}(h:Wp (cv v σ) Q X):UZ v σ Q:=by
 cases v with
 |none=>exact⟨_,rfl,h⟩
 |bool b=>exact⟨_,rfl,h⟩
 |int i=>exact⟨_,rfl,h⟩
 |str x=>exact cB h λc q=>⟨_,if_pos c,q⟩
 |ref l=>exact cw h λo e h=>jf (P:=λo=>σ[l]?=some o->_) h (λvs q e=>⟨_,M5 e,q⟩) e
 |_=>exact h.elim
section
variable{g:Gl}{f:Fr}{s:ak}{p:Pt}{tk:Nat}{ρ:Loc}{CM:Fn->List AV->MM AV}{n:Nat}{envs:List Env}{K:cT}{d:Fn->bc}{mg mb:Str->Option ai}{e e' e'':Mine.Internal.E}{x x' x'':az}{pos:Pos}{Er:Nat->Hp->Prop}{E:ai->ak->Prop}
theorem PL(hx:fq g CM f e x)(hp:∀whole,isTrue x f.env whole=(do let v<-whole;standAt x.pos;holding [v] (truthy v))):gj g CM f e x:=λs p tk ρ Q Er K E a h kk ke=>
 wpAny_isTrue_value (hx s p tk ρ _ _ _ _ a h (λv u p₁ tk₁ h A₁ hu=>ji A₁.I hu h λb tk' q=>kk b b p₁ tk' q A₁ rfl) ke) (hp _)
theorem two{R:AV->AV->Hp->Prop}{Kk:ai->ai->ak->Prop}(hx:fq g CM f e x)(hy:fq g CM f e' x')(a:mQ g f ρ p)(h:Wp (ev CM e ρ p.σ) (λv σ=>Wp (ev CM e' ρ σ) (R v) Er) Er)
  (k:∀v w u z p' tk,R v w p'.σ->gH g [] f.fr p p'->VR g.T p'.ad v u->VR g.T p'.ad w z->Kk u z (p'.on s tk)) (ke:EC g [] f.fr (Ji f.L) s p Er E):
  wpAny g.M f.A (eval x f.env) (λu s₁=>wpAny g.M f.A (eval x' f.env) (λz s₂=>Kk u z s₂) E s₁) E (p.on s tk):=
 hx s p tk ρ _ _ _ _ a h (λv u p₁ tk₁ h A₁ hu=>hy s p₁ tk₁ ρ _ _ _ _ (a.on A₁) h (λw z p₂ tk₂ q A₂ hz=>k v w u z p₂ tk₂ q (A₁.trans A₂) (hu.mono A₂.S.ext) hz) (ke.on A₁.S)) ke
theorem Tg{k:Nat}:fq g CM f .none (.Constant .none k pos):=λs p tk ρ Q Er K E a h kk ke=>ao (kk .none .none p tk h (.refl a.I) rfl)
theorem TG{b:Bool}{k:Nat}:fq g CM f (.bool b) (.Constant (.bool b) k pos):=λs p tk ρ Q Er K E a h kk ke=>ao (kk (.bool b) (.bool b) p tk h (.refl a.I) rfl)
theorem XB{i:Int}{k:Nat}:fq g CM f (.int i) (.Constant (.int i) k pos):=λs p tk ρ Q Er K E a h kk ke=>wpAny_Constant_int (kk (.int i) _ p _ h (.refl a.I) ⟨_,rfl⟩)
theorem Vx{t:S}{k:Nat}:fq g CM f (.str t) (.Constant (.str (strOf t)) k pos):=λs p tk ρ Q Er K E a h kk ke=>kA (kk (.str t) _ p _ h (.refl a.I) ⟨_,rfl⟩)
theorem VO{i:Nat}{y:Str}(hi:bg f.ns y=some i)(hk:f.env.kindOf y=some .local∨f.env.kindOf y=some .cell)(hd:(y==aa "__debug__")=false):fq g CM f (.loc i) (.Name y pos):=λs p tk ρ Q Er K E a h kk ke=>
 jU h λo e h=>K7 (P:=λo=>ρ[i]?=some o->_) h (λv q e=>uB (pY a.F hi hk e λu hv=>kk v u p tk q (.refl a.I) hv) hd) e
theorem jT.at(N:jT g K mg mb){fr:List ax}(I:Inv g fr p):p.h.Ns mainGlobals mg:=N.gl.keeps λb o e=>I.stays b o e
theorem jT.bAt(N:jT g K mg mb)(a:mQ g f ρ p):p.h.Ns f.env.builtins mb:=a.F.bi▸N.bl.keeps λb o e=>a.I.stays b o e
theorem NU{y:Str}{v:ai}{Kk:ai→ak→Prop}(C:Cx g K d)(N:jT g K mg mb)(a:mQ g f ρ p)(h:nsIn K mainGlobals y=some none∧mb y=some v)(hk:f.env.kindOf y=some .globalImplicit)(hd:(y==aa "__debug__")=false)(k:Kk v (p.on s tk)):wpAny g.M f.A (eval (.Name y pos) f.env) Kk E (p.on s tk):=
 rE a.F.kind hk (loadGlobal_builtin (a.F.glob▸N.at a.I) (mg_none_of (C.at a.I) (N.at a.I) h.1) (N.bAt a) h.2 k) hd
theorem QP{y:Str}{v:ai}{Kk:ai→ak→Prop}(C:Cx g K d)(N:jT g K mg mb)(a:mQ g f ρ p)(h:nsIn K mainGlobals y=some (some v))(hk:f.env.kindOf y=some .globalImplicit)(hd:(y==aa "__debug__")=false)(k:Kk v (p.on s tk)):wpAny g.M f.A (eval (.Name y pos) f.env) Kk E (p.on s tk):=
 rE a.F.kind hk (loadGlobal_global (a.F.glob▸N.at a.I) (mg_of (C.at a.I) (N.at a.I) h) k) hd
theorem pR{v:AV}{y:Str}{Kk:ai→ak→Prop}(C:Cx g K d)(N:jT g K mg mb)(a:mQ g f ρ p)(hg:vO v=some y)(ht:qK v=true)(hk:f.env.kindOf y=some .globalImplicit)(hd:(y==aa "__debug__")=false)
  (k:∀u,VR g.T p.ad v u->Kk u (p.on s tk)):wpAny g.M f.A (eval (.Name y pos) f.env) Kk E (p.on s tk):=by
 cases v with
 |fn c=>exact QP C N a (ae hg▸N.own c ht) hk hd (k _ rfl)
 |cls c=>exact QP C N a (ae hg▸N.cls c) hk hd (k _ rfl)
 |bi c=>exact NU C N a (ae hg▸N.bi c) hk hd (k _ rfl)
 |_=>exact aG hg
theorem T3{v:AV}{y:Str}(C:Cx g K d)(N:jT g K mg mb)(hg:vO v=some y)(ht:qK v=true)(hk:f.env.kindOf y=some .globalImplicit)(hd:(y==aa "__debug__")=false):fq g CM f (.glob v) (.Name y pos):=λs p tk ρ Q Er K E a h kk ke=>
 pR C N a hg ht hk hd λu hu=>kk v u p tk h (.refl a.I) hu
theorem xH{v:az}{y:Str}{Kk:ai->ak->Prop}{s:ak}{A:a7}{env:Env}(hb:f9 v=true)(h:wpAny g.M A (eval v env) (λo s₁=>wpAny g.M A (getAttr o y true) Kk E s₁) E s):wpAny g.M A (eval (.Attribute v y pos) env) Kk E s:=by
 rw[arm_eval_Attribute,gN hb]
 exact ag (aR h (λo s₁ h₁=>ag (bP (ag (aL (aR h₁ (λr s₂ h₂=>ag (wpAny_letTemporaryGo (ao h₂))) λ_ _ y=>y))))) λ_ _ y=>y)
theorem Ud{y:At}(C:Cx g K d)(hb:f9 x=true)(hx:fq g CM f e x):fq g CM f (.attr e y) (.Attribute x y.str pos):=λs p tk ρ Q Er K E a h kk ke=>
 xH hb (hx s p tk ρ _ _ _ _ a (wb h) (λv u p₁ tk₁ h A₁ hu=>vJ (C.at A₁.I) A₁.I C.cls hu h λz y tk' q hy=>kk z y p₁ tk' q A₁ hy) ke)
theorem Wv(hns:kQ x'=true)(hx:fq g CM f e x)(hy:fq g CM f e' x'):fq g CM f (.sub e e') (.Subscript x x' pos):=λs p tk ρ Q Er K E a h kk ke=>
 Subscript_ (two hx hy a ((wb h).mono (λ_ _ h=>wb h) λ_ _ h=>h) (λv w u z p' tk' h A' hu hz=>DH A'.I hns hu hz h λz y tk' q hy=>kk z y p' tk' q A' hy) ke)
theorem X1(hx:fq g CM f e x):fq g CM f (.neg e) (.UnaryOp .USub x pos):=λs p tk ρ Q Er K E a h kk ke=>
 wpAny_UnaryOp (hx s p tk ρ _ _ _ _ a (wb h) (λv u p₁ tk₁ h A₁ hu=>fA (P:=λv=>VR g.T p₁.ad v u->_) h (λi q hu=>dD hu λt=>PyProof.Rows.neg_int (kk (.int (-i)) _ p₁ _ q A₁ ⟨_,rfl⟩)) hu) ke)
theorem Xu(hx:fq g CM f e x):fq g CM f (.not e) (.UnaryOp .Not x pos):=λs p tk ρ Q Er K E a h kk ke=>
 wpAny_UnaryOp (hx s p tk ρ _ _ _ _ a (wb h) (λv u p₁ tk₁ h A₁ hu=>not_of (ji A₁.I hu (wb h) λb tk' q=>kk (.bool (!b)) _ p₁ tk' q A₁ rfl)) ke)
theorem WL{op:Op}(hx:fq g CM f e x)(hy:fq g CM f e' x'):fq g CM f (.bin op e e') (.BinOp x (zf op) x' pos):=λs p tk ρ Q Er K E a h kk ke=>
 wpAny_BinOp (two hx hy a ((wb h).mono (λ_ _ h=>wb h) λ_ _ h=>h) (λv w u z p' tk' h A' hu hz=>Ig A'.I hu hz h (kk.on A'.S)) ke)
theorem UW:fq g CM f .dict (.Dict [] [] pos):=λs p tk ρ Q Er K E a h kk ke=>by
 show wpAny _ _ (do standAt pos;dictDisplay []) _ _ _
 exact ag (bP (De a.I λv u p' tk' q A' hu=>kk v u p' tk' (eqQ h q) A' hu))
theorem Wh{α:Type}{m m':MM α}{σ:Hp}{Q:α->Hp->Prop}{X:Nat->Hp->Prop}(h:Wp ((if true=true then m else m') σ) Q X):Wp (m σ) Q X:=h
theorem kP(hA:rv n f.A envs f.fr):f.A.units+64<cLine:=aB (eZ (bb _ _) (by decide)) hA.units
theorem WM{op:oH}(C:Cx g K d)(hA:rv n f.A envs f.fr)(hs:fT x'=true)(hx:fq g CM f e x)(hy:fq g CM f e' x'):fq g CM f (.cmp op e e') (.Compare x [k6 op] [x'] pos):=λs p tk ρ Q Er K E a h kk ke=>
 wpAny_Compare1 (two hx hy a ((wb h).mono (λ_ _ h=>wb h) λ_ _ h=>h) (λv w u z p' tk' h A' hu hz=>jm A'.I C.sys (kP hA) hu hz (wb h) λr tk q=>kk (.bool r) _ p' tk q A' rfl) ke) (oK hs)
theorem XP{op:oH}(C:Cx g K d)(hA:rv n f.A envs f.fr)(hs:fT x'=true)(hx:fq g CM f e x)(hy:fq g CM f e' x'):gj g CM f (.cmp op e e') (.Compare x [k6 op] [x'] pos):=λs p tk ρ Q Er K E a h kk ke=>
 wpAny_isTrue_Compare1 (two hx hy a ((wb h).mono (λ_ _ h=>wb h) λ_ _ h=>h) (λv w u z p' tk' h A' hu hz=>jm A'.I C.sys (kP hA) hu hz (wb h) λr tk q=>eR (kk r r p' tk q A' rfl)) ke) (oK hs)
theorem ifT{s:ak}{b:Bool}{P Q:ak->Prop}(k1:b=true->P s)(k2:b=false->Q s):if b=true then P s else Q s:=by
 cases b with
 |true=>exact k1 rfl
 |false=>exact k2 rfl
theorem Uk{o1 o2:oH}(C:Cx g K d)(hA:rv n f.A envs f.fr)(hs:fT x''=true)(hx:fq g CM f e x)(hy:fq g CM f e' x')(hz:fq g CM f e'' x''):fq g CM f (.r6 e o1 e' o2 e'') (.Compare x [k6 o1,k6 o2] [x',x''] pos):=λs p tk ρ Q Er K E a h kk ke=>
 Compare_chain (hx s p tk ρ _ _ _ _ a (wb h) (λv u p₁ tk₁ h A₁ hu=>chain_link (hy s p₁ tk₁ ρ _ _ _ _ (a.on A₁) (wb h) (λw z p₂ tk₂ h A₂ hz'=>jm A₂.I C.sys (kP hA) (hu.mono A₂.S.ext) hz' (wb h) λr tk h=>eR (by
  have A₁₂:=A₁.trans A₂
  cases r with
  |false=>exact kk (.bool false) _ p₂ tk h A₁₂ rfl
  |true=>exact chain_last (hz s p₂ tk ρ _ _ _ _ (a.on A₁₂) (wb (Wh h)) (λv₃ u₃ p₃ tk₃ h A₃ hu₃=>jm A₃.I C.sys (kP hA) (hz'.mono A₃.S.ext) hu₃ (wb h) λr tk q=>kk (.bool r) _ p₃ tk q (A₁₂.trans A₃) rfl) (ke.on A₁₂.S)))) (ke.on A₁.S))) ke) (oK hs)
theorem Sy{o1 o2:oH}(C:Cx g K d)(hA:rv n f.A envs f.fr)(hs:fT x''=true)(hx:fq g CM f e x)(hy:fq g CM f e' x')(hz:fq g CM f e'' x''):gj g CM f (.r6 e o1 e' o2 e'') (.Compare x [k6 o1,k6 o2] [x',x''] pos):=λs p tk ρ Q Er K E a h kk ke=>
 isTrue_chain (hx s p tk ρ _ _ _ _ a (wb h) (λv u p₁ tk₁ h A₁ hu=>test_link (hy s p₁ tk₁ ρ _ _ _ _ (a.on A₁) (wb h) (λw z p₂ tk₂ h A₂ hz'=>jm A₂.I C.sys (kP hA) (hu.mono A₂.S.ext) hz' (wb h) λr tk h=>eR (by
  have A₁₂:=A₁.trans A₂
  cases r with
  |false=>exact kk false _ p₂ tk h A₁₂ rfl
  |true=>exact test_last (hz s p₂ tk ρ _ _ _ _ (a.on A₁₂) (wb (Wh h)) (λv₃ u₃ p₃ tk₃ h A₃ hu₃=>jm A₃.I C.sys (kP hA) (hz'.mono A₃.S.ext) hu₃ (wb h) λr tk q=>eR (kk r r p₃ tk q (A₁₂.trans A₃) rfl)) (ke.on A₁₂.S)))) (ke.on A₁.S))) ke) (oK hs)
theorem Xl(hx:gj g CM f e x):gj g CM f (.not e) (.UnaryOp .Not x pos):=λs p tk ρ Q Er K E a h kk ke=>
 isTrue_not (hx s p tk ρ _ _ _ _ a ((wb h).mono (λ_ _ h=>wb h) λ_ _ h=>h) (λb u p₁ tk₁ q A₁ e=>by cases (e:b=u);exact kk (!b) _ p₁ tk₁ q A₁ rfl) ke)
theorem V8(hc:gj g CM f e x)(ht:fq g CM f e' x')(he:fq g CM f e'' x''):fq g CM f (.ite e e' e'') (.IfExp x x' x'' pos):=λs p tk ρ Q Er K E a h kk ke=>
 wpAny_IfExp (hc s p tk ρ _ _ _ _ a ((wb h).mono (λ_ _ h=>wb h) λ_ _ h=>h) (λb u p₁ tk₁ h A₁ e=>by
  cases (e:b=u)
  cases b with
  |true=>exact ht s p₁ tk₁ ρ _ _ _ _ (a.on A₁) h (kk.on A₁.S) (ke.on A₁.S)
  |false=>exact he s p₁ tk₁ ρ _ _ _ _ (a.on A₁) h (kk.on A₁.S) (ke.on A₁.S)) ke)
theorem Wj(hc:gj g CM f e x)(ht:gj g CM f e' x')(he:gj g CM f e'' x''):gj g CM f (.ite e e' e'') (.IfExp x x' x'' pos):=λs p tk ρ Q Er K E a h kk ke=>
 isTrue_IfExp (hc s p tk ρ _ _ _ _ a ((wb h).mono (λ_ _ h=>wb h) λ_ _ h=>h) (λb u p₁ tk₁ h A₁ e=>by
  cases (e:b=u)
  cases b with
  |true=>exact ht s p₁ tk₁ ρ _ _ _ _ (a.on A₁) h (kk.on A₁.S) (ke.on A₁.S)
  |false=>exact he s p₁ tk₁ ρ _ _ _ _ (a.on A₁) h (kk.on A₁.S) (ke.on A₁.S)) ke)
inductive NV(g:Gl)(CM:Fn->List AV->MM AV)(f:Fr):Mine.Internal.E->Option az->Prop where
 |no:NV g CM f .none none
 |is (e:Mine.Internal.E) (x:az) (hx:fq g CM f e x):NV g CM f e (some x)
theorem yI{o:Option az}{Q:AV->Hp->Prop}{Kk:ai->ak->Prop}(H:NV g CM f e o)(a:mQ g f ρ p)(h:Wp (ev CM e ρ p.σ) Q Er)(kk:KC g [] f.fr (VV g) s p Q Kk)(ke:EC g [] f.fr (Ji f.L) s p Er E):wpAny g.M f.A (valueOrNone (evalOpt o f.env)) Kk E (p.on s tk):=by
 cases H with
 |no=>exact ao (kk .none .none p tk h (.refl a.I) rfl)
 |is _ x hx=>exact hx s p tk ρ Q Er Kk E a h kk ke
theorem Av{lo hi st:Mine.Internal.E}{l u t:Option az}{Q:AV->AV->AV->Hp->Prop}{R:ai->ak->Prop}(h1:NV g CM f lo l)(h2:NV g CM f hi u)(h3:NV g CM f st t)(a:mQ g f ρ p)(h:Wp (ev CM lo ρ p.σ) (λx σ=>Wp (ev CM hi ρ σ) (λy σ=>Wp (ev CM st ρ σ) (Q x y) Er) Er) Er)
  (k:∀v₂ v₃ v₄ u₂ u₃ u₄ p' tk' sl,Q v₂ v₃ v₄ p'.σ->gH g [] f.fr p p'->VR g.T p'.ad v₂ u₂->VR g.T p'.ad v₃ u₃->VR g.T p'.ad v₄ u₄->p'.h.IsSliceOf sl u₂ u₃ u₄->R (.ref sl) (p'.on s tk')) (ke:EC g [] f.fr (Ji f.L) s p Er E):
  wpAny g.M f.A (do
   let l<-valueOrNone (evalOpt l f.env)
   let u<-holding [l] (valueOrNone (evalOpt u f.env))
   let s<-holding [l,u] (valueOrNone (evalOpt t f.env))
   newFields "slice" [l,u,s]) R E (p.on s tk):=by
 refine ag (yI h1 a h (λv₂ u₂ p₂ tk₂ h A₂ hu₂=>ag (aL (yI h2 (a.on A₂) h (λv₃ u₃ p₃ tk₃ h A₃ hu₃=>ag (aL (yI h3 ((a.on A₂).on A₃) h (λv₄ u₄ p₄ tk₄ h A₄ hu₄=>?_) ((ke.on A₂.S).on A₃.S)))) (ke.on A₂.S)))) ke)
 unfold newFields
 refine dR ?_
 have A₅:gH g [] f.fr p₄ ⟨p₄.σ,p₄.ad,_⟩:=gH.keeps A₄.I (oY.push p₄.h {cls:=.type "slice",dict:=none,data:=.fields [u₂,u₃,u₄].toArray})
 exact k _ _ _ _ _ _ ⟨p₄.σ,p₄.ad,_⟩ tk₄ _ h ((A₂.trans A₃).trans (A₄.trans A₅)) (hu₂.mono (A₃.S.ext.trans A₄.S.ext)) (hu₃.mono A₄.S.ext) hu₄ (Heap.IsSliceOf.new _ _ _ _)
theorem J0{l u t:Option az}{q:Pos}{sl:ax}(u':ai):∃ops,subscripted (.Slice l u t q) false u' (.ref sl)=operate ops (getItem u' (.ref sl)):=by
 cases t with
 |none=>exact⟨_,rfl⟩
 |some x=>exact⟨_,rfl⟩
theorem P0{lo hi st:Mine.Internal.E}{l u t:Option az}{q:Pos}(hx:fq g CM f e x)(h1:NV g CM f lo l)(h2:NV g CM f hi u)(h3:NV g CM f st t):fq g CM f (.slice e lo hi st) (.Subscript x (.Slice l u t q) pos):=λs p tk ρ Q Er K E a h kk ke=>
 Subscript_ (hx s p tk ρ _ _ _ _ a (wb h) (λv o p₁ tk₁ h A₁ ho=>Av h1 h2 h3 (a.on A₁) ((wb h).mono (λ_ _ h=>(wb h).mono (λ_ _ h=>wb h) λ_ _ z=>z) λ_ _ z=>z) (λv₂ v₃ v₄ u₂ u₃ u₄ p' tk' sl h A ha hb hc hs=>HY A.I (ho.mono A.S.ext) ha hb hc hs J0 h ((kk.on A₁.S).on A.S)) (ke.on A₁.S)) ke)
end
end Mine.Internal
set_option backward.match.sparseCases true
namespace Mine.Internal
open PySem PySem.W PySem.Calls PyProof.Rows
class inductive g8(g:Gl)(CM:Fn->List AV->MM AV)(f:Fr):Es->List az->Prop where
 |nil:g8 g CM f .nil []
 |cons (e:Mine.Internal.E) (es:Es) (x:az) (xs:List az) (st:notStar x=true) (hx:fq g CM f e x) (ht:gj g CM f e x) (r:g8 g CM f es xs):g8 g CM f (.cons e es) (x::xs)
structure mj(g:Gl):Prop where
 thrown:∀{A:a7}{envs:List Env}{fr:List ax}{n:Nat}{s:ak}{p:Pt}{tk:Nat}{a b:S}{us:List ai}{Q:AV->Hp->Prop}{K:ai->ak->Prop}{E:ai->ak->Prop},rv n A envs fr->Inv g fr p->eJ g.T p.ad [.str a,.str b] us->Q (.ref p.σ.length) (p.σ++[.inst .thrown [.str a,.str b,.int 0,.none,.none]])->KC g [] fr (VV g) s p Q K->
  wpAny g.M A (call (.ref (g.T.bZ .thrown)) us) K E (p.on s tk)
 leftOut:∀{A:a7}{envs:List Env}{fr:List ax}{n:Nat}{s:ak}{p:Pt}{tk:Nat}{a:S}{us:List ai}{Q:AV->Hp->Prop}{K:ai->ak->Prop}{E:ai->ak->Prop},rv n A envs fr->Inv g fr p->eJ g.T p.ad [.str a] us->Q (.ref p.σ.length) (p.σ++[.inst .leftOut [.str a]])->KC g [] fr (VV g) s p Q K->
  wpAny g.M A (call (.ref (g.T.bZ .leftOut)) us) K E (p.on s tk)
 dict:∀{A:a7}{envs:List Env}{fr:List ax}{n:Nat}{s:ak}{p:Pt}{tk:Nat}{l:Nat}{vs:List AV}{ps:List (AV×AV)}{u:ai}{Q:AV->Hp->Prop}{K:ai->ak->Prop}{E:ai->ak->Prop},rv n A envs fr->Inv g fr p->VR g.T p.ad (.ref l) u->p.σ[l]?=some (.list vs)->pairsOf p.σ vs=some ps->
  Q (.ref p.σ.length) (p.σ++[.dict (ps.foldl (λd p=>dput d p.1 p.2) [])])→KC g [] fr (VV g) s p Q K→wpAny g.M A (call (.type "dict") [u]) K E (p.on s tk)
theorem sG{g:az}{as:List az}{pos:Pos}{env:Env}(h:notAttr g=true):eval (.Call g as [] pos) env=(do callWith pos (<-eval g env) [] (backTo pos (starEach as env)) (backToKw pos (keywordEach [] env))):=(NX g).call h as pos env
section
variable{g:Gl}{f:Fr}{s:ak}{p:Pt}{tk:Nat}{ρ:Loc}{CM:Fn->List AV->MM AV}{n:Nat}{envs:List Env}{K:cT}{d:Fn->bc}{e:Mine.Internal.E}{es:Es}{x:az}{xs:List az}{pos:Pos}{Er:Nat->Hp->Prop}{E:ai->ak->Prop}
theorem uF(H:g8 g CM f es xs):(backTo pos (starEach xs f.env)).any (·.1)=false:=by
 induction H with
 |nil=>rfl
 |cons e es x xs st _ _ _ ih=>
  rw[jj st]
  show(false||(backTo pos (starEach xs f.env)).any (·.1))=false
  rw[ih];rfl
theorem vk(H:g8 g CM f es xs):∀(s:ak)(p:Pt) tk ρ pos Q Er K E,mQ g f ρ p->Wp (GA CM es ρ p.σ) Q Er->KC g [] f.fr (VVs g) s p Q K->EC g [] f.fr (Ji f.L) s p Er E->wpAny g.M f.A (spliced (backTo pos (starEach xs f.env))) K E (p.on s tk):=by
 induction H with
 |nil=>exact λs p tk ρ pos Q Er K E a h kk ke=>spliced_none (kk [] [] p tk h (.refl a.I) .nil)
 |cons e es x xs st hx _ _ ih=>exact λs p tk ρ pos Q Er K E a h kk ke=>spliced_more (hx s p tk ρ _ _ _ _ a (wb h) (λv u p₁ tk₁ h A₁ hu=>ih s p₁ tk₁ ρ pos _ _ _ _ (a.on A₁) (wb h) (λvs us p₂ tk₂ q A₂ V=>kk (v::vs) (u::us) p₂ tk₂ q (A₁.trans A₂) (.cons (hu.mono A₂.S.ext) V)) (ke.on A₁.S)) ke) (jj st)
theorem Tz(H:g8 g CM f es xs):fq g CM f (.list es) (.List xs pos):=λs p tk ρ Q Er K E a h kk ke=>
 List_ (vk H s p tk ρ pos _ _ _ _ a (wb h) (λvs us p₁ tk₁ h A₁ V=>y0 A₁.I V h (kk.on A₁.S)) ke)
theorem Xs{k:Nat}(H:g8 g CM f es xs):fq g CM f (.tup es) (.Tuple xs k pos):=λs p tk ρ Q Er K E a h kk ke=>
 Tuple_ (vk H s p tk ρ pos _ _ _ _ a (wb h) (λvs us p₁ tk₁ h A₁ V=>yZ A₁.I V h (kk.on A₁.S)) ke)
noncomputable def RE(g:Gl)(f:Fr)(op:BoolOp)(m:Loc->MM AV)(xs:List az):Prop:=
 ∀(s:ak)(p:Pt) tk ρ pos Q Er K E,mQ g f ρ p->Wp (m ρ p.σ) Q Er->KC g [] f.fr (VV g) s p Q K->EC g [] f.fr (Ji f.L) s p Er E->wpAny g.M f.A (boolOp pos op (evalEach xs f.env)) K E (p.on s tk)
noncomputable def Q0(g:Gl)(f:Fr)(op:BoolOp)(m:Loc->MM AV)(xs:List az):Prop:=
 ∀(s:ak)(p:Pt) tk ρ Q Er K E,mQ g f ρ p->Wp (m ρ p.σ) (λv σ=>Wp (cv v σ) Q Er) Er->KC g [] f.fr VE s p Q K->EC g [] f.fr (Ji f.L) s p Er E->wpAny g.M f.A (allTrue op xs f.env) K E (p.on s tk)
theorem Ii{x x':az}{xs:List az}{A:a7}{env:Env}{s:ak}{Q:ai->ak->Prop}(h:wpAny g.M A (eval x env) (λv s₁=>wpAny g.M A (truthy v) (λt s₂=>cond t (wpAny g.M A (boolOp pos .And (evalEach (x'::xs) env)) Q E s₂) (Q v s₂)) E s₁) E s):wpAny g.M A (boolOp pos .And (evalEach (x::x'::xs) env)) Q E s:=by
 show wpAny _ A (do
  let v<-eval x env
  standAt pos
  let t<-holding [v] (truthy v)
  match BoolOp.And,t with
  |.And,false|.Or,true=>pure v
  |_,_=>boolOp pos .And (evalEach (x'::xs) env)) _ _ s
 refine ag (aR h (λv s₁ h₁=>ag (bP (ag (aL (aR h₁ (λt s₂ h₂=>?_) λ_ _ q=>q))))) λ_ _ q=>q)
 cases t with
 |false=>exact ao h₂
 |true=>exact h₂
theorem Kh{x x':az}{xs:List az}{A:a7}{env:Env}{s:ak}{Q:ai->ak->Prop}(h:wpAny g.M A (eval x env) (λv s₁=>wpAny g.M A (truthy v) (λt s₂=>cond t (Q v s₂) (wpAny g.M A (boolOp pos .Or (evalEach (x'::xs) env)) Q E s₂)) E s₁) E s):wpAny g.M A (boolOp pos .Or (evalEach (x::x'::xs) env)) Q E s:=by
 show wpAny _ A (do
  let v<-eval x env
  standAt pos
  let t<-holding [v] (truthy v)
  match BoolOp.Or,t with
  |.And,false|.Or,true=>pure v
  |_,_=>boolOp pos .Or (evalEach (x'::xs) env)) _ _ s
 refine ag (aR h (λv s₁ h₁=>ag (bP (ag (aL (aR h₁ (λt s₂ h₂=>?_) λ_ _ q=>q))))) λ_ _ q=>q)
 cases t with
 |false=>exact h₂
 |true=>exact ao h₂
theorem HP(H:g8 g CM f es xs):RE g f .And (Ck CM es) xs:=by
 induction H with
 |nil=>exact λs p tk ρ pos Q Er K E a h kk ke=>bA h
 |cons e es x xs st hx ht r ih=>
  cases r with
  |nil=>exact λs p tk ρ pos Q Er K E a h kk ke=>hx s p tk ρ Q Er K E a (wb h) kk ke
  |cons e' es' x' xs'=>exact λs p tk ρ pos Q Er K E a h kk ke=>Ii (hx s p tk ρ _ _ _ _ a (wb h) (λv u p₁ tk₁ h A₁ hu=>ji A₁.I hu (wb h) λb tk' h=>(by
    cases b with
    |false=>exact kk v u p₁ tk' h A₁ hu
    |true=>exact ih s p₁ tk' ρ pos _ _ _ _ (a.on A₁) h (kk.on A₁.S) (ke.on A₁.S))) ke)
theorem LA(H:g8 g CM f es xs):RE g f .Or (Lg CM es) xs:=by
 induction H with
 |nil=>exact λs p tk ρ pos Q Er K E a h kk ke=>bA h
 |cons e es x xs st hx ht r ih=>
  cases r with
  |nil=>exact λs p tk ρ pos Q Er K E a h kk ke=>hx s p tk ρ Q Er K E a (wb h) kk ke
  |cons e' es' x' xs'=>exact λs p tk ρ pos Q Er K E a h kk ke=>Kh (hx s p tk ρ _ _ _ _ a (wb h) (λv u p₁ tk₁ h A₁ hu=>ji A₁.I hu (wb h) λb tk' h=>(by
    cases b with
    |true=>exact kk v u p₁ tk' h A₁ hu
    |false=>exact ih s p₁ tk' ρ pos _ _ _ _ (a.on A₁) h (kk.on A₁.S) (ke.on A₁.S))) ke)
theorem PM{v:AV}{σ:Hp}{m:MM AV}{Q:Bool->Hp->Prop}(h:Wp ((cv v>>=λb=>if b=true then m else pure v) σ) (λv σ=>Wp (cv v σ) Q Er) Er):Wp (cv v σ) (λb σ=>cond b (Wp (m σ) (λv σ=>Wp (cv v σ) Q Er) Er) (Q false σ)) Er:=match Cc (wb h) with
 |⟨true,e,q⟩=>by rw[e];exact q
 |⟨false,e,q⟩=>by
  have q:Wp (cv v σ) Q Er:=q
  rw[e] at q⊢;exact q
theorem R9{v:AV}{σ:Hp}{m:MM AV}{Q:Bool->Hp->Prop}(h:Wp ((cv v>>=λb=>if b=true then pure v else m) σ) (λv σ=>Wp (cv v σ) Q Er) Er):Wp (cv v σ) (λb σ=>cond b (Q true σ) (Wp (m σ) (λv σ=>Wp (cv v σ) Q Er) Er)) Er:=match Cc (wb h) with
 |⟨false,e,q⟩=>by rw[e];exact q
 |⟨true,e,q⟩=>by
  have q:Wp (cv v σ) Q Er:=q
  rw[e] at q⊢;exact q
theorem Lp(H:g8 g CM f es xs):Q0 g f .And (Ck CM es) xs:=by
 induction H with
 |nil=>exact λs p tk ρ Q Er K E a h kk ke=>bA h
 |cons e es x xs st hx ht r ih=>
  cases r with
  |nil=>exact λs p tk ρ Q Er K E a h kk ke=>Jt (ht s p tk ρ Q Er _ _ a (wb (m:=ev CM e ρ) (f:=λv=>pure v) h) (λb u p₁ tk₁ q A₁ e=>(by
    cases (e:b=u)
    cases b with
    |false=>exact kk false _ p₁ tk₁ q A₁ rfl
    |true=>exact wpAny_allTrue_And_nil (kk true _ p₁ tk₁ q A₁ rfl))) ke)
  |cons e' es' x' xs'=>exact λs p tk ρ Q Er K E a h kk ke=>Jt (ht s p tk ρ _ _ _ _ a ((wb h).mono (λv σ h=>PM h) λ_ _ h=>h) (λb u p₁ tk₁ q A₁ e=>(by
    cases (e:b=u)
    cases b with
    |false=>exact kk false _ p₁ tk₁ q A₁ rfl
    |true=>exact ih s p₁ tk₁ ρ _ _ _ _ (a.on A₁) q (kk.on A₁.S) (ke.on A₁.S))) ke)
theorem Oj(H:g8 g CM f es xs):Q0 g f .Or (Lg CM es) xs:=by
 induction H with
 |nil=>exact λs p tk ρ Q Er K E a h kk ke=>bA h
 |cons e es x xs st hx ht r ih=>
  cases r with
  |nil=>exact λs p tk ρ Q Er K E a h kk ke=>wpAny_allTrue_Or_cons (ht s p tk ρ Q Er _ _ a (wb (m:=ev CM e ρ) (f:=λv=>pure v) h) (λb u p₁ tk₁ q A₁ e=>(by
    cases (e:b=u)
    cases b with
    |true=>exact kk true _ p₁ tk₁ q A₁ rfl
    |false=>exact wpAny_allTrue_Or_nil (kk false _ p₁ tk₁ q A₁ rfl))) ke)
  |cons e' es' x' xs'=>exact λs p tk ρ Q Er K E a h kk ke=>wpAny_allTrue_Or_cons (ht s p tk ρ _ _ _ _ a ((wb h).mono (λv σ h=>R9 h) λ_ _ h=>h) (λb u p₁ tk₁ q A₁ e=>(by
    cases (e:b=u)
    cases b with
    |true=>exact kk true _ p₁ tk₁ q A₁ rfl
    |false=>exact ih s p₁ tk₁ ρ _ _ _ _ (a.on A₁) q (kk.on A₁.S) (ke.on A₁.S))) ke)
theorem Ll{A:a7}{fr:List ax}{b:Bi}{vs:List AV}{us:List ai}{Q:AV->Hp->Prop}{Kk:ai->ak->Prop}(C:Cx g K d)(O:mj g)(hA:rv n A envs fr)(I:Inv g fr p)(V:eJ g.T p.ad vs us)(h:Wp (vG b vs p.σ) Q Er)(kk:KC g [] fr (VV g) s p Q Kk):
  wpAny g.M A (call (XU b) us) Kk E (p.on s tk):=by
 cases b with
 |len=>exact za (P:=λvs=>eJ g.T p.ad vs us->_) h (λv h V=>yk V λu hu=>(by
   cases v with
   |str x=>exact cB h λhl q=>fj hu λt=>len_str (gD x▸WZ hl) (kk (.int x.length) _ p _ q (.refl I) ⟨_,congrArg (zW · _) (congrArg Int.ofNat (gD x))⟩)
   |ref l=>exact cw h λo e h=>jf (P:=λo=>p.σ[l]?=some o->_) h (λvs q e=>dB hu λa d hp=>match (I.objs l _ e _ hp:dN g p.h p.ad a vs) with
    |⟨xs,h1,h2,h3,_⟩=>call_len_list h1 (dn h2▸qO h3) (kk (.int vs.length) _ p _ q (.refl I) ⟨_,congrArg (zW · _) (congrArg Int.ofNat (dn h2))⟩)) e
   |_=>exact bA h)) V
 |isinstance=>exact TB (P:=λvs=>eJ g.T p.ad vs us->_) h (λv w h V=>Um V λu x hu hx=>y9 (C.at I) C.kd I hu hx (wb h) λr tk q=>kk (.bool r) _ p tk q (.refl I) rfl) V
 |str=>exact za (P:=λvs=>eJ g.T p.ad vs us->_) h (λv h V=>yk V λu hu=>(by
   cases v with
   |str x=>exact fj hu λt=>P.str_of_str (kk (.str x) _ p _ h (.refl I) ⟨t,rfl⟩)
   |int x=>exact cB h λhn q=>dD hu λt=>B2 hn kk I q
   |_=>exact bA h)) V
 |ord=>exact za (P:=λvs=>eJ g.T p.ad vs us->_) h (λv h V=>yk V λu hu=>qf (P:=λv=>VR g.T p.ad v u->_) h (λx h hu=>(by
   cases x with
   |nil=>exact bA h
   |cons c r=>cases r with
    |nil=>exact fj hu λt=>P.ord_of_char (kk (.int c) _ p _ h (.refl I) ⟨_,rfl⟩)
    |cons=>exact bA h)) hu) V
 |sorted=>exact za (P:=λvs=>eJ g.T p.ad vs us->_) h (λv h V=>yk V λu hu=>iq (P:=λv=>VR g.T p.ad v u->_) h (λl h hu=>cw h λo e h=>zq (P:=λo=>p.σ[l]?=some o->_) h (λes h e=>jU h λss hs h=>cB h λh64 h=>gw h λ_ q=>yM hA.handled C.sys I hu e hs h64 q kk) e) hu) V
 |sum=>exact za (P:=λvs=>eJ g.T p.ad vs us->_) h (λv h V=>yk V λu hu=>iq (P:=λv=>VR g.T p.ad v u->_) h (λl h hu=>cw h λo e h=>jf (P:=λo=>p.σ[l]?=some o->_) h (λes h e=>jU h λis hs q=>dB hu λa d hp=>match (I.objs l _ e _ hp:dN g p.h p.ad a es) with
   |⟨xs,h1,h2,_,_⟩=>match yQ h2 hs with
    |⟨ys,e1,e2⟩=>sum_intListG (xs:=ys.toArray) hA.handled ((show xs=intItems ys.toArray from Array.toList_inj.mp (e1.trans (by unfold intItems;simp)))▸h1) λh' tk t hk=>kk (.int is.sum) _ ⟨p.σ,p.ad,h'⟩ tk q (.keeps I hk) ⟨t,by rw[AX,e2]⟩) e) hu) V
 |min=>exact TB (P:=λvs=>eJ g.T p.ad vs us->_) h (λv w h V=>Um V λu x hu hx=>fA (P:=λv=>VR g.T p.ad v u->_) h (λa h hu=>fA (P:=λw=>VR g.T p.ad w x->_) h (λb q hx=>dD hu λt=>dD hx λt'=>min_two_ints hA.handled λh' tk k=>kk _ _ ⟨p.σ,p.ad,h'⟩ tk q (.keeps I k) (if z:b<a then by rw[if_pos z,if_pos z];exact⟨_,rfl⟩ else by rw[if_neg z,if_neg z];exact⟨_,rfl⟩)) hx) hu) V
 |dict=>exact za (P:=λvs=>eJ g.T p.ad vs us->_) h (λv h V=>yk V λu hu=>iq (P:=λv=>VR g.T p.ad v u->_) h (λl h hu=>cw h λo e h=>jf (P:=λo=>p.σ[l]?=some o->_) h (λes h e=>jU (σ:=p.σ) h λps hs q=>O.dict hA I hu e hs q kk) e) hu) V
 |_=>exact bA h
theorem Bz{A:a7}{fr:List ax}{v:AV}{u:ai}{vs:List AV}{us:List ai}{fl:ai->Prop}{Q:AV->Hp->Prop}{Kk:ai->ak->Prop}(C:Cx g K d)(MK:w7 g.T K)(O:mj g)(CO:r7 g CM n)(hA:rv n A envs fr)(I:Inv g fr p)(hu:VR g.T p.ad v u)(V:eJ g.T p.ad vs us)(hfl:fl .none)(h:Wp (FY CM v vs p.σ) Q Er)
  (kk:KC g [] fr (VV g) s p Q Kk) (ke:EC g [] fr fl s p Er E):wpAny g.M A (call u us) Kk E (p.on s tk):=by
 cases v with
 |fn c=>cases hu;exact pI (CO c vs us A envs fr s p tk fl Q Er _ hA.c I V hfl h ⟨kk,ke⟩)
 |cls c=>
  cases hu
  cases c with
  |thrown=>exact TB (P:=λvs=>eJ g.T p.ad vs us->_) h (λa b h V=>qf (P:=λa=>eJ g.T p.ad [a,b] us->_) h (λa h V=>qf (P:=λb=>eJ g.T p.ad [.str a,b] us->_) h (λb q V=>O.thrown hA I V q kk) V) V) V
  |leftOut=>exact za (P:=λvs=>eJ g.T p.ad vs us->_) h (λa h V=>qf (P:=λa=>eJ g.T p.ad [a] us->_) h (λa q V=>O.leftOut hA I V q kk) V) V
  |iF=>exact bA h
  |jY=>exact bA h
  |_=>exact Iz C MK CO hA I V rfl h kk
 |bi b=>cases hu;exact Ll C O hA I V h kk
 |_=>exact bA h
noncomputable def Keeps(M:fY)(P:bt->Prop)(u:ai):Prop:=∀h,P h->∃k,(k=Keeper.frame\/k=Keeper.machine\/k=Keeper.boundFrame)/\rF M h (keeperOf u) k
theorem Hk{v:AV}{u:ai}{T:Tab}{ad:Ad}{M:fY}(MK:w7 T K)(hu:VR T ad v u)(hg:qK v=true):Keeps M K.In u:=by
 cases v with
 |fn c=>cases hu;exact keeps_K (MK.LW c)
 |cls c=>cases hu;exact keeps_K (MK.Rh c)
 |bi b=>cases hu;exact λh X=>⟨.machine,.inr (.inl rfl),fE (by cases b<;>rfl)⟩
 |_=>exact ft hg
theorem u1{u:ai}{first:List ai}{P:bt->Prop}{Q:List AV->Hp->Prop}{Kk:ai->ak->Prop}(H:g8 g CM f es xs)(hk:Keeps g.M P u)(a:mQ g f ρ p)(h:Wp (GA CM es ρ p.σ) Q Er)
  (k:∀vs us p' tk,Q vs p'.σ->gH g [] f.fr p p'->eJ g.T p'.ad vs us->P p'.h/\wpAny g.M f.A (call u (first++us)) Kk E (p'.on s tk)) (ke:EC g [] f.fr (Ji f.L) s p Er E):
  wpAny g.M f.A (callWith pos u first (backTo pos (starEach xs f.env)) (backToKw pos (keywordEach [] f.env))) Kk E (p.on s tk):=by
 have key:=vk H s p tk ρ pos _ _ (λus s₁=>P s₁.heap/\wpAny g.M f.A (call u (first++us)) Kk E s₁) E a h k ke
 refine zZ (P:=P) (by rw[uF H];rfl) hk ?_
 cases H with
 |nil=>
  unfold evalArgs
  show wpAny _ _ (spliced []>>=_) _ _ _
  exact ag (aR key (λus s' h'=>ag (ao (aL (ag (ao (ag (ao (ao h')))))))) λ_ _ x=>x)
 |cons e es x xs st _ _ _=>
  rw[jj st] at key⊢
  exact CL key
theorem x_call{v:AV}(C:Cx g K d)(MK:w7 g.T K)(O:mj g)(CO:r7 g CM n)(hA:rv n f.A envs f.fr)(hg:notAttr x=true)(ht:qK v=true)(hx:fq g CM f (.glob v) x)(H:g8 g CM f es xs):fq g CM f (.call (.glob v) es) (.Call x xs [] pos):=λs p tk ρ Q Er K E a h kk ke=>by
 rw[sG hg]
 refine ag (hx s p tk ρ (λw σ=>w=v/\Wp (GA CM es ρ σ) (λvs σ=>Wp (FY CM w vs σ) Q Er) Er) _ _ _ a ⟨rfl,wb (m:=GA CM es ρ) h⟩ (λw u p₁ tk₁ h A₁ hu=>?_) ke)
 obtain⟨rfl,h₁⟩:=h
 exact u1 (first:=[]) H (Hk MK hu ht) (a.on A₁) h₁ (λvs us p₂ tk₂ h A₂ V=>⟨C.at A₂.I,Bz C MK O CO hA A₂.I (hu.mono A₂.S.ext) V (.inl rfl) h (kk.on (A₁.trans A₂).S) (ke.on (A₁.trans A₂).S)⟩) (ke.on A₁.S)
theorem D2{n:Nat}(H:g8 g CM f es xs)(hn:n<30):methodCallForm n (backTo pos (starEach xs f.env)) (backToKw pos (keywordEach [] f.env))=true:=by
 unfold methodCallForm
 have h1:(backTo pos (starEach xs f.env)).all (!·.1)=true:=by
  have:=uF (pos:=pos) H
  rw[<-fM,Ae] at this
  exact this
 rw[h1]
 exact decide_eq_true (Nat.add_zero n▸hn)
theorem SY{m:S}{ap:Pos}(C:Cx g K d)(MK:w7 g.T K)(O:mj g)(CO:r7 g CM n)(hA:rv n f.A envs f.fr)(hap:ap.endLine=pos.line)(hb:f9 x=true)(hlen:xs.length<=20)(hx:fq g CM f e x)(H:g8 g CM f es xs):
  fq g CM f (.wZ e m es) (.Call (.Attribute x (strOf m) ap) xs [] pos):=λs p tk ρ Q Er K E a h kk ke=>by
 show wpAny _ _ (do
  let ov<-attributeBase x (strOf m) f.env (eval x f.env)
  standAt ap.atName
  let (c,first)<-holding [ov] (calleeOf (methodCallForm (xs.length+0) (backTo pos (starEach xs f.env)) (backToKw pos (keywordEach [] f.env))) x f.env ov (strOf m))
  let callPos<-methodCallPos (methodCallForm (xs.length+0) (backTo pos (starEach xs f.env)) (backToKw pos (keywordEach [] f.env))) x f.env ap pos
  callWith callPos c first (backTo pos (starEach xs f.env)) (backToKw pos (keywordEach [] f.env))) _ _ _
 have hpos:methodCallPos true x f.env ap pos=pure pos:=by unfold methodCallPos;rw[hap];simp
 rw[gN hb,D2 (n:=xs.length+0) H (aB hlen (by decide)),hpos]
 refine ag (hx s p tk ρ _ _ _ _ a (wb h) (λv u p₁ tk₁ h A₁ hu=>ag (bP (ag (aL ?_)))) ke)
 unfold calleeOf
 rw[if_pos rfl]
 have h:=wb h
 cases v with
 |ref l=>
  refine cw (l:=l) h λo e h=>?_
  have go:∀{c:ai}{P:bt->Prop}{mh:Mh},Keeps g.M P c->(∀{p:Pt},Inv g f.fr p->P p.h)->Wp (GA CM es ρ p₁.σ) (λvs σ=>Wp (Yy CM (.ref l) mh vs σ) Q Er) Er->(∀vs us p₂ tk₂,Wp (Yy CM (.ref l) mh vs p₂.σ) Q Er->gH g [] f.fr p₁ p₂->VR g.T p₂.ad (.ref l) u->eJ g.T p₂.ad vs us->wpAny g.M f.A (call c (u::us)) K E (p₂.on s tk₂))->
    wpAny g.M f.A (do let callPos<-pure pos;callWith callPos c [u] (backTo pos (starEach xs f.env)) (backToKw pos (keywordEach [] f.env))) K E (p₁.on s tk₁):=λhk hP h k=>
   ag (ao (u1 (first:=[u]) H hk (a.on A₁) h (λvs us p₂ tk₂ h A₂ V=>⟨hP A₂.I,k vs us p₂ tk₂ h A₂ (hu.mono A₂.S.ext) V⟩) (ke.on A₁.S)))
  cases o with
  |inst c fs=>exact jU h λw hw h=>CW C MK A₁.I e hw hu (go (mh:=.fn w) (keeps_K (MK.LW w)) (λI=>C.at I) (wb (m:=GA CM es ρ) h) λvs us p₂ tk₂ h A₂ hu V=>Bz (v:=.fn w) C MK O CO hA A₂.I rfl (.cons hu V) (.inl rfl) h (kk.on (A₁.trans A₂).S) (ke.on (A₁.trans A₂).S))
  |list vs=>exact cB h λem h=>(by
    rw[em,show strOf (toS "append")=("append":Str) from sd "append"]
    exact yT A₁.I e hu (go (mh:=.app) (P:=λ_=>True) (λh _=>⟨.machine,.inr (.inl rfl),fE rfl⟩) (λ_=>trivial) (wb (m:=GA CM es ρ) h) λvs us p₂ tk₂ h A₂ hu V=>za (P:=λvs=>eJ g.T p₂.ad vs us->_) h (λv h V=>yk V λy hy=>cw h λo e h=>jf (P:=λo=>p₂.σ[l]?=some o->_) h (λws h e=>cB h λhlt q=>yi A₂.I e hlt hu hy q (kk.on (A₁.trans A₂).S)) e) V))
  |dict vs=>exact cB h λem h=>(by
    rw[em,show strOf (toS "get")=("get":Str) from sd "get"]
    exact C3 A₁.I e hu (go (mh:=.get) (P:=λ_=>True) (λh _=>⟨.machine,.inr (.inl rfl),fE rfl⟩) (λ_=>trivial) (wb (m:=GA CM es ρ) h) λvs us p₂ tk₂ h A₂ hu V=>za (P:=λvs=>eJ g.T p₂.ad vs us->_) h (λv h V=>yk V λy hy=>cw h λo e h=>zq (P:=λo=>p₂.σ[l]?=some o->_) h (λws h e=>cB h λhlt q=>Eg C.sys A₂.I e hlt hu hy q (kk.on (A₁.trans A₂).S)) e) V))
  |_=>exact bA h
 |_=>exact bA h
end
end Mine.Internal
set_option backward.match.sparseCases false
namespace Mine.Internal
open PySem PySem.W PySem.Calls PyProof.Rows
inductive Ww(g:Gl)(ad:Ad)(h:bt)(e:AV×AV)(a:ax):Prop where
 |mk (x y:ai) (t:h.IsTuple a #[x,y]) (h1:VR g.T ad e.1 x) (h2:VR g.T ad e.2 y)
theorem tY.from{g:Gl}{fr:List ax}{p p₁ p':Pt}{X:List ax}{b:ax}(S:iM X fr p p₁)(x:p₁.ad<+:p'.ad):tY g.base fr p₁.h p' b->tY g.base fr p.h p' b
 |⟨q1,o,q2,q3,q4,q5⟩=>⟨S.fresh q1 λz=>q3 (z.mono (S.ext.trans x)),o,q2,q3,q4,q5⟩
theorem Ready.from{g:Gl}{A:a7}{fr:List ax}{t:az}{s s₂:ak}{p p₁:Pt}{Q:HI->Hp->Prop}{u:ai}(a:gH g [] fr p p₁):Ready g A fr t s p₁ Q u s₂->Ready g A fr t s p Q u s₂
 |⟨dh,p',tk,fp,St,q,e,a',W,h0,hfp⟩=>⟨dh,p',tk,fp,St,q,e,a.trans a',W,h0,λb hb=>(hfp b hb).from a.S a'.S.ext⟩
theorem iB{α:Type}{f:α->AV}{Er:Nat->Hp->Prop}{σ:Hp}:∀{l:List α}{Q:List AV->Hp->Prop},Wp (fS (l.map λk=>.one (f k)) σ) Q Er->Q (l.map f) σ
 |[],_,h=>h
 |k::l,Q,h=>iB (l:=l) (Q:=λvs σ=>Q (f k::vs) σ) (wb h)
section
variable{g:Gl}{f:Fr}{fr X:List ax}{s:ak}{p p₀:Pt}{tk:Nat}{ρ:Loc}{CM:Fn->List AV->MM AV}{n:Nat}{envs:List Env}{K:cT}{d:Fn->bc}{mg mb:Str->Option ai}{e e':Mine.Internal.E}{x y t:az}{pos p1:Pos}{Er:Nat->Hp->Prop}{E:ai->ak->Prop}{A:a7}
theorem DE{hp:bt}{P:Prop}{es:List (AV×AV)}{as:List ax}(H:bq (λ_ _=>True) es as):∀{σ:Hp}{ad:Ad}{Q:List AV->Hp->Prop},bq (Ww g ad hp) es as->as.Nodup->(∀a∈as,p₀.h.get? a=none/\¬own ad a/\g.base.get? a=none/\a∉fr)->gH g X fr p₀ ⟨σ,ad,hp⟩->Wp (fS (es.map λe=>.pair e.1 e.2) σ) Q Er->
  (∀vs σ' ad',Q vs σ'->gH g X fr p₀ ⟨σ',ad',hp⟩->eJ g.T ad' vs (as.map .ref)->ad<+:ad'->(∀b,own ad' b->own ad b\/b∈as)->vs.length=as.length->P)->P:=by
 induction H with
 |nil=>exact λ{σ ad Q} _ _ _ A q k=>k [] σ ad q A .nil (cM _) (λ_ z=>.inl z) rfl
 |@cons e a es as _ _ ih=>exact λ{σ ad Q} T nd ha A h k=>AE (wb h) λ_ h=>match T.cons_inv with
  |⟨a',as',eq,⟨x,y,t1,t2,t3⟩,T⟩=>(by
   cases eq
   have f:=ha a (.head _)
   have ht:∃ob,hp.get? a=some ob:=t1.elim λo z=>⟨o,z.1⟩
   have nd:=aJ.mp nd
   have A₁:gH g X fr p₀ ⟨σ++[.tup [e.1,e.2]],ad++[(a,a)],hp⟩:=⟨A.I.Pg (λ_ _ q=>q) f.2 f.2 ht ht (o:=.tup [e.1,e.2]) ⟨#[x,y],t1,.cons (t2.mono (bH _ _)) (.one (t3.mono (bH _ _))),(show 2<=lim by decide)⟩,A.S.ext.trans (bH _ _),A.S.kp,λb hb=>hb.app.elim (A.S.new b) λq=>q.elim (λq=>.inr (q▸f.1)) λq=>.inr (q▸f.1)⟩
   refine ih (T.imp λe' a' ⟨x',y',z1,z2,z3⟩=>⟨x',y',z1,z2.mono (bH _ _),z3.mono (bH _ _)⟩) nd.2 (λb hb=>have m:=ha b (.tail _ hb);⟨m.1,λq=>(own.app (p:=(a,a)) q).elim m.2.1 λq=>q.elim (λq=>nd.1 ((show b=a from q)▸hb)) λq=>nd.1 ((show b=a from q)▸hb),m.2.2⟩) A₁ (wb h) λvs σ' ad' q A₂ V x O hl=>?_
   exact k (.ref σ.length::vs) σ' ad' q A₂ (.cons (VR.mono x (lT A.I (a,a))) V) ((bH _ _).trans x) (λb hb=>(O b hb).elim (λz=>z.app.imp id λz=>z.elim (λz=>z▸.head _) λz=>z▸.head _) λz=>.inr (.tail _ z)) (congrArg (·+1) hl))
theorem V3{u:ai}{Q:ai->ak->Prop}{M:fY}{env:Env}{s:ak}(hst:notStar x=true)(hk:keeperOf u=pure .machine)(h:wpAny M A (eval x env) (λv s₁=>wpAny M A (call u [v]) Q E s₁) E s):wpAny M A (callWith pos u [] (backTo pos (starEach [x] env)) (backToKw pos (keywordEach [] env))) Q E s:=by
 have es:=jj (rest:=[]) (env:=env) hst
 refine zZ (P:=λ_=>True) (by rw[es];rfl) (λh _=>⟨.machine,.inr (.inl rfl),fE hk⟩) ?_
 have key:=spliced_more (pos:=pos) (rest:=[]) (env:=env) (e:=x) (M:=M) (A:=A) (s:=s) (E:=E) (Q:=λus s₁=>True/\wpAny M A (call u ([]++us)) Q E s₁) (aR h (λv s₁ hv=>spliced_none ⟨trivial,hv⟩) λ_ _ q=>q) es
 rw[es] at key⊢
 exact CL key
theorem call2{u:ai}{Q:ai->ak->Prop}{M:fY}{env:Env}{s:ak}(hst:notStar x=true)(hst':notStar y=true)(hk:keeperOf u=pure .machine)(h:wpAny M A (eval x env) (λv s₁=>wpAny M A (eval y env) (λv' s₂=>wpAny M A (call u [v,v']) Q E s₂) E s₁) E s):wpAny M A (callWith pos u [] (backTo pos (starEach [x,y] env)) (backToKw pos (keywordEach [] env))) Q E s:=by
 have es:=jj (rest:=[y]) (env:=env) hst
 have es':=jj (rest:=[]) (env:=env) hst'
 refine zZ (P:=λ_=>True) (by rw[es,es'];rfl) (λh _=>⟨.machine,.inr (.inl rfl),fE hk⟩) ?_
 have key:=spliced_more (pos:=pos) (rest:=[y]) (env:=env) (e:=x) (M:=M) (A:=A) (s:=s) (E:=E) (Q:=λus s₁=>True/\wpAny M A (call u ([]++us)) Q E s₁) (aR h (λv s₁ hv=>spliced_more (rest:=[]) (aR hv (λv' s₂ hv'=>spliced_none ⟨trivial,hv'⟩) λ_ _ q=>q) es') λ_ _ q=>q) es
 rw[es] at key⊢
 exact CL key
theorem sb{m:Str}{v:ai}{Kk:ai→ak→Prop}(C:Cx g K d)(N:jT g K mg mb)(a:mQ g f ρ p)(h:nsIn K mainGlobals m=some none∧mb m=some v)(hk:f.env.kindOf m=some .globalImplicit)(hd:(m==aa "__debug__")=false)(hst:notStar x=true)(hv:keeperOf v=pure .machine)
  (k:wpAny g.M f.A (eval x f.env) (λw s₁=>wpAny g.M f.A (call v [w]) Kk E s₁) E (p.on s tk)):wpAny g.M f.A (eval (.Call (.Name m p1) [x] [] pos) f.env) Kk E (p.on s tk):=by
 rw[sG rfl]
 exact ag (NU C N a h hk hd (V3 hst hv k))
theorem NA(C:Cx g K d)(hA:f.A.handled=none)(hx:fq g CM f e x):Ey g CM f (.plain e) x t:=λs p tk ρ Q E a h=>
 hx s p tk ρ _ _ _ _ a (wb h) (λv u p₁ tk₁ h A₁ hu=>aR (AA hA C.sys A₁.I hu h) (λ_ _ R=>R.from A₁) λ_ _ q=>q) .no
theorem HR(C:Cx g K d)(N:jT g K mg mb)(hA:f.A.handled=none)(hk:f.env.kindOf (aa "range")=some .globalImplicit)(hst:notStar x=true)(hx:fq g CM f e x):Ey g CM f (.dU e) (.Call (.Name (aa "range") p1) [x] [] pos) t:=λs p tk ρ Q E a h=>
 sb C N a N.xV hk (by decide) hst rfl (hx s p tk ρ _ _ _ _ a (wb h) (λv u p₁ tk₁ h A₁ hu=>fA (v:=v) (P:=λv=>VR g.T p₁.ad v u->Wp (jZ (.int 0) v p₁.σ) Q Cw->_) h (λy _ hu h=>dD hu λtt=>call_range_1 (
  have A₂:gH g [] f.fr p₁ ⟨p₁.σ,p₁.ad,p₁.h.push {cls:=.type "range",data:=.fields #[.int 0 tk₁,.int y tt,.int 1 (tk₁+1)]}⟩:=.keeps A₁.I (.push _ _)
  aR (tc (s:=s) (p:=⟨p₁.σ,p₁.ad,p₁.h.push {cls:=.type "range",data:=.fields #[.int 0 tk₁,.int y tt,.int 1 (tk₁+1)]}⟩) (tk:=tk₁+1+1) hA A₂.I (Af p₁.h 0 y 1 tk₁ tt (tk₁+1)) h) (λ_ _ R=>R.from (A₁.trans A₂)) λ_ _ q=>q)) hu h) .no)
theorem I4(C:Cx g K d)(N:jT g K mg mb)(hA:f.A.handled=none)(hk:f.env.kindOf (aa "range")=some .globalImplicit)(hst:notStar x=true)(hst':notStar y=true)(hx:fq g CM f e x)(hy:fq g CM f e' y):Ey g CM f (.kj e e') (.Call (.Name (aa "range") p1) [x,y] [] pos) t:=λs p tk ρ Q E a h=>by
 rw[sG rfl]
 refine ag (NU C N a N.xV hk (by decide) (call2 hst hst' rfl (two hx hy a ((wb h).mono (λ_ _ h=>wb h) λ_ _ h=>h) (λv w u z p₁ tk₁ h A₁ hu hz=>?_) .no)))
 refine fA (P:=λv=>VR g.T p₁.ad v u->Wp (jZ v w p₁.σ) Q Cw->_) h (λc h hu h'=>fA (P:=λw=>VR g.T p₁.ad w z->Wp (jZ (.int c) w p₁.σ) Q Cw->_) h (λb _ hz h=>dD hu λtu=>dD hz λtz=>call_range_2 ?_) hz h') hu h
 have A₂:gH g [] f.fr p₁ ⟨p₁.σ,p₁.ad,p₁.h.push {cls:=.type "range",data:=.fields #[.int c tu,.int b tz,.int 1 tk₁]}⟩:=.keeps A₁.I (.push _ _)
 exact aR (tc (s:=s) (p:=⟨p₁.σ,p₁.ad,p₁.h.push {cls:=.type "range",data:=.fields #[.int c tu,.int b tz,.int 1 tk₁]}⟩) (tk:=tk₁+1) hA A₂.I (Af p₁.h c b 1 tu tz tk₁) h) (λ_ _ R=>R.from (A₁.trans A₂)) λ_ _ q=>q
theorem Qx(C:Cx g K d)(N:jT g K mg mb)(hA:f.A.handled=none)(hk:f.env.kindOf (aa "enumerate")=some .globalImplicit)(hst:notStar x=true)(ht:GK (.enum e) t=true)(hx:fq g CM f e x):Ey g CM f (.enum e) (.Call (.Name (aa "enumerate") p1) [x] [] pos) t:=λs p tk ρ Q E a h=>
 gi (motive_1:=λt=>wpAny g.M f.A (eval (.Call (.Name (aa "enumerate") p1) [x] [] pos) f.env) (λxv s₁=>wpAny g.M f.A (pyIter xv) (Ready g f.A f.fr t s p Q) E s₁) E (p.on s tk)) t (eq_of_beq ht) λelts kk pos'=>
  sb C N a N.enu hk (by decide) hst rfl (hx s p tk ρ _ _ _ _ a (wb h) (λv u p₁ tk₁ h A₁ hu=>aR (Dg hA A₁.I hu h) (λ_ _ q=>aR q (λ_ _ R=>R.from A₁) λ_ _ q=>q) λ_ _ q=>q) .no)
theorem PK(C:Cx g K d)(N:jT g K mg mb)(hA:f.A.handled=none)(hk:f.env.kindOf (aa "list")=some .globalImplicit)(hst:notStar x=true)(hx:fq g CM f e x):fq g CM f (.listOf (.plain e)) (.Call (.Name (aa "list") p1) [x] [] pos):=λs p tk ρ Q Er K E a h kk ke=>
 sb C N a (N.bi .list) hk (by decide) hst rfl (hx s p tk ρ _ _ _ _ a (lS (wb h)) (λv u p₁ tk₁ h A₁ hu=>iq (P:=λv=>VR g.T p₁.ad v u->_) h (λl h hu=>cw h λo eo h=>(by
  cases o with
  |list vs=>exact BK A₁.I eo hu h (kk.on A₁.S)
  |dict es=>exact cB h λz h=>Cm hA C.sys A₁.I (z▸eo) hu h (kk.on A₁.S)
  |_=>exact bA h)) hu) .no)
theorem Ob{p2 pos2:Pos}(C:Cx g K d)(N:jT g K mg mb)(hA:f.A.handled=none)(hk:f.env.kindOf (aa "list")=some .globalImplicit)(hk2:f.env.kindOf (aa "range")=some .globalImplicit)(hst:notStar x=true)(hx:fq g CM f e x):
  fq g CM f (.listOf (.dU e)) (.Call (.Name (aa "list") p1) [.Call (.Name (aa "range") p2) [x] [] pos2] [] pos):=λs p tk ρ Q Er K E a h kk ke=>by
 refine sb C N a (N.bi .list) hk (by decide) rfl rfl (sb C N a N.xV hk2 (by decide) hst rfl (hx s p tk ρ _ _ _ _ a (lS (wb h)) (λv u p₁ tk₁ h A₁ hu=>?_) .no))
 refine fA (v:=v) (P:=λv=>VR g.T p₁.ad v u->_) (wb h) (λy h hu=>cB h λc h=>gw (iB (f:=λ(k:Nat)=>AV.int (0+(k:Int))) (wb h)) λhl q=>dD hu λtt=>call_range_1 ?_) hu
 have A₂:gH g [] f.fr p₁ ⟨p₁.σ,p₁.ad,p₁.h.push {cls:=.type "range",data:=.fields #[.int 0 tk₁,.int y tt,.int 1 (tk₁+1)]}⟩:=.keeps A₁.I (.push _ _)
 have hn:(y - 0).toNat<=lim:=fN (n:=(y - 0).toNat)▸aj (as:=iK (y - 0).toNat) (λ(k:Nat)=>AV.int (0+(k:Int)))▸hl
 refine call_list_range hA (Af p₁.h 0 y 1 tk₁ tt (tk₁+1)) (tB c.1 c.2.1 c.2.2.1 c.2.2.2) NJ (ah hn (by decide)) λh₂ tk₂ acc c' k₂ gl hacc=>?_
 refine mz (p:=⟨p₁.σ,p₁.ad,_⟩) A₂.I (cA _) k₂ gl (sV (P:=λ(i:Nat) v=>∃t,v=zW (0+(i:Int)*1) t) (by rw[aj,fN];exact hacc) λi a v e1 e2=>gL (bw.symm.trans e1) λj q1 q2=>e2.elim λtq e2=>?_) hl q (kk.on (A₁.trans A₂).S)
 cases cu q1 (qk (fN (n:=(y - 0).toNat)▸(aq.mp q1).1))
 exact q2▸e2▸⟨tq,by rw[Int.mul_one]⟩
theorem tR{l:Nat}{es:List (AV×AV)}{u:ai}{Q:AV->Hp->Prop}{Kk:ai->ak->Prop}(hh:A.handled=none)(hs:∃o,g.base.get? sysModules=some o)(I:Inv g fr p)(ho:p.σ[l]?=some (.dict es))(hu:VR g.T p.ad (.ref l) u)
  (h:Wp ((fS (es.map λe=>.pair e.1 e.2)>>=fP) p.σ) Q Er) (kk:KC g [] fr (VV g) s p Q Kk):wpAny g.M A (call (.builtin "dict.items") [u]) (λv s₁=>wpAny g.M A (call (.type "list") [v]) Kk E s₁) E (p.on s tk):=
 dB hu λa da hp=>match (I.objs l _ ho _ hp:g7 g p.h p.ad a es) with
 |⟨kvs,h1,h2,h3⟩=>by
  have hD:=h1.dictOf
  refine call_meetsIn xg hD.typeIs PySem.F.entry_dict_items (PySem.F.args_dict_items_1 _) (meets_dict_items (cV g.prog g.w) a (jA I hs (own.l hp))) ⟨⟨_,hD⟩,?_⟩
  have k₁:oY p.h (p.h.push {cls:=.type "dict_items",data:=.fields #[.ref a]}):=.push _ _
  refine kdx_call (knd:=cV g.prog g.w) hh ⟨_,aE _ rfl,rfl,rfl⟩ (h1.elim λo z=>z.elim λes' z=>⟨o,es',k₁ _ _ z.1,z.2⟩) (h2.len▸ah h3 eK) λh' tk acc c as k gl hal G hacc=>?_
  have kk':oY p.h h':=λb o e=>k b o (k₁ b o e)
  have A':gH g [] fr p ⟨p.σ,p.ad,h'⟩:=.keeps I kk'
  have above:∀a∈as,p.h.objs.size<a:=λa ha=>by have z:=G.above a ha;rw[size_push'] at z;exact Nat.lt_of_succ_lt z
  have free:∀{b:ax},p.h.objs.size<=b->p.h.get? b=none/\¬own p.ad b/\g.base.get? b=none/\b∉fr:=λq=>⟨cO q,I.fresh (cO q)⟩
  have H:bq (Ww g p.ad h') es as:=bq.of_get (hal▸h2.len) λi e a he ha=>match G.pairs i a ha with
   |⟨key,kk',x,z1,z2,z3⟩=>(h2.get he).elim λq y=>by
    cases cu z1 y.1
    exact⟨key,x,⟨_,z3,rfl,_,rfl⟩,(show VR g.T p.ad e.1 key from y.2.k▸Ln z2),y.2.v⟩
  refine DE (H.imp λ_ _ _=>trivial) H (G.rise.imp λq=>fw q) (λa ha=>free (bz (above a ha))) A' (wb h) λvs σ' ad' h A₂ V _ O hl=>gw h λhn q=>?_
  have fB:=free (b:=(p.h.push {cls:=.type "dict_items",data:=.fields #[.ref a]}).objs.size) (by rw[size_push'];exact br _)
  have nB:¬own ad' (p.h.push {cls:=.type "dict_items",data:=.fields #[.ref a]}).objs.size:=λz=>(O _ z).elim fB.2.1 λz=>dY _ (G.above _ z)
  exact kk _ _ ⟨σ'++[.list vs],ad'++[(_,_)],h'⟩ tk q ⟨A₂.I.Pg (λ_ _ e=>e) ⟨nB,fB.2.2⟩ ⟨nB,fB.2.2⟩ ⟨_,gl⟩ ⟨_,gl⟩ (o:=.list vs) ⟨acc,⟨_,gl,rfl,_,rfl⟩,hacc▸V.app,hn,_,gl,rfl⟩,A₂.S.ext.trans (bH _ _),A₂.S.kp,λb hb=>hb.app.elim (A₂.S.new b) λq=>q.elim (λq=>.inr (q▸fB.1)) λq=>.inr (q▸fB.1)⟩ (lT A₂.I _)
theorem P7{ap pos2:Pos}(C:Cx g K d)(N:jT g K mg mb)(hA:f.A.handled=none)(hk:f.env.kindOf (aa "list")=some .globalImplicit)(hap:ap.endLine=pos2.line)(hb:f9 x=true)(hx:fq g CM f e x):
  fq g CM f (.listOf (.items e)) (.Call (.Name (aa "list") p1) [.Call (.Attribute x (aa "items") ap) [] [] pos2] [] pos):=λs p tk ρ Q Er K E a h kk ke=>by
 refine sb C N a (N.bi .list) hk (by decide) rfl rfl ?_
 show wpAny _ _ (do
  let ov←attributeBase x (aa "items") f.env (eval x f.env)
  standAt ap.atName
  let (c,first)←holding [ov] (calleeOf true x f.env ov (aa "items"))
  let callPos<-methodCallPos true x f.env ap pos2
  callWith callPos c first (backTo pos2 (starEach [] f.env)) (backToKw pos2 (keywordEach [] f.env))) _ _ _
 have hpos:methodCallPos true x f.env ap pos2=pure pos2:=by unfold methodCallPos;rw[hap];simp
 rw[gN hb,hpos]
 refine ag (hx s p tk ρ _ _ _ _ a (lS (wb h)) (λv u p₁ tk₁ h A₁ hu=>ag (bP (ag (aL ?_)))) .no)
 unfold calleeOf
 rw[if_pos rfl]
 refine iq (P:=λv=>VR g.T p₁.ad v u->_) (wb h) (λl h hu=>cw h λo eo h=>zq (P:=λo=>p₁.σ[l]?=some o->_) h (λes h eo=>?_) eo) hu
 exact dB (P:=λu=>VR g.T p₁.ad (.ref l) u→wpAny g.M f.A (getMethod u (aa "items") _) _ E (p₁.on s tk₁)) hu (λad' dd hp hu=>match (A₁.I.objs l _ eo _ hp:g7 g p₁.h p₁.ad ad' es) with
  |⟨kvs,q1,q2,q3⟩=>getMethod_builtin q1.dictOf.typeIs xf xg PySem.F.type_dict_items q1.dictOf.mapOf.noDict (ag (ao (zZ (P:=λ_=>True) rfl (λh _=>⟨.machine,.inr (.inl rfl),fE rfl⟩) (evalArgs_nil3 ⟨trivial,tR hA C.sys A₁.I eo hu h (kk.on A₁.S)⟩))))) hu
end
structure Top(g:Gl)(CM:Fn->List AV->MM AV)(n:Nat)(K:cT)(d:Fn->bc)(mg mb:Str->Option ai):Prop where
 C:Cx g K d
 N:jT g K mg mb
 MK:w7 g.T K
 O:mj g
 CO:r7 g CM n
structure Gd(n:Nat)(envs:List Env)(f:Fr):Prop where
 hA:rv n f.A envs f.fr
 hk:f.env.scope.kind=.function
structure ib(g:Gl)(CM:Fn->List AV->MM AV)(f:Fr)(e:Mine.Internal.E)(x:az):Prop where
 hx:fq g CM f e x
 ht:gj g CM f e x
structure jK(g:Gl)(CM:Fn->List AV->MM AV)(f:Fr)(it:It)(x:az):Prop where
 src:∀t,GK it t=true->Ey g CM f it x t
 lst:f.env.kindOf (aa "list")=some .globalImplicit→∀p1 pos,fq g CM f (.listOf it) (.Call (.Name (aa "list") p1) [x] [] pos)
section
variable(g:Gl)(CM:Fn->List AV->MM AV)(n:Nat)(envs:List Env)
noncomputable def Ev(e:Mine.Internal.E):Prop:=∀(f:Fr)(x:az),Gd n envs f->i8 f.env.scope.names f.ns e x=true->ib g CM f e x
noncomputable def N4(es:Es):Prop:=∀(f:Fr)(xs:List az),Gd n envs f->Ci f.env.scope.names f.ns es xs=true->g8 g CM f es xs
noncomputable def N6(it:It):Prop:=∀(f:Fr)(x:az),Gd n envs f->QB f.env.scope.names f.ns it x=true->jK g CM f it x
end
section
variable{g:Gl}{CM:Fn->List AV->MM AV}{n:Nat}{envs:List Env}{K:cT}{d:Fn->bc}{mg mb:Str->Option ai}{f:Fr}
theorem ib.of{e:Mine.Internal.E}{x:az}(hx:fq g CM f e x)(he:∀whole,isTrue x f.env whole=(do let v<-whole;standAt x.pos;holding [v] (truthy v))):ib g CM f e x:=⟨hx,PL hx he⟩
theorem W6{x:Str}(h:kG f.env.scope.names x=true):f.env.kindOf x=some .globalImplicit:=WO rfl h
theorem Gd.comp{scope:rz}{cl:List (Str×ax)}{C:ax}{xs:List Str}(G:Gd n envs f)(h:scope.kind=.function):Gd n envs (qA f scope cl C xs):=⟨G.hA,h⟩
theorem sP{e:Mine.Internal.E}{o:Option az}(ih:Ev g CM n envs e)(G:Gd n envs f)(h:(match o with|some x=>i8 f.env.scope.names f.ns e x|none=>Po e)=true):NV g CM f e o:=by
 cases o with
 |some x=>exact .is e x (ih f x G h).hx
 |none=>cases e with
  |none=>exact .no
  |_=>exact ft h
theorem cond_of{ks:Ks}{ifs:List az}{cond:Mine.Internal.E}(h:(match ifs with|[]=>(match cond with|.bool b=>b|_=>false)|c::r=>rR r (i8 ks f.ns cond c))=true)(ih:Ev g CM n envs cond)(G:Gd n envs f)(hn:f.env.scope.names=ks):pU g CM f ifs cond:=by
 cases ifs with
 |nil=>cases cond with
  |bool b=>cases b with
   |true=>exact .no
   |false=>exact ft h
  |_=>exact ft h
 |cons c r=>exact gc (P:=λr=>pU g CM f (c::r) cond) h λh=>.one c cond (ih f c G (hn▸h)).ht
theorem AZ{elt cond:Mine.Internal.E}{m:Nat}{it:It}{x:az}{P:az->Prop}(h1:Ev g CM n envs elt)(h2:N6 g CM n envs it)(h3:Ev g CM n envs cond)(G:Gd n envs f)(h:i8 f.env.scope.names f.ns (.comp elt m it cond) x=true)
  (k:∀xs scope t eltx iter ifs pos,m=xs.length->qv g CM f f.env.scope.names xs scope t eltx iter ifs elt cond it->P (.ListComp eltx [⟨t,iter,ifs,0⟩] scope pos)):P x:=
 I1 (P:=P) h λeltx gens scope pos h=>i7 (P:=λgens=>P (.ListComp eltx gens scope pos)) h λc h=>gX h λha h=>xD ha λa1 a2 a3 a4=>xD h λb1 b2 b3 b4=>mx b2 λc1 c2 c3=>by
  obtain⟨t,iter,ifs,asy⟩:=c
  cases (of_decide_eq_true a1:asy=0)
  have hk:scope.kind=.function:=eq_of_beq b1
  have hn:∀cl C,(qA f scope cl C (pN m t)).env.scope.names=w4 f.env.scope.names scope.names:=λcl C=>px G.hk
  exact k (pN m t) scope t eltx iter ifs pos (of_decide_eq_true a3) ⟨rfl,.of a4,hk,a2,c2,(h2 f iter G c3).src t c1,λcl C=>cond_of b4 h3 (G.comp hk) (hn cl C),λcl C=>(h1 _ eltx (G.comp hk) ((hn cl C).symm▸b3)).hx⟩
theorem DZ{elt cond:Mine.Internal.E}{m:Nat}{it:It}(h1:Ev g CM n envs elt)(h2:N6 g CM n envs it)(h3:Ev g CM n envs cond):Ev g CM n envs (.comp elt m it cond):=λf x G h=>
 AZ (P:=λx=>ib g CM f _ x) h1 h2 h3 G h λxs scope t eltx iter ifs pos hm Z=>hm▸.of (Ts G.hA.handled Z) λ_=>rfl
end
section
variable{g:Gl}{CM:Fn->List AV->MM AV}{n:Nat}{envs:List Env}{K:cT}{d:Fn->bc}{mg mb:Str->Option ai}{e e' e'':Mine.Internal.E}{es:Es}
theorem Te:Ev g CM n envs .none:=λf x G h=>ij (P:=λx=>ib g CM f _ x) h λc k pos h=>m6 (P:=λc=>ib g CM f _ (.Constant c k pos)) h (.of Tg λ_=>rfl)
theorem U5{b:Bool}:Ev g CM n envs (.bool b):=λf x G h=>ij (P:=λx=>ib g CM f _ x) h λc k pos h=>m6 (P:=λc=>ib g CM f _ (.Constant c k pos)) h (.of TG λ_=>rfl)
theorem Ya{b:Int}:Ev g CM n envs (.int b):=λf x G h=>ij (P:=λx=>ib g CM f _ x) h λc k pos h=>m6 (P:=λc=>ib g CM f _ (.Constant c k pos)) h (.of XB λ_=>rfl)
theorem VS{b:S}:Ev g CM n envs (.str b):=λf x G h=>ij (P:=λx=>ib g CM f _ x) h λc k pos h=>m6 (P:=λc=>ib g CM f _ (.Constant c k pos)) h (.of Vx λ_=>rfl)
theorem VY{i:Nat}:Ev g CM n envs (.loc i):=λf x G h=>cG (P:=λx=>ib g CM f _ x) h λy pos h=>mx h λh1 h2 h3=>.of (VO (eq_of_beq h1) (Fj rfl h2) (QQ h3)) λ_=>rfl
theorem TX(T:Top g CM n K d mg mb){v:AV}:Ev g CM n envs (.glob v):=λf x G h=>cG (P:=λx=>ib g CM f _ x) h λy pos h=>xD h λh1 h2 h3 h4=>.of (T3 T.C T.N (eq_of_beq h1) h2 (W6 h3) (QQ h4)) λ_=>rfl
theorem U9(T:Top g CM n K d mg mb){y:At}(ih:Ev g CM n envs e):Ev g CM n envs (.attr e y):=λf x G h=>gy (P:=λx=>ib g CM f _ x) h λv m pos h=>mx h λh1 h2 h3=>LC (P:=λm=>ib g CM f _ (.Attribute v m pos)) h1 (.of (Ud T.C h2 (ih f v G h3).hx) λ_=>rfl)
theorem Yu(ih:Ev g CM n envs e)(ih':Ev g CM n envs e'):Ev g CM n envs (.sub e e'):=λf x G h=>mf (P:=λx=>ib g CM f _ x) h λv t pos h=>mx h λh1 h2 h3=>.of (Wv h1 (ih f v G h2).hx (ih' f t G h3).hx) λ_=>rfl
theorem O5{lo hi st:Mine.Internal.E}(ih:Ev g CM n envs e)(h1:Ev g CM n envs lo)(h2:Ev g CM n envs hi)(h3:Ev g CM n envs st):Ev g CM n envs (.slice e lo hi st):=λf x G h=>mf (P:=λx=>ib g CM f _ x) h λv t pos h=>Ge (P:=λt=>ib g CM f _ (.Subscript v t pos)) h λl u t q h=>xD h λa1 a2 a3 a4=>
 .of (P0 (ih f v G a1).hx (sP h1 G a2) (sP h2 G a3) (sP h3 G a4)) λ_=>rfl
theorem TV(T:Top g CM n K d mg mb)(ih:Ev g CM n envs e)(ihs:N4 g CM n envs es):Ev g CM n envs (.call e es):=λf x G h=>gO (P:=λx=>ib g CM f _ x) h λc as kw pos h=>gc (P:=λkw=>ib g CM f _ (.Call c as kw pos)) h λh=>by
 cases e with
 |glob v=>exact xD h λh1 h2 h3 h4=>.of (x_call T.C T.MK T.O T.CO G.hA h2 h1 (ih f c G h3).hx (ihs f as G (gX h4 λx _=>x))) λ_=>rfl
 |_=>exact ft h
theorem TM(T:Top g CM n K d mg mb){m:S}(ih:Ev g CM n envs e)(ihs:N4 g CM n envs es):Ev g CM n envs (.wZ e m es):=λf x G h=>gO (P:=λx=>ib g CM f _ x) h λc as kw pos h=>gc (P:=λkw=>ib g CM f _ (.Call c as kw pos)) h λh=>gy (P:=λc=>ib g CM f _ (.Call c as [] pos)) h λv m' ap h=>xD h λh1 h2 h3 h4=>mx h4 λh4 h5 h6=>
 LC (P:=λm'=>ib g CM f _ (.Call (.Attribute v m' ap) as [] pos)) h2 (.of (SY T.C T.MK T.O T.CO G.hA (eq_of_beq h1) h3 (of_decide_eq_true h6) (ih f v G h4).hx (ihs f as G h5)) λ_=>rfl)
theorem Wn{op:Op}(ih:Ev g CM n envs e)(ih':Ev g CM n envs e'):Ev g CM n envs (.bin op e e'):=λf x G h=>FK (P:=λx=>ib g CM f _ x) h λl o r pos h=>mx h λh1 h2 h3=>LC (P:=λo=>ib g CM f _ (.BinOp l o r pos)) h1 (.of (WL (ih f l G h2).hx (ih' f r G h3).hx) λ_=>rfl)
theorem Yc(ih:Ev g CM n envs e):Ev g CM n envs (.neg e):=λf x G h=>yu (P:=λx=>ib g CM f _ x) h λo y pos h=>gX h λh1 h2=>m6 (P:=λo=>ib g CM f _ (.UnaryOp o y pos)) h1 (.of (X1 (ih f y G h2).hx) λ_=>rfl)
theorem WW(ih:Ev g CM n envs e):Ev g CM n envs (.not e):=λf x G h=>yu (P:=λx=>ib g CM f _ x) h λo y pos h=>gX h λh1 h2=>m6 (P:=λo=>ib g CM f _ (.UnaryOp o y pos)) h1 ⟨Xu (ih f y G h2).hx,Xl (ih f y G h2).ht⟩
theorem Wr(T:Top g CM n K d mg mb){op:oH}(ih:Ev g CM n envs e)(ih':Ev g CM n envs e'):Ev g CM n envs (.cmp op e e'):=λf x G h=>uq (P:=λx=>ib g CM f _ x) h λl os rs pos h=>i7 (P:=λos=>ib g CM f _ (.Compare l os rs pos)) h λo h=>i7 (P:=λrs=>ib g CM f _ (.Compare l [o] rs pos)) h λr h=>xD h λh1 h2 h3 h4=>
 LC (P:=λo=>ib g CM f _ (.Compare l [o] [r] pos)) h1 ⟨WM T.C G.hA h2 (ih f l G h3).hx (ih' f r G h4).hx,XP T.C G.hA h2 (ih f l G h3).hx (ih' f r G h4).hx⟩
theorem UO(T:Top g CM n K d mg mb){o1 o2:oH}(ih:Ev g CM n envs e)(ih':Ev g CM n envs e')(ih'':Ev g CM n envs e''):Ev g CM n envs (.r6 e o1 e' o2 e''):=λf x G h=>uq (P:=λx=>ib g CM f _ x) h λl os rs pos h=>xM (P:=λos=>ib g CM f _ (.Compare l os rs pos)) h λp1 p2 h=>xM (P:=λrs=>ib g CM f _ (.Compare l [p1,p2] rs pos)) h λr1 r2 h=>mx h λh1 h2 h=>xD h λh3 h4 h5 h6=>
 LC (P:=λo=>ib g CM f _ (.Compare l [o,p2] [r1,r2] pos)) h1 (LC (P:=λo=>ib g CM f _ (.Compare l [_,o] [r1,r2] pos)) h2 (gX h3 λ_ h3=>⟨Uk T.C G.hA h3 (ih f l G h4).hx (ih' f r1 G h5).hx (ih'' f r2 G h6).hx,Sy T.C G.hA h3 (ih f l G h4).hx (ih' f r1 G h5).hx (ih'' f r2 G h6).hx⟩))
theorem XH(ihs:N4 g CM n envs es):Ev g CM n envs (.and es):=λf x G h=>uj (P:=λx=>ib g CM f _ x) h λo vs pos h=>gX h λh1 h2=>m6 (P:=λo=>ib g CM f _ (.BoolOp o vs pos)) h1
 ⟨λs p tk ρ Q Er K E a h kk ke=>HP (ihs f vs G h2) s p tk ρ pos Q Er K E a h kk ke,λs p tk ρ Q Er K E a h kk ke=>wpAny_isTrue_BoolOp (Lp (ihs f vs G h2) s p tk ρ Q Er K E a h kk ke)⟩
theorem Zt(ihs:N4 g CM n envs es):Ev g CM n envs (.or es):=λf x G h=>uj (P:=λx=>ib g CM f _ x) h λo vs pos h=>gX h λh1 h2=>m6 (P:=λo=>ib g CM f _ (.BoolOp o vs pos)) h1
 ⟨λs p tk ρ Q Er K E a h kk ke=>LA (ihs f vs G h2) s p tk ρ pos Q Er K E a h kk ke,λs p tk ρ Q Er K E a h kk ke=>wpAny_isTrue_BoolOp (Oj (ihs f vs G h2) s p tk ρ Q Er K E a h kk ke)⟩
theorem VP(ih:Ev g CM n envs e)(ih':Ev g CM n envs e')(ih'':Ev g CM n envs e''):Ev g CM n envs (.ite e e' e''):=λf x G h=>Fu (P:=λx=>ib g CM f _ x) h λc t r pos h=>mx h λh1 h2 h3=>⟨V8 (ih f c G h1).ht (ih' f t G h2).hx (ih'' f r G h3).hx,Wj (ih f c G h1).ht (ih' f t G h2).ht (ih'' f r G h3).ht⟩
theorem UI(ihs:N4 g CM n envs es):Ev g CM n envs (.list es):=λf x G h=>F6 (P:=λx=>ib g CM f _ x) h λvs pos h=>.of (Tz (ihs f vs G h)) λ_=>rfl
theorem Xq(ihs:N4 g CM n envs es):Ev g CM n envs (.tup es):=λf x G h=>oQ (P:=λx=>ib g CM f _ x) h λvs k pos h=>.of (Xs (ihs f vs G h)) λ_=>rfl
theorem Tn:Ev g CM n envs .dict:=λf x G h=>Fp (P:=λx=>ib g CM f _ x) h λa b pos h=>gc (P:=λa=>ib g CM f _ (.Dict a b pos)) h λh=>gc (P:=λb=>ib g CM f _ (.Dict [] b pos)) h λ_=>.of UW λ_=>rfl
theorem K9{it:It}(ih:N6 g CM n envs it):Ev g CM n envs (.listOf it):=λf x G h=>gO (P:=λx=>ib g CM f _ x) h λc as kw pos h=>gc (P:=λkw=>ib g CM f _ (.Call c as kw pos)) h λh=>cG (P:=λc=>ib g CM f _ (.Call c as [] pos)) h λy p1 h=>mx h λh1 h2 h3=>
 i7 (P:=λas=>ib g CM f _ (.Call (.Name y p1) as [] pos)) h3 λa h3=>m6 (P:=λy=>kG f.env.scope.names y=true->ib g CM f (.listOf it) (.Call (.Name y p1) [a] [] pos)) h1 (λh2=>.of ((ih f a G h3).lst (W6 h2) p1 pos) λ_=>rfl) h2
theorem DX:N4 g CM n envs .nil:=λf xs G h=>gc (P:=λxs=>g8 g CM f _ xs) h λ_=>.nil
theorem zi(ih:Ev g CM n envs e)(ihs:N4 g CM n envs es):N4 g CM n envs (.cons e es):=λf xs G h=>iJ (P:=λxs=>g8 g CM f _ xs) h λx xs h=>mx h λh1 h2 h3=>.cons e es x xs h1 (ih f x G h2).hx (ih f x G h2).ht (ihs f xs G h3)
theorem Gq(T:Top g CM n K d mg mb)(ih:Ev g CM n envs e):N6 g CM n envs (.plain e):=λf x G h=>mx h λh1 h2 h3=>⟨λt _=>NA T.C G.hA.handled (ih f x G h3).hx,λq _ _=>PK T.C T.N G.hA.handled q h2 (ih f x G h3).hx⟩
theorem FN{it:It}{f:Fr}{x:az}(h:∀ρ,ev CM (.listOf it) ρ=MM.bad):fq g CM f (.listOf it) x:=λs p tk ρ Q Er K E a w _ _=>bA (h ρ▸w:Wp (MM.bad p.σ) Q Er)
theorem vy{it:It}{f:Fr}{m:Str}{q:List az->Bool}{x:az}(h:kh x (λc as kw _=>rR kw (eC c λy=>y==m&&(kG f.env.scope.names y&&q as)))=true)(k:∀p1 pos as,f.env.kindOf m=some .globalImplicit->q as=true->jK g CM f it (.Call (.Name m p1) as [] pos)):jK g CM f it x:=
 gO (P:=λx=>jK g CM f _ x) h λc as kw pos h=>gc (P:=λkw=>jK g CM f _ (.Call c as kw pos)) h λh=>cG (P:=λc=>jK g CM f _ (.Call c as [] pos)) h λy p1 h=>mx h λh1 h2 h3=>m6 (P:=λy=>kG f.env.scope.names y=true->jK g CM f it (.Call (.Name y p1) as [] pos)) h1 (λh2=>k p1 pos as (W6 h2) h3) h2
theorem Ao(T:Top g CM n K d mg mb)(ih:Ev g CM n envs e):N6 g CM n envs (.dU e):=λf x G h=>vy h λp1 pos as hk h=>i7 (P:=λas=>jK g CM f _ (.Call _ as [] pos)) h λa h=>gX h λh1 h2=>
 ⟨λt _=>HR T.C T.N G.hA.handled hk h1 (ih f a G h2).hx,λq _ _=>Ob T.C T.N G.hA.handled q hk h1 (ih f a G h2).hx⟩
theorem Ax(T:Top g CM n K d mg mb)(ih:Ev g CM n envs e)(ih':Ev g CM n envs e'):N6 g CM n envs (.kj e e'):=λf x G h=>vy h λp1 pos as hk h=>xM (P:=λas=>jK g CM f _ (.Call _ as [] pos)) h λa b h=>mx h λh1 h2 h3=>gX h1 λh1 h1'=>
 ⟨λt _=>I4 T.C T.N G.hA.handled hk h1 h1' (ih f a G h2).hx (ih' f b G h3).hx,λq _ _=>FN λ_=>rfl⟩
theorem NC(T:Top g CM n K d mg mb)(ih:Ev g CM n envs e):N6 g CM n envs (.enum e):=λf x G h=>vy h λp1 pos as hk h=>i7 (P:=λas=>jK g CM f _ (.Call _ as [] pos)) h λa h=>gX h λh1 h2=>
 ⟨λt ht=>Qx T.C T.N G.hA.handled hk h1 ht (ih f a G h2).hx,λq _ _=>FN λ_=>rfl⟩
theorem GD(T:Top g CM n K d mg mb)(ih:Ev g CM n envs e):N6 g CM n envs (.items e):=λf x G h=>gO (P:=λx=>jK g CM f _ x) h λc as kw pos h=>gc (P:=λkw=>jK g CM f _ (.Call c as kw pos)) h λh=>gc (P:=λas=>jK g CM f _ (.Call c as [] pos)) h λh=>gy (P:=λc=>jK g CM f _ (.Call c [] [] pos)) h λv m ap h=>xD h λh1 h2 h3 h4=>
 m6 (P:=λm=>jK g CM f _ (.Call (.Attribute v m ap) [] [] pos)) h2 ⟨λt _ s p tk ρ Q E a h=>h.elim,λq _ _=>P7 T.C T.N G.hA.handled q (eq_of_beq h1) h3 (ih f v G h4).hx⟩
variable(T:Top g CM n K d mg mb)
include T
theorem fF(e:Mine.Internal.E):Ev g CM n envs e:=E.rec (motive_1:=Ev g CM n envs) (motive_2:=N4 g CM n envs) (motive_3:=N6 g CM n envs) Te (λ_=>U5) (λ_=>Ya) (λ_=>VS) (λ_=>VY) (λ_=>TX T) (λ_ _=>U9 T) (λ_ _=>Yu) (λ_ _ _ _=>O5) (λ_ _=>TV T) (λ_ _ _=>TM T) (λ_ _ _=>Wn) (λ_=>Yc) (λ_=>WW) (λ_ _ _=>Wr T) (λ_ _ _ _ _=>UO T) (λ_=>XH) (λ_=>Zt) (λ_ _ _=>VP) (λ_=>UI) (λ_=>Xq) Tn (λ_ _ _ _=>DZ) (λ_=>K9)
 DX (λ_ _=>zi) (λ_=>Gq T) (λ_=>Ao T) (λ_ _=>Ax T) (λ_=>NC T) (λ_=>GD T) e
theorem QX:∀it:It,N6 g CM n envs it
 |.plain e=>Gq T (fF T e)
 |.dU e=>Ao T (fF T e)
 |.kj e e'=>Ax T (fF T e) (fF T e')
 |.enum e=>NC T (fF T e)
 |.items e=>GD T (fF T e)
end
theorem bq.rev{α β:Type}{P:α->β->Prop}{as:List α}{bs:List β}(h:bq P as bs):bq P as.reverse bs.reverse:=by
 induction h with
 |nil=>exact .nil
 |cons x _ ih=>rw[kC,kC];exact ih.append (.one x)
theorem vj{i:Nat}{a:Option AV}:∀{is:List Nat}{vs:List AV}{ρ ρ':Loc},i∉is->dC is vs (ρ.set i a)=some ρ'->∃ρ'',dC is vs ρ=some ρ''/\ρ'=ρ''.set i a
 |[],[],ρ,_,_,h=>⟨ρ,rfl,(ae h).symm⟩
 |j::is,v::vs,ρ,_,hi,h=>gS h λhj h=>(vj (λz=>hi (.tail _ z)) ((List.set_comm a (some v) (show i≠j from λe=>hi (e▸.head _)))▸h)).imp λ_ q=>⟨(if_pos (aQ▸hj)).trans q.1,q.2⟩
 |[],_::_,_,_,_,h=>aG h
 |_::_,[],_,_,_,h=>aG h
theorem xi{i:Nat}{v:AV}:∀{is:List Nat}{vs:List AV}{ρ ρ':Loc},dC is vs ρ=some ρ'->i<ρ.length->dC (is++[i]) (vs++[v]) ρ=some (ρ'.set i (some v))
 |[],[],ρ,_,h,hi=>ae h▸if_pos hi
 |j::is,w::vs,ρ,_,h,hi=>gS h λhj h=>(if_pos hj).trans (xi h (aQ.symm▸hi))
 |[],_::_,_,_,h,_=>aG h
 |_::_,[],_,_,h,_=>aG h
theorem x6:∀{is:List Nat}{vs:List AV}{ρ ρ':Loc},is.Nodup->dC is vs ρ=some ρ'->dC is.reverse vs.reverse ρ=some ρ'
 |[],[],_,_,_,h=>h
 |i::is,v::vs,ρ,_,nd,h=>gS h λhi h=>(vj (aJ.mp nd).1 h).elim λρ'' q=>by
  rw[kC,kC,q.2]
  exact xi (x6 (aJ.mp nd).2 q.1) hi
 |[],_::_,_,_,_,h=>aG h
 |_::_,[],_,_,_,h=>aG h
noncomputable def mH(g:Gl)(CM:Fn->List AV->MM AV)(f:Fr)(st:St)(x:bT):Prop:=
 ∀(s:ak)(p:Pt) tk ρ Q Er K E,mQ g f ρ p->Wp (ex CM st ρ p.σ) Q Er->KF g f s p Q K->EF g f s p Er E->wpAny g.M f.A (exec x f.env) K E (p.on s tk)
theorem k8{x:az}{t:Option az}{line:Nat}{env:Env}(h:(!cU x)=true):swapsWith x t line env=pure false:=(NX x).comp h t line env
theorem oi{env:Env}(hk:env.scope.kind=.function):interactive env=false:=by
 unfold interactive;rw[hk];rfl
section
variable{g:Gl}{CM:Fn->List AV->MM AV}{n:Nat}{envs:List Env}{K:cT}{d:Fn->bc}{mg mb:Str->Option ai}{f:Fr}{s:ak}{p:Pt}{tk:Nat}{ρ:Loc}{Er:Nat->Hp->Prop}{E:ai->ak->Prop}{e e':Mine.Internal.E}{x:az}{pos:Pos}
theorem gR.in{ks:Ks}{i:Nat}{t:az}{P:az->Prop}(hn:f.env.scope.names=ks)(h:jH ks f.ns i t=true)(k:∀y pos,gR f (dq f.env) y i->P (.Name y pos)):P t:=yl hn h (λ_ _ _ _=>HX.frame ..) k
theorem xb.in{is:List Nat}{ts:List az}(h:zt f.env.scope.names f.ns is ts=true):xb f (dq f.env) ts is:=zJ rfl h λ_ _ _ _=>HX.frame ..
theorem QF{A:a7}{is:List Nat}{v:AV}{u:ai}{Q:Loc->Hp->Prop}{P:Prop}(hh:A.handled=none)(I:Inv g f.fr p)(hu:VR g.T p.ad v u)(h:Wp (yC CM (.tup is) v ρ p.σ) Q Er)(k:∀vs us ρ',xY g A u us s p tk->eJ g.T p.ad vs us->dC is vs ρ=some ρ'->Q ρ' p.σ->P):P:=
 iq (P:=λv=>VR g.T p.ad v u->P) h (λl h hu=>cw h λo e h=>dB (P:=λu=>(∀vs us ρ',xY g A u us s p tk->eJ g.T p.ad vs us->dC is vs ρ=some ρ'->Q ρ' p.σ->P)->P) hu (λa dd hp k=>(by
  have H:=I.objs l _ e _ hp
  cases o with
  |tup vs=>exact cB h λ_ h=>rZ h λρ' e' q=>match (H:TupAt g p.h p.ad a vs) with|⟨xs,h1,h2,_⟩=>k vs _ ρ' (rN hh h1) h2 e' q
  |list vs=>exact cB h λ_ h=>rZ h λρ' e' q=>match (H:dN g p.h p.ad a vs) with|⟨xs,h1,h2,_,_⟩=>k vs _ ρ' (DJ hh h1) h2 e' q
  |_=>exact bA h)) k) hu
theorem tr{t:Ov}{t':az}{v:AV}{u:ai}{Q:Loc->Hp->Prop}{Kk:Unit->ak->Prop}(T:Top g CM n K d mg mb)(G:Gd n envs f)(ht:T9 f.env.scope.names f.ns t t'=true)(a:mQ g f ρ p)(hu:VR g.T p.ad v u)(h:Wp (yC CM t v ρ p.σ) Q Er)
  (k:∀ρ' p' tk,Q ρ' p'.σ->gH g (dq f.env) f.fr p p'->ba g f ρ' p'->ρ'.length=f.ns.length->Kk () (p'.on s tk)) (ke:EC g [] f.fr (Ji f.L) s p Er E):wpAny g.M f.A (assign t' f.env u) Kk E (p.on s tk):=by
 cases t with
 |loc i=>exact gR.in (P:=λt'=>wpAny g.M f.A (assign t' f.env u) Kk E (p.on s tk)) rfl ht λy pos m=>rZ h λρ' e q=>iQ (by
   cases zO e
   exact ej a.F a.I m.hi m.hk m.hX hu λh' tk S=>k _ ⟨p.σ,p.ad,h'⟩ tk q S.a S.F (aQ.trans a.hl))
 |attr e y=>exact gy (P:=λt'=>wpAny g.M f.A (assign t' f.env u) Kk E (p.on s tk)) ht λo m q ht=>gX ht λh1 h2=>LC (P:=λm=>wpAny g.M f.A (assign (.Attribute o m q) f.env u) Kk E (p.on s tk)) h1 (show wpAny _ _ (do
   let ov<-holding [u] (eval o f.env)
   standAt q.atName
   holding [u,ov] (setAttr ov y.str u)
   release [u,ov] []) _ _ _ from ag (aL ((fF T e f o G h2).hx s p tk ρ _ _ _ _ a (wb h) (λw z p₁ tk₁ h A₁ hz=>ag (bP (ag (aL (vu (T.C.at A₁.I) A₁.I T.C.cls hz (hu.mono A₁.S.ext) (wb h) λp₂ tk₂ q A₂=>wpAny_release' (k ρ p₂ tk₂ q (A₁.trans A₂).of0 (a.F.on (A₁.trans A₂).S) a.hl)))))) ke)))
 |sub e i=>exact mf (P:=λt'=>wpAny g.M f.A (assign t' f.env u) Kk E (p.on s tk)) ht λo j q ht=>mx ht λ_ h1 h2=>(by
   rw[arm_assign_Subscript]
   exact ag (aL ((fF T e f o G h1).hx s p tk ρ _ _ _ _ a (wb h) (λw z p₁ tk₁ h A₁ hz=>ag (aL ((fF T i f j G h2).hx s p₁ tk₁ ρ _ _ _ _ (a.on A₁) (wb h) (λw₂ z₂ p₂ tk₂ h A₂ hz₂=>ag (bP (ag (aL (CV A₂.I (hz.mono A₂.S.ext) hz₂ (hu.mono (A₁.trans A₂).S.ext) (wb h) λp₃ tk₃ q A₃=>wpAny_release' (k ρ p₃ tk₃ q ((A₁.trans A₂).trans A₃).of0 (a.F.on ((A₁.trans A₂).trans A₃).S) a.hl)))))) (ke.on A₁.S)))) ke)))
 |tup is=>exact oQ (P:=λt'=>wpAny g.M f.A (assign t' f.env u) Kk E (p.on s tk)) ht λts kk q ht=>QF G.hA.handled a.I hu h λvs us ρ' O V e q=>mn (.in (gX ht λx _=>x)) O V e a.F a.I λh' tk S=>k ρ' ⟨p.σ,p.ad,h'⟩ tk q S.a S.F ((jk e).1.trans a.hl)
theorem OA:ny g CM f .nil []:=λs p tk ρ Q Er K E a h kk ke=>g5 (kk (.next ρ) .next p tk h (.refl a.I) ⟨rfl,a.F,a.hl⟩)
theorem Ly{st:St}{ss:dH}{y:bT}{ys:List bT}(h1:mH g CM f st y)(h2:ny g CM f ss ys):ny g CM f (.cons st ss) (y::ys):=λs p tk ρ Q Er K E a h kk ke=>
 jq (h1 s p tk ρ _ _ _ _ a (wb h) (λw fl p₁ tk₁ h A₁ r=>(by
  cases w with
  |next ρ'=>
   obtain⟨rfl,F₁,l₁⟩:=r
   exact h2 s p₁ tk₁ ρ' _ _ _ _ ⟨F₁,A₁.I,l₁⟩ h (kk.on A₁.S) (ke.on A₁.S)
  |ret v=>
   obtain⟨u,rfl,hv⟩:=r
   exact kk (.ret v) _ p₁ tk₁ h A₁ ⟨u,rfl,hv⟩)) ke)
theorem OY:mH g CM f .pass (.Pass pos):=λs p tk ρ Q Er K E a h kk ke=>wpAny_Pass (kk (.next ρ) .next p tk h (.refl a.I) ⟨rfl,a.F,a.hl⟩)
theorem Ql(G:Gd n envs f)(hc:(!cU x)=true)(hx:fq g CM f e x):mH g CM f (.expr e) (.Expr x pos):=λs p tk ρ Q Er K E a h kk ke=>
 wpAny_Expr_any (hx s p tk ρ _ _ _ _ a (wb h) (λv u p₁ tk₁ h A₁ hu=>kk (.next ρ) .next p₁ tk₁ h A₁.of0 ⟨rfl,a.F.on A₁.S,a.hl⟩) ke.N0) (oi G.hk) (k8 hc)
theorem Ue(hx:fq g CM f e x):mH g CM f (.ret e) (.Return (some x) pos):=λs p tk ρ Q Er K E a h kk ke=>
 wpAny_Return_some (hx s p tk ρ _ _ _ _ a (wb h) (λv u p₁ tk₁ h A₁ hu=>kk (.ret v) (.ret u) p₁ tk₁ h A₁.of0 ⟨u,rfl,hu⟩) ke.N0)
theorem Ui{c d:dH}{cx dx:List bT}(ht:gj g CM f e x)(hc:ny g CM f c cx)(hd:ny g CM f d dx):mH g CM f (.ite e c d) (.If x cx dx pos):=λs p tk ρ Q Er K E a h kk ke=>
 wpAny_If (ht s p tk ρ _ _ _ _ a ((wb h).mono (λ_ _ h=>wb h) λ_ _ h=>h) (λb u p₁ tk₁ h A₁ eb=>(by
  cases (eb:b=u)
  cases b with
  |true=>exact hc s p₁ tk₁ ρ _ _ _ _ (a.on A₁) h (kk.on A₁.of0.S) (ke.on A₁.of0.S)
  |false=>exact hd s p₁ tk₁ ρ _ _ _ _ (a.on A₁) h (kk.on A₁.of0.S) (ke.on A₁.of0.S))) ke.N0)
theorem LU{c:dH}{cx:List bT}(ht:gj g CM f e x)(hc:ny g CM f c cx):mH g CM f (.o7 e c) (.While x cx [] pos):=λs p tk ρ Q Er K E a h kk ke=>wpAny_While (Ec ht hc a (lS h) kk)
theorem Su{is:List Nat}{it:It}{b:dH}{tx:az}{bx:List bT}(G:Gd n (f.env::envs) f)(hf:f.env.frame=some f.L)(ht:BI f.env.scope.names f.ns is tx=true)(hs:fT x=true)(hit:Ey g CM f it x tx)(hb:ny g CM f b bx):mH g CM f (.for is it b) (.For tx x bx [] pos):=λs p tk ρ Q Er K E a h kk ke=>
 wpAny_For (aR (hit s p tk ρ _ E a (lS (wb h))) (λxv s₁ q=>aR q (λitv s₂ R=>match R with
  |⟨dh,p₁,tk₁,fp,St,q,e,A₁,W,h0,hfp⟩=>e▸JS G.hA hf rfl ht hb W a.F A₁.of0.S hfp h0 (a.on A₁) q kk ke) λ_ _ q=>q) λ_ _ q=>q) (uL hs)
theorem OS{i:Nat}{op:Op}{t:az}(hi:jH f.env.scope.names f.ns i t=true)(hx:fq g CM f e x):mH g CM f (.ze i op e) (.AugAssign t (zf op) x pos):=λs p tk ρ Q Er K E a h kk ke=>
 gR.in (P:=λt=>wpAny g.M f.A (exec (.AugAssign t (zf op) x pos) f.env) K E (p.on s tk)) rfl hi λy py m=>jU (wb h) λo eo h=>K7 (P:=λo=>ρ[i]?=some o->_) h (λv h eo=>wpAny_AugAssign_Name (pY a.F m.hi m.hk eo λu hu=>hx s p tk ρ _ _ _ _ a (wb h) (λw z p₁ tk₁ h A₁ hz=>cB (wb h) λc hm=>(by
  cases c
  refine fA (P:=λv=>VR g.T p.ad v u->_) hm (λa' h hu=>fA (P:=λw=>VR g.T p₁.ad w z->_) h (λb' h hz=>dD hu λt1=>dD hz λt2=>wpAny_iadd_int (rZ (wb h) λρ' e q=>?_)) hz) hu
  cases zO e
  exact ej (a.F.on A₁.S) A₁.I m.hi m.hk m.hX (v:=.int (a'+b')) ⟨_,rfl⟩ λh' tk S=>kk (.next _) .next ⟨p₁.σ,p₁.ad,h'⟩ tk q (A₁.of0.trans S.a) ⟨rfl,S.F,aQ.trans a.hl⟩)) ke.N0)) eo
theorem PV{y:At}{op:Op}{v:az}{py:Pos}(C:Cx g K d)(hv:fq g CM f e v)(hx:fq g CM f e' x):mH g CM f (.B4 e y op e') (.AugAssign (.Attribute v y.str py) (zf op) x pos):=λs p tk ρ Q Er K E a h kk ke=>
 wpAny_AugAssign_AttributeAny (hv s p tk ρ _ _ _ _ a (wb h) (λo u p₁ tk₁ h A₁ hu=>vJ (C.at A₁.I) A₁.I C.cls hu (wb h) λz yv tk' h hy=>hx s p₁ tk' ρ _ _ _ _ (a.on A₁) (wb h) (λw z₂ p₂ tk₂ h A₂ hz=>cB (wb h) λc hm=>(by
  cases c
  refine fA (P:=λz=>VR g.T p₁.ad z yv->_) hm (λa' h hy=>fA (P:=λw=>VR g.T p₂.ad w z₂->_) h (λb' h hz=>dD hy λt1=>dD hz λt2=>wpAny_iadd_int ?_) hz) hy
  exact vu (C.at A₂.I) A₂.I C.cls (hu.mono A₂.S.ext) (w:=.int (a'+b')) ⟨_,rfl⟩ (wb h) λp₃ tk₃ q A₃=>kk (.next ρ) .next p₃ tk₃ q ((A₁.trans A₂).trans A₃).of0 ⟨rfl,a.F.on ((A₁.trans A₂).trans A₃).S,a.hl⟩)) (ke.N0.on A₁.S)) ke.N0)
end
theorem pw{α β:Type}{f g:α->Option β}(k:∀a b,f a=some b->g a=some b):∀{l:List α},(l.filterMap f).length=l.length->l.filterMap f=l.filterMap g
 |[],_=>rfl
 |a::r,h=>by
  rw[dO] at h⊢
  rw[dO]
  cases e:f a with
  |none=>
   rw[e] at h
   have h:(List.filterMap f r).length=r.length+1:=h
   exact absurd (ah (aH h.symm) (z7 f r)) (Nat.not_succ_le_self _)
  |some b=>
   rw[e] at h
   rw[k a b e]
   exact congrArg (b::·) (pw k (i0 h))
inductive Gx(ts:List az)(kk:Nat)(p:Pos)(x:az)(env:Env):Prop where
 |no (h:swappedStores [.Tuple ts kk p] x env=pure none)
 |is (h:swappedStores [.Tuple ts kk p] x env=pure (some (ts.filterMap nameOf?)))
noncomputable def Vb(ts:List az)(m:Sem (Option (List Str))):Prop:=m=pure none\/m=pure (some (ts.filterMap nameOf?))
theorem Nn{α:Type}{c:Prop}[Decidable c]{a b:α}{P:α->Prop}(h1:c->P a)(h2:¬c->P b):P (if c then a else b):=if h:c then(if_pos h).symm▸h1 h else(if_neg h).symm▸h2 h
theorem Du{ts:List az}{kk:Nat}{p:Pos}{x:az}{env:Env}(h:nT (.Tuple ts kk p) x=true):Gx ts kk p x env:=
 if q:x.ctorIdx=25 then gi (motive_1:=λx=>nT (.Tuple ts kk p) x=true->Gx ts kk p x env) x q (λvs k2 p2 h=>(by
  have h:vs.all (constantsAlone 8)=false:=cJ h
  have e:Vb ts (swappedStores [.Tuple ts kk p] (.Tuple vs k2 p2) env):=by
   refine Nn (P:=Vb ts) (λ_=>.inl rfl) λ_=>Nn (P:=Vb ts) (λ_=>.inl rfl) λ_=>Nn (P:=Vb ts) (λ_=>.inl rfl) λhq=>Nn (P:=Vb ts) (λ_=>.inl rfl) λ_=>Nn (P:=Vb ts) (λz=>nomatch h.symm.trans z) λ_=>.inr (congrArg (λl=>pure (some l)) (pw (λa b e=>?_) (bne_eq_false_iff_eq.mp (E5.mp (eq_false_of_ne_true hq)).1)))
   cases a with
   |Name id pos=>exact gS e λ_ e=>e
   |_=>exact aG e
  exact e.elim .no .is)) h
 else .no ((NX x).sws q ts kk p env)
theorem DY{eltx:az}{gens:List G7}{scope:rz}{pos:Pos}{t:az}{line:Nat}{env:Env}{P:az->Prop}(k1:swapsWith (.ListComp eltx gens scope pos) (some t) line env=pure false->P t)(k2:∀y p,swapsWith (.ListComp eltx gens scope pos) (some (.Name y p)) line env=pure true->P (.Name y p)):P t:=
 if q:t.ctorIdx=23 then jb (motive_1:=λt=>(swapsWith (.ListComp eltx gens scope pos) (some t) line env=pure false->P t)->P t) t q (λy p k1=>
  have e:swapsWith (.ListComp eltx gens scope pos) (some (.Name y p)) line env=pure (env.blockKind==.function&&env.kindOf y==some .local&&p.line==pos.line&&!(scope.names.any λ(n,k)=>n==y&&(k==.local||k==.cell))):=rfl
  (Bool.eq_false_or_eq_true _).elim (λq=>k2 y p (e.trans (congrArg pure q))) λq=>k1 (e.trans (congrArg pure q))) k1
 else k1 ((NX t).swp q eltx gens scope pos line env)
theorem Mn{t':az}{env:Env}(h:notStar t'=true):(assignEach [t'] env).map (·.2)=[assign t' env]:=(NX t').each h env
section
variable{M:fY}{A:a7}{E:ai->ak->Prop}{s:ak}{env:Env}{x t':az}{pos:Pos}{Q:Ha->ak->Prop}
theorem jd(hsw:swapsWith x (some t') pos.line env=pure false)(hss:swappedStores [t'] x env=pure none)(hst:notStar t'=true)
  (h:wpAny M A (eval x env) (λv s₁=>wpAny M A (assign t' env v) (λ_=>Q .next) E s₁) E s):wpAny M A (exec (.Assign [t'] x pos) env) Q E s:=by
 have e1:swapsWithSole [t'] x pos.line env=pure false:=hsw
 show wpAny M A (do
  standAt pos
  if<-swapsWithSole [t'] x pos.line env then do
   evalThenUse x env λv=>assignAll v ((assignEach [t'] env).map (·.2))
   pure .next
  else do
   let v<-eval x env
   assignStores env v (<-swappedStores [t'] x env) ((assignEach [t'] env).map (·.2))) Q E s
 rw[e1,hss,Mn hst]
 refine ag (bP (ag (ao (ag (aR h (λv s₁ hv=>ag (ao ?_)) λ_ _ q=>q)))))
 show wpAny M A (do assign t' env v;pure .next) Q E s₁
 exact ag (aR hv (λ_ _ q=>ao q) λ_ _ q=>q)
theorem BZ{ts:List az}{kk:Nat}{p:Pos}{names:List Str}(hsw:swapsWith x (some (.Tuple ts kk p)) pos.line env=pure false)(hss:swappedStores [.Tuple ts kk p] x env=pure (some names))
  (h:wpAny M A (eval x env) (λv s₁=>wpAny M A (unpackItems v names.length none) (λitems s₂=>wpAny M A (assignInOrder (names.reverse.map λn=>bindName env n) items.reverse) (λ_=>Q .next) E s₂) E s₁) E s):wpAny M A (exec (.Assign [.Tuple ts kk p] x pos) env) Q E s:=by
 have e1:swapsWithSole [.Tuple ts kk p] x pos.line env=pure false:=hsw
 show wpAny M A (do
  standAt pos
  if<-swapsWithSole [.Tuple ts kk p] x pos.line env then do
   evalThenUse x env λv=>assignAll v ((assignEach [.Tuple ts kk p] env).map (·.2))
   pure .next
  else do
   let v<-eval x env
   assignStores env v (<-swappedStores [.Tuple ts kk p] x env) ((assignEach [.Tuple ts kk p] env).map (·.2))) Q E s
 rw[e1,hss]
 refine ag (bP (ag (ao (ag (aR h (λv s₁ hv=>ag (ao ?_)) λ_ _ q=>q)))))
 show wpAny M A (do
  rule "assign.swapped-stores"
  let items<-unpackItems v names.length none
  assignInOrder (names.reverse.map λn=>bindName env n) items.reverse
  pure .next) Q E s₁
 exact ag (uy (ag (aR hv (λitems s₂ q=>ag (aR q (λ_ _ q=>ao q) λ_ _ q=>q)) λ_ _ q=>q)))
end
section
variable{g:Gl}{CM:Fn->List AV->MM AV}{n:Nat}{envs:List Env}{K:cT}{d:Fn->bc}{mg mb:Str->Option ai}{f:Fr}{e:Mine.Internal.E}{x t':az}{pos:Pos}{tg:Ov}
theorem Ep{is:List Nat}{xs:List Str}(H:bq (gR f (dq f.env)) xs is):bq (uf f (dq f.env)) (xs.map λn=>bindName f.env n) is:=by
 induction H with
 |nil=>exact .nil
 |cons h _ ih=>exact .cons ⟨_,h,λ_ _ _ _ _ _ q=>wpAny_bindName q⟩ ih
noncomputable def LD(g:Gl)(CM:Fn->List AV->MM AV)(f:Fr)(tg:Ov)(e:Mine.Internal.E)(x:az)(pos:Pos)(t':az):Prop:=
 swapsWith x (some t') pos.line f.env=pure false->nT t' x=true->(swappedStores [t'] x f.env=pure none->notStar t'=true->mH g CM f (.assign tg e) (.Assign [t'] x pos))->mH g CM f (.assign tg e) (.Assign [t'] x pos)
theorem UK(T:Top g CM n K d mg mb)(G:Gd n envs f)(ht:T9 f.env.scope.names f.ns tg t'=true)(hx:fq g CM f e x):LD g CM f tg e x pos t':=by
 cases tg with
 |loc i=>exact gR.in (P:=LD g CM f _ e x pos) rfl ht λ_ _ _ _ _ plain=>plain rfl rfl
 |attr o y=>exact gy (P:=LD g CM f _ e x pos) ht λ_ _ _ _ _ _ plain=>plain rfl rfl
 |sub o i=>exact mf (P:=LD g CM f _ e x pos) ht λ_ _ _ _ _ _ plain=>plain rfl rfl
 |tup is=>exact oQ (P:=LD g CM f _ e x pos) ht λts kk q ht hsw hw plain=>match Du (env:=f.env) hw with
  |.no hss=>plain hss rfl
  |.is hss=>λs p tk ρ Q Er K E a h kk ke=>BZ hsw hss (hx s p tk ρ _ _ _ _ a (wb h) (λv u p₁ tk₁ h A₁ hu=>QF G.hA.handled A₁.I hu (wb h) λvs us ρ' O V e q=>gX ht λht hnd=>by
    have TN:=(xb.in ht).nm
    rw[TN.len,(jk e).2,V.len]
    exact O _ _ λh' k'=>vd (p:=⟨p₁.σ,p₁.ad,h'⟩) (Ep TN.rev) (V.rev) (x6 (of_decide_eq_true (gX hnd λx _=>x)) e) ((a.F.on A₁.S).on (.of_keeps k')) (A₁.I.keeps k') λh'' tk' S=>kk (.next ρ') .next ⟨p₁.σ,p₁.ad,h''⟩ tk' q ((A₁.trans (.keeps A₁.I k')).of0.trans S.a) ⟨rfl,S.F,(jk e).1.trans a.hl⟩) ke.N0)
theorem KW(T:Top g CM n K d mg mb)(G:Gd n envs f)(ht:T9 f.env.scope.names f.ns tg t'=true)(hw:nT t' x=true)(hx:fq g CM f e x)(hsw:swapsWith x (some t') pos.line f.env=pure false):mH g CM f (.assign tg e) (.Assign [t'] x pos):=
 UK T G ht hx hsw hw λhss hst s p tk ρ Q Er K E a h kk ke=>jd hsw hss hst (hx s p tk ρ _ _ _ _ a (wb h) (λv u p₁ tk₁ h A₁ hu=>tr T G ht (a.on A₁) hu (wb h) (λρ' p₂ tk₂ q A₂ F₂ hl=>kk (.next ρ') .next p₂ tk₂ q (A₁.of0.trans A₂) ⟨rfl,F₂,hl⟩) (ke.N0.on A₁.S)) ke.N0)
theorem Pa{ks:Ks}{ns:List Str}{P:Mine.Internal.E->Prop}(h:i8 ks ns e x=true)(k:(!cU x)=true->P e)(kc:∀elt m it cond,i8 ks ns (.comp elt m it cond) x=true->P (.comp elt m it cond)):P e:=by
 cases e with
 |comp elt m it cond=>exact kc elt m it cond h
 |loc i=>exact k (cG (P:=λx=>(!cU x)=true) h λ_ _ _=>rfl)
 |glob i=>exact k (cG (P:=λx=>(!cU x)=true) h λ_ _ _=>rfl)
 |attr=>exact k (gy (P:=λx=>(!cU x)=true) h λ_ _ _ _=>rfl)
 |sub=>exact k (mf (P:=λx=>(!cU x)=true) h λ_ _ _ _=>rfl)
 |slice=>exact k (mf (P:=λx=>(!cU x)=true) h λ_ _ _ _=>rfl)
 |call=>exact k (gO (P:=λx=>(!cU x)=true) h λ_ _ _ _ _=>rfl)
 |wZ=>exact k (gO (P:=λx=>(!cU x)=true) h λ_ _ _ _ _=>rfl)
 |listOf=>exact k (gO (P:=λx=>(!cU x)=true) h λ_ _ _ _ _=>rfl)
 |bin=>exact k (FK (P:=λx=>(!cU x)=true) h λ_ _ _ _ _=>rfl)
 |neg=>exact k (yu (P:=λx=>(!cU x)=true) h λ_ _ _ _=>rfl)
 |not=>exact k (yu (P:=λx=>(!cU x)=true) h λ_ _ _ _=>rfl)
 |cmp=>exact k (uq (P:=λx=>(!cU x)=true) h λ_ _ _ _ _=>rfl)
 |r6=>exact k (uq (P:=λx=>(!cU x)=true) h λ_ _ _ _ _=>rfl)
 |and=>exact k (uj (P:=λx=>(!cU x)=true) h λ_ _ _ _=>rfl)
 |or=>exact k (uj (P:=λx=>(!cU x)=true) h λ_ _ _ _=>rfl)
 |ite=>exact k (Fu (P:=λx=>(!cU x)=true) h λ_ _ _ _ _=>rfl)
 |list=>exact k (F6 (P:=λx=>(!cU x)=true) h λ_ _ _=>rfl)
 |tup=>exact k (oQ (P:=λx=>(!cU x)=true) h λ_ _ _ _=>rfl)
 |dict=>exact k (Fp (P:=λx=>(!cU x)=true) h λ_ _ _ _=>rfl)
 |_=>exact k (ij (P:=λx=>(!cU x)=true) h λ_ _ _ _=>rfl)
theorem Ik(T:Top g CM n K d mg mb)(G:Gd n envs f)(ht:T9 f.env.scope.names f.ns tg t'=true)(hw:nT t' x=true)(h:i8 f.env.scope.names f.ns e x=true):mH g CM f (.assign tg e) (.Assign [t'] x pos):=
 Pa (P:=λe=>fq g CM f e x->mH g CM f (.assign tg e) (.Assign [t'] x pos)) h (λhc hx=>KW T G ht hw hx (k8 hc))
  (λelt m it cond h hx=>AZ (P:=λx=>fq g CM f (.comp elt m it cond) x->nT t' x=true->mH g CM f (.assign tg (.comp elt m it cond)) (.Assign [t'] x pos)) (fF T elt) (QX T it) (fF T cond) G h (λxs scope t eltx iter ifs cpos hm Z hx hw=>
   DY (P:=λt'=>T9 f.env.scope.names f.ns tg t'=true->nT t' _=true->mH g CM f (.assign tg (.comp elt m it cond)) (.Assign [t'] _ pos)) (λhsw ht hw=>KW T G ht hw hx hsw) (λy py hsw ht hw=>(by
    subst hm
    cases tg with
    |loc i=>exact gX (show(bg f.ns y==some i&&kL f.env.scope.names y)=true from ht) λh1 h2 s p tk ρ Q Er K E a h kk ke=>AB G.hA.handled Z hsw a (wb h) ⟨eq_of_beq h1,Fj rfl h2,HX.frame ..⟩ λv p' tk' q A' F'=>rZ (wb q) λρ' e q=>(by
      cases zO e
      exact kk (.next _) .next p' tk' q A' ⟨rfl,F',aQ.trans a.hl⟩)
    |_=>exact ft ht)) ht hw) hx hw) (fF T e f x G h).hx
end
structure qQ(T:Tab)(K:cT):Prop where
 base:∀c:bF,c.isExc=true→subIn K (.ref (T.bZ c)) (.type "BaseException")=some true
 ty:∀c:bF,c.isExc=true→typeIn K (.ref (T.bZ c))=some (.type "type")
structure nN(K:cT)(C:ax)(c:bF):Prop where
 cd:(clsIn K C).any (·.hasDict)=true
 ga:findIn K (.ref C) "__getattribute__"=some (some (.builtin "BaseException.__getattribute__"))
 gt:findIn K (.ref C) "__getattr__"=some none
 no:∀x∈c.fields,findIn K (.ref C) x.str=some none
structure gK(T:Tab)(K:cT):Prop where
 mat:∀c c1:bF,c.leaf=true->c1.leaf=true->exmOne K (.ref (T.bZ c)) (.ref (T.bZ c1))=some (decide (c=c1))
 at_:∀c:bF,c.leaf=true->nN K (T.bZ c) c
theorem AO{c:bF}(h:c.leaf=true):c.isExc=true:=by cases c<;>first|rfl|exact ft h
section
variable{M:fY}{A:a7}{K:cT}{E:ai->ak->Prop}{s:ak}{env:Env}
inductive Nr(K:cT)(E:ai->ak->Prop)(v:ai)(s:ak):Prop where
 |mk (a:ax) (C:ai) (d:Option ax) (vs:Array ai) (sl:Array (Option ai)) (e:v=.ref a) (X:K.In s.heap) (h:s.heap.get? a=some ⟨C,d,.fields vs,sl⟩) (h1:vs[1]?=some .none) (h2:subIn K C (.type "BaseException")=some true) (h3:typeIn K C=some (.type "type")) (k:E (.ref a) s)
theorem Hr{x:Sem ai}{Q:Ha->ak->Prop}(hh:A.handled=none)(h:wpAny M A x (Nr K E) E s):wpAny M A (raiseStmt env (some x) none) Q E s:=by
 unfold raiseStmt
 refine ag (aR h (λv s₁ h₁=>?_) λ_ _ x=>x)
 obtain⟨a,C,d,vs,sl,rfl,X,he,h1,h2,h3,hE⟩:=h₁
 obtain⟨hp,g,dr,tk,os⟩:=s₁
 have LT:rF M hp (typeOf (.ref a)) C:=(Looks.ld (part:=none) he).andThen .now
 have LI:rF M hp (isType (.ref a)) false:=(Looks.ld he).andThen .now
 have LB:rF M hp (isInstance (.ref a) (.type "BaseException")) true:=LT.andThen (looks_subIn X h2)
 have LX:rF M hp (isExcClass (.ref a)) false:=LI.andThen .now
 have LE:rF M hp (excFromValue (.ref a) "exceptions must derive from BaseException") (.ref a):=LX.andThen (LB.andThen .now)
 have LR:rF M hp (raisedInstance (.ref a)) (.ref a):=LT.andThen ((looks_typeIn X h3).andThen .now)
 refine ag (ao (ag (aL (LE.at (ag (LI.at (ag (LR.at ?_))))))))
 unfold setFlight
 exact ag (ag (fH he rfl h1 (ao (wpAny_raiseNew_none hh hE))))
variable{prog:fK}{w:ky}{x C:ax}{ox:Obj}{od:Option Obj}{name:Str}{expr:Bool}{Q:ai->ak->Prop}
theorem xd{M:fY}{qr:ai}{Q:Unit→ak→Prop}(X:K.In s.heap)(I:InstAt s.heap x ox C od)(hb:subIn K (.ref C) (.type "BaseException")=some true)(hq:Q () s):wpAny M A (checkBuiltinCall "BaseException.__getattribute__" ⟨[.ref x,qr],[]⟩) Q E s:=by
 obtain⟨h,g,d,t,os⟩:=s
 have hk:builtinKind "BaseException.__getattribute__"=some .slot:=by decide+kernel
 have hsplit:splitId "BaseException.__getattribute__"=some ("BaseException","__getattribute__"):=by decide+kernel
 have LB:rF M h (isInstance (.ref x) (.type "BaseException")) true:=I.type.andThen (looks_subIn X hb)
 have ha:=PySem.F.args_bexc_ga (.ref x) qr
 delta checkBuiltinCall
 rw[hk,hsplit]
 refine ag (LB.at ?_)
 repeat (first|exact hq|wp_step)
theorem Qm{v:ai}(X:K.In s.heap)(I:InstAt s.heap x ox C od)(hga:findIn K (.ref C) "__getattribute__"=some (some (.builtin "BaseException.__getattribute__")))(hgt:findIn K (.ref C) "__getattr__"=some none)(hb:subIn K (.ref C) (.type "BaseException")=some true)
  (hf:findObj K C od name=some (.value v)) (hh:handedIn v=true) (h:Q v {s with toks:=s.toks+1}):wpAny (model prog w) A (getAttr (.ref x) name expr) Q E s:=by
 obtain⟨hp,g,d,t,os⟩:=s
 have L0:=I.type (M:=model prog w)
 have L1:=kB (M:=model prog w) X hga
 have L2:=kB (M:=model prog w) X hgt
 have L3:=looks_find (M:=model prog w) X I hf
 unfold getAttr getAttrBy
 refine ag (kA (aL (ag (L0.at (ag (L1.at ?_))))))
 show wpAny _ _ (if(onTheHeap (.ref C)&&ql "BaseException.__getattribute__"==.builtin "object.__getattribute__")=true then _ else _) _ _ _
 have hne:(ql "BaseException.__getattribute__"==ql "object.__getattribute__")=false:=by decide+kernel
 rw[if_neg (by rw[hne,xe];decide)]
 unfold getAttrByItsOwn hookBefore
 refine ag (L2.at ?_)
 refine ag (wpAny_attempt (aL ?_))
 unfold callGetattribute
 rw[if_neg (by cases expr<;>decide)]
 unfold boundAndCalled
 rw[uC.ga.bind]
 refine ag (ao ?_)
 refine pI (rG uC.ga.plain PySem.F.entry_bexc_ga (xd X I hb ?_))
 unfold pG.«object.__getattribute__» slotArgs
 refine ag (ao ?_)
 refine ag (ao ?_)
 refine ag (L0.at (ag (L3.at ?_)))
 refine ao ?_
 show wpAny _ _ (handedOut v) _ _ _
 rw[handedOut_of hh];exact ao h
end
section
variable{g:Gl}{CM:Fn->List AV->MM AV}{n:Nat}{envs:List Env}{K:cT}{d:Fn->bc}{mg mb:Str->Option ai}{f:Fr}{s:ak}{p:Pt}{tk:Nat}{ρ:Loc}{E:ai->ak->Prop}{A:a7}{e:Mine.Internal.E}{x:az}{pos:Pos}
theorem Inv.iG{l:Nat}{q:ax×ax}{c:bF}{fs:List AV}{fr:List ax}(I:Inv g fr p)(hp:p.ad[l]?=some q)(H:xQ g p.h p.ad q.1 q.2 c fs):Inv g fr ⟨p.σ.set l (.iG c fs),p.ad,p.h⟩:=
 ⟨I.len.trans (aQ).symm,λl' o' eo q' hp'=>(F8 eo).elim (λz=>iH.cast (cu hp (z.1▸hp')).symm z.2 H) λz=>I.objs l' o' z.2 q' hp',I.wQ,I.off,I.stays,I.MI⟩
theorem Jz(C:Cx g K d)(XF:qQ g.T K)(hA:f.A.handled=none)(hx:fq g CM f e x):mH g CM f (.raise e) (.Raise (some x) none pos):=λs p tk ρ Q Er K' E a h kk ke=>by
 show wpAny _ _ (do
  standAt pos
  raiseStmt f.env (some (do let v<-eval x f.env;standAt pos;pure v)) none) _ _ _
 refine ag (bP (Hr (K:=K) hA (ag (hx s p tk ρ _ _ _ _ a (wb h) (λv u p₁ tk₁ h A₁ hu=>ag (bP (ao ?_))) ke.N0))))
 refine iq (P:=λv=>VR g.T p₁.ad v u->_) h (λl h hu=>cw h λo eo h=>uw (P:=λo=>p₁.σ[l]?=some o->_) h (λc fs h eo=>cB h λhc q=>dB hu λad dd hp=>?_) eo) hu
 have H:j3 g p₁.h p₁.ad ad dd c fs:=A₁.I.objs l _ eo _ hp
 have S:iM (dq f.env) f.fr p p₁:=A₁.S.of0
 exact match H.exc hc with
  |⟨vs,sl,q5,q6,q7⟩=>⟨ad,_,_,vs,sl,rfl,C.at A₁.I,q5,q7,XF.base c hc,XF.ty c hc,ke l ⟨p₁.σ.set l (.iG c fs),p₁.ad,p₁.h⟩ tk₁ ad q ⟨⟨A₁.I.iG hp ⟨⟨vs,sl,q5,q6,trivial⟩,H.fs⟩,S.ext,S.kp,S.new⟩,⟨dd,hp,c,fs,a9 (aq.mp eo).1⟩,_,_,vs,sl,q5,q6,.inl q7⟩⟩
theorem EB{l:Nat}{c:bF}{fs:List AV}{y:At}{i:Nat}{v:AV}{u:ai}{Kk:ai->ak->Prop}{expr:Bool}{fr:List ax}(X:K.In p.h)(XF:qQ g.T K)(I:Inv g fr p)(CF:nN K (g.T.bZ c) c)(hc:c.isExc=true)
  (ho:p.σ[l]?=some (.iG c fs)) (hi:lO c.fields y=some i) (hv:fs[i]?=some v) (hu:VR g.T p.ad (.ref l) u) (k:∀z tk,VR g.T p.ad v z->Kk z (p.on s tk)):wpAny g.M A (getAttr u y.str expr) Kk E (p.on s tk):=
 dB hu λa dd hp=>match (I.objs l _ ho _ hp:xQ g p.h p.ad a dd c fs) with
 |⟨⟨vs,sl,e,_,_⟩,⟨xs,m,hd,H⟩⟩=>(vh (gM c) H hi hv).elim λd' q=>(wx CF.cd).elim λcd hcd=>
  Qm (ox:=⟨.ref (g.T.bZ c),some dd,.fields vs,sl⟩) (od:=some (dictOf xs m)) X ⟨e,rfl,rfl,hd⟩ CF.ga CF.gt (XF.base c hc) (v:=d'.val) (Bn hcd.1 hcd.2 (CF.no y (av (jD hi))) q.1) (tw q.2) (k _ _ q.2)
theorem C6{y:Str}{i:Nat}{Kk:Unit->ak->Prop}(F:ba g f ρ p)(I:Inv g f.fr p)(hl:ρ.length=f.ns.length)(hi:bg f.ns y=some i)(hk:f.env.kindOf y=some .local)
  (k:∀h' tk,BH g f (dq f.env) p (ρ.set i none) h'->Kk () (Pt.on ⟨p.σ,p.ad,h'⟩ s tk)):wpAny g.M A (do bindName f.env y .none;unbindBehindTheSuite f.env y pos) Kk E (p.on s tk):=by
 refine ag (wpAny_bindName (ej F I hi (.inl hk) (HX.frame f.env y) (v:=.none) rfl λh₁ tk₁ S=>?_))
 unfold unbindBehindTheSuite
 refine wpAny_onRaise ?_
 have hil:i<ρ.length:=hl▸(aq.mp (dP hi)).1
 refine S.F.loc.elim λm q=>(q.2 y i .none hi hk (a9 hil)).elim λu hu=>wpAny_unbindName_local hk q.1 hu.1 (by rw[F.kind];rfl) λh₂ u₂ hn₂ hs₂=>k h₂ tk₁ (S.trans ?_)
 have L:∃o,h₂.get? f.env.locals=some o/\∀vs,o.data≠.fields vs:=match hn₂ with|⟨o,es,ep,h1,h2,_,_⟩=>⟨o,h1,λvs q=>nomatch (h2.symm.trans q)⟩
 have back:∀{j:Nat}{b:AV},(ρ.set i none)[j]?=some (some b)->j≠i/\(ρ.set i (some .none))[j]?=some (some b):=λ{j b} q3=>if z:i=j then(by subst z;exact aG (cu (a9 hil) q3)) else⟨λw=>z w.symm,(bS z).trans ((bS z).symm.trans q3)⟩
 refine⟨⟨S.a.I.BA (λb o e q=>(hs₂.2 b λz=>q.elim (λq=>S.F.r8.1 (z▸q)) λq=>q.elim λo' q=>aX S.F.r8.2 (z▸q)).trans e) λb _ o e z=>if q:b=f.env.locals then q▸L else⟨o,(hs₂.2 b q).trans e,z⟩,.Kw (.head _) hs₂ (L.elim λo z=>⟨o,z.1⟩)⟩,λb o nb e=>(hs₂.2 b λq=>nb (q▸.head _)).trans e,
  F.kind,F.glob,F.bi,⟨_,hn₂,λy' j b q1 q2 q3=>(q.2 y' j b q1 q2 (back q3).2).elim λu' r=>⟨u',(if_neg λz=>(back q3).1 (ae ((z▸q1.symm).trans hi))).trans r.1,r.2⟩⟩,λy' j q1 q2=>(S.F.M4 y' j q1 q2).elim λc r=>⟨c,r.1,λo z e1 e2 b q3=>match S.F.mc y' c r.1 with
   |⟨_,_,_,nl,_,_,_,_⟩=>r.2 o z ((hs₂.2 c nl).symm.trans e1) e2 b (back q3).2⟩,F.r8,λy' c q=>match S.F.mc y' c q with|⟨n1,n2,n3,n4,o,z,e1,e2⟩=>⟨n1,n2,n3,n4,o,z,(hs₂.2 c n4).trans e1,e2⟩,F.dist⟩
end
structure zS(f:Fr)(k i:Nat)(c1 c2:bF)(t0 t1 t2 x0:az)(n1 n2 v1:Str):Prop where
 o0:jH f.env.scope.names f.ns k t0=true
 o1:jH f.env.scope.names f.ns k t1=true
 o2:jH f.env.scope.names f.ns k t2=true
 comp:(!cU x0)=true
 nm1:n1=c1.dW
 nm2:n2=c2.dW
 l1:c1.leaf=true
 l2:c2.leaf=true
 k1:kG f.env.scope.names n1=true
 k2:kG f.env.scope.names n2=true
 d1:sY n1=true
 d2:sY n2=true
 dv:sY v1=true
 iv:bg f.ns v1=some i
 kv:f.env.kindOf v1=some .local
theorem zS.of{f:Fr}{k i:Nat}{c1 c2:bF}{t0 t1 t2 x0:az}{n1 n2 v1:Str}(h:RN f.env.scope.names f.ns k i c1 c2 t0 t1 t2 x0 n1 n2 v1=true):zS f k i c1 c2 t0 t1 t2 x0 n1 n2 v1:=
 gX h λh h'=>mx h λa1 a2 a3=>mx h' λa4 h h'=>xD h λb1 b2 b3 b4=>gX h' λh h'=>Za h λd1 d2 d3 d4 d5=>gX h' λe1 e2=>⟨a1,a2,a3,a4,eq_of_beq b1,eq_of_beq b2,b3,b4,d1,d2,d3,d4,d5,eq_of_beq e1,eq_of_beq e2⟩
noncomputable def SQ(r:R AV)(ρ:Loc)(k:Nat)(c1:bF)(i:Nat)(x:At)(c2:bF)(t:S):R pM:=match r with
 |.ok v σ'=>.ok (.next (ρ.set k (some v))) σ'
 |.err e σ'=>vN ρ k c1 i x c2 t e σ'
 |.bad=>.bad
section
variable{g:Gl}{CM:Fn->List AV->MM AV}{n:Nat}{envs:List Env}{K:cT}{d:Fn->bc}{mg mb:Str->Option ai}{f:Fr}{s:ak}{p p':Pt}{tk:Nat}{ρ:Loc}{E:ai->ak->Prop}{A:a7}{e:Mine.Internal.E}{x:az}{pos:Pos}{Q:pM->Hp->Prop}{Er:Nat->Hp->Prop}{k i:Nat}{c1 c2:bF}{y:At}{t:S}
theorem Wf{r:R AV}(h:Wp (SQ r ρ k c1 i y c2 t) Q Er):Wp r (λv σ=>Q (.next (ρ.set k (some v))) σ) (λe σ=>Wp (vN ρ k c1 i y c2 t e σ) Q Er):=
 R.casesOn (motive:=λr=>Wp (SQ r ρ k c1 i y c2 t) Q Er->Wp r (λv σ=>Q (.next (ρ.set k (some v))) σ) (λe σ=>Wp (vN ρ k c1 i y c2 t e σ) Q Er)) r (λ_ _ h=>h) (λ_ _ h=>h) (λh=>h) h
theorem ba.mark(F:ba g f ρ p)(A:a7):ba g ⟨A,f.fr,f.env,f.L,f.ns⟩ ρ p:=⟨F.kind,F.glob,F.bi,F.loc,F.M4,F.r8,λx c q=>match F.mc x c q with|⟨n1,n2,n3,n4,o,u,e1,e2⟩=>⟨n1,n2,n3,n4,o,u,e1,e2⟩,F.dist⟩
theorem mQ.mark(a:mQ g f ρ p)(A:a7):mQ g ⟨A,f.fr,f.env,f.L,f.ns⟩ ρ p:=⟨a.F.mark A,a.I,a.hl⟩
inductive YV(g:Gl)(f:Fr)(s:ak)(ρ:Loc)(i:Nat)(K:Ha->ak->Prop)(u:ai)(s₁:ak):Prop where
 |mk (v:AV) (p':Pt) (tk:Nat) (e:s₁=p'.on s tk) (F:ba g f ρ p') (I:Inv g f.fr p') (hv:VR g.T p'.ad v u) (k:∀h' tk,BH g f (dq f.env) p' (ρ.set i (some v)) h'->K .next (Pt.on ⟨p'.σ,p'.ad,h'⟩ s tk))
theorem zQ{t':az}{K:Ha->ak->Prop}{s₀:ak}(ht:jH f.env.scope.names f.ns i t'=true)(hc:(!cU x)=true)(h:wpAny g.M A (eval x f.env) (YV g f s ρ i K) E s₀):wpAny g.M A (execs [.Assign [t'] x pos] f.env) K E s₀:=
 gR.in (P:=λt'=>wpAny g.M A (execs [.Assign [t'] x pos] f.env) K E s₀) rfl ht λz q m=>jq (jd (k8 hc) rfl rfl (aR h (λu s₁ q=>match q with
  |⟨v,p',tk,e,F,I,hv,k⟩=>e▸iQ (ej F I m.hi m.hk m.hX hv λh' tk S=>g5 (k h' tk S))) λ_ _ q=>q))
theorem Nc{a b:Option AV}(h:i≠k):((ρ.set i a).set k b).set i none=(ρ.set k b).set i none:=by rw[List.set_comm a b h,List.set_set]
theorem uH{e₀:Nat}{ea:ax}{t0 x0 t1 t2:az}{n1 v1 n2:Str}{p2 p3 p4 p5 p6 p7 p8 p9 pa:Pos}{m:Nat}{Kk:Ha->ak->Prop}(T:Top g CM n K d mg mb)(XF:qQ g.T K)(CF:gK g.T K)(H:zS f k i c1 c2 t0 t1 t2 x0 n1 n2 v1)(hc:i≠k/\i<ρ.length/\k<ρ.length/\c1≠c2)
  (a:mQ g f ρ p) (o:ym g [] f.fr (·=.none) p e₀ p' ea) (h:Wp (vN ρ k c1 i y c2 t e₀ p'.σ) Q Er) (kk:KF g f s p Q Kk):
  wpAny g.M f.A (handleBy (.ref ea) f.env [.ExceptHandler (some (.Name n1 p2)) (some v1) [.Assign [t1] (.Attribute (.Name v1 p3) y.str p4) p5] p6,.ExceptHandler (some (.Name n2 p7)) none [.Assign [t2] (.Constant (.str (strOf t)) m p8) p9] pa]) Kk E (p'.on s tk):=by
 obtain⟨dd,hp,c',fs',hfl⟩:=o.f
 refine cw h λob eo h=>NS (P:=λob=>p'.σ[e₀]?=some ob->_) h (λc fs h eo=>?_) eo
 have hleaf:c.leaf=true:=qR h (λz _=>z▸H.l1) λ_ h=>cB h λz _=>z▸H.l2
 have a':mQ g f ρ p':=a.on o.af
 have X:=T.C.at a'.I
 obtain⟨⟨vs,sl,eO,h6,_⟩,_⟩:=(a'.I.objs e₀ _ eo _ hp:xQ g p'.h p'.ad ea dd c fs)
 have LT:∀M:fY,rF M p'.h (typeOf (.ref ea)) (.ref (g.T.bZ c)):=λM=>(Looks.ld (part:=none) eO).andThen .now
 refine wpAny_handleBy_cons (codeAny_handlers_test (pR T.C T.N (a'.mark _) (v:=.cls c1) (congrArg some H.nm1.symm) rfl (W6 H.k1) (QQ H.d1) λu hu=>?_)) (λq=>nomatch q)
 cases hu
 refine(exm_one X (LT _) (CF.mat c c1 hleaf H.l1)).here ?_
 by_cases z:c=c1
 ·rw[decide_eq_true z]
  show codeAny _ _ (.handlers (.ref ea) [.ExceptHandler none (some v1) [.Assign [t1] (.Attribute (.Name v1 p3) y.str p4) p5] p6] f.env) _ _
  refine codeAny_handlers_suite_as (nK (fo:=none) o λp₂ q₂ o₂=>?_)
  have h:=qR h (λ_ h=>h) λw _=>absurd z w
  refine jU h λj hj h=>jU h λv hv q=>?_
  have a₂:mQ g f ρ p₂:=a.on o₂.af
  obtain⟨dd₂,hp₂,_⟩:=o₂.f
  have hu₂:VR g.T p₂.ad (.ref e₀) (.ref ea):=⟨_,hp₂,rfl⟩
  refine ej a₂.F a₂.I H.iv (.inl H.kv) (HX.frame f.env v1) hu₂ λh₃ tk₃ S₃=>?_
  refine zQ (s:=s) (ρ:=ρ.set i (some (.ref e₀))) H.o1 rfl (xH rfl (uB (pY S₃.F H.iv (.inl H.kv) (a9 hc.2.1) λw hw=>?_) (QQ H.dv)))
  refine EB (p:=⟨p₂.σ,p₂.ad,h₃⟩) (T.C.at S₃.a.I) XF S₃.a.I (CF.at_ c hleaf) (AO hleaf) (by rw[show p₂.σ=p'.σ from q₂];exact eo) hj hv hw λw' tk' hw'=>⟨v,⟨p₂.σ,p₂.ad,h₃⟩,tk',rfl,S₃.F,S₃.a.I,hw',λh₄ tk₄ S₄=>?_⟩
  refine C6 (p:=⟨p₂.σ,p₂.ad,h₄⟩) S₄.F S₄.a.I (aQ.trans (aQ.trans a.hl)) H.iv H.kv λh₅ tk₅ S₅=>?_
  exact kk (.next _) .next ⟨p₂.σ,p₂.ad,h₅⟩ tk₅ (by rw[show p₂.σ=p'.σ from q₂];exact q) (((o₂.af.of0.trans S₃.a).trans S₄.a).trans S₅.a) ⟨rfl,Nc hc.1▸S₅.F,aQ.trans (aQ.trans a.hl)⟩
 ·rw[decide_eq_false z]
  have h:=qR h (λw _=>absurd w z) λ_ h=>h
  refine cB h λz' q=>?_
  show wpAny _ _ (handleBy (.ref ea) f.env [.ExceptHandler (some (.Name n2 p7)) none [.Assign [t2] (.Constant (.str (strOf t)) m p8) p9] pa]) _ _ _
  refine wpAny_handleBy_cons (codeAny_handlers_test (pR T.C T.N (a'.mark _) (v:=.cls c2) (congrArg some H.nm2.symm) rfl (W6 H.k2) (QQ H.d2) λu hu=>?_)) (λq=>nomatch q)
  cases hu
  refine(exm_one X (LT _) (CF.mat c c2 hleaf H.l2)).here ?_
  rw[decide_eq_true z']
  show codeAny _ _ (.handlers (.ref ea) [.ExceptHandler none none [.Assign [t2] (.Constant (.str (strOf t)) m p8) p9] pa] f.env) _ _
  refine codeAny_handlers_suite (nK (fo:=none) o λp₂ q₂ o₂=>?_)
  have a₂:mQ g f ρ p₂:=a.on o₂.af
  exact zQ (s:=s) (ρ:=ρ) H.o2 rfl (kA ⟨.str t,p₂,_,rfl,a₂.F,a₂.I,⟨_,rfl⟩,λh₃ tk₃ S₃=>kk (.next _) .next ⟨p₂.σ,p₂.ad,h₃⟩ tk₃ (by rw[show p₂.σ=p'.σ from q₂];exact q) (o₂.af.of0.trans S₃.a) ⟨rfl,S₃.F,aQ.trans a.hl⟩⟩)
theorem TP{t0 x0 t1 t2:az}{n1 v1 n2:Str}{p1 p2 p3 p4 p5 p6 p7 p8 p9 pa pb:Pos}{m:Nat}(T:Top g CM n K d mg mb)(XF:qQ g.T K)(CF:gK g.T K)(hA:rv n f.A (f.env::envs) f.fr)(hf:f.env.frame=some f.L)(H:zS f k i c1 c2 t0 t1 t2 x0 n1 n2 v1)(hx:fq g CM f e x0):
  mH g CM f (.try k e c1 i y c2 t) (.Try [.Assign [t0] x0 p1] [.ExceptHandler (some (.Name n1 p2)) (some v1) [.Assign [t1] (.Attribute (.Name v1 p3) y.str p4) p5] p6,.ExceptHandler (some (.Name n2 p7)) none [.Assign [t2] (.Constant (.str (strOf t)) m p8) p9] pa] [] [] pb):=λs p tk ρ Q Er K E a h kk ke=>
 cB (m:=λσ=>SQ (ev CM e ρ σ) ρ k c1 i y c2 t) h λhc h=>wpAny_Try_except (aR (Q:=λfl s₁=>fl=.next/\K .next s₁) (zQ (s:=s) (ρ:=ρ) (K:=λfl s₁=>fl=.next/\K .next s₁) H.o0 H.comp (hx s p tk ρ _ _ _ _ a (Wf h) (λv u p₁ tk₁ q A₁ hu=>⟨v,p₁,tk₁,rfl,a.F.on A₁.S,A₁.I,hu,λh' tk S=>⟨rfl,kk (.next _) .next ⟨p₁.σ,p₁.ad,h'⟩ tk q (A₁.of0.trans S.a) ⟨rfl,S.F,aQ.trans a.hl⟩⟩⟩)
  (λe' p' tk' ea w o=>DM hA.frames hA.kinds hA.here hf o (λ_ q=>q) λp₂ q₂ o₂=>nK (fo:=none) o₂ λp₃ q₃ o₃=>uH T XF CF H hc a o₃ (by rw[q₃,q₂];exact w) kk))) (λfl s₁ q=>by cases q.1;exact g5 q.2) λ_ _ q=>q)
end
section
variable(g:Gl)(CM:Fn->List AV->MM AV)(f:Fr)
noncomputable def Sv(st:St):Prop:=∀x:bT,Zr f.env.scope.names f.ns st x=true->mH g CM f st x
noncomputable def Vk(ss:dH):Prop:=∀xs:List bT,zm f.env.scope.names f.ns ss xs=true->ny g CM f ss xs
end
section
variable{g:Gl}{CM:Fn->List AV->MM AV}{n:Nat}{envs:List Env}{K:cT}{d:Fn->bc}{mg mb:Str->Option ai}{f:Fr}{e e':Mine.Internal.E}{a b:dH}
variable(T:Top g CM n K d mg mb)(XF:qQ g.T K)(CF:gK g.T K)(G:Gd n (f.env::envs) f)(hf:f.env.frame=some f.L)
include T G
theorem Sw:Sv g CM f (.expr e):=λx h=>by
 refine Ay h λy pos h=>?_
 exact gX h λh1 h2=>Ql G h1 (fF T e f y G h2).hx
theorem vU{t:Ov}:Sv g CM f (.assign t e):=λx h=>by
 refine k7 h λts y pos h=>?_
 refine i7 h λt' h=>?_
 exact mx h λh1 h2 h3=>Ik T G h2 h1 h3
theorem El{i:Nat}{op:Op}:Sv g CM f (.ze i op e):=λx h=>by
 refine BJ h λt o v pos h=>?_
 refine mx h λh1 h2 h3=>?_
 refine LC h2 ?_
 exact OS h1 (fF T e f v G h3).hx
theorem CX{y:At}{op:Op}:Sv g CM f (.B4 e y op e'):=λx h=>by
 refine BJ h λt o v pos h=>?_
 refine gy h λw m py h=>?_
 refine xD h λh1 h2 h3 h4=>?_
 refine LC h1 ?_
 refine LC h2 ?_
 exact PV T.C (fF T e f w G h3).hx (fF T e' f v G h4).hx
theorem V9:Sv g CM f (.ret e):=λx h=>by
 refine JG h λo pos h=>?_
 refine kF h λy h=>?_
 exact Ue (fF T e f y G h).hx
theorem X0(ha:Vk g CM f a)(hb:Vk g CM f b):Sv g CM f (.ite e a b):=λx h=>by
 refine OL h λc t r pos h=>?_
 exact mx h λh1 h2 h3=>Ui (fF T e f c G h1).ht (ha t h2) (hb r h3)
theorem OZ(ha:Vk g CM f a):Sv g CM f (.o7 e a):=λx h=>by
 refine Lb h λc t r pos h=>?_
 refine gc h λh=>?_
 exact gX h λh1 h2=>LU (fF T e f c G h1).ht (ha t h2)
include hf
theorem JK{is:List Nat}{it:It}(ha:Vk g CM f a):Sv g CM f (.for is it a):=λx h=>by
 refine JM h λt y b r pos h=>?_
 refine gc h λh=>?_
 exact mx h λh1 h2 h=>mx h λh3 h4 h5=>Su G hf h1 h3 ((QX T it f y G h4).src t h2) (ha b h5)
omit hf
include XF
theorem zL:Sv g CM f (.raise e):=λx h=>by
 refine JC h λo c pos h=>?_
 refine qx h λh=>?_
 refine kF h λy h=>?_
 exact Jz T.C XF G.hA.handled (fF T e f y G h).hx
include CF hf
theorem J4{k i:Nat}{c1 c2:bF}{y:At}{t:S}:Sv g CM f (.try k e c1 i y c2 t):=λx h=>by
 refine Nz h λb hs r fin pos h=>?_
 refine gc h λh=>?_
 refine gc h λh=>?_
 unfold RP at h
 refine i7 h λb h=>?_
 refine k7 h λts x0 p1 h=>?_
 refine i7 h λt0 h=>?_
 refine xM h λh1 h2 h=>?_
 obtain⟨e1,m1,b1,p2⟩:=h1
 obtain⟨e2,m2,b2,p3⟩:=h2
 dsimp only[Zs,Y2,Zx] at h
 refine kF h λe1 h=>?_
 refine cG h λn1 p4 h=>?_
 refine kF h λv1 h=>?_
 refine i7 h λb1 h=>?_
 refine k7 h λts1 y1 p5 h=>?_
 refine i7 h λt1 h=>?_
 refine gy h λw1 a1 p6 h=>?_
 refine cG h λv1' p7 h=>?_
 refine kF h λe2 h=>?_
 refine cG h λn2 p8 h=>?_
 refine qx h λh=>?_
 refine i7 h λb2 h=>?_
 refine k7 h λts2 y2 p9 h=>?_
 refine i7 h λt2 h=>?_
 refine ij h λs2 m p10 h=>?_
 refine Za h λa1 a2 a3 a4 a5=>?_
 refine LC a3 ?_
 refine m6 a4 ?_
 refine m6 a5 ?_
 exact TP T XF CF G.hA hf (.of a1) (fF T e f x0 G a2).hx
theorem Q9(ss:dH):Vk g CM f ss:=
 dH.rec (motive_1:=Sv g CM f) (motive_2:=Vk g CM f) (λe=>Sw T G) (λt e=>vU T G) (λ_ _ _=>El T G) (λ_ _ _ _=>CX T G) (λ_=>V9 T G) (λ_ _ _=>X0 T G) (λ_ _=>OZ T G) (λ_ _ _=>JK T G hf) (λ_=>zL T XF G) (λ_ _ _ _ _ _ _=>J4 T XF CF G hf)
  (λx h=>by
   refine KN h λpos _=>?_
   exact OY) (λx h s p tk ρ Q Er K E a w _ _=>bA w)
  (λxs h=>by
   refine gc h λ_=>?_
   exact OA) (λst ss h1 h2 xs h=>by
   refine iJ h λy ys h=>?_
   exact gX h λa1 a2=>Ly (h1 y a1) (h2 ys a2)) ss
end
section
variable{g:Gl}{K:cT}{mg mb:Str->Option ai}
theorem Qy{CM:Fn->List AV->MM AV}{n:Nat}{d:Fn->bc}{ns:List Str}{ks:Ks}{ss:dH}{body:List bT}(T:Top g CM n K d mg mb)(XF:qQ g.T K)(CF:gK g.T K)(h:zm ks ns ss body=true):BodyOk g CM n ns ks ss body:=λf envs hns hA hf qo hk=>by
 subst hns qo
 exact Q9 T XF CF ⟨hA,hk⟩ hf ss body h
theorem A7(C:Cx g K tU)(N:jT g K mg mb)(MK:w7 g.T K)(O:mj g)(XF:qQ g.T K)(CF:gK g.T K):∀d,r7 g (xS d) d
 |0=>λf args us A envs fr s p tk fl Q Er R hA I V hfl h hR=>bA h
 |d+1=>λf args us A envs fr s p tk fl Q Er R hA I V hfl h hR=>uR C hA I V hfl h hR λks body e=>Qy ⟨C,N,MK,O,A7 C N MK O XF CF d⟩ XF CF e
end
noncomputable def Ry(d:Data)(f:ClassData->Bool):Bool:=if h:d.ctorIdx=8 then wi (motive:=λ_=>Bool) d h f else false
@[elab_as_elim] theorem Pz {f:ClassData->Bool} {P:Data->Prop} {d:Data} (h:Ry d f=true) (k:∀x,f x=true->P (.cls x)):P d:=(yN h).elim λe q=>
 wi (motive:=λd=>∀e:d.ctorIdx=8,wi (motive:=λ_=>Bool) d e f=true->P d) d e (λx _ q=>k x q) e q
noncomputable def excIn(K:cT)(C:ax):Bool:=jF (K.lookup C) λo=>o.cls==.type "type"&&Ry o.data λcd=>(cd.mro.head?==some (.ref C)&&!cd.hasDel)&&((o.slots.size==6&&o.slots[4]?==some (some (.builtin "Exception.__new__")))&&
 (cd.mro.tail.contains (.type "Exception")&&(cd.mro.tail.contains (.type "BaseException")&&(!cd.mro.tail.contains (.type "AttributeError")&&!cd.mro.tail.contains (.type "NameError")))))
inductive ZN(h:bt)(C:ax):Prop where
 |mk (nm qn:Str) (N:ax) (bs bm:List ai) (hdct:Bool) (sn:List Str) (sub:List ai) (ab:Bool) (col:Option Bool) (dd:Option ax) (k0 k1 k2 k3 k5:Option ai)
  (e:h.get? C=some (excClassObj nm qn C N bs bm hdct sn sub ab col dd k0 k1 k2 k3 k5 "Exception.__new__")) (h1:bm.contains (.type "Exception")=true) (h2:bm.contains (.type "BaseException")=true) (h3:bm.contains (.type "AttributeError")=false) (h4:bm.contains (.type "NameError")=false)
theorem xB{α:Type}{l:List α}{n:Nat}{P:List α->Prop}(h:l.length=n+1)(k:∀a r,r.length=n->P (a::r)):P l:=cy (motive:=λl=>l.length=n+1->P l) l (λh=>(mV n h.symm).elim) (λa r h=>k a r (i0 h)) h
@[elab_as_elim] theorem aak {α:Type} {a:Array α} {x:α} {P:Array α->Prop} (h:a.size=6) (e:a[4]?=some x) (k:∀b0 b1 b2 b3 b5,P #[b0,b1,b2,b3,x,b5]):P a:=by
 obtain⟨l⟩:=a
 refine xB (P:=λl=>(⟨l⟩:Array α)[4]?=some x->P ⟨l⟩) h (λb0 r h=>xB (P:=λr=>(⟨b0::r⟩:Array α)[4]?=some x->P ⟨b0::r⟩) h λb1 r h=>xB (P:=λr=>(⟨b0::b1::r⟩:Array α)[4]?=some x->P ⟨b0::b1::r⟩) h λb2 r h=>xB (P:=λr=>(⟨b0::b1::b2::r⟩:Array α)[4]?=some x->P ⟨b0::b1::b2::r⟩) h λb3 r h=>xB (P:=λr=>(⟨b0::b1::b2::b3::r⟩:Array α)[4]?=some x->P ⟨b0::b1::b2::b3::r⟩) h λb4 r h=>xB (P:=λr=>(⟨b0::b1::b2::b3::b4::r⟩:Array α)[4]?=some x->P ⟨b0::b1::b2::b3::b4::r⟩) h λb5 r h e=>?_) e
 cases iZ h
 exact(ae e:b4=x)▸k b0 b1 b2 b3 b5
@[elab_as_elim] theorem V1 {α:Type} {l:List α} {x:α} {P:List α->Prop} (h:l.head?=some x) (k:∀r,P (x::r)):P l:=cy (motive:=λl=>l.head?=some x->P l) l (λh=>aG h) (λa r h=>ae h▸k r) h
theorem Ah{K:cT}{h:bt}{C:ax}(X:K.In h)(q:excIn K C=true):ZN h C:=(vc q).elim λo q=>gX q.2 λhc q'=>by
 obtain⟨c,dd,dt,sl⟩:=o
 have e:=X _ _ q.1
 cases eq_of_beq hc
 revert e
 refine Pz (d:=dt) q' λcd q'=>?_
 obtain⟨nm,bs,mro,ns,qn,hd,sn,sub,ab,col,del⟩:=cd
 refine mx q' λa1 a2 a3=>gX a1 λa1 a4=>gX a2 λa5 a6=>?_
 cases (cJ a4:del=false)
 revert a3
 refine V1 (l:=mro) (eq_of_beq a1) λbm a3=>?_
 refine aak (a:=sl) (eq_of_beq a5) (eq_of_beq a6) λk0 k1 k2 k3 k5 e=>?_
 exact xD a3 λb1 b2 b3 b4=>⟨nm,qn,ns,bs,bm,hd,sn,sub,ab,col,dd,k0,k1,k2,k3,k5,e,b1,b2,cJ b3,cJ b4⟩
section
variable{prog:fK}{w:ky}{A:a7}{E:ai->ak->Prop}{h:bt}{g:Array GenState}{d:Drawn}{t:Nat}{os:OsState}
variable{nm q:Str}{C N:ax}{bs bm:List ai}{hdct:Bool}{sn:List Str}{sub:List ai}{ab:Bool}{col:Option Bool}{dd:Option ax}{k0 k1 k2 k3 k5:Option ai}{K:cT}
theorem Dr{M:fY}{α:Type}{x:String}{a b:Sem α}{Q:α->ak->Prop}{s:ak}(k:wpAny M A b Q E s):wpAny M A (if(x !=x)=true then a else b) Q E s:=if_neg (c:=(x !=x)=true) (λz=>nomatch (bne_self_eq_false x).symm.trans z)▸k
theorem wN{M:fY}{rest:List ai}{Q:Unit→ak→Prop}(hC:h.get? C=some (excClassObj nm q C N bs bm hdct sn sub ab col dd k0 k1 k2 k3 k5 "Exception.__new__"))(h1:bm.contains (.type "Exception")=true)
  (hq:Q () ⟨h,g,d,t,os⟩):wpAny M A (checkBuiltinCall "Exception.__new__" ⟨.ref C::rest,[]⟩) Q E ⟨h,g,d,t,os⟩:=by
 have F:=ei
 have hcont:(cY C::bm).contains (.type "Exception")=true:=by rw[d8,h1,g6]
 have hstar:=F.noStar
 delta checkBuiltinCall
 rw[F.newRow,F.newKind,F.newSplit]
 repeat (first|refine eU hC ?_|(refine kz hC ?_;rw[hcont])|refine wpAny_staticBase_exc hC ?_|refine wpAny_madeBy_exc hC ?_|with_reducible refine Dr ?_|wp_step)
 exact hq
theorem OJ{R:pH→ak→Prop}{rest:List ai}(hC:h.get? C=some (excClassObj nm q C N bs bm hdct sn sub ab col dd k0 k1 k2 k3 k5 "Exception.__new__"))(h1:bm.contains (.type "Exception")=true)(h3:bm.contains (.type "AttributeError")=false)(h4:bm.contains (.type "NameError")=false)
  (hq:R (.ok (.ret (.ref (h.objs.size+1)))) ⟨(h.push {cls:=.type "tuple",data:=.seq rest.toArray}).push
   {cls:=.ref C,data:=.fields #[.ref h.objs.size,.none,.none,.none,.bool false,.none]},g,d,t,os⟩) (hrest:rest.length<=sizeLine):
  codeAny (model prog w) A (.builtin "Exception.__new__" ⟨.ref C::rest,[]⟩) R ⟨h,g,d,t,os⟩:=by
 have F:=ei
 have hends:=F.ends
 have hcB:(cY C::bm).contains (.type "Exception")=true:=by rw[d8,h1,g6]
 have hcA:(cY C::bm).contains (.type "AttributeError")=false:=by rw[d8,h3];rfl
 have hcN:(cY C::bm).contains (.type "NameError")=false:=by rw[d8,h4];rfl
 refine PySem.codeAny_builtinAt F.entry ?_
 unfold pG.«BaseException.__new__»
 refine PySem.wpAt_bind ?_
 show PySem.wpAt _ _ _ (stack>>=_) _ _ _
 refine PySem.wpAt_bind (PySem.wpAt_stack λp below=>Fb ?_)
 wp_walk
 refine Fb ?_
 rw[F.owner]
 repeat (first|with_reducible refine wpAny_madeHere_exc F.canon hC ?_|with_reducible refine eU hC ?_|(with_reducible refine kz hC ?_;first|rw[hcB]|rw[hcA]|rw[hcN])|wp_step)
 show R _ _
 rw[jW]
 exact hq
theorem w2{rest:List ai}{fI:ax}{Q:Fin→ak→Prop}(X:K.In h)(hC:h.get? C=some (excClassObj nm q C N bs bm hdct sn sub ab col dd k0 k1 k2 k3 k5 "Exception.__new__"))(h1:bm.contains (.type "Exception")=true)(h3:bm.contains (.type "AttributeError")=false)(h4:bm.contains (.type "NameError")=false)
  (hi:findIn K (.ref C) "__init__"=some (some (.ref fI))) (hf:typeIn K (.ref fI)=some (.type "function"))
  (hq:∀h' e,Heap.MadeExcOf h h' e (.ref C) rest->
   wpAny (model prog w) A (call (.ref fI) (.ref e::rest)) (λr s'=>r=.none/\Q (.done (.ret (.ref e))) s') E ⟨h',g,d,t,os⟩) (hrest:rest.length<=sizeLine):
  wpAny (model prog w) A (pG.«type.__call__» ⟨.ref C::rest,[]⟩) Q E ⟨h,g,d,t,os⟩:=by
 have F:=ei
 repeat (first|with_reducible refine eU hC ?_|with_reducible refine wpAny_madeBy_exc hC ?_|wp_step)
 refine codeAny_call_builtin_code (jX _ F.quiet) (wN hC h1 ?_)
 refine OJ hC h1 h3 h4 ?_ hrest
 show wpAny _ _ _ _ _ _
 have k:∀b o,h.get? b=some o→((h.push {cls:=.type "tuple",data:=.seq rest.toArray}).push {cls:=.ref C,data:=.fields #[.ref h.objs.size,.none,.none,.none,.bool false,.none]}).get? b=some o:=λb o e=>aA _ (aA _ e)
 have hC₁:=k _ _ hC
 have X₁:K.In ((h.push {cls:=.type "tuple",data:=.seq rest.toArray}).push {cls:=.ref C,data:=.fields #[.ref h.objs.size,.none,.none,.none,.bool false,.none]}):=λa o e=>k _ _ (X a o e)
 have hget:((h.push {cls:=.type "tuple",data:=.seq rest.toArray}).push
   {cls:=.ref C,data:=.fields #[.ref h.objs.size,.none,.none,.none,.bool false,.none]}).get? (h.objs.size+1)=some
   {cls:=.ref C,data:=.fields #[.ref h.objs.size,.none,.none,.none,.bool false,.none]}:=by heap_get
 have hcC:(cY C::bm).contains (.ref C)=true:=by simp
 have LI:=kB (M:=model prog w) X₁ hi
 have LF:=looks_typeIn (M:=model prog w) X₁ hf
 unfold isInstance
 repeat (first|with_reducible refine eU hget ?_|(with_reducible refine kz hC₁ ?_;rw[hcC])|wp_step)
 show wpAny _ _ (typeLookup (.ref C) _) _ _ _
 refine LI.at ?_
 refine aL (ag ?_)
 unfold bindSpecial
 refine ag (LF.at ?_)
 rw[if_pos (by decide)]
 refine ao (ag (aR (hq _ (h.objs.size+1) ⟨k,cO (br _),h.objs.size,hget,cO (aK _),?_⟩) (λr s' hr=>?_) λ_ _ x=>x))
 ·exact aA _ (Jv rfl rfl)
 ·obtain⟨rfl,hQ⟩:=hr
  wp_walk
  exact hQ
theorem NL{rest:List ai}{fI:ax}{Q:ai->ak->Prop}(X:K.In h)(hx:excIn K C=true)
  (hi:findIn K (.ref C) "__init__"=some (some (.ref fI))) (hf:typeIn K (.ref fI)=some (.type "function"))
  (hq:∀h' e,Heap.MadeExcOf h h' e (.ref C) rest->
   wpAny (model prog w) (A.under (.builtin "type.__call__" ⟨.ref C::rest,[]⟩)) (call (.ref fI) (.ref e::rest)) (λr s'=>r=.none∧Q (.ref e) s') E ⟨h',g,d,t,os⟩) (hrest:rest.length≤sizeLine):
  wpAny (model prog w) A (call (.ref C) rest) Q E ⟨h,g,d,t,os⟩:=by
 obtain⟨nm,q,N,bs,bm,hdct,sn,sub,ab,col,dd,k0,k1,k2,k3,k5,hC,h1,h2,h3,h4⟩:=Ah X hx
 have f1:=tc_lookup
 have f2:=tc_bind (.ref C)
 have hT:(⟨h,g,d,t,os⟩:ak).TypeIs (.ref C) "type":=⟨_,hC,rfl⟩
 refine pI (codeAny_of_tree ?_)
 show wpAny _ _ (callAny (.ref C) _) _ _ _
 repeat (any_goals (first|assumption|with_reducible refine eU hC ?_|wp_step))
 refine⟨rfl,?_⟩
 refine codeAny_call_builtin_at (jX _ (by decide+kernel)) entry_typeCall (wpAny_check_type_call_sub hC (w2 X hC h1 h3 h4 hi hf (λh' e hm=>?_) hrest))
 exact hq h' e hm
end
open Builtin Builtin.ObjectAttr
noncomputable def refOf:ai->Option ax
 |.ref a=>some a
 |_=>none
noncomputable def nU(l:List ai):Bool:=l==(l.filterMap refOf).map cY++[.type "Exception",.type "BaseException",.type "object"]
theorem sW(self:ai):∀cs:List ax,refuseLoop self "__setattr__" (cs.map cY++[.type "Exception",.type "BaseException",.type "object"])=pure ()
 |[]=>PySem.F.store_Exception.passes self
 |c::r=>(refuseLoop_ref ..).trans (sW self r)
theorem w6(self:ai){l:List ai}(e:nU l=true):refuseLoop self "__setattr__" l=pure ():=(eq_of_beq e).symm▸sW self _
theorem D0{l:List ai}(e:nU l=true):l.contains (.type "object")=true:=(eq_of_beq e).symm▸di.mpr (a8 _ (.tail _ (.tail _ (.head _))))
section
variable{prog:fK}{w:ky}{A:a7}{E:ai->ak->Prop}{s:ak}{K:cT}{x C:ax}{R:pH->ak->Prop}
theorem FO{ox:Obj}{od:Option Obj}{name:Str}{tk:Tok}{v:ai}(X:K.In s.heap)(I:InstAt s.heap x ox C od)(hp:(clsIn K C).any (λcd=>nU cd.mro)=true)(hno:findIn K (.ref C) name=some none)
  (h:wpAny (model prog w) A.in1 (storeInOwnDict (.ref x) (.ref C) (.str name tk) name v false)
   (λfin s'=>match fin with|.done f=>R (.ok f) s'|.again c'=>c'.quiet=true/\codeAny (model prog w) A c' R s') (λe s'=>R (.error e) s') s):
  codeAny (model prog w) A (.call (.builtin "object.__setattr__") ⟨[.ref x,.str name tk,v],[]⟩) R s:=by
 have SF:=PySem.F.store_object
 obtain⟨cd,hc,ho⟩:=wx hp
 have ne:cd.mro.isEmpty=false:=by cases q:cd.mro with|nil=>rw[q] at ho;exact ft ho|cons _ _=>rfl
 have sub:rF (model prog w) s.heap (isInstance (.ref x) (.type "object")) true:=I.type.andThen (looks_mroIn X (by unfold mroIn;rw[hc,iw,if_neg (by rw[ne];decide),D0 ho]))
 refine rG SF.slot.plain SF.entry (@check_slot (model prog w) _ _ s "object.__setattr__" "object" "__setattr__" (.ref x) [.str name tk,v] [] _ SF.kind SF.split sub (SF.args (.ref x) (.str name tk) v) ?_)
 have hm:rF (model prog w) s.heap (mroOf (.ref C)) cd.mro:=(zT X hc).andThen .now
 rw[osa_eq,refuse_eq]
 refine ag (ag (I.type.here (ag (hm.here ?_))))
 rw[w6 _ ho]
 exact ao (ag (I.type.here (ag ((kB X hno).here (ag (ao h))))))
theorem KL{vs:Array ai}{sl:Array (Option ai)}{name:Str}{v:ai}{Q:Unit->ak->Prop}(X:K.In s.heap)(he:s.heap.get? x=some ⟨.ref C,none,.fields vs,sl⟩)
  (hsa:findIn K (.ref C) "__setattr__"=some (some (.builtin "object.__setattr__"))) (hp:(clsIn K C).any (λcd=>nU cd.mro)=true) (hno:findIn K (.ref C) name=some none) (hcd:(clsIn K C).any (·.hasDict)=true)
  (hQ:∀hsh tk h',(∀b o,b≠x->s.heap.get? b=some o->h'.get? b=some o)->h'.get? x=some ⟨.ref C,some s.heap.objs.size,.fields vs,sl⟩->h'.get? s.heap.objs.size=some (dictOf (putL name hsh (.str name tk) v []) (putN name [] 0))->Q () {s with heap:=h',toks:=tk+1}):wpAny (model prog w) A (setAttr (.ref x) name v) Q E s:=by
 obtain⟨hh,g,d,t,os⟩:=s
 dsimp only at X he hQ
 have IA:InstAt hh x ⟨.ref C,none,.fields vs,sl⟩ C none:=⟨he,rfl,rfl,trivial⟩
 refine set_plain X IA hsa (FO (s:=⟨hh,g,d,t+1,os⟩) X IA hp hno ?_)
 obtain⟨cd,hc,hd'⟩:=wx hcd
 refine ag (ao (ag (ag (iO he (ag ((zT X hc).at ?_))))))
 rw[hd']
 have hxs:x≠hh.objs.size:=fw (dQ he)
 have he₁:(hh.push {cls:=.type "dict",data:=.dict #[]}).get? x=some ⟨.ref C,none,.fields vs,sl⟩:=aA _ he
 refine ag (PySem.wpAny_alloc' ?_)
 refine ag (PySem.wpAny_update' he₁ ?_)
 refine ao (a:=some hh.objs.size) ?_
 generalize hH:(hh.push {cls:=.type "dict",data:=.dict #[]}).update x (λo=>{o with dict:=some hh.objs.size})=H
 have hdd:H.get? hh.objs.size=some (dictOf [] 0):=by
  rw[<-hH]
  exact(Hd _ _ _ _ hxs.symm).trans (Jv rfl rfl)
 have hx:H.get? x=some ⟨.ref C,some hh.objs.size,.fields vs,sl⟩:=by
  rw[<-hH];exact aW _ he₁ rfl
 have hk:∀b o,b≠x->hh.get? b=some o->H.get? b=some o:=λb o n e=>by
  rw[<-hH];exact(Hd _ _ _ _ n).trans (aA _ e)
 show wpAny _ _ (storeInDict hh.objs.size (.str name t) name v) _ _ _
 unfold storeInDict newKeyGuard
 refine ag (ao (ag ?_))
 unfold nsSet
 refine ag (ag (x8 (ao (ag (kA (ag (iO hdd ?_)))))))
 show wpAny _ _ (if aRefKeyMayBeTheName name #[]=true then _ else _) _ _ _
 have c0:(!((#[]:Array dF).any (·.key.isStr name))&&(#[]:Array dF).any (·.refKey))=false:=by simp
 rw[pD,c0]
 refine x9 hdd ?_
 refine ag (ya (o:=dictOf (putL name (fW w.params name) (.str name (t+1)) v []) (putN name [] 0)) ?_ (yb (by rw[gY,zU];show 1<=_;decide)) ?_)
 ·have:=aW (jc name (fW w.params name) (.str name (t+1)) v) hdd (by rw[eS];rfl)
  rw[eS] at this
  exact this
 ·refine ao (hQ (fW w.params name) (t+1) _ (λb o n e=>?_) ?_ ?_)
  ·rw[bV _ _ (dK (fw (dQ e)))];exact hk b o n e
  ·rw[bV _ _ (dK hxs)];exact hx
  ·have:=aW (jc name (fW w.params name) (.str name (t+1)) v) hdd (by rw[eS];rfl)
   rw[eS] at this
   exact this
theorem MD{dx:ax}{vs:Array ai}{sl:Array (Option ai)}{es:List dF}{n:Nat}{name:Str}{v:ai}{Q:Unit->ak->Prop}(X:K.In s.heap)(he:s.heap.get? x=some ⟨.ref C,some dx,.fields vs,sl⟩)(hd:s.heap.get? dx=some (dictOf es n))
  (hsa:findIn K (.ref C) "__setattr__"=some (some (.builtin "object.__setattr__"))) (hp:(clsIn K C).any (λcd=>nU cd.mro)=true) (hno:findIn K (.ref C) name=some none) (hcd:(clsIn K C).any (·.hasDict)=true)
  (hr:es.any (·.refKey)=false) (hz:es.length<=1000)
  (hQ:∀hsh tk h',(∀b o,b≠dx->s.heap.get? b=some o->h'.get? b=some o)->h'.get? dx=some (dictOf (putL name hsh (.str name tk) v es) (putN name es n))->Q () {s with heap:=h',toks:=tk+1}):wpAny (model prog w) A (setAttr (.ref x) name v) Q E s:=by
 obtain⟨hh,g,d,t,os⟩:=s
 dsimp only at X he hd hQ
 have IA:InstAt hh x ⟨.ref C,some dx,.fields vs,sl⟩ C (some (dictOf es n)):=⟨he,rfl,rfl,hd⟩
 refine set_plain X IA hsa (FO (s:=⟨hh,g,d,t+1,os⟩) X IA hp hno ?_)
 obtain⟨cd,hc,hd'⟩:=wx hcd
 refine ag (ao (ag (ag (iO he (ag ((zT X hc).at ?_))))))
 rw[hd']
 refine ao (a:=some dx) (ag (ao (ag ?_)))
 unfold nsSet
 refine ag (ag (x8 (ao (ag (kA (ag (iO hd ?_)))))))
 have c:(!(es.toArray.any (·.key.isStr name))&&es.toArray.any (·.refKey))=false:=by
  rw[<-iC,<-iC]
  show(!es.any _&&es.any _)=false
  rw[hr,xe]
 show wpAny _ _ (if aRefKeyMayBeTheName name es.toArray=true then _ else _) _ _ _
 rw[pD,c]
 refine x9 hd ?_
 have hs:=aW (jc name (fW w.params name) (.str name (t+1)) v) hd (by rw[eS];rfl)
 rw[eS] at hs
 refine ag (ya hs (yb (by rw[gY,zU];exact ah Bd (ah (aP hz) (by decide)))) ?_)
 exact ao (hQ _ _ _ (λb o n e=>(bV _ _ (dK n)).trans e) hs)
end
section
variable{prog:fK}{w:ky}{A:a7}{E:ai->ak->Prop}{h:bt}{g:Array GenState}{d:Drawn}{t:Nat}{os:OsState}
variable{nm q:Str}{C N:ax}{bs bm:List ai}{hdct:Bool}{sn:List Str}{sub:List ai}{ab:Bool}{col:Option Bool}{dd:Option ax}{k0 k1 k2 k3 k5:Option ai}{K:cT}
theorem vl{M:fY}{e:ax}{oe:Obj}{rest:List ai}{Q:Unit->ak->Prop}
  (hC:h.get? C=some (excClassObj nm q C N bs bm hdct sn sub ab col dd k0 k1 k2 k3 k5 "Exception.__new__")) (h1:bm.contains (.type "Exception")=true) (he:h.get? e=some oe) (hcls:oe.cls=.ref C) (hq:Q () ⟨h,g,d,t,os⟩):
  wpAny M A (checkBuiltinCall "Exception.__init__" ⟨.ref e::rest,[]⟩) Q E ⟨h,g,d,t,os⟩:=by
 have F:=ei
 have hcB:(cY C::bm).contains (.type "Exception")=true:=by rw[d8,h1,g6]
 have hshort:=F.noStar
 delta checkBuiltinCall
 rw[F.initRow,F.initKind,F.initSplit]
 repeat (first|(with_reducible refine eU he ?_;rw[hcls])|with_reducible refine eU hC ?_|(with_reducible refine kz hC ?_;rw[hcB])|wp_step)
 refine wpAny_onRaise ?_
 rw[show ∀(a b:String)(n:Nat),Bind.check ⟨.positional,"*","Exception",.self,[⟨"args",.varPos,false⟩]⟩ a b n (Fd (λx=>x.fst) ({pos:=cY e::rest}:Args).kw)=pure () from
  λa b n=>check_star_args _ _ _ _ _ _]
 exact ao hq
theorem Nm{e t0:ax}{u:ai}{Q:ai->ak->Prop}(X:K.In h)(hx:excIn K C=true)(he:h.get? e=some {cls:=.ref C,data:=.fields #[.ref t0,.none,.none,.none,.bool false,.none]})
  (hq:∀h',(∀b o,b≠e->h.get? b=some o->h'.get? b=some o)->h'.get? e=some {cls:=.ref C,data:=.fields #[.ref h.objs.size,.none,.none,.none,.bool false,.none]}->Q .none ⟨h',g,d,t,os⟩):
  wpAny (model prog w) A (call (.builtin "Exception.__init__") [.ref e,u]) Q E ⟨h,g,d,t,os⟩:=by
 obtain⟨nm,q,N,bs,bm,hdct,sn,sub,ab,col,dd,k0,k1,k2,k3,k5,hC,h1,h2,h3,h4⟩:=Ah X hx
 have F:=ei
 refine pI (rG F.init.plain F.initEntry (vl hC h1 he rfl ?_))
 have hk:∀(o:Obj),(h.push o).get? e=some {cls:=.ref C,data:=.fields #[.ref t0,.none,.none,.none,.bool false,.none]}:=λo=>aA _ he
 wp_walk
 refine hq _ (λb o n eb=>?_) ?_
 ·rw[bV _ _ (dK n)]
  exact aA _ eb
 ·rw[aW _ (hk _) rfl]
  rfl
end
noncomputable def n5:Str:=aa "self"
noncomputable def Yf:Option Str->az->Bool
 |some y,v=>eC v λz=>z==y
 |none,v=>j2 v λc=>c==.none
noncomputable def JJ:List (At×Option Str)->List bT->Bool
 |[],ss=>rR ss true
 |p::r,ss=>n0 ss λs ss=>rQ s λts v=>Ct ts λt=>mJ t λe n _=>eC e λse=>se==n5&&(n==p.1.str&&(Yf p.2 v&&JJ r ss))
noncomputable def Gz(tx:Str)(as:List (At×Option Str))(ks:Ks)(body:List bT):Bool:=
 n0 body λst ss=>E3 st λc=>kh c λg args kw pp=>rR kw (mJ g λo im ap=>eC o λex=>SU args λa0 a1=>eC a0 λse=>eC a1 λt=>
  (ex==aa "Exception"&&im==aa "__init__")&&(se==n5&&(t==tx&&(ap.endLine==pp.line&&(ks.lookup ex==some .globalImplicit&&JJ as ss)))))
theorem Bo{x:At}{r:List At}:∀{done:List At},x∉done->lO (done++x::r) x=some done.length
 |[],_=>if_pos rfl
 |y::d,h=>(if_neg λq:y=x=>h (q▸.head _)).trans (congrArg (dZ (·+1)) (Bo λq=>h (.tail _ q)))
theorem F4{env:Env}{ks:Ks}{x:Str}{k:oR}(hn:env.scope.names=ks)(h:ks.lookup x=some k):env.kindOf x=some k:=(congrArg (fg x) hn).trans h
structure jh(T:Tab)(K:cT)(mb:Str->Option ai):Prop where
 excIn:∀c:bF,c.leaf=true->excIn K (T.bZ c)=true
 sa:∀c:bF,c.leaf=true→findIn K (.ref (T.bZ c)) "__setattr__"=some (some (.builtin "object.__setattr__"))
 mro:∀c:bF,c.leaf=true->(clsIn K (T.bZ c)).any (λcd=>nU cd.mro)=true
 nm:nsIn K mainGlobals (aa "Exception")=some none∧mb (aa "Exception")=some (.type "Exception")
 Sr:findCls K (.type "Exception") (.type "type") "__init__"=some (.val (.builtin "Exception.__init__"))
inductive Vn(g:Gl)(ad:Ad)(m:Str->Option ai)(kd:Str->Option oR):Option Str->AV->Prop where
 |name (y:Str) (v:AV) (u:ai) (h:m y=some u) (hv:VR g.T ad v u) (hk:kd y=some .local) (hd:(y==aa "__debug__")=false):Vn g ad m kd (some y) v
 |none:Vn g ad m kd none .none
inductive TH(g:Gl)(ad:Ad)(h₀ h:bt)(c:bF)(e L:ax)(fs:List AV):Option ax->Prop where
 |no (q:fs=[]):TH g ad h₀ h c e L fs none
 |is (dx:ax) (xs:List dF) (n:Nat) (q1:h₀.get? dx=none) (q2:dx≠e) (q3:dx≠L) (q4:h.get? dx=some (dictOf xs n)) (q5:bq (FR g.T ad) (c.fields.zip fs) xs):TH g ad h₀ h c e L fs (some dx)
structure Making(g:Gl)(ad:Ad)(h₀:bt)(c:bF)(e L:ax)(m:Str->Option ai)(fs:List AV)(h:bt)(vs:Array ai)(sl:Array (Option ai))(d:Option ax):Prop where
 keep:oY h₀ h
 S1:h₀.get? e=none
 VB:h₀.get? L=none
 ns:h.Ns L m
 Tp:e≠L
 h6:6<=vs.size
 v1:vs[1]?=some .none
 obj:h.get? e=some ⟨.ref (g.T.bZ c),d,.fields vs,sl⟩
 at_:TH g ad h₀ h c e L fs d
theorem oE{x:Str}{pos:Pos}{v:ai}{Q:ai→ak→Prop}{E:ai→ak→Prop}{M:fY}{A:a7}{s:ak}{env:Env}{m:Str→Option ai}(hk:env.scope.kind=.function)(hl:env.kindOf x=some .local)(hd:(x==aa "__debug__")=false)(hns:s.heap.Ns env.locals m)(hv:m x=some v)(hQ:Q v s):wpAny M A (eval (.Name x pos) env) Q E s:=
 uB (rA hk hl hns hv hQ) hd
section
variable{g:Gl}{A:a7}{K:cT}{s:ak}{ad:Ad}{E:ai->ak->Prop}{env:Env}{c:bF}{e L:ax}{m:Str->Option ai}{mg mb:Str->Option ai}
theorem PY{h₀ h:bt}{tk:Nat}{x:At}{v:AV}{u:ai}{fs:List AV}{vs:Array ai}{sl:Array (Option ai)}{d:Option ax}{Q:Unit->ak->Prop}(X₀:K.In h₀)(MF:jh g.T K mb)(CF:nN K (g.T.bZ c) c)(hc:c.leaf=true)(hx:x∈c.fields)(hfi:lO c.fields x=some fs.length)(hu:VR g.T ad v u)(S:Making g ad h₀ c e L m fs h vs sl d)
  (k:∀h' tk' d',Making g ad h₀ c e L m (fs++[v]) h' vs sl d'->Q () {s with heap:=h',toks:=tk'}):wpAny g.M A (setAttr (.ref e) x.str u) Q E {s with heap:=h,toks:=tk}:=by
 have X:K.In h:=λa o q=>S.keep _ _ (X₀ a o q)
 have nd:=gM c
 obtain⟨hk,hE,hL,ns,Tp,h6,v1,he,ha⟩:=S
 cases ha with
 |no q=>
  subst q
  refine KL (s:={s with heap:=h,toks:=tk}) X he (MF.sa c hc) (MF.mro c hc) (CF.no x hx) CF.cd λhsh tk' h' kp he' hd'=>?_
  have hn:h.get? h.objs.size=none:=cA _
  have hH:=sQ (hsh:=hsh) (key:=.str x.str tk') hu ⟨_,rfl⟩ nd (fs:=[]) (xs:=[]) (by rw[Jd];exact .nil) hfi (aK _)
  refine k _ _ _ ⟨λb o eb=>kp b o (λz=>aX hE (z▸eb)) (hk b o eb),hE,hL,ns.at' λo eo=>kp _ o (dK Tp) eo,Tp,h6,v1,he',.is h.objs.size _ _ ?_ (λq=>aX hn (q▸he)) (λq=>ns.elim λo w=>w.elim λ_ w=>w.elim λ_ w=>aX hn (q.symm▸w.1)) hd' hH⟩
  ·match q:h₀.get? h.objs.size with
   |none=>rfl
   |some o=>exact aX hn (hk _ _ q)
 |is dx xs n q1 q2 q3 q4 hH=>
  have hlen:xs.length<=1000:=by
   rw[<-hH.len,List.length_zip]
   exact ah (Nat.min_le_left ..) (by cases c<;>decide)
  refine MD (s:={s with heap:=h,toks:=tk}) X he q4 (MF.sa c hc) (MF.mro c hc) (CF.no x hx) CF.cd (oj hH) hlen λhsh tk' h' kp hd'=>?_
  have hH':=sQ (hsh:=hsh) (key:=.str x.str tk') hu ⟨_,rfl⟩ nd hH hfi (aK _)
  rw[if_neg (dY _)] at hH'
  exact k _ _ _ ⟨λb o eb=>kp b o (λz=>aX q1 (z▸eb)) (hk b o eb),hE,hL,ns.at' λo eo=>kp _ o (dK q3) eo,Tp,h6,v1,kp _ _ (dK q2) he,.is dx _ _ q1 q2 q3 hd' hH'⟩
theorem Oq{h₀:bt}{vs:Array ai}{sl:Array (Option ai)}{Q:Ha->ak->Prop}(X₀:K.In h₀)(MF:jh g.T K mb)(CF:nN K (g.T.bZ c) c)(hc:c.leaf=true)(hk:env.scope.kind=.function)(hL:env.locals=L)(hself:m n5=some (.ref e))(qo:env.kindOf n5=some .local):
  ∀{as:List (At×Option Str)}{ss:List bT}{avs fs:List AV}{done:List At}{h:bt}{tk:Nat}{d:Option ax},JJ as ss=true->c.fields=done++as.map (·.1)->done.length=fs.length->
   bq (λp v=>Vn g ad m env.kindOf p.2 v) as avs->Making g ad h₀ c e L m fs h vs sl d->
   (∀h' tk' d',Making g ad h₀ c e L m (fs++avs) h' vs sl d'->Q .next {s with heap:=h',toks:=tk'})->wpAny g.M A (execs ss env) Q E {s with heap:=h,toks:=tk}:=λ{as}=>by
 induction as with
 |nil=>exact λ{ss avs fs done h tk d} hs hf hd H S hQ=>gc (P:=λss=>wpAny g.M A (execs ss env) Q E {s with heap:=h,toks:=tk}) hs λ_=>(by
   cases H
   exact g5 (hQ h tk d ((bf fs).symm▸S)))
 |cons p as ih=>exact λ{ss avs fs done h tk d} hs hf hd H S hQ=>(by
   obtain⟨x,o⟩:=p
   cases H with
   |@cons _ v _ avs h1 H=>
    refine iJ hs λst ss hs=>?_
    refine k7 hs λts rhs pos hs=>?_
    refine i7 hs λt hs=>?_
    refine gy hs λe0 n p hs=>?_
    refine cG hs λse pn hs=>?_
    refine xD hs λa1 a2 a3 a4=>?_
    refine m6 a1 ?_
    refine m6 a2 ?_
    have hx:x∈c.fields:=hf▸a8 _ (.head _)
    have nd:(done++(x::as.map (·.1))).Nodup:=hf▸(List.Pairwise.of_map At.str (λa b h e=>h (congrArg At.str e)) (gM c):c.fields.Nodup)
    have hfi:lO c.fields x=some fs.length:=by rw[hf];exact(Bo λq=>(dI.mp nd).2.2 x q x (.head _) rfl).trans (congrArg some hd)
    have go:∀u,(!cU rhs)=true->VR g.T ad v u->(∀(Q:ai->ak->Prop),(∀tk,Q u {s with heap:=h,toks:=tk})->wpAny g.M A (eval rhs env) Q E {s with heap:=h,toks:=tk})->wpAny g.M A (execs (.Assign [.Attribute (.Name n5 pn) x.str p] rhs pos::ss) env) Q E {s with heap:=h,toks:=tk}:=λu hcmp hu hev=>by
     refine jq (jd (k8 hcmp) rfl rfl (hev _ λtk=>?_))
     show wpAny _ A (do
      let ov<-holding [u] (eval (.Name n5 pn) env)
      standAt p.atName
      holding [u,ov] (setAttr ov x.str u)
      release [u,ov] []) _ _ _
     refine ag (aL (oE hk qo (by decide) (hL▸S.ns) hself (ag (bP (ag (aL ?_))))))
     refine PY X₀ MF CF hc hx hfi hu S λh' tk' d' S'=>wpAny_release' ?_
     exact ih (done:=done++[x]) a4 (hf.trans (ay done [x] (as.map λp:At×Option Str=>p.1)).symm) (jt.trans ((congrArg (·+1) hd).trans jt.symm)) H S' λh'' tk'' d'' S''=>hQ h'' tk'' d'' (ay fs [v] avs▸S'')
    cases h1 with
    |name y v u hy hV hky hdy=>
     have a3:eC rhs (λz=>z==y)=true:=a3
     revert go
     refine cG a3 λz pz q=>?_
     refine m6 q λgo=>?_
     exact go u rfl hV λQ hQ=>oE hk hky hdy (hL▸S.ns) hy (hQ tk)
    |none=>
     have a3:j2 rhs (λc=>c==.none)=true:=a3
     revert go
     refine ij a3 λz k1 pz q=>?_
     refine m6 q λgo=>?_
     exact go .none rfl rfl λQ hQ=>ao (hQ tk))
end
noncomputable def Xx:Str:=aa "Exception"
section
variable{g:Gl}{A:a7}{K:cT}{s:ak}{ad:Ad}{E:ai->ak->Prop}{env:Env}{c:bF}{e L:ax}{m:Str->Option ai}{mg mb:Str->Option ai}
theorem CZ{pl:Sem Bool}{Q:ai×List ai→ak→Prop}(X:K.In s.heap)(hi:findCls K (.type "Exception") (.type "type") "__init__"=some (.val (.builtin "Exception.__init__")))
  (h:Q (.builtin "Exception.__init__",[]) {s with toks:=s.toks+1}):wpAny g.M A (getMethod (.type "Exception") "__init__" pl) Q E s:=by
 have ht:typeOf (.type "Exception")=pure (.type "type"):=by kernel_rfl
 have hstub:opaqueClassAbove (.type "Exception")=pure none:=by
  unfold opaqueClassAbove
  dsimp only
  rw[show Manifest.isStub "Exception"=false from by decide+kernel];rfl
 have L0:rF g.M s.heap (typeOf (.type "Exception")) (.type "type"):=fE ht
 have hg:findIn K (.type "type") "__getattribute__"=some (some (.builtin "type.__getattribute__")):=type_tga
 unfold getMethod specialOf
 refine ag (ag (L0.here ((kB X hg).here ?_)))
 dsimp only
 rw[if_pos canon_tga]
 refine ag (aR (Q:=λv=>Q (v,[])) (E:=E) ?_ (λ_ _ z=>ao z) λ_ _ z=>z)
 have LO:rF g.M s.heap (opaqueClassAbove (.type "Exception")) none:=fE hstub
 refine cls_open X LO L0 hg (looks_hook X (r:=none) (by rfl)) (by show subIn K _ _=_;rfl) hi
  (ao (by show wpAny _ _ (handedOut _) _ _ _;rw[handedOut_of (by decide+kernel)];exact ao h))
theorem Mr{tx:Str}{as:List (At×Option Str)}{ks:Ks}{body:List bT}{h₀ h:bt}{tk:Nat}{avs:List AV}{u:ai}{t0:ax}{Q:Ha->ak->Prop}(X₀:K.In h₀)(G:h.Ns mainGlobals mg)(B:h.Ns builtinsNs mb)(MF:jh g.T K mb)(CF:nN K (g.T.bZ c) c)(hc:c.leaf=true)
  (hk:env.scope.kind=.function) (hn:env.scope.names=ks) (hgl:env.globals=mainGlobals) (hbi:env.builtins=builtinsNs) (hL:env.locals=L) (hself:m n5=some (.ref e)) (qo:env.kindOf n5=some .local) (htx:m tx=some u) (hkt:env.kindOf tx=some .local) (hdt:(tx==aa "__debug__")=false)
  (hb:Gz tx as ks body=true) (hf:c.fields=as.map (·.1)) (H:bq (λp v=>Vn g ad m env.kindOf p.2 v) as avs)
  (keep:oY h₀ h) (S1:h₀.get? e=none) (VB:h₀.get? L=none) (ns:h.Ns L m) (Tp:e≠L) (he:h.get? e=some {cls:=.ref (g.T.bZ c),data:=.fields #[.ref t0,.none,.none,.none,.bool false,.none]})
  (hQ:∀h' tk' vs sl d',Making g ad h₀ c e L m avs h' vs sl d'->Q .next {s with heap:=h',toks:=tk'}):wpAny g.M A (execs body env) Q E {s with heap:=h,toks:=tk}:=by
 have X:K.In h:=λa o q=>keep _ _ (X₀ a o q)
 refine iJ hb λst ss hb=>?_
 refine Ay hb λcl pos hb=>?_
 refine gO hb λgf args kw pp hb=>?_
 refine gc hb λhb=>?_
 refine gy hb λo im ap hb=>?_
 refine cG hb λex p0 hb=>?_
 refine xM hb λa0 a1 hb=>?_
 refine cG hb λse p1 hb=>?_
 refine cG hb λt p2 hb=>?_
 refine el6 hb λb1 b2 b3 b4 b5 has=>gX b1 λb6 b7=>?_
 cases eq_of_beq b6
 cases eq_of_beq b7
 cases eq_of_beq b2
 cases eq_of_beq b3
 have hkx:=F4 hn (eq_of_beq b5)
 refine jq (wpAny_Expr_any ?_ (oi hk) rfl)
 show wpAny _ A (do
  let ov←attributeBase (.Name Xx p0) (aa "__init__") env (eval (.Name Xx p0) env)
  standAt ap.atName
  let (f,first)←holding [ov] (calleeOf true (.Name Xx p0) env ov (aa "__init__"))
  let callPos<-methodCallPos true (.Name Xx p0) env ap pp
  callWith callPos f first (backTo pp (starEach [.Name n5 p1,.Name tx p2] env)) (backToKw pp (keywordEach [] env))) _ _ _
 have hpos:methodCallPos true (.Name Xx p0) env ap pp=pure pp:=by unfold methodCallPos;rw[eq_of_beq b4];simp
 rw[gN rfl,hpos]
 refine ag (rE hk hkx (loadGlobal_builtin (hgl▸G) (mg_none_of X G MF.nm.1) (hbi▸B) MF.nm.2 ?_) (by decide))
 refine ag (bP (ag (aL ?_)))
 unfold calleeOf
 rw[if_pos rfl]
 refine CZ X MF.Sr ?_
 dsimp only
 refine ag (ao ?_)
 refine call2 rfl rfl rfl (oE hk qo (by decide) (hL▸ns) hself (oE hk hkt hdt (hL▸ns) htx ?_))
 refine Nm X (MF.excIn c hc) he λh' k he'=>?_
 have S:Making g ad h₀ c e L m [] h' _ _ _:=⟨λb o q=>k b o (λz=>aX S1 (z▸q)) (keep b o q),S1,VB,ns.at' λo q=>k _ o (dK Tp) q,Tp,by exact aK 6,rfl,he',.no rfl⟩
 exact Oq (s:=s) (done:=[]) (fs:=[]) X₀ MF CF hc hk hL hself qo has hf rfl H S λh'' tk d' S''=>hQ h'' tk _ _ d' S''
end
noncomputable def iR:bF->bc
 |.thrown=>⟨"",["self","name","text","code","value"],5,[.int 0,.none],.nil⟩
 |_=>⟨"",["self","why"],2,[],.nil⟩
noncomputable def GQ:bF->Str
 |.thrown=>aa "text"
 |_=>aa "why"
noncomputable def JY:bF->List (At×Option Str)
 |.thrown=>[(.name,some (aa "name")),(.text,some (aa "text")),(.code,some (aa "code")),(.value,some (aa "value")),(.Bq,none)]
 |_=>[(.why,some (aa "why"))]
noncomputable def MT(c:bF)(ks:Ks)(body:List bT):Bool:=(iR c).ps.all (λn=>ks.lookup n==some .local)&&Gz (GQ c) (JY c) ks body
structure lj(T:Tab)(K:cT)(fI:bF->ax):Prop where
 Sr:∀c:bF,c.leaf=true→findIn K (.ref (T.bZ c)) "__init__"=some (some (.ref (fI c)))
 fn:∀c:bF,c.leaf=true→typeIn K (.ref (fI c))=some (.type "function")
 txt:∀c:bF,c.leaf=true->A0 K (fI c) (iR c) (MT c)=true
theorem RX(c:bF):(iR c).np<=5:=by cases c<;>decide
theorem UQ(c:bF):(iR c).ps[0]?=some n5:=by cases c<;>rfl
theorem Sz(c:bF):GQ c∈(iR c).ps∧(GQ c==aa "__debug__")=false:=by cases c<;>decide
theorem EU{c:bF}(hc:c.leaf=true):c.fields=(JY c).map (·.1):=by cases c<;>first|rfl|exact ft hc
section
variable{g:Gl}{A:a7}{K:cT}{fr:List ax}{s:ak}{p:Pt}{tk:Nat}{d:Fn->bc}{envs:List Env}{n:Nat}{Kk E:ai->ak->Prop}{Q:AV->Hp->Prop}{mg mb:Str->Option ai}{fI:bF->ax}{c:bF}
theorem AY{us:List ai}{avs:List AV}(C:Cx g K d)(N:jT g K mg mb)(MF:jh g.T K mb)(CF:gK g.T K)(IF:lj g.T K fI)(hc:c.leaf=true)(hA:rv n A envs fr)(I:Inv g fr p)
  (h1:us.length+1<=(iR c).np) (h2:(iR c).np<=us.length+1+(iR c).dflt.length) (hav:avs.length<=c.fields.length) (hne:avs≠[])
  (hm:∀(m:Str->Option ai) kd ds,eJ g.T p.ad (iR c).dflt ds->(∀i y v,(iR c).ps[i+1]?=some y->(us++ds.drop (us.length+1+ds.length - (iR c).ps.length))[i]?=some v->m y=some v)->(∀y∈(iR c).ps,kd y=some .local)->(∃u,m (GQ c)=some u)/\bq (λp' v=>Vn g p.ad m kd p'.2 v) (JY c) avs)
  (q:Q (.ref p.σ.length) (p.σ++[.inst c avs])) (kk:KC g [] fr (VV g) s p Q Kk):wpAny g.M A (call (.ref (g.T.bZ c)) us) Kk E (p.on s tk):=by
 have X:=C.at I
 have l5:(iR c).np<=5:=RX c
 refine NL X (MF.excIn c hc) (IF.Sr c hc) (IF.fn c hc) (λh₁ e hme=>?_) (ah (lK (ah h1 l5)) (by rw[zU];decide))
 obtain⟨t0,hE,ht0,hT0⟩:=hme.there
 have I₁:Inv g fr ⟨p.σ,p.ad,h₁⟩:=I.keeps hme.keeps
 refine sq (IF.txt c hc) λoc fd body ds P=>pI ?_
 refine uI (p:=⟨p.σ,p.ad,h₁⟩) C P ?_ I₁ h1 h2 λvals env h₂ tk₂ hv he x keep=>?_
 ·show A.depth+1<1000
  exact aB (aP (bb ..)) (cg (gr hA.depth) (by decide))
 ·have hps:(iR c).ps.length=(iR c).np:=by unfold bc.ps bc.ns;rw[eV,aj];exact jo P.l2
  have Vd:eJ g.T p.ad (iR c).dflt ds:=gU P.vr
  have hvl:(iR c).ps.length=vals.length:=by
   rw[hv,aw,eW,mK];exact Yx (hps▸h1) (hps▸Vd.len▸h2)
  have hbn:=sg hvl
  have ndp:(((iR c).ps.zip vals).map (·.1)).Nodup:=by rw[hbn];exact(Jr _ _).nodup P.nd
  have hsn:env.scope.names=fd.scope.names:=he▸rfl
  refine gX P.ck λk1 k2=>?_
  have hkd:∀y∈(iR c).ps,env.kindOf y=some .local:=λy m=>F4 hsn (eq_of_beq (aD.mp k1 y m))
  have get:∀i y,(iR c).ps[i]?=some y->∀v,vals[i]?=some v->bindL env.kindOf ((iR c).ps.zip vals) (λ_=>none) y=some v:=λi y e v e'=>vg (hkd y (av e)) ndp (D8 e e')
  have h0:(iR c).ps[0]?=some n5:=UQ c
  obtain⟨⟨u,hu⟩,H⟩:=hm (bindL env.kindOf ((iR c).ps.zip vals) λ_=>none) env.kindOf ds Vd (λi y v e e'=>get (i+1) y e v (hv▸e')) hkd
  have htx:=Sz c
  have eL:env.locals=h₁.objs.size:=he▸rfl
  have nL:h₁.get? env.locals=none:=eL▸cA _
  have nL0:p.h.get? env.locals=none:=match q:p.h.get? env.locals with
   |none=>rfl
   |some o=>aX nL (hme.keeps _ _ q)
  have kk0:oY g.base h₂:=λb o q=>keep _ _ (I₁.stays b o q)
  refine Mr (s:=s) (h:=h₂) (h₀:=p.h) (e:=e) (t0:=t0) (avs:=avs) (ad:=p.ad) X (N.gl.keeps kk0) (N.bl.keeps kk0) MF (CF.at_ c hc) hc (he▸P.kf) hsn (he▸P.gl) (he▸P.bi) rfl (get 0 _ h0 _ (hv▸rfl)) (hkd _ (av h0)) hu (hkd _ htx.1) htx.2 k2 (EU hc) H (λb o q=>keep b o (hme.keeps b o q)) hme.new nL0 x.toInCall.ns (λq=>aX nL (q▸hE)) (keep _ _ hE) λh' tk' vs sl d' S=>⟨rfl,?_⟩
  obtain⟨sk,sE,sL,sn,se,s6,s1,so,sa⟩:=S
  cases sa with
  |no z=>exact(hne z).elim
  |is dx xs n q1 q2 q3 q4 q5=>exact kk (.ref p.σ.length) (.ref e) ⟨p.σ++[.inst c avs],p.ad++[(e,dx)],h'⟩ tk' q (gH.new (o:=.inst c avs) I sk sE q1 ⟨_,so⟩ ⟨_,q4⟩ (show j3 g h' (p.ad++[(e,dx)]) e dx c avs from⟨hav,λ_=>⟨vs,sl,so,s6,s1⟩,λz=>ft (z.symm.trans (AO hc)),xs,n,q4,q5.imp λ_ _ z=>z.mono (bH _ _)⟩)) (lT I (e,dx))
theorem AQ{a b:S}{us:List ai}(C:Cx g K d)(N:jT g K mg mb)(MF:jh g.T K mb)(CF:gK g.T K)(IF:lj g.T K fI)(hA:rv n A envs fr)(I:Inv g fr p)(V:eJ g.T p.ad [.str a,.str b] us)(q:Q (.ref p.σ.length) (p.σ++[.inst .thrown [.str a,.str b,.int 0,.none,.none]]))(kk:KC g [] fr (VV g) s p Q Kk):wpAny g.M A (call (.ref (g.T.bZ .thrown)) us) Kk E (p.on s tk):=by
 obtain⟨ua,us',rfl,ha,V⟩:=V.cons_inv
 obtain⟨ub,us',rfl,hb,V⟩:=V.cons_inv
 obtain rfl:=V.nil_inv
 refine AY (avs:=[.str a,.str b,.int 0,.none,.none]) C N MF CF IF rfl hA I (b9 rfl:3<=5) (aK 5) (aK 5) (cP _ _) (λm kd ds Vd hv hk=>?_) q kk
 obtain⟨d0,ds',rfl,h0,Vd⟩:=Vd.cons_inv
 obtain⟨d1,ds',rfl,h1,Vd⟩:=Vd.cons_inv
 obtain rfl:=Vd.nil_inv
 have nm:=λi y v e e' z h=>Vn.name (g:=g) (ad:=p.ad) (m:=m) (kd:=kd) y z v (hv i y v e e') h (hk y (av e))
 exact⟨⟨_,hv 1 _ _ rfl rfl⟩,.cons (nm 0 _ _ rfl rfl _ ha rfl) (.cons (nm 1 _ _ rfl rfl _ hb rfl) (.cons (nm 2 _ _ rfl rfl _ h0 rfl) (.cons (nm 3 _ _ rfl rfl _ h1 rfl) (.cons .none .nil))))⟩
theorem zA{a:S}{us:List ai}(C:Cx g K d)(N:jT g K mg mb)(MF:jh g.T K mb)(CF:gK g.T K)(IF:lj g.T K fI)(hA:rv n A envs fr)(I:Inv g fr p)(V:eJ g.T p.ad [.str a] us)(q:Q (.ref p.σ.length) (p.σ++[.inst .leftOut [.str a]]))(kk:KC g [] fr (VV g) s p Q Kk):wpAny g.M A (call (.ref (g.T.bZ .leftOut)) us) Kk E (p.on s tk):=by
 obtain⟨ua,us',rfl,ha,V⟩:=V.cons_inv
 obtain rfl:=V.nil_inv
 refine AY (avs:=[.str a]) C N MF CF IF rfl hA I (aK 2) (aK 2) (aK 1) (cP _ _) (λm kd ds Vd hv hk=>?_) q kk
 obtain rfl:=Vd.nil_inv
 have z:=hv 0 _ _ rfl rfl
 exact⟨⟨_,z⟩,.cons (.name _ _ _ z ha (hk _ (.tail _ (.head _))) rfl) .nil⟩
end
theorem nZ:entryFor table "dict.update.loop"=some pG.«dict.update.loop»:=entryFor_of_tree (by kernel_rfl)
theorem O2{α:Type}{o:Option aF}{f:AV->AV->Option α}{x:α}{P:Prop}(h:pW o (λ_=>.none) (Rd f)=some x)(K:∀k w,o=some (.tup [k,w])->f k w=some x->P):P:=by
 cases o with
 |none=>exact aG h
 |some o=>cases o with
  |tup vs=>cases vs with
   |nil=>exact aG h
   |cons k l=>cases l with
    |nil=>exact aG h
    |cons w l=>cases l with
     |nil=>exact K k w rfl h
     |cons=>exact aG h
  |_=>exact aG h
section
variable{g:Gl}{A:a7}{fr:List ax}{s:ak}{p:Pt}{tk:Nat}{E:ai->ak->Prop}
inductive SI(σ:Hp)(r:List AV)(l:Nat)(ps:List (AV×AV)):Prop where
 |mk (k w:AV) (q:List (AV×AV)) (e:σ[l]?=some (.tup [k,w])) (hk:isKey k=true) (h:pairsOf σ r=some q) (hp:ps=(k,w)::q)
theorem zo{σ:Hp}{v:AV}{r:List AV}{ps:List (AV×AV)}{P:AV->Prop}(h:pairsOf σ (v::r)=some ps)(K:∀l,SI σ r l ps->P (.ref l)):P v:=by
 cases v with
 |ref l=>
  exact O2 h λk w e h=>gS h λhk h=>gL h λq h1 h2=>K l ⟨k,w,q,e,hk,h1,h2.symm⟩
 |_=>exact aG h
theorem II{a:ax}{xs:Array ai}{k:Nat}{sl:Array (Option ai)}{Q:Option ai→ak→Prop}(hx:s.heap.get? a=some {cls:=.type "list",dict:=none,data:=.seq xs k,slots:=sl})(hA:A.handled=none)
  (h:∀h' tk,(∀b o,s.heap.get? b=some o→h'.get? b=some o)→Q none {s with heap:=h',toks:=tk}):wpAny g.M A (getAttr? (.ref a) "keys") Q E s:=by
 obtain⟨hp,g,d,tk,os⟩:=s
 have hT:∀tk',(⟨hp,g,d,tk',os⟩:ak).TypeIs (.ref a) "list":=λ_=>⟨_,hx,rfl⟩
 have f1:=sub_AttributeError
 have f3:=hM.lookup
 have f4:=hM.bind (.ref a)
 have f5:=am_list_getattr_none
 have hmiss:typeLookup (.type "list") "keys"=pure none:=by rw[typeLookup_type,builtinLookup_eq_fast];kernel_rfl
 have hname:(["__module__","__name__","__qualname__","__doc__","__annotations__"]:List Str).contains "keys"=false:=by decide+kernel
 unfold getAttr? getAttrBy? getAttrBy
 repeat (any_goals (first|assumption|exact hT _|((with_reducible show wpAny _ _ (call (ql "list.__getattribute__") _ _) _ _ _);refine call_meets hM (hT _) am_entry_list_getattribute (PySem.F.args_list_getattribute_2 _ _) (meets_getattribute_miss_list a xs k sl "keys" _ hmiss hname (by size_fits)) ⟨hx,hA,λh' tk' e hx'=>?_⟩)|wp_step))
 obtain⟨t',u',he⟩:=hx'.there
 show wpAny _ _ (getattributeRaised _ _ _ _ _ _ _) _ _ _
 unfold getattributeRaised
 repeat (any_goals (first|assumption|wp_step))
 exact h _ _ hx'.keeps
structure Vf(g:Gl)(fr:List ax)(p:Pt)(d it a:ax)(i r:Nat)(es:List (AV×AV))(kvs:List (AV×ai))(h:bt):Prop where
 I:Inv g fr ⟨p.σ,p.ad,h⟩
 keep:oY p.h h
 hit:h.IsListIter it a i
 hD:h.DictAt (cV g.prog g.w) d kvs kvs.length
 hV:bq (DV g.T p.ad) es kvs
 hl:es.length+r<=lim
section
variable{d it:ax}{l i r:Nat}{a b:ax}{vs:List AV}{es:List (AV×AV)}{kvs:List (AV×ai)}{h:bt}{t:Tok}{R:pH->ak->Prop}
theorem Vf.stop(D:Vf g fr p d it a vs.length 0 es kvs h)(hh:A.handled=none)(hp:p.ad[l]?=some (a,b))(ho:p.σ[l]?=some (.list vs))(hdi:d≠it)(hi0:p.h.get? it=none)(I₀:Inv g fr p)
  (hR:∀h' tk,Inv g fr ⟨p.σ,p.ad,h'⟩→oY p.h h'→h'.DictAt (cV g.prog g.w) d kvs kvs.length→R (.ok (.ret .none)) (Pt.on ⟨p.σ,p.ad,h'⟩ s tk)):codeAny g.M A (.builtin "dict.update.loop" ⟨[.ref d,.ref it,.int (vs.length:Int) t,.none],[]⟩) R (Pt.on ⟨p.σ,p.ad,h⟩ s tk):=by
 obtain⟨I,keep,hit,hD,hV,hl⟩:=D
 refine codeAny_builtin nZ ?_
 match (I.objs l _ ho _ hp:dN g h p.ad a vs) with
 |⟨xs,h1,h2,_,_⟩=>
  unfold pG.«dict.update.loop»
  refine ag (wpAny_pyNext_list_end hh hit h1 (qS (dn h2)) λh' hx=>?_)
  show wpAny _ _ (Builtin.Dict.addKeywords d []>>=λ_=>ret .none) _ _ _
  exact ag (ao (ao (hR h' tk (Inv.step (p:=⟨p.σ,p.ad,h⟩) (fp:=[it]) I (vE.nJ hx) λb q=>au.mp q▸I₀.fresh hi0) (λb o e=>hx b o (λz=>aX hi0 (z▸e)) (keep b o e)) (hD.elim λo z=>z.elim λes' z=>⟨o,es',hx d o hdi z.1,z.2⟩))))
theorem Vf.turn{lt:Nat}{k w':AV}(D:Vf g fr p d it a i (r+1) es kvs h)(hp:p.ad[l]?=some (a,b))(ho:p.σ[l]?=some (.list vs))(hdi:d≠it)(hd0:p.h.get? d=none)(hi0:p.h.get? it=none)(I₀:Inv g fr p)(g1:vs[i]?=some (.ref lt))(e5:p.σ[lt]?=some (.tup [k,w']))(hk:isKey k=true)
  (hR:∀h' kvs' tk,Vf g fr p d it a (i+1) r (dput es k w') kvs' h'→codeAny g.M A (.builtin "dict.update.loop" ⟨[.ref d,.ref it,.int ((i+1:Nat):Int) 0,.none],[]⟩) R (Pt.on ⟨p.σ,p.ad,h'⟩ s tk)):codeAny g.M A (.builtin "dict.update.loop" ⟨[.ref d,.ref it,.int (i:Int) t,.none],[]⟩) R (Pt.on ⟨p.σ,p.ad,h⟩ s tk):=by
 obtain⟨I,keep,hit,hD,hV,hl⟩:=D
 refine codeAny_builtin nZ ?_
 match (I.objs l _ ho _ hp:dN g h p.ad a vs) with
 |⟨xs,h1,h2,_,_⟩=>
  obtain⟨u,h3,h4⟩:=h2.get g1
  obtain⟨pt,hpt,rfl⟩:=h4
  have fi:=I₀.fresh hi0
  have fd:=I₀.fresh hd0
  unfold pG.«dict.update.loop»
  refine ag (Jq hit h1 (nk h3) λh' hit' hs=>?_)
  have I₁:Inv g fr ⟨p.σ,p.ad,h'⟩:=I.sameBut hs fi.1 fi.2.1 fi.2.2
  have hD₁:h'.DictAt (cV g.prog g.w) d kvs kvs.length:=hD.elim λo z=>z.elim λes' z=>⟨o,es',(hs.2 d hdi).trans z.1,z.2⟩
  match (I₁.objs lt _ e5 _ hpt:TupAt g h' p.ad pt.1 [k,w']) with
  |⟨⟨ys⟩,t1,t2,_⟩=>
   have t2:eJ g.T p.ad [k,w'] ys:=t2
   revert t1
   refine Um t2 λa1 b1 va vb t1=>?_
   dsimp only
   refine ag (aL (ag (wpAny_tryCatch ?_)))
   unfold Builtin.Dict.pairItems
   refine t1.elim λot z=>z.2.2.elim λnt hdt=>ag (wpAny_typeOf (T:="tuple") ⟨_,z.1,z.2.1⟩ ?_)
   rw[if_pos (by decide)]
   refine ag (rD z.1 hdt (ao ?_))
   show wpAny _ _ (holding [a1,b1] (dictSet d a1 b1)) _ _ _
   refine aL (u5 (key_is hk va) hD₁ (hV.len▸ah (ah (bb ..) hl) eK) λh'' hD₂ hs₂=>?_)
   exact ao ⟨jX _ (by decide+kernel),hR h'' _ _ ⟨I₁.sameBut hs₂ fd.1 fd.2.1 fd.2.2,λb o e=>(hs₂.2 b (λz=>aX hd0 (z▸e))).trans ((hs.2 b (λz=>aX hi0 (z▸e))).trans (keep b o e)),hit'.elim λo z=>⟨o,(hs₂.2 it (dK hdi)).trans z.1,z.2⟩,hD₂,tC hk vb hV hD₁.nodup,ah (bE (nP (d:=es) (k:=k) (v:=w')) _) (ah (aH (by rw[eI,fx 1])) hl)⟩⟩
theorem IZ(hh:A.handled=none)(hp:p.ad[l]?=some (a,b))(ho:p.σ[l]?=some (.list vs))(hdi:d≠it)(hd0:p.h.get? d=none)(hi0:p.h.get? it=none)(I₀:Inv g fr p):
  ∀{rest:List AV}{i:Nat}{ps es:List (AV×AV)}{kvs:List (AV×ai)}{h:bt}{tk:Nat}{t:Tok},vs.drop i=rest->i<=vs.length->pairsOf p.σ rest=some ps->Vf g fr p d it a i rest.length es kvs h->
   (∀h' tk kvs',Inv g fr ⟨p.σ,p.ad,h'⟩->oY p.h h'->h'.DictAt (cV g.prog g.w) d kvs' kvs'.length->bq (DV g.T p.ad) (ps.foldl (λd p=>dput d p.1 p.2) es) kvs'->(ps.foldl (λd p=>dput d p.1 p.2) es).length<=lim->R (.ok (.ret .none)) (Pt.on ⟨p.σ,p.ad,h'⟩ s tk))->
   codeAny g.M A (.builtin "dict.update.loop" ⟨[.ref d,.ref it,.int (i:Int) t,.none],[]⟩) R (Pt.on ⟨p.σ,p.ad,h⟩ s tk):=λ{rest}=>by
 induction rest with
 |nil=>exact λhd hi hps D hR=>(by
   cases hps
   obtain rfl:=mv hd hi
   exact D.stop hh hp ho hdi hi0 I₀ λh' tk I k hD=>hR h' tk _ I k hD D.hV D.hl)
 |cons v rest ih=>exact λhd hi hps D hR=>(by
   obtain⟨g1,g2,g3⟩:=drop_cons hd
   revert g1
   refine zo (P:=λv=>vs[_]?=some v->_) hps λlt PA g1=>?_
   obtain⟨k,w',q,e5,hk,h7,rfl⟩:=PA
   exact D.turn hp ho hdi hd0 hi0 I₀ g1 e5 hk λh' kvs' tk D'=>ih g2 g3 h7 D' hR)
end
theorem I5{n:Nat}{envs:List Env}{l:Nat}{vs:List AV}{ps:List (AV×AV)}{u:ai}{Q:AV->Hp->Prop}{Kk:ai->ak->Prop}(hA:rv n A envs fr)(I:Inv g fr p)(hu:VR g.T p.ad (.ref l) u)(ho:p.σ[l]?=some (.list vs))(hps:pairsOf p.σ vs=some ps)
  (q:Q (.ref p.σ.length) (p.σ++[.dict (ps.foldl (λd p=>dput d p.1 p.2) [])])) (kk:KC g [] fr (VV g) s p Q Kk):wpAny g.M A (call (.type "dict") [u]) Kk E (p.on s tk):=dB hu λa b hp=>match (I.objs l _ ho _ hp:dN g p.h p.ad a vs) with
 |⟨xs,⟨oL,eL,hcL,nL,hdL⟩,hV,hlen,hN⟩=>by
  have hh:=hA.handled
  obtain⟨oN,eN,hN⟩:=hN
  cases cu eL eN
  obtain⟨cL,dL,datL,sL⟩:=oL
  dsimp only at hcL hdL hN
  subst hcL hdL hN
  refine callType_codes (Q₁:=λobj s₁=>obj=.ref p.h.objs.size∧s₁={p.on s tk with heap:=p.h.push {cls:=.type "dict",data:=.dict #[]}}) PySem.F.kt_called_dict (PySem.F.kt_typeCall_dict_1 _) PySem.F.entry_dict_init (kt_code_dict_new _ ⟨rfl,rfl⟩) ?_
  rintro obj s₁ ⟨rfl,rfl⟩
  have k0:oY p.h (p.h.push {cls:=.type "dict",data:=.dict #[]}):=λb o e=>aA _ e
  have hD0:(p.h.push {cls:=.type "dict",data:=.dict #[]}).DictAt (cV g.prog g.w) p.h.objs.size [] 0:=vH _
  refine⟨hD0.dictOf.typeIs,PySem.F.args_dict_init_2 _ _,?_⟩
  unfold pG.«dict.__init__»
  refine ag ?_
  unfold Builtin.Dict.selfAndRest
  refine ag (wpAny_notOrdered_dict hD0.dictOf.typeIs ?_)
  show wpAny _ _ (pure (p.h.objs.size,[cY a])) _ _ _
  refine ao ?_
  show wpAny _ _ (tP "dict.__init__" p.h.objs.size (.ref a) [] .none) _ _ _
  unfold tP
  refine ag (wpAny_typeOf (T:="list") ⟨_,k0 _ _ eL,rfl⟩ ?_)
  rw[if_pos (by decide)]
  refine ag (II (s:={p.on s tk with heap:=p.h.push {cls:=.type "dict",data:=.dict #[]}}) (k0 _ _ eL) hh λh₁ tk₁ k1=>?_)
  have hno:(none:Option ai).isNone=true:=rfl
  rw[if_pos hno]
  have k01:oY p.h h₁:=λb o e=>k1 b o (k0 b o e)
  refine ag (uy (ag (wpAny_pyIter_list (s:=Pt.on ⟨p.σ,p.ad,h₁⟩ s tk₁) ⟨_,k01 _ _ eL,rfl,nL,rfl⟩ ?_)))
  refine ao ⟨jX _ (by decide+kernel),?_⟩
  have k2:oY h₁ (h₁.push {cls:=.type "list_iterator",data:=.fields #[.ref a,.int 0 0]}):=λb o e=>aA _ e
  have gd:=k1 _ _ (aE (h:=p.h) (o:={cls:=.type "dict",data:=.dict #[]}) rfl)
  have hdi:p.h.objs.size≠h₁.objs.size:=fw (dQ gd)
  have hi0:p.h.get? h₁.objs.size=none:=match q:p.h.get? h₁.objs.size with
   |none=>rfl
   |some o=>absurd (dQ (k01 _ _ q)) (dY _)
  have kk2:oY p.h (h₁.push {cls:=.type "list_iterator",data:=.fields #[.ref a,.int 0 0]}):=λb o e=>k2 b o (k01 b o e)
  refine IZ (A:=A.in1) (s:=s) (fr:=fr) (i:=0) hh hp ho hdi (cA _) hi0 I rfl (aV _) hps ⟨I.keeps kk2,kk2,⟨_,aE _ rfl,rfl,rfl⟩,?_,.nil,cj _▸hlen⟩ λh' tk kvs' I' k' hD' hV' hle=>⟨rfl,?_⟩
  ·obtain⟨o,es,eo,r⟩:=hD0
   exact⟨o,es,k2 _ _ (k1 _ _ eo),r⟩
  ·have fd:=I.fresh (cA p.h)
   have hx:∃ob,h'.get? p.h.objs.size=some ob:=by obtain⟨o,es,eo,r⟩:=hD';exact⟨o,eo⟩
   exact kk (.ref p.σ.length) (.ref p.h.objs.size) ⟨p.σ++[.dict (ps.foldl (λd p=>dput d p.1 p.2) [])],p.ad++[(p.h.objs.size,p.h.objs.size)],h'⟩ tk q (gH.new (o:=.dict (ps.foldl (λd p=>dput d p.1 p.2) [])) I k' (cA _) (cA _) hx hx ⟨kvs',hD',hV'.imp λ_ _ z=>z.mono (bH _ _),hle⟩) (lT I _)
end
section
variable{g:Gl}{K:cT}{mg mb:Str->Option ai}{fI:bF->ax}{D:Fn->bc}
theorem Ms(C:Cx g K D)(N:jT g K mg mb)(MF:jh g.T K mb)(CF:gK g.T K)(IF:lj g.T K fI):mj g:=
 ⟨λhA I V q kk=>AQ C N MF CF IF hA I V q kk,λhA I V q kk=>zA C N MF CF IF hA I V q kk,λhA I hu ho hp q kk=>I5 hA I hu ho hp q kk⟩
end
end Mine.Internal
namespace Mine.Internal.A
open PySem
set_option genCtorIdx false
inductive RV where
 |v (a:AV)|r (i:Nat)
inductive RS where
 |nil|cons (w:RV) (r:RS)|raw (us:List AV)
inductive RD where
 |nil|cons (k:AV) (w:RV) (r:RD)|raw (es:List (AV×AV))
inductive RO where
 |list (vs:RS)|tup (vs:RS)|dict (es:RD)|inst (c:bF) (fs:List RV)|fl (c:bF) (fs:List RV)
  |ro (o:RO)
  |d6 (B:List (Nat×aF))
  |gh (G:List (Nat×List AV))
  |gk (K:List (Nat×bF))
noncomputable def RV.ctorIdx(x:RV):Nat:=RV.casesOn x (λ_=>0) (λ_=>1)
noncomputable def RS.ctorIdx(x:RS):Nat:=RS.casesOn x 0 (λ_ _=>1) (λ_=>2)
noncomputable def RD.ctorIdx(x:RD):Nat:=RD.casesOn x 0 (λ_ _ _=>1) (λ_=>2)
noncomputable def RO.ctorIdx(x:RO):Nat:=RO.casesOn x (λ_=>0) (λ_=>1) (λ_=>2) (λ_ _=>3) (λ_ _=>4) (λ_=>5) (λ_=>6) (λ_=>7) (λ_=>8)
noncomputable abbrev Cs:=List (Nat×RO)
noncomputable abbrev RL:=List (Option RV)
inductive RF where
 |next (ρ:RL)|ret (w:RV)
inductive j9 where
 |one (w:RV)|pair (a b:RV)
noncomputable def RF.ctorIdx(x:RF):Nat:=RF.casesOn x (λ_=>0) (λ_=>1)
noncomputable def j9.ctorIdx(x:j9):Nat:=j9.casesOn x (λ_=>0) (λ_ _=>1)
noncomputable abbrev PE:=RV->Cs->Prop
noncomputable abbrev PF:=RF->Cs->Prop
noncomputable def ff:PE:=λ_ _=>False
noncomputable def dz{α:Type}:List α->Nat->Option α
 |[],_=>none
 |a::_,0=>some a
 |_::r,n+1=>dz r n
noncomputable def locs:Cs->List Nat
 |[]=>[]
 |c::r=>c.1::locs r
noncomputable def den(ls:List Nat):RV->Option AV
 |.v a=>some a
 |.r i=>match dz ls i with
  |some l=>some (.ref l)
  |none=>none
noncomputable def cF{α β:Type}(o:Option α)(f:α->Option β):Option β:=match o with
 |some a=>f a
 |none=>none
noncomputable def gG(ls:List Nat):List RV->Option (List AV)
 |[]=>some []
 |w::r=>cF (den ls w) λa=>cF (gG ls r) λs=>some (a::s)
noncomputable def Ak(ls:List Nat):RS->Option (List AV)
 |.nil=>some []
 |.cons w r=>cF (den ls w) λa=>cF (Ak ls r) λs=>some (a::s)
 |.raw us=>some us
noncomputable def PD(ls:List Nat):RD->Option (List (AV×AV))
 |.nil=>some []
 |.cons k w r=>cF (den ls w) λa=>cF (PD ls r) λs=>some ((k,a)::s)
 |.raw us=>some us
noncomputable def eH(ls:List Nat):RO->Option aF
 |.list vs=>cF (Ak ls vs) λu=>some (.list u)
 |.tup vs=>cF (Ak ls vs) λu=>some (.tup u)
 |.dict vs=>cF (PD ls vs) λu=>some (.dict u)
 |.inst c vs=>cF (gG ls vs) λu=>some (.inst c u)
 |.fl c vs=>cF (gG ls vs) λu=>some (.iG c u)
 |.ro o=>eH ls o
 |_=>none
noncomputable def iV:RO->RO
 |.ro o=>o
 |o=>o
noncomputable def T0:Type:=Prop
noncomputable def T1:Type:=T0
noncomputable def T2:Type:=T1
noncomputable def lR{α:Type}:List α->Nat->α->(List α->Prop)->Prop
 |[],_,_,_=>False
 |_::r,0,a,k=>k (a::r)
 |b::r,n+1,a,k=>lR r n a λs=>k (b::s)
noncomputable def putK{α:Type}:List α->Nat->α->(List α->Prop)->Prop
 |[],0,a,k=>k [a]
 |[],_+1,_,_=>False
 |_::r,0,a,k=>k (a::r)
 |b::r,n+1,a,k=>putK r n a λs=>k (b::s)
noncomputable def Ou:Cs->Nat×RO->Nat->(Nat->Cs->Prop)->Prop
 |[],c,n,k=>k n [c]
 |a::r,c,n,k=>Ou r c (de n) λm s=>k m (a::s)
noncomputable def HM{α:Type}:List α->List α->(List α->Prop)->Prop
 |[],b,k=>k b
 |a::r,b,k=>HM r b λs=>k (a::s)
noncomputable def FZ{α:Type}:List α->(List (Option α)->Prop)->Prop
 |[],k=>k []
 |a::r,k=>FZ r λs=>k (some a::s)
noncomputable def kU(o:RO)(L:Cs)(Q:PE):Prop:=∀l,Ou L (l,o) 0 λn L'=>Q (.r n) L'
noncomputable def yn{β:Type}(o:Option β)(f:β->Prop):Prop:=match (motive:=Option β->T2) o with
 |some b=>f b
 |none=>False
noncomputable def oX{β:Type}(o:Option β)(f:β->Prop):Prop:=match (motive:=Option β->T2) o with
 |some b=>f b
 |none=>False
noncomputable def FW(b:Bool)(p:Prop):Prop:=match (motive:=Bool->T2) b with
 |true=>p
 |false=>False
noncomputable def rS(b:Bool)(p:Prop):Prop:=match (motive:=Bool->T2) b with
 |true=>p
 |false=>False
noncomputable def wt(b:Bool)(p q:Prop):Prop:=match (motive:=Bool->T2) b with
 |true=>p
 |false=>q
inductive qT(o:Option AV)(L:Cs)(k:RV->Prop):Prop where
 |mk (w:RV) (a:AV) (h:o=some a) (d:den (locs L) w=some a) (q:k w)
noncomputable def ID(L:Cs)(w:RV)(k:AV->Prop):Prop:=oX (den (locs L) w) k
inductive Z6(L:Cs)(t:Nat)(k:List AV->Prop):Prop where
 |mk (i l:Nat) (G:List (Nat×List AV)) (vs:List AV) (h:dz L i=some (l,.gh G)) (m:(t,vs)∈G) (q:k vs)
noncomputable def qI:RS->Nat->Cs->(RV->Prop)->Prop
 |.nil,_,_,_=>False
 |.cons w _,0,_,k=>k w
 |.cons _ r,n+1,L,k=>qI r n L k
 |.raw us,n,L,k=>qT us[n]? L k
noncomputable def Mw:RS->Nat->RV->Cs->(RS->Prop)->Prop
 |.nil,_,_,_,_=>False
 |.cons _ r,0,a,_,k=>k (.cons a r)
 |.cons b r,n+1,a,L,k=>Mw r n a L λs=>k (.cons b s)
 |.raw us,n,a,L,k=>n<us.length/\ID L a λx=>k (.raw (us.set n x))
noncomputable def Gb:RS->RV->Cs->(RS->Prop)->Prop
 |.nil,a,_,k=>k (.cons a .nil)
 |.cons b r,a,L,k=>Gb r a L λs=>k (.cons b s)
 |.raw us,a,L,k=>ID L a λx=>k (.raw (us++[x]))
noncomputable def UD:RS->RS->(RS->Prop)->Prop
 |.nil,s,k=>k s
 |.cons b r,s,k=>UD r s λs=>k (.cons b s)
 |.raw us,.raw ts,k=>k (.raw (us++ts))
 |.raw us,.nil,k=>k (.raw us)
 |.raw _,.cons _ _,_=>False
noncomputable def tX:RS->Nat
 |.nil=>0
 |.cons _ r=>de (tX r)
 |.raw us=>us.length
noncomputable def Hu:RS->Nat->(Nat->Prop)->Prop
 |.nil,n,k=>k n
 |.cons _ r,n,k=>Hu r (de n) k
 |.raw us,0,k=>k us.length
 |.raw us,n+1,k=>k (us.length+(n+1))
noncomputable def Fo:RS->Nat->(RS->Prop)->Prop
 |.nil,_,k=>k .nil
 |.cons _ _,0,k=>k .nil
 |.cons w r,n+1,k=>Fo r n λs=>k (.cons w s)
 |.raw us,n,k=>k (.raw (us.take n))
noncomputable def Fm:RS->Nat->(RS->Prop)->Prop
 |.nil,_,k=>k .nil
 |.cons w r,0,k=>k (.cons w r)
 |.cons _ r,n+1,k=>Fm r n k
 |.raw us,n,k=>k (.raw (us.drop n))
noncomputable def VJ:RS->List j9
 |.nil=>[]
 |.cons w r=>.one w::VJ r
 |.raw us=>us.map λa=>.one (.v a)
noncomputable def Mz:RD->AV->Cs->(RV->Prop)->Prop
 |.nil,_,_,_=>False
 |.cons k' w r,k,L,q=>wt (decide (k'=k)) (q w) (Mz r k L q)
 |.raw es,k,L,q=>qT (dG es k) L q
noncomputable def Mj:RD->AV->Cs->(RV->Prop)->Prop
 |.nil,_,_,q=>q (.v .none)
 |.cons k' w r,k,L,q=>wt (decide (k'=k)) (q w) (Mj r k L q)
 |.raw es,k,L,q=>qT (some ((dG es k).getD .none)) L q
noncomputable def Pr:RD->AV->Bool
 |.nil,_=>false
 |.cons k' _ r,k=>decide (k'=k)||Pr r k
 |.raw es,k=>(dG es k).isSome
noncomputable def F2:RD->AV->RV->Cs->(RD->Prop)->Prop
 |.nil,k,a,_,q=>q (.cons k a .nil)
 |.cons k' w r,k,a,L,q=>wt (decide (k'=k)) (q (.cons k' a r)) (F2 r k a L λs=>q (.cons k' w s))
 |.raw es,k,a,L,q=>ID L a λx=>q (.raw (dput es k x))
noncomputable def S3:RD->Nat
 |.nil=>0
 |.cons _ _ r=>de (S3 r)
 |.raw us=>us.length
noncomputable def YP:RD->List j9
 |.nil=>[]
 |.cons k _ r=>.one (.v k)::YP r
 |.raw es=>es.map λe=>.one (.v e.1)
noncomputable def mZ{α:Type}(_:α):Prop:=False
noncomputable def Jj{α β:Type}(_:α)(_:β):Prop:=False
noncomputable def xk(w:RV)(f:AV->Prop)(g:Nat->Prop):Prop:=match (motive:=RV->T2) w with
 |.v x=>f x
 |.r i=>g i
noncomputable def FE(x:AV)(fi:Int->Prop)(fs:S->Prop):Prop:=match (motive:=AV->T2) x with
 |.int i=>fi i
 |.str s=>fs s
 |_=>False
noncomputable def Xt(z:Int)(k:Nat->Prop):Prop:=match (motive:=Int->T2) z with
 |.ofNat n=>k n
 |.negSucc _=>False
noncomputable def z8(o:RO)(fl ft:RS->Prop)(fd:RD->Prop)(fi:bF->List RV->Prop):Prop:=match (motive:=RO->T2) o with
 |.list vs=>fl vs
 |.tup vs=>ft vs
 |.dict es=>fd es
 |.inst c fs=>fi c fs
 |_=>False
noncomputable def PR{α:Type}(l:List α)(k:α->Prop):Prop:=match (motive:=List α->T2) l with
 |[]=>False
 |a::r=>match (motive:=List α->T2) r with
  |[]=>k a
  |_::_=>False
noncomputable def two1{α:Type}(l:List α)(k:α->α->Prop):Prop:=match (motive:=List α->T2) l with
 |[]=>False
 |a::r=>PR r (k a)
noncomputable def TL(r:RS)(p:Prop):Prop:=match (motive:=RS->T2) r with
 |.nil=>p
 |_=>False
noncomputable def F9(r:RS)(k:RV->RS->Prop):Prop:=match (motive:=RS->T2) r with
 |.cons w r=>k w r
 |_=>False
noncomputable def xF(o:RO)(k:bF->List RV->Prop):Prop:=z8 o mZ mZ mZ k
noncomputable def s7(o:RO)(k:RS->Prop):Prop:=z8 o k mZ mZ Jj
noncomputable def tupK(o:RO)(k:RS->Prop):Prop:=z8 o mZ k mZ Jj
noncomputable def G4(o:RO)(k:RD->Prop):Prop:=z8 o mZ mZ k Jj
noncomputable def U1(o:RS)(k:List AV->Prop):Prop:=match (motive:=RS->T2) o with
 |.raw vs=>k vs
 |_=>False
noncomputable def Mt(o:RD)(k:List (AV×AV)->Prop):Prop:=match (motive:=RD->T2) o with
 |.raw vs=>k vs
 |_=>False
noncomputable def Ys(c:Option (Nat×RO))(k:Nat->RO->Prop):Prop:=match (motive:=Option (Nat×RO)->T2) c with
 |some (l,o)=>k l o
 |none=>False
noncomputable def FA(L:Cs)(i:Nat)(k:Nat->Nat->RO->Prop):Prop:=Ys (dz L i) (k i)
noncomputable def atC(L:Cs)(w:RV)(k:Nat->Nat->RO->Prop):Prop:=xk w mZ λi=>FA L i k
noncomputable def trV(x:AV)(Q:Bool->Prop):Prop:=match (motive:=AV->T2) x with
 |.bool b=>Q b
 |.int i=>Q (i !=0)
 |.none=>Q false
 |_=>False
noncomputable def tW(w:RV)(L:Cs)(Q:Bool->Prop):Prop:=xk w (λx=>trV x Q) λi=>FA L i λ_ _ o=>s7 (iV o) λvs=>Q (tX vs !=0)
noncomputable def Yz(Q:PE)(L:Cs):RV->Prop:=λw=>Q w L
noncomputable def VZ(Q:PE)(L:Cs):Int->Prop:=λz=>Q (.v (.int z)) L
noncomputable def ME(Q:PE)(L:Cs):Bool->Prop:=λb=>Q (.v (.bool b)) L
noncomputable def kCh(Q:PE)(L:Cs):Nat->Prop:=λc=>Q (.v (.str [c])) L
noncomputable def RG(Q:PE)(L:Cs):RS->Prop:=λs=>kU (.list s) L Q
noncomputable def QR(i l:Nat)(L:Cs)(q:Cs->Prop):RS->Prop:=λs=>lR L i (l,.list s) q
noncomputable def V4(i l:Nat)(L:Cs)(q:Cs->Prop):RD->Prop:=λs=>lR L i (l,.dict s) q
noncomputable def O7(Q:Bool->Prop):Bool->Prop:=λr=>Q (!r)
noncomputable def Nd(w:RV)(x:At)(L:Cs)(Q:PE):Prop:=atC L w λ_ _ o=>xF (iV o) λc fs=>FW (!c.isExc) (oX (lO c.fields x) λj=>oX (dz fs j) λw=>Q w L)
noncomputable def NF(w:RV)(x:At)(a:RV)(L:Cs)(k:Cs->Prop):Prop:=atC L w λi l o=>xF o λc fs=>FW (!c.isExc) (oX (lO c.fields x) λj=>putK fs j a λfs'=>lR L i (l,.inst c fs') k)
noncomputable def rU(w:RV)(k:Int->Prop):Prop:=xk w (λx=>FE x k mZ) mZ
noncomputable def Ba(w:RV)(k:S->Prop):Prop:=xk w (λx=>FE x mZ k) mZ
noncomputable def qy(w:RV)(k:AV->Prop):Prop:=xk w k mZ
noncomputable def A6(w:RV)(k:Nat->Prop):Prop:=rU w λz=>Xt z k
noncomputable def Rw(w k:RV)(L:Cs)(Q:PE):Prop:=xk w (λx=>FE x mZ λs=>A6 k λn=>rS (decide (n<=lim)) (yn (dz s n) (kCh Q L))) λi=>FA L i λ_ _ o=>z8 (iV o) (λvs=>A6 k λn=>qI vs n L (Yz Q L)) (λvs=>A6 k λn=>qI vs n L (Yz Q L)) (λes=>qy k λa=>rS (isKey a) (Mz es a L (Yz Q L))) Jj
noncomputable def QM(w k a:RV)(L:Cs)(q:Cs->Prop):Prop:=atC L w λi l o=>z8 o (λvs=>A6 k λn=>Mw vs n a L (QR i l L q)) mZ (λes=>qy k λx=>rS (isKey x&&decide (S3 es<lim)) (F2 es x a L (V4 i l L q))) Jj
noncomputable def FD(x:AV)(p:Prop):Prop:=match (motive:=AV->T2) x with
 |.none=>p
 |_=>False
noncomputable def Zk(x:AV)(p:Prop)(k:Int->Prop):Prop:=match (motive:=AV->T2) x with
 |.none=>p
 |.int n=>k n
 |_=>False
noncomputable def Wb(a b c:AV)(vs:RS)(k:RS->Prop):Prop:=Zk a
 (FE b (λn=>rS (decide (0<=n/\c=.none)) (Fo vs n.toNat k)) mZ)
 λn=>rS (decide (0<=n/\b=.none)) (Zk c (Fm vs n.toNat k) λm=>rS (decide (0<m)) (U1 vs λus=>rS (decide ((nM us n m).length<=lim)) (k (.raw (nM us n m)))))
noncomputable def WY(w a b c:RV)(L:Cs)(Q:PE):Prop:=qy a λa=>qy b λb=>qy c λc=>xk w
 (λx=>FE x mZ λs=>rS (decide (a=.none/\c=.none)) (FE b (λn=>rS (decide (0<=n/\n<=s.length/\s.length<=lim)) (Q (.v (.str (s.take n.toNat))) L)) mZ))
 λi=>FA L i λ_ _ o=>s7 (iV o) λvs=>rS (decide (tX vs<=lim)) (Wb a b c vs (RG Q L))
noncomputable def VM(op:Op)(a b:RV)(L:Cs)(Q:PE):Prop:=xk a
 (λx=>FE x (λx=>rU b λy=>yn (r5 op x y) (VZ Q L)) λs=>Ba b λt=>rS (decide (op=.add/\s.length<=lim/\t.length<=lim)) (Q (.v (.str (s++t))) L))
 λi=>FA L i λ_ _ o=>s7 (iV o) λvs=>xk b
  (λy=>FE y (λn=>F9 vs λw r=>TL r (qy w λx=>rS (decide (op=.mul/\0<=n/\n<=lim)) (kU (.list (.raw (aM n.toNat x))) L Q))) mZ)
  λj=>FA L j λ_ _ o=>s7 (iV o) λts=>rS (decide (op=.add/\tX vs+tX ts<=lim)) (UD vs ts (RG Q L))
structure Fc(σ:Hp)(L:Cs):Prop where
 obj:∀i l o z,dz L i=some (l,o)->eH (locs L) o=some z->σ[l]?=some z
 tup:∀i l G g,dz L i=some (l,.gh G)->g∈G->σ[g.1]?=some (.tup g.2)
inductive Ve(a b:RV)(L:Cs)(Q:Bool->Prop):Prop where
 |mk (r:Bool) (h:∀σ x y,den (locs L) a=some x->den (locs L) b=some y->Fc σ L->NW x y σ=.ok r σ) (q:Q r)
noncomputable def Zh(a b:RV)(L:Cs)(Q:Bool->Prop):Prop:=xk a (λx=>xk b (λy=>yn (w5 x y) Q) λ_=>Ve a b L Q) λ_=>Ve a b L Q
noncomputable def NN:RS->Int->(Bool->Prop)->Prop
 |.nil,_,k=>k false
 |.cons w r,z,k=>rU w λj=>NN r z λb=>k (j==z||b)
 |.raw _,_,_=>False
noncomputable def inW(a b:RV)(L:Cs)(Q:Bool->Prop):Prop:=xk b (λy=>FE y mZ λt=>Ba a λs=>yn (Lm s t) Q) λi=>FA L i λ_ _ o=>z8 (iV o) mZ (λvs=>rU a λz=>NN vs z Q) (λes=>qy a λx=>rS (isKey x) (Q (Pr es x))) Jj
noncomputable def isN:AV->Option Bool
 |.none=>some true
 |.ref _|.int _|.str _|.bool _=>some false
 |_=>none
noncomputable def ZG(a b:RV)(L:Cs)(Q:Bool->Prop):Prop:=xk b (λy=>FD y (ID L a λx=>oX (isN x) Q)) λj=>atC L a λi _ o=>xF o λ_ _=>FA L j λj _ o=>xF o λ_ _=>Q (i==j)
noncomputable def W5(op:oH)(a b:RV)(Q:Bool->Prop):Prop:=xk a (λx=>FE x (λx=>rU b λy=>Q (cmpInt op x y)) λs=>Ba b λt=>Q (mF op s t)) mZ
noncomputable def Qw(op:oH)(a b:RV)(L:Cs)(Q:Bool->Prop):Prop:=match op with
 |.eq=>Zh a b L Q
 |.ne=>Zh a b L (O7 Q)
 |.GP=>inW a b L Q
 |.o8=>inW a b L (O7 Q)
 |.is=>ZG a b L Q
 |.qD=>ZG a b L (O7 Q)
 |op=>W5 op a b Q
set_option genCtorIdx false
inductive VW where
 |own (l:Nat) (b:Option aF)|ro (l:Nat) (b:Option aF)|d6 (l:Nat) (B:List (Nat×aF))|gh (l:Nat) (G:List (Nat×List AV))|gk (l:Nat) (K:List (Nat×bF))
noncomputable def vw(ls:List Nat)(c:Nat×RO):VW:=match c.2 with
 |.ro o=>.ro c.1 (eH ls o)
 |.d6 B=>.d6 c.1 B
 |.gh G=>.gh c.1 G
 |.gk K=>.gk c.1 K
 |o=>.own c.1 (eH ls o)
noncomputable def IP(ls:List Nat):Cs->List VW
 |[]=>[]
 |c::r=>vw ls c::IP ls r
inductive Fa where
 |o (l:Nat) (b:aF)|r (l:Nat) (b:aF)|t (l:Nat) (vs:List AV)|k (l:Nat) (c:bF)|no
noncomputable def Fa.ctorIdx(x:Fa):Nat:=Fa.casesOn x (λ_ _=>0) (λ_ _=>1) (λ_ _=>2) (λ_ _=>3) 4
noncomputable def VW.ctorIdx(x:VW):Nat:=VW.casesOn x (λ_ _=>0) (λ_ _=>1) (λ_ _=>2) (λ_ _=>3) (λ_ _=>4)
noncomputable def Holds(σ:Hp):Fa->Prop
 |.o l b=>σ[l]?=some b
 |.r l b=>σ[l]?=some b
 |.t l vs=>σ[l]?=some (.tup vs)
 |.k l c=>c.isExc=false/\∃fs,σ[l]?=some (.inst c fs)
 |.no=>False
noncomputable def UL(f:aF->Fa):Option aF->List Fa
 |some b=>[f b]
 |none=>[.no]
noncomputable def mX:VW->List Fa
 |.own l b=>UL (.o l) b
 |.ro l b=>UL (.r l) b
 |.d6 _ B=>B.map λp=>.o p.1 p.2
 |.gh _ G=>G.map λp=>.t p.1 p.2
 |.gk _ K=>K.map λp=>.k p.1 p.2
noncomputable def Cv:List VW->List Fa
 |[]=>[]
 |v::r=>mX v++Cv r
noncomputable abbrev at_(ls:List Nat)(L:Cs):List Fa:=Cv (IP ls L)
noncomputable def ow:Fa->List Nat
 |.o l _=>[l]
 |_=>[]
noncomputable def rl:Fa->List Nat
 |.r l _=>[l]
 |_=>[]
structure cC(σ:Hp)(T:List Fa)(G:List (Nat×aF)):Prop where
 h:∀f∈T,Holds σ f
 g:∀p∈G,σ[p.1]?=some p.2
 n:(G.map (·.1)++T.flatMap ow).Nodup
 r:∀l b,Fa.r l b∈T->(l,b)∈G
 u:(T.flatMap rl).Nodup
noncomputable def Pre(l l':List Nat):Prop:=∃X,l'=l++X
inductive Res{α β:Type}(R:List Nat->β->α->Prop)(L:Cs)(F:List Fa)(G:List (Nat×aF))(Q:β->Cs->Prop)(a:α)(σ:Hp):Prop where
 |mk (b:β) (L':Cs) (r:R (locs L') b a) (p:Pre (locs L) (locs L')) (s:cC σ (at_ (locs L') L'++F) G) (q:Q b L')
noncomputable def Rv(ls:List Nat)(w:RV)(a:AV):Prop:=den ls w=some a
noncomputable def Re(ls:List Nat)(w:RV)(x:Nat):Prop:=den ls w=some (.ref x)
noncomputable def J{α β:Type}(R:List Nat->β->α->Prop)(m:MM α)(L:Cs)(Q:β->Cs->Prop)(E:PE):Prop:=∀F G σ,cC σ (at_ (locs L) L++F) G->Wp (m σ) (Res R L F G Q) (Res Re L F G E)
structure Call(d:Nat)(f:Fn)(as:List RV)(L:Cs)(Q E:PE):Prop where
 run:∀args,gG (locs L) as=some args->J Rv (xS d f args) L Q E
structure VT(m:List AV->MM AV)(as:List RV)(L:Cs)(Q:PE):Prop where
 run:∀args,gG (locs L) as=some args->J Rv (m args) L Q ff
inductive VD(L:Cs)(l:Nat)(k:Kd->Prop):Prop where
 |mk (i l₀:Nat) (K:List (Nat×bF)) (c:bF) (h:dz L i=some (l₀,.gk K)) (m:(l,c)∈K) (q:k (.inst c))
noncomputable def A9(x:AV)(L:Cs)(k:Kd->Prop):Prop:=match x with
 |.ref l=>VD L l k
 |.none=>k .none
 |.bool _=>k .bool
 |.int _=>k .int
 |.str _=>k .str
 |_=>False
noncomputable def kdP(L:Cs)(w:RV)(k:Kd->Prop):Prop:=xk w (λx=>A9 x L k) λi=>FA L i λ_ _ o=>z8 (iV o) (λ_=>k .list) (λ_=>k .tup) (λ_=>k .dict) λc _=>FW (!c.isExc) (k (.inst c))
noncomputable def ifO{α:Type}(b:Bool)(o:Option α):Option α:=match b with
 |true=>o
 |false=>none
noncomputable def sN{α:Type}:List α->Nat->α->List α
 |[],_,_=>[]
 |_::r,0,a=>a::r
 |b::r,n+1,a=>b::sN r n a
noncomputable def uP{β:Type}:Cs->Nat->(Nat×RO->Cs->Option β)->Option β
 |[],_,_=>none
 |(l,o)::r,0,k=>k (l,o) ((l,.gh [])::r)
 |b::r,n+1,k=>uP r n λc s=>k c (b::s)
noncomputable def sel(ls:List Nat):List Nat->Cs->Option (List VW)
 |[],_=>some []
 |i::r,L=>uP L i λc L=>cF (sel ls r L) λs=>some (vw ls c::s)
noncomputable def tk:Nat->List Nat->List Nat
 |0,_=>[]
 |_+1,[]=>[]
 |n+1,a::r=>a::tk n r
noncomputable def RW:Cs->Nat
 |[]=>0
 |_::r=>de (RW r)
inductive Pk where
 |one (i:Nat)|gT (is:List Nat)|no (l:Nat)|gh (i:Nat) (is:List Nat)|gk (i:Nat) (is:List Nat)
noncomputable def Pk.ctorIdx(x:Pk):Nat:=Pk.casesOn x (λ_=>0) (λ_=>1) (λ_=>2) (λ_ _=>3) (λ_ _=>4)
noncomputable def Wx:VW->Option (List (Nat×aF))
 |.own l (some b)=>some [(l,b)]
 |.d6 _ B=>some B
 |_=>none
noncomputable def objs(ls:List Nat):List Nat->Cs->(List (Nat×aF)->Cs->Option (List VW))->Option (List VW)
 |[],L,k=>k [] L
 |i::r,L,k=>uP L i λc L=>cF (Wx (vw ls c)) λp=>objs ls r L λs L=>k (p++s) L
noncomputable def Dk(ls:List Nat)(L:Cs):List Nat->Option (List (Nat×List AV))
 |[]=>some []
 |i::r=>cF (dz L i) λc=>match c with
  |(l,.tup vs)=>cF (Ak ls vs) λus=>cF (Dk ls L r) λs=>some ((l,us)::s)
  |_=>none
noncomputable def MH(L:Cs):List Nat->Option (List (Nat×bF))
 |[]=>some []
 |i::r=>cF (dz L i) λc=>match c with
  |(l,.inst c _)=>ifO (!c.isExc) (cF (MH L r) λs=>some ((l,c)::s))
  |_=>none
noncomputable def ghV:RO->Option (List (Nat×List AV))
 |.gh G=>some G
 |_=>none
noncomputable def gkV:RO->Option (List (Nat×bF))
 |.gk K=>some K
 |.gh []=>some []
 |_=>none
noncomputable def NY(ls:List Nat)(L₀:Cs):List Pk->Cs->Option (List VW)
 |[],_=>some []
 |.one i::r,L=>uP L i λc L=>cF (NY ls L₀ r L) λs=>some (vw ls c::s)
 |.gT is::r,L=>objs ls is L λB L=>cF (NY ls L₀ r L) λs=>some (.d6 0 B::s)
 |.no l::r,L=>cF (NY ls L₀ r L) λs=>some (.gh l []::s)
 |.gh i is::r,L=>cF (dz L₀ i) λc=>cF (ghV c.2) λG=>cF (Dk ls L₀ is) λT=>cF (NY ls L₀ r L) λs=>some (.gh c.1 (G++T)::s)
 |.gk i is::r,L=>cF (dz L₀ i) λc=>cF (gkV c.2) λG=>cF (MH L₀ is) λT=>cF (NY ls L₀ r L) λs=>some (.gk c.1 (G++T)::s)
noncomputable def vS(ls:List Nat):RL->RL->Option (List (Option AV))
 |[],[]=>some []
 |_::r,none::s=>cF (vS ls r s) λt=>some (none::t)
 |some w::r,some _::s=>cF (den ls w) λa=>cF (vS ls r s) λt=>some (some a::t)
 |_,_=>none
inductive To{τ:Type}(l₀:List Nat)(sr:τ->RL)(sL:τ->Cs)(ρ':RL)(L':Cs):Prop where
 |mk (η:List Pk) (t:τ) {m:List (Option AV)} (h:(NY (locs L') L' η L',vS (locs L') ρ' (sr t),vS (locs (sL t)) (sr t) (sr t),tk l₀.length (locs (sL t)))=(some (IP (locs (sL t)) (sL t)),some m,some m,l₀))
 |id (t:τ) {m:List (Option AV)} (h:(L',vS (locs L') ρ' (sr t),vS (locs L') (sr t) (sr t),tk l₀.length (locs L'))=(sL t,some m,some m,l₀))
inductive J3{τ:Type}(l₀:List Nat)(su:τ->List AV)(sL:τ->Cs)(us:List AV)(L':Cs):Prop where
 |mk (η:List Pk) (t:τ) (e:us=su t) (h:(NY (locs L') L' η L',tk l₀.length (locs (sL t)))=(some (IP (locs (sL t)) (sL t)),l₀))
 |id (t:τ) (e:us=su t) (h:(L',tk l₀.length (locs L'))=(sL t,l₀))
noncomputable def O3(as:List RV)(k:RV->Prop):Prop:=PR as k
noncomputable def YA(as:List RV)(k:RV->RV->Prop):Prop:=two1 as k
noncomputable def kIs(t:AV)(Q:PE)(L:Cs):Kd->Prop:=λk=>FW (BS t) (Q (.v (.bool (yL k t))) L)
noncomputable def YZ(Q:PE)(L:Cs):List Int->Prop:=λis=>Q (.v (.int is.sum)) L
noncomputable def X3(Q:PE)(L:Cs):List S->Prop:=λss=>rS (decide (ss.length<64)) (kU (.list (.raw ((mR ss).map .str))) L Q)
noncomputable def biW(b:Bi)(as:List RV)(L:Cs)(Q:PE):Prop:=match b with
 |.len=>O3 as λw=>xk w (λx=>FE x mZ λs=>rS (decide (s.length<=lim)) (Q (.v (.int s.length)) L)) λi=>FA L i λ_ _ o=>s7 (iV o) λvs=>Hu vs 0 λn=>VZ Q L n
 |.isinstance=>YA as λw t=>qy t λt=>kdP L w (kIs t Q L)
 |.str=>O3 as λw=>qy w λx=>FE x (λn=>rS (decide (n.natAbs<10^20)) (Q (.v (.str (je n))) L)) λs=>Q (.v (.str s)) L
 |.ord=>O3 as λw=>Ba w λs=>PR s λc=>Q (.v (.int c)) L
 |.min=>YA as λa b=>rU a λx=>rU b λy=>Q (.v (.int (if y<x then y else x))) L
 |.sum=>O3 as λw=>atC L w λ_ _ o=>s7 (iV o) λvs=>U1 vs λus=>yn (intsOf us) (YZ Q L)
 |.sorted=>O3 as λw=>atC L w λ_ _ o=>G4 (iV o) λvs=>Mt vs λes=>yn (strsOf (es.map (·.1))) (X3 Q L)
 |b=>VT (vG b) as L Q
section
variable(I:Fn->List RV->Cs->PE->PE->Prop)
noncomputable def V0(o:RV)(Q:PE):PE:=λw L=>qy w λx=>FD x (Q o L)
noncomputable def Z2(f:Fn)(as:List RV)(Q:PE):PE:=λo L=>I f (o::as) L (V0 o Q) ff
noncomputable def WC(c:bF)(as:List RV)(L:Cs)(Q:PE):Prop:=match qj c with
 |some f=>kU (.inst c []) L (Z2 I f as Q)
 |none=>match c with
  |.thrown=>YA as λa b=>Ba a λa=>Ba b λb=>kU (.inst .thrown [.v (.str a),.v (.str b),.v (.int 0),.v .none,.v .none]) L Q
  |.leftOut=>O3 as λa=>Ba a λa=>kU (.inst .leftOut [.v (.str a)]) L Q
  |_=>False
noncomputable def QN(f:RV)(as:List RV)(L:Cs)(Q E:PE):Prop:=qy f λf=>match f with
 |.fn f=>I f as L Q E
 |.cls c=>WC I c as L Q
 |.bi b=>biW b as L Q
 |_=>False
noncomputable def QH(w:RV)(m:S)(L:Cs)(k:Mh→Prop):Prop:=atC L w λ_ _ o=>z8 (iV o) (λ_=>FW (decide (m=toS "append")) (k .app)) mZ (λ_=>FW (decide (m=toS "get")) (k .get)) λc _=>oX (vf c m) λf=>k (.fn f)
noncomputable def Yq(Q:PE):Cs->Prop:=λL=>Q (.v .none) L
noncomputable def doW(w:RV)(h:Mh)(as:List RV)(L:Cs)(Q E:PE):Prop:=match h with
 |.fn f=>I f (w::as) L Q E
 |.app=>O3 as λa=>atC L w λi l o=>s7 o λvs=>rS (decide (tX vs<lim)) (Gb vs a L (QR i l L (Yq Q)))
 |.get=>O3 as λk=>qy k λk=>atC L w λ_ _ o=>G4 (iV o) λes=>rS (isKey k) (Mj es k L (Yz Q L))
noncomputable abbrev Lk:=Option (Nat×Nat×RO)
noncomputable abbrev KI:=List j9->Lk->Cs->Prop
noncomputable def ZX(o:RO)(f g:RO->Prop):Prop:=match (motive:=RO->T2) o with
 |.ro o=>f o
 |o=>g o
noncomputable def Nf(lk:Lk)(L:Cs)(k:Cs->Prop):Prop:=match lk with
 |none=>k L
 |some (i,l,o)=>oX (dz L i) λc=>ZX c.2 (λ_=>lR L i (l,o) k) mZ
noncomputable def Yi(w:RV)(L:Cs)(K:KI):Prop:=xk w (λx=>FE x mZ λs=>K (s.map λc=>.one (.v (.str [c]))) none L)
 λi=>FA L i λi l o=>ZX o (λo=>z8 o (λvs=>K (VJ vs) none L) mZ (λvs=>K (YP vs) none L) Jj) λo=>z8 o (λvs=>lR L i (l,.ro (.list vs)) λL=>K (VJ vs) (some (i,l,.list vs)) L) (λvs=>K (VJ vs) none L) (λvs=>lR L i (l,.ro (.dict vs)) λL=>K (YP vs) (some (i,l,.dict vs)) L) Jj
noncomputable def xV(a:Nat):Nat->List j9
 |0=>[]
 |n+1=>.one (.v (.int (a:Int)))::xV (a+1) n
noncomputable def V5(x y:RV)(L:Cs)(K:KI):Prop:=A6 x λa=>A6 y λb=>rS (decide (a<=lim/\b<=lim)) (K (xV a (b - a)) none L)
noncomputable def Lu:RS->Nat->(List j9->Prop)->Prop
 |.nil,_,k=>k []
 |.cons w r,n,k=>Lu r (n+1) λs=>k (.pair (.v (.int (n:Int))) w::s)
 |.raw _,_,_=>False
noncomputable def Q4(w:RV)(L:Cs)(K:KI):Prop:=atC L w λ_ _ o=>tupK o λvs=>Lu vs 0 λs=>K s none L
noncomputable def YR(n:Nat)(p q:Prop):Prop:=match (motive:=Nat->T2) n with
 |1=>p
 |2=>q
 |_=>False
noncomputable def WA(x:AV)(k:Nat->Prop):Prop:=match (motive:=AV->T2) x with
 |.ref t=>k t
 |_=>False
noncomputable def DF(a:AV)(K:List RV->Prop):RV->Prop:=λw=>K [.v a,w]
noncomputable def aae(L:Cs)(K:List RV->Prop):List AV->Prop:=λvs=>two1 vs λa b=>qT (some b) L (DF a K)
noncomputable def xc(n:Nat)(it:j9)(L:Cs)(K:List RV->Prop):Prop:=match it with
 |.pair a b=>YR n False (K [a,b])
 |.one w=>YR n (K [w]) (xk w (λx=>WA x λt=>Z6 L t (aae L K)) λi=>FA L i λ_ _ o=>tupK (iV o) λvs=>F9 vs λa r=>F9 r λb r=>TL r (K [a,b]))
noncomputable def uG:List Nat->List RV->RL->(RL->Prop)->Prop
 |[],[],ρ,k=>k ρ
 |i::is,w::ws,ρ,k=>lR ρ i (some w) λρ=>uG is ws ρ k
 |_,_,_,_=>False
noncomputable abbrev MW:=Cs->PE->PE->Prop
noncomputable abbrev ML:=Cs->(List RV->Cs->Prop)->PE->Prop
noncomputable def XE(g:RL->Cs->PF->Prop)(Q:PF):PF:=λf L=>match f with
 |.next ρ=>g ρ L Q
 |.ret w=>Q (.ret w) L
noncomputable def xy(body:List RV->RL->Cs->PF->Prop)(ρ:RL)(L:Cs)(K:PF):List RV->Prop:=λws=>body ws ρ L K
noncomputable def Wa(body:List RV->RL->Cs->PF->Prop)(n:Nat):List j9->RL->Cs->PF->Prop
 |[],ρ,L,Q=>Q (.next ρ) L
 |it::r,ρ,L,Q=>xc n it L (xy body ρ L (XE (Wa body n r) Q))
noncomputable def Xd(w:RV)(K:RS->Cs->Prop):RS->Cs->Prop:=λvs L=>K (.cons w vs) L
noncomputable def TR(g:Cs->(RS->Cs->Prop)->Prop)(K:RS->Cs->Prop):Option RV->Cs->Prop:=λo L=>match o with
 |some w=>g L (Xd w K)
 |none=>g L K
noncomputable def yp(turn:List RV->Cs->(Option RV->Cs->Prop)->Prop)(L:Cs)(K:Option RV->Cs->Prop):List RV->Prop:=λws=>turn ws L K
noncomputable def Vr(turn:List RV->Cs->(Option RV->Cs->Prop)->Prop)(n:Nat):List j9->Cs->(RS->Cs->Prop)->Prop
 |[],L,K=>K .nil L
 |it::r,L,K=>xc n it L (yp turn L (TR (Vr turn n r) K))
noncomputable def Ss(g:RL->Cs->PF->Prop)(ρ:RL)(Q:PF):Option RF->Cs->Prop:=λf L=>match f with
 |none=>Q (.next ρ) L
 |some (.next ρ)=>g ρ L Q
 |some (.ret w)=>Q (.ret w) L
noncomputable def Vc(turn:RL->Cs->(Option RF->Cs->Prop)->Prop):Nat->RL->Cs->PF->Prop
 |0,_,_,_=>False
 |n+1,ρ,L,Q=>turn ρ L (Ss (Vc turn n) ρ Q)
noncomputable def XX(is:List Nat)(b:RL->Cs->PF->Prop)(ws:List RV)(ρ:RL)(L:Cs)(K:PF):Prop:=uG is ws ρ λρ=>b ρ L K
noncomputable def Vq(p q:Prop):Bool->Prop:=λb=>wt b p q
noncomputable def XA(K:Option RV->Cs->Prop):PE:=λw L=>K (some w) L
noncomputable def QL{α:Type}(f g:Cs->α->PE->Prop)(Q:α)(E:PE):PE:=λw L=>tW w L (Vq (f L Q E) (g L Q E))
noncomputable def ZC(e:MW)(K:Option RV->Cs->Prop):PE:=λw L=>tW w L (Vq (e L (XA K) ff) (K none L))
noncomputable def Yk(ρ:RL)(c e:RL->MW)(ws:List RV)(L:Cs)(K:Option RV->Cs->Prop):Prop:=FZ ws λws=>HM ρ ws λρ=>c ρ L (ZC (e ρ) K) ff
noncomputable def Si(K:Option RF->Cs->Prop):PF:=λf L=>K (some f) L
noncomputable def ZY(b:Cs->PF->PE->Prop)(K:Option RF->Cs->Prop):PE:=λw L=>tW w L (Vq (b L (Si K) ff) (K none L))
noncomputable def UX(c:RL->MW)(b:RL->Cs->PF->PE->Prop)(ρ:RL)(L:Cs)(K:Option RF->Cs->Prop):Prop:=c ρ L (ZY (b ρ) K) ff
noncomputable def Vp{τ:Type}(l₀:List Nat)(sr:τ->RL)(sL:τ->Cs)(Q:PF):PF:=λf L'=>match f with
 |.next ρ'=>To l₀ sr sL ρ' L'
 |.ret w=>Q (.ret w) L'
inductive tT(body:List RV->RL->Cs->PF->Prop)(n:Nat)(dh:List j9)(ρ:RL)(L:Cs)(Q:PF):Prop where
 |run (h:Wa body n dh ρ L Q)
 |inv {α:Type} {τ:Nat->Type} (xs:List α) (f:α->j9) (e:dh=xs.map f) (sr:∀m,τ m->RL) (sL:∀m,τ m->Cs) (h:To (locs L) (sr 0) (sL 0) ρ L)
   (step:∀m x,xs[m]?=some x->∀t,xc n (f x) (sL m t) (xy body (sr m t) (sL m t) (Vp (locs L) (sr (m+1)) (sL (m+1)) Q))) (done:∀t,Q (.next (sr xs.length t)) (sL xs.length t))
noncomputable def Ed{τ:Type}(l₀:List Nat)(su:τ->List AV)(sL:τ->Cs)(us:List AV):Option RV->Cs->Prop:=λo L'=>match o with
 |none=>J3 l₀ su sL us L'
 |some w=>ID L' w λx=>J3 l₀ su sL (us++[x]) L'
inductive pK(turn:List RV->Cs->(Option RV->Cs->Prop)->Prop)(n:Nat)(dh:List j9)(L:Cs)(Q:RS->Cs->Prop):Prop where
 |run (h:Vr turn n dh L Q)
 |inv {α:Type} {τ:Nat->Type} (xs:List α) (f:α->j9) (e:dh=xs.map f) (su:∀m,τ m->List AV) (sL:∀m,τ m->Cs) (h:J3 (locs L) (su 0) (sL 0) [] L)
   (step:∀m x,xs[m]?=some x->∀t,xc n (f x) (sL m t) (yp turn (sL m t) (Ed (locs L) (su (m+1)) (sL (m+1)) (su m t)))) (done:∀t,Q (.raw (su xs.length t)) (sL xs.length t))
noncomputable def Tc(es:RD)(p:Prop):Prop:=match (motive:=RD->T2) es with
 |.nil=>p
 |.raw []=>p
 |_=>False
noncomputable def flC(o:RO)(k:bF->List RV->Prop):Prop:=match (motive:=RO->T2) o with
 |.fl c fs=>k c fs
 |_=>False
noncomputable def YD:RS->(List RV->Prop)->Prop
 |.nil,k=>k []
 |.cons w r,k=>YD r λs=>k (w::s)
 |.raw _,_=>False
noncomputable def Wz(x:At)(Q:PE):PE:=λw L=>Nd w x L Q
noncomputable def Vu(w:RV)(Q:PE):PE:=λk L=>Rw w k L Q
noncomputable def Z9(f:MW)(Q E:PE):PE:=λw L=>f L (Vu w Q) E
noncomputable def YY(w a b:RV)(Q:PE):PE:=λc L=>WY w a b c L Q
noncomputable def Ze(w a:RV)(f:MW)(Q E:PE):PE:=λb L=>f L (YY w a b Q) E
noncomputable def YT(w:RV)(f g:MW)(Q E:PE):PE:=λa L=>f L (Ze w a g Q E) E
noncomputable def YU(f g h:MW)(Q E:PE):PE:=λw L=>f L (YT w g h Q E) E
noncomputable def U8(g:RV)(Q E:PE):List RV->Cs->Prop:=λvs L=>QN I g vs L Q E
noncomputable def Xm(f:ML)(Q E:PE):PE:=λg L=>f L (U8 I g Q E) E
noncomputable def S0(w:RV)(h:Mh)(Q E:PE):List RV->Cs->Prop:=λvs L=>doW I w h vs L Q E
noncomputable def TC(w:RV)(L:Cs)(f:ML)(Q E:PE):Mh->Prop:=λh=>f L (S0 I w h Q E) E
noncomputable def Yd(m:S)(f:ML)(Q E:PE):PE:=λw L=>QH w m L (TC I w L f Q E)
noncomputable def X5(op:Op)(x:RV)(Q:PE):PE:=λy L=>VM op x y L Q
noncomputable def ZK(op:Op)(f:MW)(Q E:PE):PE:=λx L=>f L (X5 op x Q) E
noncomputable def Up(Q:PE):PE:=λw L=>rU w λz=>Q (.v (.int (-z))) L
noncomputable def Z3(Q:PE):PE:=λw L=>tW w L (O7 (ME Q L))
noncomputable def X6(op:oH)(x:RV)(Q:PE):PE:=λy L=>Qw op x y L (ME Q L)
noncomputable def Y4(op:oH)(f:MW)(Q E:PE):PE:=λx L=>f L (X6 op x Q) E
noncomputable def ZM(y:RV)(o2:oH)(Q:PE):PE:=λz L=>Qw o2 y z L (ME Q L)
noncomputable def Zj(x:RV)(o1 o2:oH)(g:MW)(Q E:PE):PE:=λy L=>Qw o1 x y L (Vq (g L (ZM y o2 Q) E) (Q (.v (.bool false)) L))
noncomputable def kCC(o1:oH)(f:MW)(o2:oH)(g:MW)(Q E:PE):PE:=λx L=>f L (Zj x o1 o2 g Q E) E
noncomputable def ZP(Q:PE):List RV->Cs->Prop:=λvs L=>FW (decide (vs.length<=lim)) (kU (.list (vs.foldr .cons .nil)) L Q)
noncomputable def ZD(Q:PE):List RV->Cs->Prop:=λvs L=>FW (decide (vs.length<=lim)) (kU (.tup (vs.foldr .cons .nil)) L Q)
noncomputable def VK(vs:RS)(Q:PE):Cs->Prop:=λL=>rS (decide (tX vs<=lim)) (kU (.list vs) L Q)
noncomputable def UJ(lk:Lk)(Q:PE):RS->Cs->Prop:=λvs L=>Nf lk L (VK vs Q)
noncomputable def WX(ρ:RL)(n:Nat)(c e:RL->MW)(Q:PE):KI:=λdh lk L=>pK (Yk ρ c e) n dh L (UJ lk Q)
noncomputable def S8(Q:PE):PE:=λw L=>atC L w λ_ _ o=>z8 (iV o) (λvs=>VK vs Q L) mZ (λes=>Tc es (kU (.list .nil) L Q)) Jj
noncomputable def Sf(Q:PE):PE:=λw L=>A6 w λn=>rS (decide (n<=lim)) (kU (.list (.raw ((iK n).map λk=>.int (k:Nat)))) L Q)
noncomputable def Ux(Q:PE):PE:=λw L=>atC L w λ_ _ o=>G4 (iV o) λvs=>Mt vs λes=>rS (decide (es.length<=lim)) (∀G:List (Nat×List AV),G.map (·.2)=es.map (λe=>[e.1,e.2])->Ou L (0,.gh G) 0 λ_ L=>kU (.list (.raw (G.map λg=>.ref g.1))) L Q)
noncomputable def ZR(w:RV)(Q:List RV->Cs->Prop):List RV->Cs->Prop:=λws L=>Q (w::ws) L
noncomputable def kEs(f:ML)(Q:List RV->Cs->Prop)(E:PE):PE:=λw L=>f L (ZR w Q) E
noncomputable def Y7(f:MW)(Q E:PE):PE:=λw L=>tW w L (Vq (f L Q E) (Q w L))
noncomputable def kOr(f:MW)(Q E:PE):PE:=λw L=>tW w L (Vq (Q w L) (f L Q E))
noncomputable def Z7(es:Es)(f:MW)(Q E:PE):PE:=match es with
 |.nil=>Q
 |_=>Y7 f Q E
noncomputable def orK(es:Es)(f:MW)(Q E:PE):PE:=match es with
 |.nil=>Q
 |_=>kOr f Q E
noncomputable def Zy(K:KI):PE:=λw L=>Yi w L K
noncomputable def XR(x:RV)(K:KI):PE:=λw L=>V5 x w L K
noncomputable def WJ(f:MW)(K:KI):PE:=λx L=>f L (XR x K) ff
noncomputable def Xr(K:KI):PE:=λw L=>Q4 w L K
mutual
noncomputable def wE:E->RL->MW
 |.none,_,L,Q,_=>Q (.v .none) L
 |.bool b,_,L,Q,_=>Q (.v (.bool b)) L
 |.int b,_,L,Q,_=>Q (.v (.int b)) L
 |.str b,_,L,Q,_=>Q (.v (.str b)) L
 |.loc i,ρ,L,Q,_=>oX (dz ρ i) λo=>oX o λw=>Q w L
 |.glob v,_,L,Q,_=>Q (.v v) L
 |.attr e x,ρ,L,Q,E=>wE e ρ L (Wz x Q) E
 |.sub e i,ρ,L,Q,E=>wE e ρ L (Z9 (wE i ρ) Q E) E
 |.slice e a b c,ρ,L,Q,E=>wE e ρ L (YU (wE a ρ) (wE b ρ) (wE c ρ) Q E) E
 |.call f as,ρ,L,Q,E=>wE f ρ L (Xm I (wEs as ρ) Q E) E
 |.wZ o m as,ρ,L,Q,E=>wE o ρ L (Yd I m (wEs as ρ) Q E) E
 |.bin op a b,ρ,L,Q,E=>wE a ρ L (ZK op (wE b ρ) Q E) E
 |.neg e,ρ,L,Q,E=>wE e ρ L (Up Q) E
 |.not e,ρ,L,Q,E=>wE e ρ L (Z3 Q) E
 |.cmp op a b,ρ,L,Q,E=>wE a ρ L (Y4 op (wE b ρ) Q E) E
 |.r6 a o1 b o2 c,ρ,L,Q,E=>wE a ρ L (kCC o1 (wE b ρ) o2 (wE c ρ) Q E) E
 |.and es,ρ,L,Q,E=>T6 es ρ L Q E
 |.or es,ρ,L,Q,E=>Zu es ρ L Q E
 |.ite c t e,ρ,L,Q,E=>wE c ρ L (QL (wE t ρ) (wE e ρ) Q E) E
 |.list es,ρ,L,Q,E=>wEs es ρ L (ZP Q) E
 |.tup es,ρ,L,Q,E=>wEs es ρ L (ZD Q) E
 |.dict,_,L,Q,_=>kU (.dict .nil) L Q
 |.comp elt n it cond,ρ,L,Q,_=>YL it ρ L (WX ρ n (wE cond) (wE elt) Q)
 |.listOf it,ρ,L,Q,_=>match it with
  |.plain e=>wE e ρ L (S8 Q) ff
  |.dU e=>wE e ρ L (Sf Q) ff
  |.items e=>wE e ρ L (Ux Q) ff
  |_=>False
noncomputable def wEs:Es->RL->ML
 |.nil,_,L,Q,_=>Q [] L
 |.cons e es,ρ,L,Q,E=>wE e ρ L (kEs (wEs es ρ) Q E) E
noncomputable def T6:Es->RL->MW
 |.nil,_,_,_,_=>False
 |.cons e es,ρ,L,Q,E=>wE e ρ L (Z7 es (T6 es ρ) Q E) E
noncomputable def Zu:Es->RL->MW
 |.nil,_,_,_,_=>False
 |.cons e es,ρ,L,Q,E=>wE e ρ L (orK es (Zu es ρ) Q E) E
noncomputable def YL:It->RL->Cs->KI->Prop
 |.plain e,ρ,L,K=>wE e ρ L (Zy K) ff
 |.dU e,ρ,L,K=>wE e ρ L (XR (.v (.int 0)) K) ff
 |.kj a b,ρ,L,K=>wE a ρ L (WJ (wE b ρ) K) ff
 |.enum e,ρ,L,K=>wE e ρ L (Xr K) ff
 |.items _,_,_,_=>False
end
noncomputable abbrev MS:=RL->Cs->PF->PE->Prop
noncomputable def kEx(ρ:RL)(Q:PF):PE:=λ_ L=>Q (.next ρ) L
noncomputable def Lo(ρ:RL)(Q:PF):Cs->Prop:=λL=>Q (.next ρ) L
noncomputable def Zw(Q:PF):PE:=λw L=>Q (.ret w) L
noncomputable def Xw(i:Nat)(ρ:RL)(Q:PF):PE:=λw L=>lR ρ i (some w) λρ=>Q (.next ρ) L
noncomputable def WD(x:At)(w:RV)(ρ:RL)(Q:PF):PE:=λp L=>NF p x w L (Lo ρ Q)
noncomputable def Z0(f:MW)(x:At)(ρ:RL)(Q:PF)(E:PE):PE:=λw L=>f L (WD x w ρ Q) E
noncomputable def WB(p w:RV)(ρ:RL)(Q:PF):PE:=λk L=>QM p k w L (Lo ρ Q)
noncomputable def W9(g:MW)(w:RV)(ρ:RL)(Q:PF)(E:PE):PE:=λp L=>g L (WB p w ρ Q) E
noncomputable def ZZ(f g:MW)(ρ:RL)(Q:PF)(E:PE):PE:=λw L=>f L (W9 g w ρ Q E) E
noncomputable def Q6(is:List Nat)(ρ:RL)(Q:PF)(L:Cs):RS->Prop:=λvs=>YD vs λws=>uG is ws ρ λρ=>Q (.next ρ) L
noncomputable def aag(is:List Nat)(ρ:RL)(Q:PF):PE:=λw L=>atC L w λ_ _ o=>z8 (iV o) (Q6 is ρ Q L) (Q6 is ρ Q L) mZ Jj
noncomputable def XZ(i:Nat)(op:Op)(a:RV)(ρ:RL)(Q:PF):PE:=λb L=>FW (decide (op=.add)) (rU a λx=>rU b λy=>lR ρ i (some (.v (.int (x+y)))) λρ=>Q (.next ρ) L)
noncomputable def S2(p:RV)(x:At)(op:Op)(a:RV)(ρ:RL)(Q:PF):PE:=λb L=>FW (decide (op=.add)) (rU a λn=>rU b λm=>NF p x (.v (.int (n+m))) L (Lo ρ Q))
noncomputable def Tj(p:RV)(x:At)(op:Op)(f:MW)(ρ:RL)(Q:PF)(E:PE):PE:=λa L=>f L (S2 p x op a ρ Q) E
noncomputable def Xn(x:At)(op:Op)(f:MW)(ρ:RL)(Q:PF)(E:PE):PE:=λp L=>Nd p x L (Tj p x op f ρ Q E)
noncomputable def Xc(lk:Lk)(E:PE):PE:=λw L=>Nf lk L λL=>E w L
noncomputable def Xv(lk:Lk)(Q:PF):PF:=λf L=>Nf lk L λL=>Q f L
noncomputable def Ng(b:MS)(E:PE):RL->Cs->PF->Prop:=λρ L Q=>b ρ L Q E
noncomputable def kFor(is:List Nat)(b:MS)(ρ:RL)(Q:PF)(E:PE):KI:=λdh lk L=>tT (XX is (Ng b (Xc lk E))) is.length dh ρ L (Xv lk Q)
noncomputable def TU(E:PE):PE:=λw L=>atC L w λi l o=>xF o λc fs=>FW c.isExc (lR L i (l,.fl c fs) λL=>E (.r i) L)
noncomputable def SD(k:Nat)(c1:bF)(i:Nat)(x:At)(c2:bF)(t:S)(ρ:RL)(Q:PF):PE:=λw L=>atC L w λ_ _ o=>flC o λc fs=>wt (decide (c=c1)) (oX (lO c.fields x) λn=>oX (dz fs n) λw=>lR ρ k (some w) λρ=>lR ρ i none λρ=>Q (.next ρ) L) (FW (decide (c=c2)) (lR ρ k (some (.v (.str t))) λρ=>Q (.next ρ) L))
noncomputable def ZH(f:MS)(Q:PF)(E:PE):PF:=λr L=>match r with
 |.next ρ=>f ρ L Q E
 |.ret w=>Q (.ret w) L
noncomputable def wT(t:Ov)(ρ:RL)(Q:PF)(E:PE):PE:=match t with
 |.loc i=>Xw i ρ Q
 |.attr o x=>Z0 (wE I o ρ) x ρ Q E
 |.sub o i=>ZZ (wE I o ρ) (wE I i ρ) ρ Q E
 |.tup is=>aag is ρ Q
mutual
noncomputable def wS:St->MS
 |.expr e,ρ,L,Q,E=>wE I e ρ L (kEx ρ Q) E
 |.ret e,ρ,L,Q,E=>wE I e ρ L (Zw Q) E
 |.assign t e,ρ,L,Q,E=>wE I e ρ L (wT I t ρ Q E) E
 |.ze i op e,ρ,L,Q,E=>oX (dz ρ i) λo=>oX o λa=>wE I e ρ L (XZ i op a ρ Q) E
 |.B4 o x op e,ρ,L,Q,E=>wE I o ρ L (Xn x op (wE I e ρ) ρ Q E) E
 |.ite c t e,ρ,L,Q,E=>wE I c ρ L (QL (wSs t ρ) (wSs e ρ) Q E) E
 |.o7 c b,ρ,L,Q,_=>Vc (UX (wE I c) (wSs b)) oI ρ L Q
 |.for is it b,ρ,L,Q,E=>YL I it ρ L (kFor is (wSs b) ρ Q E)
 |.raise e,ρ,L,_,E=>wE I e ρ L (TU E) E
 |.try k e c1 i x c2 t,ρ,L,Q,_=>FW (decide (i≠k/\i<ρ.length/\k<ρ.length/\c1≠c2)) (wE I e ρ L (Xw k ρ Q) (SD k c1 i x c2 t ρ Q))
 |.pass,ρ,L,Q,_=>Q (.next ρ) L
 |.stop,_,_,_,_=>False
noncomputable def wSs:dH->MS
 |.nil,ρ,L,Q,_=>Q (.next ρ) L
 |.cons s ss,ρ,L,Q,E=>wS s ρ L (ZH (wSs ss) Q E) E
end
noncomputable def rtQ(Q:PE):PF:=λf L=>match f with
 |.next _=>Q (.v .none) L
 |.ret w=>Q w L
noncomputable def Uz:Nat->RL->(RL->Prop)->Prop
 |0,ρ,k=>k ρ
 |n+1,ρ,k=>Uz n (none::ρ) k
noncomputable def vK:List AV->(List RV->Prop)->Prop
 |[],k=>k []
 |a::r,k=>vK r λs=>k (.v a::s)
noncomputable def wF(f:Fn)(as:List RV)(L:Cs)(Q E:PE):Prop:=match tU f with
 |⟨_,names,np,dflt,body⟩=>FW (decide (as.length<=np/\np<=as.length+dflt.length)) (vK (dflt.drop (as.length+dflt.length - np)) λds=>HM as ds λas=>FZ as λas=>Uz (names.length - np) [] λns=>HM as ns λρ=>wSs I body ρ L (rtQ Q) E)
end
noncomputable def inl(f:Fn):Bool:=jO f [.GR,.hold,.least,.qw,.kind,.given,.marked,.taken,.nE,.BN,.pV,.yx,.zg,.sF,.u3,.qJ,.error,.mD,.names,.things,.GY,.B8,.warn,.assigned,.has]
noncomputable def hI(p:Fn->Bool):Nat->Nat->Fn->List RV->Cs->PE->PE->Prop
 |0,d,f,as,L,Q,E=>Call d f as L Q E
 |_+1,0,f,as,L,Q,E=>Call 0 f as L Q E
 |k+1,d+1,f,as,L,Q,E=>wt (p f) (wF (hI p k d) f as L Q E) (Call (d+1) f as L Q E)
noncomputable def stN:dH->Nat->St
 |.nil,_=>.stop
 |.cons s _,0=>s
 |.cons _ r,n+1=>stN r n
noncomputable def YJ:St->dH
 |.o7 _ b=>b
 |.for _ _ b=>b
 |.ite _ t _=>t
 |_=>.nil
noncomputable def stE:St->E
 |.o7 c _=>c
 |.ite c _ _=>c
 |.ret e=>e
 |.expr e=>e
 |.assign _ e=>e
 |_=>.none
noncomputable abbrev lF(I:Fn->List RV->Cs->PE->PE->Prop)(is:List Nat)(b:dH)(E:PE):=Wa (XX is (Ng (wSs I b) E))
noncomputable abbrev lW(I:Fn->List RV->Cs->PE->PE->Prop)(s:St):=Vc (UX (wE I (stE s)) (wSs I (YJ s)))
noncomputable abbrev lC(I:Fn->List RV->Cs->PE->PE->Prop)(ρ:RL)(c e:E):=Vr (Yk ρ (wE I c) (wE I e))
inductive Fin(L₀:Cs)(Q:PE)(w':RV)(L':Cs):Prop where
 |mk (η:List Nat) (w:RV) (L:Cs) (q:Q w L) (h:(sel (locs L') η L',den (locs L') w',tk (RW L₀) (locs L))=(some (IP (locs L) L),den (locs L) w,locs L₀))
inductive Bv(L₀:Cs)(Q:PE)(w':RV)(L':Cs):Prop where
 |mk (η:List Pk) (w:RV) (L:Cs) (q:Q w L) (h:(NY (locs L') L' η L',den (locs L') w',tk (RW L₀) (locs L))=(some (IP (locs L) L),den (locs L) w,locs L₀))
noncomputable def WK(η:List Nat)(w:RV)(k:RV->Prop):Prop:=match w with
 |.v a=>k (.v a)
 |.r i=>oX (dz η i) λj=>k (.r j)
noncomputable def Qa(η:List Nat):List RV->(List RV->Prop)->Prop
 |[],k=>k []
 |w::r,k=>WK η w λw=>Qa η r λs=>k (w::s)
noncomputable def Yw(η:List Nat):RS->(RS->Prop)->Prop
 |.nil,k=>k .nil
 |.cons w r,k=>WK η w λw=>Yw η r λs=>k (.cons w s)
 |.raw us,k=>k (.raw us)
noncomputable def Y6(η:List Nat):RD->(RD->Prop)->Prop
 |.nil,k=>k .nil
 |.cons a w r,k=>WK η w λw=>Y6 η r λs=>k (.cons a w s)
 |.raw us,k=>k (.raw us)
noncomputable def ZJ(η:List Nat):RO->(RO->Prop)->Prop
 |.list vs,k=>Yw η vs λs=>k (.list s)
 |.tup vs,k=>Yw η vs λs=>k (.tup s)
 |.dict vs,k=>Y6 η vs λs=>k (.dict s)
 |.inst c vs,k=>Qa η vs λs=>k (.inst c s)
 |.fl c vs,k=>Qa η vs λs=>k (.fl c s)
 |.ro o,k=>ZJ η o λo=>k (.ro o)
 |.d6 B,k=>k (.d6 B)
 |.gh B,k=>k (.gh B)
 |.gk B,k=>k (.gk B)
noncomputable def Zo(η:List Nat):Cs->(Cs->Prop)->Prop
 |[],k=>k []
 |(l,o)::r,k=>ZJ η o λo=>Zo η r λs=>k ((l,o)::s)
noncomputable def Us:Cs->Nat->(List Nat->Prop)->Prop
 |[],_,k=>k []
 |_::M,N,k=>Us M (de N) λs=>k (N::s)
noncomputable def TZ:List Nat->Cs->Nat->(List Nat->Prop)->Prop
 |[],M,N,k=>Us M N k
 |i::η,M,N,k=>match M with
  |[]=>False
  |_::M=>TZ η M N λs=>k (i::s)
noncomputable def Zf:List Nat->Cs->Cs->(Cs->Prop)->Prop
 |[],M,L,k=>HM L M k
 |i::η,M,L,k=>match M with
  |[]=>False
  |c::M=>lR L i c λL=>Zf η M L k
noncomputable def KV:Cs->Nat->(Nat->Prop)->Prop
 |[],n,k=>k n
 |_::r,n,k=>KV r (de n) k
noncomputable def PH(o:Option (Nat×RO)):Nat:=match o with
 |some c=>c.1
 |none=>0
noncomputable def emp(L:Cs):List Nat->Cs
 |[]=>L
 |i::r=>emp (sN L i (PH (dz L i),.gh [])) r
noncomputable def Gi:Cs->Nat->(Cs->Prop)->Prop
 |[],_,k=>k []
 |(l,_)::r,0,k=>k ((l,.gh [])::r)
 |b::r,n+1,k=>Gi r n λs=>k (b::s)
noncomputable def Tw(L:Cs):List Nat->(Cs->Prop)->Prop:=λη=>List.rec (motive:=λ_=>Cs->(Cs->Prop)->Prop) (λL k=>k L) (λi _ ih L k=>Gi L i λL=>ih L k) η L
noncomputable def M6(η:List Nat)(L:Cs)(Q:PE):PE:=λw M=>KV L 0 λN=>TZ η M N ληx=>Zo ηx M λM=>Tw L η λL=>Zf η M L λL=>WK ηx w λw=>Q w L
theorem oW{β:Type}{o:Option β}{f:β->Prop}{b:β}(h:o=some b)(k:f b):yn o f:=h▸k
theorem xP{β:Type}{o:Option β}{f:β->Prop}{b:β}(h:o=some b)(k:f b):oX o f:=h▸k
theorem bB{b:Bool}{p:Prop}(h:b=true)(k:p):rS b p:=h▸k
theorem nQ{b:Bool}{p q:Prop}(h:b=true)(k:p):wt b p q:=h▸k
theorem dS{b:Bool}{p q:Prop}(h:b=false)(k:q):wt b p q:=h▸k
theorem cz{b:Bool}{p q:Prop}(h:b=true->p)(h':b=false->q):wt b p q:=xh (motive:=λb=>(b=true->p)->(b=false->q)->wt b p q) (λ_ h'=>h' rfl) (λh _=>h rfl) b h h'
section
variable{α β:Type}{P:Prop}
theorem gz{l:List α}:∀{i:Nat},dz l i=l[i]?:=by
 induction l with
 |nil=>exact rfl
 |cons _ _ ih=>exact λ{i}=>b8 i rfl λi=>ih (i:=i)
theorem MY{l:List α}{a:α}:∀{i:Nat},sN l i a=l.set i a:=by
 induction l with
 |nil=>exact rfl
 |cons b _ ih=>exact λ{i}=>b8 i rfl λi=>congrArg (b::·) (ih (i:=i))
theorem zN{l m:List α}{a:α}:∀{i:Nat},dz l i=some a->dz (l++m) i=some a:=by
 induction l with
 |nil=>exact nofun
 |cons b _ ih=>exact λ{i}=>b8 (motive:=λi=>dz (b::_) i=some a->dz (b::_++m) i=some a) i id λi=>ih (i:=i)
theorem zb{l:List α}{i:Nat}{a:α}(h:dz l i=some a):i<l.length:=(aq.mp (gz.symm.trans h)).1
theorem Ox{l:List α}{a:α}:dz (l++[a]) l.length=some a:=gz.trans cc
theorem fm{L:Cs}{c:Nat×RO}:∀{i:Nat},dz L i=some c->dz (locs L) i=some c.1:=by
 induction L with
 |nil=>exact nofun
 |cons b _ ih=>exact λ{i}=>b8 (motive:=λi=>dz (b::_) i=some c->dz (locs (b::_)) i=some c.1) i (λh=>congrArg (λo=>o.map E6) h) λi=>ih (i:=i)
theorem dT{L:Cs}:locs L=L.map E6:=by
 induction L with
 |nil=>rfl
 |cons b _ ih=>exact congrArg (b.1::·) ih
theorem fk{L M:Cs}:locs (L++M)=locs L++locs M:=by rw[dT,dT,dT,aN]
theorem Qv{l:List α}{a:α}:∀{i:Nat},dz l i=some a->l.set i a=l:=by
 induction l with
 |nil=>exact nofun
 |cons b r ih=>exact λ{i}=>b8 (motive:=λi=>dz (b::r) i=some a->(b::r).set i a=b::r) i (λh=>congrArg (·::r) (ae h).symm) λi h=>congrArg (b::·) (ih (i:=i) h)
theorem eQ{L:Cs}{i l:Nat}{o o':RO}(h:dz L i=some (l,o)):locs (L.set i (l,o'))=locs L:=by
 have h:=fm h
 rw[dT] at h
 rw[dT,dT,sS]
 exact Qv h
theorem iT{a:α}{L:List α}:∀{i:Nat}{k:List α->Prop},lR L i a k->(∀b,dz L i=some b->k (L.set i a)->P)->P:=by
 induction L with
 |nil=>exact λh _=>h.elim
 |cons b r ih=>exact λ{i k}=>b8 (motive:=λi=>lR (b::r) i a k->(∀c,dz (b::r) i=some c->k ((b::r).set i a)->P)->P) i (λh K=>K b rfl h) λi=>ih (i:=i)
theorem Dh{c:Nat×RO}{L:Cs}:∀{n:Nat}{k:Nat->Cs->Prop},Ou L c n k->k (n+L.length) (L++[c]):=by
 induction L with
 |nil=>exact id
 |cons b r ih=>exact λ{n k} h=>(bO n r.length:de n+r.length=_)▸ih h
theorem zh{a b:List α}:∀{k:List α->Prop},HM a b k->k (a++b):=by
 induction a with
 |nil=>exact id
 |cons _ _ ih=>exact λ{k} h=>ih h
theorem FX{a:List α}:∀{k:List (Option α)->Prop},FZ a k->k (a.map some):=by
 induction a with
 |nil=>exact id
 |cons _ _ ih=>exact λ{k} h=>ih h
theorem bh{o:Option α}{f:α->Option β}{b:β}:cF o f=some b->(∀a,o=some a->f a=some b->P)->P:=
 Option.rec (motive:=λo=>cF o f=some b->(∀a,o=some a->f a=some b->P)->P) nofun (λa h k=>k a rfl h) o
theorem ns{a:α}(h:none=some a):P:=(ja a h.symm).elim
theorem oM{L:Cs}:∀{i:Nat}{k:Nat×RO->Cs->Option β}{b:β},uP L i k=some b->(∀c,dz L i=some c->k c (sN L i (c.1,.gh []))=some b->P)->P:=by
 induction L with
 |nil=>exact λh=>ns h
 |cons a r ih=>exact λ{i k b}=>b8 (motive:=λi=>uP (a::r) i k=some b->(∀c,dz (a::r) i=some c->k c (sN (a::r) i (c.1,.gh []))=some b->P)->P) i (λh K=>K a rfl h) λi h K=>ih h λc n h=>K c n h
theorem bJ{o:Option α}{f:α->Option β}{a:α}{b:β}(h:o=some a)(k:f a=some b):cF o f=some b:=h▸k
theorem e9{o:Option β}{f:β->Prop}:yn o f->(∀b,o=some b->f b->P)->P:=
 Option.rec (motive:=λo=>yn o f->(∀b,o=some b->f b->P)->P) (λh _=>h.elim) (λa h k=>k a rfl h) o
theorem cZ{b:Bool}{p:Prop}:rS b p->(b=true->p->P)->P:=
 xh (motive:=λb=>rS b p->(b=true->p->P)->P) (λh _=>h.elim) (λh k=>k rfl h) b
theorem B5{b:Bool}{p q:Prop}:wt b p q->(b=true->p->P)->(b=false->q->P)->P:=
 xh (motive:=λb=>wt b p q->(b=true->p->P)->(b=false->q->P)->P) (λh _ k=>k rfl h) (λh k _=>k rfl h) b
end
section
variable{ls X:List Nat}
theorem Pre.refl:Pre ls ls:=⟨[],(bf _).symm⟩
theorem Pre.trans{l m:List Nat}(h:Pre ls l)(h':Pre l m):Pre ls m:=h.elim λX e=>h'.elim λY e'=>⟨X++Y,by rw[e',e,ay]⟩
theorem Pre.app:Pre ls (ls++X):=⟨X,rfl⟩
theorem sZ{l i:Nat}(h:dz ls i=some l):den ls (.r i)=some (.ref l):=by unfold den;dsimp only;rw[h]
theorem K6{P:Prop}{a:AV}{i:Nat}(h:den ls (.r i)=some a)(K:∀l,dz ls i=some l->a=.ref l->P):P:=by
 unfold den at h
 dsimp only at h
 cases e:dz ls i with
 |none=>rw[e] at h;exact nomatch h
 |some l=>rw[e] at h;exact K l e (ae h).symm
theorem Pre.den{l:List Nat}(p:Pre ls l){w:RV}{a:AV}(h:Mine.Internal.A.den ls w=some a):Mine.Internal.A.den l w=some a:=p.elim λX e=>by
 subst e
 cases w with
 |v=>exact h
 |r i=>exact K6 h λl e ea=>ea▸sZ (zN e)
class inductive DS(ls:List Nat):RS->List AV->Prop where
 |nil:DS ls .nil []
 |cons {w:RV} {a:AV} {r:RS} {us:List AV} (h:den ls w=some a) (t:DS ls r us):DS ls (.cons w r) (a::us)
 |raw {us:List AV}:DS ls (.raw us) us
class inductive DD(ls:List Nat):RD->List (AV×AV)->Prop where
 |nil:DD ls .nil []
 |cons {k:AV} {w:RV} {a:AV} {r:RD} {us:List (AV×AV)} (h:den ls w=some a) (t:DD ls r us):DD ls (.cons k w r) ((k,a)::us)
 |raw {us:List (AV×AV)}:DD ls (.raw us) us
noncomputable abbrev DL(ls:List Nat):List RV->List AV->Prop:=bq λw a=>den ls w=some a
theorem DS.of{r:RS}:∀{us:List AV},Ak ls r=some us->DS ls r us:=by
 induction r with
 |nil=>exact λh=>ae h▸.nil
 |raw=>exact λh=>ae h▸.raw
 |cons w r ih=>exact λh=>bh h λ_ e h=>bh h λ_ e' h=>ae h▸.cons e (ih e')
theorem DS.to{r:RS}{us:List AV}(h:DS ls r us):Ak ls r=some us:=by
 induction h with
 |nil=>rfl
 |raw=>rfl
 |cons h _ ih=>exact bJ h (bJ ih rfl)
theorem DD.of{r:RD}:∀{us:List (AV×AV)},PD ls r=some us->DD ls r us:=by
 induction r with
 |nil=>exact λh=>ae h▸.nil
 |raw=>exact λh=>ae h▸.raw
 |cons k w r ih=>exact λh=>bh h λ_ e h=>bh h λ_ e' h=>ae h▸.cons e (ih e')
theorem DD.to{r:RD}{us:List (AV×AV)}(h:DD ls r us):PD ls r=some us:=by
 induction h with
 |nil=>rfl
 |raw=>rfl
 |cons h _ ih=>exact bJ h (bJ ih rfl)
theorem DL.of{r:List RV}:∀{us:List AV},gG ls r=some us->DL ls r us:=by
 induction r with
 |nil=>exact λh=>ae h▸.nil
 |cons w r ih=>exact λh=>bh h λ_ e h=>bh h λ_ e' h=>ae h▸.cons e (ih e')
theorem DL.to{r:List RV}{us:List AV}(h:DL ls r us):gG ls r=some us:=by
 induction h with
 |nil=>rfl
 |cons h _ ih=>exact bJ h (bJ ih rfl)
theorem DS.imp{l:List Nat}(p:∀w a,den ls w=some a->den l w=some a){r:RS}{us:List AV}(h:DS ls r us):DS l r us:=by
 induction h with
 |nil=>exact .nil
 |raw=>exact .raw
 |cons h _ ih=>exact .cons (p _ _ h) ih
theorem DD.imp{l:List Nat}(p:∀w a,den ls w=some a->den l w=some a){r:RD}{us:List (AV×AV)}(h:DD ls r us):DD l r us:=by
 induction h with
 |nil=>exact .nil
 |raw=>exact .raw
 |cons h _ ih=>exact .cons (p _ _ h) ih
theorem Pre.gG{l:List Nat}(p:Pre ls l){w:List RV}{a:List AV}(h:Mine.Internal.A.gG ls w=some a):Mine.Internal.A.gG l w=some a:=DL.to ((DL.of h).imp λ_ _ h=>p.den h)
inductive DO(ls:List Nat):RO->aF->Prop where
 |list {r:RS} {us:List AV} (h:DS ls r us):DO ls (.list r) (.list us)
 |tup {r:RS} {us:List AV} (h:DS ls r us):DO ls (.tup r) (.tup us)
 |dict {r:RD} {us:List (AV×AV)} (h:DD ls r us):DO ls (.dict r) (.dict us)
 |inst {c:bF} {r:List RV} {us:List AV} (h:DL ls r us):DO ls (.inst c r) (.inst c us)
 |fl {c:bF} {r:List RV} {us:List AV} (h:DL ls r us):DO ls (.fl c r) (.iG c us)
theorem Lc{P:RO->Prop}{o:RO}{b:aF}(h:eH ls o=some b)(K:∀o,DO ls o b->P o)(K':∀o,eH ls o=some b->P (.ro o)):P o:=by
 cases o with
 |list=>exact bh h λ_ e h=>K _ (ae h▸.list (.of e))
 |tup=>exact bh h λ_ e h=>K _ (ae h▸.tup (.of e))
 |dict=>exact bh h λ_ e h=>K _ (ae h▸.dict (.of e))
 |inst=>exact bh h λ_ e h=>K _ (ae h▸.inst (DL.of e))
 |fl=>exact bh h λ_ e h=>K _ (ae h▸.fl (DL.of e))
 |ro o=>exact K' o h
 |_=>exact nomatch h
theorem DO.to{o:RO}{b:aF}(h:DO ls o b):eH ls o=some b:=by
 cases h with
 |list h=>exact bJ h.to rfl
 |tup h=>exact bJ h.to rfl
 |dict h=>exact bJ h.to rfl
 |inst h=>exact bJ (DL.to h) rfl
 |fl h=>exact bJ (DL.to h) rfl
theorem DO.imp{l:List Nat}(p:∀w a,den ls w=some a->den l w=some a){o:RO}{b:aF}(h:DO ls o b):DO l o b:=by
 cases h with
 |list h=>exact .list (h.imp p)
 |tup h=>exact .tup (h.imp p)
 |dict h=>exact .dict (h.imp p)
 |inst h=>exact .inst (bq.imp p h)
 |fl h=>exact .fl (bq.imp p h)
theorem MC{l:List Nat}(p:∀w a,den ls w=some a->den l w=some a){o:RO}{b:aF}:eH ls o=some b->eH l o=some b:=by
 induction o with
 |ro o ih=>exact ih
 |_=>exact λh=>Lc (P:=λo=>∀o',o'=o->(∀o,o'≠.ro o)->eH l o'=some b) h (λ_ h _ e _=>e▸(h.imp p).to) (λ_ _ _ e n=>(n _ e).elim) _ rfl nofun
theorem Pre.eH{l:List Nat}(p:Pre ls l){o:RO}{b:aF}(h:Mine.Internal.A.eH ls o=some b):Mine.Internal.A.eH l o=some b:=MC (λ_ _ h=>p.den h) h
end
section
variable{σ σ':Hp}{T T' U:List Fa}{G:List (Nat×aF)}{l:Nat}{b b':aF}{f:Fa}
theorem QA(p:T.Perm T'):(G.map (·.1)++T.flatMap ow).Perm (G.map (·.1)++T'.flatMap ow):=(p.flatMap_right ow).append_left _
theorem cC.perm(S:cC σ T G)(p:T.Perm T'):cC σ T' G:=
 ⟨λf m=>S.h f (p.mem_iff.mpr m),S.g,(QA p).nodup_iff.mp S.n,λl b m=>S.r l b (p.mem_iff.mpr m),(p.flatMap_right rl).nodup_iff.mp S.u⟩
theorem cC.drop(S:cC σ (U++T) G):cC σ T G:=by
 have n:=S.n
 have u:=S.u
 rw[qm] at n u
 exact⟨λf m=>S.h f (a8 _ m),S.g,n.sublist ((yf ..).append_left _),λl b m=>S.r l b (a8 _ m),u.sublist (yf ..)⟩
noncomputable def iA:Fa->Prop
 |.t _ _=>True
 |.k _ _=>True
 |_=>False
theorem IM(e:iA f):ow f=[]/\rl f=[]/\∀l b,f≠.r l b:=by
 cases f with
 |t=>exact⟨rfl,rfl,λ_ _ z=>Fa.noConfusion z⟩
 |k=>exact⟨rfl,rfl,λ_ _ z=>Fa.noConfusion z⟩
 |_=>exact e.elim
theorem cC.U4(S:cC σ T G)(e:iA f)(h:Holds σ f):cC σ (f::T) G:=by
 obtain⟨e1,e2,e3⟩:=IM e
 exact⟨λg m=>(aC.mp m).elim (λz=>z▸h) (S.h g),S.g,by rw[kE,e1];exact S.n,λl b m=>S.r l b ((aC.mp m).resolve_left λz=>e3 l b z.symm),by rw[kE,e2];exact S.u⟩
theorem cC.add(S:cC σ T G):∀{U:List Fa},(∀f∈U,iA f/\Holds σ f)->cC σ (U++T) G:=λ{U}=>by
 induction U with
 |nil=>exact λ_=>S
 |cons f U ih=>exact λh=>(ih λg m=>h g (.tail _ m)).U4 (h f (.head _)).1 (h f (.head _)).2
theorem Holds.up(h:∀(x:Nat)(o:aF),σ[x]?=some o->σ'[x]?=some o):Holds σ f->Holds σ' f:=by
 cases f with
 |k l c=>exact λ⟨e,fs,z⟩=>⟨e,fs,h _ _ z⟩
 |no=>exact id
 |_=>exact h _ _
theorem cC.set(S:cC σ (.o l b::T) G)(nt:∀vs,b≠.tup vs)(nc:∀(c:bF)(fs:List AV),c.isExc=false->b=.inst c fs->∃fs',b'=.inst c fs'):cC (σ.set l b') (.o l b'::T) G:=by
 have hb:σ[l]?=some b:=S.h _ (.head _)
 have hl:=(aq.mp hb).1
 have n:=S.n
 have n:=dI.mp n
 have n2:=(aJ.mp n.2.1).1
 have u:∀{x:Nat}{o:aF},x≠l->σ[x]?=some o->(σ.set l b')[x]?=some o:=λz h=>(bS (dK z)).trans h
 have ng:∀{p},p∈G->p.1≠l:=λm z=>n.2.2 _ (aU m) l (.head _) z
 refine⟨λf m=>?_,λp m=>u (ng m) (S.g p m),S.n,λx o m=>S.r x o ((aC.mp m).elim (λz=>Fa.noConfusion z) (.tail _)),S.u⟩
 rcases aC.mp m with rfl|m
 ·exact a9 hl
 ·have h:=S.h f (.tail _ m)
  cases f with
  |o x o=>exact u (λz=>n2 (gp.mpr ⟨_,m,z▸.head _⟩)) h
  |r x o=>exact u (ng (p:=(x,o)) (S.r x o (.tail _ m))) h
  |t x vs=>exact u (λz=>nt vs (ae (hb.symm.trans (z▸h)))) h
  |k x c=>exact⟨h.1,if z:x=l then h.2.elim λfs e=>(nc c fs h.1 (ae (hb.symm.trans (z▸e)))).elim λfs' e'=>⟨fs',by rw[z,a9 hl,e']⟩ else h.2.elim λfs e=>⟨fs,u z e⟩⟩
  |no=>exact h
theorem cC.new(S:cC σ T G):cC (σ++[b]) (.o σ.length b::T) G:=by
 have u:∀{x:Nat}{o:aF},σ[x]?=some o->(σ++[b])[x]?=some o:=λh=>(bk (aq.mp h).1).trans h
 refine⟨λf m=>(aC.mp m).elim (λz=>z▸cc) λm=>Holds.up (λ_ _=>u) (S.h f m),λp m=>u (S.g p m),?_,λx o m=>S.r x o ((aC.mp m).resolve_left λz=>Fa.noConfusion z),S.u⟩
 refine(eY (a:=σ.length)).nodup_iff.mpr (aJ.mpr ⟨λm=>?_,S.n⟩)
 rcases cp.mp m with m|m
 ·obtain⟨p,m,e⟩:=aS.mp m
  exact dY _ (e▸(aq.mp (S.g p m)).1)
 ·obtain⟨f,m,e⟩:=gp.mp m
  cases f with
  |o x o=>cases au.mp e;exact dY _ (aq.mp (S.h _ m)).1
  |_=>exact nomatch e
theorem cC.lock(S:cC σ (.o l b::T) G):cC σ (.r l b::T) ((l,b)::G):=by
 have n:=S.n
 have hb:σ[l]?=some b:=S.h _ (.head _)
 refine⟨λf m=>(aC.mp m).elim (λz=>z▸hb) λm=>S.h f (.tail _ m),λp m=>(aC.mp m).elim (λz=>z▸hb) (S.g p),eY.nodup_iff.mp n,λx o m=>(aC.mp m).elim (λz=>by cases z;exact .head _) λm=>.tail _ (S.r x o (.tail _ m)),aJ.mpr ⟨λm=>?_,S.u⟩⟩
 obtain⟨f,m,e⟩:=gp.mp m
 cases f with
 |r x o=>
  cases au.mp e
  exact(dI.mp n).2.2 _ (aU (S.r l o (.tail _ m))) l (.head _) rfl
 |_=>exact nomatch e
theorem cC.unlock(S:cC σ (.r l b'::T) ((l,b)::G)):cC σ (.o l b::T) G:=by
 refine⟨λf m=>(aC.mp m).elim (λz=>z▸S.g _ (.head _)) λm=>S.h f (.tail _ m),λp m=>S.g p (.tail _ m),eY.nodup_iff.mpr S.n,λx o m=>?_,(aJ.mp S.u).2⟩
 have m:=(aC.mp m).resolve_left λz=>Fa.noConfusion z
 refine(aC.mp (S.r x o (.tail _ m))).resolve_left λz=>(aJ.mp S.u).1 ?_
 exact gp.mpr ⟨_,m,(bY z).1▸.head _⟩
end
section
variable{ls:List Nat}{L:Cs}{c c':Nat×RO}{T:List Fa}
theorem ue:∀{L:Cs}{i:Nat},dz L i=some c->(mX (vw ls c')++at_ ls L).Perm (mX (vw ls c)++at_ ls (L.set i c')):=λ{L}=>by
 induction L with
 |nil=>exact nofun
 |cons d r ih=>
  intro i
  cases i with
  |zero=>
   intro h
   cases (ae h:d=c)
   show(mX (vw ls c')++(mX _++at_ ls r)).Perm (mX _++(mX (vw ls c')++at_ ls r))
   rw[<-ay,<-ay]
   exact fJ.append_right _
  |succ i=>
   intro h
   show(mX (vw ls c')++(mX (vw ls d)++at_ ls r)).Perm (mX (vw ls c)++(mX (vw ls d)++at_ ls (r.set i c')))
   refine rH ?_ (((ih h).append_left (mX (vw ls d))).trans ?_)
   ·rw[<-ay,<-ay]
    exact fJ.append_right _
   ·rw[<-ay,<-ay]
    exact fJ.append_right _
theorem Qf{V W:List VW}:Cv (V++W)=Cv V++Cv W:=by
 induction V with
 |nil=>rfl
 |cons v V ih=>show mX v++Cv (V++W)=mX v++Cv V++Cv W;rw[ih,ay]
theorem P6{L M:Cs}:IP ls (L++M)=IP ls L++IP ls M:=by
 induction L with
 |nil=>rfl
 |cons c L ih=>exact congrArg (vw ls c::·) ih
theorem yW{L M:Cs}:at_ ls (L++M)=at_ ls L++at_ ls M:=(congrArg Cv P6).trans Qf
theorem lZ{l:Nat}{o:RO}{i:Nat}(h:dz L i=some (l,o)):(at_ ls L).Perm (mX (vw ls (l,o))++at_ ls (L.set i (l,.gh []))):=ue (c':=(l,.gh [])) h
theorem Dp{l:Nat}{o:RO}{i:Nat}(h:dz L i=some (l,o)):(mX (vw ls c')++at_ ls (L.set i (l,.gh []))).Perm (at_ ls (L.set i c')):=by
 have z:=ue (c:=(l,.gh [])) (c':=c') (ls:=ls) (L:=L.set i (l,.gh [])) (i:=i) (gz.trans (a9 (zb h)))
 rw[List.set_set] at z
 exact z
noncomputable def Vj:VW->Prop
 |.own _ none=>False
 |.ro _ none=>False
 |_=>True
theorem Np{v:VW}{σ:Hp}(h:∀f∈mX v,Holds σ f):Vj v:=by
 cases v with
 |own l b=>cases b with
  |none=>exact h _ (.head _)
  |some=>trivial
 |ro l b=>cases b with
  |none=>exact h _ (.head _)
  |some=>trivial
 |_=>trivial
theorem Zq{α:Type}{F:Option aF->α}{a a':Option aF}(h:a=none->False)(p:∀b,a=some b->a'=some b):F a'=F a:=by
 cases a with
 |none=>exact(h rfl).elim
 |some b=>exact congrArg F (p b rfl)
theorem T7{l:List Nat}(p:Pre ls l)(h:Vj (vw ls c)):vw l c=vw ls c:=by
 obtain⟨x,o⟩:=c
 have q:∀b,eH ls o=some b->eH l o=some b:=λb=>p.eH
 cases o with
 |d6=>rfl
 |gh=>rfl
 |gk=>rfl
 |ro o=>exact Zq (F:=VW.ro x) (λe=>by unfold vw at h;dsimp only at h;rw[e] at h;exact h) λb=>p.eH
 |_=>exact Zq (F:=VW.own x) (λe=>by unfold vw at h;dsimp only at h;rw[e] at h;exact h) q
theorem yD{l:List Nat}{σ:Hp}(p:Pre ls l):∀{L:Cs},(∀f∈at_ ls L,Holds σ f)->at_ l L=at_ ls L:=λ{L}=>by
 induction L with
 |nil=>exact λ_=>rfl
 |cons c r ih=>
  intro h
  show mX (vw l c)++at_ l r=mX (vw ls c)++at_ ls r
  rw[T7 p (Np λf m=>h f (aZ _ m)),ih λf m=>h f (a8 _ m)]
end
section
variable{α β:Type}{σ:Hp}{Q:α->Hp->Prop}{X:Nat->Hp->Prop}
theorem bD{l:Nat}{f:aF->MM α}{o:aF}(h:σ[l]?=some o)(k:Wp (f o σ) Q X):Wp (ee l f σ) Q X:=by
 unfold ee;rw[h];exact k
theorem dE{p:Prop}[Decidable p]{m:MM α}(h:p)(k:Wp (m σ) Q X):Wp (kq p m σ) Q X:=by
 unfold kq;rw[if_pos h];exact k
theorem g9{o:Option β}{f:β->MM α}{b:β}(h:o=some b)(k:Wp (f b σ) Q X):Wp (opt o f σ) Q X:=h▸k
theorem dg{m:MM β}{f:β->MM α}(h:Wp (m σ) (λb σ=>Wp (f b σ) Q X) X):Wp ((m>>=f) σ) Q X:=
 R.casesOn (motive:=λr=>Wp r (λb σ=>Wp (f b σ) Q X) X->Wp (r.bind f) Q X) (m σ) (λ_ _ h=>h) (λ_ _ h=>h) (λh=>h) h
theorem ux{m:MM α}(h:Wp (m σ) Q λ_ _=>False):Wp (o6 m σ) Q X:=
 R.casesOn (motive:=λr=>Wp r Q (λ_ _=>False)->Wp (match r with|.err _ _=>.bad|r=>r:R α) Q X) (m σ) (λ_ _ h=>h) (λ_ _ h=>h.elim) (λh=>h) h
end
section
variable{ls:List Nat}{P:Prop}
theorem DL.dz{fs:List RV}{us:List AV}{j:Nat}{w:RV}(h:DL ls fs us)(n:Mine.Internal.A.dz fs j=some w):∃x,us[j]?=some x/\den ls w=some x:=h.get (gz.symm.trans n)
theorem DL.put{a:RV}{x:AV}(ha:den ls a=some x){fs:List RV}{us:List AV}(h:DL ls fs us):∀{j:Nat}{k:List RV->Prop},putK fs j a k->(∀fs',j<=us.length->DL ls fs' (if j<us.length then us.set j x else us++[x])->k fs'->P)->P:=by
 induction h with
 |nil=>exact λ{j k}=>b8 (motive:=λj=>putK [] j a k->(∀fs',j<=0->DL ls fs' (if j<0 then[].set j x else[x])->k fs'->P)->P) j (λq K=>K [a] (aK _) (.cons ha .nil) q) λj q _=>q.elim
 |@cons b y r us hb t ih=>
  intro j k
  cases j with
  |zero=>exact λq K=>K (a::r) (aV _) (.cons ha t) q
  |succ j=>
   refine λq K=>ih q λfs' h1 h2 h3=>K (b::fs') (aP h1) ?_ h3
   by_cases z:j<us.length
   ·rw[if_pos z] at h2
    exact(if_pos (show j+1<(y::us).length from gr z))▸.cons hb h2
   ·rw[if_neg z] at h2
    exact(if_neg (show ¬j+1<(y::us).length from λy=>z (hJ y)))▸.cons hb h2
theorem vP{L:Cs}{w:RV}{k:AV->Prop}{x:AV}(h:ID L w k)(d:den (locs L) w=some x):k x:=e9 h λy e q=>ae (e.symm.trans d)▸q
theorem DS.len{vs:RS}{us:List AV}(d:DS ls vs us):tX vs=us.length:=by
 induction d with
 |cons _ _ ih=>exact congrArg de ih
 |_=>rfl
theorem DS.Hu{vs:RS}{us:List AV}(d:DS ls vs us):∀{n:Nat}{k:Nat->Prop},Hu vs n k->k (us.length+n):=by
 induction d with
 |nil=>exact λ{n k} q=>(cj n).symm▸q
 |raw=>exact λ{n k}=>b8 (motive:=λn=>Mine.Internal.A.Hu (.raw _) n k->k (_+n)) n id λn=>id
 |@cons _ _ _ us _ _ ih=>exact λ{n k} q=>(bO us.length n).symm▸ih q
theorem zj{R:j9->Item->Prop}{α:Type}{f:α->AV}(hR:∀x,R (.one (.v x)) (.one x)){us:List α}:bq R (us.map λa=>.one (.v (f a))) (us.map λa=>.one (f a)):=by
 induction us with
 |nil=>exact .nil
 |cons a r ih=>exact .cons (hR _) ih
theorem DS.dh{R:j9->Item->Prop}(hR:∀w x,den ls w=some x->R (.one w) (.one x)){vs:RS}{us:List AV}(d:DS ls vs us):bq R (VJ vs) (us.map .one):=by
 induction d with
 |nil=>exact .nil
 |raw=>exact zj λ_=>hR _ _ rfl
 |cons h _ ih=>exact .cons (hR _ _ h) ih
theorem DD.dh{R:j9->Item->Prop}(hR:∀w x,den ls w=some x->R (.one w) (.one x)){vs:RD}{us:List (AV×AV)}(d:DD ls vs us):bq R (YP vs) (us.map (.one ·.1)):=by
 induction d with
 |nil=>exact .nil
 |raw=>exact zj λ_=>hR _ _ rfl
 |cons h _ ih=>exact .cons (hR _ _ rfl) ih
theorem DD.len{vs:RD}{us:List (AV×AV)}(d:DD ls vs us):S3 vs=us.length:=by
 induction d with
 |cons _ _ ih=>exact congrArg de ih
 |_=>rfl
theorem VF{k k':AV}{M:Bool->Prop}(h:k'=k->M true)(h':k'≠k->M false):M (decide (k'=k)):=
 if z:k'=k then decide_eq_true z▸h z else decide_eq_false z▸h' z
theorem DD.has{k:AV}{vs:RD}{us:List (AV×AV)}(d:DD ls vs us):Pr vs k=(dG us k).isSome:=by
 induction d with
 |nil=>rfl
 |raw=>rfl
 |@cons k' w a r us h t ih=>
  show(decide (k'=k)||Pr r k)=(if k'=k then some a else dG us k).isSome
  rw[ih]
  exact VF (k:=k) (k':=k') (M:=λb=>(b||(dG us k).isSome)=(if k'=k then some a else dG us k).isSome) (λz=>by rw[if_pos z];rfl) λz=>by rw[if_neg z];rfl
end
section
variable{L:Cs}{P:Prop}
theorem qT.e{o:Option AV}{k:RV->Prop}(h:qT o L k)(K:∀w a,o=some a->den (locs L) w=some a->k w->P):P:=h.casesOn K
theorem DS.dz{vs:RS}{us:List AV}(d:DS (locs L) vs us):∀{n:Nat}{k:RV->Prop},qI vs n L k->(∀w x,us[n]?=some x->den (locs L) w=some x->k w->P)->P:=by
 induction d with
 |nil=>exact λq _=>q.elim
 |raw=>exact λq K=>q.e K
 |@cons w a r us h t ih=>exact λ{n k}=>b8 (motive:=λn=>qI (.cons w r) n L k->(∀w x,(a::us)[n]?=some x->den (locs L) w=some x->k w->P)->P) n (λq K=>K w a rfl h q) λn=>ih (n:=n) (k:=k)
theorem DS.set{a:RV}{x:AV}(ha:den (locs L) a=some x){vs:RS}{us:List AV}(d:DS (locs L) vs us):∀{n:Nat}{k:RS->Prop},Mw vs n a L k->(∀s,n<us.length->DS (locs L) s (us.set n x)->k s->P)->P:=by
 induction d with
 |nil=>exact λq _=>q.elim
 |raw=>exact λq K=>K (.raw _) q.1 .raw (vP q.2 ha)
 |@cons w b r us h t ih=>exact λ{n k}=>b8 (motive:=λn=>Mw (.cons w r) n a L k->(∀s,n<(b::us).length->DS (locs L) s ((b::us).set n x)->k s->P)->P) n (λq K=>K (.cons a r) (tO _) (.cons ha t) q) λn q K=>ih (n:=n) q λs h1 h2 h3=>K (.cons w s) (gr h1) (.cons h h2) h3
theorem DS.snoc{a:RV}{x:AV}(ha:den (locs L) a=some x){vs:RS}{us:List AV}(d:DS (locs L) vs us):∀{k:RS->Prop},Gb vs a L k->(∀s,DS (locs L) s (us++[x])->k s->P)->P:=by
 induction d with
 |nil=>exact λq K=>K (.cons a .nil) (.cons ha .nil) q
 |raw=>exact λq K=>K (.raw _) .raw (vP q ha)
 |@cons w b r us h t ih=>exact λq K=>ih q λs h2 h3=>K (.cons w s) (.cons h h2) h3
theorem DS.cat{ls:List Nat}{ts:RS}{zs:List AV}(ht:DS ls ts zs){vs:RS}{us:List AV}(d:DS ls vs us):∀{k:RS->Prop},UD vs ts k->(∀s,DS ls s (us++zs)->k s->P)->P:=by
 induction d with
 |nil=>exact λq K=>K _ ht q
 |@raw us=>
  cases ht with
  |nil=>exact λq K=>K (.raw _) ((bf us).symm▸.raw) q
  |raw=>exact λq K=>K (.raw _) .raw q
  |cons=>exact λq _=>q.elim
 |@cons w b r us h t ih=>exact λq K=>ih q λs h2 h3=>K (.cons w s) (.cons h h2) h3
theorem DS.take{ls:List Nat}{vs:RS}{us:List AV}(d:DS ls vs us):∀{n:Nat}{k:RS->Prop},Fo vs n k->(∀s,DS ls s (us.take n)->k s->P)->P:=by
 induction d with
 |nil=>exact λ{n k} q K=>K .nil ((List.take_nil (i:=n)).symm▸.nil) q
 |raw=>exact λq K=>K (.raw _) .raw q
 |@cons w b r us h t ih=>exact λ{n k}=>b8 (motive:=λn=>Fo (.cons w r) n k->(∀s,DS ls s ((b::us).take n)->k s->P)->P) n (λq K=>K .nil .nil q) λn q K=>ih (n:=n) q λs h2 h3=>K (.cons w s) (.cons h h2) h3
theorem DS.drop{ls:List Nat}{vs:RS}{us:List AV}(d:DS ls vs us):∀{n:Nat}{k:RS->Prop},Fm vs n k->(∀s,DS ls s (us.drop n)->k s->P)->P:=by
 induction d with
 |nil=>exact λ{n k} q K=>K .nil ((List.drop_nil (i:=n)).symm▸.nil) q
 |raw=>exact λq K=>K (.raw _) .raw q
 |@cons w b r us h t ih=>exact λ{n k}=>b8 (motive:=λn=>Fm (.cons w r) n k->(∀s,DS ls s ((b::us).drop n)->k s->P)->P) n (λq K=>K _ (.cons h t) q) λn=>ih (n:=n)
theorem K0{k k' a:AV}{us:List (AV×AV)}(z:decide (k'=k)=true):dG ((k',a)::us) k=some a:=if_pos (of_decide_eq_true z)
theorem NT{k k' a:AV}{us:List (AV×AV)}(z:decide (k'=k)=false):dG ((k',a)::us) k=dG us k:=if_neg (of_decide_eq_false z)
theorem Td{k k' a x:AV}{us:List (AV×AV)}(z:decide (k'=k)=true):dput ((k',a)::us) k x=(k',x)::us:=if_pos (of_decide_eq_true z)
theorem Th{k k' a x:AV}{us:List (AV×AV)}(z:decide (k'=k)=false):dput ((k',a)::us) k x=(k',a)::dput us k x:=if_neg (of_decide_eq_false z)
theorem DD.get{k:AV}{vs:RD}{us:List (AV×AV)}(d:DD (locs L) vs us):∀{q:RV->Prop},Mz vs k L q->(∀w x,dG us k=some x->den (locs L) w=some x->q w->P)->P:=by
 induction d with
 |nil=>exact λq _=>q.elim
 |raw=>exact λq K=>q.e K
 |@cons k' w a r us h t ih=>exact λq K=>B5 q (λz q=>K w a (K0 z) h q) λz q=>ih q λw x h1=>K w x ((NT z).trans h1)
theorem DD.YX{k:AV}{vs:RD}{us:List (AV×AV)}(d:DD (locs L) vs us):∀{q:RV->Prop},Mj vs k L q->(∀w,den (locs L) w=some ((dG us k).getD .none)->q w->P)->P:=by
 induction d with
 |nil=>exact λq K=>K (.v .none) rfl q
 |raw=>exact λq K=>q.e λw a e d=>K w (e▸d)
 |@cons k' w a r us h t ih=>exact λq K=>B5 q (λz q=>K w (by rw[K0 z];exact h) q) λz q=>ih q λw h1=>K w (by rw[NT z];exact h1)
theorem DD.put{k:AV}{a:RV}{x:AV}(ha:den (locs L) a=some x){vs:RD}{us:List (AV×AV)}(d:DD (locs L) vs us):∀{q:RD->Prop},F2 vs k a L q->(∀s,DD (locs L) s (dput us k x)->q s->P)->P:=by
 induction d with
 |nil=>exact λq K=>K (.cons k a .nil) (.cons ha .nil) q
 |raw=>exact λq K=>K (.raw _) .raw (vP q ha)
 |@cons k' w b r us h t ih=>exact λq K=>B5 q (λz q=>K (.cons k' a r) (by rw[Td z];exact .cons ha t) q) λz q=>ih q λt h1=>K (.cons k' w t) (by rw[Th z];exact .cons h h1)
end
section
variable{P:Prop}{w:RV}{a:AV}{ls:List Nat}
theorem nx{α:Type}{x:α}(h:mZ x):P:=bA h
theorem Jk{α β:Type}{x:α}{y:β}(h:Jj x y):P:=bA h
theorem v5{f:AV->Prop}{g:Nat->Prop}(h:xk w f g)(r:den ls w=some a)(K1:f a->P)(K2:∀i l,a=.ref l->dz ls i=some l->g i->P):P:=by
 cases w with
 |v x=>exact K1 (ae r▸h)
 |r i=>exact K6 r λl e ea=>K2 i l ea e h
theorem lD{fi:Int->Prop}{fs:S->Prop}(h:FE a fi fs)(K1:∀z,a=.int z->fi z->P)(K2:∀s,a=.str s->fs s->P):P:=by
 cases a with
 |int z=>exact K1 z rfl h
 |str s=>exact K2 s rfl h
 |_=>exact h.elim
theorem iS{k:AV->Prop}(h:qy w k)(r:den ls w=some a)(K:k a->P):P:=v5 h r K λ_ _ _ _=>nx
theorem iY{k:Int->Prop}(h:rU w k)(r:den ls w=some a)(K:∀z,a=.int z->k z->P):P:=v5 h r (λh=>lD h K λ_ _=>nx) λ_ _ _ _=>nx
theorem qi{k:S->Prop}(h:Ba w k)(r:den ls w=some a)(K:∀z,a=.str z->k z->P):P:=v5 h r (λh=>lD h (λ_ _=>nx) K) λ_ _ _ _=>nx
theorem pJ{k:Nat->Prop}(h:A6 w k)(r:den ls w=some a)(K:∀n:Nat,a=.int n->k n->P):P:=
 iY h r λz=>Int.casesOn z (λn e h=>K n e h) λ_ _ h=>h.elim
theorem Ls{vs:RS}{us:List AV}{k:List AV->Prop}(h:U1 vs k)(r:DS ls vs us)(K:k us->P):P:=by
 cases r with
 |raw=>exact K h
 |_=>exact h.elim
theorem GW{vs:RD}{us:List (AV×AV)}{k:List (AV×AV)->Prop}(h:Mt vs k)(r:DD ls vs us)(K:k us->P):P:=by
 cases r with
 |raw=>exact K h
 |_=>exact h.elim
theorem KJ{vs:RS}{us:List AV}{p:Prop}(h:TL vs p)(r:DS ls vs us)(K:us=[]->p->P):P:=by
 cases r with
 |nil=>exact K rfl h
 |_=>exact h.elim
theorem zM{vs:RS}{us:List AV}{k:RV->RS->Prop}(h:F9 vs k)(r:DS ls vs us)(K:∀w x s zs,us=x::zs->den ls w=some x->DS ls s zs->k w s->P):P:=by
 cases r with
 |cons d t=>exact K _ _ _ _ rfl d t h
 |_=>exact h.elim
theorem Ef{α:Type}{l:List α}{k:α->Prop}(h:PR l k)(K:∀a,l=[a]->k a->P):P:=by
 cases l with
 |nil=>exact h.elim
 |cons a r=>cases r with
  |nil=>exact K a rfl h
  |cons=>exact h.elim
theorem two1_e{α:Type}{l:List α}{k:α->α->Prop}(h:two1 l k)(K:∀a b,l=[a,b]->k a b->P):P:=by
 cases l with
 |nil=>exact h.elim
 |cons a r=>exact Ef h λb e h=>K a b (congrArg (a::·) e) h
variable{L:Cs}
theorem Ul{c:Option (Nat×RO)}{k:Nat->RO->Prop}(h:Ys c k)(K:∀l o,c=some (l,o)->k l o->P):P:=by
 cases c with
 |none=>exact h.elim
 |some c=>exact K c.1 c.2 rfl h
theorem QW{i:Nat}{k:Nat->Nat->RO->Prop}(h:FA L i k)(K:∀l o,dz L i=some (l,o)->k i l o->P):P:=Ul h K
theorem nG{f:AV->Prop}{k:Nat->Nat->RO->Prop}(h:xk w f λi=>FA L i k)(r:den (locs L) w=some a)(K1:f a->P)(K2:∀i l o,a=.ref l->w=.r i->dz L i=some (l,o)->k i l o->P):P:=by
 cases w with
 |v x=>exact K1 (ae r▸h)
 |r i=>exact QW h λl o n h=>K2 i l o (ae (r.symm.trans (sZ (fm n)))) rfl n h
theorem jI{k:Nat->Nat->RO->Prop}(h:atC L w k)(r:den (locs L) w=some a)(K:∀i l o,a=.ref l->w=.r i->dz L i=some (l,o)->k i l o->P):P:=nG h r nx K
end
section
variable{σ:Hp}{L:Cs}{F:List Fa}{G:List (Nat×aF)}{P:Prop}{i l:Nat}{o o':RO}{b b':aF}
theorem cell_in{ls:List Nat}{c:Nat×RO}:∀{L:Cs}{i:Nat},dz L i=some c->∀f∈mX (vw ls c),f∈at_ ls L:=λ{L i} h f m=>(ue (ls:=ls) (c':=(0,.gh [])) h).mem_iff.mpr (aZ _ m)
theorem cC.cell(S:cC σ (at_ (locs L) L++F) G)(n:dz L i=some (l,o)):∀f∈mX (vw (locs L) (l,o)),Holds σ f:=λf m=>S.h f (aZ _ (cell_in n f m))
noncomputable def obj:RO->Prop
 |.d6 _|.gh _|.gk _|.ro _=>False
 |_=>True
theorem DO.obj{ls:List Nat}(d:DO ls o b):vw ls (l,o)=.own l (some b):=by
 have e:=d.to
 cases d<;>exact congrArg (VW.own l) e
theorem C1{f:aF->Fa}{x:Option aF}(hf:∀b,Holds σ (f b)->σ[l]?=some b)(h:∀g∈UL f x,Holds σ g)(K:∀b,x=some b->σ[l]?=some b->P):P:=by
 cases x with
 |none=>exact(h _ (.head _):False).elim
 |some b=>exact K b rfl (hf b (h _ (.head _)))
theorem DO.of{ls:List Nat}(h:eH ls o=some b)(k:Mine.Internal.A.obj o):DO ls o b:=Lc (P:=λo=>Mine.Internal.A.obj o->DO ls o b) h (λ_ d _=>d) (λ_ _ k=>k.elim) k
theorem cC.rd(S:cC σ (at_ (locs L) L++F) G)(n:dz L i=some (l,o))(h:obj (iV o))(K:∀b,DO (locs L) (iV o) b->σ[l]?=some b->P):P:=by
 have c:=S.cell n
 cases o with
 |ro o=>exact C1 (f:=Fa.r l) (λ_ h=>h) c λb e hb=>K b (.of e h) hb
 |d6=>exact h.elim
 |gh=>exact h.elim
 |gk=>exact h.elim
 |_=>exact C1 (f:=Fa.o l) (λ_ h=>h) c λb e hb=>K b (.of e h) hb
theorem OD{ls:List Nat}{u:RO}{fl ft:RS->Prop}{fd:RD->Prop}{fi:bF->List RV->Prop}(d:DO ls u b)(h:z8 u fl ft fd fi)(K1:∀vs us,b=.list us->DS ls vs us->u=.list vs->fl vs->P)(K2:∀vs us,b=.tup us->DS ls vs us->u=.tup vs->ft vs->P)(K3:∀vs us,b=.dict us->DD ls vs us->u=.dict vs->fd vs->P)(K4:∀c vs us,b=.inst c us->DL ls vs us->u=.inst c vs->fi c vs->P):P:=by
 cases d with
 |list d=>exact K1 _ _ rfl d rfl h
 |tup d=>exact K2 _ _ rfl d rfl h
 |dict d=>exact K3 _ _ rfl d rfl h
 |inst d=>exact K4 _ _ _ rfl d rfl h
 |fl=>exact h.elim
theorem j4{fl ft:RS->Prop}{fd:RD->Prop}{fi:bF->List RV->Prop}(h:z8 o fl ft fd fi):obj o:=by cases o<;>first|trivial|exact h.elim
theorem cC.ob{fl ft:RS->Prop}{fd:RD->Prop}{fi:bF->List RV->Prop}(S:cC σ (at_ (locs L) L++F) G)(n:dz L i=some (l,o))(h:z8 (iV o) fl ft fd fi)
  (K1:∀vs us,σ[l]?=some (.list us)->DS (locs L) vs us->fl vs->P) (K2:∀vs us,σ[l]?=some (.tup us)->DS (locs L) vs us->ft vs->P) (K3:∀vs us,σ[l]?=some (.dict us)->DD (locs L) vs us->fd vs->P) (K4:∀c vs us,σ[l]?=some (.inst c us)->DL (locs L) vs us->fi c vs->P):P:=
 S.rd n (j4 h) λ_ d hb=>OD d h (λ_ _ e d _=>K1 _ _ (e▸hb) d) (λ_ _ e d _=>K2 _ _ (e▸hb) d) (λ_ _ e d _=>K3 _ _ (e▸hb) d) λ_ _ _ e d _=>K4 _ _ _ (e▸hb) d
theorem cC.inst(S:cC σ (at_ (locs L) L++F) G)(n:dz L i=some (l,o)){k:bF->List RV->Prop}(h:xF (iV o) k)(K:∀c fs us,σ[l]?=some (.inst c us)->DL (locs L) fs us->k c fs->P):P:=S.ob n h (λ_ _ _ _=>nx) (λ_ _ _ _=>nx) (λ_ _ _ _=>nx) K
theorem cC.list(S:cC σ (at_ (locs L) L++F) G)(n:dz L i=some (l,o)){k:RS->Prop}(h:s7 (iV o) k)(K:∀fs us,σ[l]?=some (.list us)->DS (locs L) fs us->k fs->P):P:=S.ob n h K (λ_ _ _ _=>nx) (λ_ _ _ _=>nx) λ_ _ _ _ _=>Jk
theorem cC.dict(S:cC σ (at_ (locs L) L++F) G)(n:dz L i=some (l,o)){k:RD->Prop}(h:G4 (iV o) k)(K:∀fs us,σ[l]?=some (.dict us)->DD (locs L) fs us->k fs->P):P:=S.ob n h (λ_ _ _ _=>nx) (λ_ _ _ _=>nx) K λ_ _ _ _ _=>Jk
theorem cC.wr(S:cC σ (at_ (locs L) L++F) G)(n:dz L i=some (l,o))(h:obj o)(K:∀b,DO (locs L) o b->σ[l]?=some b->(∀o' b',DO (locs L) o' b'->(∀vs,b≠.tup vs)->(∀(c:bF)(fs:List AV),c.isExc=false->b=.inst c fs->∃fs',b'=.inst c fs')->cC (σ.set l b') (at_ (locs (L.set i (l,o'))) (L.set i (l,o'))++F) G)->P):P:=by
 have u:iV o=o:=by cases o<;>first|rfl|exact h.elim
 refine S.rd n (u.symm▸h) λb d hb=>K b (u▸d) hb λo' b' d' nt nc=>?_
 rw[eQ n]
 have z:=S.perm ((lZ n).append_right F)
 rw[(u▸d:DO (locs L) o b).obj] at z
 exact(z.set nt nc).perm ((DO.obj d'▸Dp (c':=(l,o')) n).append_right F)
theorem cC.own{fl:RS->Prop}{fd:RD->Prop}{fi:bF->List RV->Prop}(S:cC σ (at_ (locs L) L++F) G)(n:dz L i=some (l,o))(h:z8 o fl mZ fd fi)
  (K1:∀vs us,σ[l]?=some (.list us)->DS (locs L) vs us->(∀s zs,DS (locs L) s zs->cC (σ.set l (.list zs)) (at_ (locs (L.set i (l,.list s))) (L.set i (l,.list s))++F) G)->fl vs->P)
  (K2:∀vs us,σ[l]?=some (.dict us)->DD (locs L) vs us->(∀s zs,DD (locs L) s zs->cC (σ.set l (.dict zs)) (at_ (locs (L.set i (l,.dict s))) (L.set i (l,.dict s))++F) G)->fd vs->P)
  (K3:∀c vs us,σ[l]?=some (.inst c us)->DL (locs L) vs us->(∀s zs,DL (locs L) s zs->cC (σ.set l (.inst c zs)) (at_ (locs (L.set i (l,.inst c s))) (L.set i (l,.inst c s))++F) G)->fi c vs->P):P:=
 S.wr n (j4 h) λ_ d hb wr=>OD d h (λ_ _ e d _=>K1 _ _ (e▸hb) d λs zs d=>wr _ _ (.list d) (λ_ z=>aF.noConfusion (e.symm.trans z)) λ_ _ _ z=>aF.noConfusion (e.symm.trans z)) (λ_ _ _ _ _=>nx)
  (λ_ _ e d _=>K2 _ _ (e▸hb) d λs zs d=>wr _ _ (.dict d) (λ_ z=>aF.noConfusion (e.symm.trans z)) λ_ _ _ z=>aF.noConfusion (e.symm.trans z))
  λ_ _ _ e d _=>K3 _ _ _ (e▸hb) d λs zs d=>wr _ _ (.inst d) (λ_ z=>aF.noConfusion (e.symm.trans z)) λ_ _ _ z=>⟨zs,by cases e.symm.trans z;rfl⟩
theorem cC.Yo(S:cC σ (at_ (locs L) L++F) G)(d:DO (locs L) o b):cC (σ++[b]) (at_ (locs (L++[(σ.length,o)])) (L++[(σ.length,o)])++F) G:=by
 have p:Pre (locs L) (locs (L++[(σ.length,o)])):=fk▸.app
 have e:at_ (locs (L++[(σ.length,o)])) (L++[(σ.length,o)])=at_ (locs L) L++[.o σ.length b]:=by
  rw[yW,yD p λf m=>S.h f (aZ _ m)]
  show _++(mX (vw _ (σ.length,o))++[])=_
  rw[(d.imp λ_ _=>p.den).obj];rfl
 rw[e,ay]
 exact(S.new (b:=b)).perm eY.symm
theorem y8:den (locs (L++[(l,o)])) (.r (0+L.length))=some (.ref l):=sZ ((cj L.length).symm▸fm (Ox (l:=L) (a:=(l,o))))
end
noncomputable def PU{α:Type}(m:MM α)(L:Cs)(Q:α->Prop):Prop:=∀F G σ,cC σ (at_ (locs L) L++F) G->Wp (m σ) (λr σ'=>σ'=σ/\Q r) λ_ _=>False
noncomputable def Ru{α β:Type}(_:List Nat)(_:α)(_:β):Prop:=True
section
variable{α β α' β':Type}{R:List Nat->β->α->Prop}{R':List Nat->β'->α'->Prop}{σ:Hp}{L:Cs}{F:List Fa}{G:List (Nat×aF)}{m:MM α}{f:α->MM α'}{Q:β->Cs->Prop}{Q':β'->Cs->Prop}{E:PE}{P:Prop}
theorem Res.e{a:α}(h:Res R L F G Q a σ)(K:∀b L',R (locs L') b a->Pre (locs L) (locs L')->cC σ (at_ (locs L') L'++F) G->Q b L'->P):P:=h.casesOn K
theorem Res.pre{L':Cs}{a:α}(p:Pre (locs L) (locs L'))(h:Res R L' F G Q a σ):Res R L F G Q a σ:=h.e λb L'' r p' s q=>⟨b,L'',r,p.trans p',s,q⟩
theorem J.then{L':Cs}{r:R'=R'}{x:MM α'}(p:Pre (locs L) (locs L'))(h:J R' x L' Q' E)(S:cC σ (at_ (locs L') L'++F) G):Wp (x σ) (Res R' L F G Q') (Res Re L F G E):=(h F G σ S).mono (λ_ _ h=>h.pre p) λ_ _ h=>h.pre p
theorem J.bind{K:β->Cs->Prop}(h:J R m L K E)(k:∀b a L',Pre (locs L) (locs L')->R (locs L') b a->K b L'->J R' (f a) L' Q' E):J R' (m>>=f) L Q' E:=λF G σ S=>
 dg ((h F G σ S).mono (λa _ h=>h.e λb L' r p s q=>J.then (r:=rfl) p (k b a L' p r q) s) λ_ _ h=>h)
theorem PU.bind{K:α->Prop}(h:PU m L K)(k:∀a,K a->J R' (f a) L Q' E):J R' (m>>=f) L Q' E:=λF G σ S=>
 dg ((h F G σ S).mono (λa σ' z=>z.1▸k a z.2 F G σ S) λ_ _ h=>h.elim)
theorem t8{b:β}{a:α}(r:R (locs L) b a)(q:Q b L)(S:cC σ (at_ (locs L) L++F) G):Res R L F G Q a σ:=⟨b,L,r,.refl,S,q⟩
theorem J.Cr{b:β}{a:α}(r:R (locs L) b a)(q:Q b L):J R (pure a:MM α) L Q E:=λ_ _ _ S=>t8 r q S
theorem J.toE(h:J R m L Q ff):J R m L Q E:=λF G σ S=>(h F G σ S).mono (λ_ _ z=>z) λ_ _ h=>h.e λ_ _ _ _ _ q=>q.elim
end
section
variable{L:Cs}{w k p:RV}{a b x:AV}{Q E:PE}{q:Cs->Prop}
theorem SH(ls:List Nat)(x:AV):Rv ls (.v x) x:=rfl
theorem tS{σ:Hp}{F:List Fa}{G:List (Nat×aF)}(x:AV)(q:Q (.v x) L)(S:cC σ (at_ (locs L) L++F) G):Res Rv L F G Q x σ:=t8 (b:=.v x) (SH ..) q S
theorem pv(x:AV)(q:Q (.v x) L):J Rv (pure x) L Q E:=.Cr (b:=.v x) (SH ..) q
theorem u6{Q:Bool->Prop}(r:den (locs L) w=some a)(h:tW w L Q):PU (cv a) L Q:=λF G σ S=>nG h r
 (λh=>by cases a<;>first|exact h.elim|exact⟨rfl,h⟩)
 λi l o e _ n h=>S.list n h λfs us hs d h=>e▸bD hs ⟨rfl,by rw[d.len] at h;cases us<;>exact h⟩
theorem Bt{x:At}(r:den (locs L) w=some a)(h:Nd w x L Q):J Rv (PJ a x) L Q E:=λF G σ S=>jI h r λi l o e _ n h=>S.inst n h λc fs us hs d h=>cZ h λhc h=>e9 h λj hj h=>e9 h λw' hw h=>(d.dz hw).elim λx z=>
 e▸bD hs (dE ((fM _).mp hc) (g9 hj (g9 z.1 (t8 z.2 h S))))
theorem Br{x:At}{y:AV}(r:den (locs L) p=some a)(r':den (locs L) w=some y)(h:NF p x w L q):J Ru (O1 a x y) L (λ_:Unit=>q) E:=λF G σ S=>jI h r λi l o e _ n h=>S.own n h (λ_ _ _ _ _=>nx) (λ_ _ _ _ _=>nx)
 λc fs us hs d wr h=>cZ h λhc h=>e9 h λj hj h=>DL.put r' d h λfs' hl d' h=>iT h λ_ _ h=>
  e▸bD hs (dE ((fM _).mp hc) (g9 hj (dE hl ⟨(),_,trivial,eQ n▸.refl,wr fs' _ d',h⟩)))
theorem KP(r:den (locs L) w=some a)(r':den (locs L) k=some b)(h:Rw w k L Q):J Rv (UP a b) L Q E:=λF G σ S=>nG h r
 (λh=>lD h (λ_ _=>nx) λs es h=>pJ h r' λn e h=>cZ h λhn h=>e9 h λc hc h=>es▸e▸dE ⟨bI n,cD.mpr (of_decide_eq_true hn)⟩ (g9 (b:=c) (gz.symm.trans hc) (tS (.str [c]) h S)))
 λi l o e _ n h=>S.ob n h
  (λfs us hs d h=>pJ h r' λn eb h=>d.dz h λw x ex d h=>e▸eb▸bD hs (dE (bI n) (g9 (b:=x) ex (t8 d h S))))
  (λfs us hs d h=>pJ h r' λn eb h=>d.dz h λw x ex d h=>e▸eb▸bD hs (dE (bI n) (g9 (b:=x) ex (t8 d h S))))
  (λfs us hs d h=>iS h r' λh=>cZ h λhk h=>d.get h λw x ex d h=>e▸bD hs (dE hk (g9 (b:=x) ex (t8 d h S))))
  λ_ _ _ _ _=>Jk
theorem L5(r:den (locs L) p=some a)(r':den (locs L) k=some b)(r'':den (locs L) w=some x)(h:QM p k w L q):J Ru (IG a b x) L (λ_:Unit=>q) E:=λF G σ S=>jI h r λi l o e _ n h=>S.own n h
 (λfs us hs d wr h=>pJ h r' λm eb h=>d.set r'' h λs hl d' h=>iT h λ_ _ h=>e▸eb▸bD hs (dE ⟨bI m,hl⟩ ⟨(),_,trivial,eQ n▸.refl,wr s _ d',h⟩))
 (λfs us hs d wr h=>iS h r' λh=>cZ h λhk h=>d.put r'' h λs d' h=>iT h λ_ _ h=>e▸bD hs (dE (by rw[bR,decide_eq_true_eq,d.len] at hk;exact hk) ⟨(),_,trivial,eQ n▸.refl,wr s _ d',h⟩))
 λ_ _ _ _ _ _=>Jk
theorem oD{o:RO}{b:aF}(d:DO (locs L) o b)(h:kU o L Q):J Rv (alloc b) L Q E:=λF G σ S=>⟨_,_,y8,fk▸.app,S.Yo d,Dh (h σ.length)⟩
theorem iz{s:RS}{us:List AV}(hl:us.length<=lim)(d:DS (locs L) s us)(h:kU (.list s) L Q):J Rv (fP us) L Q E:=by
 unfold fP;rw[if_pos hl];exact oD (.list d) h
theorem Pe{s:RS}{us:List AV}(hl:us.length<=lim)(d:DS (locs L) s us)(h:kU (.tup s) L Q):J Rv (nz us) L Q E:=by
 unfold nz;rw[if_pos hl];exact oD (.tup d) h
end
section
variable{L:Cs}{w k p u v:RV}{a b x c:AV}{Q E:PE}{P:Prop}
theorem RJ{p:Prop}{k:Int->Prop}(h:Zk a p k)(K1:a=.none->p->P)(K2:∀n,a=.int n->k n->P):P:=by
 cases a with
 |none=>exact K1 rfl h
 |int n=>exact K2 n rfl h
 |_=>exact h.elim
theorem Pc{ls:List Nat}{vs:RS}{us:List AV}{k:RS->Prop}(hl:us.length<=lim)(d:DS ls vs us)(h:Wb a b c vs k)(K:∀ws s,TK us a b c=some ws->ws.length<=lim->DS ls s ws->k s->P):P:=
 RJ h (λea h=>lD h (λn eb h=>cZ h λhc h=>d.take h λs d h=>K _ s (by rw[ea,eb];exact if_pos (of_decide_eq_true hc)) (ah (List.length_take_le' ..) hl) d h) λ_ _=>nx)
  λn ea h=>cZ h λhc h=>RJ h (λec h=>d.drop h λs d h=>K _ s (by rw[ea,ec];exact if_pos (of_decide_eq_true hc)) (by rw[eW];exact ah (rI ..) hl) d h)
   λm ec h=>cZ h λhm h=>Ls h d λh=>cZ h λhp h=>K _ _ (by rw[ea,ec];exact(if_pos (of_decide_eq_true hc)).trans (if_pos (of_decide_eq_true hm))) (of_decide_eq_true hp) .raw h
theorem Ol(r:den (locs L) w=some a)(r1:den (locs L) u=some b)(r2:den (locs L) v=some c)(r3:den (locs L) p=some x)(h:WY w u v p L Q):J Rv (cut a b c x) L Q E:=λF G σ S=>
 iS h r1 λh=>iS h r2 λh=>iS h r3 λh=>nG h r
  (λh=>lD h (λ_ _=>nx) λs es h=>cZ h λhc h=>lD h (λn ec h=>cZ h λhn h=>es▸ec▸dE (of_decide_eq_true hc) (dE (of_decide_eq_true hn) (tS (.str (s.take n.toNat)) h S))) λ_ _=>nx)
  λi l o e _ n h=>S.list n h λfs us hs d h=>cZ h λhl h=>e▸bD hs (Pc (d.len▸of_decide_eq_true hl) d h λws s e hw d h=>g9 e (iz hw d h F G σ S))
theorem Vz{α:Type}{us:List AV}{z:AV}{f:AV->MM α}{g:MM α}{σ:Hp}{Q:α->Hp->Prop}{X:Nat->Hp->Prop}(e:us=[z])(h:Wp (f z σ) Q X):Wp ((match (generalizing:=false) us with|[x]=>f x|_=>g:MM α) σ) Q X:=by subst e;exact h
theorem Oh{op:Op}(r:den (locs L) u=some a)(r1:den (locs L) v=some b)(h:VM op u v L Q):J Rv (SR op a b) L Q E:=λF G σ S=>nG h r
 (λh=>lD h (λx ex h=>iY h r1 λz e h=>e9 h λm e' h=>ex▸e▸g9 e' (tS (.int m) h S))
  λs ex h=>qi h r1 λt e h=>cZ h λhc h=>ex▸e▸dE (of_decide_eq_true hc) (tS (.str (s++t)) h S))
 λi l o e _ n h=>S.list n h λfs us hs d h=>e▸bD hs (nG h r1
  (λh=>lD h (λm em h=>zM h d λw x s zs eu dx ds h=>KJ h ds λez h=>iS h dx λh=>cZ h λhc h=>em▸Vz (eu.trans (congrArg _ ez)) (dE (of_decide_eq_true hc) (iz (by rw[iE];exact Int.toNat_le.mpr (of_decide_eq_true hc).2.2) .raw h F G σ S))) λ_ _=>nx)
  λj l o e _ n h=>S.list n h λfs' us' hs' d' h=>cZ h λhc h=>DS.cat d' d h λs ds h=>e▸bD hs' (dE (of_decide_eq_true hc).1 (iz (by rw[aw,<-d.len,<-d'.len];exact(of_decide_eq_true hc).2) ds h F G σ S)))
theorem cC.fc{σ:Hp}{F:List Fa}{G:List (Nat×aF)}(S:cC σ (at_ (locs L) L++F) G):Fc σ L:=⟨λi l o z n d=>by
  have c:=S.cell n
  cases o with
  |d6=>exact ns d
  |gh=>exact ns d
  |gk=>exact ns d
  |ro o=>exact C1 (f:=Fa.r l) (λ_ h=>h) c λb e hb=>ae (e.symm.trans d)▸hb
  |_=>exact C1 (f:=Fa.o l) (λ_ h=>h) c λb e hb=>ae (e.symm.trans d)▸hb,λi l G g n m=>S.cell n (.t g.1 g.2) (aU (f:=λp=>Fa.t p.1 p.2) m)⟩
theorem LP{Q:Bool->Prop}(r:den (locs L) u=some a)(r1:den (locs L) v=some b)(h:Ve u v L Q):PU (NW a b) L Q:=λF G σ S=>h.casesOn λz e q=>by
 rw[e σ a b r r1 S.fc]
 exact⟨rfl,q⟩
theorem My{Q:Bool->Prop}(r:den (locs L) u=some a)(r1:den (locs L) v=some b)(h:Zh u v L Q):PU (NW a b) L Q:=
 v5 h r (λh=>v5 h r1 (λh=>e9 h λm e h=>λF G σ S=>by unfold NW;rw[e];exact⟨rfl,h⟩) λ_ _ _ _=>LP r r1) λ_ _ _ _=>LP r r1
theorem B9{ls:List Nat}{z:Int}{vs:RS}{us:List AV}(d:DS ls vs us):∀{k:Bool->Prop},NN vs z k->us.all vL=true/\k (us.contains (.int z)):=by
 induction d with
 |nil=>exact λh=>⟨rfl,h⟩
 |raw=>exact λh=>h.elim
 |@cons w x r us hd t ih=>exact λh=>iY h hd λj e h=>⟨(bR ..).mpr ⟨e▸rfl,(ih h).1⟩,by
   rw[d8,e,show(AV.int z==AV.int j)=(j==z) from nh.mpr (beq_iff_eq.trans (Co ⟨λe=>(yA e).symm,λe=>e▸rfl⟩ beq_iff_eq.symm))]
   exact(ih h).2⟩
theorem J9{Q:Bool->Prop}(r:den (locs L) u=some a)(r1:den (locs L) v=some b)(h:inW u v L Q):PU (WV a b) L Q:=λF G σ S=>nG h r1
 (λh=>lD h (λ_ _=>nx) λt et h=>qi h r λs e h=>e9 h λm e' h=>et▸e▸g9 e' ⟨rfl,h⟩)
 λi l o e _ n h=>S.ob n h (λ_ _ _ _=>nx) (λfs us hs d h=>iY h r λz ez h=>e▸ez▸bD hs (dE (B9 d h).1 ⟨rfl,(B9 d h).2⟩))
  (λfs us hs d h=>iS h r λh=>cZ h λhk h=>e▸bD hs (dE hk ⟨rfl,d.has▸h⟩)) λ_ _ _ _ _=>Jk
theorem two_cells{ls:List Nat}{o o':RO}{b b':aF}{i j l:Nat}(d:DO ls o b)(d':DO ls o' b')(n:dz L i=some (l,o))(n':dz L j=some (l,o'))(N:((at_ ls L).flatMap ow).Nodup):i=j:=by
 by_cases e:i=j
 ·exact e
 ·have z:=(lZ (ls:=ls) n).trans ((lZ (ls:=ls) (i:=j) (L:=L.set i (l,.gh [])) (o:=o') (gz.trans ((bS e).trans (gz.symm.trans n')))).append_left _)
  have z:=(z.flatMap_right ow).nodup_iff.mp N
  rw[d.obj,d'.obj] at z
  exact((aJ.mp z).1 (.head _)).elim
theorem cC.two{σ:Hp}{F:List Fa}{G:List (Nat×aF)}{o o':RO}{b b':aF}{i j l l':Nat}(S:cC σ (at_ (locs L) L++F) G)(d:DO (locs L) o b)(d':DO (locs L) o' b')(n:dz L i=some (l,o))(n':dz L j=some (l',o')):(l==l')=(i==j):=
 nh.mpr (beq_iff_eq.trans (Co ⟨λe=>two_cells d d' n (e▸n') (by
  have z:=(dI.mp S.n).2.1
  rw[qm] at z
  exact(dI.mp z).1),λe=>(bY (ae (n.symm.trans (e▸n')))).1⟩ beq_iff_eq.symm))
theorem SS{Q:Bool->Prop}(h:oX (isN a) Q):PU (W3 a .none) L Q:=λF G σ S=>by cases a<;>first|exact h.elim|exact⟨rfl,h⟩
theorem Kg{Q:Bool->Prop}(r:den (locs L) u=some a)(r1:den (locs L) v=some b)(h:ZG u v L Q):PU (W3 a b) L Q:=v5 h r1
 (λh=>by
  cases b with
  |none=>exact SS (vP h r)
  |_=>exact h.elim)
 λj l' e' hj h F G σ S=>jI h r λi l o e _ n h=>S.wr n (j4 h) λb d hb _=>OD d h (λ_ _ _ _ _=>nx) (λ_ _ _ _ _=>nx) (λ_ _ _ _ _=>nx) λc vs us eb _ _ h=>QW h λl2 o' n' h=>S.wr n' (j4 h) λb' d' hb' _=>OD d' h (λ_ _ _ _ _=>nx) (λ_ _ _ _ _=>nx) (λ_ _ _ _ _=>nx) λ_ _ _ _ _ _ h=>by
  cases ae ((fm n').symm.trans hj)
  subst e e'
  exact bD (o:=.inst c us) (eb▸hb) (bD hb' ⟨rfl,S.two d d' n n'▸h⟩)
theorem Py{op:oH}{Q:Bool->Prop}(r:den (locs L) u=some a)(r1:den (locs L) v=some b)(h:W5 op u v Q):PU (Sj op a b) L Q:=λF G σ S=>v5 h r
 (λh=>lD h (λx ex h=>iY h r1 λz e h=>ex▸e▸⟨rfl,h⟩) λx ex h=>qi h r1 λz e h=>ex▸e▸⟨rfl,h⟩) λ_ _ _ _=>nx
theorem PU.neg{m:MM Bool}{Q:Bool->Prop}(h:PU m L λr=>Q (!r)):PU (m>>=λr=>pure (!r)) L Q:=λF G σ S=>dg ((h F G σ S).mono (λ_ _ z=>z) λ_ _ z=>z)
theorem yV{op:oH}{Q:Bool->Prop}(r:den (locs L) u=some a)(r1:den (locs L) v=some b)(h:Qw op u v L Q):PU (Nx op a b) L Q:=by
 cases op with
 |eq=>exact My r r1 h
 |ne=>exact PU.neg (My r r1 h)
 |GP=>exact J9 r r1 h
 |o8=>exact PU.neg (J9 r r1 h)
 |is=>exact Kg r r1 h
 |qD=>exact PU.neg (Kg r r1 h)
 |_=>exact Py r r1 h
end
section
variable{σ:Hp}{L:Cs}{F:List Fa}{G:List (Nat×aF)}{P:Prop}{w:RV}{a:AV}{as:List RV}{args:List AV}{Q E:PE}
theorem tA{ls:List Nat}{k:RV->Prop}(h:O3 as k)(r:DL ls as args)(K:∀w x,args=[x]->den ls w=some x->k w->P):P:=Ef h λw e h=>by
 subst e
 cases r with
 |cons d r=>cases r with|nil=>exact K _ _ rfl d h
theorem JW{ls:List Nat}{k:RV->RV->Prop}(h:YA as k)(r:DL ls as args)(K:∀w t x y,args=[x,y]->den ls w=some x->den ls t=some y->k w t->P):P:=two1_e h λw t e h=>by
 subst e
 cases r with
 |cons d r=>cases r with
  |cons d' r=>cases r with|nil=>exact K _ _ _ _ rfl d d' h
noncomputable def kdB:aF->Option Kd
 |.list _=>some .list
 |.tup _=>some .tup
 |.dict _=>some .dict
 |.inst c _=>if c.isExc then none else some (.inst c)
 |_=>none
theorem uZ{l:Nat}{b:aF}{k:Kd}(h:σ[l]?=some b)(e:kdB b=some k):kdOf σ (.ref l)=some k:=by
 unfold kdOf
 dsimp only
 rw[h]
 cases b<;>exact e
theorem VC{K:Kd->Prop}(S:cC σ (at_ (locs L) L++F) G)(h:A9 a L K)(q:∀k,kdOf σ a=some k->K k->P):P:=by
 cases a with
 |none=>exact q _ rfl h
 |bool=>exact q _ rfl h
 |int=>exact q _ rfl h
 |str=>exact q _ rfl h
 |ref l=>exact(h:VD L l K).casesOn λi l₀ G c n m h=>(S.cell n (.k l c) (aU (f:=λp=>Fa.k p.1 p.2) m)).elim λe z=>z.elim λfs hs=>q _ (uZ hs (by unfold kdB;dsimp only at e⊢;rw[e];rfl)) h
 |_=>exact h.elim
theorem XN{K:Kd->Prop}(S:cC σ (at_ (locs L) L++F) G)(r:den (locs L) w=some a)(h:kdP L w K)(q:∀k,kdOf σ a=some k->K k->P):P:=nG h r (λh=>VC S h q)
 λi l o e _ n h=>S.ob n h (λ_ _ hs _ h=>q _ (e▸uZ hs rfl) h) (λ_ _ hs _ h=>q _ (e▸uZ hs rfl) h) (λ_ _ hs _ h=>q _ (e▸uZ hs rfl) h) λc _ _ hs _ h=>cZ h λhc h=>q _ (e▸uZ hs (by unfold kdB;dsimp only;rw[(fM _).mp hc];rfl)) h
theorem Qo{x:S}{r:List S}:(EI x r).length=r.length+1:=by
 induction r with
 |nil=>rfl
 |cons y r ih=>
  show(if N5 y x=true then _ else _:List S).length=_
  cases N5 y x with
  |true=>exact congrArg de ih
  |false=>rfl
theorem NK{ss:List S}:(mR ss).length=ss.length:=by
 induction ss with
 |nil=>rfl
 |cons x r ih=>exact Qo.trans (congrArg de ih)
theorem TA{s:S}{c:Nat}{f:Nat->MM AV}{g:MM AV}{Q:AV->Hp->Prop}{X:Nat->Hp->Prop}(e:s=[c])(h:Wp (f c σ) Q X):Wp ((match (generalizing:=false) s with|[x]=>f x|_=>g:MM AV) σ) Q X:=by subst e;exact h
theorem UY{b:Bi}(r:gG (locs L) as=some args)(h:biW b as L Q):J Rv (vG b args) L Q E:=by
 have r':=DL.of r
 cases b with
 |len=>exact tA h r' λw x e d h=>e▸λF G σ S=>nG h d (λh=>lD h (λ_ _=>nx) λs es h=>cZ h λhl h=>es▸dE (of_decide_eq_true hl) (tS (.int s.length) h S)) λi l o e _ n h=>S.list n h λfs us hs dv h=>e▸bD hs (tS (.int us.length) (dv.Hu h) S)
 |isinstance=>exact JW h r' λw t x y e d d' h=>e▸λF G σ S=>iS h d' λh=>XN S d h λk hk h=>cZ h λht h=>dg (g9 hk (dE ht (tS (.bool (yL k y)) h S)))
 |str=>exact tA h r' λw x e d h=>e▸λF G σ S=>iS h d λh=>lD h (λn ex h=>cZ h λhl h=>ex▸dE (of_decide_eq_true hl) (tS (.str (je n)) h S)) λs ex h=>ex▸tS (.str s) h S
 |ord=>exact tA h r' λw x e d h=>qi h d λs e' h=>Ef h λc ec h=>e▸e'▸λF G σ S=>TA ec (tS (.int c) h S)
 |min=>exact JW h r' λw t x y e d d' h=>iY h d λm e1 h=>iY h d' λn e2 h=>e▸e1▸e2▸λF G σ S=>tS (.int (if n<m then n else m)) h S
 |sum=>exact tA h r' λw x e d h=>e▸λF G σ S=>jI h d λi l o e _ n h=>S.list n h λfs us hs d h=>Ls h d λh=>e9 h λis e' h=>e▸bD hs (g9 e' (tS (.int is.sum) h S))
 |sorted=>exact tA h r' λw x e d h=>e▸λF G σ S=>jI h d λi l o e _ n h=>S.dict n h λfs us hs d h=>GW h d λh=>e9 h λss e' h=>cZ h λhl h=>e▸bD hs (g9 e' (dE (of_decide_eq_true hl) (iz (by rw[aj,NK];exact ah (bz (of_decide_eq_true hl)) (by decide)) .raw h F G σ S)))
 |_=>exact(h.run args r).toE
theorem Nw{m:Mine.Internal.S}{k:Mh->Prop}(r:den (locs L) w=some a)(h:QH w m L k):PU (QZ a m) L k:=λF G σ S=>jI h r λi l o e _ n h=>S.ob n h
 (λ_ _ hs _ h=>cZ h λhc h=>e▸bD hs (dE (of_decide_eq_true hc) ⟨rfl,h⟩)) (λ_ _ _ _=>nx)
 (λ_ _ hs _ h=>cZ h λhc h=>e▸bD hs (dE (of_decide_eq_true hc) ⟨rfl,h⟩)) λ_ _ _ hs _ h=>e9 h λf ef h=>e▸bD hs (g9 ef ⟨rfl,h⟩)
noncomputable def Q7(C:Fn->List AV->MM AV)(I:Fn->List RV->Cs->PE->PE->Prop):Prop:=∀f as L Q E args,gG (locs L) as=some args->I f as L Q E->J Rv (C f args) L Q E
theorem SJ{C:Fn->List AV->MM AV}{I:Fn->List RV->Cs->PE->PE->Prop}(S:Q7 C I){h:Mh}(r:den (locs L) w=some a)(r':gG (locs L) as=some args)(k:doW I w h as L Q E):J Rv (Yy C a h args) L Q E:=by
 cases h with
 |fn f=>exact S _ (w::as) _ _ _ _ (bJ r (bJ r' rfl)) k
 |app=>exact tA k (DL.of r') λy x e d h=>e▸λF G σ S=>jI h r λi l o e _ n h=>S.own n h (λvs us hs dv wr h=>cZ h λhl h=>DS.snoc d dv h λs d' h=>iT h λ_ _ h=>e▸bD hs (dE (dv.len▸of_decide_eq_true hl) ⟨_,_,SH ..,eQ n▸.refl,wr s _ d',h⟩)) (λ_ _ _ _ _=>nx) λ_ _ _ _ _ _=>Jk
 |get=>exact tA k (DL.of r') λy x e d h=>e▸λF G σ S=>iS h d λh=>jI h r λi l o e _ n h=>S.dict n h λfs us hs d h=>cZ h λhk h=>d.YX h λw d h=>e▸bD hs (dE hk (t8 d h S))
end
inductive Ri(ls:List Nat):j9->Item->Prop where
 |one {w:RV} {a:AV} (h:den ls w=some a):Ri ls (.one w) (.one a)
 |pair {w v:RV} {a b:AV} (h:den ls w=some a) (h':den ls v=some b):Ri ls (.pair w v) (.pair a b)
inductive ZA(ls:List Nat):Option RV->Option AV->Prop where
 |no (x:Option AV):ZA ls none x
 |so {w:RV} {a:AV} (h:den ls w=some a):ZA ls (some w) (some a)
noncomputable abbrev Rl(ls:List Nat)(ρ:RL)(ρ':Loc):Prop:=bq (ZA ls) ρ ρ'
inductive Rf(ls:List Nat):RF->pM->Prop where
 |next {ρ:RL} {ρ':Loc} (h:Rl ls ρ ρ'):Rf ls (.next ρ) (.next ρ')
 |ret {w:RV} {a:AV} (h:den ls w=some a):Rf ls (.ret w) (.ret a)
section
variable{ls l:List Nat}
theorem Pre.ri(p:Pre ls l){a:j9}{b:Item}(h:Ri ls a b):Ri l a b:=by
 cases h with
 |one h=>exact .one (p.den h)
 |pair h h'=>exact .pair (p.den h) (p.den h')
theorem Pre.rl(p:Pre ls l){a:RL}{b:Loc}(h:Rl ls a b):Rl l a b:=h.imp λ_ _ h=>by
 cases h with
 |no=>exact .no _
 |so h=>exact .so (p.den h)
end
noncomputable def xo(lk:Lk)(L:Cs):Cs:=match lk with
 |none=>L
 |some (i,l,o)=>L.set i (l,.ro o)
inductive Ds(L:Cs):Lk->Option (Nat×aF)->Prop where
 |free:Ds L none none
 |tup (i l:Nat) (o:RO) (us:List AV) (n:dz L i=some (l,o)) (h:∀F G σ,cC σ (at_ (locs L) L++F) G->σ[l]?=some (.tup us)):Ds L none (some (l,.tup us))
 |ro (i l:Nat) (o:RO) (b:aF) (n:dz L i=some (l,.ro o)) (d:DO (locs L) o b):Ds L none (some (l,b))
 |lock (i l:Nat) (o:RO) (b:aF) (n:dz L i=some (l,o)) (d:DO (locs L) o b):Ds L (some (i,l,o)) (some (l,b))
noncomputable def Fx(F:List Fa)(G:List (Nat×aF))(k:Option (Nat×aF)):Prop:=∀l b,k=some (l,b)->(l,b)∈G\/∃us,b=.tup us/\Fa.t l us∈F
section
variable{σ:Hp}{L:Cs}{F T:List Fa}{G:List (Nat×aF)}{lk:Lk}{k:Option (Nat×aF)}{P:Prop}
theorem Fx.jz(h:Fx F G k)(S:cC σ (T++F) G):jz k σ=.ok () σ:=by
 cases k with
 |none=>rfl
 |some p=>
  unfold Mine.Internal.jz
  dsimp only
  rw[if_pos ((h _ _ rfl).elim (S.g _) λ⟨us,e,m⟩=>e▸S.h _ (a8 _ m))]
theorem cC.We{i l:Nat}{o:RO}{b:aF}(S:cC σ (at_ (locs L) L++F) G)(n:dz L i=some (l,o))(d:DO (locs L) o b):cC σ (at_ (locs L) (L.set i (l,.ro o))++F) ((l,b)::G):=by
 have z:=S.perm ((lZ n).append_right F)
 rw[d.obj] at z
 have y:=Dp (ls:=locs L) (c':=(l,.ro o)) n
 rw[show mX (vw (locs L) (l,.ro o))=[.r l b] from congrArg (UL (.r l)) d.to] at y
 exact z.lock.perm (y.append_right F)
theorem cC.Zg{i l:Nat}{o o':RO}{b:aF}(S:cC σ (at_ (locs L) L++F) ((l,b)::G))(n:dz L i=some (l,.ro o'))(d:DO (locs L) o b):cC σ (at_ (locs L) (L.set i (l,o))++F) G:=by
 have z:cC σ (UL (.r l) (eH (locs L) o')++at_ (locs L) (L.set i (l,.gh []))++F) ((l,b)::G):=S.perm ((lZ n).append_right F)
 have y:=Dp (ls:=locs L) (c':=(l,o)) n
 rw[d.obj] at y
 exact C1 (f:=Fa.r l) (x:=eH (locs L) o') (λ_ h=>h) (S.cell n) λb' eb _=>by
  rw[eb] at z
  exact z.unlock.perm (y.append_right F)
theorem Sn{i l:Nat}{o:RO}{q:Cs->Prop}(h:Nf (some (i,l,o)) L q)(K:∀l' o',dz L i=some (l',.ro o')->q (L.set i (l,o))->P):P:=e9 h λc n h=>by
 obtain⟨l',o'⟩:=c
 cases o' with
 |ro o'=>exact iT h λ_ _ h=>K l' o' n h
 |_=>exact h.elim
theorem Ds.start(S:cC σ (at_ (locs L) L++F) G)(h:Ds L lk k)(K:∀F' G',Fx F' G' k->locs (xo lk L)=locs L->cC σ (at_ (locs (xo lk L)) (xo lk L)++F') G'->(∀σ' L'(q:Cs->Prop),Pre (locs L) (locs L')->cC σ' (at_ (locs L') L'++F') G'->Nf lk L' q->∃L'',locs L''=locs L'/\cC σ' (at_ (locs L'') L''++F) G/\q L'')->P):P:=by
 cases h with
 |free=>exact K F G (λ_ _ e=>ns e) rfl S λ_ L' q _ S h=>⟨L',rfl,S,h⟩
 |tup i l o us n hs=>exact K (.t l us::F) G (λ_ _ e=>.inr ⟨us,(bY (ae e)).2.symm,(bY (ae e)).1▸.head _⟩) rfl ((S.U4 (f:=.t l us) trivial (hs _ _ _ S)).perm eY.symm) λ_ L' q _ S h=>⟨L',rfl,cC.drop (U:=[.t l us]) (S.perm eY),h⟩
 |ro i l o b n d=>exact K F G (λ_ _ e=>ae e▸.inl (S.r l b (aZ _ (cell_in n _ (by show _∈UL (.r l) (eH _ o);rw[d.to];exact .head _))))) rfl S λ_ L' q _ S h=>⟨L',rfl,S,h⟩
 |lock i l o b n d=>
  have e:locs (xo (some (i,l,o)) L)=locs L:=eQ n
  exact K F ((l,b)::G) (λ_ _ e=>ae e▸.inl (.head _)) e (e▸S.We n d) λσ' L' q p S h=>Sn h λl' o' n' h=>by
   cases (p.elim λX e=>ae ((fm n').symm.trans (e▸zN (fm n))):l'=l)
   exact⟨_,eQ n',eQ (o':=o) n'▸S.Zg n' (d.imp λ_ _=>p.den),h⟩
inductive Y3(L:Cs)(F:List Fa)(G:List (Nat×aF))(K:KI)(p:HI)(σ:Hp):Prop where
 |mk (dh:List j9) (lk:Lk) (L':Cs) (q:Pre (locs L) (locs L')) (s:cC σ (at_ (locs L') L'++F) G) (r:bq (Ri (locs L')) dh p.1) (o:Ds L' lk p.2) (k:K dh lk (xo lk L'))
noncomputable def JI(m:MM HI)(L:Cs)(K:KI):Prop:=∀F G σ,cC σ (at_ (locs L) L++F) G->Wp (m σ) (Y3 L F G K) λ_ _=>False
variable{w v:RV}{a b:AV}{K:KI}
theorem items_str{ls:List Nat}{s:S}:bq (Ri ls) (s.map λc=>.one (.v (.str [c]))) (s.map λc=>.one (.str [c])):=zj (R:=Ri ls) λ_=>.one rfl
theorem Wo{o:RO}{f g:RO->Prop}(h:ZX o f g)(K1:∀u,o=.ro u->f u->P)(K2:g o->P):P:=by
 cases o with
 |ro u=>exact K1 u rfl h
 |_=>exact K2 h
theorem AS{i l:Nat}{o:RO}{us:List AV}{vs:RS}(n:dz L i=some (l,o))(e:o=.tup vs)(d:DS (locs L) vs us):∀F G σ,cC σ (at_ (locs L) L++F) G->σ[l]?=some (.tup us):=λ_ _ _ S=>S.cell n (.o l (.tup us)) (by rw[e,(DO.tup d).obj];exact .head _)
theorem Qj(r:den (locs L) w=some a)(h:Yi w L K):JI (MR a) L K:=λF G σ S=>nG h r
 (λh=>lD h (λ_ _=>nx) λs es h=>es▸⟨_,none,L,.refl,S,items_str,.free,h⟩)
 λi l o e _ n h=>have hR:∀w x,den (locs L) w=some x->Ri (locs L) (.one w) (.one x):=λ_ _ h=>.one h
  Wo h (λu eo h=>by
   subst eo e
   exact S.rd n (j4 h) λb d hs=>OD d h (λvs us eb dv eu h=>bD (o:=.list us) (eb▸hs) ⟨_,none,L,.refl,S,dv.dh hR,.ro i l u _ n ((show u=.list vs from eu)▸DO.list dv),h⟩) (λ_ _ _ _ _=>nx) (λvs us eb dv eu h=>bD (o:=.dict us) (eb▸hs) ⟨_,none,L,.refl,S,dv.dh hR,.ro i l u _ n ((show u=.dict vs from eu)▸DO.dict dv),h⟩) λ_ _ _ _ _ _=>Jk)
   λh=>S.wr n (j4 h) λb d hs _=>e▸OD d h (λvs us eb dv eu h=>iT h λ_ _ h=>bD (o:=.list us) (eb▸hs) ⟨_,_,L,.refl,S,dv.dh hR,.lock i l (.list vs) _ (eu▸n) (.list dv),h⟩) (λvs us eb dv eu h=>bD (o:=.tup us) (eb▸hs) ⟨_,none,L,.refl,S,dv.dh hR,.tup i l o us n (AS n eu dv),h⟩) (λvs us eb dv eu h=>iT h λ_ _ h=>bD (o:=.dict us) (eb▸hs) ⟨_,_,L,.refl,S,dv.dh hR,.lock i l (.dict vs) _ (eu▸n) (.dict dv),h⟩) λ_ _ _ _ _ _=>Jk
theorem T8{ls:List Nat}{n:Nat}:∀{x:Nat},bq (Ri ls) (xV x n) ((dA x n).map λ(k:Nat)=>Item.one (.int (k:Int))):=by
 induction n with
 |zero=>exact .nil
 |succ n ih=>exact .cons (.one rfl) ih
theorem Gm(r:den (locs L) w=some a)(r':den (locs L) v=some b)(h:V5 w v L K):JI (jZ a b) L K:=λF G σ S=>
 pJ h r λx e h=>pJ h r' λy e' h=>cZ h λhc h=>by
  subst e e'
  have hc:=of_decide_eq_true hc
  refine dE ⟨bI x,cD.mpr hc.1,cD.mpr hc.2,cE (by decide) (bI y)⟩ ⟨_,none,L,.refl,S,?_,.free,h⟩
  have e:((iK ((y:Int) - (x:Int)).toNat).map λ(k:Nat)=>Item.one (.int ((x:Int)+(k:Int))))=(dA x (y - x)).map λ(k:Nat)=>Item.one (.int (k:Int)):=by
   rw[Int.toNat_sub,List.range'_eq_map_range,bU]
   rfl
  exact e▸T8
theorem Kb{ls:List Nat}{vs:RS}{us:List AV}(d:DS ls vs us):∀{n:Nat}{k:List j9->Prop},Lu vs n k->(∀dh,bq (Ri ls) dh (lB n us)->k dh->P)->P:=by
 induction d with
 |nil=>exact λh K=>K _ .nil h
 |raw=>exact λh _=>h.elim
 |cons e _ ih=>exact λh K=>ih h λdh h1 h2=>K _ (.cons (.pair rfl e) h1) h2
theorem KO(r:den (locs L) w=some a)(h:Q4 w L K):JI (EW a) L K:=λF G σ S=>
 jI h r λi l o e _ n h=>S.wr n (j4 h) λb d hs _=>OD d h (λ_ _ _ _ _=>nx) (λvs us eb dv eu h=>e▸Kb dv h λdh h1 h2=>bD (o:=.tup us) (eb▸hs) ⟨dh,none,L,.refl,S,h1,.tup i l o us n (AS n eu dv),h2⟩) (λ_ _ _ _ _=>nx) λ_ _ _ _ _ _=>Jk
theorem QO{n:Nat}{p q:Prop}(h:YR n p q)(K1:n=1->p->P)(K2:n=2->q->P):P:=by
 match n,h with
 |1,h=>exact K1 rfl h
 |2,h=>exact K2 rfl h
theorem SW{x:AV}{k:Nat->Prop}(h:WA x k)(K:∀t,x=.ref t->k t->P):P:=by
 cases x with
 |ref t=>exact K t rfl h
 |_=>exact h.elim
theorem QK{l:Nat}{x y:AV}{q:List RV->Prop}{ws:List RV}(hs:σ[l]?=some (.tup [x,y]))(d:gG (locs L) ws=some [x,y])(h:q ws):Wp (kY 2 (.one (.ref l)) σ) (λus σ'=>σ'=σ/\∃ws,gG (locs L) ws=some us/\q ws) λ_ _=>False:=bD hs (dE rfl ⟨rfl,ws,d,h⟩)
theorem OH{n:Nat}{it:j9}{it':Item}{q:List RV->Prop}(S:cC σ (at_ (locs L) L++F) G)(r:Ri (locs L) it it')(h:xc n it L q):Wp (kY n it' σ) (λus σ'=>σ'=σ/\∃ws,gG (locs L) ws=some us/\q ws) λ_ _=>False:=by
 cases r with
 |@pair w v x y d d'=>exact QO h (λ_ h=>h.elim) λe h=>e▸⟨rfl,[w,v],bJ d (bJ (bJ d' rfl) rfl),h⟩
 |@one w x d=>exact QO h (λe h=>e▸⟨rfl,[w],bJ d rfl,h⟩) λen h=>en▸nG h d (λh=>SW h λt et h=>h.casesOn λi l G vs n m h=>two1_e h λa b ev h=>h.e λw y ey dy h=>et▸QK (x:=a) (y:=b) (ws:=[.v a,w]) (ev▸S.cell n (.t t vs) (aU (f:=λp=>Fa.t p.1 p.2) m)) (bJ rfl (bJ (bJ (ae ey▸dy) rfl) rfl)) h) λi l o e _ n h=>S.ob n h (λ_ _ _ _=>nx) (λvs us hs dv h=>zM h dv λa x s zs e1 d1 ds h=>zM h ds λb y s' zs' e2 d2 ds h=>KJ h ds λe3 h=>e▸QK (x:=x) (y:=y) (ws:=[a,b]) (hs.trans (by rw[e1,e2,e3])) (bJ d1 (bJ (bJ d2 rfl) rfl)) h) (λ_ _ _ _=>nx) λ_ _ _ _ _=>Jk
end
section
variable{σ:Hp}{ls:List Nat}{L L₀:Cs}{F:List Fa}{G:List (Nat×aF)}{V:List VW}{P:Prop}
theorem vv{i l:Nat}:sN L i (l,.gh [])=L.set i (l,.gh []):=MY
theorem Bm{A B C:List Fa}:(A++(B++C)).Perm (B++(A++C)):=by
 rw[<-ay,<-ay]
 exact fJ.append_right _
theorem cC.swap{A B C:List Fa}(S:cC σ (A++(B++C)) G):cC σ (B++(A++C)) G:=S.perm Bm
theorem cC.take{i:Nat}{c:Nat×RO}(S:cC σ (at_ ls L++F) G)(n:dz L i=some c):cC σ (at_ ls (sN L i (c.1,.gh []))++(mX (vw ls c)++F)) G:=by
 rw[vv]
 have z:=S.perm ((lZ (o:=c.2) n).append_right F)
 rw[ay] at z
 exact z.swap
theorem J6{η:List Nat}:∀{L:Cs}{F:List Fa}{V:List VW},cC σ (at_ ls L++F) G->sel ls η L=some V->cC σ (Cv V++(at_ ls (emp L η)++F)) G:=by
 induction η with
 |nil=>exact λS h=>ae h▸S
 |cons i r ih=>exact λ{L F V} S h=>oM h λc n h=>bh h λs hs h=>(by
   have z:=ih (S.take n) hs
   have e:emp L (i::r)=emp (sN L i (c.1,.gh [])) r:=by show emp (sN L i (PH (dz L i),_)) r=_;rw[n];rfl
   rw[e,<-ae h]
   show cC σ (mX (vw ls c)++Cv s++_) G
   rw[ay]
   exact(z.perm (Bm.append_left _)).swap)
theorem Mb{v:VW}{B:List (Nat×aF)}(h:Wx v=some B):mX v=B.map λp=>.o p.1 p.2:=by
 cases v with
 |own l b=>cases b with
  |none=>exact ns h
  |some b=>exact ae h▸rfl
 |d6 l B=>exact ae h▸rfl
 |_=>exact ns h
theorem PI{is:List Nat}:∀{L:Cs}{F:List Fa}{k:List (Nat×aF)->Cs->Option (List VW)},cC σ (at_ ls L++F) G->objs ls is L k=some V->(∀B L',cC σ (at_ ls L'++(B.map (λp=>.o p.1 p.2)++F)) G->k B L'=some V->P)->P:=by
 induction is with
 |nil=>exact λS h K=>K [] _ S h
 |cons i r ih=>exact λS h K=>oM h λc n h=>bh h λp hp h=>ih (S.take n) h λB L' S h=>K _ L' (by
   rw[aN,ay,<-Mb hp]
   exact S.perm (Bm.append_left _)) h
theorem kK{i:Nat}{c:Nat×RO}(H:∀f∈at_ ls L,Holds σ f)(n:dz L i=some c):∀f∈mX (vw ls c),Holds σ f:=λf m=>H f (cell_in n f m)
theorem mq{α:Type}{a:α}(h:a∈([]:List α)):P:=(dk h).elim
theorem Pl(H:∀f∈at_ ls L,Holds σ f){is:List Nat}:∀{T:List (Nat×List AV)},Dk ls L is=some T->∀f∈T.map (λp=>Fa.t p.1 p.2),iA f/\Holds σ f:=by
 induction is with
 |nil=>exact λh=>ae h▸λ_=>mq
 |cons i r ih=>exact λh=>bh h λc n h=>(by
   obtain⟨l,o⟩:=c
   cases o with
   |tup vs=>exact bh h λus d h=>bh h λs hs h=>ae h▸λf m=>(aC.mp m).elim (λe=>e▸⟨trivial,kK H n (.o l (.tup us)) (by show _∈UL (.o l) (cF (Ak ls vs) _);rw[d];exact .head _)⟩) (ih hs f)
   |_=>exact ns h)
theorem PB(H:∀f∈at_ ls L,Holds σ f){is:List Nat}:∀{T:List (Nat×bF)},MH L is=some T->∀f∈T.map (λp=>Fa.k p.1 p.2),iA f/\Holds σ f:=by
 induction is with
 |nil=>exact λh=>ae h▸λ_=>mq
 |cons i r ih=>exact λh=>bh h λc n h=>(by
   obtain⟨l,o⟩:=c
   cases o with
   |inst c vs=>
    have h:ifO (!c.isExc) (cF (MH L r) λs=>some ((l,c)::s))=some _:=h
    cases ex:c.isExc with
    |true=>rw[ex] at h;exact ns h
    |false=>
     rw[ex] at h
     exact bh h λs hs h=>ae h▸λf m=>(aC.mp m).elim (λe=>e▸⟨trivial,ex,C1 (P:=∃fs,σ[l]?=some (aF.inst c fs)) (f:=Fa.o l) (x:=eH ls (.inst c vs)) (λ_ h=>h) (kK H n) λb eb hb=>OD (.of eb trivial:DO ls (.inst c vs) b) (fl:=mZ) (ft:=mZ) (fd:=mZ) (fi:=λ_ _=>True) trivial (λ_ _ _ _ _=>nx) (λ_ _ _ _ _=>nx) (λ_ _ _ _ _=>nx) λc' _ us e _ ec _=>⟨us,by cases ec;exact e▸hb⟩⟩) (ih hs f)
   |_=>exact ns h)
theorem Hw{X:List (Nat×List AV)}(H:∀f∈X.map (λp=>Fa.t p.1 p.2),Holds σ f):∀f∈X.map (λp=>Fa.t p.1 p.2),iA f/\Holds σ f:=λf m=>⟨(aS.mp m).elim λ_ z=>z.2▸trivial,H f m⟩
theorem Ho{X:List (Nat×bF)}(H:∀f∈X.map (λp=>Fa.k p.1 p.2),Holds σ f):∀f∈X.map (λp=>Fa.k p.1 p.2),iA f/\Holds σ f:=λf m=>⟨(aS.mp m).elim λ_ z=>z.2▸trivial,H f m⟩
theorem Vy(H:∀f∈at_ ls L,Holds σ f){i:Nat}{c:Nat×RO}{X T:List (Nat×List AV)}{is:List Nat}(n:dz L i=some c)(h:ghV c.2=some X)(hT:Dk ls L is=some T):∀f∈(X++T).map (λp=>Fa.t p.1 p.2),iA f/\Holds σ f:=by
 rw[aN]
 refine λf m=>(cp.mp m).elim (Hw (λf m=>?_) f) (Pl H hT f)
 obtain⟨l,o⟩:=c
 cases o with
 |gh G=>exact kK H n f (ae h▸m)
 |_=>exact ns h
theorem VH(H:∀f∈at_ ls L,Holds σ f){i:Nat}{c:Nat×RO}{X T:List (Nat×bF)}{is:List Nat}(n:dz L i=some c)(h:gkV c.2=some X)(hT:MH L is=some T):∀f∈(X++T).map (λp=>Fa.k p.1 p.2),iA f/\Holds σ f:=by
 rw[aN]
 refine λf m=>(cp.mp m).elim (Ho (λf m=>?_) f) (PB H hT f)
 obtain⟨l,o⟩:=c
 cases o with
 |gk G=>exact kK H n f (ae h▸m)
 |gh G=>cases G with
  |nil=>exact mq ((ae h).symm▸m)
  |cons=>exact ns h
 |_=>exact ns h
theorem SV(H:∀f∈at_ ls L₀,Holds σ f){η:List Pk}:∀{L:Cs}{F:List Fa}{V:List VW},cC σ (at_ ls L++F) G->NY ls L₀ η L=some V->cC σ (Cv V++F) G:=by
 have put:∀{v:VW}{s:List VW}{F:List Fa},cC σ (Cv s++(mX v++F)) G->cC σ (Cv (v::s)++F) G:=λS=>by
  show cC σ (mX _++Cv _++_) G
  rw[ay]
  exact S.swap
 induction η with
 |nil=>exact λS h=>ae h▸S.drop
 |cons p r ih=>
  intro L F V S h
  cases p with
  |one i=>exact oM h λc n h=>bh h λs hs h=>ae h▸put (ih (S.take n) hs)
  |gT is=>exact PI S h λB L S h=>bh h λs hs h=>ae h▸put (ih S hs)
  |no l=>exact bh h λs hs h=>ae h▸put (v:=.gh l []) (ih S hs)
  |gh i is=>exact bh h λc n h=>bh h λX hX h=>bh h λT hT h=>bh h λs hs h=>ae h▸put (v:=.gh c.1 (X++T)) (ih (S.add (Vy H n hX hT)).swap hs)
  |gk i is=>exact bh h λc n h=>bh h λX hX h=>bh h λT hT h=>bh h λs hs h=>ae h▸put (v:=.gk c.1 (X++T)) (ih (S.add (VH H n hX hT)).swap hs)
theorem tell{L':Cs}{η:List Pk}(S:cC σ (at_ (locs L') L'++F) G)(h:NY (locs L') L' η L'=some (IP (locs L) L)):cC σ (at_ (locs L) L++F) G:=SV (λf m=>S.h f (aZ _ m)) S h
theorem sI{l:List Nat}:∀{n:Nat},Pre (tk n l) l:=by
 induction l with
 |nil=>exact λ{n}=>b8 n .refl λ_=>.refl
 |cons a r ih=>exact λ{n}=>b8 n ⟨_,rfl⟩ λn=>(ih (n:=n)).elim λX e=>⟨X,congrArg (a::·) e⟩
theorem GS{ls ls':List Nat}{ρ':RL}{m:Loc}(h:Rl ls' ρ' m):∀{ρ:RL}{t:List (Option AV)},vS ls' ρ' ρ=some t->vS ls ρ ρ=some t->Rl ls ρ m:=by
 induction h with
 |nil=>exact λ{ρ t}=>cy (motive:=λρ=>vS ls' [] ρ=some t->vS ls ρ ρ=some t->Rl ls ρ []) ρ (λ_ _=>.nil) λ_ _ h=>ns h
 |@cons x y r s hx _ ih=>
  intro ρ t h h'
  cases ρ with
  |nil=>cases x<;>exact ns h
  |cons z ρ=>cases z with
   |none=>
    have h:cF (vS ls' r ρ) (λt=>some (none::t))=some t:=by cases x<;>exact h
    exact bh h λt e h=>bh h' λt' e' h'=>.cons (.no _) (ih e (e'.trans (congrArg some (dJ (ae (h'.trans h.symm))).2)))
   |some v=>cases x with
    |none=>exact ns h
    |some w=>exact bh h λa d h=>bh h λt e h=>bh h' λa' d' h'=>bh h' λt' e' h'=>(by
      have z:=dJ (ae (h'.trans h.symm))
      cases hx with
      |so hx=>exact .cons (.so (d'.trans (z.1.trans (d.symm.trans hx)))) (ih e (e'.trans (congrArg some z.2))))
end
noncomputable def Rs(ls:List Nat)(s:RS)(us:List AV):Prop:=DS ls s us
noncomputable def Rn(ls:List Nat)(s:List RV)(us:List AV):Prop:=gG ls s=some us
inductive Ro(ls:List Nat):Option RV->Option AV->Prop where
 |no:Ro ls none none
 |so {w:RV} {a:AV} (h:den ls w=some a):Ro ls (some w) (some a)
inductive Vs(ls:List Nat):Option RF->Option pM->Prop where
 |no:Vs ls none none
 |so {f:RF} {g:pM} (h:Rf ls f g):Vs ls (some f) (some g)
section
variable{ls:List Nat}{P:Prop}
theorem Rf.e{f:RF}{g:pM}{M:RF->pM->Prop}(h:Rf ls f g)(K1:∀ρ ρ',Rl ls ρ ρ'->M (.next ρ) (.next ρ'))(K2:∀w a,den ls w=some a->M (.ret w) (.ret a)):M f g:=by
 cases h with
 |next h=>exact K1 _ _ h
 |ret h=>exact K2 _ _ h
theorem Ro.e{f:Option RV}{g:Option AV}{M:Option RV->Option AV->Prop}(h:Ro ls f g)(K1:M none none)(K2:∀w a,den ls w=some a->M (some w) (some a)):M f g:=by
 cases h with
 |no=>exact K1
 |so h=>exact K2 _ _ h
theorem Vs.e{f:Option RF}{g:Option pM}{M:Option RF->Option pM->Prop}(h:Vs ls f g)(K1:M none none)(K2:∀w a,Rf ls w a->M (some w) (some a)):M f g:=by
 cases h with
 |no=>exact K1
 |so h=>exact K2 _ _ h
end
section
variable{L₀ L:Cs}{F:List Fa}{G:List (Nat×aF)}{k:Option (Nat×aF)}{n:Nat}{E:PE}{σ:Hp}{P:Prop}
theorem iI{α:Type}{m:MM α}{T:List Fa}{Q:α->Hp->Prop}{X:Nat->Hp->Prop}(h:Fx F G k)(S:cC σ (T++F) G)(q:Wp (m σ) Q X):Wp ((jz k>>=λ_=>m) σ) Q X:=dg (by rw[h.jz S];exact q)
theorem GJ{α:Type}{it:j9}{it':Item}{q:List RV->Prop}{f:List AV->MM α}{Q:α->Hp->Prop}{X:Nat->Hp->Prop}(S:cC σ (at_ (locs L) L++F) G)(r:Ri (locs L) it it')(h:xc n it L q)(K:∀ws us,gG (locs L) ws=some us->q ws->Wp (f us σ) Q X):Wp ((kY n it'>>=f) σ) Q X:=
 dg ((OH S r h).mono (λus σ' z=>z.2.elim λws z'=>z.1▸K ws us z'.1 z'.2) λ_ _ h=>h.elim)
section
variable{τ:Type}{l₀:List Nat}
theorem To.e{sr:τ->RL}{sL:τ->Cs}{ρ':RL}{m:Loc}(h:To l₀ sr sL ρ' L)(S:cC σ (at_ (locs L) L++F) G)(r:Rl (locs L) ρ' m)(K:∀t,Pre l₀ (locs (sL t))->cC σ (at_ (locs (sL t)) (sL t)++F) G->Rl (locs (sL t)) (sr t) m->P):P:=h.casesOn (λη t m e=>by
 have e1:=bY e
 have e2:=bY e1.2
 have e3:=bY e2.2
 exact K t (e3.2▸sI) (tell S e1.1) (GS r e2.1 e3.1)) λt m e=>by
 have e1:=bY e
 have e2:=bY e1.2
 have e3:=bY e2.2
 exact K t (e1.1▸e3.2▸sI) (e1.1▸S) (e1.1▸GS r e2.1 e3.1)
theorem J3.e{su:τ->List AV}{sL:τ->Cs}{us:List AV}(h:J3 l₀ su sL us L)(S:cC σ (at_ (locs L) L++F) G)(K:∀t,us=su t->Pre l₀ (locs (sL t))->cC σ (at_ (locs (sL t)) (sL t)++F) G->P):P:=h.casesOn (λη t eu e=>by
 have e1:=bY e
 exact K t eu (e1.2▸sI) (tell S e1.1)) λt eu e=>by
 have e1:=bY e
 exact K t eu (e1.1▸e1.2▸sI) (e1.1▸S)
end
theorem F1{α:Type}{xs:List α}{m:Nat}{x:α}{r:List α}(h:xs.drop m=x::r):xs[m]?=some x/\xs.drop (m+1)=r:=by
 have e:xs[m]?=some x:=by rw[<-List.head?_drop,h];rfl
 exact⟨e,by rw[<-List.tail_drop,h];rfl⟩
theorem drop_nil{α:Type}{xs:List α}{m:Nat}(hm:m<=xs.length)(h:xs.drop m=[]):m=xs.length:=jn hm (List.drop_eq_nil_iff.mp h)
section
variable{body:List RV->RL->Cs->PF->Prop}{turn:List AV->Loc->MM pM}(hb:∀ws us ρ ρ' L Q,gG (locs L) ws=some us->Rl (locs L) ρ ρ'->body ws ρ L Q->J Rf (turn us ρ') L Q E)(Fk:Fx F G k)
include hb Fk
theorem UN{Q:PF}{dh:List j9}{its':List Item}(ri:bq (Ri (locs L₀)) dh its'):∀{ρ:RL}{ρ':Loc}{L:Cs}{σ:Hp},Pre (locs L₀) (locs L)->cC σ (at_ (locs L) L++F) G->Rl (locs L) ρ ρ'->Wa body n dh ρ L Q->Wp (pg k n turn its' ρ' σ) (Res Rf L₀ F G Q) (Res Re L₀ F G E):=by
 induction ri with
 |nil=>exact λp S r h=>iI Fk S ⟨_,_,.next r,p,S,h⟩
 |cons hi _ ih=>exact λ{ρ ρ' L σ} p S r h=>iI Fk S (GJ S (p.ri hi) h λws us d h=>dg ((hb ws us ρ ρ' L _ d r h F G σ S).mono (λf σ' R=>R.e λf' L' r p' S h=>Rf.e (M:=λf' f=>(match f' with|.next ρ=>Wa body n _ ρ L' Q|.ret w=>Q (.ret w) L')->Wp ((match f with|.next ρ'=>pg k n turn _ ρ'|.ret v=>pure (.ret v):MM pM) σ') (Res Rf L₀ F G Q) (Res Re L₀ F G E)) r (λ_ _ r h=>ih (p.trans p') S r h) (λw a d h=>⟨.ret w,L',.ret d,p.trans p',S,h⟩) h) λ_ _ h=>h.pre p))
theorem Qg{dh:List j9}{its':List Item}{ρ:RL}{ρ':Loc}{Q:PF}(S:cC σ (at_ (locs L) L++F) G)(ri:bq (Ri (locs L)) dh its')(r:Rl (locs L) ρ ρ')(h:tT body n dh ρ L Q):Wp (pg k n turn its' ρ' σ) (Res Rf L F G Q) (Res Re L F G E):=by
 cases h with
 |run h=>exact UN hb Fk ri .refl S r h
 |@inv α τ xs f ex sr sL h step done=>
  have key:∀{dh:List j9}{its':List Item},bq (Ri (locs L)) dh its'->∀{m:Nat}{t:τ m}{ρ':Loc}{σ:Hp},m<=xs.length->dh=(xs.drop m).map f->Pre (locs L) (locs (sL m t))->cC σ (at_ (locs (sL m t)) (sL m t)++F) G->Rl (locs (sL m t)) (sr m t) ρ'->Wp (pg k n turn its' ρ' σ) (Res Rf L F G Q) (Res Re L F G E):=λri=>by
   induction ri with
   |nil=>exact λ{m t ρ' σ} hm e p S r=>iI Fk S ⟨_,_,.next r,p,S,(by
     obtain rfl:=drop_nil hm (He.mp e.symm)
     exact done t)⟩
   |@cons it _ dh its' hi _ ih=>exact λ{m t ρ' σ} hm e p S r=>iI Fk S (by
     obtain⟨x,xr,ed,rfl,rfl⟩:=Fe.mp e.symm
     have z:=F1 ed
     exact GJ S (p.ri hi) (step m x z.1 t) λws us d h=>dg ((hb ws us _ ρ' _ _ d r h F G σ S).mono (λg σ' R=>R.e λf' L' r p' S h=>Rf.e (M:=λf' g=>Vp (locs L) (sr (m+1)) (sL (m+1)) Q f' L'->Wp ((match g with|.next ρ'=>pg k n turn its' ρ'|.ret v=>pure (.ret v):MM pM) σ') (Res Rf L F G Q) (Res Re L F G E)) r (λ_ _ r h=>h.e S r λt p S r=>ih (aq.mp z.1).1 (congrArg (Fd f) z.2.symm) p S r) (λw a d h=>⟨.ret w,L',.ret d,p.trans p',S,h⟩) h) λ_ _ h=>h.pre p))
  exact h.e S r λt p S r=>key ri (aV _) ex p S r
end
section
variable{body:List RV->Cs->(Option RV->Cs->Prop)->Prop}{turn:List AV->MM (Option AV)}(hb:∀ws us L' Q,Pre (locs L₀) (locs L')->gG (locs L') ws=some us->body ws L' Q->J Ro (turn us) L' Q ff)(Fk:Fx F G k)
include hb Fk
theorem Un{dh:List j9}{its':List Item}(ri:bq (Ri (locs L₀)) dh its'):∀{L:Cs}{Q:RS->Cs->Prop}{σ:Hp},Pre (locs L₀) (locs L)->cC σ (at_ (locs L) L++F) G->Vr body n dh L Q->Wp (mP k n turn its' σ) (Res Rs L F G Q) (Res Re L F G ff):=by
 induction ri with
 |nil=>exact λp S h=>iI Fk S (t8 (R:=Rs) (b:=.nil) .nil h S)
 |@cons _ _ _ its' hi _ ih=>exact λ{L Q σ} p S h=>iI Fk S (GJ S (p.ri hi) h λws us d h=>dg ((hb ws us L _ p d h F G σ S).mono (λf σ' R=>R.e λf' L' r p' S h=>Ro.e (M:=λf' f=>(match f' with|some w=>Vr body n _ L' λvs L=>Q (.cons w vs) L|none=>Vr body n _ L' Q)->Wp ((mP k n turn its'>>=λws=>(pure (match f with|some v=>v::ws|none=>ws):MM (List AV))) σ') (Res Rs L F G Q) (Res Re L F G ff)) r
   (λh=>dg ((ih (p.trans p') S h).mono (λ_ _ h=>h.pre p') λ_ _ h=>h.pre p'))
   (λw a d h=>dg ((ih (p.trans p') S h).mono (λ_ _ h=>h.e λs L'' d' p'' S h=>⟨.cons w s,L'',.cons (p''.den d) d',p'.trans p'',S,h⟩) λ_ _ h=>h.pre p')) h) λ_ _ h=>h))
theorem OM{dh:List j9}{its':List Item}{Q:RS->Cs->Prop}(S:cC σ (at_ (locs L₀) L₀++F) G)(ri:bq (Ri (locs L₀)) dh its')(h:pK body n dh L₀ Q):Wp (mP k n turn its' σ) (Res Rs L₀ F G Q) (Res Re L₀ F G ff):=by
 cases h with
 |run h=>exact Un hb Fk ri .refl S h
 |@inv α τ xs f ex su sL h step done=>
  have key:∀{dh:List j9}{its':List Item},bq (Ri (locs L₀)) dh its'->∀{m:Nat}{t:τ m}{us:List AV}{σ:Hp},m<=xs.length->dh=(xs.drop m).map f->us=su m t->Pre (locs L₀) (locs (sL m t))->cC σ (at_ (locs (sL m t)) (sL m t)++F) G->Wp (mP k n turn its' σ) (λws σ'=>∃L',Pre (locs L₀) (locs L')/\cC σ' (at_ (locs L') L'++F) G/\Q (.raw (us++ws)) L') (Res Re L₀ F G ff):=λri=>by
   induction ri with
   |nil=>exact λ{m t us σ} hm e eu p S=>iI Fk S ⟨_,p,S,(by
     obtain rfl:=drop_nil hm (He.mp e.symm)
     rw[bf,eu]
     exact done t)⟩
   |@cons it _ dh its' hi _ ih=>exact λ{m t us σ} hm e eu p S=>iI Fk S (by
     obtain⟨x,xr,ed,rfl,rfl⟩:=Fe.mp e.symm
     have z:=F1 ed
     have hl:=(aq.mp z.1).1
     subst eu
     exact GJ S (p.ri hi) (step m x z.1 t) λws vs d h=>dg ((hb ws vs _ _ p d h F G σ S).mono (λg σ' R=>R.e λf' L' r p' S h=>Ro.e (M:=λf' g=>Ed (locs L₀) (su (m+1)) (sL (m+1)) (su m t) f' L'->Wp ((mP k n turn its'>>=λws=>(pure (match g with|some v=>v::ws|none=>ws):MM (List AV))) σ') (λws σ'=>∃L',Pre (locs L₀) (locs L')/\cC σ' (at_ (locs L') L'++F) G/\Q (.raw (su m t++ws)) L') (Res Re L₀ F G ff)) r
      (λh=>J3.e h S λt eu' p S=>dg ((ih hl (congrArg (Fd f) z.2.symm) eu' p S).mono (λ_ _ h=>h) λ_ _ h=>h))
      (λw a d h=>J3.e (vP h d) S λt eu' p S=>dg ((ih hl (congrArg (Fd f) z.2.symm) eu' p S).mono (λws _ h=>h.imp λL' h=>⟨h.1,h.2.1,(ay (su m _) [a] ws)▸h.2.2⟩) λ_ _ h=>h)) h) λ_ _ h=>h.pre p))
  exact h.e S λt eu p S=>(key ri (aV _) ex eu p S).mono (λus σ' h=>h.elim λL' h=>⟨.raw us,L',.raw,h.1,h.2.1,h.2.2⟩) λ_ _ h=>h
end
theorem UA{body:RL->Cs->(Option RF->Cs->Prop)->Prop}{turn:Loc->MM (Option pM)}(hb:∀ρ ρ' L Q,Rl (locs L) ρ ρ'->body ρ L Q->J Vs (turn ρ') L Q ff):
  ∀{n:Nat}{ρ:RL}{ρ':Loc}{L:Cs}{Q:PF},Rl (locs L) ρ ρ'->Vc body n ρ L Q->J Rf (uU turn n ρ') L Q ff:=λ{n}=>by
 induction n with
 |zero=>exact λ_ h=>h.elim
 |succ n ih=>exact λ{ρ ρ' L Q} r h F G σ S=>dg ((hb ρ ρ' L _ r h F G σ S).mono (λf σ' R=>R.e λf' L' r' p S h=>Vs.e (M:=λf' f=>(match f' with|none=>Q (.next ρ) L'|some (.next ρ)=>Vc body n ρ L' Q|some (.ret w)=>Q (.ret w) L')->Wp ((match f with|none=>pure (.next ρ')|some (.next ρ')=>uU turn n ρ'|some (.ret v)=>pure (.ret v):MM pM) σ') (Res Rf L F G Q) (Res Re L F G ff)) r'
   (λh=>⟨.next ρ,L',.next (p.rl r),p,S,h⟩)
   (λw a d h=>Rf.e (M:=λf' f=>(match (some f':Option RF) with|none=>Q (.next ρ) L'|some (.next ρ)=>Vc body n ρ L' Q|some (.ret w)=>Q (.ret w) L')->Wp ((match (some f:Option pM) with|none=>pure (.next ρ')|some (.next ρ')=>uU turn n ρ'|some (.ret v)=>pure (.ret v):MM pM) σ') (Res Rf L F G Q) (Res Re L F G ff)) d (λ_ _ r h=>((ih r h F G σ' S).mono (λ_ _ h=>h.pre p) λ_ _ h=>h.pre p)) (λw a d h=>⟨.ret w,L',.ret d,p,S,h⟩) h) h) λ_ _ h=>h)
theorem qF{α β:Type}{R:List Nat->β->α->Prop}{m:MM α}{Q:β->Cs->Prop}(h:J R m L Q ff):J R (o6 m) L Q E:=λF G σ S=>ux ((h F G σ S).mono (λ_ _ h=>h) λ_ _ h=>h.e λ_ _ _ _ _ q=>q.elim)
end
section
variable{σ:Hp}{L:Cs}{F:List Fa}{G:List (Nat×aF)}{P:Prop}
theorem Rl.dz{ls:List Nat}{ρ:RL}{ρ':Loc}{i:Nat}{w:RV}(r:Rl ls ρ ρ')(h:Mine.Internal.A.dz ρ i=some (some w)):∃a,ρ'[i]?=some (some a)/\den ls w=some a:=(r.get (gz.symm.trans h)).elim λy z=>by
 obtain⟨h1,h2⟩:=z
 cases h2 with
 |so d=>exact⟨_,h1,d⟩
theorem xO{ls:List Nat}{is:List Nat}:∀{ws:List RV}{us:List AV}{ρ:RL}{ρ':Loc}{k:RL->Prop},DL ls ws us->Rl ls ρ ρ'->uG is ws ρ k->(∀ρ1 ρ1',dC is us ρ'=some ρ1'->Rl ls ρ1 ρ1'->is.length=us.length->k ρ1->P)->P:=by
 induction is with
 |nil=>exact λ{ws us ρ ρ' k} d r h K=>(by
   cases d with
   |nil=>exact K _ _ rfl r rfl h
   |cons=>exact h.elim)
 |cons i is ih=>exact λ{ws us ρ ρ' k} d r h K=>(by
   cases d with
   |nil=>exact h.elim
   |cons da ds=>exact iT h λb hn h=>ih ds (bq.set r (.so da)) h λρ1 ρ1' e r' hl q=>K ρ1 ρ1' ((if_pos (bq.len r▸zb hn)).trans e) r' (congrArg de hl) q)
theorem Uh{ls:List Nat}{vs:RS}{us:List AV}(d:DS ls vs us):∀{k:List RV->Prop},YD vs k->(∀ws,DL ls ws us->k ws->P)->P:=by
 induction d with
 |nil=>exact λh K=>K [] .nil h
 |raw=>exact λh _=>h.elim
 |cons e _ ih=>exact λh K=>ih h λws d h=>K _ (.cons e d) h
theorem xK{ls:List Nat}{ws:List RV}{us:List AV}(d:DL ls ws us):DS ls (ws.foldr .cons .nil) us:=by
 induction d with
 |nil=>exact .nil
 |cons e _ ih=>exact .cons e ih
theorem ZW{ls:List Nat}{ws:List RV}{us:List AV}{ρ:RL}{ρ':Loc}(r:Rl ls ρ ρ')(d:DL ls ws us):Rl ls (ρ++ws.map some) (ρ'++us.map some):=r.append (d.map λ_ _=>.so)
theorem Ib{es:List (AV×AV)}:∀{σ:Hp}{T:List Fa},cC σ T G->Wp (fS (es.map λe=>.pair e.1 e.2) σ) (λvs σ'=>∃X:List (Nat×List AV),vs=X.map (λg=>.ref g.1)/\X.map (·.2)=es.map (λe=>[e.1,e.2])/\cC σ' (X.map (λp=>.t p.1 p.2)++T) G) λ_ _=>False:=by
 induction es with
 |nil=>exact λS=>⟨[],rfl,rfl,S⟩
 |cons e es ih=>exact λ{σ T} S=>dg (m:=nz [e.1,e.2]) (by
   unfold nz
   rw[if_pos (show([e.1,e.2]:List AV).length<=lim from(by decide:2<=lim))]
   have z:=S.new (b:=.tup [e.1,e.2])
   have z:=(cC.drop (U:=[.o σ.length (.tup [e.1,e.2])]) z).U4 (f:=.t σ.length [e.1,e.2]) trivial (z.h (.o σ.length (.tup [e.1,e.2])) (.head _))
   exact dg ((ih z).mono (λvs σ' h=>h.elim λX h=>⟨(σ.length,[e.1,e.2])::X,congrArg (AV.ref σ.length::·) h.1,congrArg (_::·) h.2.1,h.2.2.perm eY⟩) λ_ _ h=>h))
theorem iB{vs:List AV}:fS (vs.map .one) σ=.ok vs σ:=by
 induction vs with
 |nil=>rfl
 |cons v r ih=>show MM.bind (fS (r.map .one)) _ σ=_;unfold MM.bind;rw[ih];rfl
theorem JI.bind{α β:Type}{R:List Nat->β->α->Prop}{m:MM α}{f:α->MM HI}{Q:β->Cs->Prop}{K:KI}(h:J R m L Q ff)(k:∀b a L',Pre (locs L) (locs L')->R (locs L') b a->Q b L'->JI (f a) L' K):JI (m>>=f) L K:=λF G σ S=>
 dg ((h F G σ S).mono (λa σ' R=>R.e λb L' r p s q=>(k b a L' p r q F G σ' s).mono (λ_ _ h=>h.casesOn λdh lk L2 p2 s2 r o q=>⟨dh,lk,L2,p.trans p2,s2,r,o,q⟩) λ_ _ h=>h) λ_ _ h=>h.e λ_ _ _ _ _ q=>q.elim)
end
section
variable{C:Fn->List AV->MM AV}{I:Fn->List RV->Cs->PE->PE->Prop}
theorem N8{x:AV}{p P:Prop}(h:FD x p)(K:x=.none->p->P):P:=by
 cases x with
 |none=>exact K rfl h
 |_=>exact h.elim
theorem ON(S:Q7 C I){f:Fn}{c:bF}{as:List RV}{args:List AV}{L:Cs}{Q E:PE}(r:gG (locs L) as=some args)(h:kU (.inst c []) L λo L=>I f (o::as) L (λw L=>qy w λx=>FD x (Q o L)) ff):J Rv (λσ:Hp=>noneOnly (C f (.ref σ.length::args)) (.ref σ.length) (σ++[.inst c []]):MM AV) L Q E:=λF G σ H=>by
 have p:Pre (locs L) (locs (L++[(σ.length,RO.inst c [])])):=fk▸.app
 have z:=S _ (.r (0+L.length)::as) _ _ _ (.ref σ.length::args) (bJ y8 (bJ (p.gG r) rfl)) (Dh (h σ.length)) F G _ (H.Yo (.inst .nil))
 show Wp (noneOnly (C f (.ref σ.length::args)) (.ref σ.length) (σ++[.inst c []])) _ _
 unfold noneOnly
 revert z
 cases C f (.ref σ.length::args) (σ++[.inst c []]) with
 |ok v σ'=>exact λz=>z.e λw L' d p' s q=>iS q d λq=>N8 q λe q=>(by subst e;exact⟨_,L',p'.den y8,p.trans p',s,q⟩)
 |err=>exact λz=>z.e λ_ _ _ _ _ q=>q.elim
 |bad=>exact λz=>z.elim
theorem Oe(S:Q7 C I){c:bF}{as:List RV}{args:List AV}{L:Cs}{Q E:PE}(r:gG (locs L) as=some args)(h:WC I c as L Q):J Rv (PG C c args) L Q E:=by
 cases c with
 |iF=>exact h.elim
 |jY=>exact h.elim
 |thrown=>exact JW h (DL.of r) λw t x y e d d' h=>qi h d λs e1 h=>qi h d' λs' e2 h=>e▸e1▸e2▸oD (.inst (.cons rfl (.cons rfl (.cons rfl (.cons rfl (.cons rfl .nil)))))) h
 |leftOut=>exact tA h (DL.of r) λw x e d h=>qi h d λs e1 h=>e▸e1▸oD (.inst (.cons rfl .nil)) h
 |_=>exact ON S r h
theorem JD(S:Q7 C I){f:RV}{g:AV}{as:List RV}{args:List AV}{L:Cs}{Q E:PE}(r':den (locs L) f=some g)(r:gG (locs L) as=some args)(h:QN I f as L Q E):J Rv (FY C g args) L Q E:=
 iS h r' λh=>by
  cases g with
  |fn f=>exact S _ _ _ _ _ _ r h
  |cls c=>exact Oe S r h
  |bi b=>exact UY r h
  |_=>exact h.elim
theorem Sp{ls:List Nat}{es:RD}{us:List (AV×AV)}{p P:Prop}(h:Tc es p)(d:DD ls es us)(K:us=[]->p->P):P:=by
 cases d with
 |nil=>exact K rfl h
 |@raw us=>cases us with
  |nil=>exact K rfl h
  |cons=>exact h.elim
 |cons=>exact h.elim
theorem KY{L:Cs}{Q X:PE}{w:RV}{a:AV}(d:den (locs L) w=some a)(h:atC L w λ_ _ o=>z8 (iV o) (λvs=>rS (decide (tX vs<=lim)) (kU (.list vs) L Q)) mZ (λes=>Tc es (kU (.list .nil) L Q)) Jj):J Rv (QS a) L Q X:=λF G σ S=>jI h d λi l o e _ n h=>S.ob n h
 (λfs us hs d h=>cZ h λhl h=>e▸bD hs (iz (d.len▸of_decide_eq_true hl) d h F G σ S)) (λ_ _ _ _=>nx)
 (λfs us hs d h=>Sp h d λeu h=>e▸bD hs (dE eu (iz (aV _) .nil h F G σ S))) λ_ _ _ _ _=>Jk
variable(C)(I) in
noncomputable def EN(e:E):Prop:=∀ρ ρ' L Q X,Rl (locs L) ρ ρ'->wE I e ρ L Q X->J Rv (ev C e ρ') L Q X
variable(C)(I) in
structure YM(es:Es):Prop where
 s:∀ρ ρ' L Q X,Rl (locs L) ρ ρ'->wEs I es ρ L Q X->J Rn (GA C es ρ') L Q X
 a:∀ρ ρ' L Q X,Rl (locs L) ρ ρ'->T6 I es ρ L Q X->J Rv (Ck C es ρ') L Q X
 o:∀ρ ρ' L Q X,Rl (locs L) ρ ρ'->Zu I es ρ L Q X->J Rv (Lg C es ρ') L Q X
variable(C)(I) in
noncomputable def YQ(it:It):Prop:=match it with
 |.plain e=>EN C I e
 |.dU e=>EN C I e
 |.kj a b=>EN C I a/\EN C I b
 |.enum e=>EN C I e
 |.items e=>EN C I e
theorem EN.bd{e:E}{α β:Type}{R:List Nat->β->α->Prop}{f:AV->MM α}{ρ:RL}{ρ':Loc}{L:Cs}{K:PE}{Q:β->Cs->Prop}{X:PE}(h:EN C I e)(r:Rl (locs L) ρ ρ')(w:wE I e ρ L K X)(k:∀b a L',Pre (locs L) (locs L')->Rl (locs L') ρ ρ'->den (locs L') b=some a->K b L'->J R (f a) L' Q X):J R (ev C e ρ'>>=f) L Q X:=(h _ _ _ _ _ r w).bind λb a L' p d h=>k b a L' p (p.rl r) d h
theorem Nu{it:It}(h:YQ C I it){ρ:RL}{ρ':Loc}{L:Cs}{K:KI}(r:Rl (locs L) ρ ρ')(w:YL I it ρ L K):JI (Mg C it ρ') L K:=by
 cases it with
 |plain e=>exact JI.bind (h _ _ _ _ _ r w) λw a L p d h=>Qj d h
 |dU e=>exact JI.bind (h _ _ _ _ _ r w) λw a L p d h=>Gm (w:=.v (.int 0)) rfl d h
 |kj a b=>exact JI.bind (h.1 _ _ _ _ _ r w) λw _ L p d w=>JI.bind (h.2 _ _ _ _ _ (p.rl r) w) λw' a' L p' d' h=>Gm (p'.den d) d' h
 |enum e=>exact JI.bind (h _ _ _ _ _ r w) λw a L p d h=>KO d h
 |items e=>exact w.elim
theorem Ic{it:It}(h:YQ C I it):EN C I (.listOf it):=λρ ρ' L Q X r w=>by
 cases it with
 |plain e=>exact(qF (h _ _ _ _ _ r w)).bind λw a L p d h=>KY d h
 |dU e=>exact(qF (h _ _ _ _ _ r w)).bind λw a L p d h=>pJ h d λn e h=>cZ h λhn h=>λF G σ S=>(by
   subst e
   have e:((iK ((n:Int) - 0).toNat).map λ(k:Nat)=>Item.one (.int (0+(k:Int))))=((iK n).map λ(k:Nat)=>AV.int (k:Int)).map .one:=by
    rw[Int.sub_zero,tL,bU]
    exact eT λk _=>congrArg (λz=>Item.one (.int z)) (Int.zero_add _)
   refine dg (dE ⟨by decide,by decide,cD.mpr (of_decide_eq_true hn),cE (by decide) (bI n)⟩ (dg ?_))
   show Wp (fS ((iK ((n:Int) - 0).toNat).map λ(k:Nat)=>Item.one (.int (0+(k:Int)))) σ) _ _
   rw[e,iB]
   exact iz (by rw[aj,fN];exact of_decide_eq_true hn) .raw h F G σ S)
 |items e=>exact(qF (h _ _ _ _ _ r w)).bind λw a L p d h=>λF G σ S=>jI h d λi l o e _ n h=>S.dict n h λfs us hs d h=>GW h d λh=>cZ h λhl h=>e▸dg (bD hs (dg ((Ib S).mono (λvs σ' z=>z.elim λX z=>by
   have h:=Dh (h X z.2.1)
   have p:Pre (locs L) (locs (L++[(0,.gh X)])):=fk▸.app
   have s:cC σ' (at_ (locs (L++[(0,.gh X)])) (L++[(0,.gh X)])++F) G:=by
    rw[yW,yD p λf m=>z.2.2.h f (a8 _ (aZ _ m)),ay]
    show cC σ' (at_ (locs L) L++((X.map (λp=>Fa.t p.1 p.2)++[])++F)) G
    rw[bf]
    exact z.2.2.swap
   have hl':(X.map λg=>AV.ref g.1).length<=lim:=by
    have e:=congrArg i6 z.2.1
    rw[aj,aj] at e
    rw[aj,e];exact of_decide_eq_true hl
   rw[z.1]
   exact(iz hl' .raw h F G σ' s).mono (λ_ _ h=>h.pre p) λ_ _ h=>h.pre p) λ_ _ h=>h.elim)))
 |_=>exact w.elim
end
section
variable{C:Fn->List AV->MM AV}{I:Fn->List RV->Cs->PE->PE->Prop}(S:Q7 C I)
include S
theorem DZ{elt cond:E}{n:Nat}{it:It}(h1:EN C I elt)(h2:YQ C I it)(h3:EN C I cond):EN C I (.comp elt n it cond):=λρ ρ' L Q X r w F G σ H=>dg (ux ((Nu h2 r w F G σ H).mono (λits' σ1 z=>z.casesOn λdh lk L1 p1 s1 ri lo w=>dg (ux (lo.start s1 λF' G' Fk e0 s2 back=>((OM (λws us L2 Q hp d w=>(h3.bd (ZW ((p1.trans (e0▸hp)).rl r) (DL.of d)) (zh (FX w)) λw a L3 p r d' h=>(u6 d' h).bind λb h=>(by
  cases b with
  |true=>exact h1.bd r h λw a L4 p r d' h=>J.Cr (b:=some w) (Ro.so d') h
  |false=>exact J.Cr (b:=none) Ro.no h))) Fk s2 (e0.symm▸ri) w).mono (λus σ2 z=>z.e λs L2 d p2 s w=>(back σ2 L2 _ (e0▸p2) s w).elim λL3 z=>cZ z.2.2 λhl w=>
  have p:Pre (locs L) (locs L3):=z.1.symm▸p1.trans (e0▸p2)
  (iz (DS.len d▸of_decide_eq_true hl) (z.1.symm▸d) w F G σ2 z.2.1).mono (λ_ _ h=>h.pre p) λ_ _ h=>h.pre p) λ_ _ h=>h.e λ_ _ _ _ _ q=>q.elim)))) λ_ _ h=>h.elim))
theorem DX:YM C I .nil:=⟨λ_ _ _ _ _ _ h=>.Cr (R:=Rn) (b:=[]) rfl h,λ_ _ _ _ _ _ h=>h.elim,λ_ _ _ _ _ _ h=>h.elim⟩
theorem zi{e:E}{es:Es}(h1:EN C I e)(h2:YM C I es):YM C I (.cons e es):=⟨λ_ _ _ _ _ r h=>h1.bd r h λw a L p r d h=>(h2.s _ _ _ _ _ r h).bind λws us L p' d' h=>.Cr (b:=w::ws) (bJ (p'.den d) (bJ d' rfl)) h,
 λ_ _ _ _ _ r h=>(by
  cases es with
  |nil=>exact h1.bd r h λw a L p r d h=>.Cr (b:=w) d h
  |cons=>exact h1.bd r h λw a L p r d h=>(u6 d h).bind λb=>g4 b (λh=>.Cr (b:=w) d h) λh=>h2.a _ _ _ _ _ r h),
 λ_ _ _ _ _ r h=>(by
  cases es with
  |nil=>exact h1.bd r h λw a L p r d h=>.Cr (b:=w) d h
  |cons=>exact h1.bd r h λw a L p r d h=>(u6 d h).bind λb=>g4 b (λh=>h2.o _ _ _ _ _ r h) λh=>.Cr (b:=w) d h)⟩
theorem gJ(e:E):EN C I e:=E.rec (motive_1:=EN C I) (motive_2:=YM C I) (motive_3:=YQ C I)
 (λ_ _ _ _ _ _ h=>pv .none h) (λb _ _ _ _ _ _ h=>pv (.bool b) h) (λb _ _ _ _ _ _ h=>pv (.int b) h) (λb _ _ _ _ _ _ h=>pv (.str b) h)
 (λ_ _ _ _ _ _ r h=>e9 h λo e h=>e9 h λw e' h=>(r.dz (e'▸e)).elim λa z=>λ_ _ _ S=>g9 z.1 (t8 (b:=w) z.2 h S))
 (λv _ _ _ _ _ _ h=>pv v h)
 (λ_ _ h1 _ _ _ _ _ r h=>h1.bd r h λ_ _ _ _ _ d h=>Bt d h)
 (λ_ _ h1 h2 _ _ _ _ _ r h=>h1.bd r h λ_ _ _ _ r d h=>h2.bd r h λ_ _ _ p _ d' h=>KP (p.den d) d' h)
 (λ_ _ _ _ h1 h2 h3 h4 _ _ _ _ _ r h=>h1.bd r h λ_ _ _ _ r d h=>h2.bd r h λ_ _ _ p1 r d1 h=>h3.bd r h λ_ _ _ p2 r d2 h=>h4.bd r h λ_ _ _ p3 _ d3 h=>Ol ((p1.trans (p2.trans p3)).den d) ((p2.trans p3).den d1) (p3.den d2) d3 h)
 (λ_ _ h1 h2 _ _ _ _ _ r h=>h1.bd r h λ_ _ _ _ r d h=>(h2.s _ _ _ _ _ r h).bind λ_ _ _ p d' h=>JD S (p.den d) d' h)
 (λ_ _ _ h1 h2 _ _ _ _ _ r h=>h1.bd r h λ_ _ _ _ r d h=>(Nw d h).bind λ_ h=>(h2.s _ _ _ _ _ r h).bind λ_ _ _ p d' h=>SJ S (p.den d) d' h)
 (λ_ _ _ h1 h2 _ _ _ _ _ r h=>h1.bd r h λ_ _ _ _ r d h=>h2.bd r h λ_ _ _ p _ d' h=>Oh (p.den d) d' h)
 (λ_ h1 _ _ _ _ _ r h=>h1.bd r h λ_ _ _ _ _ d h=>iY h d λz e h=>e▸pv (.int (-z)) h)
 (λ_ h1 _ _ _ _ _ r h=>h1.bd r h λ_ _ _ _ _ d h=>(u6 d h).bind λb h=>pv (.bool (!b)) h)
 (λ_ _ _ h1 h2 _ _ _ _ _ r h=>h1.bd r h λ_ _ _ _ r d h=>h2.bd r h λ_ _ _ p _ d' h=>(yV (p.den d) d' h).bind λb h=>pv (.bool b) h)
 (λ_ _ _ _ _ h1 h2 h3 _ _ _ _ _ r h=>h1.bd r h λ_ _ _ _ r d h=>h2.bd r h λ_ _ _ p r d' h=>(yV (p.den d) d' h).bind λt=>g4 t (λh=>pv (.bool false) h) λh=>h3.bd r h λ_ _ _ p2 _ d2 h=>(yV (p2.den d') d2 h).bind λb h=>pv (.bool b) h)
 (λ_ h1 _ _ _ _ _ r h=>h1.a _ _ _ _ _ r h) (λ_ h1 _ _ _ _ _ r h=>h1.o _ _ _ _ _ r h)
 (λ_ _ _ h1 h2 h3 _ _ _ _ _ r h=>h1.bd r h λ_ _ _ _ r d h=>(u6 d h).bind λb=>g4 b (λh=>h3 _ _ _ _ _ r h) λh=>h2 _ _ _ _ _ r h)
 (λ_ h1 _ _ _ _ _ r h=>(h1.s _ _ _ _ _ r h).bind λ_ _ _ _ d h=>cZ h λhl h=>iz (bq.len (DL.of d)▸of_decide_eq_true hl) (xK (DL.of d)) h)
 (λ_ h1 _ _ _ _ _ r h=>(h1.s _ _ _ _ _ r h).bind λ_ _ _ _ d h=>cZ h λhl h=>Pe (bq.len (DL.of d)▸of_decide_eq_true hl) (xK (DL.of d)) h)
 (λ_ _ _ _ _ _ h=>oD (.dict .nil) h)
 (λ_ _ _ _ h1 h2 h3=>DZ S h1 h2 h3)
 (λ_ h1=>Ic h1)
 (DX S) (λ_ _ h1 h2=>zi S h1 h2)
 (λ_ h=>h) (λ_ h=>h) (λ_ _ h h'=>⟨h,h'⟩) (λ_ h=>h) (λ_ h=>h) e
theorem Uq(it:It){ρ:RL}{ρ':Loc}{L:Cs}{K:KI}(r:Rl (locs L) ρ ρ')(w:YL I it ρ L K):JI (Mg C it ρ') L K:=Nu (by
 cases it with
 |kj a b=>exact⟨gJ S a,gJ S b⟩
 |_=>exact gJ S _) r w
end
theorem zG{α:Type}{o:Option α}{a:α}{σ:Hp}{Q:α->Hp->Prop}{X:Nat->Hp->Prop}(h:o=some a)(q:Q a σ):Wp (mS o σ) Q X:=h▸q
theorem XO{o:RO}{k:bF->List RV->Prop}{P:Prop}(h:flC o k)(K:∀c fs,o=.fl c fs->k c fs->P):P:=by
 cases o with
 |fl c fs=>exact K c fs rfl h
 |_=>exact h.elim
theorem XJ{α:Type}{c:Prop}[Decidable c]{a b:MM α}{σ:Hp}{Q:α->Hp->Prop}{X:Nat->Hp->Prop}(h:c)(k:Wp (a σ) Q X):Wp ((if c then a else b:MM α) σ) Q X:=by rw[if_pos h];exact k
theorem Yh{α:Type}{c:Prop}[Decidable c]{a b:MM α}{σ:Hp}{Q:α->Hp->Prop}{X:Nat->Hp->Prop}(h:¬c)(k:Wp (b σ) Q X):Wp ((if c then a else b:MM α) σ) Q X:=by rw[if_neg h];exact k
section
variable{L:Cs}{Q:PF}{X:PE}{ρ:RL}{ρ':Loc}{w:RV}{a:AV}
theorem PN{P:Prop}{ls:List Nat}{i:Nat}(r:Rl ls ρ ρ')(d:den ls w=some a){k:RL->Prop}(h:lR ρ i (some w) k)(K:i<ρ'.length->Rl ls (ρ.set i (some w)) (ρ'.set i (some a))->k (ρ.set i (some w))->P):P:=
 iT h λ_ n h=>K (bq.len r▸zb n) (bq.set r (.so d)) h
theorem oz(r:Rl (locs L) ρ ρ')(q:Q (.next ρ) L):J Rf (pure (.next ρ'):MM pM) L Q X:=.Cr (.next r) q
theorem JL(r:den (locs L) w=some a)(q:Q (.ret w) L):J Rf (pure (.ret a):MM pM) L Q X:=.Cr (.ret r) q
noncomputable def Rr(ls:List Nat)(ρ:RL)(ρ':Loc):Prop:=Rl ls ρ ρ'
theorem G5{i:Nat}(r:Rl (locs L) ρ ρ')(d:den (locs L) w=some a)(h:lR ρ i (some w) λρ=>Q (.next ρ) L):J Rr (mS (dC [i] [a] ρ')) L (λρ L=>Q (.next ρ) L) X:=λ_ _ _ S=>PN r d h λh1 h2 h3=>zG (if_pos h1) (t8 (R:=Rr) (Q:=λρ L=>Q (.next ρ) L) h2 h3 S)
theorem BQ{is:List Nat}{vs:RS}{us:List AV}{σ:Hp}{F:List Fa}{G:List (Nat×aF)}(r:Rl (locs L) ρ ρ')(d:DS (locs L) vs us)(h:YD vs λws=>uG is ws ρ λρ=>Q (.next ρ) L)(S:cC σ (at_ (locs L) L++F) G):Wp (kq (us.length=is.length) (mS (dC is us ρ')) σ) (Res Rr L F G λρ L=>Q (.next ρ) L) (Res Re L F G X):=
 Uh d h λws d h=>xO d r h λρ1 ρ1' e r hl h=>dE hl.symm (zG e (t8 (R:=Rr) (Q:=λρ L=>Q (.next ρ) L) r h S))
end
section
variable{C:Fn->List AV->MM AV}{I:Fn->List RV->Cs->PE->PE->Prop}(S:Q7 C I)
variable(C)(I) in
noncomputable def PS(s:St):Prop:=∀ρ ρ' L Q X,Rl (locs L) ρ ρ'->wS I s ρ L Q X->J Rf (ex C s ρ') L Q X
variable(C)(I) in
noncomputable def Zz(s:dH):Prop:=∀ρ ρ' L Q X,Rl (locs L) ρ ρ'->wSs I s ρ L Q X->J Rf (Cy C s ρ') L Q X
theorem Ju.bind{L:Cs}{m:MM Unit}{q:Cs->Prop}{X:PE}{α β:Type}{R:List Nat->β->α->Prop}{f:Unit->MM α}{Q:β->Cs->Prop}(h:J Ru m L (λ_:Unit=>q) X)(k:∀L',Pre (locs L) (locs L')->q L'->J R (f ()) L' Q X):J R (m>>=f) L Q X:=h.bind λ_ _ L' p _ q=>k L' p q
include S
theorem vU(t:Ov)(e:E):PS C I (.assign t e):=λρ ρ' L Q X r h=>by
 have fin:∀{L:Cs}{m:MM Loc},J Rr m L (λρ L=>Q (.next ρ) L) X->J Rf (m>>=λρ=>pure (.next ρ)) L Q X:=λh=>h.bind λ_ _ _ _ r h=>oz r h
 cases t with
 |loc i=>exact(gJ S e).bd r h λw a L p r d h=>fin (G5 r d h)
 |attr o x=>exact(gJ S e).bd r h λw a L p r d h=>fin ((gJ S o).bd r h λq b L p r d' h=>Ju.bind (Br d' (p.den d) h) λL p h=>J.Cr (b:=ρ) (p.rl r) h)
 |sub o i=>exact(gJ S e).bd r h λw a L p r d h=>fin ((gJ S o).bd r h λq b L p r d' h=>(gJ S i).bd r h λq b L p' r d'' h=>Ju.bind (L5 (p'.den d') d'' ((p.trans p').den d) h) λL p h=>J.Cr (b:=ρ) (p.rl r) h)
 |tup is=>exact(gJ S e).bd r h λw a L p r d h=>fin λF G σ S=>jI h d λi l o e _ n h=>S.ob n h (λvs us hs d h=>e▸bD hs (BQ r d h S)) (λvs us hs d h=>e▸bD hs (BQ r d h S)) (λ_ _ _ _=>nx) λ_ _ _ _ _=>Jk
theorem El(i:Nat)(op:Op)(e:E):PS C I (.ze i op e):=λρ ρ' L Q X r h=>e9 h λo e1 h=>e9 h λw e2 h=>(r.dz (e2▸e1)).elim λa z=>
 (show J Rv (ev C (.loc i) ρ') L (λw' L'=>w'=w/\L'=L) X from λF G σ S=>g9 z.1 (t8 (b:=w) (Q:=λw' L'=>w'=w/\L'=L) z.2 ⟨rfl,rfl⟩ S)).bind λw' a' L' _ d' q=>by
  obtain⟨rfl,rfl⟩:=q
  exact(gJ S e).bd r h λv b L p r dv h=>cZ h λhc h=>iY h (p.den d') λx ex h=>iY h dv λy ey h=>ex▸ey▸λF G σ S=>dg (dE (of_decide_eq_true hc) (((G5 (w:=.v (.int (x+y))) r rfl h).bind λ_ _ _ _ r h=>oz r h) F G σ S))
theorem CX(o:E)(x:At)(op:Op)(e:E):PS C I (.B4 o x op e):=λρ ρ' L Q X r h=>(gJ S o).bd r h λw a L p r d h=>(Bt d h).bind λv b L p1 d1 h=>(gJ S e).bd (p1.rl r) h λu c L p2 r d2 h=>cZ h λhc h=>iY h (p2.den d1) λn e1 h=>iY h d2 λm e2 h=>e1▸e2▸λF G σ S=>
 dg (dE (of_decide_eq_true hc) (Ju.bind (Br (w:=.v (.int (n+m))) ((p1.trans p2).den d) rfl h) (λL p3 h=>oz (p3.rl r) h) F G σ S))
theorem JK{is:List Nat}{it:It}{b:dH}(h1:Zz C I b):PS C I (.for is it b):=λρ ρ' L Q X r h F G σ H=>dg (ux ((Uq S it r h F G σ H).mono (λits' σ1 z=>z.casesOn λdh lk L1 p1 s1 ri lo w=>lo.start s1 λF' G' Fk e0 s2 back=>
 ((Qg (λws us ρ ρ' L2 Q d r h=>xO (DL.of d) r h λρ1 ρ1' e r _ h=>λF G σ H=>dg (zG e (h1 _ _ _ _ _ r h F G σ H))) Fk s2 (e0.symm▸ri) ((e0▸p1:Pre (locs L) (locs (xo lk L1))).rl r) w).mono (λf σ2 z=>z.e λf' L2 d p2 s w=>(back σ2 L2 _ (e0▸p2) s w).elim λL3 z=>⟨f',L3,z.1.symm▸d,z.1.symm▸p1.trans (e0▸p2),z.2.1,z.2.2⟩)
  λf σ2 z=>z.e λf' L2 d p2 s w=>(back σ2 L2 _ (e0▸p2) s w).elim λL3 z=>⟨f',L3,(z.1.symm▸(d:den (locs L2) f'=_):den (locs L3) f'=_),z.1.symm▸p1.trans (e0▸p2),z.2.1,z.2.2⟩)) λ_ _ h=>h.elim))
theorem zL(e:E):PS C I (.raise e):=λρ ρ' L Q X r h=>(gJ S e).bd r h λw a L p r d h=>λF G σ H=>jI h d λi l o e ew n h=>H.wr n (j4 h) λb db hs wr=>OD db h (λ_ _ _ _ _=>nx) (λ_ _ _ _ _=>nx) (λ_ _ _ _ _=>nx) λc vs us eb dv _ h=>cZ h λhc h=>iT h λ_ _ h=>
 e▸bD (o:=.inst c us) (eb▸hs) (dE hc ⟨.r i,_,(eQ (o':=.fl c vs) n).symm▸(ew▸e▸d:den (locs L) (.r i)=some (.ref l)),(eQ (o':=.fl c vs) n).symm▸.refl,wr (.fl c vs) (.iG c us) (.fl dv) (λ_ z=>aF.noConfusion (eb.symm.trans z)) (λc' fs hx z=>by cases eb.symm.trans z;exact(aT (hx.symm.trans hc)).elim),h⟩)
theorem J4(k:Nat)(e:E)(c1:bF)(i:Nat)(x:At)(c2:bF)(t:Mine.Internal.S):PS C I (.try k e c1 i x c2 t):=λρ ρ' L Q X r h F G σ H=>cZ h λhc h=>by
 have hc:=of_decide_eq_true hc
 have hl:=bq.len r
 show Wp (Tf (ev C e ρ') ρ' k c1 i x c2 t σ) _ _
 unfold Tf
 refine dE ⟨hc.1,hl▸hc.2.1,hl▸hc.2.2.1,hc.2.2.2⟩ ?_
 have z:=gJ S e ρ ρ' L _ _ r h F G σ H
 revert z
 cases ev C e ρ' σ with
 |ok v σ'=>exact λz=>z.e λw L' d p s h=>PN (p.rl r) d h λ_ h2 h3=>⟨_,L',.next h2,p,s,h3⟩
 |bad=>exact λz=>z.elim
 |err y σ'=>exact λz=>z.e λw L' d p s h=>jI h d λj l o e _ n h=>XO h λc fs eo h=>(by
   cases e
   subst eo
   exact C1 (f:=Fa.o y) (x:=eH (locs L') (.fl c fs)) (λ_ h=>h) (s.cell n) λb eb hs=>bh eb λus dv eb=>bD (o:=.iG c us) (ae eb▸hs) (B5 h (λe1 h=>XJ (of_decide_eq_true e1) (e9 h λn hn h=>e9 h λw hw h=>((DL.of dv).dz hw).elim λx z=>g9 hn (g9 z.1 (PN (p.rl r) z.2 h λ_ h2 h3=>iT h3 λ_ _ h=>⟨_,L',.next (bq.set h2 (.no _)),p,s,h⟩))))
    λe1 h=>Yh (of_decide_eq_false e1) (cZ h λe2 h=>PN (p.rl r) (w:=.v (.str t)) (a:=.str t) rfl h λ_ h2 h3=>dE (of_decide_eq_true e2) ⟨_,L',.next h2,p,s,h3⟩)))
theorem Ld(s:dH):Zz C I s:=dH.rec (motive_1:=PS C I) (motive_2:=Zz C I)
 (λe _ _ _ _ _ r h=>(gJ S e).bd r h λ_ _ _ _ r _ h=>oz r h)
 (λt e=>vU S t e) (λi op e=>El S i op e) (λo x op e=>CX S o x op e)
 (λe _ _ _ _ _ r h=>(gJ S e).bd r h λ_ _ _ _ _ d h=>JL d h)
 (λc _ _ h1 h2 _ _ _ _ _ r h=>(gJ S c).bd r h λ_ _ _ _ r d h=>(u6 d h).bind λb=>g4 b (λh=>h2 _ _ _ _ _ r h) λh=>h1 _ _ _ _ _ r h)
 (λc b h1 _ _ _ _ _ r h=>qF (UA (body:=UX (wE I c) (wSs I b)) (λρ ρ' L Q r h=>(gJ S c).bd r h λ_ _ _ _ r d h=>(u6 d h).bind λt=>g4 t (λh=>J.Cr (b:=none) .no h) λh=>(h1 _ _ _ _ _ r h).bind λf g L p d h=>J.Cr (b:=some f) (.so d) h) r h))
 (λ_ _ _ h1=>JK S h1) (λe=>zL S e) (λk e c1 i x c2 t=>J4 S k e c1 i x c2 t)
 (λ_ _ _ _ _ r h=>oz r h) (λ_ _ _ _ _ _ h=>h.elim)
 (λ_ _ _ _ _ r h=>oz r h)
 (λ_ ss h1 h2 _ _ _ Q X r h=>(h1 _ _ _ _ _ r h).bind λf g L p d h=>Rf.e (M:=λf g=>(match f with|.next ρ=>wSs I ss ρ L Q X|.ret w=>Q (.ret w) L)->J Rf (match g with|.next ρ'=>Cy C ss ρ'|.ret v=>pure (.ret v):MM pM) L Q X) d (λ_ _ r h=>h2 _ _ _ _ _ r h) (λ_ _ d h=>JL d h) h) s
end
section
variable{σ:Hp}{L L' L₀:Cs}{F:List Fa}{G:List (Nat×aF)}{Q:PE}{w:RV}{P:Prop}
theorem Fin.e(h:Fin L₀ Q w L')(S:cC σ (at_ (locs L') L'++F) G)(K:∀w₁ L₁,den (locs L') w=den (locs L₁) w₁->Pre (locs L₀) (locs L₁)->cC σ (at_ (locs L₁) L₁++F) G->Q w₁ L₁->P):P:=h.casesOn λη w₁ L₁ q e=>by
 have e1:=bY e
 have e2:=bY e1.2
 exact K w₁ L₁ e2.1 (e2.2▸sI) (cC.drop (S:=(J6 S e1.1).swap)) q
theorem Bv.e(h:Bv L₀ Q w L')(S:cC σ (at_ (locs L') L'++F) G)(K:∀w₁ L₁,den (locs L') w=den (locs L₁) w₁->Pre (locs L₀) (locs L₁)->cC σ (at_ (locs L₁) L₁++F) G->Q w₁ L₁->P):P:=h.casesOn λη w₁ L₁ q e=>by
 have e1:=bY e
 have e2:=bY e1.2
 exact K w₁ L₁ e2.1 (e2.2▸sI) (tell S e1.1) q
end
section
variable{ηx ls ls':List Nat}
noncomputable abbrev Xe(ηx ls ls':List Nat):Prop:=bq (λi l=>dz ls' i=some l) ηx ls
theorem G0{w:RV}{k:RV->Prop}{P:Prop}(h:WK ηx w k)(K:∀w',(∀ls ls' a,Xe ηx ls ls'->den ls w=some a->den ls' w'=some a)->k w'->P):P:=by
 cases w with
 |v a=>exact K (.v a) (λ_ _ _ _ d=>d) h
 |r i=>exact e9 h λj e h=>K (.r j) (λls ls' a R d=>K6 d λl el ea=>(R.get (gz.symm.trans e)).elim λl' z=>ea▸sZ (z.2.trans (z.1.symm.trans (gz.symm.trans el)))) h
noncomputable abbrev wH(ηx:List Nat)(d d':List Nat->Prop):Prop:=∀ls ls',Xe ηx ls ls'->d ls->d' ls'
theorem LV{P:Prop}{vs:List RV}:∀{k:List RV->Prop},Qa ηx vs k->(∀vs',(∀us,wH ηx (λls=>DL ls vs us) λls=>DL ls vs' us)->k vs'->P)->P:=by
 induction vs with
 |nil=>exact λh K=>K [] (λ_ _ _ _ d=>by cases d;exact .nil) h
 |cons w r ih=>exact λh K=>G0 h λw' e h=>ih h λr' e' h=>K (w'::r') (λ_ _ _ R d=>by cases d with|cons d1 d2=>exact .cons (e _ _ _ R d1) (e' _ _ _ R d2)) h
theorem Q1{P:Prop}{vs:RS}:∀{k:RS->Prop},Yw ηx vs k->(∀vs',(∀us,wH ηx (λls=>DS ls vs us) λls=>DS ls vs' us)->k vs'->P)->P:=by
 induction vs with
 |nil=>exact λh K=>K .nil (λ_ _ _ _ d=>by cases d;exact .nil) h
 |raw us=>exact λh K=>K (.raw us) (λ_ _ _ _ d=>by cases d;exact .raw) h
 |cons w r ih=>exact λh K=>G0 h λw' e h=>ih h λr' e' h=>K (.cons w' r') (λ_ _ _ R d=>by cases d with|cons d1 d2=>exact .cons (e _ _ _ R d1) (e' _ _ _ R d2)) h
theorem Wi{P:Prop}{vs:RD}:∀{k:RD->Prop},Y6 ηx vs k->(∀vs',(∀us,wH ηx (λls=>DD ls vs us) λls=>DD ls vs' us)->k vs'->P)->P:=by
 induction vs with
 |nil=>exact λh K=>K .nil (λ_ _ _ _ d=>by cases d;exact .nil) h
 |raw us=>exact λh K=>K (.raw us) (λ_ _ _ _ d=>by cases d;exact .raw) h
 |cons x w r ih=>exact λh K=>G0 h λw' e h=>ih h λr' e' h=>K (.cons x w' r') (λ_ _ _ R d=>by cases d with|cons d1 d2=>exact .cons (e _ _ _ R d1) (e' _ _ _ R d2)) h
noncomputable def Uo(ηx:List Nat)(o o':RO):Prop:=∀ls ls' l,Xe ηx ls ls'->Vj (vw ls (l,o))->vw ls' (l,o')=vw ls (l,o)
theorem Uo.of{o o':RO}{f:Nat->Option aF->VW}(e:∀ls l,vw ls (l,o)=f l (eH ls o))(e':∀ls l,vw ls (l,o')=f l (eH ls o'))(hn:∀l,¬Vj (f l none))(d:∀b,wH ηx (λls=>eH ls o=some b) λls=>eH ls o'=some b):Uo ηx o o':=λls ls' l R h=>by
 rw[e] at h
 rw[e,e']
 exact Zq (F:=f l) (λz=>hn l (z▸h)) λb z=>d b ls ls' R z
theorem Xy{P:Prop}{o:RO}:∀{k:RO->Prop},ZJ ηx o k->(∀o',Uo ηx o o'->(∀b,wH ηx (λls=>eH ls o=some b) λls=>eH ls o'=some b)->k o'->P)->P:=by
 induction o with
 |ro o ih=>exact λh K=>ih h λo' _ e h=>K (.ro o') (.of (f:=VW.ro) (λ_ _=>rfl) (λ_ _=>rfl) (λ_=>id) e) e h
 |d6 B=>exact λh K=>K _ (λ_ _ _ _ _=>rfl) (λ_ _ _ _ d=>ns d) h
 |gh B=>exact λh K=>K _ (λ_ _ _ _ _=>rfl) (λ_ _ _ _ d=>ns d) h
 |gk B=>exact λh K=>K _ (λ_ _ _ _ _=>rfl) (λ_ _ _ _ d=>ns d) h
 |dict vs=>exact λh K=>Wi h λvs' e h=>have d:∀b,wH ηx (λls=>eH ls (.dict vs)=some b) λls=>eH ls (.dict vs')=some b:=λb ls ls' R d=>bh d λus du d=>bJ (e us ls ls' R (.of du)).to d;K (.dict vs') (.of (f:=VW.own) (λ_ _=>rfl) (λ_ _=>rfl) (λ_=>id) d) d h
 |list vs=>exact λh K=>Q1 h λvs' e h=>have d:∀b,wH ηx (λls=>eH ls (.list vs)=some b) λls=>eH ls (.list vs')=some b:=λb ls ls' R d=>bh d λus du d=>bJ (e us ls ls' R (.of du)).to d;K (.list vs') (.of (f:=VW.own) (λ_ _=>rfl) (λ_ _=>rfl) (λ_=>id) d) d h
 |tup vs=>exact λh K=>Q1 h λvs' e h=>have d:∀b,wH ηx (λls=>eH ls (.tup vs)=some b) λls=>eH ls (.tup vs')=some b:=λb ls ls' R d=>bh d λus du d=>bJ (e us ls ls' R (.of du)).to d;K (.tup vs') (.of (f:=VW.own) (λ_ _=>rfl) (λ_ _=>rfl) (λ_=>id) d) d h
 |inst c vs=>exact λh K=>LV h λvs' e h=>have d:∀b,wH ηx (λls=>eH ls (.inst c vs)=some b) λls=>eH ls (.inst c vs')=some b:=λb ls ls' R d=>bh d λus du d=>bJ (DL.to (e us ls ls' R (DL.of du))) d;K (.inst c vs') (.of (f:=VW.own) (λ_ _=>rfl) (λ_ _=>rfl) (λ_=>id) d) d h
 |fl c vs=>exact λh K=>LV h λvs' e h=>have d:∀b,wH ηx (λls=>eH ls (.fl c vs)=some b) λls=>eH ls (.fl c vs')=some b:=λb ls ls' R d=>bh d λus du d=>bJ (DL.to (e us ls ls' R (DL.of du))) d;K (.fl c vs') (.of (f:=VW.own) (λ_ _=>rfl) (λ_ _=>rfl) (λ_=>id) d) d h
theorem VU{P:Prop}{M:Cs}:∀{k:Cs->Prop},Zo ηx M k->(∀M',locs M'=locs M->(∀ls ls' σ,Xe ηx ls ls'->(∀f∈at_ ls M,Holds σ f)->at_ ls' M'=at_ ls M)->k M'->P)->P:=by
 induction M with
 |nil=>exact λh K=>K [] rfl (λ_ _ _ _ _=>rfl) h
 |cons c r ih=>exact λh K=>Xy h λo' e _ h=>ih h λM' el eM h=>K ((c.1,o')::M') (congrArg (c.1::·) el) (λls ls' σ R H=>by
   show mX (vw ls' (c.1,o'))++at_ ls' M'=mX (vw ls c)++at_ ls r
   rw[e ls ls' c.1 R (Np λf m=>H f (aZ _ m)),eM ls ls' σ R λf m=>H f (a8 _ m)]) h
noncomputable def JV:Cs->Nat->List Nat
 |[],_=>[]
 |_::M,N=>N::JV M (de N)
theorem Va{M:Cs}:∀{N:Nat}{k:List Nat->Prop},Us M N k->k (JV M N):=by
 induction M with
 |nil=>exact id
 |cons _ _ ih=>exact λ{N k} h=>ih h
theorem Uu{P:Prop}{η:List Nat}:∀{M:Cs}{N:Nat}{k:List Nat->Prop},TZ η M N k->(∀M₁ M₂,M=M₁++M₂->M₁.length=η.length->k (η++JV M₂ N)->P)->P:=by
 induction η with
 |nil=>exact λh K=>K [] _ rfl rfl (Va h)
 |cons i η ih=>exact λ{M N k} h K=>(by
   cases M with
   |nil=>exact h.elim
   |cons c M=>exact ih h λM₁ M₂ e el h=>K (c::M₁) M₂ (congrArg (c::·) e) (congrArg de el) h)
theorem OK{L:Cs}:∀{n:Nat}{k:Nat->Prop},KV L n k->k (L.length+n):=by
 induction L with
 |nil=>exact λ{n k} h=>(cj n).symm▸h
 |cons _ r ih=>exact λ{n k} h=>(bO r.length n).symm▸ih h
theorem Yg{P:Prop}{η:List Nat}:∀{M L:Cs}{k:Cs->Prop},Zf η M L k->(∀M₁ M₂ L',M=M₁++M₂->M₁.length=η.length->(bq (λi l=>dz (locs L) i=some l) η (locs M₁)->locs L'=locs L++locs M₂)->(∀ls,∃J,(at_ ls M++at_ ls L).Perm (J++at_ ls L'))->k L'->P)->P:=by
 induction η with
 |nil=>exact λ{M L k} h K=>K [] M (L++M) rfl rfl (λ_=>fk) (λls=>⟨[],by rw[yW];exact fJ⟩) (zh h)
 |cons i η ih=>exact λ{M L k} h K=>(by
   cases M with
   |nil=>exact h.elim
   |cons c M=>exact iT h λb n h=>ih h λM₁ M₂ L' e el eL eP h=>K (c::M₁) M₂ L' (congrArg (c::·) e) (congrArg de el) (λA=>by
      cases A with
      |cons a A=>
       have ec:locs (L.set i c)=locs L:=by
        obtain⟨c1,c2⟩:=c
        obtain rfl:c1=b.1:=ae (a.symm.trans (fm n))
        exact eQ (o:=b.2) n
       exact(eL (ec.symm▸A)).trans (ec▸rfl)) (λls=>(eP ls).elim λJ z=>⟨mX (vw ls b)++J,by
      have y:(mX (vw ls c)++at_ ls L).Perm (mX (vw ls b)++at_ ls (L.set i c)):=ue n
      rw[ay]
      refine rH ?_ (z.append_left _)
      refine(rH ?_ (y.append_left (at_ ls M))).trans Bm
      show(mX (vw ls c)++at_ ls M++at_ ls L).Perm _
      rw[ay]
      exact Bm⟩) h)
theorem Pu{M:Cs}:∀{L:List Nat},bq (λi l=>dz (L++locs M) i=some l) (JV M L.length) (locs M):=by
 induction M with
 |nil=>exact .nil
 |cons c M ih=>exact λ{L}=>.cons (gz.trans (cX (aK _)|>.trans (by rw[tN];rfl))) (by
   have z:=ih (L:=L++[c.1])
   rw[aw,ay] at z
   exact z)
noncomputable def VX:VW->Nat
 |.own l _=>l
 |.ro l _=>l
 |.d6 l _=>l
 |.gh l _=>l
 |.gk l _=>l
theorem Fv{c:Nat×RO}:VX (vw ls c)=c.1:=by obtain⟨l,o⟩:=c;cases o<;>rfl
theorem Lh{η:List Nat}:∀{L M:Cs}{ls ls' l₀:List Nat},locs L=l₀->sel ls η L=some (IP ls' M)->bq (λi l=>dz l₀ i=some l) η (locs M):=by
 induction η with
 |nil=>exact λ{L M ls ls' l₀} e h=>(by
   cases M with
   |nil=>exact .nil
   |cons=>exact(cP _ _ (ae h).symm).elim)
 |cons i η ih=>exact λ{L M ls ls' l₀} e h=>oM h λc n h=>bh h λs hs h=>(by
   cases M with
   |nil=>exact(cP _ _ (ae h)).elim
   |cons m M=>
    have z:=dJ (ae h)
    refine .cons (e▸(fm n).trans (congrArg some ((Fv (ls:=ls)).symm.trans ((congrArg VX z.1).trans Fv)))) (ih (L:=sN L i (c.1,.gh [])) ?_ (hs.trans (congrArg some z.2)))
    rw[vv]
    exact(eQ (o:=c.2) n).trans e)
theorem PX{L:Cs}:∀{i:Nat}{k:Cs->Prop},Gi L i k->k (sN L i (PH (dz L i),.gh [])):=by
 induction L with
 |nil=>exact id
 |cons a r ih=>exact λ{i k}=>b8 (motive:=λi=>Gi (a::r) i k->k (sN (a::r) i (PH (dz (a::r) i),.gh []))) i id λi h=>ih h
theorem So{η:List Nat}:∀{L:Cs}{k:Cs->Prop},Tw L η k->k (emp L η):=by
 induction η with
 |nil=>exact id
 |cons i η ih=>exact λh=>ih (PX (k:=λL=>Tw L η _) h)
theorem Cb{η:List Nat}:∀{L:Cs},locs (emp L η)=locs L:=by
 induction η with
 |nil=>exact rfl
 |cons i η ih=>exact λ{L}=>ih.trans (by
   cases n:dz L i with
   |none=>
    rw[vv,List.set_eq_of_length_le (bp λh=>(ja _ ((aO h).symm.trans (gz.symm.trans n))))]
   |some c=>rw[vv];exact eQ (o:=c.2) n)
end
section
variable{σ σ':Hp}{L L₀ M:Cs}{F:List Fa}{G:List (Nat×aF)}{η:List Nat}{Q:PE}{w:RV}{P:Prop}
theorem Qd{V:List Nat}{M:Cs}(A:bq (λi l=>dz (locs L) i=some l) V (locs M)):V.length=M.length:=A.len.trans (by rw[dT,aj])
theorem Gw(A:bq (λi l=>dz (locs L) i=some l) η (locs L₀))(p:Pre (locs L₀) (locs M))(S:cC σ (at_ (locs M) M++(at_ (locs L) (emp L η)++F)) G)(h:M6 η L Q w M)(K:∀w' L',(∀a,den (locs M) w=some a->den (locs L') w'=some a)->Pre (locs L) (locs L')->cC σ (at_ (locs L') L'++F) G->Q w' L'->P):P:=
 Uu (OK h) λM₁ M₂ eM el h=>VU h λM' elM ren h=>Yg (So h) λN₁ N₂ L' eN elN eL' perm h=>G0 h λw' dw h=>by
  have hN:locs N₁=locs L₀/\locs N₂=locs M₂:=by
   have z:locs N₁++locs N₂=locs M₁++locs M₂:=by rw[<-fk,<-fk,<-eN,<-eM];exact elM
   have y:=wj z (by rw[dT,dT,aj,aj,elN,el])
   refine⟨y.1.trans ?_,y.2⟩
   obtain⟨X,eX⟩:=p
   rw[eM,fk] at eX
   exact(wj eX (by rw[dT,dT,aj,aj,el];exact Qd A)).1
  have e:locs L'=locs L++locs M₂:=(eL' (by rw[Cb,hN.1];exact A)).trans (by rw[Cb,hN.2])
  have R:Xe (η++JV M₂ (L.length+0)) (locs M) (locs L'):=by
   rw[e,eM,fk,show locs M₁=locs L₀ from(wj (show locs M₁++locs M₂=locs N₁++locs N₂ by rw[<-fk,<-fk,<-eN,<-eM];exact elM.symm) (by rw[dT,dT,aj,aj,elN,el])).1.trans hN.1]
   refine(A.imp λ_ _ h=>zN h).append ?_
   have z:=Pu (M:=M₂) (L:=locs L)
   rw[dT,aj,<-dT] at z
   exact z
  refine K w' L' (λa d=>dw _ _ a R d) ⟨_,e⟩ ?_ h
  have eM':at_ (locs L') M'=at_ (locs M) M:=ren _ _ σ R λf m=>S.h f (aZ _ m)
  have eE:at_ (locs L') (emp L η)=at_ (locs L) (emp L η):=yD ⟨_,e⟩ λf m=>S.h f (a8 _ (aZ _ m))
  obtain⟨J,z⟩:=perm (locs L')
  rw[eM',eE] at z
  rw[<-ay] at S
  have S:=S.perm (z.append_right F)
  rw[ay] at S
  exact S.drop
theorem use{d:Nat}{f:Fn}{as as0:List RV}{E:PE}(η:List Nat)(h:Call d f as0 L₀ (M6 η L Q) (M6 η L E))
  (c:(sel (locs L) η L,gG (locs L) as)=(some (IP (locs L₀) L₀),gG (locs L₀) as0)):Call d f as L Q E:=⟨λargs r F G σ S=>by
 have c:=bY c
 have A:=Lh rfl c.1
 exact(h.run args (c.2▸r) (at_ (locs L) (emp L η)++F) G σ (J6 S c.1)).mono (λa σ' z=>z.e λw M d p s q=>Gw A p s q λw' L' dw p s q=>⟨w',L',dw _ d,p,s,q⟩) λa σ' z=>z.e λw M d p s q=>Gw A p s q λw' L' dw p s q=>⟨w',L',dw _ d,p,s,q⟩⟩
end
section
variable{C:Fn->List AV->MM AV}{I:Fn->List RV->Cs->PE->PE->Prop}
theorem YS{ls:List Nat}{P:Prop}{ds:List AV}:∀{k:List RV->Prop},vK ds k->(∀ws,DL ls ws ds->k ws->P)->P:=by
 induction ds with
 |nil=>exact λh K=>K [] .nil h
 |cons a r ih=>exact λh K=>ih h λws d h=>K (.v a::ws) (.cons rfl d) h
theorem UH{ls:List Nat}{P:Prop}{n:Nat}:∀{ρ:RL}{ρ':Loc}{k:RL->Prop},Rl ls ρ ρ'->Uz n ρ k->(∀ρ₁,Rl ls ρ₁ (aM n none++ρ')->k ρ₁->P)->P:=by
 induction n with
 |zero=>exact λr h K=>K _ r h
 |succ n ih=>exact λ{ρ ρ' k} r h K=>ih (.cons (.no none) r) h λρ₁ r h=>K ρ₁ (by
   have e:aM n (none:Option AV)++none::ρ'=aM (n+1) none++ρ':=by rw[Ff,ay];rfl
   exact e▸r) h
theorem Fi(S:Q7 C I){f:Fn}{as:List RV}{args:List AV}{L:Cs}{Q E:PE}(r:gG (locs L) as=some args)(h:wF I f as L Q E):J Rv (Ow C (tU f) args) L Q E:=by
 unfold wF at h
 unfold Ow
 generalize tU f=fd at h⊢
 obtain⟨nm,names,np,dflt,body⟩:=fd
 refine cZ h λhc h=>?_
 have hc:=of_decide_eq_true hc
 have el:=bq.len (DL.of r)
 rw[el] at hc h
 rw[if_pos hc]
 refine YS (ls:=locs L) h λds d h=>UH (ls:=locs L) (ρ':=[]) .nil (FX (zh h)) λρ₁ r₁ h=>?_
 rw[bf] at r₁
 exact(Ld S body _ _ _ _ _ ((((DL.of r).append d).map λ_ _=>.so).append r₁) (zh h)).bind λf g L' p rf h=>Rf.e (M:=λf g=>rtQ Q f L'->J Rv (match g with|.next _=>pure .none|.ret v=>pure v:MM AV) L' Q E) rf (λ_ _ _ h=>pv .none h) (λw _ d h=>J.Cr (b:=w) d h) h
theorem Gn(p:Fn->Bool):∀k d,Q7 (xS d) (hI p k d):=λk=>by
 induction k with
 |zero=>exact λ_ _ _ _ _ _ _ r h=>h.run _ r
 |succ k ih=>exact λd=>b8 d (λ_ _ _ _ _ _ r h=>h.run _ r) λd f as L Q E args r h=>B5 h (λ_ h=>Fi (ih d) r h) λ_ h=>h.run _ r
theorem i9(p:Fn->Bool){d:Nat}{f:Fn}{as:List RV}{L:Cs}{Q E:PE}(h:wF (hI p 6 d) f as L Q E):Call (d+1) f as L Q E:=⟨λ_ r=>Fi (Gn p 6 d) r h⟩
theorem xE(p:Fn->Bool){d:Nat}{f:Fn}{as:List RV}{L:Cs}{Q E:PE}(h:wF (hI p 6 d) f as L (Fin L Q) (Fin L E)):Call (d+1) f as L Q E:=⟨λargs r F G σ S=>
 (Fi (Gn p 6 d) r h F G σ S).mono (λa σ' z=>z.e λw M d p s q=>q.e s λw' L' e p s q=>⟨w',L',e.symm.trans d,p,s,q⟩) λa σ' z=>z.e λw M d p s q=>q.e s λw' L' e p s q=>⟨w',L',e.symm.trans d,p,s,q⟩⟩
theorem iU{d:Nat}{f:Fn}{as:List RV}{L:Cs}{Q E:PE}(h:wF (hI inl 6 d) f as L (Fin L Q) (Fin L E)):Call (d+1) f as L Q E:=xE inl h
theorem km(p:Fn->Bool){d:Nat}{f:Fn}{as:List RV}{L:Cs}{Q E:PE}(h:wF (hI p 6 d) f as L (Bv L Q) (Bv L E)):Call (d+1) f as L Q E:=⟨λargs r F G σ S=>
 (Fi (Gn p 6 d) r h F G σ S).mono (λa σ' z=>z.e λw M d p s q=>q.e s λw' L' e p s q=>⟨w',L',e.symm.trans d,p,s,q⟩) λa σ' z=>z.e λw M d p s q=>q.e s λw' L' e p s q=>⟨w',L',e.symm.trans d,p,s,q⟩⟩
theorem cf{d:Nat}{f:Fn}{as:List RV}{L:Cs}{Q E:PE}(h:wF (hI inl 6 d) f as L (Bv L Q) (Bv L E)):Call (d+1) f as L Q E:=km inl h
end
section
variable{σ:Hp}{L L':Cs}{F:List Fa}{G:List (Nat×aF)}{d:Nat}{f:Fn}{as as':List RV}{Q E:PE}{P:Prop}
noncomputable def YO(ls:List Nat):List Pk->Cs->Option (List VW)
 |[],L=>match at_ ls L with
  |[]=>some []
  |_::_=>none
 |.one i::r,L=>uP L i λc L=>cF (YO ls r L) λs=>some (vw ls c::s)
 |.gT is::r,L=>objs ls is L λB L=>cF (YO ls r L) λs=>some (.d6 0 B::s)
 |_::_,_=>none
theorem Aq{ls:List Nat}{i:Nat}{c:Nat×RO}(n:dz L i=some c):(at_ ls L).Perm (mX (vw ls c)++at_ ls (sN L i (c.1,.gh []))):=by
 rw[vv];exact lZ (o:=c.2) n
theorem XS{ls:List Nat}{V:List VW}{is:List Nat}:∀{L:Cs}{k:List (Nat×aF)->Cs->Option (List VW)},objs ls is L k=some V->(∀B L',(at_ ls L).Perm (B.map (λp=>.o p.1 p.2)++at_ ls L')->k B L'=some V->P)->P:=by
 induction is with
 |nil=>exact λh K=>K [] _ (.refl _) h
 |cons i r ih=>exact λ{L k} h K=>oM h λc n h=>bh h λp hp h=>ih h λB L' z h=>K _ L' (by
   rw[aN,ay,<-Mb hp]
   exact(Aq n).trans (z.append_left _)) h
theorem US{ls:List Nat}{η:List Pk}:∀{L:Cs}{V:List VW},YO ls η L=some V->(at_ ls L).Perm (Cv V):=by
 induction η with
 |nil=>exact λ{L V} h=>(by
   have h:(match at_ ls L with|[]=>some []|_::_=>none)=some V:=h
   cases e:at_ ls L with
   |nil=>rw[e] at h;exact ae h▸.refl _
   |cons=>rw[e] at h;exact ns h)
 |cons p r ih=>exact λ{L V} h=>(by
   cases p with
   |one i=>exact oM h λc n h=>bh h λs hs h=>ae h▸(Aq n).trans ((ih hs).append_left _)
   |gT is=>exact XS h λB L' z h=>bh h λs hs h=>ae h▸z.trans ((ih hs).append_left _)
   |_=>exact ns h)
theorem uu(L':Cs)(as':List RV)(η:List Pk)(k:Call d f as' L' (Bv L Q) (Bv L E))
  (e:(YO (locs L') η L',gG (locs L') as')=(some (IP (locs L) L),gG (locs L) as)):Call d f as L Q E:=⟨λargs r F G σ S=>by
 have e:=bY e
 exact(k.run args (e.2.trans r) F G σ (S.perm ((US e.1).symm.append_right F))).mono (λa σ' z=>z.e λw M d p s q=>q.e s λw' L' e p s q=>⟨w',L',e.symm.trans d,p,s,q⟩) λa σ' z=>z.e λw M d p s q=>q.e s λw' L' e p s q=>⟨w',L',e.symm.trans d,p,s,q⟩⟩
theorem Oz{o:RO}(g:∀ls,∀f∈mX (vw ls (0,o)),iA f/\(∀σ,(∀f∈at_ (locs L) L,Holds σ f)->Holds σ f))(h:Call d f as (L++[(0,o)]) Q E):Call d f as L Q E:=⟨λargs r F G σ S=>by
 have p:Pre (locs L) (locs (L++[(0,o)])):=fk▸.app
 have hL:∀f∈at_ (locs L) L,Holds σ f:=λf m=>S.h f (aZ _ m)
 have S':cC σ (at_ (locs (L++[(0,o)])) (L++[(0,o)])++F) G:=by
  rw[yW,yD p hL,ay]
  have z:=S.add (U:=at_ (locs (L++[(0,o)])) [(0,o)]) λf m=>((cp.mp m).elim (λm=>(g _ f m).imp id λz=>z σ hL) λm=>mq m)
  exact z.swap
 exact(h.run args (p.gG r) F G σ S').mono (λ_ _ h=>h.pre p) λ_ _ h=>h.pre p⟩
theorem XK{i l:Nat}{B:List (Nat×aF)}{X:List (Nat×bF)}(n:dz L i=some (l,.d6 B))(g:∀p∈X,p.2.isExc=false/\∃fs,(p.1,.inst p.2 fs)∈B)(h:Call d f as (L++[(0,.gk X)]) Q E):Call d f as L Q E:=Oz (o:=.gk X) (λls f m=>(aS.mp m).elim λp z=>z.2▸⟨trivial,λσ H=>⟨(g p z.1).1,(g p z.1).2.imp λfs m=>kK H n (.o p.1 (.inst p.2 fs)) (aU (f:=λp=>Fa.o p.1 p.2) m)⟩⟩) h
theorem An(h:Call d f as (L++[(0,.gh [])]) Q E):Call d f as L Q E:=Oz (o:=.gh []) (λ_ _=>mq) h
theorem U2(h:Call d f as (L++[(0,.d6 [])]) Q E):Call d f as L Q E:=Oz (o:=.d6 []) (λ_ _=>mq) h
theorem aah{i l:Nat}{X:List (Nat×List AV)}(n:dz L i=some (l,.gh X))(h:Call d f as (L++[(0,.gh X)]) Q E):Call d f as L Q E:=Oz (o:=.gh X) (λls f m=>⟨(aS.mp m).elim λ_ z=>z.2▸trivial,λσ H=>kK H n f m⟩) h
end
theorem Fg{n:Nat}:∀{m:Nat},xV m n=(dA m n).map λ(k:Nat)=>j9.one (.v (.int (k:Int))):=by
 induction n with
 |zero=>exact rfl
 |succ n ih=>exact λ{m}=>congrArg (j9.one (.v (.int (m:Int)))::·) ih
theorem yJ{N m x:Nat}(h:(dA 0 N)[m]?=some x):m<N/\x=m:=by
 have z:=(aq.mp h).1
 rw[rq] at z
 rw[List.getElem?_range' z] at h
 exact⟨z,((ae h).symm.trans (cj _)).trans (Nat.one_mul m)⟩
section
variable{τ:Nat->Type}{N:Nat}{L:Cs}{us:List AV}{X:List (Nat×List AV)}
variable{turn:List RV->Cs->(Option RV->Cs->Prop)->Prop}{K:RS->Cs->Prop}(su:∀m,τ m->List AV){body:List RV->RL->Cs->PF->Prop}{ρ:RL}{Q:PF}(sr:∀m,τ m->RL)(sL:∀m,τ m->Cs)
theorem pK.xV(h:J3 (locs L) (su 0) (sL 0) [] L)(step:∀m,m<N->∀t,turn [.v (.int (m:Nat))] (sL m t) (Ed (locs L) (su (m+1)) (sL (m+1)) (su m t)))(done:∀t,K (.raw (su N t)) (sL N t)):pK turn 1 (Mine.Internal.A.xV 0 N) L K:=
 .inv (dA 0 N) (λ(k:Nat)=>j9.one (.v (.int (k:Int)))) Fg su sL h (λm x e t=>(yJ e).2▸step m (yJ e).1 t) λt=>by
  revert t
  rw[rq]
  exact done
theorem tT.xV(h:To (locs L) (sr 0) (sL 0) ρ L)(step:∀m,m<N->∀t,body [.v (.int (m:Nat))] (sr m t) (sL m t) (Vp (locs L) (sr (m+1)) (sL (m+1)) Q))(done:∀t,Q (.next (sr N t)) (sL N t)):tT body 1 (Mine.Internal.A.xV 0 N) ρ L Q:=
 .inv (dA 0 N) (λ(k:Nat)=>j9.one (.v (.int (k:Int)))) Fg sr sL h (λm x e t=>(yJ e).2▸step m (yJ e).1 t) λt=>by
  revert t
  rw[rq]
  exact done
theorem tT.lst(h:To (locs L) (sr 0) (sL 0) ρ L)(step:∀m x,us[m]?=some x->∀t,body [.v x] (sr m t) (sL m t) (Vp (locs L) (sr (m+1)) (sL (m+1)) Q))(done:∀t,Q (.next (sr us.length t)) (sL us.length t)):tT body 1 (us.map λa=>.one (.v a)) ρ L Q:=
 .inv us (λa=>j9.one (.v a)) rfl sr sL h (λm x e t=>step m x e t) done
theorem pK.lst(h:J3 (locs L) (su 0) (sL 0) [] L)(step:∀m x,us[m]?=some x->∀t,turn [.v x] (sL m t) (Ed (locs L) (su (m+1)) (sL (m+1)) (su m t)))(done:∀t,K (.raw (su us.length t)) (sL us.length t)):pK turn 1 (us.map λa=>.one (.v a)) L K:=
 .inv us (λa=>j9.one (.v a)) rfl su sL h (λm x e t=>step m x e t) done
theorem tT.lz(g:∀m t,∃i l,dz (sL m t) i=some (l,.gh X))(h:To (locs L) (sr 0) (sL 0) ρ L)(step:∀m r a b,X[m]?=some (r,[a,b])->∀t,qT (some b) (sL m t) (DF a (xy body (sr m t) (sL m t) (Vp (locs L) (sr (m+1)) (sL (m+1)) Q))))(two:∀x∈X,∃a b,x.2=[a,b])(done:∀t,Q (.next (sr X.length t)) (sL X.length t)):tT body 2 ((X.map λg=>AV.ref g.1).map λa=>.one (.v a)) ρ L Q:=
 .inv X (λx=>j9.one (.v (.ref x.1))) bU sr sL h (λm x e t=>(two x (av e)).elim λa z=>z.elim λb z=>(g m t).elim λi y=>y.elim λl n=>(.mk i l X x.2 n (av e) (by rw[z];exact step m x.1 a b (z▸e) t):Z6 (sL m t) x.1 _)) done
theorem pK.lz(g:∀m t,∃i l,dz (sL m t) i=some (l,.gh X))(h:J3 (locs L) (su 0) (sL 0) [] L)(step:∀m r a b,X[m]?=some (r,[a,b])->∀t,qT (some b) (sL m t) (DF a (yp turn (sL m t) (Ed (locs L) (su (m+1)) (sL (m+1)) (su m t)))))(two:∀x∈X,∃a b,x.2=[a,b])(done:∀t,K (.raw (su X.length t)) (sL X.length t)):pK turn 2 ((X.map λg=>AV.ref g.1).map λa=>.one (.v a)) L K:=
 .inv X (λx=>j9.one (.v (.ref x.1))) bU su sL h (λm x e t=>(two x (av e)).elim λa z=>z.elim λb z=>(g m t).elim λi y=>y.elim λl n=>(.mk i l X x.2 n (av e) (by rw[z];exact step m x.1 a b (z▸e) t):Z6 (sL m t) x.1 _)) done
end
section
variable{N:Nat}{L:Cs}{us:List AV}{turn:List RV->Cs->(Option RV->Cs->Prop)->Prop}{K:RS->Cs->Prop}(su:Nat->List AV)
noncomputable abbrev RA(L:Cs)(su:Nat->List AV)(m:Nat):Option RV->Cs->Prop:=Ed (τ:=Unit) (locs L) (λ_=>su (m+1)) (λ_=>L) (su m)
theorem Ko(h0:[]=su 0)(e:tk (locs L).length (locs L)=locs L):J3 (τ:=Unit) (locs L) (λ_=>su 0) (λ_=>L) [] L:=.id () h0 (congrArg (L,·) e)
theorem pK.WI(h0:[]=su 0)(step:∀m,m<N->turn [.v (.int (m:Nat))] L (RA L su m))(done:K (.raw (su N)) L)(e:tk (locs L).length (locs L)=locs L):pK turn 1 (Mine.Internal.A.xV 0 N) L K:=
 .xV (τ:=λ_=>Unit) (λm _=>su m) (λ_ _=>L) (Ko su h0 e) (λm h _=>step m h) λ_=>done
theorem pK.Y0(h0:[]=su 0)(step:∀m x,us[m]?=some x->turn [.v x] L (RA L su m))(done:K (.raw (su us.length)) L)(e:tk (locs L).length (locs L)=locs L):pK turn 1 (us.map λa=>.one (.v a)) L K:=
 .lst (τ:=λ_=>Unit) (λm _=>su m) (λ_ _=>L) (Ko su h0 e) (λm x h _=>step m x h) λ_=>done
end
noncomputable def Px{α β:Type}(f:α->Cs)(g:β->Cs)(t:α⊕β):Cs:=Hf t f g
theorem tT.inv2{α:Type}{τ₁ τ₂:Nat->Type}{n:Nat}{dh:List j9}{L:Cs}{body:List RV->RL->Cs->PF->Prop}{ρ:RL}{Q:PF}(xs:List α)(f:α->j9)(e:dh=xs.map f)(ρ':RL)(s₁:∀m,τ₁ m->Cs)(s₂:∀m,τ₂ m->Cs)(h:To (locs L) (λ_=>ρ') (Px (s₁ 0) (s₂ 0)) ρ L)
  (h₁:∀m x,xs[m]?=some x->∀t(Q':PF),(∀{ρ₁ L₁},To (locs L) (λ_=>ρ') (Px (s₁ (m+1)) (s₂ (m+1))) ρ₁ L₁->Q' (.next ρ₁) L₁)->xc n (f x) (s₁ m t) (xy body ρ' (s₁ m t) Q')) (h₂:∀m x,xs[m]?=some x->∀t(Q':PF),(∀{ρ₁ L₁},To (locs L) (λ_=>ρ') (Px (s₁ (m+1)) (s₂ (m+1))) ρ₁ L₁->Q' (.next ρ₁) L₁)->xc n (f x) (s₂ m t) (xy body ρ' (s₂ m t) Q'))
  (d₁:∀t,Q (.next ρ') (s₁ xs.length t)) (d₂:∀t,Q (.next ρ') (s₂ xs.length t)):tT body n dh ρ L Q:=
 .inv (τ:=λm=>τ₁ m⊕τ₂ m) xs f e (λ_ _=>ρ') (λm=>Px (s₁ m) (s₂ m)) h (λm x e t=>Hf t (λt=>h₁ m x e t _ id) (λt=>h₂ m x e t _ id)) λt=>Hf t d₁ d₂
noncomputable def QY(f:Int)(s:S):Int:=List.foldl (λ(f:Int) (c:Nat)=>(f*33+(c:Int)).fmod (2^64)) f s
noncomputable def o9:AV->Int
 |.int i=>i.fmod (2^64)
 |.str s=>PySem.Builtin.bitOr (QY 5381 s) (2^63)
 |_=>0
theorem cor{b x:Bool}{Q:Bool->Prop}{B:Prop}(q:Q (b||x))(k:Q x->B):wt b (Q b) B:=match b,q with
 |true,q=>q
 |false,q=>k q
theorem Zc{b x:Bool}{Q:Bool->Prop}{A:Prop}(q:Q (b&&x))(k:Q x->A):wt b A (Q false):=match b,q with
 |true,q=>k q
 |false,q=>q
theorem aal{b x:Bool}{Q:Bool->Prop}{A:Prop}(q:Q (b&&x))(k:Q x->A):wt b A (Q b):=match b,q with
 |true,q=>k q
 |false,q=>q
theorem Wq{r s x:Bool}{Q:Bool->Prop}{R:Prop}(q:Q (r&&s||x))(k:Q x->R):wt r (wt s (Q s) R) R:=match r,s,q with
 |true,true,q=>q
 |true,false,q=>k q
 |false,_,q=>k q
noncomputable def ml(c:Nat):Bool:=([c]:S)==[95]||(mF .le [97] [c]&&mF .le [c] [122]||(mF .le [65] [c]&&mF .le [c] [90]||cmpInt .ge (c:Int) 128))
noncomputable def Kz(c:Nat):Bool:=mF .le [48] [c]&&mF .le [c] [57]
noncomputable def qB(c:Nat):Bool:=ml c||Kz c
noncomputable def qr(s:S):Bool:=match s with
 |[]=>false
 |c::r=>ml c&&(c::r).all qB
section
variable{d:Nat}{Q E:PE}
theorem Bx{z:Int}(h0:0<=z)(h1:z<2^64): -(2^64)<z/\z<2^64:=⟨Int.lt_of_lt_of_le (by decide) h0,h1⟩
theorem x3{k:Nat}{I:Fn->List RV->Cs->PE->PE->Prop}{s:AV}{K:PF}:∀{t:S}{f:Int}{o:Option RV}{L:Cs},0<=f->f<2^64->(∀o,K (.next [some (.v s),some (.v (.int (QY f t))),o]) L)->
  lF I [2] (YJ (stN BE 2)) E 1 (t.map λc=>.one (.v (.str [c]))) [some (.v s),some (.v (.int f)),o] L K
 |[],_,o,_,_,_,q=>q o
 |c::t,f,o,L,h0,h1,q=>oW (b:=f*33) (if_pos (Bx h0 h1)) (x3 (k:=k) (t:=t) (f:=(f*33+c).fmod (2^64)) (ni _ (by decide)) (rJ _ (by decide)) q)
theorem OE{P:AV->Prop}{k:AV}(h:isKey k=true)(h1:∀i,P (.int i))(h2:∀s,P (.str s)):P k:=
 AV.casesOn (motive:=λk=>isKey k=true->P k) k nofun (λ_=>nofun) (λi _=>h1 i) (λs _=>h2 s) (λ_=>nofun) (λ_=>nofun) (λ_=>nofun) (λ_=>nofun) h
theorem Kl{k:AV}(hk:isKey k=true)(q:Q (.v (.int (o9 k))) []):Call (d+1) .hashOf [.v k] [] Q E:=
 OE (P:=λk=>Q (.v (.int (o9 k))) []->Call (d+1) .hashOf [.v k] [] Q E) hk (λ_ q=>iU (.mk [] _ _ q rfl)) (λ_ q=>iU (.run (x3 (k:=0) (by decide) (by decide) λo=>.mk [] _ _ q rfl))) q
theorem Fq{c:Nat}(q:Q (.v (.bool (ml c))) []):Call (d+1) .isNameStart [.v (.str [c])] [] Q E:=
 have q:Fin [] Q (.v (.bool (ml c))) []:=.mk [] _ _ q rfl
 iU (cor (Q:=λb=>Fin [] Q (.v (.bool b)) []) q λq=>Wq (Q:=λb=>Fin [] Q (.v (.bool b)) []) q λq=>Wq (Q:=λb=>Fin [] Q (.v (.bool b)) []) q id)
theorem SM{c:Nat}(q:Q (.v (.bool (qB c))) []):Call (d+2) .isNameSign [.v (.str [c])] [] Q E:=
 iU (use [] (Fq (cor (Q:=λb=>Fin [] Q (.v (.bool b)) []) (.mk [] _ _ q rfl) λq=>Zc (Q:=λb=>Fin [] Q (.v (.bool b)) []) q id)) rfl)
theorem x4{I:Fn->List RV->Cs->PE->PE->Prop}{s:AV}{K:PF}(hI:∀{c:Nat}{Q:PE},Q (.v (.bool (qB c))) []->I .isNameSign [.v (.str [c])] [] Q E):∀{t:S}{o:Option RV},(∀f,(t.all qB=true->∃o,f=.next [some (.v s),o])->(t.all qB=false->f=.ret (.v (.bool false)))->K f [])->
  lF I [1] (YJ (stN kW 1)) E 1 (t.map λc=>.one (.v (.str [c]))) [some (.v s),o] [] K
 |[],o,q=>q _ (λ_=>⟨o,rfl⟩) λh=>nomatch h
 |c::t,_,q=>hI (cz (λh=>q _ (λz=>by simp[lJ] at z h;simp[z.1] at h) λ_=>rfl) λh=>x4 hI λf h1 h2=>q f (λz=>h1 (by simp at z;simpa using z.2)) λz=>h2 (by simp at z h;simpa using z h))
theorem jl{s:S}(q:Q (.v (.bool (qr s))) []):Call (d+3) .jw [.v (.str s)] [] Q E:=by
 cases s with
 |nil=>exact iU (.mk [] _ _ q rfl)
 |cons c r=>
  refine iU (use [] (Fq (cz (λh=>.mk [] (.v (.bool false)) [] ?_ rfl) λh=>.run (x4 (I:=hI inl 6 (d+2)) (t:=c::r) (o:=none) (λq=>use [] (SM q) rfl) λf h1 h2=>?_))) rfl)
  ·have e:ml c=false:=by simpa using h
   rw[qr,e] at q;exact q
  ·have e:ml c=true:=by simpa using h
   rw[qr,e,qp] at q
   cases z:(c::r).all qB with
   |true=>
    obtain⟨o,rfl⟩:=h1 z
    exact .mk [] _ _ (z▸q) rfl
   |false=>
    rw[h2 z]
    exact .mk [] _ _ (z▸q) rfl
end
noncomputable def dat:AV->dm
 |.bool b=>.bool b
 |.int i=>.int i
 |.str s=>.str ⟨s.toArray⟩
 |_=>.none
noncomputable def sX(s:S):Bool:=s.all (·<0x110000)
noncomputable def oC:AV->Bool
 |.none|.bool _|.int _=>true
 |.str s=>sX s
 |_=>false
theorem Cd{P:AV->Prop}{v:AV}(h:oC v=true)(h0:P .none)(h1:∀b,P (.bool b))(h2:∀i,P (.int i))(h3:∀s,sX s=true->P (.str s)):P v:=
 AV.casesOn (motive:=λk=>oC k=true->P k) v (λ_=>h0) (λb _=>h1 b) (λi _=>h2 i) h3 (λ_=>nofun) (λ_=>nofun) (λ_=>nofun) (λ_=>nofun) h
theorem sj{σ:Hp}{n:Nat}{v:AV}(h:oC v=true):dataOf σ n v=some (dat v):=
 Cd (P:=λv=>dataOf σ n v=some (dat v)) h (by cases n<;>rfl) (λ_=>by cases n<;>rfl) (λ_=>by cases n<;>rfl) (λ_ _=>by cases n<;>rfl)
theorem ur{f:AV->Option dm}{v:AV}{r:List AV}{d:dm}{ds:List dm}(h:f v=some d)(h':eA f r=some ds):eA f (v::r)=some (d::ds):=by
 show(match f v with|some d=>(eA f r).map (d::·)|.none=>.none)=some (d::ds)
 rw[h,h'];rfl
theorem Dt{σ:Hp}{n:Nat}{vs:List AV}(h:∀v∈vs,oC v=true):eA (dataOf σ n) vs=some (vs.map dat):=by
 induction vs with
 |nil=>rfl
 |cons v r ih=>exact ur (sj (h v (.head _))) (ih λv m=>h v (.tail _ m))
theorem rY{v:AV}(h:oC v=true):(dat v).canLay0=true:=
 Cd (P:=λv=>(dat v).canLay0=true) h rfl (λ_=>rfl) (λ_=>rfl) λs h=>by
  show(PyData.str _).canLay0=true
  rw[wk]
  unfold sX at h
  show PyData.strOk ⟨_⟩=true
  unfold PyData.strOk
  simpa using h
theorem canLayAll{xs:List dm}(h:∀x∈xs,x.canLay0=true):rt xs=true:=by
 induction xs with
 |nil=>rw[rt]
 |cons a r ih=>rw[rt,h a (.head _),ih λx hx=>h x (.tail _ hx)];rfl
theorem tj{xs:List dm}{n:Nat}(h:∀x∈xs,x.depth<=n):uc xs<=n:=by
 induction xs with
 |nil=>rw[uc];exact aV _
 |cons a r ih=>rw[uc];exact Nat.max_le.mpr ⟨h a (.head _),ih λx hx=>h x (.tail _ hx)⟩
theorem rW{v:AV}:(dat v).depth=0:=by cases v<;>rfl
theorem xm{xs:List dm}(h:∀x∈xs,x.canLay0=true/\x.depth<=1):bL (.list xs)=true:=by
 unfold bL
 rw[bR,decide_eq_true_eq,wk,PyData.depth]
 have:=tj (xs:=xs) (n:=1) λx m=>(h x m).2
 exact⟨canLayAll λx m=>(h x m).1,ah (aP this) (by decide)⟩
noncomputable def PO(p:AV×AV):dm:=.tuple [dat p.1,dat p.2]
noncomputable def Kq(ps:List (AV×AV)):Prop:=∀p∈ps,oC p.1=true/\oC p.2=true
theorem fQ{vs:List AV}(h:∀v∈vs,oC v=true):bL (.list (vs.map dat))=true:=xm λx m=>(aS.mp m).elim λv z=>z.2▸⟨rY (h v z.1),by rw[rW];exact aV 1⟩
theorem qu{ps:List (AV×AV)}(h:Kq ps):bL (.list (ps.map PO))=true:=xm λx m=>(aS.mp m).elim λp z=>z.2▸(by
 have m:=z.1
 have two:∀{P:dm->Prop},P (dat p.1)->P (dat p.2)->∀x∈[dat p.1,dat p.2],P x:=λa b x m=>(aC.mp m).elim (·▸a) λm=>au.mp m▸b
 unfold PO
 rw[wk,PyData.depth]
 have:=tj (n:=0) (two (P:=λx=>x.depth<=0) (rW▸aK _) (rW▸aK _))
 exact⟨canLayAll (two (rY (h p m).1) (rY (h p m).2)),aP this⟩)
theorem LM{x:dm}(h:bL x=true):fb x x=true:=SeqAt.eqv_refl x (by unfold bL at h;rw[bR] at h;exact h.1)
theorem Oy{vs:List AV}:fb (.list (vs.map dat)) (.list [])=vs.isEmpty:=by
 rw[fb];cases vs<;>simp[PyData.eqvAll]
noncomputable def vo(L:Cs)(w:RV)(x:dm):Prop:=∀σ a,Fc σ L->den (locs L) w=some a->w5 a a=none/\(∃l,a=.ref l)/\dictAt σ a=none/\dataOf σ 3 a=some x
section
variable{L:Cs}{i j k l m:Nat}{o:RO}{G:List (Nat×List AV)}{a b:RV}{x y:dm}{us:List AV}{Q:Bool->Prop}
theorem vV{σ:Hp}{n:Nat}{xs:List dm}(h:σ[l]?=some (.list us))(d:eA (dataOf σ n) us=some xs):dataOf σ (n+1) (.ref l)=some (.list xs):=by
 show pW σ[l]? _ _=_
 rw[h]
 show(eA (dataOf σ n) us).map _=_
 rw[d];rfl
theorem Ml{σ:Hp}{n:Nat}{xs:List dm}(h:σ[l]?=some (.tup us))(d:eA (dataOf σ n) us=some xs):dataOf σ (n+1) (.ref l)=some (.tuple xs):=by
 show pW σ[l]? _ _=_
 rw[h]
 show(eA (dataOf σ n) us).map _=_
 rw[d];rfl
theorem vW{xs:List dm}(n:dz L i=some (l,o))(d:eH (locs L) o=some (.list us))(h:∀σ,Fc σ L->eA (dataOf σ 2) us=some xs):vo L (.r i) (.list xs):=λσ a F e=>by
 have z:=F.obj i l o _ n d
 cases e.symm.trans (sZ (fm n))
 exact⟨rfl,⟨l,rfl⟩,by unfold dictAt;dsimp only;rw[z],vV z (h σ F)⟩
theorem cW(n:dz L i=some (l,o))(d:eH (locs L) o=some (.list us))(h:∀v∈us,oC v=true):vo L (.r i) (.list (us.map dat)):=vW n d λ_ _=>Dt h
theorem E0{σ:Hp}(g:∀g∈G,σ[g.1]?=some (.tup g.2)):∀{ps:List (AV×AV)},Kq ps->G.map (·.2)=(ps.map λp=>[p.1,p.2])->eA (dataOf σ 2) (G.map λg=>.ref g.1)=some (ps.map PO):=by
 induction G with
 |nil=>exact λ{ps} h e=>(by
   cases ps with
   |nil=>rfl
   |cons=>exact(cP _ _ e.symm).elim)
 |cons q G ih=>exact λ{ps} h e=>(by
   cases ps with
   |nil=>exact(cP _ _ e).elim
   |cons p ps=>
    have e:=dJ e
    exact ur (Ml (g _ (.head _)) ((show q.2=[p.1,p.2] from e.1)▸ur (sj (h p (.head _)).1) (ur (sj (h p (.head _)).2) rfl))) (ih (λq m=>g q (.tail _ m)) (λq m=>h q (.tail _ m)) e.2))
theorem lP{ps:List (AV×AV)}(n:dz L i=some (l,o))(d:eH (locs L) o=some (.list (G.map λg=>.ref g.1)))(h:Kq ps)(e:G.map (·.2)=ps.map λp=>[p.1,p.2])(gg:∀σ,Fc σ L->∀g∈G,σ[g.1]?=some (.tup g.2)):vo L (.r i) (.list (ps.map PO)):=vW n d λσ F=>E0 (gg σ F) h e
theorem Ky{σ:Hp}{l l':Nat}(h1:dictAt σ (.ref l)=none)(h2:dataOf σ 3 (.ref l)=some x)(h3:dataOf σ 3 (.ref l')=some y)(sx:bL x=true)(sy:bL y=true):NW (.ref l) (.ref l') σ=.ok (fb x y) σ:=by
 show(match dictAt σ (.ref l) with|some xs=>_|.none=>_:R Bool)=_
 rw[h1,h2,h3]
 exact if_pos ⟨sx,sy⟩
theorem Em(ha:vo L a x)(hb:vo L b y)(sx:bL x=true)(sy:bL y=true)(q:Q (fb x y)):Ve a b L Q:=.mk _ (λσ p r dp dr F=>by
 obtain⟨_,⟨l,rfl⟩,h1,h2⟩:=ha σ p F dp
 obtain⟨_,⟨l',rfl⟩,_,h3⟩:=hb σ r F dr
 exact Ky h1 h2 h3 sx sy) q
theorem pP(ha:vo L a x)(hb:vo L b x)(s:bL x=true)(q:Q true):Ve a b L Q:=Em ha hb s s (LM s▸q)
end
noncomputable def n6:S:=[97,98,99,100,101,102,103,104,105,106,107,108,109,110,111,112,113,114,115,116,117,118,119,120,121,122,95]
noncomputable def I7:S:=[48,49,50,51,52,53,54,55,56,57]
noncomputable def BR(c:Nat):Bool:=!(n6++I7).contains c
noncomputable def d9(s:S):Bool:=match s with
 |[]=>false
 |c::r=>n6.contains c&&!(c::r).any BR
noncomputable def Vg:List AV->RS
 |[]=>.nil
 |a::r=>.cons (.v a) (Vg r)
theorem FG{ls:List Nat}:∀{us:List AV},Ak ls (Vg us)=some us
 |[]=>rfl
 |_::r=>bJ rfl (bJ (FG (us:=r)) rfl)
theorem GZ:∀{us:List AV},tX (Vg us)=us.length
 |[]=>rfl
 |_::r=>congrArg de (GZ (us:=r))
noncomputable def zw(s:S):List AV:=(s.filter BR).map λc=>.str [c]
section
variable{d:Nat}{Q E:PE}
theorem uW{I:Fn->List RV->Cs->PE->PE->Prop}{s:RV}{K:RS->Cs->Prop}:∀{t:S},K (Vg (zw t)) []->lC I [some s,some (.v (.str n6))] (.cmp .o8 (.loc 2) (.bin .add (.loc 1) (.str I7))) (.loc 2) 1 (t.map λc=>.one (.v (.str [c]))) [] K
 |[],q=>q
 |c::t,q=>cz (λh=>uW (t:=t) (by
   have h:BR c=true:=h
   rw[zw,gq,if_pos h] at q;exact q)) λh=>uW (t:=t) (by
   have h:BR c=false:=h
   rw[zw,gq,h,if_neg nofun] at q;exact q)
theorem nH{s:S}(hs:sX s=true)(hl:s.length<=1000)(q:Q (.v (.bool (d9 s))) []):Call (d+1) .isName [.v (.str s)] [] Q E:=by
 cases s with
 |nil=>exact iU (.mk [] _ _ q rfl)
 |cons c r=>
  refine iU (cz (λh=>.mk [] (.v (.bool false)) [] ?_ rfl) λh=>pK.run (uW (t:=c::r) (bB (b:=decide _) (decide_eq_true (?_:tX (Vg (zw (c::r)))<=lim)) λl l'=>?_)))
  ·have h:(!n6.contains c)=true:=h
   rw[d9,show n6.contains c=false by simpa using h] at q;exact q
  ·rw[GZ,zw,aj]
   exact ah (ou ..) (ah hl (by decide))
  ·have h:(!n6.contains c)=false:=h
   rw[d9,show n6.contains c=true by simpa using h,qp] at q
   have pb:∀v∈zw (c::r),oC v=true:=λv m=>(aS.mp m).elim λx z=>z.2▸(by
    have m:=(gE.mp z.1).1
    unfold sX at hs
    show sX [x]=true
    unfold sX
    rw[lJ,aD.mp hs x m];rfl)
   refine Em (L:=[(l,.list (Vg (zw (c::r)))),(l',.list .nil)]) (cW (i:=0) rfl (bJ FG rfl) pb) (cW (i:=1) (us:=[]) rfl rfl λ_=>mq) (fQ pb) rfl ?_
   refine .mk [] (.v (.bool (!(c::r).any BR))) [] q ?_
   have e:fb (.list ((zw (c::r)).map dat)) (.list (([]:List AV).map dat))=!(c::r).any BR:=by
    rw[List.map_nil,Oy,zw]
    generalize c::r=t
    induction t with
    |nil=>rfl
    |cons x t ih=>
     rw[gq,iN]
     cases BR x with
     |true=>rfl
     |false=>exact ih
   rw[e];rfl
end
section
variable{d:Nat}{Q E:PE}
theorem Nj(q:Q (.v (.int 7)) []):Call (d+5) .uk [.v (.str [55])] [] Q E:=xE (λ_=>true) (.run (.mk [] _ _ q rfl))
theorem Ij{c:Nat}{r:S}(hl:r.length<=1000)(h1:Kz c=false)(h2:c≠45)(q:Q (.v (.str (c::r))) []):Call (d+3) .uk [.v (.str (c::r))] [] Q E:=by
 have hl':(c::r).length<=lim:=ah (aP hl) (by decide)
 have f:Fin [] Q (.v (.str (c::r))) []:=.mk [] _ _ q rfl
 refine xE (λ_=>true) (bB (decide_eq_true ⟨by decide,cD.mpr (aP (aV _)),hl'⟩) (cz (λh=>(h2 (by simpa using h)).elim) λh=>bB (decide_eq_true hl') (cz (λ_=>cz (λe1=>cz (λh=>nQ h f) λe2=>?_) λ_=>f) λe=>?_)))
 ·unfold Kz at h1
  rw[e1,qp] at h1
  rw[h1] at e2;cases e2
 ·have:(0:Int)<((c::r).length:Int):=bW.mpr (tO _)
  rw[show cmpInt .lt 0 ((c::r).length:Int)=true from decide_eq_true this] at e;cases e
end
noncomputable def kJ(f:Nat->Int)(c:Int):Nat->Int
 |0=> -1
 |n+1=>if f n=c then n else kJ f c n
theorem G3{P:Int->Prop}(f:Nat->Int)(c:Int):∀n,((∀q,q<n->f q≠c)->P (-1))->(∀p:Nat,p<n->f p=c->(∀q,p<q->q<n->f q≠c)->P p)->P (kJ f c n)
 |0,h,_=>h λq z=>absurd z (dM q)
 |n+1,h,h'=>by
  show P (if f n=c then(n:Int) else kJ f c n)
  by_cases z:f n=c
  ·rw[if_pos z]
   exact h' n (bM n) z λq h1 h2=>absurd (aY h1 (hO h2)) (dY _)
  ·rw[if_neg z]
   have up:∀{q},q<n+1->(q<n->f q≠c)->f q≠c:=λ{q} h1 h2=>if e:q=n then e▸z else h2 (rK (hO h1) e)
   exact G3 f c n (λk=>h λq hq=>up hq (k q)) λp h1 h2 h3=>h' p (hK h1) h2 λq h4 h5=>up h5 (h3 q h4)
noncomputable def d7(ks:List AV)(size:Int)(p:Nat):Int:=match ks[p]? with
 |some k=>(o9 k).fmod size
 |none=> -1
structure fz(ks:List AV)(size:Int)(n:Nat)(hs ns:List AV):Prop where
 hlen:(hs.length:Int)=size
 heads:∀c:Nat,(c:Int)<size->hs[c]?=some (.int (kJ (d7 ks size) c n))
 pe:∀p:Nat,p<n->ns[p]?=some (.int (kJ (d7 ks size) (d7 ks size p) p))
theorem O9{k k':AV}(h:isKey k=true)(h':isKey k'=true):w5 k k'=some (decide (k=k')):=
 OE (P:=λk=>w5 k k'=some (decide (k=k'))) h (λi=>OE (P:=λk'=>w5 (.int i) k'=some (decide (AV.int i=k'))) h' (λj=>congrArg some (nh.mpr (beq_iff_eq.trans (Co ⟨congrArg AV.int,yA⟩ decide_eq_true_iff.symm)))) λs=>congrArg some (by simp))
  λs=>OE (P:=λk'=>w5 (.str s) k'=some (decide (AV.str s=k'))) h' (λj=>congrArg some (by simp)) λt=>congrArg some (nh.mpr (beq_iff_eq.trans (Co ⟨congrArg AV.str,iX⟩ decide_eq_true_iff.symm)))
noncomputable def yj(l lk lv lh ln lw:Nat)(p:Bool)(ks vs hs ns:List AV)(sz ct nx:Int)(sh:AV):Cs:=[(l,.inst .arr [.v (.bool p),.r 1,.r 2,.r 3,.r 4,.v (.int sz),.v (.int ct),.v (.int nx),.v (.int 0),.v sh,.r 5]),(lk,.list (.raw ks)),(lv,.list (.raw vs)),(lh,.list (.raw hs)),(ln,.list (.raw ns)),(lw,.dict (.raw []))]
theorem cn{o:Option AV}{L:Cs}{k:RV->Prop}{a:AV}(h:o=some a)(q:k (.v a)):qT o L k:=.mk (.v a) a h rfl q
theorem Gr{k:AV}{size:Int}{P:Prop}(h:0<size)(K:∀c:Nat,(o9 k).fmod size=c->(c:Int)<size->r5 .mod (o9 k) size=some (c:Int)->P):P:=by
 have h1:=rJ (o9 k) h
 obtain⟨c,hc⟩:=cS (ni (o9 k) h)
 exact K c hc (hc▸h1) ((if_neg (CN h)).trans (congrArg some hc))
section
variable{d:Nat}{Q E:PE}{l lk lv lh ln lw:Nat}{ks vs hs ns:List AV}{sz ct nx:Int}{sh key:AV}
theorem Iu{I:Fn->List RV->Cs->PE->PE->Prop}{K:PF}{c:Nat}(hk:isKey key=true)(qo:∀k∈ks,isKey k=true)(hc:(o9 key).fmod sz=c)(H:fz ks sz ks.length hs ns)
  (h1:(∀k∈ks,k≠key)->K (.next [some (.r 0),some (.v key),some (.v (.int (-1)))]) (yj l lk lv lh ln lw false ks vs hs ns sz ct nx sh))
  (h2:∀p:Nat,ks[p]?=some key->K (.next [some (.r 0),some (.v key),some (.v (.int p))]) (yj l lk lv lh ln lw false ks vs hs ns sz ct nx sh)):
  ∀{f m:Nat},m<f->m<=ks.length->(∀q,m<=q->ks[q]?≠some key)->lW I (stN DN 2) f [some (.r 0),some (.v key),some (.v (.int (kJ (d7 ks sz) c m)))] (yj l lk lv lh ln lw false ks vs hs ns sz ct nx sh) K:=by
 intro f
 induction f with
 |zero=>exact λ{m} hf=>absurd hf (dM m)
 |succ f ih=>
  exact λ{m} hf hm hq=>G3 (P:=λz=>lW I (stN DN 2) (f+1) [some (.r 0),some (.v key),some (.v (.int z))] (yj l lk lv lh ln lw false ks vs hs ns sz ct nx sh) K) (d7 ks sz) c m
   (λno=>h1 λk z e=>(fG.mp z).elim λq z=>if w:q<m then no q w (by unfold d7;rw[z,e];exact hc) else hq q (iP.mp w) (e▸z))
   λp hp e no=>(by
   have hpl:p<ks.length:=aY hp hm
   have hkp:ks[p]?=some ks[p]:=aO hpl
   refine cn hkp (oW (O9 (qo _ (mL hpl)) hk) (cz (λne=>cn (H.pe p hpl) ?_) λeq=>h2 p ?_))
   ·rw[e]
    have ne:ks[p]≠key:=by simpa using ne
    exact ih (aY hp (hO hf)) (bz hpl) λq h3 h4=>if w:m<=q then hq q w h4 else if w':q=p then ne (by subst w';exact ae (hkp.symm.trans h4)) else no q (rK h3 (dK w')) (Nat.not_le.mp w) (by unfold d7;rw[h4];exact hc)
   ·rw[hkp];exact congrArg some (by simpa using eq))
theorem S5(hk:isKey key=true)(qo:∀k∈ks,isKey k=true)(hs0:0<sz)(hl:ks.length<=900)(H:fz ks sz ks.length hs ns)
  (h1:(∀k∈ks,k≠key)->Q (.v (.int (-1))) (yj l lk lv lh ln lw false ks vs hs ns sz ct nx sh)) (h2:∀p:Nat,ks[p]?=some key->Q (.v (.int p)) (yj l lk lv lh ln lw false ks vs hs ns sz ct nx sh)):
  Call (d+2) .find [.r 0,.v key] (yj l lk lv lh ln lw false ks vs hs ns sz ct nx sh) Q E:=
 Gr (k:=key) hs0 λc hc hcl hb=>iU (use [] (Kl hk (oW hb (cn (H.heads c hcl) (Iu hk qo hc H (λz=>.mk [0,1,2,3,4,5] _ _ (h1 z) rfl) (λp z=>.mk [0,1,2,3,4,5] _ _ (h2 p z) rfl) (aB hl (by decide)) (aK _) λq hq e=>by rw[iD hq] at e;cases e)))) rfl)
end
theorem pL{f:Nat->Int}{n:Nat}{c:Int}:kJ f c (n+1)=if f n=c then(n:Int) else kJ f c n:=rfl
theorem fz.link{ks hs ns:List AV}{size:Int}{n c:Nat}(H:fz ks size n hs ns)(hc:d7 ks size n=c)(hcl:(c:Int)<size)(hn:n<ns.length):fz ks size (n+1) (hs.set c (.int n)) (ns.set n (.int (kJ (d7 ks size) c n))):=by
 have hl:=H.hlen
 refine⟨by rw[aQ];exact hl,λc' hc'=>?_,λp hp=>?_⟩
 ·rw[pL,hc]
  by_cases e:(c:Int)=c'
  ·rw[if_pos e,gZ e,a9 (bW.mp (hl.symm▸hc'))]
  ·rw[if_neg e,bS λz=>e (congrArg _ z)]
   exact H.heads c' hc'
 ·by_cases e:p=n
  ·rw[e,hc,a9 hn]
  ·rw[bS λz=>e z.symm]
   exact H.pe p (rK (hO hp) e)
theorem te{ks:List AV}{k:AV}{size:Int}{p:Nat}(h:p<ks.length):d7 (ks++[k]) size p=d7 ks size p:=by
 unfold d7;rw[bk h]
theorem td{f g:Nat->Int}{c:Int}:∀{n:Nat},(∀p,p<n->f p=g p)->kJ f c n=kJ g c n
 |0,_=>rfl
 |n+1,h=>by rw[pL,pL,h n (bM n),td λp hp=>h p (hK hp)]
theorem fz.app{ks hs ns:List AV}{k x:AV}{size:Int}(H:fz ks size ks.length hs ns):fz (ks++[k]) size ks.length hs (ns++[x]):=by
 have e:∀{c:Int}{n:Nat},n<=ks.length->kJ (d7 ks size) c n=kJ (d7 (ks++[k]) size) c n:=λh=>td λp hp=>(te (aY hp h)).symm
 refine⟨H.hlen,λc hc=>by rw[H.heads c hc,e (aK _)],λp hp=>?_⟩
 have h:=H.pe p hp
 rw[bk (aq.mp h).1,h,te hp,e (bz hp)]
theorem fz.nil{ks:List AV}{m n:Nat}:fz ks (m:Int) 0 (aM m (.int (-1))) (aM n (.int (-1))):=
 ⟨congrArg _ (iE ..),λc hc=>by rw[List.getElem?_replicate,if_pos (bW.mp hc)];rfl,λp hp=>absurd hp (dM p)⟩
noncomputable def rx(K:List (Nat×bF))(v:AV):Prop:=oC v=true\/∃r c,v=.ref r/\(r,c)∈K/\c≠.absent
section
variable{d:Nat}{Q E:PE}{l lk lv lh ln lw:Nat}{ks vs hs ns:List AV}{sz ct nx z:Int}{sh k h v:AV}{pk:Bool}{kn:List (Nat×bF)}
theorem Dy{p:Nat}(hz:z=p)(hk:ks[p]?=some k)(hi:isKey k=true)(hs0:0<sz)(hp:p<ns.length)(hl:(hs.length:Int)=sz)
  (q:∀(c:Nat)(h:AV),(o9 k).fmod sz=c->(c:Int)<sz->hs[c]?=some h->Q (.v .none) (yj l lk lv lh ln lw pk ks vs (hs.set c (.int p)) (ns.set p h) sz ct nx sh)):
  Call (d+2) .link [.r 0,.v (.int z)] (yj l lk lv lh ln lw pk ks vs hs ns sz ct nx sh) Q E:=
 Gr (k:=k) hs0 λc hc hcl hb=>by
  have lc:c<hs.length:=bW.mp (hl.symm▸hcl)
  have hh:hs[c]?=some hs[c]:=aO lc
  subst hz
  exact iU (cn hk (use [] (Kl hi (oW hb (cn hh ⟨hp,lc,.mk [0,1,2,3,4,5] _ _ (q c _ hc hcl hh) rfl⟩))) rfl))
theorem YE{L:Cs}{G:Kd->Prop}{i l₀:Nat}(o:rx kn v)(q:∀k,yL k (.cls .absent)=false->G k)(hx:dz L i=some (l₀,.gk kn)):A9 v L G:=by
 rcases o with o|⟨r,c,rfl,m,h⟩
 ·exact Cd (P:=λv=>A9 v L G) o (q _ rfl) (λ_=>q _ rfl) (λ_=>q _ rfl) λ_ _=>q _ rfl
 ·exact VD.mk i l₀ kn c hx m (q _ (beq_eq_false_iff_ne.mpr λz=>h (QE z)))
theorem BD{I:Fn->List RV->Cs->PE->PE->Prop}{x1 x2 lh' ln':Nat}{o1 o2 o3 o4:RO}{K:PF}{d:Nat}(hI:I=hI inl 6 (d+2))(hlen:ks.length=vs.length)(qo:∀k∈ks,isKey k=true)(hvs:∀v∈vs,rx kn v)(hs0:0<sz)
  (q:∀o hs ns,ns.length=vs.length->fz ks sz vs.length hs ns->K (.next [some (.r 0),o]) [(l,.inst .arr [.v (.bool pk),.r 1,.r 2,.r 8,.r 10,.v (.int sz),.v (.int ct),.v (.int nx),.v (.int 0),.v sh,.r 5]),(lk,.list (.raw ks)),(lv,.list (.raw vs)),(lh,o1),(ln,o2),(lw,.dict (.raw [])),(0,.gk kn),(x1,o3),(lh',.list (.raw hs)),(x2,o4),(ln',.list (.raw ns))]):
  ∀{n m:Nat}{hs ns:List AV}{o:Option RV},m+n=vs.length->ns.length=vs.length->fz ks sz m hs ns->
  lF I [1] (YJ (stN Bk 2)) E 1 (xV m n) [some (.r 0),o] [(l,.inst .arr [.v (.bool pk),.r 1,.r 2,.r 8,.r 10,.v (.int sz),.v (.int ct),.v (.int nx),.v (.int 0),.v sh,.r 5]),(lk,.list (.raw ks)),(lv,.list (.raw vs)),(lh,o1),(ln,o2),(lw,.dict (.raw [])),(0,.gk kn),(x1,o3),(lh',.list (.raw hs)),(x2,o4),(ln',.list (.raw ns))] K:=by
 subst hI
 intro n
 induction n with
 |zero=>exact λ{m hs ns o} e hn H=>q o hs ns hn (e▸H)
 |succ n ih=>
  intro m hs ns o e hn H
  have hm:m<vs.length:=e▸mW (tO n)
  have hk:ks[m]?=some ks[m]:=aO (hlen.symm▸hm)
  refine cz (λ_=>?_) λz=>?_
  ·refine cn (aO hm) (YE (i:=6) (hvs _ (mL hm)) (λk e2=>nQ (by rw[e2];rfl) (use [0,1,2,8,10,5] (Dy rfl hk (qo _ (mL _)) hs0 (hn▸hm) H.hlen λc h hc hcl hh=>?_) rfl)) rfl)
   have e':d7 ks sz m=c:=by unfold d7;rw[hk];exact hc
   have hh':=H.heads c hcl
   rw[hh] at hh'
   cases hh'
   exact ih ((bO m n).trans e) (by rw[aQ];exact hn) (H.link e' hcl (hn▸hm))
  ·exact absurd (bW.mpr hm) (of_decide_eq_false z)
noncomputable def v8(l lk lv lh ln lw:Nat)(p:Bool)(ks vs hs ns:List AV)(sz ct nx:Int)(sh:AV)(kn:List (Nat×bF)):Cs:=[(l,.inst .arr [.v (.bool p),.r 1,.r 2,.r 3,.r 4,.v (.int sz),.v (.int ct),.v (.int nx),.v (.int 0),.v sh,.r 5]),(lk,.list (.raw ks)),(lv,.list (.raw vs)),(lh,.list (.raw hs)),(ln,.list (.raw ns)),(lw,.dict (.raw [])),(0,.gk kn)]
theorem u4(hlen:ks.length=vs.length)(qo:∀k∈ks,isKey k=true)(hvs:∀v∈vs,rx kn v)(hs0:0<sz)(hs1:sz<=128)(hl:vs.length<=100)
  (q:∀lh' ln' hs' ns',ns'.length=vs.length->fz ks sz vs.length hs' ns'->Q (.v .none) [(l,.inst .arr [.v (.bool pk),.r 1,.r 2,.r 7,.r 8,.v (.int sz),.v (.int ct),.v (.int nx),.v (.int 0),.v sh,.r 5]),(lk,.list (.raw ks)),(lv,.list (.raw vs)),(lh,.gh []),(ln,.gh []),(lw,.dict (.raw [])),(0,.gk kn),(lh',.list (.raw hs')),(ln',.list (.raw ns'))]):
  Call (d+3) .D1 [.r 0] (v8 l lk lv lh ln lw pk ks vs hs ns sz ct nx sh kn) Q E:=by
 refine cf λx1=>bB (decide_eq_true ⟨rfl,jQ hs0,cE hs1 (by decide)⟩) λlh' x2=>bB (decide_eq_true ⟨rfl,bI _,cE (cD.mpr hl) (by decide)⟩) λln'=>bB (decide_eq_true ⟨aV _,ah hl (by decide)⟩) ?_
 obtain⟨m,rfl⟩:=cS (jQ hs0)
 exact .run (BD (d:=d) (x1:=x1) (x2:=x2) (hs:=aM m (.int (-1))) (ns:=aM vs.length (.int (-1))) rfl hlen qo hvs hs0 (λo hs' ns' hn' C'=>.mk [.one 0,.one 1,.one 2,.no lh,.no ln,.one 5,.one 6,.one 8,.one 10] _ _ (q lh' ln' hs' ns' hn' C') rfl) (cj _) (iE ..) .nil)
end
theorem vD{ps:List (AV×AV)}{k v:AV}(h:∀k'∈ps.map (·.1),k'≠k):dput ps k v=ps++[(k,v)]:=by
 induction ps with
 |nil=>rfl
 |cons p r ih=>
  rw[ma,if_neg (h p.1 (.head _)),ih λk'' hk=>h k'' (.tail _ hk)];rfl
theorem NI{ps:List (AV×AV)}{k v:AV}:∀{p:Nat},(ps.map (·.1)).Nodup->(ps.map (·.1))[p]?=some k->dput ps k v=ps.set p (k,v):=by
 induction ps with
 |nil=>exact λ_ h=>nomatch h
 |cons q r ih=>
  intro p hn h
  rw[cq,aJ] at hn
  cases p with
  |zero=>cases h;rw[ma,if_pos rfl];rfl
  |succ p=>rw[ma,if_neg λ(e:q.1=k)=>hn.1 (e▸av h),ih hn.2 h];rfl
theorem set_same{α:Type}{l:List α}{p:Nat}{a:α}(h:l[p]?=some a):l.set p a=l:=by
 apply Jp
 intro i
 by_cases e:p=i
 ·subst e;rw[a9 (aq.mp h).1,h]
 ·rw[bS e]
structure AD where
 p:Bool
 lk:Nat
 lv:Nat
 lh:Nat
 ln:Nat
 lw:Nat
 ks:List AV
 vs:List AV
 hs:List AV
 ns:List AV
 sz:Int
 ct:Int
 nx:Int
 sh:AV
 ab:List Nat
noncomputable def wX(a:AD):RO:=.inst .arr [.v (.bool a.p),.v (.ref a.lk),.v (.ref a.lv),.v (.ref a.lh),.v (.ref a.ln),.v (.int a.sz),.v (.int a.ct),.v (.int a.nx),.v (.int 0),.v a.sh,.v (.ref a.lw)]
noncomputable def Qp(ab:List Nat):List (Nat×aF):=ab.map λx=>(x,.inst .absent [.bool false])
noncomputable def wu(a:AD):List (Nat×aF):=(a.lk,.list a.ks)::(a.lv,.list a.vs)::(a.lh,.list a.hs)::(a.ln,.list a.ns)::(a.lw,.dict [])::(Qp a.ab++[])
structure HG(kn:List (Nat×bF))(ks vs hs ns:List AV)(sz ct:Int)(ps:List (AV×AV)):Prop where
 hk:ks=ps.map (·.1)
 hv:vs=ps.map (·.2)
 hn:ns.length=vs.length
 keys:∀k∈ks,isKey k=true
 nodup:ks.Nodup
 vals:∀v∈vs,rx kn v
 count:ct=ps.length
 s0:0<sz
 s1:sz<=64
 ch:fz ks sz ks.length hs ns
noncomputable def kI(b:Bool):Int:=if b then 7 else 3
noncomputable def gQ(ab:List Nat)(v:AV):List AV:=ab.map AV.ref++[v]
inductive Arr(kn:List (Nat×bF)):Bool->AD->List (AV×AV)->Prop where
 |nil {b:Bool} {lk lv lh ln lw:Nat} {nx:Int} {sh:AV}:Arr kn b ⟨true,lk,lv,lh,ln,lw,[],[],[],[],8,0,nx,sh,[]⟩ []
 |hole {b:Bool} {ab:List Nat} {lk lv lh ln lw:Nat} {nx:Int} {sh v:AV} (hb:(ab.length:Int)=kI b) (hv:rx kn v):Arr kn b ⟨true,lk,lv,lh,ln,lw,[],gQ ab v,[],[],8,1,nx,sh,ab⟩ [(.int ab.length,v)]
 |hash {b:Bool} {lk lv lh ln lw:Nat} {ks vs hs ns:List AV} {sz ct nx:Int} {sh:AV} {ps:List (AV×AV)} (H:HG kn ks vs hs ns sz ct ps):Arr kn b ⟨false,lk,lv,lh,ln,lw,ks,vs,hs,ns,sz,ct,nx,sh,[]⟩ ps
section
variable{d:Nat}{Q E:PE}{l lk lv lh ln lw:Nat}{ks vs hs ns:List AV}{sz ct nx:Int}{sh key v:AV}{kn:List (Nat×bF)}{ps:List (AV×AV)}{b:Bool}
theorem HG.snoc(H:HG kn ks vs hs ns sz ct ps)(hk:isKey key=true)(hv:rx kn v)(hn:∀k∈ks,k≠key){hs' ns':List AV}{sz':Int}(s0:0<sz')(s1:sz'<=64)(hl:ns'.length=vs.length)(C:fz ks sz' ks.length hs' ns'){c:Nat}{h:AV}(hc:(o9 key).fmod sz'=c)(hcl:(c:Int)<sz')(hh:hs'[c]?=some h):
  HG kn (ks++[key]) (vs++[v]) (hs'.set c (AV.int ks.length)) ((ns'++[AV.int (-1)]).set ks.length h) sz' (ct+1) (ps++[(key,v)]):=by
 have el:ks.length=vs.length:=by rw[H.hk,H.hv];simp
 have C':=C.app (k:=key) (x:=.int (-1))
 have e:d7 (ks++[key]) sz' ks.length=c:=by unfold d7;rw[cc];exact hc
 have hh':=C'.heads c hcl
 rw[hh] at hh'
 cases hh'
 refine⟨by rw[H.hk,aN];rfl,by rw[H.hv,aN];rfl,by simp[hl],λk m=>?_,?_,λw m=>?_,by rw[H.count];simp,s0,s1,?_⟩
 ·rcases cp.mp m with m|m
  ·exact H.keys k m
  ·rw[au.mp m];exact hk
 ·rw[dI]
  exact⟨H.nodup,by simp,λa m b m' e=>hn a m (e.trans (au.mp m'))⟩
 ·rcases cp.mp m with m|m
  ·exact H.vals w m
  ·rw[au.mp m];exact hv
 ·have:=C'.link e hcl (by simp[hl,el])
  rw[aw];exact this
noncomputable def Z5(l:Nat)(o:AD)(lk lv lh ln lw:Nat)(kn:List (Nat×bF)):Cs:=[(l,wX o),(lk,.gh []),(lv,.gh []),(lh,.gh []),(ln,.gh []),(lw,.gh []),(0,.gk kn),(0,.d6 (wu o))]
theorem zr(H:HG kn ks vs hs ns sz ct ps)(ik:isKey key=true)(hv:rx kn v)(hl:ps.length<30)(hn:∀k∈ks,k≠key)
  (q:∀lh' ln' hs' ns' sz',HG kn (ks++[key]) (vs++[v]) hs' ns' sz' (ct+1) (ps++[(key,v)])->Q (.v .none) (Z5 l ⟨false,lk,lv,lh',ln',lw,ks++[key],vs++[v],hs',ns',sz',ct,nx,sh,[]⟩ lk lv lh ln lw kn)):
  Call (d+4) .xG [.r 0,.v key,.v v] (v8 l lk lv lh ln lw false ks vs hs ns sz ct nx sh kn) Q E:=by
 have ek:ks.length=ps.length:=by rw[H.hk];simp
 have ev:vs.length=ps.length:=by rw[H.hv];simp
 have ap:∀{us:List AV},us.length<=100->decide (tX (.raw us)<lim)=true:=λh=>decide_eq_true (aB h (by decide))
 have z1:=H.s1
 have z0:=H.s0
 have wh:((vs++[v]).length:Int) - 1=ks.length:=(congrArg (λn:Nat=>(n:Int) - 1) (aw.trans (congrArg (·+1) (ev.trans ek.symm)))).trans (Jw (ks.length:Int) 1)
 have l1:ps.length<=100:=ah (bz hl) (by decide)
 have lk1:ks.length<=100:=ek▸l1
 have lv1:vs.length<=100:=ev▸l1
 have sp:0<sz*2:=Int.mul_pos z0 (by decide)
 refine cf (cz (λbig=>oW (b:=ct.fdiv (2^5)) (if_pos ⟨by decide,by decide,by rw[H.count];exact bI _⟩) (dS (decide_eq_false ?_) (oW (b:=sz*2) (if_pos (Bx (jQ z0) (fu z1 (by decide)))) (use [0,1,2,3,4,5,6] (u4 (ek.trans ev.symm) H.keys H.vals sp (uD z1 (by decide)) lv1 λlh' ln' hs' ns' hn' C'=>?_) rfl)))) λsmall=>?_)
 ·rw[H.count,yd _ (by decide),ev];exact gI.mpr (Int.le_add_of_nonneg_right (Int.ediv_nonneg (bI _) (by decide)))
 ·have big:=of_decide_eq_true big
  refine bB (ap lk1) (bB (ap lv1) (bB (ap (hn'▸lv1)) (use [0,1,2,7,8,5] (Dy (p:=ks.length) (k:=key) wh (cc ..) ik sp (by rw[aw,hn',ev,ek];exact bM _) C'.hlen λc h hc hcl hh=>?_) rfl)))
  exact .mk [.one 0,.no lk,.no lv,.no lh,.no ln,.no lw,.one 6,.gT [1,2,7,8,5]] _ _ (q _ _ _ _ _ (H.snoc ik hv hn sp (cE (uD big (by decide)) (cE (cD.mpr (Nat.mul_le_mul_right 2 (bz (ev▸hl)))) (by decide))) hn' (by rw[ek,<-ev];exact C') hc hcl hh)) rfl
 ·refine bB (ap lk1) (bB (ap lv1) (bB (ap (H.hn▸lv1)) (use [0,1,2,3,4,5] (Dy (p:=ks.length) (k:=key) wh (cc ..) ik z0 (by rw[aw,H.hn,ev,ek];exact bM _) H.ch.hlen λc h hc hcl hh=>?_) rfl)))
  exact .mk [.one 0,.no lk,.no lv,.no lh,.no ln,.no lw,.one 6,.gT [1,2,3,4,5]] _ _ (q _ _ _ _ _ (H.snoc ik hv hn z0 z1 H.hn H.ch hc hcl hh)) rfl
end
noncomputable def inA(f:Fn):Bool:=inl f||jO f [.DQ,.Ea,.si,.j5,.oB]
noncomputable def YI(f:Fn):Bool:=inl f||jO f [.find,.add,.j5,.oB]
noncomputable def Qs(ab:List Nat):List (Nat×bF):=ab.map λx=>(x,.absent)
theorem Gs{ab:List Nat}:∀p∈Qs ab,p.2.isExc=false/\∃fs,(p.1,aF.inst p.2 fs)∈Qp ab:=λp m=>(aS.mp m).elim λx z=>z.2▸⟨rfl,_,aU z.1⟩
noncomputable def lU(l:Nat)(a:AD)(kn:List (Nat×bF)):Cs:=[(l,wX a),(0,.d6 (wu a)),(0,.gk kn)]
section
variable{d:Nat}{Q E:PE}{l lk lv lh ln lw:Nat}{ks vs hs ns:List AV}{sz ct nx:Int}{sh key v:AV}{kn:List (Nat×bF)}{ps:List (AV×AV)}{b:Bool}{ab:List Nat}
theorem Hx(H:HG kn ks vs hs ns sz ct ps)(hk:(∃i,key=.int i)\/∃s,key=.str s)(hv:rx kn v)(hl:ps.length<30)(hn:∀k∈ks,k≠key)
  (q:∀a',Arr kn b a' (ps++[(key,v)])->Q (.v .none) (Z5 l a' lk lv lh ln lw kn)):
  Call (d+5) .add [.r 0,.v key,.v v] (v8 l lk lv lh ln lw false ks vs hs ns sz ct nx sh kn) Q E:=by
 refine i9 inl (use [0,1,2,3,4,5,6] (zr H (by rcases hk with⟨i,rfl⟩|⟨s,rfl⟩<;>rfl) hv hl hn λlh' ln' hs' ns' sz' G=>?_) rfl)
 rcases hk with⟨i,rfl⟩|⟨s,rfl⟩
 ·exact cz (λ_=>q ⟨false,lk,lv,lh',ln',lw,_,_,hs',ns',sz',_,_,sh,[]⟩ (.hash G)) λ_=>q ⟨false,lk,lv,lh',ln',lw,_,_,hs',ns',sz',_,_,sh,[]⟩ (.hash G)
 ·exact q ⟨false,lk,lv,lh',ln',lw,_,_,hs',ns',sz',_,nx,sh,[]⟩ (.hash G)
theorem HG.nil{hs ns:List AV}{n:Int}(h0:0<n)(h1:n<=64)(hn:ns.length=0)(C:fz [] n 0 hs ns):HG kn [] [] hs ns n 0 []:=
 ⟨rfl,rfl,hn,λ_=>mq,.nil,λ_=>mq,rfl,h0,h1,C⟩
theorem HG.one{k:AV}{n:Int}(hk:isKey k=true)(hv:rx kn v)(h0:0<n)(h1:n<=64)(hn:ns.length=1)(C:fz [k] n 1 hs ns):HG kn [k] [v] hs ns n 1 [(k,v)]:=
 ⟨rfl,rfl,hn,λ_ m=>au.mp m▸hk,aJ.mpr ⟨dk,.nil⟩,λ_ m=>au.mp m▸hv,rfl,h0,h1,C⟩
noncomputable abbrev ends(lk lv lh ln lw:Nat)(x:Nat):List Pk:=[.one 0,.no lk,.no lv,.no lh,.no ln,.no lw,.one 6,.one x]
theorem Lv{s:S}(hv:rx kn v)(q:∀a',Arr kn b a' [(.str s,v)]->Q (.v .none) (Z5 l a' lk lv lh ln lw kn)):
  Call (d+7) .add [.r 0,.v (.str s),.v v] (v8 l lk lv lh ln lw true [] [] [] [] 8 0 nx sh kn) Q E:=by
 refine km inA λk1=>.run λg1=>.run λg2 g3=>.run (.run λlk'=>.run λlv'=>use [0,11,12,3,4,5,6] (u4 (vs:=[]) (ks:=[]) rfl (λ_=>mq) (λ_=>mq) (by decide) (by decide) (aV _) λlh' ln' hs' ns' hn' C'=>?_) rfl)
 refine use [0,11,12,13,14,5,6] (zr (.nil (by decide) (by decide) hn' C') rfl hv (by decide) (λ_=>mq) λlh'' ln'' hs'' ns'' sz'' G=>?_) rfl
 exact .mk (ends lk lv lh ln lw 15) _ _ (q ⟨false,lk',lv',lh'',ln'',lw,_,_,hs'',ns'',sz'',_,nx,sh,[]⟩ (.hash G)) rfl
noncomputable def UR(l lk lv lh ln lw:Nat)(sz nx:Int)(sh:AV)(kn:List (Nat×bF))(ab:List Nat)(v:AV):Cs:=[(l,.inst .arr [.v (.bool true),.r 1,.r 2,.r 3,.r 4,.v (.int sz),.v (.int 1),.v (.int nx),.v (.int 0),.v sh,.r 5]),(lk,.list (.raw [])),(lv,.list (.raw (gQ ab v))),(lh,.list (.raw [])),(ln,.list (.raw [])),(lw,.dict (.raw [])),(0,.gk kn),(0,.d6 (Qp ab))]
noncomputable def Tq(K m:Nat):List AV:=if m<=K then[] else[.int K]
theorem yP{K m:Nat}(h:m<=K):[]=Tq K m:=(if_pos h).symm
theorem L9{K m:Nat}(h:K<m):[.int K]=Tq K m:=(if_neg (Nat.not_le_of_lt h)).symm
theorem jy:(gQ ab v).length=ab.length+1:=by unfold gQ;rw[aw,aj];rfl
theorem R5{m:Nat}(h:m<ab.length):(gQ ab v)[m]?=some (.ref ab[m]):=(bk (by rw[aj];exact h)).trans (by rw[bw,aO h];rfl)
theorem Ek:(gQ ab v)[ab.length]?=some v:=(cX (by rw[aj];exact aK _)).trans (by rw[aj,tN];rfl)
theorem Bl(hv:rx kn v)(hb:ab.length<=7)(h0:0<sz)(h1:sz<=64)(q:∀lk' lv' lh' ln' hs' ns',ns'.length=1->fz [.int ab.length] sz 1 hs' ns'->Q (.v .none) [(l,.inst .arr [.v (.bool false),.r 9,.r 10,.r 11,.r 12,.v (.int sz),.v (.int 1),.v (.int nx),.v (.int 0),.v sh,.r 5]),(lk,.gh []),(lv,.gh []),(lh,.gh []),(ln,.gh []),(lw,.dict (.raw [])),(0,.gk kn),(0,.gh []),(0,.gh []),(lk',.list (.raw [.int ab.length])),(lv',.list (.raw [v])),(lh',.list (.raw hs')),(ln',.list (.raw ns'))]):
  Call (d+5) .DQ [.r 0] (UR l lk lv lh ln lw sz nx sh kn ab v) Q E:=by
 have hl:(gQ ab v).length<=lim:=jy (v:=v)▸ah (aP hb) (by decide)
 refine XK (i:=7) rfl Gs (km inA (bB (decide_eq_true hl) λk1=>bB (decide_eq_true ⟨aV _,hl⟩) (.WI (Tq ab.length) (yP (aV _)) (λm hm=>?_) ?_ rfl)))
 ·refine cz (λ_=>?_) λz=>absurd (bW.mpr hm) (of_decide_eq_false z)
  by_cases e:m<ab.length
  ·exact cn (R5 e) (VD.mk 8 0 (Qs ab) .absent rfl (aU (mL e)) (.id () ((yP (bz e)).symm.trans (yP e)) rfl))
  ·obtain rfl:m=ab.length:=jn (hO (Jx hm jy)) (bp e)
   exact cn Ek (YE (i:=6) hv (λk e2=>nQ (by rw[e2];rfl) (.id () ((congrArg (·++_) (yP (aK _)).symm).trans (L9 (bM _))) rfl)) rfl)
 ·rw[show(gQ ab v).length - 0=ab.length+1 from jy,<-L9 (bM ab.length)]
  refine bB (decide_eq_true (by decide:1<=lim)) λk2=>.run (λk3 k4=>.run (.run (cn (a:=.int ab.length) ?_ λlk'=>.run (cn Ek λlv'=>use [0,13,14,3,4,5,6] (u4 (ks:=[.int ab.length]) (vs:=[v]) rfl (λ_ m=>au.mp m▸rfl) (λ_ m=>au.mp m▸hv) h0 (cE h1 (by decide)) (b9 rfl) λlh' ln' hs' ns' hn' C'=>?_) rfl))))
  ·rw[bw,qk (jy (v:=v)▸bM _)];rfl
  ·exact .mk [.one 0,.no lk,.no lv,.no lh,.no ln,.one 5,.one 6,.no 0,.no 0,.one 13,.one 14,.one 15,.one 16] _ _ (q lk' lv' lh' ln' hs' ns' hn' C') rfl
end
section
variable{d:Nat}{Q E:PE}{l lk lv lh ln lw:Nat}{ks vs hs ns:List AV}{sz ct nx:Int}{sh key v:AV}{kn:List (Nat×bF)}{ps:List (AV×AV)}{b:Bool}{ab:List Nat}
theorem zF{i:Int}{s:S}:¬AV.int i=.str s:=λe=>AV.noConfusion e
theorem Lf{α:Type}{a k:α}(h:a≠k):∀x∈[a],x≠k:=λ_ m=>au.mp m▸h
theorem Iy(H:HG kn ks vs hs ns sz ct ps)(hk:(∃i,key=.int i)\/∃s,key=.str s)(hv:rx kn v)(hl:ps.length<30)
  (q:∀a',Arr kn b a' (dput ps key v)->Q (.v .none) (lU l a' kn)):
  Call (d+6) .put [.r 0,.v key,.v v] (lU l ⟨false,lk,lv,lh,ln,lw,ks,vs,hs,ns,sz,ct,nx,sh,[]⟩ kn) Q E:=by
 have ik:isKey key=true:=hk.elim (λ⟨_,e⟩=>e▸rfl) λ⟨_,e⟩=>e▸rfl
 have ek:ks.length=ps.length:=by rw[H.hk,aj]
 refine uu (v8 l lk lv lh ln lw false ks vs hs ns sz ct nx sh kn) [.r 0,.v key,.v v] [.one 0,.gT [1,2,3,4,5],.one 6]
  (i9 inl (use [0,1,2,3,4,5] (S5 ik H.keys H.s0 (ek▸ah (bz hl) (by decide)) H.ch (λhn=>?_) λp hp=>?_) rfl)) rfl
 ·exact use [0,1,2,3,4,5,6] (Hx (b:=b) H hk hv hl hn λa' G=>.mk [.one 0,.one 7,.one 6] _ _ (q a' (vD (H.hk▸hn)▸G)) rfl) rfl
 have hp':=H.hk▸hp
 refine⟨?_,.mk [.one 0,.gT [1,2,3,4,5],.one 6] _ _ (q ⟨false,lk,lv,lh,ln,lw,ks,vs.set p v,hs,ns,sz,ct,nx,sh,[]⟩ ?_) rfl⟩
 ·have z:=(aq.mp hp).1
  rwa [ek,<-aj (f:=(·.2)),<-H.hv] at z
 ·rw[NI (H.hk▸H.nodup) hp']
  refine .hash {H with hk:=?_,hv:=?_,hn:=?_,vals:=λw m=>(List.mem_or_eq_of_mem_set m).elim (H.vals w) λe=>e▸hv,count:=?_}
  ·rw[sS,set_same hp'];exact H.hk
  ·rw[sS,H.hv]
  ·rw[aQ];exact H.hn
  ·rw[aQ];exact H.count
theorem IH{s:S}(hv:rx kn v)(q:∀a',Arr kn b a' [(.str s,v)]->Q (.v .none) (lU l a' kn)):
  Call (d+8) .put [.r 0,.v (.str s),.v v] (lU l ⟨true,lk,lv,lh,ln,lw,[],[],[],[],8,0,nx,sh,[]⟩ kn) Q E:=
 uu (v8 l lk lv lh ln lw true [] [] [] [] 8 0 nx sh kn) [.r 0,.v (.str s),.v v] [.one 0,.gT [1,2,3,4,5],.one 6]
  (i9 (λf=>inl f||f==.find) (use [0,1,2,3,4,5,6] (Lv (b:=b) hv λa' G=>.mk [.one 0,.one 7,.one 6] _ _ (q a' G) rfl) rfl)) rfl
theorem EZ{s:S}(hv:rx kn v)(hv':rx kn key)(hb:ab.length<=7)(q:∀a',Arr kn b a' [(.int ab.length,key),(.str s,v)]->Q (.v .none) (lU l a' kn)):
  Call (d+8) .put [.r 0,.v (.str s),.v v] (lU l ⟨true,lk,lv,lh,ln,lw,[],gQ ab key,[],[],8,1,nx,sh,ab⟩ kn) Q E:=by
 refine uu (UR l lk lv lh ln lw 8 nx sh kn ab key) [.r 0,.v (.str s),.v v] [.one 0,.gT [1,2,3,4,5,7],.one 6] (i9 YI (cz (λ_=>use [0,1,2,3,4,5,6,7] (Bl (sz:=16) hv' hb (by decide) (by decide) λlk' lv' lh' ln' hs' ns' hn' C'=>?_) rfl) λ_=>use [0,1,2,3,4,5,6,7] (Bl (sz:=8) hv' hb (by decide) (by decide) λlk' lv' lh' ln' hs' ns' hn' C'=>?_) rfl)) rfl
 ·exact use [0,9,10,11,12,5,6] (zr (.one rfl hv' (by decide) (by decide) hn' C') rfl hv (b9 rfl) (Lf zF) λlh'' ln'' hs'' ns'' sz'' G=>.mk [.one 0,.one 13,.one 6] _ _ (q ⟨false,lk',lv',lh'',ln'',lw,_,_,hs'',ns'',sz'',_,nx,sh,[]⟩ (.hash G)) rfl) rfl
 ·exact use [0,9,10,11,12,5,6] (zr (.one rfl hv' (by decide) (by decide) hn' C') rfl hv (b9 rfl) (Lf zF) λlh'' ln'' hs'' ns'' sz'' G=>.mk [.one 0,.one 13,.one 6] _ _ (q ⟨false,lk',lv',lh'',ln'',lw,_,_,hs'',ns'',sz'',_,nx,sh,[]⟩ (.hash G)) rfl) rfl
theorem MG:gQ ab v=(gQ ab key).set ab.length v:=by
 unfold gQ
 rw[CK _ _ (aH (aj _)),aj,tN];rfl
theorem CY(hb':(ab.length:Int)=kI b)(hv:rx kn v)(hv':rx kn key)(q:∀a',Arr kn b a' [(.int ab.length,v)]->Q (.v .none) (lU l a' kn)):
  Call (d+8) .put [.r 0,.v (.int ab.length),.v v] (lU l ⟨true,lk,lv,lh,ln,lw,[],gQ ab key,[],[],8,1,nx,sh,ab⟩ kn) Q E:=
 uu (UR l lk lv lh ln lw 8 nx sh kn ab key) [.r 0,.v (.int ab.length),.v v] [.one 0,.gT [1,2,3,4,5,7],.one 6] (i9 YI (nQ (decide_eq_true (by rw[jy];exact bW.mpr (bM _))) (cn Ek (YE (i:=6) hv' (λk e2=>nQ (by rw[e2];rfl) ⟨by rw[jy];exact bM _,.mk [.one 0,.gT [1,2,3,4,5,7],.one 6] _ _ (q ⟨true,lk,lv,lh,ln,lw,_,(gQ ab key).set ab.length v,_,_,8,1,nx,sh,ab⟩ (MG▸.hole hb' hv)) rfl⟩) rfl)))) rfl
theorem Ex(hv:rx kn v)(q:∀a',Arr kn false a' [(.int 3,v)]->Q (.v .none) (lU l a' kn)):
  Call (d+8) .put [.r 0,.v (.int 3),.v v] (lU l ⟨true,lk,lv,lh,ln,lw,[],[],[],[],8,0,nx,sh,[]⟩ kn) Q E:=
 uu (v8 l lk lv lh ln lw true [] [] [] [] 8 0 nx sh kn) [.r 0,.v (.int 3),.v v] [.one 0,.gT [1,2,3,4,5],.one 6] (i9 YI λx y z=>cz (λ_=>.mk [.one 0,.gT [1,2,3,4,5,7,8,9],.one 6] _ _ (q ⟨true,lk,lv,lh,ln,lw,_,gQ [x,y,z] v,_,_,8,1,_,sh,[x,y,z]⟩ (.hole rfl hv)) rfl) λ_=>.mk [.one 0,.gT [1,2,3,4,5,7,8,9],.one 6] _ _ (q ⟨true,lk,lv,lh,ln,lw,_,gQ [x,y,z] v,_,_,8,1,_,sh,[x,y,z]⟩ (.hole rfl hv)) rfl) rfl
theorem Dm(hv:rx kn v)(q:∀a',Arr kn true a' [(.int 7,v)]->Q (.v .none) (lU l a' kn)):
  Call (d+8) .put [.r 0,.v (.int 7),.v v] (lU l ⟨true,lk,lv,lh,ln,lw,[],[],[],[],8,0,nx,sh,[]⟩ kn) Q E:=
 uu (v8 l lk lv lh ln lw true [] [] [] [] 8 0 nx sh kn) [.r 0,.v (.int 7),.v v] [.one 0,.gT [1,2,3,4,5],.one 6] (i9 YI λx y z u w o t=>cz (λ_=>.mk [.one 0,.gT [1,2,3,4,5,7,8,9,10,11,12,13],.one 6] _ _ (q ⟨true,lk,lv,lh,ln,lw,_,gQ [x,y,z,u,w,o,t] v,_,_,8,1,_,sh,[x,y,z,u,w,o,t]⟩ (.hole rfl hv)) rfl) λ_=>.mk [.one 0,.gT [1,2,3,4,5,7,8,9,10,11,12,13],.one 6] _ _ (q ⟨true,lk,lv,lh,ln,lw,_,gQ [x,y,z,u,w,o,t] v,_,_,8,1,_,sh,[x,y,z,u,w,o,t]⟩ (.hole rfl hv)) rfl) rfl
theorem Q3{n:Nat}(h:(n:Int)=kI b):n<=7:=by
 cases b with
 |false=>exact cD.mp (cE (CG h) (by decide))
 |true=>exact cD.mp (CG h)
theorem F0{a:AD}(A:Arr kn b a ps)(hk:key=.int (kI b)\/∃s,key=.str s)(hv:rx kn v)(hl:ps.length<30)(q:∀a',Arr kn b a' (dput ps key v)->Q (.v .none) (lU l a' kn)):
  Call (d+8) .put [.r 0,.v key,.v v] (lU l a kn) Q E:=by
 cases A with
 |nil=>
  rcases hk with rfl|⟨s,rfl⟩
  ·cases b with
   |false=>exact Ex hv q
   |true=>exact Dm hv q
  ·exact IH hv q
 |hole hb hv'=>
  rcases hk with rfl|⟨s,rfl⟩
  ·rw[<-hb] at q⊢
   exact CY hb hv hv' λa' A=>q a' (by rw[ma,if_pos rfl];exact A)
  ·exact EZ hv hv' (Q3 hb) λa' A=>q a' (by rw[ma,if_neg zF];exact A)
 |hash H=>exact Iy H (hk.imp (λe=>⟨_,e⟩) id) hv hl q
end
noncomputable def lz(ps:List (AV×AV)):List (List AV):=ps.map λp=>[p.1,p.2]
noncomputable def jR(G:List (Nat×List AV)):List AV:=G.map λg=>.ref g.1
noncomputable def EV(p:Bool)(ks:List AV)(m:Nat)(k:AV):Prop:=xh (ks[m]?=some k) (k=.int m) p
theorem EV.e{p:Bool}{ks:List AV}{m:Nat}{k:AV}{P Q:Prop}(h:EV p ks m k)(h1:k=.int m->P)(h2:ks[m]?=some k->Q):wt p P Q:=xh (motive:=λp=>EV p ks m k->wt p P Q) h2 h1 p h
class inductive xq(kn:List (Nat×bF))(ab:List Nat)(p:Bool)(ks:List AV):Nat->List AV->List (AV×AV)->Prop where
 |nil {m:Nat}:xq kn ab p ks m [] []
 |dead {m x:Nat} {r:List AV} {ps:List (AV×AV)} (h:x∈ab) (R:xq kn ab p ks (m+1) r ps):xq kn ab p ks m (.ref x::r) ps
 |live {m:Nat} {k v:AV} {r:List AV} {ps:List (AV×AV)} (hv:rx kn v) (hk:EV p ks m k) (R:xq kn ab p ks (m+1) r ps):xq kn ab p ks m (v::r) ((k,v)::ps)
section
variable{d:Nat}{Q E:PE}{l lk lv lh ln lw m:Nat}{ks vs hs ns r:List AV}{sz ct nx:Int}{sh key v:AV}{kn:List (Nat×bF)}{ps ps':List (AV×AV)}{b p:Bool}{ab:List Nat}{P:Prop}
theorem xq.e{r':List AV}(R:xq kn ab p ks m r' ps')(e:r'=v::r)(K1:∀x,v=.ref x->x∈ab->xq kn ab p ks (m+1) r ps'->P)(K2:∀k ps'',ps'=(k,v)::ps''->rx kn v->EV p ks m k->xq kn ab p ks (m+1) r ps''->P):P:=by
 subst e
 cases R with
 |dead h R=>exact K1 _ rfl h R
 |live hv hk R=>exact K2 _ _ rfl hv hk R
theorem xq.e0(R:xq kn ab p ks m r ps')(e:r=[]):ps'=[]:=by
 subst e
 cases R
 rfl
inductive IT(kn:List (Nat×bF))(ab:List Nat)(p:Bool)(ks vs:List AV)(ps:List (AV×AV))(m:Nat)(G:List (Nat×List AV)):Prop where
 |mk (ps':List (AV×AV)) (R:xq kn ab p ks m (vs.drop m) ps') (hG:G.map (·.2)++lz ps'=lz ps)
theorem IT.snoc{G:List (Nat×List AV)}{t:Nat}{k:AV}{ps'':List (AV×AV)}(e:ps'=(k,v)::ps'')(h:G.map (·.2)++lz ps'=lz ps)(R:xq kn ab p ks (m+1) (vs.drop (m+1)) ps''):IT kn ab p ks vs ps (m+1) (G++[(t,[k,v])]):=
 .mk ps'' R (by rw[aN,ay];subst e;exact h)
theorem IT.done{G:List (Nat×List AV)}(I:IT kn ab p ks vs ps vs.length G):G.map (·.2)=lz ps:=I.casesOn λps' R h=>by
 rw[R.e0 (Cp (aK vs.length))] at h
 exact(bf _).symm.trans h
theorem fU{G:List (Nat×List AV)}{t:Nat}{x:List AV}:jR G++[.ref t]=jR (G++[(t,x)]):=(aN (f:=λg:Nat×List AV=>AV.ref g.1) (l₁:=G) (l₂:=[(t,x)])).symm
theorem oA{G:List (Nat×List AV)}(h:G.map (·.2)=lz ps):(jR G).length=ps.length:=by
 have z:=congrArg i6 h
 unfold lz at z
 rw[aj,aj] at z
 exact(aj _).trans z
noncomputable def LL(l:Nat)(a:AD)(kn:List (Nat×bF))(G:List (Nat×List AV))(lr:Nat):Cs:=[(l,wX a),(0,.d6 (wu a)),(0,.gk kn),(0,.gh G),(lr,.list (.raw (jR G)))]
noncomputable def WS(l lk lv lh ln lw:Nat)(p:Bool)(ks vs hs ns:List AV)(sz ct nx:Int)(sh:AV)(kn:List (Nat×bF))(ab:List Nat)(G:List (Nat×List AV)):Cs:=[(l,.inst .arr [.v (.bool p),.r 1,.r 2,.r 3,.r 4,.v (.int sz),.v (.int ct),.v (.int nx),.v (.int 0),.v sh,.r 5]),(lk,.list (.raw ks)),(lv,.list (.raw vs)),(lh,.list (.raw hs)),(ln,.list (.raw ns)),(lw,.dict (.raw [])),(0,.gk kn),(0,.d6 (Qp ab)),(0,.gh G)]
theorem oO(R:xq kn ab p ks 0 vs ps)(hl:ps.length<=100)(hl':vs.length<=100)(q:∀G lr,G.map (·.2)=lz ps->Q (.r 4) (LL l ⟨p,lk,lv,lh,ln,lw,ks,vs,hs,ns,sz,ct,nx,sh,ab⟩ kn G lr)):
  Call (d+3) .slotsOf [.r 0] (lU l ⟨p,lk,lv,lh,ln,lw,ks,vs,hs,ns,sz,ct,nx,sh,ab⟩ kn) Q E:=by
 refine An (uu (WS l lk lv lh ln lw p ks vs hs ns sz ct nx sh kn ab []) [.r 0] [.one 0,.gT [1,2,3,4,5,7],.one 6,.one 8] (XK (i:=7) rfl Gs (i9 inl (bB (decide_eq_true ⟨aV _,ah hl' (by decide)⟩)
  (.xV (τ:=λm=>{G//IT kn ab p ks vs ps m G}) (λ_ t=>jR t.1) (λ_ t=>WS l lk lv lh ln lw p ks vs hs ns sz ct nx sh kn ab t.1++[(0,RO.gk (Qs ab))]) (.id ⟨[],.mk ps R rfl⟩ rfl rfl) (λm hm t=>t.2.casesOn λps' R hG=>?_) λt=>have hG:=IT.done t.2;bB (decide_eq_true (ah (aH (oA hG)) (ah hl (by decide)))) λlr=>.mk [.one 0,.gT [1,2,3,4,5,7],.one 6,.one 8,.one 10] _ _ (q t.1 lr hG) rfl)))) rfl)
 have hv:=aO hm
 refine cz (λ_=>cn hv (R.e (yg hm) (λx e h R=>e▸VD.mk 9 0 (Qs ab) .absent rfl (aU h) (.id ⟨t.1,.mk ps' R hG⟩ rfl rfl)) λk ps'' e o hk R=>YE (i:=6) o (λk e2=>nQ (by rw[e2];rfl) (hk.e (λe3=>?_) λhk=>?_)) rfl)) λz=>absurd (bW.mpr hm) (of_decide_eq_false z)
 ·exact cn hv λt'=>.mk [.one 0,.one 1,.one 2,.one 3,.one 4,.one 5,.one 6,.one 7,.gh 8 [10],.one 9] ⟨_,.snoc (e3▸e) hG R⟩ fU rfl
 ·exact cn hk (cn hv λt'=>.mk [.one 0,.one 1,.one 2,.one 3,.one 4,.one 5,.one 6,.one 7,.gh 8 [10],.one 9] ⟨_,.snoc e hG R⟩ fU rfl)
theorem xq.of:∀{m:Nat},(∀i x,ps[i]?=some x->rx kn x.2/\EV p ks (m+i) x.1)->xq kn ab p ks m (ps.map (·.2)) ps:=by
 induction ps with
 |nil=>exact λ_=>.nil
 |cons x r ih=>exact λ{m} h=>.live (h 0 x rfl).1 (h 0 x rfl).2 (ih λi y e=>bO m i▸h (i+1) y e)
theorem xq.of'(e:vs=ps.map (·.2))(h:∀i x,ps[i]?=some x->rx kn x.2/\EV p ks (0+i) x.1):xq kn ab p ks 0 vs ps:=e▸.of h
theorem xq.hole{ab':List Nat}(hv:rx kn v)(h:∀x∈ab',x∈ab):∀{m n:Nat},n=m+ab'.length->xq kn ab true ks m (gQ ab' v) [(.int (n:Nat),v)]:=by
 induction ab' with
 |nil=>exact λe=>.live hv (congrArg (λn:Nat=>AV.int n) e) .nil
 |cons x r ih=>exact λe=>.dead (h x (.head _)) (ih (λy m=>h y (.tail _ m)) (e.trans (bO ..).symm))
noncomputable def vB:Nat->List AV->List (AV×AV)
 |_,[]=>[]
 |n,v::r=>(.int (n:Nat),v)::vB (n+1) r
theorem u7:∀{n i:Nat}{x:AV×AV},(vB n vs)[i]?=some x->vs[i]?=some x.2/\x.1=.int (n+i:Nat):=by
 induction vs with
 |nil=>exact λh=>ns h
 |cons a r ih=>exact λ{n i x} h=>(by
   cases i with
   |zero=>rw[<-ae h];exact⟨rfl,rfl⟩
   |succ i=>exact bO n i▸ih (n:=n+1) h)
theorem qC:∀{n:Nat},(vB n vs).length=vs.length:=by
 induction vs with
 |nil=>exact rfl
 |cons a r ih=>exact congrArg de ih
theorem qN:∀{n:Nat},(vB n vs).map (·.2)=vs:=by
 induction vs with
 |nil=>exact rfl
 |cons a r ih=>exact congrArg (a::·) ih
inductive RI(kn:List (Nat×bF)):AD->List (AV×AV)->Prop where
 |arr {b:Bool} {a:AD} {ps:List (AV×AV)} (A:Arr kn b a ps):RI kn a ps
 |lst {lk lv lh ln lw:Nat} {vs:List AV} {sz ct nx:Int} {sh:AV} (hv:∀v∈vs,rx kn v):RI kn ⟨true,lk,lv,lh,ln,lw,[],vs,[],[],sz,ct,nx,sh,[]⟩ (vB 0 vs)
theorem ui{a:AD}(A:RI kn a ps)(hl:ps.length<=100)(q:∀G lr,G.map (·.2)=lz ps->Q (.r 4) (LL l a kn G lr)):Call (d+3) .slotsOf [.r 0] (lU l a kn) Q E:=by
 cases A with
 |arr A=>cases A with
  |nil=>exact oO .nil hl (by decide) q
  |hole hb hv=>exact oO (.hole hv (λ_ m=>m) (cj _).symm) hl (jy▸ah (aP (Q3 hb)) (by decide)) q
  |hash H=>exact oO (.of' H.hv λi x e=>⟨H.vals _ (H.hv▸aU (av e)),(cj i).symm▸H.hk▸(bw ..).trans (congrArg _ e)⟩) hl (by rw[H.hv,aj];exact hl) q
 |lst hv=>exact oO (.of' qN.symm λi x e=>⟨hv _ (av (u7 e).1),(u7 e).2⟩) hl (qC▸hl) q
end
section
variable{d:Nat}{Q E:PE}{l m r:Nat}{a b v:AV}{kn:List (Nat×bF)}{ps:List (AV×AV)}{G:List (Nat×List AV)}
theorem v3{L:Cs}{G:Kd->Prop}(o:oC v=true)(q:∀k,(∀c,yL k (.cls c)=false)->G k):A9 v L G:=
 Cd (P:=λv=>A9 v L G) o (q _ λ_=>rfl) (λ_=>q _ λ_=>rfl) (λ_=>q _ λ_=>rfl) λ_ _=>q _ λ_=>rfl
theorem j0(e:G.map (·.2)=lz ps):∀x∈G,∃a b,x.2=[a,b]:=λx m=>(aS.mp (e▸aU (f:=λg:Nat×List AV=>g.2) m)).elim λp z=>⟨p.1,p.2,z.2.symm⟩
theorem nO(e:G.map (·.2)=lz ps)(h:G[m]?=some (r,[a,b])):ps[m]?=some (a,b):=by
 have z:=congrArg (λs:List (List AV)=>s[m]?) e
 unfold lz at z
 rw[bw,bw,h] at z
 cases hp:ps[m]? with
 |none=>rw[hp] at z;exact ns z.symm
 |some p=>
  rw[hp] at z
  have z:=ae z
  exact congrArg some (Prod.ext (dJ z).1 (dJ (dJ z).2).1).symm
theorem il{α:Type}{us:List α}{m:Nat}{v:α}(h:us[m]?=some v):us.drop m=v::us.drop (m+1):=(aq.mp h).elim λhm e=>e▸yg hm
theorem nV{α:Type}{us:List α}:us.drop us.length=[]:=Cp (aK _)
noncomputable def N7(G N:List (Nat×List AV))(m:Nat):Prop:=N.map (·.2)++(G.drop m).map (·.2)=G.map (·.2)
theorem N7.snoc{N:List (Nat×List AV)}{t:Nat}(h:G[m]?=some (r,[a,b]))(F:N7 G N m):N7 G (N++[(t,[a,b])]) (m+1):=by
 unfold N7 at F⊢
 rw[il h] at F
 rw[aN,ay];exact F
theorem N7.done{N:List (Nat×List AV)}(F:N7 G N G.length):N.map (·.2)=G.map (·.2):=by
 unfold N7 at F
 rw[nV] at F
 exact(bf _).symm.trans F
theorem r4{a:AD}(A:RI kn a ps)(hl:ps.length<=100)(hf:∀p∈ps,oC p.2=true)(q:∀G lr,G.map (·.2)=lz ps->Q (.r 4) (LL l a kn G lr)):Call (d+4) .entries [.r 0] (lU l a kn) Q E:=
 An (cf (use [0,1,2] (ui A hl λG lr hG=>
  .lz (X:=G) (τ:=λm=>{N//N7 G N m}) (λ_ t=>jR t.1) (λ_ t=>[(l,wX a),(0,.d6 (wu a)),(0,.gk kn),(0,.gh t.1),(0,.gh G),(lr,.ro (.list (.raw (jR G))))]) (λ_ _=>⟨4,0,rfl⟩) (.id ⟨[],rfl⟩ rfl rfl)
   (λm r x y e t=>have o:=hf _ (av (nO hG e));cn rfl (v3 o λk hk=>dS (hk _) (v3 o λk hk=>dS (hk _) (v3 o λk hk=>dS (hk _) λt'=>.mk [.one 0,.one 1,.one 2,.gh 3 [6],.one 4,.one 5] ⟨_,N7.snoc e t.2⟩ fU rfl))))
   (j0 hG) λt=>have hN:=(N7.done t.2).trans hG;bB (decide_eq_true (ah (aH (oA hN)) (ah hl (by decide)))) λlr'=>.mk [.one 0,.one 1,.one 2,.one 3,.one 6] _ _ (q t.1 lr' hN) rfl) rfl))
end
noncomputable def Zi(f:Fn):Bool:=inl f||jO f [.j5,.oB,.add]
noncomputable def YC(f:Fn):Bool:=inl f&&f !=.qJ
noncomputable def Sb(n:Nat):Int:=if n<=8 then 8 else 16
noncomputable def YH:Nat->Int
 |0=> -2^63
 |n+1=>(n+1:Nat)
noncomputable def kr(lk lv lh ln lw n:Nat)(vs:List AV):AD:=⟨true,lk,lv,lh,ln,lw,[],vs,[],[],Sb n,n,YH n,.bool false,[]⟩
section
variable{d:Nat}{Q E:PE}{l lk lv lh ln lw n:Nat}{vs:List AV}{sh v:AV}{kn:List (Nat×bF)}
theorem ltT{a b:Int}(h:a<b):(!decide (a<b))=false:=congrArg (!·) (decide_eq_true h)
theorem Xb:∀k:_root_.Fin 14,¬k.val=7->Sb (k.val+1+1)=Sb (k.val+1)/\((k.val+1:Nat):Int)<Sb (k.val+1):=by decide
theorem nxt{n:Nat}(h:n<15):(if(9223372036854775807:Int)<n+1 then(9223372036854775807:Int) else n+1)=(n+1:Nat):=if_neg (gI.mpr (cE (cD.mpr (Nat.succ_le_of_lt h):((n+1:Nat):Int)<=15) (by decide)))
theorem Li(e:vs.length=n)(hl:n<15)(q:∀w z,z=YH (n+1)->Q (.v w) (v8 l lk lv lh ln lw true [] (vs++[v]) [] [] (Sb (n+1)) (n+1:Nat) z sh kn)):
  Call (d+6) .append [.r 0,.v v] (v8 l lk lv lh ln lw true [] vs [] [] (Sb n) n (YH n) sh kn) Q E:=by
 have lm:vs.length<lim:=e▸cg hl (by decide)
 have nl:¬(n:Int)<vs.length:=e▸Ab _
 have nl':¬(vs.length:Int)<n:=e▸Ab _
 cases n with
 |zero=>
  cases Ag.mp e
  exact i9 Zi (q _ _ rfl)
 |succ k=>
  by_cases h8:k=7
  ·subst h8
   exact i9 Zi (dS (decide_eq_false nl) (dS (decide_eq_false nl') (bB (decide_eq_true lm) (q _ _ rfl))))
  ·have ⟨es,hs⟩:=Xb ⟨k,hJ hl⟩ h8
   have h9:¬((k+1:Nat):Int)=9223372036854775807:=λz=>fw (cg hl (by decide)) (gZ z)
   exact i9 Zi (dS (decide_eq_false h9) (dS (decide_eq_false h9) (dS (decide_eq_false nl) (dS (decide_eq_false (rB.mpr hs)) (dS (decide_eq_false (rB.mpr hs)) (dS (ltT hs) (dS (decide_eq_false nl') (bB (decide_eq_true lm) (nQ (decide_eq_true (Int.le_refl _)) (es▸q _ _ (nxt hl)))))))))))
theorem HO(e:vs.length=n)(hl:n<15)(q:∀w,Q (.v w) (lU l (kr lk lv lh ln lw (n+1) (vs++[v])) kn)):
  Call (d+6) .append [.r 0,.v v] (lU l (kr lk lv lh ln lw n vs) kn) Q E:=
 uu (v8 l lk lv lh ln lw true [] vs [] [] (Sb n) n (YH n) (.bool false) kn) [.r 0,.v v] [.one 0,.gT [1,2,3,4,5],.one 6] (Li e hl λw z e=>e▸.mk [.one 0,.gT [1,2,3,4,5],.one 6] (.v w) _ (q w) rfl) rfl
noncomputable def nArr(lk lv lh ln lw:Nat):AD:=⟨true,lk,lv,lh,ln,lw,[],[],[],[],8,0, -2^63,.bool false,[]⟩
theorem oG(q:∀lk lv lh ln lw,Q (.v .none) [(l,wX (nArr lk lv lh ln lw)),(0,.d6 (wu (nArr lk lv lh ln lw)))]):Call (d+2) .qJ [.r 0] [(l,.inst .arr [])] Q E:=
 cf λlk lv lh ln lw=>.mk [.one 0,.gT [1,2,3,4,5]] _ _ (q lk lv lh ln lw) rfl
theorem rV{α:Type}{us:List α}{m:Nat}{v:α}(h:us[m]?=some v):us.take m++[v]=us.take (m+1):=by rw[Jo,h];rfl
theorem U0{α:Type}{us:List α}{m:Nat}{v:α}(h:us[m]?=some v):(us.take m).length=m:=(eV ..).trans (jo (bz (aq.mp h).1))
noncomputable def Sq(lu:Nat)(o:RO)(kn:List (Nat×bF))(l lk lv lh ln lw n:Nat)(us:List AV):Cs:=[(lu,o),(0,.gk kn),(l,wX (kr lk lv lh ln lw n us)),(0,.d6 (wu (kr lk lv lh ln lw n us)))]
theorem vx{us:List AV}{lu:Nat}(hl:us.length<=15)(q:∀l lk lv lh ln lw,Q (.r 2) (Sq lu (.list (.raw us)) kn l lk lv lh ln lw us.length us)):
  Call (d+9) .listOf [.r 0] [(lu,.list (.raw us)),(0,.gk kn)] Q E:=
 km YC λl=>use [2] (oG λlk lv lh ln lw=>
  .lst (τ:=λ_=>Unit) (λ_ _=>[some (.r 0),some (.r 2),none]) (λm _=>Sq lu (.ro (.list (.raw us))) kn l lk lv lh ln lw m (us.take m)) (.id () rfl)
   (λm x e t=>use [2,3,1] (HO (U0 e) (aY (aq.mp e).1 hl) λw=>(rV e).symm▸.mk [.one 0,.one 1,.one 2,.one 3] () rfl) rfl)
   λ_=>.mk [.one 0,.one 1,.one 2,.one 3] (.r 2) (Sq lu (.list (.raw us)) kn l lk lv lh ln lw us.length (us.take us.length)) (iL.symm▸q l lk lv lh ln lw) rfl) rfl
end
noncomputable def qh(d:List (AV×AV))(ps:List (AV×AV)):List (AV×AV):=ps.foldl (λd p=>dput d p.1 p.2) d
section
variable{d:Nat}{Q E:PE}{kn:List (Nat×bF)}{ps:List (AV×AV)}{b:Bool}{lp m:Nat}{G:List (Nat×List AV)}
inductive Pp(kn:List (Nat×bF))(b:Bool)(ps:List (AV×AV))(m:Nat)(a:AD):Prop where
 |mk (qs:List (AV×AV)) (A:Arr kn b a qs) (h:qh qs (ps.drop m)=qh [] ps) (l:qs.length<=m)
theorem Pp.done{a:AD}{n:Nat}(I:Pp kn b ps n a)(e:n=ps.length):Arr kn b a (qh [] ps):=I.casesOn λqs A h l=>by
 rw[e,nV] at h
 exact h▸A
theorem TQ{qs X:List (AV×AV)}{x y:AV}(h:qh qs (ps.drop m)=X)(hp:ps[m]?=some (x,y)):qh (dput qs x y) (ps.drop (m+1))=X:=by
 rw[il hp] at h
 exact h
theorem mu(e:G.map (·.2)=lz ps):G.length=ps.length:=(aj _).symm.trans ((congrArg i6 e).trans (aj _))
theorem AP(e:G.map (·.2)=lz ps)(hk:∀p∈ps,p.1=.int (kI b)\/∃s,p.1=.str s)(hv:∀p∈ps,rx kn p.2)(hl:ps.length<=16)(q:∀l a,Arr kn b a (qh [] ps)->Q (.r 3) [(lp,.list (.raw (jR G))),(0,.gh G),(0,.gk kn),(l,wX a),(0,.d6 (wu a))]):
  Call (d+10) .xT [.r 0] [(lp,.list (.raw (jR G))),(0,.gh G),(0,.gk kn)] Q E:=
 km YC λl=>use [3] (oG λlk lv lh ln lw=>
  .lz (X:=G) (τ:=λm=>{a//Pp kn b ps m a}) (λ_ _=>[some (.r 0),some (.r 3),none,none]) (λ_ t=>[(lp,.ro (.list (.raw (jR G)))),(0,.gh G),(0,.gk kn),(l,wX t.1),(0,.d6 (wu t.1))]) (λ_ _=>⟨1,0,rfl⟩) (.id ⟨_,.mk [] .nil rfl (aV _)⟩ rfl)
   (λm r x y eg t=>have hp:=nO e eg;have mp:=av hp;t.2.casesOn λqs A h lq=>cn rfl (use [3,4,2] (F0 A (hk _ mp) (hv _ mp) (aB (ah lq (ah (bz (aq.mp hp).1) hl)) (by decide)) λa' A'=>.mk [.one 0,.one 1,.one 2,.one 3,.one 4] ⟨a',.mk _ A' (TQ h hp) (ah nP (aP lq))⟩ rfl) rfl))
   (j0 e) λt=>.mk [.one 0,.one 1,.one 2,.one 3,.one 4] _ _ (q l t.1 (Pp.done t.2 (mu e))) rfl) rfl
end
structure Ent where
 name:S
 isRef:Bool
 idx:Nat
noncomputable def fR(cs:List Int)(lr:Nat)(e:Ent):AV:=match e.isRef with
 |true=>.ref lr
 |false=>.int (cs.getD e.idx 0)
noncomputable def bX(es:List Ent)(cs:List Int)(lr:Nat):List (AV×AV):=es.map λe=>(.str e.name,fR cs lr e)
noncomputable def cH(es:List Ent):List (AV×AV):=es.map λe=>(.str e.name,.int e.idx)
noncomputable def bN:List Ent->S->Option Ent
 |[],_=>none
 |e::r,s=>if e.name=s then some e else bN r s
theorem qL{e:Ent}{r:List Ent}{s:S}:bN (e::r) s=if e.name=s then some e else bN r s:=rfl
theorem ju{g:Ent->AV}{es:List Ent}{s:S}:dG (es.map λe=>(.str e.name,g e)) (.str s)=(bN es s).map g:=by
 induction es with
 |nil=>rfl
 |cons e r ih=>
  rw[cq,R0,qL]
  by_cases h:e.name=s
  ·rw[if_pos (by rw[h]),if_pos h];rfl
  ·rw[if_neg (λe=>h (iX e)),if_neg h];exact ih
theorem f7{es:List Ent}{s:S}{e:Ent}(h:bN es s=some e):e∈es/\e.name=s:=by
 induction es with
 |nil=>exact ns h
 |cons e' r ih=>
  rw[qL] at h
  by_cases w:e'.name=s
  ·rw[if_pos w] at h;exact⟨ae h▸.head _,ae h▸w⟩
  ·rw[if_neg w] at h;exact⟨.tail _ (ih h).1,(ih h).2⟩
noncomputable def refs(es:List Ent):Nat:=(es.filter (·.isRef)).length
noncomputable def bj:S:=[116,104,105,115]
noncomputable def ly:S:=[87,97,114,110,105,110,103]
noncomputable def z9(c:Nat):Bool:=n6.contains c||I7.contains c||c==32
noncomputable def iW(s:S):Prop:=s=[55]\/(d9 s=true/\s≠bj/\s.all z9=true)
structure bC(es:List Ent)(cs:List Int)(s:Nat):Prop where
 nodup:(es.map (·.name)).Nodup
 idx:∀e∈es,e.idx<cs.length
 ref:∀e∈es,e.isRef=true->e.idx=s
 dist:∀e∈es,∀e'∈es,e.idx=e'.idx->e.name≠e'.name->e.isRef=true
 names:∀e∈es,iW e.name/\e.name.length<=30
 many:es.length<=15
noncomputable def IE:S:=[99,111,109,112,97,99,116,40,41,58,32,65,114,103,117,109,101,110,116,32,35]
noncomputable def FT:S:=[32,109,117,115,116,32,98,101,32,115,116,114,105,110,103,32,111,114,32,97,114,114,97,121,32,111,102,32,115,116,114,105,110,103,115,44,32]
noncomputable def Uw:S:=[32,103,105,118,101,110]
noncomputable def rO:S:=[99,111,109,112,97,99,116,40,41,58,32,85,110,100,101,102,105,110,101,100,32,118,97,114,105,97,98,108,101,32,36]
noncomputable def kindS:AV->S
 |.none=>[110,117,108,108]
 |.int _=>[105,110,116]
 |_=>[]
noncomputable def wJ(n:Nat)(v:AV):S:=IE++je n++FT++kindS v++Uw
noncomputable abbrev jS:=List (AV×AV)×List S
noncomputable def oU(z:S):AV:=if z=[55] then .int 7 else .str z
noncomputable def J7(st:jS):Option AV->jS
 |some w=>(dput st.1 (.str bj) w,st.2)
 |none=>st
noncomputable def mA(cs:List Int)(tv:Option AV)(z:S)(st:jS):Option Ent->jS
 |some e=>(dput st.1 (oU z) (.int (cs.getD e.idx 0)),st.2)
 |none=>if z=bj then J7 st tv else(st.1,st.2++[rO++z])
noncomputable def cI(es:List Ent)(cs:List Int)(tv:Option AV)(n:Nat)(v:AV)(st:jS):jS:=match v with
 |.str s=>mA cs tv s st (bN es s)
 |v=>(st.1,st.2++[wJ n v])
noncomputable def pq(v:AV):Prop:=v=.none\/∃i,v=.int i
noncomputable def cQ(v:AV):Prop:=pq v\/∃s,v=.str s/\s.length<=100/\sX s=true
noncomputable def w8:AV->Option AV
 |.none=>none
 |_=>some (.int 77)
noncomputable def mY:AV->Option AV
 |.none=>none
 |v=>some v
theorem CU{n:Nat}(h:n<=5):(je n).length<=10:=by
 have:∀n:_root_.Fin 6,(je (n.val:Nat)).length<=10:=by decide+kernel
 exact this ⟨n,lM h⟩
structure W where
 X:Nat->AV
 Y:Nat->AV
 lh:Nat
 lf:Nat
 ln:Nat
 lv:Nat
 th:AV
 lr:Nat
 lt:Nat
 s:Nat
 kn:List (Nat×bF)
 lp:Nat
 lb:Nat
 lc:Nat
 T:List (Nat×aF)
noncomputable def qW(X:Nat->AV)(f n:RV):RO:=.inst .host [.v (X 0),.v (X 1),.v (X 2),.v (X 3),f,n,.v (.int 0),.v (X 7),.v (X 8),.v (X 9),.v (X 10),.v (X 11),.v (X 12),.v (X 13),.v (X 14),.v (X 15),.v (X 16),.v (X 17),.v (X 18),.v (.bool false)]
noncomputable def qe(Y:Nat->AV)(th:AV)(v:Nat):RO:=.inst .frame [.v (Y 0),.v th,.v (Y 2),.v (Y 3),.r v,.v (Y 5)]
noncomputable def jV(es:List Ent)(cs:List Int)(s lr lt:Nat):List (Nat×aF):=match es.any (·.isRef) with
 |true=>[(lr,.inst .ref [.int (cs.getD s 0),.int (refs es:Nat),.ref lt]),(lt,.list [])]
 |false=>[]
theorem lY{es:List Ent}{cs:List Int}{s lr lt:Nat}{e:Ent}(h:e∈es)(r:e.isRef=true):jV es cs s lr lt=[(lr,.inst .ref [.int (cs.getD s 0),.int (refs es:Nat),.ref lt]),(lt,.list [])]:=by
 unfold jV
 rw[show es.any (·.isRef)=true from gm.mpr ⟨e,h,r⟩]
noncomputable def cJ(ts:List S):List (List AV):=ts.map λt=>[.str ly,.str t]
noncomputable def wV(w:W)(V:List (AV×AV))(B:List (Nat×aF))(N:List (Nat×List AV)):Cs:=
 [(w.lh,qW w.X (.r 1) (.r 2)),(w.lf,qe w.Y w.th 3),(w.ln,.list (.raw (jR N))),(w.lv,.dict (.raw V)),(0,.d6 B),(0,.gh N),(0,.gk w.kn)]
noncomputable def wC(w:W)(es:List Ent)(cs:List Int)(N:List (Nat×List AV)):Cs:=wV w (bX es cs w.lr) (jV es cs w.s w.lr w.lt) N
noncomputable def mC(l:Nat)(a:AD):Cs:=[(l,wX a),(0,.d6 (wu a))]
section
variable{d:Nat}{Q E:PE}{w:W}{l n:Nat}{ab v:AV}{N:List (Nat×List AV)}{ps:List (AV×AV)}{a:AD}{z:S}{V:List (AV×AV)}{B:List (Nat×aF)}
theorem u9(h:iW z)(hl:z.length<=30)(q:Q (.v (oU z)) []):Call (d+5) .uk [.v (.str z)] [] Q E:=by
 rcases h with rfl|⟨h,_,_⟩
 ·exact Nj q
 ·cases z with
  |nil=>exact absurd h aT
  |cons c r=>
   unfold d9 at h
   have hc:c∈n6:=by
    rw[bR] at h
    simpa using h.1
   have hc:Kz c=false/\c≠45/\c≠55:=(show ∀c∈n6,Kz c=false/\c≠45/\c≠55 by decide) c hc
   unfold oU at q
   rw[if_neg (λe=>hc.2.2 (dJ e).1)] at q
   exact Ij (d:=d+2) (ah (lK hl) (by decide)) hc.1 hc.2.1 q
theorem Yn:oU z=.int (kI true)\/∃s,oU z=.str s:=by
 unfold oU
 split
 ·exact .inl rfl
 ·exact .inr ⟨_,rfl⟩
theorem yB{x:AV}(h:dG V (.str z)=some x):(dG V (.str z)).isSome=true:=h▸rfl
theorem pZ(h:dG V (.str z)=none):(dG V (.str z)).isSome=false:=h▸rfl
noncomputable abbrev s8(d n:Nat)(w:W)(V:List (AV×AV))(B:List (Nat×aF))(N:List (Nat×List AV))(l:Nat)(a:AD)(v ab:AV)(Q E:PE):Prop:=Call (d+9) .jJ [.r 0,.r 7,.v v,.v (.int n),.v ab] (wV w V B N++mC l a) Q E
theorem H9{i:Int}(A:Arr w.kn true a ps)(hg:dG V (.str z)=some (.int i))(hn:iW z)(hl:z.length<=30)(hp:ps.length<30)(q:∀a',Arr w.kn true a' (dput ps (oU z) (.int i))->Q (.v .none) (wV w V B N++mC l a')):s8 d n w V B N l a (.str z) ab Q E:=
 iU (nQ (yB hg) (use [] (u9 hn hl (cn hg (use [7,8,6] (F0 A Yn (.inl rfl) hp λa' A'=>.mk [0,1,2,3,4,5,6,7,8] _ _ (q a' A') rfl) rfl))) rfl))
theorem IS{i k:Int}(A:Arr w.kn true a ps)(hg:dG V (.str z)=some (.ref w.lr))(hn:iW z)(hl:z.length<=30)(hp:ps.length<30)(q:∀a',Arr w.kn true a' (dput ps (oU z) (.int i))->Q (.v .none) (wV w V [(w.lr,.inst .ref [.int i,.int k,.ref w.lt]),(w.lt,.list [])] N++mC l a')):s8 d n w V [(w.lr,.inst .ref [.int i,.int k,.ref w.lt]),(w.lt,.list [])] N l a (.str z) ab Q E:=
 uu [(w.lh,qW w.X (.r 1) (.r 2)),(w.lf,qe w.Y w.th 3),(w.ln,.list (.raw (jR N))),(w.lv,.dict (.raw V)),(w.lr,.inst .ref [.v (.int i),.v (.int k),.r 5]),(w.lt,.list (.raw [])),(0,.gh N),(0,.gk w.kn),(l,wX a),(0,.d6 (wu a))] [.r 0,.r 8,.v (.str z),.v (.int n),.v ab] [.one 0,.one 1,.one 2,.one 3,.gT [4,5],.one 6,.one 7,.one 8,.one 9]
  (i9 inl (nQ (yB hg) (use [] (u9 hn hl (.mk (.r 4) _ hg rfl (use [8,9,7] (F0 A Yn (.inl rfl) hp λa' A'=>.mk [.one 0,.one 1,.one 2,.one 3,.gT [4,5],.one 6,.one 7,.one 8,.one 9] _ _ (q a' A') rfl) rfl))) rfl))) rfl
theorem EO{lo:Nat}(A:Arr w.kn true a ps)(hg:dG V (.str bj)=none)(ht:w.th=.ref lo)(ho:(lo,.obj)∈w.kn)(hp:ps.length<30)(q:∀a',Arr w.kn true a' (dput ps (.str bj) w.th)->Q (.v .none) (wV w V B N++mC l a')):s8 d n w V B N l a (.str bj) ab Q E:=
 iU (dS (pZ hg) (xP (b:=false) (ht▸rfl) (use [7,8,6] (F0 A (.inr ⟨_,rfl⟩) (.inr ⟨lo,.obj,ht,ho,bF.noConfusion⟩) hp λa' A'=>.mk [0,1,2,3,4,5,6,7,8] _ _ (q a' A') rfl) rfl)))
theorem DI(hg:dG V (.str bj)=none)(ht:w.th=.none)(q:Q (.v .none) (wV w V B N++mC l a)):s8 d n w V B N l a (.str bj) ab Q E:=
 iU (dS (pZ hg) (xP (b:=true) (ht▸rfl) (.mk [0,1,2,3,4,5,6,7,8] _ _ q rfl)))
theorem FP{G:List (Nat×List AV)}:(jR G).length=G.length:=aj _
theorem NP{X:Nat->AV}{lh ln:Nat}{f:AV}{t:S}(hN:N.length<=100)(q:∀g,Q (.v .none) [(lh,qW X (.v f) (.r 1)),(ln,.list (.raw (jR (N++[(g,[.str ly,.str t])])))),(0,.gh (N++[(g,[.str ly,.str t])]))]):
  Call (d+1) .warn [.r 0,.v (.str ly),.v (.str t)] [(lh,qW X (.v f) (.r 1)),(ln,.list (.raw (jR N))),(0,.gh N)] Q E:=
 cf λg=>bB (decide_eq_true (aB (ah (aH FP) hN) (by decide))) (.mk [.one 0,.one 1,.gh 2 [3]] _ _ (fU.symm▸q g) rfl)
noncomputable def inV(f:Fn):Bool:=inl f&&!jO f [.warn,.kind,.given]
theorem J1(hg:dG V (.str z)=none)(hz:z≠bj)(hl:z.length<=100)(hN:N.length<=100)(q:∀g,Q (.v .none) (wV w V B (N++[(g,[.str ly,.str (rO++z)])])++mC l a)):s8 d n w V B N l a (.str z) ab Q E:=
 xE (λf=>inl f&&!jO f [.warn]) (dS (pZ hg) (dS (beq_false_of_ne hz) (bB (decide_eq_true ⟨rfl,by decide,ah hl (by decide)⟩) (use [0,2,5] (NP hN λg=>.mk [0,1,2,3,4,5,6,7,8] _ _ (q g) rfl) rfl))))
theorem mw{s t:S}{a b:Nat}(h:s.length<=a)(h':t.length<=b):(s++t).length<=a+b:=aw▸eZ h h'
theorem j7{P:AV->Prop}(h:pq v)(h0:P .none)(h1:∀i,P (.int i)):P v:=h.elim (λe=>e▸h0) λ⟨i,e⟩=>e▸h1 i
theorem P8(hv:pq v)(q:Q (.v (.str (kindS v))) []):Call (d+3) .given [.v v] [] Q E:=by
 revert q
 exact j7 (P:=λv=>Q (.v (.str (kindS v))) []->Call (d+3) .given [.v v] [] Q E) hv (λq=>iU (.mk [] _ _ q rfl)) λi q=>iU (.mk [] _ _ q rfl)
theorem DA(hv:pq v)(q:Q (.v (.str (kindS v))) []):Call (d+1) .kind [.v v] [] Q E:=by
 revert q
 exact j7 (P:=λv=>Q (.v (.str (kindS v))) []->Call (d+1) .kind [.v v] [] Q E) hv (λq=>iU (.mk [] _ _ q rfl)) λi q=>iU (.mk [] _ _ q rfl)
theorem QG(hv:pq v)(hn:n<=5):(n:Int).natAbs<10^20/\(je n).length<=lim/\(IE++je n).length<=lim/\(IE++je n++FT).length<=lim/\(kindS v).length<=lim/\(IE++je n++FT++kindS v).length<=lim:=by
 have h1:=CU hn
 have h2:(IE++je n).length<=31:=mw (a:=21) (by decide) h1
 have h3:(IE++je n++FT).length<=68:=mw (b:=37) h2 (by decide)
 have h5:(kindS v).length<=4:=j7 (P:=λv=>(kindS v).length<=4) hv (by decide) λ_=>(by decide:[105,110,116].length<=4)
 exact⟨aB hn (by decide),ah h1 (by decide),ah h2 (by decide),ah h3 (by decide),ah h5 (by decide),ah (mw (b:=4) h3 h5) (by decide)⟩
end
noncomputable def Ez(kn:List (Nat×bF))(th:AV):Prop:=th=.none\/∃lo,th=.ref lo/\(lo,.obj)∈kn
theorem qG{N:List (Nat×List AV)}{ts:List S}{t:S}{g:Nat}(h:N.map (·.2)=cJ ts):(N++[(g,[AV.str ly,AV.str t])]).map (·.2)=cJ (ts++[t]):=by
 unfold cJ at*
 rw[aN,h,aN];rfl
theorem Fw{N:List (Nat×List AV)}{ts:List S}(h:N.map (·.2)=cJ ts):N.length=ts.length:=(aj _).symm.trans ((congrArg i6 h).trans (aj _))
noncomputable def aI(es:List Ent)(cs:List Int)(tv:Option AV)(n:Nat)(ls:List AV)(st:jS):jS:=ls.foldl (λst v=>cI es cs tv n v st) st
noncomputable def room(st:jS)(k:Nat):Prop:=st.1.length+k<30/\st.2.length+k<=100
section
variable{d:Nat}{Q E:PE}{w:W}{l n k:Nat}{ab v:AV}{es:List Ent}{cs:List Int}{N:List (Nat×List AV)}{ts:List S}{a:AD}{z:S}{e:Ent}{V:List (AV×AV)}{B:List (Nat×aF)}{tv:Option AV}{st:jS}{ps:List (AV×AV)}{P:jS->Prop}
theorem jC(h:cQ v)(k0:pq v->P (st.1,st.2++[wJ n v]))(k1:∀z e,v=.str z->z.length<=100->bN es z=some e->P (dput st.1 (oU z) (.int (cs.getD e.idx 0)),st.2))
  (k2:v=.str bj->bN es bj=none->(∀x,tv=some x->P (dput st.1 (.str bj) x,st.2))/\(tv=none->P st)) (k3:∀z,v=.str z->z.length<=100->bN es z=none->z≠bj->P (st.1,st.2++[rO++z])):P (cI es cs tv n v st):=by
 rcases h with h|⟨z,rfl,hz,_⟩
 ·have k0:=k0 h
  revert k0
  exact j7 (P:=λv=>P (st.1,st.2++[wJ n v])->P (cI es cs tv n v st)) h id λ_=>id
 ·show P (mA cs tv z st (bN es z))
  cases hf:bN es z with
  |some e=>exact k1 z e rfl hz hf
  |none=>
   show P (if z=bj then J7 st tv else(st.1,st.2++[rO++z]))
   by_cases ez:z=bj
   ·rw[if_pos ez]
    have k2:=k2 (congrArg _ ez) (ez▸hf)
    cases tv with
    |none=>exact k2.2 rfl
    |some x=>exact k2.1 x rfl
   ·rw[if_neg ez];exact k3 z rfl hz hf ez
theorem Hv(hv:pq v)(hn:n<=5)(hN:N.length<=100)(q:∀g,Q (.v .none) (wV w V B (N++[(g,[.str ly,.str (wJ n v)])])++mC l a)):s8 d n w V B N l a v ab Q E:=by
 obtain⟨h0,h1,h2,h3,h4,h5⟩:=QG hv hn
 have ne:(kindS v==[97,114,114,97,121])=false/\(kindS v==[115,116,114,105,110,103])=false:=j7 (P:=λv=>(kindS v==[97,114,114,97,121])=false/\(kindS v==[115,116,114,105,110,103])=false) hv ⟨rfl,rfl⟩ λ_=>⟨rfl,rfl⟩
 unfold wJ at q
 refine xE inV (use [] (DA hv (dS ne.1 (use [] (DA hv (nQ (congrArg (!·) ne.2) (bB (decide_eq_true h0) ?_))) rfl))) rfl)
 generalize je (n:Int)=t at*
 exact bB (decide_eq_true ⟨rfl,by decide,h1⟩) (bB (decide_eq_true ⟨rfl,h2,by decide⟩) (use [] (P8 hv (bB (decide_eq_true ⟨rfl,h3,h4⟩) (bB (decide_eq_true ⟨rfl,h5,by decide⟩) (use [0,2,5] (NP hN λg=>.mk [0,1,2,3,4,5,6,7,8] _ _ (q g) rfl) rfl)))) rfl))
theorem my(G:bC es cs w.s)(T:Ez w.kn w.th)(hv:cQ v)(hn:n<=5)(A:Arr w.kn true a st.1)(hN:N.map (·.2)=cJ st.2)(hr:room st 0)
  (q:∀a' N',Arr w.kn true a' (cI es cs (mY w.th) n v st).1->N'.map (·.2)=cJ (cI es cs (mY w.th) n v st).2->Q (.v .none) (wC w es cs N'++mC l a')):
  s8 d n w (bX es cs w.lr) (jV es cs w.s w.lr w.lt) N l a v ab Q E:=by
 have hN':N.length<=100:=(Fw hN).symm▸hr.2
 have hd:∀z,dG (bX es cs w.lr) (.str z)=(bN es z).map (fR cs w.lr):=λz=>ju
 revert q
 refine jC (P:=λst'=>(∀a' N',Arr w.kn true a' st'.1->N'.map (·.2)=cJ st'.2->Q (.v .none) (wC w es cs N'++mC l a'))->s8 d n w (bX es cs w.lr) (jV es cs w.s w.lr w.lt) N l a v ab Q E) hv (λh q=>Hv h hn hN' λg=>q a _ A (qG hN)) (λz e ev hz hf q=>?_) (λev hf=>⟨λx hx q=>?_,λhx q=>?_⟩) (λz ev hz hf ne q=>ev▸J1 ((hd z).trans (hf▸rfl)) ne hz hN' λg=>q a _ A (qG hN))
 ·obtain⟨he,en⟩:=f7 hf
  obtain⟨h1,h2⟩:=en▸G.names e he
  have hg:=(hd z).trans (congrArg (dZ _) hf)
  subst ev
  cases hr':e.isRef with
  |false=>exact H9 A (hg.trans (congrArg some (by unfold fR;rw[hr']))) h1 h2 hr.1 λa' A'=>q a' N A' hN
  |true=>
   unfold wC at q
   rw[lY he hr'] at q⊢
   exact IS A (hg.trans (congrArg some (by unfold fR;rw[hr']))) h1 h2 hr.1 λa' A'=>q a' N (G.ref e he hr'▸A') hN
 ·subst ev
  rcases T with T|⟨lo,T,m⟩
  ·rw[T] at hx;exact ns (show none=some x from hx)
  ·exact EO A ((hd _).trans (hf▸rfl)) T m hr.1 λa' A'=>q a' N (by rw[T] at hx A';exact ae hx▸A') hN
 ·subst ev
  rcases T with T|⟨lo,T,m⟩
  ·exact DI ((hd _).trans (hf▸rfl)) T (q a N A hN)
  ·rw[T] at hx;exact ns (show none=some _ from hx.symm)
theorem room.up{st':jS}(h:room st (k+1))(h1:st'.1.length<=st.1.length+1)(h2:st'.2.length<=st.2.length+1):room st' k:=
 ⟨aB (bE h1 k) (eh _ 1 k▸h.1),ah (bE h2 k) (eh _ 1 k▸h.2)⟩
theorem room.leaf(hv:cQ v)(h:room st (k+1)):room (cI es cs tv n v st) k:=
 have s:∀t:S,(st.2++[t]).length<=st.2.length+1:=λt=>aH aw
 h.up (jC (P:=λs=>s.1.length<=st.1.length+1) hv (λ_=>br _) (λ_ _ _ _ _=>nP) (λ_ _=>⟨λ_ _=>nP,λ_=>br _⟩) λ_ _ _ _ _=>br _)
  (jC (P:=λs=>s.2.length<=st.2.length+1) hv (λ_=>s _) (λ_ _ _ _ _=>br _) (λ_ _=>⟨λ_ _=>br _,λ_=>br _⟩) λ_ _ _ _ _=>s _)
theorem room.og{ls:List AV}:∀{st:jS},(∀v∈ls,cQ v)->room st (ls.length+k)->room (aI es cs tv n ls st) k:=by
 induction ls with
 |nil=>exact λ_ h=>cj k▸h
 |cons v r ih=>exact λh h'=>ih (λv m=>h v (.tail _ m)) (room.leaf (h v (.head _)) (by rw[mK,Nat.succ_add] at h';exact h'))
theorem room.zero(h:room st k):room st 0:=⟨aB (bQ (aV k) _) h.1,ah (bQ (aV k) _) h.2⟩
end
theorem vp{v:AV}(h:cQ v):oC v=true:=h.elim (λh=>j7 (P:=λv=>oC v=true) h rfl λ_=>rfl) λ⟨_,e,_,h⟩=>e▸h
inductive SK(w:W)(es:List Ent)(cs:List Int)(n:Nat)(pz:List (AV×AV))(fin:jS)(m:Nat)(p:AD×List (Nat×List AV)):Prop where
 |mk (st:jS) (A:Arr w.kn true p.1 st.1) (hN:p.2.map (·.2)=cJ st.2) (h:aI es cs (mY w.th) n ((pz.drop m).map (·.2)) st=fin) (r:room st (pz.drop m).length)
section
variable{d:Nat}{Q E:PE}{w:W}{l n m:Nat}{x y:AV}{es:List Ent}{cs:List Int}{N:List (Nat×List AV)}{a b:AD}{st fin:jS}{pz:List (AV×AV)}{P:Prop}{p:AD×List (Nat×List AV)}
theorem SK.step(I:SK w es cs n pz fin m p)(hp:pz[m]?=some (x,y))(hy:cQ y)(K:∀st,Arr w.kn true p.1 st.1->p.2.map (·.2)=cJ st.2->room st 0->(∀a' N',Arr w.kn true a' (cI es cs (mY w.th) n y st).1->N'.map (·.2)=cJ (cI es cs (mY w.th) n y st).2->SK w es cs n pz fin (m+1) (a',N'))->P):P:=I.casesOn λst A hN h r=>by
 rw[il hp] at h r
 exact K st A hN r.zero λa' N' A' hN'=>.mk _ A' hN' h (room.leaf hy r)
theorem SK.done(I:SK w es cs n pz fin m p)(e:m=pz.length):Arr w.kn true p.1 fin.1/\p.2.map (·.2)=cJ fin.2:=I.casesOn λst A hN h r=>by
 rw[e,nV] at h
 exact h▸⟨A,hN⟩
theorem vM{ll la:Nat}(G:bC es cs w.s)(T:Ez w.kn w.th)(R:RI w.kn b pz)(hv:∀p∈pz,cQ p.2)(hn:n<=5)(A:Arr w.kn true a st.1)(hN:N.map (·.2)=cJ st.2)(hr:room st pz.length)
  (q:∀a' N',Arr w.kn true a' (aI es cs (mY w.th) n (pz.map (·.2)) st).1->N'.map (·.2)=cJ (aI es cs (mY w.th) n (pz.map (·.2)) st).2->Q (.v .none) (wC w es cs N'++mC l a'++mC ll b++[(la,.list .nil)])):
  Call (d+12) .jJ [.r 0,.r 7,.r 9,.v (.int n),.r 11] (wC w es cs N++mC l a++mC ll b++[(la,.list .nil)]) Q E:=
 cf (.run (use [9,10,6] (r4 R (ah (wA ..) hr.2) (λp m=>vp (hv p m)) λG' lr' hG=>
  .lz (X:=G') (τ:=λm=>{p//SK w es cs n pz (aI es cs (mY w.th) n (pz.map (·.2)) st) m p}) (λ_ _=>[some (.r 0),some (.r 7),some (.r 9),some (.v (.int n)),some (.r 11),none,none,none]) (λ_ t=>wC w es cs t.1.2++mC l t.1.1++mC ll b++([(la,.list .nil),(0,.gh G'),(lr',.ro (.list (.raw (jR G'))))]:Cs)) (λ_ _=>⟨12,0,rfl⟩) (.id ⟨(a,N),.mk st A hN rfl hr⟩ rfl)
   (λm r x y e t=>have hp:=nO hG e;have hy:=hv _ (av hp);t.2.step hp hy λst A hN r K=>cn rfl λl1 l2=>use [0,1,2,3,4,5,6,7,8] (my G T hy hn A hN r λa' N' A' hN'=>.mk [.one 0,.one 1,.one 2,.one 3,.one 4,.one 5,.one 6,.one 7,.one 8,.one 9,.one 10,.one 11,.one 12,.one 13] ⟨(a',N'),K a' N' A' hN'⟩ rfl) rfl)
   (j0 hG) λt=>have z:=t.2.done (mu hG);.mk [.one 0,.one 1,.one 2,.one 3,.one 4,.one 5,.one 6,.one 7,.one 8,.one 9,.one 10,.one 11] _ _ (q _ _ z.1 z.2) rfl) rfl))
theorem NQ{bo:AD}{ll la lo:Nat}(G:bC es cs w.s)(T:Ez w.kn w.th)(R:RI w.kn b pz)(hv:∀p∈pz,cQ p.2)(hn:n<=5)(A:Arr w.kn true a st.1)(hN:N.map (·.2)=cJ st.2)(hr:room st pz.length)
  (q:∀a' N',Arr w.kn true a' (aI es cs (mY w.th) n (pz.map (·.2)) st).1->N'.map (·.2)=cJ (aI es cs (mY w.th) n (pz.map (·.2)) st).2->Q (.v .none) (wC w es cs N'++mC l a'++mC ll b++[(la,.list (.cons (.r 12) .nil)),(lo,wX bo)])):
  Call (d+12) .jJ [.r 0,.r 7,.r 9,.v (.int n),.r 11] (wC w es cs N++mC l a++mC ll b++[(la,.list (.cons (.r 12) .nil)),(lo,wX bo)]) Q E:=
 cf (.run (use [9,10,6] (r4 R (ah (wA ..) hr.2) (λp m=>vp (hv p m)) λG' lr' hG=>
  .lz (X:=G') (τ:=λm=>{p//SK w es cs n pz (aI es cs (mY w.th) n (pz.map (·.2)) st) m p}) (λ_ _=>[some (.r 0),some (.r 7),some (.r 9),some (.v (.int n)),some (.r 11),some (.r 12),none,none]) (λ_ t=>wC w es cs t.1.2++mC l t.1.1++mC ll b++([(la,.list (.cons (.r 12) .nil)),(lo,wX bo),(0,.gh G'),(lr',.ro (.list (.raw (jR G'))))]:Cs)) (λ_ _=>⟨13,0,rfl⟩) (.id ⟨(a,N),.mk st A hN rfl hr⟩ rfl)
   (λm r x y e t=>have hp:=nO hG e;have hy:=hv _ (av hp);t.2.step hp hy λst A hN r K=>cn rfl λl1 l2=>use [0,1,2,3,4,5,6,7,8] (my G T hy hn A hN r λa' N' A' hN'=>.mk [.one 0,.one 1,.one 2,.one 3,.one 4,.one 5,.one 6,.one 7,.one 8,.one 9,.one 10,.one 11,.one 12,.one 13,.one 14] ⟨(a',N'),K a' N' A' hN'⟩ rfl) rfl)
   (j0 hG) λt=>have z:=t.2.done (mu hG);.mk [.one 0,.one 1,.one 2,.one 3,.one 4,.one 5,.one 6,.one 7,.one 8,.one 9,.one 10,.one 11,.one 12] _ _ (q _ _ z.1 z.2) rfl) rfl))
end
noncomputable def inE(f:Fn):Bool:=inl f||jO f [.entries,.slotsOf]
noncomputable def Vo(a:AD):aF:=.inst .arr [.bool a.p,.ref a.lk,.ref a.lv,.ref a.lh,.ref a.ln,.int a.sz,.int a.ct,.int a.nx,.int 0,a.sh,.ref a.lw]
noncomputable def YF(a:AD):AD:=⟨a.p,a.lk,a.lv,a.lh,a.ln,a.lw,a.ks,a.vs,a.hs,a.ns,a.sz,a.ct,a.nx,.bool true,a.ab⟩
noncomputable def aa7(lk lv lh ln lw:Nat)(i1 i2 i3 i4 i5:Nat):RO:=.inst .arr [.v (.bool true),.r i1,.r i2,.r i3,.r i4,.v (.int 8),.v (.int 2),.v (.int 2),.v (.int 0),.v (.bool false),.r i5]
section
variable{d:Nat}{Q E:PE}{w:W}{l n:Nat}{v:AV}{es:List Ent}{cs:List Int}{N:List (Nat×List AV)}{a b:AD}{st fin:jS}{pz:List (AV×AV)}
theorem wW{lo ok ov oh on ow li:Nat}
  (q:∀t t' r,Q (.r 9) [(lo,.inst .arr [.v (.bool true),.r 1,.r 2,.r 3,.r 4,.v (.int 8),.v (.int 2),.v (.int 2),.v (.int 0),.v (.bool false),.r 5]),(ok,.list .nil),(ov,.list (.cons (.r 6) (.cons (.v (.str [55])) .nil))),(oh,.list .nil),(on,.list .nil),(ow,.dict .nil),(li,wX (YF b)),(t,.tup (.cons (.v (.int 0)) (.cons (.r 6) .nil))),(t',.tup (.cons (.v (.int 1)) (.cons (.v (.str [55])) .nil))),(r,.list (.cons (.r 7) (.cons (.r 8) .nil)))]):
  Call (d+5) .entries [.r 0] [(lo,.inst .arr [.v (.bool true),.r 1,.r 2,.r 3,.r 4,.v (.int 8),.v (.int 2),.v (.int 2),.v (.int 0),.v (.bool false),.r 5]),(ok,.list .nil),(ov,.list (.cons (.r 6) (.cons (.v (.str [55])) .nil))),(oh,.list .nil),(on,.list .nil),(ow,.dict .nil),(li,wX b)] Q E:=
 xE inE (.run λ_ _ _=>.run λt3 t4 l2=>.mk [0,1,2,3,4,5,6,10,11,12] _ _ (q t3 t4 l2) rfl)
noncomputable def wG(ok ov oh on ow li:Nat):AD:=⟨true,ok,ov,oh,on,ow,[],[.ref li,.str [55]],[],[],8,2,2,.bool false,[]⟩
noncomputable def BW:cQ (.str [55]):=.inr ⟨_,rfl,by decide,by decide⟩
theorem n8{tv:Option AV}{ls ls':List AV}:aI es cs tv n (ls++ls') st=aI es cs tv n ls' (aI es cs tv n ls st):=List.foldl_append
theorem DP{lo ok ov oh on ow li la:Nat}(G:bC es cs w.s)(T:Ez w.kn w.th)(R:RI w.kn (YF b) pz)(hv:∀p∈pz,cQ p.2)(hn:n<=5)(A:Arr w.kn true a st.1)(hN:N.map (·.2)=cJ st.2)(hr:room st (pz.length+1))
  (q:∀a' N',Arr w.kn true a' (aI es cs (mY w.th) n (pz.map (·.2)++[.str [55]]) st).1->N'.map (·.2)=cJ (aI es cs (mY w.th) n (pz.map (·.2)++[.str [55]]) st).2->Q (.v .none) (wC w es cs N'++mC l a'++mC lo (wG ok ov oh on ow li)++mC li (YF b)++[(la,.list .nil)])):
  Call (d+15) .jJ [.r 0,.r 7,.r 9,.v (.int n),.r 13] (wC w es cs N++mC l a++mC lo (wG ok ov oh on ow li)++mC li b++[(la,.list .nil)]) Q E:=by
 have hr':room (aI es cs (mY w.th) n (pz.map (·.2)) st) 1:=room.og (λv m=>(aS.mp m).elim λp z=>z.2▸hv p z.1) (by rw[aj];exact hr)
 rw[n8] at q
 refine uu (wC w es cs N++mC l a++([(lo,.inst .arr [.v (.bool true),.r 10,.r 11,.r 12,.r 13,.v (.int 8),.v (.int 2),.v (.int 2),.v (.int 0),.v (.bool false),.r 14]),(ok,.list .nil),(ov,.list (.cons (.r 15) (.cons (.v (.str [55])) .nil))),(oh,.list .nil),(on,.list .nil),(ow,.dict .nil)]:Cs)++mC li b++([(la,.list .nil)]:Cs)) [.r 0,.r 7,.r 9,.v (.int n),.r 17] [.one 0,.one 1,.one 2,.one 3,.one 4,.one 5,.one 6,.one 7,.one 8,.one 9,.gT [10,11,12,13,14],.one 15,.one 16,.one 17] ?_ rfl
 refine i9 inl (.run (use [9,10,11,12,13,14,15] (wW λt t' r=>?_) rfl))
 refine .run λa1 a2=>?_
 refine use [0,1,2,3,4,5,6,7,8,15,16,22,9] (NQ (bo:=wG ok ov oh on ow li) G T R hv hn A hN ⟨Nat.lt_of_succ_lt hr.1,lK hr.2⟩ λa' N' A' hN'=>?_) rfl
 refine λa3 a4=>use [0,1,2,3,4,5,6,7,8] (my G T BW hn A' hN' hr'.zero λa'' N'' A'' hN''=>?_) rfl
 exact .mk [.one 0,.one 1,.one 2,.one 3,.one 4,.one 5,.one 6,.one 7,.one 8,.one 9,.gT [10,11,12,13,14],.one 15,.one 16,.one 17] _ _ (q a'' N'' A'' hN'') rfl
inductive kO:AV->List AV->List (Nat×aF)->Prop where
 |leaf {v:AV} (h:cQ v):kO v [v] []
 |lst {ll lk lv lh ln lw:Nat} {vs:List AV} (h:∀v∈vs,cQ v) (hl:vs.length<=3):kO (.ref ll) vs ((ll,Vo (kr lk lv lh ln lw vs.length vs))::wu (kr lk lv lh ln lw vs.length vs))
 |nest {lo ok ov oh on ow li lk lv lh ln lw:Nat} {vs:List AV} (h:∀v∈vs,cQ v) (hl:vs.length<=2):kO (.ref lo) (vs++[.str [55]]) ((lo,Vo (wG ok ov oh on ow li))::(wu (wG ok ov oh on ow li)++(li,Vo (kr lk lv lh ln lw vs.length vs))::wu (kr lk lv lh ln lw vs.length vs)))
theorem sH{vs:List AV}(h:∀v∈vs,cQ v):∀p∈vB 0 vs,cQ p.2:=λp m=>(fG.mp m).elim λi e=>h _ (av (u7 e).1)
theorem TF{ls:List AV}{D Xo R:List (Nat×aF)}{la:Nat}(P:kO v ls Xo)(G:bC es cs w.s)(T:Ez w.kn w.th)(hn:n<=5)(A:Arr w.kn true a st.1)(hN:N.map (·.2)=cJ st.2)(hr:room st 3)
  (q:∀a' N' X',Arr w.kn true a' (aI es cs (mY w.th) n ls st).1->N'.map (·.2)=cJ (aI es cs (mY w.th) n ls st).2->Q (.v .none) (wC w es cs N'++mC l a'++[(0,.d6 (D++(X'++R))),(la,.list .nil)])):
  Call (d+15) .jJ [.r 0,.r 7,.v v,.v (.int n),.r 10] (wC w es cs N++mC l a++[(0,.d6 (D++(Xo++R))),(la,.list .nil)]) Q E:=by
 rw[<-bf R] at q⊢
 have down:∀{k:Nat},k<=3->room st k:=λh=>⟨aB (bQ h _) hr.1,ah (bQ h _) hr.2⟩
 have oks:∀{vs:List AV},(∀v∈vs,cQ v)->∀v∈vs,rx w.kn v:=λh v m=>.inl (vp (h v m))
 cases P with
 |leaf h=>exact use [0,1,2,3,4,5,6,7,8] (my (d:=d+6) G T h hn A hN hr.zero λa' N' A' hN'=>q a' N' [] A' hN') rfl
 |@lst ll lk lv lh ln lw _ h hl=>
  rw[<-qN (vs:=ls) (n:=0)] at q
  exact uu (wC w es cs N++mC l a++mC ll (kr lk lv lh ln lw ls.length ls)++([(la,.list .nil),(0,.d6 D),(0,.d6 R)]:Cs)) [.r 0,.r 7,.r 9,.v (.int n),.r 11] [.one 0,.one 1,.one 2,.one 3,.one 4,.one 5,.one 6,.one 7,.one 8,.gT [12,9,10,13],.one 11]
   (use [0,1,2,3,4,5,6,7,8,9,10,11] (vM (d:=d+3) (ll:=ll) (la:=la) (l:=l) (b:=kr lk lv lh ln lw ls.length ls) (pz:=vB 0 ls) G T (.lst (oks h)) (sH h) hn A hN (down (by rw[qC];exact hl)) λa' N' A' hN'=>
    .mk [.one 0,.one 1,.one 2,.one 3,.one 4,.one 5,.one 6,.one 7,.one 8,.gT [12,9,10,13],.one 11] _ _ (q a' N' ((ll,Vo (kr lk lv lh ln lw ls.length ls))::wu (kr lk lv lh ln lw ls.length ls)) A' hN') rfl) rfl) rfl
 |@nest lo ok ov oh on ow li lk lv lh ln lw vs h hl=>
  rw[<-qN (vs:=vs) (n:=0)] at q
  exact uu (wC w es cs N++mC l a++mC lo (wG ok ov oh on ow li)++mC li (kr lk lv lh ln lw vs.length vs)++([(la,.list .nil),(0,.d6 D),(0,.d6 R)]:Cs)) [.r 0,.r 7,.r 9,.v (.int n),.r 13] [.one 0,.one 1,.one 2,.one 3,.one 4,.one 5,.one 6,.one 7,.one 8,.gT [14,9,10,11,12,15],.one 13]
   (use [0,1,2,3,4,5,6,7,8,9,10,11,12,13] (DP (lo:=lo) (ok:=ok) (ov:=ov) (oh:=oh) (on:=on) (ow:=ow) (li:=li) (la:=la) (l:=l) (pz:=vB 0 vs) (b:=kr lk lv lh ln lw vs.length vs) G T (.lst (oks h)) (sH h) hn A hN (down (by rw[qC];exact aP hl)) λa' N' A' hN'=>
    .mk [.one 0,.one 1,.one 2,.one 3,.one 4,.one 5,.one 6,.one 7,.one 8,.gT [14,9,10,11,12,15],.one 13] _ _ (q a' N' ((lo,Vo (wG ok ov oh on ow li))::(wu (wG ok ov oh on ow li)++(li,Vo (YF (kr lk lv lh ln lw vs.length vs)))::wu (kr lk lv lh ln lw vs.length vs))) A' hN') rfl) rfl) rfl
end
class inductive AllP(H:AV->List AV->List (Nat×aF)->Prop):List AV->List (List AV)->List (Nat×aF)->List (Nat×aF)->Prop where
 |nil {R:List (Nat×aF)}:AllP H [] [] R R
 |cons {v:AV} {ls:List AV} {X B R:List (Nat×aF)} {vs:List AV} {lss:List (List AV)} (h:H v ls X) (r:AllP H vs lss B R):AllP H (v::vs) (ls::lss) (X++B) R
noncomputable def e8(es:List Ent)(cs:List Int)(tv:Option AV):Nat->List (List AV)->jS->jS
 |_,[],st=>st
 |n,ls::r,st=>e8 es cs tv (n+1) r (aI es cs tv n ls st)
section
variable{d:Nat}{Q E:PE}{w:W}{l n m k k':Nat}{v:AV}{es:List Ent}{cs:List Int}{N:List (Nat×List AV)}{st fin:jS}{ls ws:List AV}{lss:List (List AV)}{X B:List (Nat×aF)}{P:Prop}{tv:Option AV}
variable{H:AV->List AV->List (Nat×aF)->Prop}{R:List (Nat×aF)}
theorem AllP.e(h:AllP H ws lss B R):∀{vs:List AV},ws=v::vs->(∀ls lss' X B',lss=ls::lss'->B=X++B'->H v ls X->AllP H vs lss' B' R->P)->P:=by
 cases h with
 |nil=>exact λe _=>(cP _ _ e.symm).elim
 |cons h r=>exact λe K=>have z:=dJ e;K _ _ _ _ rfl rfl (z.1▸h) (z.2▸r)
theorem AllP.e0(h:AllP H ws lss B R)(e:ws=[]):lss=[]:=by
 cases h with
 |nil=>rfl
 |cons=>exact(cP _ _ e).elim
theorem AllP.snoc(r:AllP H ws lss B R)(e:R=[])(h:H v ls X):AllP H (ws++[v]) (lss++[ls]) (B++(X++[])) []:=by
 induction r with
 |nil=>
  subst e
  exact(AllP.cons h .nil:AllP H [v] [ls] (X++[]) [])
 |cons h' _ ih=>rw[ay];exact .cons h' (ih e)
theorem AllP.take(r:AllP H ws lss B R):∀n,∃R',AllP H (ws.take n) (lss.take n) B R':=by
 induction r with
 |nil=>exact λn=>by cases n<;>exact⟨_,.nil⟩
 |cons h _ ih=>
  intro n
  cases n with
  |zero=>exact⟨_,.nil⟩
  |succ n=>exact(ih n).imp λR h'=>.cons h h'
theorem AllP.at(r:AllP H ws lss B R):∀{m:Nat}{v:AV},ws[m]?=some v->∃ls D X R',lss[m]?=some ls/\H v ls X/\B=D++(X++R'):=by
 induction r with
 |nil=>exact λh=>ns h
 |@cons _ ls X R _ _ _ h _ ih=>
  intro m v e
  cases m with
  |zero=>exact⟨ls,[],X,R,rfl,ae e▸h,rfl⟩
  |succ m=>exact(ih e).elim λls' ⟨D,X',R',h1,h2,h3⟩=>⟨ls',X++D,X',R',h1,h2,by rw[h3,ay]⟩
theorem AllP.all{C:List AV->Prop}(r:AllP H ws lss B R)(h:∀{v ls X},H v ls X->C ls):∀ls∈lss,C ls:=by
 induction r with
 |nil=>exact λ_=>mq
 |cons h' _ ih=>exact λls m=>(aC.mp m).elim (λe=>e▸h h') (ih ls)
theorem AllP.cast{lss':List (List AV)}(r:AllP H ws lss B R)(e:lss=lss'):AllP H ws lss' B R:=e▸r
theorem AllP.len(r:AllP H ws lss B R):lss.length=ws.length:=by
 induction r with
 |nil=>rfl
 |cons _ _ ih=>exact congrArg de ih
theorem kO.og(h:kO v ls X):ls.length<=3/\∀v∈ls,cQ v:=by
 cases h with
 |leaf h=>exact⟨b9 rfl,λv m=>au.mp m▸h⟩
 |lst h hl=>exact⟨hl,h⟩
 |nest h hl=>exact⟨by rw[aw];exact aP hl,λv m=>(cp.mp m).elim (h v) λm=>au.mp m▸BW⟩
theorem room.mono(h:k<=k')(r:room st k'):room st k:=⟨aB (bQ h _) r.1,ah (bQ h _) r.2⟩
theorem room.Rg(hl:ls.length<=3)(hv:∀v∈ls,cQ v)(r:room st (3*(k+1))):room (aI es cs tv n ls st) (3*k):=
 room.og hv (r.mono (CJ 3 k▸fx (3*k) 3▸bE hl _))
noncomputable abbrev ZV:=(AD×List (Nat×List AV))×List (Nat×aF)×List (Nat×aF)
inductive Vh(w:W)(es:List Ent)(cs:List Int)(ws:List AV)(fin:jS)(m:Nat)(t:ZV):Prop where
 |mk (st:jS) (lss:List (List AV)) (A:Arr w.kn true t.1.1 st.1) (hN:t.1.2.map (·.2)=cJ st.2) (R:List (Nat×aF)) (P:AllP kO (ws.drop m) lss t.2.2 R) (h:e8 es cs (mY w.th) (m+1) lss st=fin) (r:room st (3*(ws.drop m).length))
theorem Vh.step{t:ZV}(I:Vh w es cs ws fin m t)(hv:ws[m]?=some v)(K:∀st ls X R,Arr w.kn true t.1.1 st.1->t.1.2.map (·.2)=cJ st.2->kO v ls X->t.2.2=X++R->room st 3->(∀a' N' X',Arr w.kn true a' (aI es cs (mY w.th) (m+1) ls st).1->N'.map (·.2)=cJ (aI es cs (mY w.th) (m+1) ls st).2->Vh w es cs ws fin (m+1) ((a',N'),t.2.1++X',R))->P):P:=I.casesOn λst lss A hN R₀ N h r=>N.e (il hv) λls lss' X R el eB Nv N'=>by
 rw[il hv] at r
 subst el
 exact K st ls X R A hN Nv eB (r.mono (gA 3 (aP (aV _)))) λa' N'' X' A' hN'=>.mk _ lss' A' hN' R₀ N' h (room.Rg Nv.og.1 Nv.og.2 r)
theorem Vh.done{t:ZV}(I:Vh w es cs ws fin m t)(e:m=ws.length):Arr w.kn true t.1.1 fin.1/\t.1.2.map (·.2)=cJ fin.2:=I.casesOn λst lss A hN R₀ N h r=>by
 rw[N.e0 (by rw[e,nV])] at h
 exact h▸⟨A,hN⟩
theorem Iw{v0:AV}{us:List AV}{la lu:Nat}{ts:List S}(P:AllP kO (v0::us) lss B R)(hl:us.length<=3)(G:bC es cs w.s)(T:Ez w.kn w.th)(hN:N.map (·.2)=cJ ts)(ht:ts.length<=80)
  (q:∀l a' N' B',Arr w.kn true a' (e8 es cs (mY w.th) 1 lss ([],ts)).1->N'.map (·.2)=cJ (e8 es cs (mY w.th) 1 lss ([],ts)).2->Q (.r 10) (wC w es cs N'++[(la,.list (.cons (.v v0) (.cons (.r 8) .nil))),(lu,.list (.raw us)),(0,.d6 B')]++mC l a')):
  Call (d+16) .uo [.r 0,.r 7] (wC w es cs N++[(la,.list (.cons (.v v0) (.cons (.r 8) .nil))),(lu,.list (.raw us)),(0,.d6 B)]) Q E:=by
 have l4:(v0::us).length<=4:=aP hl
 have l5:us.length+1<=lim:=ah l4 (by decide)
 have l6:1+us.length<=lim:=ah (aH (fx 1 _)) l5
 refine km YC λl=>use [10] (oG λlk lv lh ln lw=>λt1=>bB (decide_eq_true ⟨rfl,l6⟩) λt2=>bB (decide_eq_true ⟨aV _,l5⟩) ?_) rfl
 refine .xV (τ:=λm=>{t//Vh w es cs (v0::us) (e8 es cs (mY w.th) 1 lss ([],ts)) m t}) (λ_ _=>[some (.r 0),some (.r 7),some (.r 10),some (.r 13),none]) (λ_ t=>wC w es cs t.1.1.2++([(la,.list (.cons (.v v0) (.cons (.r 8) .nil))),(lu,.list (.raw us)),(0,.d6 (t.1.2.1++t.1.2.2))]:Cs)++mC l t.1.1.1++([(t1,.list (.cons (.v v0) .nil)),(t2,.list (.raw (v0::us)))]:Cs)) (.mk [.one 0,.one 1,.one 2,.one 3,.one 4,.one 5,.one 6,.one 7,.one 8,.one 9,.one 10,.one 11,.one 12,.one 13] ⟨((nArr lk lv lh ln lw,N),[],B),.mk ([],ts) lss .nil hN R P rfl (room.mono (k':=12) (gA 3 l4) ⟨b9 rfl,ah (bE ht 12) (by decide)⟩)⟩ rfl) (λm hm t=>?_) λt=>?_
 ·have hm:m<(v0::us).length:=hm
  have hv:=aO hm
  refine t.2.step hv λst ls X R A hN Nv eB r K=>cn hv λt3=>?_
  rw[eB]
  exact use [0,1,2,3,4,5,6,10,11,9,14] (TF (n:=m+1) Nv G T (ah (ah hm l4) (by decide)) A hN r λa'' N'' X'' A'' hN''=>ay t.1.2.1 X'' R▸.mk [.one 0,.one 1,.one 2,.one 3,.one 4,.one 5,.one 6,.one 7,.one 8,.one 9,.one 10,.one 11,.one 12,.one 13] ⟨_,K a'' N'' X'' A'' hN''⟩ rfl) rfl
 ·have z:=t.2.done rfl
  exact .mk [.one 0,.one 1,.one 2,.one 3,.one 4,.one 5,.one 6,.one 7,.one 8,.one 9,.one 10,.one 11] _ _ (q l _ _ _ z.1 z.2) rfl
end
noncomputable def EM(Z:Nat->AV):aF:=.inst .obj [Z 0,.int 77,Z 2,Z 3,Z 4,Z 5,Z 6]
noncomputable def Kn(Z:Nat->AV):RO:=.inst .obj [.v (Z 0),.v (.int 77),.v (Z 2),.v (Z 3),.v (Z 4),.v (Z 5),.v (Z 6)]
noncomputable def k9(lb lc lm ln:Nat)(es:List Ent)(cs:List Int)(T:List (Nat×aF))(D:List (AV×AV))(N:List (Nat×List AV)):Cs:=
 [(lb,.dict (.raw (cH es))),(lc,.list (.raw (cs.map .int))),(0,.d6 T),(lm,.dict (.raw D)),(ln,.list (.raw (jR N))),(0,.gh N)]
noncomputable def OT(th:AV)(T:List (Nat×aF)):Prop:=(th=.none/\T=[])\/∃lo Z,th=.ref lo/\T=[(lo,EM Z)]
noncomputable def inK(f:Fn):Bool:=inl f&&f !=.kind
section
variable{d:Nat}{Q E:PE}{lb lc lm ln n:Nat}{es:List Ent}{cs:List Int}{T:List (Nat×aF)}{D:List (AV×AV)}{N:List (Nat×List AV)}{th v:AV}{z:S}{e:Ent}{st:jS}
noncomputable abbrev C4(d n:Nat)(lb lc lm ln:Nat)(es:List Ent)(cs:List Int)(T:List (Nat×aF))(D:List (AV×AV))(N:List (Nat×List AV))(v th:AV)(Q E:PE):Prop:=Call (d+3) .packed [.v v,.v (.int n),.r 0,.r 1,.v th,.r 3,.r 4] (k9 lb lc lm ln es cs T D N) Q E
theorem A1(z:S):dG (cH es) (.str z)=(bN es z).map λe=>AV.int e.idx:=ju
theorem Fz{i:Nat}(h:i<cs.length):(cs.map AV.int)[i]?=some (.int (cs.getD i 0)):=by rw[bw,bG,aO h];rfl
theorem AI(hf:bN es z=some e)(hi:e.idx<cs.length)(hD:D.length<=100)(q:Q (.v .none) (k9 lb lc lm ln es cs T (dput D (oU z) (.int (cs.getD e.idx 0))) N)):C4 d n lb lc lm ln es cs T D N (.str z) th Q E:=by
 have hg:dG (cH es) (.str z)=some (.int e.idx):=(A1 z).trans (congrArg (dZ _) hf)
 have hl:D.length<lim:=aB hD (by decide)
 refine iU (nQ (yB hg) (cn hg (cn (Fz hi) (cz (λh=>?_) λh=>?_))))
 ·unfold oU at q
  rw[if_pos (by simpa using h)] at q
  exact bB (decide_eq_true hl) (.mk [0,1,2,3,4,5] _ _ q rfl)
 ·unfold oU at q
  rw[if_neg (by simpa using h)] at q
  exact bB (decide_eq_true hl) (.mk [0,1,2,3,4,5] _ _ q rfl)
theorem GC(hf:bN es z=none):dG (cH es) (.str z)=none:=(A1 z).trans (congrArg (dZ _) hf)
theorem zD(hf:bN es bj=none)(ht:th=.none)(q:Q (.v .none) (k9 lb lc lm ln es cs T D N)):C4 d n lb lc lm ln es cs T D N (.str bj) th Q E:=
 iU (dS (pZ (GC hf)) (xP (b:=true) (ht▸rfl) (.mk [0,1,2,3,4,5] _ _ q rfl)))
theorem xJ{ts:List S}(hN:N.map (·.2)=cJ ts)(h:ts.length<=100):(jR N).length<lim:=aB (ah (aH (FP.trans (Fw hN))) h) (by decide)
theorem Ew(hf:bN es z=none)(hz:z≠bj)(hl:z.length<=100)(hN:(jR N).length<lim)(q:∀g,Q (.v .none) (k9 lb lc lm ln es cs T D (N++[(g,[.str ly,.str (rO++z)])]))):C4 d n lb lc lm ln es cs T D N (.str z) th Q E:=
 cf (dS (pZ (GC hf)) (dS (beq_false_of_ne hz) (bB (decide_eq_true ⟨rfl,by decide,ah hl (by decide)⟩) λg=>bB (decide_eq_true hN) (.mk [.one 0,.one 1,.one 2,.one 3,.one 4,.gh 5 [6]] (.v .none) [(lb,.dict (.raw (cH es))),(lc,.list (.raw (cs.map .int))),(0,.d6 T),(lm,.dict (.raw D)),(ln,.list (.raw (jR N++[.ref g]))),(0,.gh (N++[(g,[.str ly,.str (rO++z)])]))] (fU.symm▸q g) rfl))))
theorem yS{lo:Nat}{Z:Nat->AV}(hf:bN es bj=none)(hD:D.length<=100)(q:Q (.v .none) (k9 lb lc lm ln es cs [(lo,EM Z)] (dput D (.str bj) (.int 77)) N)):C4 d n lb lc lm ln es cs [(lo,EM Z)] D N (.str bj) (.ref lo) Q E:=
 uu [(lb,.dict (.raw (cH es))),(lc,.list (.raw (cs.map .int))),(lo,Kn Z),(lm,.dict (.raw D)),(ln,.list (.raw (jR N))),(0,.gh N)] [.v (.str bj),.v (.int n),.r 0,.r 1,.r 2,.r 3,.r 4] [.one 0,.one 1,.gT [2],.one 3,.one 4,.one 5]
  (i9 inl (dS (pZ (GC hf)) (bB (decide_eq_true (aB hD (by decide))) (.mk [.one 0,.one 1,.gT [2],.one 3,.one 4,.one 5] _ _ q rfl)))) rfl
theorem kdN{L:Cs}{G:Kd->Prop}(hv:pq v)(q:∀k,yL k (.bi .list)=false->yL k (.bi .str)=false->G k):A9 v L G:=j7 (P:=λv=>A9 v L G) hv (q _ rfl rfl) λ_=>q _ rfl rfl
theorem Bj(hv:pq v)(hn:n<=5)(hN:(jR N).length<lim)(q:∀g,Q (.v .none) (k9 lb lc lm ln es cs T D (N++[(g,[.str ly,.str (wJ n v)])]))):C4 d n lb lc lm ln es cs T D N v th Q E:=by
 obtain⟨h0,h1,h2,h3,h4,h5⟩:=QG hv hn
 have q:∀g,Q (.v .none) [(lb,.dict (.raw (cH es))),(lc,.list (.raw (cs.map .int))),(0,.d6 T),(lm,.dict (.raw D)),(ln,.list (.raw (jR N++[.ref g]))),(0,.gh (N++[(g,[.str ly,.str (wJ n v)])]))]:=λg=>fU.symm▸q g
 unfold wJ at q
 refine km inK (kdN hv λk k1 k2=>dS k1 (kdN hv λk k1 k2=>nQ (congrArg (!·) k2) (bB (decide_eq_true h0) ?_)))
 generalize je (n:Int)=t at*
 exact bB (decide_eq_true ⟨rfl,by decide,h1⟩) (bB (decide_eq_true ⟨rfl,h2,by decide⟩) (use [] (DA hv (bB (decide_eq_true ⟨rfl,h3,h4⟩) (bB (decide_eq_true ⟨rfl,h5,by decide⟩) λg=>bB (decide_eq_true hN) (.mk [.one 0,.one 1,.one 2,.one 3,.one 4,.gh 5 [6]] _ _ (q g) rfl)))) rfl))
theorem mI{s:Nat}(G:bC es cs s)(H:OT th T)(hv:cQ v)(hn:n<=5)(hN:N.map (·.2)=cJ st.2)(hr:st.1.length<=100/\st.2.length<=100)
  (q:∀N',N'.map (·.2)=cJ (cI es cs (w8 th) n v st).2->Q (.v .none) (k9 lb lc lm ln es cs T (cI es cs (w8 th) n v st).1 N')):C4 d n lb lc lm ln es cs T st.1 N v th Q E:=by
 have hl:=xJ hN hr.2
 revert q
 refine jC (P:=λst'=>(∀N',N'.map (·.2)=cJ st'.2->Q (.v .none) (k9 lb lc lm ln es cs T st'.1 N'))->C4 d n lb lc lm ln es cs T st.1 N v th Q E) hv (λh q=>Bj h hn hl λg=>q _ (qG hN)) (λz e ev hz hf q=>ev▸AI hf (G.idx e (f7 hf).1) hr.1 (q N hN)) (λev hf=>⟨λx hx q=>?_,λhx q=>?_⟩) (λz ev hz hf ne q=>ev▸Ew hf ne hz hl λg=>q _ (qG hN))
 ·subst ev
  rcases H with⟨H,_⟩|⟨lo,Z,rfl,rfl⟩
  ·rw[H] at hx;exact ns (show none=some x from hx)
  ·exact yS hf hr.1 (ae hx▸q N hN)
 ·subst ev
  rcases H with⟨H,_⟩|⟨lo,Z,rfl,rfl⟩
  ·exact zD hf H (q N hN)
  ·exact ns (show none=some _ from hx.symm)
end
inductive NZ:AV->List AV->List (Nat×aF)->Prop where
 |leaf {v:AV} (h:cQ v):NZ v [v] []
 |lst {l:Nat} {vs:List AV} (h:∀v∈vs,cQ v) (hl:vs.length<=3):NZ (.ref l) vs [(l,.list vs)]
 |nest {l l':Nat} {vs:List AV} (h:∀v∈vs,cQ v) (hl:vs.length<=2):NZ (.ref l) (vs++[.str [55]]) [(l,.list [.ref l',.str [55]]),(l',.list vs)]
theorem NZ.og{v:AV}{ls:List AV}{X:List (Nat×aF)}(h:NZ v ls X):ls.length<=3/\∀v∈ls,cQ v:=by
 cases h with
 |leaf h=>exact⟨b9 rfl,λv m=>au.mp m▸h⟩
 |lst h hl=>exact⟨hl,h⟩
 |nest h hl=>exact⟨by rw[aw];exact aP hl,λv m=>(cp.mp m).elim (h v) λm=>au.mp m▸BW⟩
section
variable{d:Nat}{Q E:PE}{lb lc lm ln n l m s:Nat}{es:List Ent}{cs:List Int}{T:List (Nat×aF)}{N:List (Nat×List AV)}{th v:AV}{st fin:jS}{vs ls:List AV}{P:Prop}
noncomputable def PT(es:List Ent)(cs:List Int)(tv:Option AV)(n:Nat)(vs:List AV)(fin:jS)(m:Nat)(p:jS×List (Nat×List AV)):Prop:=p.2.map (·.2)=cJ p.1.2/\aI es cs tv n (vs.drop m) p.1=fin/\room p.1 (vs.drop m).length
theorem PT.step{tv:Option AV}{p:jS×List (Nat×List AV)}(I:PT es cs tv n vs fin m p)(h:vs[m]?=some v)(hv:cQ v){N':List (Nat×List AV)}(hN:N'.map (·.2)=cJ (cI es cs tv n v p.1).2):PT es cs tv n vs fin (m+1) (cI es cs tv n v p.1,N'):=by
 unfold PT at I
 rw[il h] at I
 exact⟨hN,I.2.1,room.leaf hv I.2.2⟩
theorem room.low(r:room st n):st.1.length<=100/\st.2.length<=100:=⟨ah (bb ..) (ah (bz r.1) (by decide)),ah (bb ..) r.2⟩
theorem PT.done{tv:Option AV}{p:jS×List (Nat×List AV)}(I:PT es cs tv n vs fin vs.length p):p.1=fin:=by
 have z:=I.2.1
 rw[nV] at z
 exact z
theorem lpQ{R:List (AV×AV)->List (Nat×List AV)->Prop}(q:∀N',N'.map (·.2)=cJ fin.2->R fin.1 N'){st':jS}{N':List (Nat×List AV)}(e:st'=fin)(h:N'.map (·.2)=cJ st'.2):R st'.1 N':=by
 subst e
 exact q N' h
theorem qH(G:bC es cs s)(H:OT th T)(hv:∀v∈vs,cQ v)(hn:n<=5)(hN:N.map (·.2)=cJ st.2)(hr:room st vs.length)
  (q:∀N',N'.map (·.2)=cJ (aI es cs (w8 th) n vs st).2->Q (.v .none) (k9 lb lc lm ln es cs T (aI es cs (w8 th) n vs st).1 N'++[(l,.list (.raw vs))])):
  Call (d+4) .packed [.r 6,.v (.int n),.r 0,.r 1,.v th,.r 3,.r 4] (k9 lb lc lm ln es cs T st.1 N++[(l,.list (.raw vs))]) Q E:=
 cf (.lst (τ:=λm=>{p//PT es cs (w8 th) n vs (aI es cs (w8 th) n vs st) m p}) (λ_ _=>[some (.r 6),some (.v (.int n)),some (.r 0),some (.r 1),some (.v th),some (.r 3),some (.r 4),none,none]) (λ_ t=>k9 lb lc lm ln es cs T t.1.1.1 t.1.2++([(l,.ro (.list (.raw vs)))]:Cs)) (.id ⟨(st,N),hN,rfl,hr⟩ rfl)
  (λm x e t=>have hx:=hv x (av e);use [0,1,2,3,4,5] (mI G H hx hn t.2.1 t.2.2.2.low λN' hN'=>.mk [.one 0,.one 1,.one 2,.one 3,.one 4,.one 5,.one 6] ⟨_,PT.step t.2 e hx hN'⟩ rfl) rfl)
  λt=>.mk [.one 0,.one 1,.one 2,.one 3,.one 4,.one 5,.one 6] _ _ (lpQ (R:=λD N'=>Q (.v .none) (k9 lb lc lm ln es cs T D N'++[(l,.list (.raw vs))])) q (PT.done t.2) t.2.1) rfl)
theorem zK{l':Nat}(G:bC es cs s)(H:OT th T)(hv:∀v∈vs,cQ v)(hn:n<=5)(hN:N.map (·.2)=cJ st.2)(hr:room st (vs.length+1))
  (q:∀N',N'.map (·.2)=cJ (aI es cs (w8 th) n (vs++[.str [55]]) st).2->Q (.v .none) (k9 lb lc lm ln es cs T (aI es cs (w8 th) n (vs++[.str [55]]) st).1 N'++[(l,.list (.cons (.r 7) (.cons (.v (.str [55])) .nil))),(l',.list (.raw vs))])):
  Call (d+5) .packed [.r 6,.v (.int n),.r 0,.r 1,.v th,.r 3,.r 4] (k9 lb lc lm ln es cs T st.1 N++[(l,.list (.cons (.r 7) (.cons (.v (.str [55])) .nil))),(l',.list (.raw vs))]) Q E:=by
 rw[n8] at q
 exact iU (.run (use [0,1,2,3,4,5,7] (qH G H hv hn hN (hr.mono (br _)) λN' hN'=>use [0,1,2,3,4,5] (mI G H BW hn hN' (room.og hv hr).low λN'' hN''=>.mk [0,1,2,3,4,5,6,7] _ _ (q N'' hN'') rfl) rfl) rfl))
theorem La{B0 X R:List (Nat×aF)}(P:NZ v ls X)(G:bC es cs s)(H:OT th T)(hn:n<=5)(hN:N.map (·.2)=cJ st.2)(hr:room st 3)
  (q:∀N',N'.map (·.2)=cJ (aI es cs (w8 th) n ls st).2->Q (.v .none) (k9 lb lc lm ln es cs T (aI es cs (w8 th) n ls st).1 N'++[(0,.d6 (B0++(X++R)))])):
  Call (d+5) .packed [.v v,.v (.int n),.r 0,.r 1,.v th,.r 3,.r 4] (k9 lb lc lm ln es cs T st.1 N++[(0,.d6 (B0++(X++R)))]) Q E:=by
 rw[<-bf R] at q⊢
 cases P with
 |leaf h=>exact use [0,1,2,3,4,5] (mI (d:=d+2) G H h hn hN hr.low λN' hN'=>q N' hN') rfl
 |@lst l _ h hl=>
  exact uu (k9 lb lc lm ln es cs T st.1 N++([(l,.list (.raw ls)),(0,.d6 B0),(0,.d6 R)]:Cs)) [.r 6,.v (.int n),.r 0,.r 1,.v th,.r 3,.r 4] [.one 0,.one 1,.one 2,.one 3,.one 4,.one 5,.gT [7,6,8]]
   (use [0,1,2,3,4,5,6] (qH (d:=d+1) (l:=l) G H h hn hN (hr.mono hl) λN' hN'=>.mk [.one 0,.one 1,.one 2,.one 3,.one 4,.one 5,.gT [7,6,8]] _ _ (q N' hN') rfl) rfl) rfl
 |@nest l l' vs h hl=>
  exact uu (k9 lb lc lm ln es cs T st.1 N++([(l,.list (.cons (.r 7) (.cons (.v (.str [55])) .nil))),(l',.list (.raw vs)),(0,.d6 B0),(0,.d6 R)]:Cs)) [.r 6,.v (.int n),.r 0,.r 1,.v th,.r 3,.r 4] [.one 0,.one 1,.one 2,.one 3,.one 4,.one 5,.gT [8,6,7,9]]
   (use [0,1,2,3,4,5,6,7] (zK (l:=l) (l':=l') G H h hn hN (hr.mono (aP hl)) λN' hN'=>.mk [.one 0,.one 1,.one 2,.one 3,.one 4,.one 5,.gT [8,6,7,9]] _ _ (q N' hN') rfl) rfl) rfl
theorem E2{B B0 X R:List (Nat×aF)}(e:B=B0++(X++R))(P:NZ v ls X)(G:bC es cs s)(H:OT th T)(hn:n<=5)(hN:N.map (·.2)=cJ st.2)(hr:room st 3)
  (q:∀N',N'.map (·.2)=cJ (aI es cs (w8 th) n ls st).2->Q (.v .none) (k9 lb lc lm ln es cs T (aI es cs (w8 th) n ls st).1 N'++[(0,.d6 B)])):
  Call (d+5) .packed [.v v,.v (.int n),.r 0,.r 1,.v th,.r 3,.r 4] (k9 lb lc lm ln es cs T st.1 N++[(0,.d6 B)]) Q E:=by
 subst e
 exact La P G H hn hN hr q
end
section
variable{d:Nat}{Q E:PE}{l:Nat}{v:AV}{vs:List AV}{kn:List (Nat×bF)}
theorem vC(h:cQ v)(q:Q (.v v) []):Call (d+1) .nj [.v v] [] Q E:=by
 revert q
 refine h.elim (λh=>j7 (P:=λv=>Q (.v v) []->Call (d+1) .nj [.v v] [] Q E) h (λq=>iU (.mk [] _ _ q rfl)) λi q=>iU (.mk [] _ _ q rfl)) λh=>h.elim λz h q=>?_
 rw[h.1] at q⊢
 exact iU (.mk [] _ _ q rfl)
theorem BC(hv:∀v∈vs,cQ v)(hl:vs.length<=3)(q:∀ll lk lv lh ln lw,Q (.r 2) [(l,.list (.raw vs)),(0,.gk kn),(ll,wX (kr lk lv lh ln lw vs.length vs)),(0,.d6 (wu (kr lk lv lh ln lw vs.length vs)))]):
  Call (d+10) .nj [.r 0] [(l,.list (.raw vs)),(0,.gk kn)] Q E:=by
 refine cf (.Y0 vs.take rfl (λm x e=>use [] (vC (hv x (av e)) (.id () (rV e) rfl)) rfl) ?_ rfl)
 rw[iL]
 exact bB (decide_eq_true (ah hl (by decide))) λlu=>use [2,1] (vx (ah hl (by decide)) λll lk lv lh ln lw=>.mk [.one 0,.one 1,.one 3,.one 4] _ _ (q ll lk lv lh ln lw) rfl) rfl
theorem JF{l':Nat}(hv:∀v∈vs,cQ v)(hl:vs.length<=2)(q:∀lo ok ov oh on ow li lk lv lh ln lw,Q (.r 5) [(l,.list (.cons (.r 1) (.cons (.v (.str [55])) .nil))),(l',.list (.raw vs)),(0,.gk kn),(li,wX (kr lk lv lh ln lw vs.length vs)),(0,.d6 (wu (kr lk lv lh ln lw vs.length vs))),(lo,wX (wG ok ov oh on ow li)),(0,.d6 (wu (wG ok ov oh on ow li)))]):
  Call (d+11) .nj [.r 0] [(l,.list (.cons (.r 1) (.cons (.v (.str [55])) .nil))),(l',.list (.raw vs)),(0,.gk kn)] Q E:=
 cf (.run (use [1,2] (BC hv (tQ hl) λli lk lv lh ln lw=>use [] (vC BW λlu=>use [5,2] (vx (us:=[.ref li,.str [55]]) (b9 rfl) λlo ok ov oh on ow=>.mk [.one 0,.one 1,.one 2,.one 3,.one 4,.one 6,.one 7] _ _ (q lo ok ov oh on ow li lk lv lh ln lw) rfl) rfl) rfl) rfl))
theorem Z8{ls:List AV}{B0 X R:List (Nat×aF)}(P:NZ v ls X)(q:∀w X',kO w ls X'->Q (.v w) [(0,.d6 (B0++(X++R))),(0,.gk kn),(0,.d6 X')]):
  Call (d+11) .nj [.v v] [(0,.d6 (B0++(X++R))),(0,.gk kn)] Q E:=by
 rw[<-bf R] at q⊢
 cases P with
 |leaf h=>
  exact uu [(0,.d6 (B0++([]++(R++[])))),(0,.gk kn)] [.v v] [.one 0,.one 1] (use [] (vC (d:=d+10) h (.mk [.one 0,.one 1,.gT []] _ _ (q v [] (.leaf h)) rfl)) rfl) rfl
 |@lst l _ h hl=>
  exact uu [(l,.list (.raw ls)),(0,.gk kn),(0,.d6 B0),(0,.d6 R)] [.r 0] [.gT [2,0,3],.one 1] (use [0,1] (BC (d:=d+1) (l:=l) h hl λll lk lv lh ln lw=>.mk [.gT [2,0,3],.one 1,.gT [4,5]] (.v (.ref ll)) _ (q _ _ (.lst h hl)) rfl) rfl) rfl
 |@nest l l' vs h hl=>
  exact uu [(l,.list (.cons (.r 1) (.cons (.v (.str [55])) .nil))),(l',.list (.raw vs)),(0,.gk kn),(0,.d6 B0),(0,.d6 R)] [.r 0] [.gT [3,0,1,4],.one 2] (use [0,1,2] (JF (l:=l) (l':=l') h hl λlo ok ov oh on ow li lk lv lh ln lw=>.mk [.gT [3,0,1,4],.one 2,.gT [7,8,5,6]] (.v (.ref lo)) _ (q _ _ (.nest h hl)) rfl) rfl) rfl
theorem Uy{ls:List AV}{B B0 X R:List (Nat×aF)}(e:B=B0++(X++R))(P:NZ v ls X)(q:∀w X',kO w ls X'->Q (.v w) [(0,.d6 B),(0,.gk kn),(0,.d6 X')]):Call (d+11) .nj [.v v] [(0,.d6 B),(0,.gk kn)] Q E:=by
 subst e
 exact Z8 P q
end
theorem UT{m:Int}(hm:0<m)(hm':m<=1000):¬(m=0\/2^128<m.natAbs):=by
 obtain⟨n,rfl⟩:=cS (jQ hm)
 exact λz=>z.elim (CN hm) (iP.mpr (ah (cD.mp hm':n<=1000) (by decide)))
theorem mG{d l:Nat}{N t m:Int}{Q E:PE}(hm:0<m)(hm':m<=1000)(q:∀(r:Nat) N',(r:Int)<m->Q (.v (.int r)) [(l,.list (.cons (.v (.int N')) .nil))]):Call (d+1) .draw [.r 0,.v (.int t),.v (.int m)] [(l,.list (.cons (.v (.int N)) .nil))] Q E:=by
 have h3:=rJ (t+N) hm
 obtain⟨r,hr⟩:=cS (ni (t+N) hm)
 have h1:r5 .mod (t+N) m=some (r:Int):=(if_neg (CN hm)).trans (congrArg some hr)
 have h2:r5 .floordiv N m=some (N.fdiv m):=if_neg (UT hm hm')
 exact iU (oW h1 (oW h2 (.mk [0] _ _ (q r _ (hr▸h3)) rfl)))
noncomputable def D5:AV->AV
 |.ref _=>.int 77
 |v=>v
noncomputable def uT(p:AV×AV):AV×AV:=(p.1,D5 p.2)
theorem v9{v:AV}(h:oC v=true):D5 v=v:=Cd (P:=λv=>D5 v=v) h rfl (λ_=>rfl) (λ_=>rfl) λ_ _=>rfl
section
variable{d:Nat}{Q E:PE}{l lo m r:Nat}{x y:AV}{kn:List (Nat×bF)}{ps:List (AV×AV)}{G N:List (Nat×List AV)}
noncomputable def FL(G N:List (Nat×List AV))(ps:List (AV×AV))(m:Nat):Prop:=N.map (·.2)++lz ((ps.drop m).map uT)=lz (ps.map uT)
theorem FL.snoc{t:Nat}{z:AV}(h:ps[m]?=some (x,y))(e:D5 y=z)(F:FL G N ps m):FL G (N++[(t,[x,z])]) ps (m+1):=by
 unfold FL at F⊢
 rw[il h] at F
 rw[aN,ay,<-e];exact F
theorem FL.done{n:Nat}(F:FL G N ps n)(e:n=ps.length):N.map (·.2)=lz (ps.map uT):=by
 unfold FL at F
 rw[e,nV] at F
 exact(bf _).symm.trans F
noncomputable def qt(l:Nat)(a:AD)(kn:List (Nat×bF))(lo:Nat)(o:RO):Cs:=[(l,wX a),(0,.d6 (wu a)),(0,.gk kn),(lo,o)]
theorem Pj{a:AD}(A:Arr kn true a ps)(hl:ps.length<=50)(hv:∀p∈ps,oC p.2=true)(q:∀G lr,G.map (·.2)=lz (ps.map uT)->Q (.r 5) (qt l a kn 0 (.d6 [])++[(0,.gh G),(lr,.list (.raw (jR G)))])):
  Call (d+4) .seen [.r 0] (qt l a kn 0 (.d6 [])) Q E:=
 An (cf (use [0,1,2] (ui (.arr A) (ah hl (by decide)) λG lr hG=>
  .lz (X:=G) (τ:=λm=>{N//FL G N ps m}) (λ_ t=>jR t.1) (λ_ t=>qt l a kn 0 (.d6 [])++([(0,.gh t.1),(0,.gh G),(lr,.ro (.list (.raw (jR G))))]:Cs)) (λ_ _=>⟨5,0,rfl⟩) (.id ⟨[],rfl⟩ rfl rfl)
   (λm r x y e t=>have hp:=nO hG e;have h:=hv _ (av hp);cn rfl (v3 h λk hk=>dS (hk _) λt'=>.mk [.one 0,.one 1,.one 2,.one 3,.gh 4 [7],.one 5,.one 6] ⟨_,FL.snoc hp (v9 h) t.2⟩ fU rfl))
   (j0 hG) λt=>have hN:=FL.done t.2 (mu hG);bB (decide_eq_true (ah (aH ((oA hN).trans (aj _))) (ah hl (by decide)))) λlr'=>.mk [.one 0,.one 1,.one 2,.one 3,.one 4,.one 7] _ _ (q t.1 lr' hN) rfl) rfl))
theorem OF{a:AD}{Z:Nat->AV}(A:Arr kn true a ps)(hl:ps.length<=50)(hv:∀p∈ps,oC p.2=true\/p.2=.ref lo)(q:∀G lr,G.map (·.2)=lz (ps.map uT)->Q (.r 5) (qt l a kn 0 (.d6 [(lo,EM Z)])++[(0,.gh G),(lr,.list (.raw (jR G)))])):
  Call (d+4) .seen [.r 0] (qt l a kn 0 (.d6 [(lo,EM Z)])) Q E:=
 An (uu (qt l a kn lo (Kn Z)++([(0,.gh [])]:Cs)) [.r 0] [.one 0,.one 1,.one 2,.gT [3],.one 4] (i9 inl (use [0,1,2] (ui (.arr A) (ah hl (by decide)) λG lr hG=>
  .lz (X:=G) (τ:=λm=>{N//FL G N ps m}) (λ_ t=>jR t.1) (λ_ t=>qt l a kn lo (Kn Z)++([(0,.gh t.1),(0,.gh G),(lr,.ro (.list (.raw (jR G))))]:Cs)) (λ_ _=>⟨5,0,rfl⟩) (.id ⟨[],rfl⟩ rfl rfl)
   (λm r x y e t=>have hp:=nO hG e;(hv _ (av hp)).elim (λh=>cn rfl (v3 h λk hk=>dS (hk _) λt'=>.mk [.one 0,.one 1,.one 2,.one 3,.gh 4 [7],.one 5,.one 6] ⟨_,FL.snoc hp (v9 h) t.2⟩ fU rfl)) λh=>.mk (.r 3) (.ref lo) (congrArg some h) rfl λt'=>.mk [.one 0,.one 1,.one 2,.one 3,.gh 4 [7],.one 5,.one 6] ⟨_,FL.snoc (z:=.int 77) hp ((congrArg D5 h).trans rfl) t.2⟩ fU rfl)
   (j0 hG) λt=>have hN:=FL.done t.2 (mu hG);bB (decide_eq_true (ah (aH ((oA hN).trans (aj _))) (ah hl (by decide)))) λlr'=>.mk [.one 0,.one 1,.one 2,.gT [3],.one 4,.one 7] _ _ (q t.1 lr' hN) rfl) rfl)) rfl)
theorem RZ{a:AD}{th:AV}{T:List (Nat×aF)}(H:OT th T)(A:Arr kn true a ps)(hl:ps.length<=50)(hv:∀p∈ps,oC p.2=true\/(p.2=th/\th≠.none))(q:∀G lr,G.map (·.2)=lz (ps.map uT)->Q (.r 5) (qt l a kn 0 (.d6 T)++[(0,.gh G),(lr,.list (.raw (jR G)))])):
  Call (d+4) .seen [.r 0] (qt l a kn 0 (.d6 T)) Q E:=by
 rcases H with⟨rfl,rfl⟩|⟨lo,Z,rfl,rfl⟩
 ·exact Pj A hl (λp m=>(hv p m).elim id λh=>(h.2 rfl).elim) q
 ·exact OF A hl (λp m=>(hv p m).imp id λh=>h.1) q
end
theorem GB{ps:List (AV×AV)}{k v:AV}:(dput ps k v).map uT=dput (ps.map uT) k (D5 v):=by
 induction ps with
 |nil=>rfl
 |cons p r ih=>
  rw[ma]
  by_cases h:p.1=k
  ·rw[if_pos h,cq,cq];exact(if_pos h).symm
  ·rw[if_neg h,cq,cq,ih];exact(if_neg h).symm
noncomputable def uQ(st:jS):jS:=(st.1.map uT,st.2)
noncomputable def Ip(th:AV)(ps:List (AV×AV)):Prop:=∀p∈ps,oC p.1=true/\(oC p.2=true\/(p.2=th/\th≠.none))
theorem Ip.put{th k v:AV}{ps:List (AV×AV)}(h:Ip th ps)(hk:oC k=true)(hv:oC v=true\/(v=th/\th≠.none)):Ip th (dput ps k v):=AF (P:=λp=>oC p.1=true/\(oC p.2=true\/(p.2=th/\th≠.none))) h ⟨hk,hv⟩
noncomputable def pO(th:AV)(st:jS):Prop:=Ip th st.1/\∀t∈st.2,sX t=true
section
variable{es:List Ent}{cs:List Int}{kn:List (Nat×bF)}{th v:AV}{n m:Nat}{st:jS}{ls:List AV}{lss:List (List AV)}{tv:Option AV}
theorem qM{s t:S}(h:sX s=true)(h':sX t=true):sX (s++t)=true:=by
 unfold sX at*
 rw[wo,h,h'];rfl
theorem OV(h:n<=5):sX (je n)=true:=by
 have:∀n:_root_.Fin 6,sX (je (n.val:Nat))=true:=by decide+kernel
 exact this ⟨n,lM h⟩
theorem pO.note{t:S}(h:pO th st)(ht:sX t=true):pO th (st.1,st.2++[t]):=⟨h.1,λx m=>(cp.mp m).elim (h.2 x) λm=>au.mp m▸ht⟩
theorem pO.bad(h:pO th st)(hn:n<=5)(hv:pq v):pO th (st.1,st.2++[wJ n v]):=
 h.note (qM (qM (qM (qM (by decide) (OV hn)) (by decide)) (j7 (P:=λv=>sX (kindS v)=true) hv (by decide) λ_=>(by decide:sX [105,110,116]=true))) (by decide))
theorem yX(T:Ez kn th)(hv:cQ v)(hn:n<=5)(h:pO th st):cI es cs (w8 th) n v (uQ st)=uQ (cI es cs (mY th) n v st)/\pO th (cI es cs (mY th) n v st):=by
 rcases hv with hv|⟨z,rfl,_,hz⟩
 ·have b:=h.bad hn hv
  revert b
  exact j7 (P:=λv=>pO th (st.1,st.2++[wJ n v])->cI es cs (w8 th) n v (uQ st)=uQ (cI es cs (mY th) n v st)/\pO th (cI es cs (mY th) n v st)) hv (λb=>⟨rfl,b⟩) λ_ b=>⟨rfl,b⟩
 ·show mA cs (w8 th) z (uQ st) (bN es z)=uQ (mA cs (mY th) z st (bN es z))/\pO th (mA cs (mY th) z st (bN es z))
  cases bN es z with
  |some e=>exact⟨(congrArg (λs=>(s,st.2)) (GB (ps:=st.1) (k:=oU z) (v:=.int (cs.getD e.idx 0)))).symm,h.1.put (by unfold oU;split<;>first|rfl|exact hz) (.inl rfl),h.2⟩
  |none=>
   unfold mA
   dsimp only
   by_cases e:z=bj
   ·rw[if_pos e,if_pos e]
    rcases T with rfl|⟨lo,rfl,_⟩
    ·exact⟨rfl,h⟩
    ·exact⟨(congrArg (λs=>(s,st.2)) (GB (ps:=st.1) (k:=.str bj) (v:=.ref lo))).symm,h.1.put (by decide) (.inr ⟨rfl,AV.noConfusion⟩),h.2⟩
   ·rw[if_neg e,if_neg e];exact⟨rfl,h.note (qM (by decide) hz)⟩
theorem vF(T:Ez kn th)(hn:n<=5):∀{st:jS},(∀v∈ls,cQ v)->pO th st->aI es cs (w8 th) n ls (uQ st)=uQ (aI es cs (mY th) n ls st)/\pO th (aI es cs (mY th) n ls st):=by
 induction ls with
 |nil=>exact λ_ h=>⟨rfl,h⟩
 |cons v r ih=>exact λ{st} hv h=>have z:=yX (n:=n) (es:=es) (cs:=cs) T (hv v (.head _)) hn h;have y:=ih (λv m=>hv v (.tail _ m)) z.2;⟨(congrArg (aI es cs (w8 th) n r) z.1).trans y.1,y.2⟩
theorem Ce(T:Ez kn th):∀{n:Nat}{st:jS},n+lss.length<=6->(∀ls∈lss,ls.length<=3/\∀v∈ls,cQ v)->pO th st->e8 es cs (w8 th) n lss (uQ st)=uQ (e8 es cs (mY th) n lss st)/\pO th (e8 es cs (mY th) n lss st):=by
 induction lss with
 |nil=>exact λ_ _ h=>⟨rfl,h⟩
 |cons v r ih=>exact λ{n st} hn hv h=>have hn:=bO n r.length▸hn;have z:=vF (n:=n) (es:=es) (cs:=cs) T (CC (ah (bb ..) hn)) (hv v (.head _)).2 h;have y:=ih (n:=n+1) hn (λv m=>hv v (.tail _ m)) z.2;⟨(congrArg (e8 es cs (w8 th) (n+1) r) z.1).trans y.1,y.2⟩
theorem rL:∀{st:jS},(∀v∈ls,cQ v)->(aI es cs tv n ls st).2.length<=st.2.length+ls.length:=by
 induction ls with
 |nil=>exact λ_=>aK _
 |cons v r ih=>exact λ{st} hv=>ah (ih λv m=>hv v (.tail _ m)) (bO st.2.length r.length▸bE (jC (P:=λs=>s.2.length<=st.2.length+1) (hv v (.head _)) (λ_=>aH aw) (λ_ _ _ _ _=>br _) (λ_ _=>⟨λ_ _=>br _,λ_=>br _⟩) λ_ _ _ _ _=>aH aw) _)
theorem wK:∀{n:Nat}{st:jS},(∀ls∈lss,ls.length<=3/\∀v∈ls,cQ v)->(e8 es cs tv n lss st).2.length<=st.2.length+3*lss.length:=by
 induction lss with
 |nil=>exact λ_=>aK _
 |cons v r ih=>
  intro n st hv
  have h1:=rL (es:=es) (cs:=cs) (tv:=tv) (n:=n) (st:=st) (hv v (.head _)).2
  refine ah (ih (n:=n+1) λv m=>hv v (.tail _ m)) ?_
  rw[mK,CJ,fx (3*r.length),<-eI]
  exact bE (ah h1 (bQ (hv v (.head _)).1 _)) _
end
theorem bK{w:RV}{r:RS}{m c:Nat}{L:Cs}{k:RV->Prop}(h:m<c+1)(a:k w)(b:∀n,n<c->qI r n L k):qI (.cons w r) m L k:=
 b8 (motive:=λm=>m<c+1->qI (.cons w r) m L k) m (λ_=>a) (λn h=>b n (hJ h)) h
theorem YW{a b c e:Int}{m:Nat}{L:Cs}{k:RV->Prop}(h:m<4)(q:∀i,k (.v (.int i))):qI (.cons (.v (.int a)) (.cons (.v (.int b)) (.cons (.v (.int c)) (.cons (.v (.int e)) .nil)))) m L k:=
 bK h (q a) λ_ h=>bK h (q b) λ_ h=>bK h (q c) λ_ h=>bK h (q e) λ_ h=>absurd h (dM _)
noncomputable def Rb(a b c:Nat):RS:=.cons (.v (.str [97])) (.cons (.v (.str [98])) (.cons (.v (.str [95,99])) (.cons (.v (.str [55])) (.cons (.v (.str [112,95,97])) (.cons (.v (.str [110,111,119,104,101,114,101])) (.cons (.v (.str [116,104,105,115])) (.cons (.v (.int 4)) (.cons (.v .none) (.cons (.r a) (.cons (.r b) (.cons (.r c) .nil)))))))))))
theorem pf{s:S}(h:(decide (s.length<=100)&&sX s)=true):cQ (.str s):=have h:=bR _ _▸h;.inr ⟨s,rfl,of_decide_eq_true h.1,h.2⟩
theorem XD{a b c m:Nat}{L:Cs}{k:RV->Prop}(h:m<12)(q:∀v,cQ v->k (.v v))(qa:k (.r a))(qb:k (.r b))(qc:k (.r c)):qI (Rb a b c) m L k:=
 bK h (q _ (pf rfl)) λ_ h=>bK h (q _ (pf rfl)) λ_ h=>bK h (q _ (pf rfl)) λ_ h=>bK h (q _ (pf rfl)) λ_ h=>bK h (q _ (pf rfl)) λ_ h=>bK h (q _ (pf rfl)) λ_ h=>bK h (q _ (pf rfl)) λ_ h=>
  bK h (q _ (.inl (.inr ⟨_,rfl⟩))) λ_ h=>bK h (q _ (.inl (.inl rfl))) λ_ h=>bK h qa λ_ h=>bK h qb λ_ h=>bK h qc λ_ h=>absurd h (dM _)
section
variable{d:Nat}{Q E:PE}
theorem M3(q:∀a b c e t,Q (.r 4) [(a,.list (.cons (.v (.str [97])) (.cons (.v (.str [110,111,110,101])) (.cons (.v (.int 5)) .nil)))),(b,.list (.cons (.v (.str [95,99])) .nil)),(c,.list (.cons (.r 1) (.cons (.v (.str [55])) .nil))),(e,.list .nil),(t,.tup (Rb 0 2 3))]):Call (d+1) .things [] [] Q E:=
 iU λa b c e t=>.mk [0,1,2,3,4] _ _ (q a b c e t) rfl
end
noncomputable def LS(w:W)(es:List Ent)(cs:List Int)(N:List (Nat×List AV))(P:Int):Cs:=
 wC w es cs N++[(w.lp,.list (.cons (.v (.int P)) .nil)),(w.lb,.dict (.raw (cH es))),(w.lc,.list (.raw (cs.map .int))),(0,.d6 w.T)]
noncomputable def inT(f:Fn):Bool:=inl f&&f !=.things
noncomputable abbrev DrS:=(List AV×List (List AV))×Int×List (Nat×aF)
section
variable{d:Nat}{Q E:PE}{w:W}{P:Int}{es:List Ent}{cs:List Int}{N:List (Nat×List AV)}{ts:List S}{n m:Nat}
noncomputable def Jh(es:List Ent)(cs:List Int)(tv:Option AV)(lss:List (List AV))(fin:jS)(m:Nat)(p:jS×List (Nat×List AV)):Prop:=p.2.map (·.2)=cJ p.1.2/\e8 es cs tv (m+1) (lss.drop m) p.1=fin/\room p.1 (3*(lss.drop m).length)
theorem Jh.step{tv:Option AV}{lss:List (List AV)}{ls:List AV}{fin:jS}{p:jS×List (Nat×List AV)}(I:Jh es cs tv lss fin m p)(h:lss[m]?=some ls)(hl:ls.length<=3/\∀v∈ls,cQ v){N':List (Nat×List AV)}(hN:N'.map (·.2)=cJ (aI es cs tv (m+1) ls p.1).2):Jh es cs tv lss fin (m+1) (aI es cs tv (m+1) ls p.1,N'):=by
 unfold Jh at I
 rw[il h] at I
 exact⟨hN,I.2.1,room.Rg hl.1 hl.2 I.2.2⟩
theorem Jh.room{tv:Option AV}{lss:List (List AV)}{ls:List AV}{fin:jS}{p:jS×List (Nat×List AV)}(I:Jh es cs tv lss fin m p)(h:lss[m]?=some ls):room p.1 3:=by
 have z:=I.2.2
 rw[il h] at z
 exact z.mono (gA 3 (aP (aV _)))
theorem Jh.done{tv:Option AV}{lss:List (List AV)}{fin:jS}{p:jS×List (Nat×List AV)}(I:Jh es cs tv lss fin m p)(e:m=lss.length):p.1=fin:=by
 have z:=I.2.1
 rw[e,nV] at z
 exact z
theorem Ip.S7{kn:List (Nat×bF)}{th:AV}{ps:List (AV×AV)}(T:Ez kn th)(h:Ip th ps):Kq (ps.map uT):=λp m=>(aS.mp m).elim λx z=>z.2▸⟨(h x z.1).1,(h x z.1).2.elim (λo=>(congrArg oC (v9 o)).trans o) λo=>T.elim (λe=>(o.2 e).elim) λ⟨lo,e,_⟩=>congrArg (λv=>oC (D5 v)) (o.1.trans e)⟩
noncomputable def Ti(ts:List S):List (AV×AV):=ts.map λt=>(.str ly,.str t)
theorem By{ts:List S}:cJ ts=(Ti ts).map λp=>[p.1,p.2]:=by unfold cJ Ti;rw[bU];rfl
theorem Qt{ts:List S}(h:∀t∈ts,sX t=true):Kq (Ti ts):=λp m=>(aS.mp m).elim λt z=>z.2▸⟨(by decide:sX ly=true),h t z.1⟩
theorem j1(G:bC es cs w.s)(Tk:Ez w.kn w.th)(H:OT w.th w.T)(hN:N.map (·.2)=cJ ts)(ht:ts.length<=80)(hs:∀t∈ts,sX t=true)
  (q:∀N' P' ts',N'.map (·.2)=cJ ts'->ts'.length<=ts.length+12->(∀t∈ts',sX t=true)->Q (.v (.bool true)) (LS w es cs N' P'++[(0,.gh []),(0,.gh []),(0,.gh [])])):
  Call (d+18) .sO [.r 7,.r 0,.r 8,.r 9] (LS w es cs N P) Q E:=by
 refine U2 (U2 (aah (i:=5) (l:=0) (X:=N) rfl (km inT (.xV (τ:=λm=>{t:DrS//AllP NZ t.1.1 t.1.2 t.2.2 []/\t.1.1.length=m}) (λ_ t=>t.1.1.1) (λ_ t=>LS w es cs N t.1.2.1++([(0,.d6 t.1.2.2),(0,.d6 []),(0,.gh N)]:Cs)) (.id ⟨(([],[]),P,[]),.nil,rfl⟩ rfl rfl) (λm hm t=>?_) λt=>?_))))
 ·refine use [] (M3 λa b c e tt=>?_) rfl
  refine λt2=>YW hm λtold=>use [7] (mG (by decide) (by decide) λr P'' hr=>?_) rfl
  have len:∀{v:AV},(t.1.1.1++[v]).length=m+1:=aw.trans (congrArg de t.2.2)
  refine XD (bW.mp hr) (λv hv=>?_) ?_ ?_ ?_
  ·exact .mk [.one 0,.one 1,.one 2,.one 3,.one 4,.one 5,.one 6,.one 7,.one 8,.one 9,.one 10,.gT [11],.one 12,.one 13] ⟨((_,_),P'',_),t.2.1.snoc rfl (.leaf hv),len⟩ rfl rfl
  ·exact .mk [.one 0,.one 1,.one 2,.one 3,.one 4,.one 5,.one 6,.one 7,.one 8,.one 9,.one 10,.gT [11,14],.one 12,.one 13] ⟨((_,_),P'',_),t.2.1.snoc rfl (.lst (l:=a) (vs:=[.str [97],.str [110,111,110,101],.int 5]) (λv m=>(aC.mp m).elim (λe=>e▸pf rfl) λm=>(aC.mp m).elim (λe=>e▸pf rfl) λm=>au.mp m▸.inl (.inr ⟨5,rfl⟩)) (by decide)),len⟩ rfl rfl
  ·exact .mk [.one 0,.one 1,.one 2,.one 3,.one 4,.one 5,.one 6,.one 7,.one 8,.one 9,.one 10,.gT [11,16,15],.one 12,.one 13] ⟨((_,_),P'',_),t.2.1.snoc rfl (.nest (l:=c) (l':=b) (vs:=[.str [95,99]]) (λv m=>au.mp m▸pf rfl) (by decide)),len⟩ rfl rfl
  ·exact .mk [.one 0,.one 1,.one 2,.one 3,.one 4,.one 5,.one 6,.one 7,.one 8,.one 9,.one 10,.gT [11,17],.one 12,.one 13] ⟨((_,_),P'',_),t.2.1.snoc rfl (.lst (l:=e) (vs:=[]) (λ_=>mq) (by decide)),len⟩ rfl rfl
 ·obtain⟨⟨⟨us,lss⟩,P1,B⟩,hT,hl⟩:=t
  have hl:us.length=4:=hl
  have lu:us.length<=lim:=hl▸(by decide)
  refine bB (decide_eq_true lu) λl1=>use [7] (mG (by decide) (by decide) λr P2 hr=>?_) rfl
  have hk:(us.take (4 - (r:Int)).toNat).length<=4/\0<(us.take (4 - (r:Int)).toNat).length:=by rw[eV,hl];exact⟨Nat.min_le_right _ _,Nat.lt_min.mpr ⟨Int.pos_iff_toNat_pos.mp (Int.sub_pos_of_lt hr),by decide⟩⟩
  refine bB (decide_eq_true lu) (bB (decide_eq_true ⟨Hc (jQ hr),rfl⟩) λl2 l3=>bB (decide_eq_true (bz (xJ hN (ah ht (by decide))))) λl4' t5=>bB (decide_eq_true ⟨aV _,ah hk.1 (by decide)⟩) ?_)
  obtain⟨R1,hT1⟩:=hT.take (4 - (r:Int)).toNat
  generalize us.take (4 - (r:Int)).toNat=vs at hT1 hk⊢
  generalize lss.take (4 - (r:Int)).toNat=lvs at hT1
  have el:=hT1.len
  have all:∀ls∈lvs,ls.length<=3/\∀v∈ls,cQ v:=hT1.all λh=>h.og
  have l4:lvs.length<=4:=el▸hk.1
  refine .xV (τ:=λm=>{p//Jh es cs (w8 w.th) lvs (e8 es cs (w8 w.th) 1 lvs ([],ts)) m p}) (λ_ _=>[some (.r 7),some (.r 0),some (.r 8),some (.r 9),some (.r 15),some (.r 16),some (.r 17),none,none,none]) (λ_ t=>LS w es cs N P2++([(0,.d6 B),(0,.d6 []),(0,.gh t.1.2),(l1,.list (.raw us)),(l2,.list (.raw vs)),(l3,.dict (.raw t.1.1.1)),(l4',.list (.raw (jR t.1.2))),(t5,.gh [])]:Cs)) (.mk [.one 0,.one 1,.one 2,.one 3,.one 4,.one 5,.one 6,.one 7,.one 8,.one 9,.one 10,.one 11,.one 12,.one 13,.one 14,.one 15,.one 16,.one 17,.no t5] ⟨(([],ts),N),hN,rfl,room.mono (k':=12) (gA 3 l4) ⟨b9 rfl,ah (bE ht 12) (by decide)⟩⟩ rfl) (λm hm t=>?_) λu=>?_
  ·have hv:=aO (show m<vs.length from hm)
   obtain⟨ls,D,X,R',hls,Pv,eB⟩:=hT1.at hv
   exact cn hv (use [8,9,10,16,17,13,11] (E2 (n:=m+1) eB Pv G H (ah (ah hm hk.1) (by decide)) t.2.1 (Jh.room t.2 hls) λN' hN'=>.mk [.one 0,.one 1,.one 2,.one 3,.one 4,.one 5,.one 6,.one 7,.one 8,.one 9,.one 10,.one 11,.one 12,.one 13,.one 14,.one 15,.one 16,.one 17,.one 18] ⟨_,Jh.step t.2 hls (all ls (av hls)) hN'⟩ rfl) rfl)
  ·have e:=Jh.done u.2 el.symm
   have hN2:=u.2.1
   refine .lst (τ:=λm=>{t:List AV×List (Nat×aF)//AllP kO t.1 (lvs.take m) t.2 []}) (λ_ t=>t.1.1) (λ_ t=>LS w es cs N P2++([(0,.d6 B),(0,.d6 t.1.2),(0,.gh u.1.2),(l1,.list (.raw us)),(l2,.ro (.list (.raw vs))),(l3,.dict (.raw u.1.1.1)),(l4',.list (.raw (jR u.1.2))),(t5,.gh [])]:Cs)) (.id ⟨([],[]),.nil⟩ rfl rfl) (λm x hv t=>?_) λt=>?_
   ·obtain⟨ls,D,X,R',hls,Pv,eB⟩:=hT1.at hv
    exact use [11,6] (Uy eB Pv λw' X2 hX2=>.mk [.one 0,.one 1,.one 2,.one 3,.one 4,.one 5,.one 6,.one 7,.one 8,.one 9,.one 10,.one 11,.gT [12,19],.one 13,.one 14,.one 15,.one 16,.one 17,.one 18] ⟨(_,_),rV hls▸t.2.snoc rfl hX2⟩ rfl rfl) rfl
   ·have hW:AllP kO t.1.1 lvs t.1.2 []:=t.2.cast (Cq (aH el))
    have wl:t.1.1.length=vs.length:=hW.len.symm.trans el
    have wm:t.1.1.length<=lim:=ah (aH wl) (ah hk.1 (by decide))
    obtain⟨w0,ws,ew⟩:=List.exists_cons_of_length_pos (Jx hk.2 wl.symm)
    have ew':w0::t.1.1.drop 1=t.1.1:=by rw[ew];rfl
    have S7:=Ce (n:=1) (es:=es) (cs:=cs) (st:=([],ts)) Tk (ah (bQ l4 1) (by decide)) all ⟨λ_=>mq,hs⟩
    have eu:=e.trans S7.1
    have eu1:u.1.1.1=(e8 es cs (mY w.th) 1 lvs ([],ts)).1.map uT:=congrArg E6 eu
    have eu2:u.1.1.2=(uQ (e8 es cs (mY w.th) 1 lvs ([],ts))).2:=congrArg Prod.snd eu
    have ul:u.1.1.1.length<=50:=ah (bb ..) (ah (bz u.2.2.2.1) (by decide))
    have al:(e8 es cs (mY w.th) 1 lvs ([],ts)).1.length<=50:=by rw[eu1,aj] at ul;exact ul
    refine bB (decide_eq_true wm) λl6=>cn (ew▸rfl) (bB (decide_eq_true wm) λl7 l8=>use [0,1,2,3,4,5,6,21,20,12] (Iw (d:=d+1) (ts:=ts) (v0:=w0) (us:=t.1.1.drop 1) (ew'.symm▸hW) (by rw[eW,wl];exact Nat.sub_le_sub_right hk.1 1) G Tk hN ht λl9 a' N3 B3 A3 hN3=>?_) rfl)
    refine use [22,23,6,10] (RZ H A3 al (λp m=>(S7.2.1 p m).2) λG1 lr hG1=>?_) rfl
    refine bB (decide_eq_true (ah ul (by decide))) λG2 hG2 l10=>?_
    have ok:=S7.2.1.S7 Tk
    refine pP (lP (G:=G1) rfl rfl ok hG1 λσ F g m=>F.tup 24 0 G1 g rfl m) (lP (G:=G2) rfl rfl ok (eu1▸hG2) λσ F g m=>F.tup 26 0 G2 g rfl m) (qu ok) ?_
    have okn:=Qt S7.2.2
    refine pP (lP (G:=N3) rfl rfl okn (hN3.trans By) λσ F g m=>F.tup 5 0 N3 g rfl m) (lP (G:=u.1.2) rfl rfl okn (hN2.trans ((congrArg cJ eu2).trans By)) λσ F g m=>F.tup 13 0 u.1.2 g rfl m) (qu okn) ?_
    exact .mk [.one 0,.one 1,.one 2,.one 3,.one 4,.one 5,.one 6,.one 7,.one 8,.one 9,.one 10,.no 0,.no 0,.no 0] _ _ (q N3 P2 _ hN3 (ah (wK all) (bQ (gA 3 l4) _)) S7.2.2) rfl
end
theorem jx{α:Type}{f:α->S}{g:α->AV}{xs:List α}:strsOf ((xs.map λx=>(AV.str (f x),g x)).map (·.1))=some (xs.map f):=by
 induction xs with
 |nil=>rfl
 |cons x r ih=>
  exact congrArg (dZ (f x::·)) ih
section
variable{es:List Ent}{cs:List Int}{s:Nat}{e e':Ent}
theorem nv(hn:(es.map (·.name)).Nodup)(he:e∈es):bN es e.name=some e:=by
 induction es with
 |nil=>exact mq he
 |cons a r ih=>
  rw[cq,aJ] at hn
  rw[qL]
  exact(aC.mp he).elim (λh=>by rw[h,if_pos rfl]) λhe=>(if_neg λh:a.name=e.name=>hn.1 (h▸aU (f:=λe:Ent=>e.name) he)).trans (ih hn.2 he)
theorem bC.same(G:bC es cs s)(he:e∈es)(he':e'∈es)(h:e.name=e'.name):e=e':=ae ((nv G.nodup he).symm.trans (h▸nv G.nodup he'))
noncomputable def mN(es:List Ent)(e:Ent):List Ent:=es.filter λe'=>(e'.idx:Int)==(e.idx:Int)
theorem qE(h:e'∈mN es e):e'∈es/\e'.idx=e.idx:=(gE.mp h).imp id λh=>gZ (eq_of_beq h)
theorem xu(G:bC es cs s)(he:e∈es)(h:e.isRef=true):mN es e=es.filter (·.isRef):=by
 unfold mN
 refine List.filter_congr λe' he'=>?_
 cases hr:e'.isRef with
 |true=>exact beq_iff_eq.mpr (congrArg _ ((G.ref e' he' hr).trans (G.ref e he h).symm))
 |false=>
  refine beq_eq_false_iff_ne.mpr λhx=>aT (hr.symm.trans ?_)
  by_cases n:e'.name=e.name
  ·exact G.same he' he n▸h
  ·exact G.dist e' he' e he (gZ hx) n
theorem xj(G:bC es cs s)(he:e∈es)(h:e.isRef=false):(mN es e).length<=1:=by
 have key:∀e'∈mN es e,e'.name=e.name:=λe' m=>jr λn=>aT (h.symm.trans (G.dist e he e' (qE m).1 (qE m).2.symm λz=>n z.symm))
 have nd:((mN es e).map (·.name)).Nodup:=(Hg.map _).nodup G.nodup
 generalize mN es e=l at key nd
 cases l with
 |nil=>exact aV _
 |cons a l=>cases l with
  |nil=>exact aK _
  |cons b r=>exact((aJ.mp nd).1 (aC.mpr (.inl ((key a (.head _)).trans (key b (.tail _ (.head _))).symm)))).elim
end
section
variable{es:List Ent}{cs:List Int}{s lr:Nat}{e:Ent}
theorem tp(G:bC es cs s)(he:e∈es):dG (bX es cs lr) (.str e.name)=some (fR cs lr e):=ju.trans (congrArg (dZ _) (nv G.nodup he))
theorem xU(G:bC es cs s)(he:e∈es):dG (cH es) (.str e.name)=some (.int e.idx):=ju.trans (congrArg (dZ _) (nv G.nodup he))
end
section
variable{α:Type}{n:Nat}{dh:List j9}{L:Cs}{turn:List RV->Cs->(Option RV->Cs->Prop)->Prop}{K:RS->Cs->Prop}{body:List RV->RL->Cs->PF->Prop}{ρ:RL}{Q:PF}
theorem pK.flat(xs:List α)(v:α->j9)(g:α->List AV)(e:dh=xs.map v)(step:∀x∈xs,∀us,xc n (v x) L (yp turn L (Ed (τ:=Unit) (locs L) (λ_=>us++g x) (λ_=>L) us)))(done:K (.raw (xs.flatMap g)) L)(h:tk (locs L).length (locs L)=locs L):pK turn n dh L K:=
 .inv (τ:=λ_=>Unit) xs v e (λm _=>(xs.take m).flatMap g) (λ_ _=>L) (Ko (λ_=>[]) rfl h) (λm x ex _=>by
  have z:=step x (av ex) ((xs.take m).flatMap g)
  rw[show(xs.take m).flatMap g++g x=(xs.take (m+1)).flatMap g by rw[<-rV ex,qm,List.flatMap_singleton]] at z
  exact z) λ_=>by rw[iL];exact done
theorem tT.Sh(xs:List α)(v:α->j9)(ρ':RL)(e:dh=xs.map v)(h:To (τ:=Unit) (locs L) (λ_=>ρ') (λ_=>L) ρ L)(step:∀x∈xs,xc n (v x) L (xy body ρ' L (Vp (τ:=Unit) (locs L) (λ_=>ρ') (λ_=>L) Q)))(done:Q (.next ρ') L):tT body n dh ρ L Q:=
 .inv (τ:=λ_=>Unit) xs v e (λ_ _=>ρ') (λ_ _=>L) h (λm x ex _=>step x (av ex)) λ_=>done
end
theorem Df{c:Nat}(h:z9 c=true):c<128:=by
 unfold z9 at h
 rcases wq _ _▸h with h|h
 ·rcases wq _ _▸h with h|h
  ·exact(by decide:∀c∈n6,c<128) c (di.mp h)
  ·exact(by decide:∀c∈I7,c<128) c (di.mp h)
 ·exact eq_of_beq h▸(by decide)
section
variable{d:Nat}{Q E:PE}{X Y:Nat->AV}{lh lf ln lv lr lt lb lc s:Nat}{th:AV}{es:List Ent}{cs:List Int}{e:Ent}
theorem xZ{z:S}(h:iW z):sX z=true:=h.elim (λe=>e▸(by decide)) λh=>aD.mpr λc m=>decide_eq_true (aY (Df (aD.mp h.2.2 c m)) (by decide))
theorem Rq{α β:Type}{f:α->β}{xs:List α}:(xs.flatMap λx=>[f x])=xs.map f:=by
 induction xs with
 |nil=>rfl
 |cons x r ih=>exact congrArg (f x::·) ih
theorem QT{xs:List Ent}:(xs.flatMap λe'=>if(e'.idx:Int)==e.idx then[AV.str e'.name] else[])=(mN xs e).map λe=>AV.str e.name:=by
 unfold mN
 induction xs with
 |nil=>rfl
 |cons x r ih=>
  rw[kE,gq,ih]
  split
  ·rfl
  ·rfl
theorem jG(h:e.isRef=false):fR cs lr e=.int (cs.getD e.idx 0):=by unfold fR;rw[h]
theorem nA(h:e.isRef=true):fR cs lr e=.ref lr:=by unfold fR;rw[h]
theorem SE{P:AV->Prop}(h0:e.isRef=true->P (.ref lr))(h1:e.isRef=false->P (.int (cs.getD e.idx 0))):P (fR cs lr e):=by
 unfold fR
 cases h:e.isRef with
 |true=>exact h0 h
 |false=>exact h1 h
noncomputable def cR(X Y:Nat->AV)(lh lf ln lv lr lt lb lc s:Nat)(th:AV)(es:List Ent)(cs:List Int):Cs:=[(lh,qW X (.r 1) (.v (.ref ln))),(lf,qe Y th 2),(lv,.dict (.raw (bX es cs lr))),(lr,.inst .ref [.v (.int (cs.getD s 0)),.v (.int (refs es:Nat)),.r 4]),(lt,.list .nil),(lb,.dict (.raw (cH es))),(lc,.list (.raw (cs.map .int)))]
theorem KA(G:bC es cs s)(q:Q (.v (.bool true)) (cR X Y lh lf ln lv lr lt lb lc s th es cs)):Call (d+2) .ip [.r 0,.r 5,.r 6] (cR X Y lh lf ln lv lr lt lb lc s th es cs) Q E:=by
 have sl:(es.map (·.name)).length<64:=by rw[aj];exact aB G.many (by decide)
 refine cf (oW (jx (f:=λe:Ent=>e.name)) (bB (decide_eq_true sl) λl1=>oW (jx (f:=λe:Ent=>e.name)) (bB (decide_eq_true sl) λl2=>?_)))
 have ok1:∀v∈(mR (es.map (·.name))).map AV.str,oC v=true:=λv m=>(aS.mp m).elim λz h=>h.2▸(aS.mp (hZ.mem_iff.mp h.1)).elim λe h=>h.2▸xZ (G.names e h.1).1
 have ok2:∀v∈es.flatMap λe=>[AV.int (cs.getD e.idx 0)],oC v=true:=λv m=>(gp.mp m).elim λe h=>(au.mp h.2)▸rfl
 have l15:(es.flatMap λe=>[AV.int (cs.getD e.idx 0)]).length<=lim:=by rw[Rq,aj];exact ah G.many (by decide)
 refine pP (cW rfl rfl ok1) (cW rfl rfl ok1) (fQ ok1) ?_
 refine .flat es (λe=>.one (.v (.str e.name))) (λe=>[.int (cs.getD e.idx 0)]) bU (λe he us=>?_) ?_ rfl
 ·refine SE (P:=λv=>dG (bX es cs lr) (.str e.name)=some v->_) (cs:=cs) (lr:=lr) (e:=e) (λr h=>?_) (λr h=>?_) (tp G he)
  ·exact .mk (.r 3) _ h rfl (.id () (by rw[G.ref e he r]) rfl)
  ·exact cn h (.id () rfl rfl)
 refine bB (decide_eq_true l15) λl3=>?_
 refine .flat es (λe=>.one (.v (.str e.name))) (λe=>[.int (cs.getD e.idx 0)]) bU (λe he us=>cn (xU G he) (cn (Fz (G.idx e he)) (.id () rfl rfl))) ?_ rfl
 refine bB (decide_eq_true l15) λl4=>pP (cW rfl rfl ok2) (cW rfl rfl ok2) (fQ ok2) ?_
 refine .Sh es (λe=>.one (.v (.str e.name))) [some (.r 0),some (.r 5),some (.r 6),some (.r 2),none,none,none] bU (.id () rfl) (λe he=>?_) (.mk [.one 0,.one 1,.one 2,.one 3,.one 4,.one 5,.one 6] _ _ q rfl)
 refine .flat es (λe=>.one (.v (.str e.name))) (λe'=>if(e'.idx:Int)==e.idx then[.str e'.name] else[]) bU (λe' he' us=>cn (xU G he') (cn (xU G he) (cz (λh=>?_) λh=>?_))) ?_ rfl
 ·exact .id () (by rw[if_pos h]) rfl
 ·exact .id () (by rw[if_neg (ne_true_of_eq_false h),bf]) rfl
 rw[QT]
 have lm:((mN es e).map λe=>AV.str e.name).length<=lim:=by rw[aj];exact ah (ou ..) (ah G.many (by decide))
 refine bB (decide_eq_true lm) λl5=>cz (λh=>?_) λh=>.mk [.one 0,.one 1,.one 2,.one 3,.one 4,.one 5,.one 6,.one 7,.one 8,.one 9,.one 10] () rfl
 have er:e.isRef=true:=jr λn=>by
  have z:=xj G he (eq_false_of_ne_true n)
  have h:=of_decide_eq_true h
  rw[aj] at h
  exact iP.mpr z (bW.mp h)
 have ne:fR cs lr e=.ref lr:=nA er
 refine .Sh (mN es e) (λe=>.one (.v (.str e.name))) [some (.r 0),some (.r 5),some (.r 6),some (.r 2),some (.v (.str e.name)),some (.r 11),none] bU (.id () rfl) (λe' m=>?_) ?_
 ·have me:=xu G he er▸m
  have ne':fR cs lr e'=.ref lr:=nA (gE.mp me).2
  exact .mk (.r 3) (.ref lr) ((tp G (qE m).1).trans (congrArg some ne')) rfl (.mk (.r 3) (.ref lr) ((tp G (qE m).1).trans (congrArg some ne')) rfl (.mk (.r 3) (.ref lr) ((tp G he).trans (congrArg some ne)) rfl (.id () rfl)))
 ·refine .mk (.r 3) (.ref lr) ((tp G he).trans (congrArg some ne)) rfl (dS ?_ (.mk [.one 0,.one 1,.one 2,.one 3,.one 4,.one 5,.one 6,.one 7,.one 8,.one 9,.one 10] () rfl))
  rw[aj,xu G he er]
  show(!((refs es:Int)==(refs es:Int)))=false
  rw[beq_self_eq_true];rfl
noncomputable def cN(X Y:Nat->AV)(lh lf ln lv lr lb lc:Nat)(th:AV)(es:List Ent)(cs:List Int):Cs:=[(lh,qW X (.r 1) (.v (.ref ln))),(lf,qe Y th 2),(lv,.dict (.raw (bX es cs lr))),(lb,.dict (.raw (cH es))),(lc,.list (.raw (cs.map .int)))]
theorem K5(G:bC es cs s)(hn:∀e∈es,e.isRef=false)(q:Q (.v (.bool true)) (cN X Y lh lf ln lv lr lb lc th es cs)):Call (d+2) .ip [.r 0,.r 3,.r 4] (cN X Y lh lf ln lv lr lb lc th es cs) Q E:=by
 have sl:(es.map (·.name)).length<64:=by rw[aj];exact aB G.many (by decide)
 have ok1:∀v∈(mR (es.map (·.name))).map AV.str,oC v=true:=λv m=>(aS.mp m).elim λz h=>h.2▸(aS.mp (hZ.mem_iff.mp h.1)).elim λe h=>h.2▸xZ (G.names e h.1).1
 have ok2:∀v∈es.flatMap λe=>[AV.int (cs.getD e.idx 0)],oC v=true:=λv m=>(gp.mp m).elim λe h=>(au.mp h.2)▸rfl
 have l15:(es.flatMap λe=>[AV.int (cs.getD e.idx 0)]).length<=lim:=by rw[Rq,aj];exact ah G.many (by decide)
 refine cf (oW (jx (f:=λe:Ent=>e.name)) (bB (decide_eq_true sl) λl1=>oW (jx (f:=λe:Ent=>e.name)) (bB (decide_eq_true sl) λl2=>?_)))
 refine pP (cW rfl rfl ok1) (cW rfl rfl ok1) (fQ ok1) ?_
 refine .flat es (λe=>.one (.v (.str e.name))) (λe=>[.int (cs.getD e.idx 0)]) bU (λe he us=>cn ((tp G he).trans (congrArg some (jG (hn e he)))) (.id () rfl rfl)) (bB (decide_eq_true l15) λl3=>?_) rfl
 refine .flat es (λe=>.one (.v (.str e.name))) (λe=>[.int (cs.getD e.idx 0)]) bU (λe he us=>cn (xU G he) (cn (Fz (G.idx e he)) (.id () rfl rfl))) ?_ rfl
 refine bB (decide_eq_true l15) λl4=>pP (cW rfl rfl ok2) (cW rfl rfl ok2) (fQ ok2) ?_
 refine .Sh es (λe=>.one (.v (.str e.name))) [some (.r 0),some (.r 3),some (.r 4),some (.r 2),none,none,none] bU (.id () rfl) (λe he=>?_) (.mk [.one 0,.one 1,.one 2,.one 3,.one 4] _ _ q rfl)
 refine .flat es (λe=>.one (.v (.str e.name))) (λe'=>if(e'.idx:Int)==e.idx then[.str e'.name] else[]) bU (λe' he' us=>cn (xU G he') (cn (xU G he) (cz (λh=>.id () (by rw[if_pos h]) rfl) λh=>.id () (by rw[if_neg (ne_true_of_eq_false h),bf]) rfl))) ?_ rfl
 rw[QT]
 have lm:((mN es e).map λe=>AV.str e.name).length<=1:=by rw[aj];exact xj G he (hn e he)
 exact bB (decide_eq_true (ah lm (by decide))) λl5=>dS (decide_eq_false (gI.mpr (cD.mpr lm))) (.mk [.one 0,.one 1,.one 2,.one 3,.one 4,.one 5,.one 6,.one 7,.one 8] () rfl)
end
section
variable{d:Nat}{Q E:PE}{w:W}{P:Int}{es:List Ent}{cs:List Int}{N:List (Nat×List AV)}
theorem sm{s lr lt:Nat}(h:es.any (·.isRef)=false):jV es cs s lr lt=[]:=by unfold jV;rw[h]
theorem f6(G:bC es cs w.s)(q:Q (.v (.bool true)) (LS w es cs N P)):Call (d+2) .ip [.r 0,.r 8,.r 9] (LS w es cs N P) Q E:=by
 have V:∀B,jV es cs w.s w.lr w.lt=B->Call (d+2) .ip [.r 0,.r 8,.r 9] (wV w (bX es cs w.lr) B N++[(w.lp,.list (.cons (.v (.int P)) .nil)),(w.lb,.dict (.raw (cH es))),(w.lc,.list (.raw (cs.map .int))),(0,.d6 w.T)]) Q E:=λB hB=>by
  unfold LS wC at q
  rw[hB] at q
  cases h:es.any (·.isRef) with
  |true=>
   obtain⟨e,he,r⟩:=gm.mp h
   rw[lY he r] at hB
   subst hB
   exact uu ([(w.lh,qW w.X (.r 1) (.r 2)),(w.lf,qe w.Y w.th 3),(w.ln,.list (.raw (jR N))),(w.lv,.dict (.raw (bX es cs w.lr))),(w.lr,.inst .ref [.v (.int (cs.getD w.s 0)),.v (.int (refs es:Nat)),.r 5]),(w.lt,.list .nil),(0,.gh N),(0,.gk w.kn),(w.lp,.list (.cons (.v (.int P)) .nil)),(w.lb,.dict (.raw (cH es))),(w.lc,.list (.raw (cs.map .int))),(0,.d6 w.T)]:Cs) [.r 0,.r 9,.r 10] [.one 0,.one 1,.one 2,.one 3,.gT [4,5],.one 6,.one 7,.one 8,.one 9,.one 10,.one 11]
    (use [0,1,3,4,5,9,10] (KA G (.mk [.one 0,.one 1,.one 2,.one 3,.gT [4,5],.one 6,.one 7,.one 8,.one 9,.one 10,.one 11] _ _ q rfl)) rfl) rfl
  |false=>
   rw[sm h] at hB
   subst hB
   have hn:∀e∈es,e.isRef=false:=λe he=>eq_false_of_ne_true λr=>aT (h.symm.trans (gm.mpr ⟨e,he,r⟩))
   exact uu (wV w (bX es cs w.lr) [] N++([(w.lp,.list (.cons (.v (.int P)) .nil)),(w.lb,.dict (.raw (cH es))),(w.lc,.list (.raw (cs.map .int))),(0,.d6 w.T)]:Cs)) [.r 0,.r 8,.r 9] [.one 0,.one 1,.one 2,.one 3,.one 4,.one 5,.one 6,.one 7,.one 8,.one 9,.one 10]
    (use [0,1,3,8,9] (K5 (lr:=w.lr) G hn (.mk [.one 0,.one 1,.one 2,.one 3,.one 4,.one 5,.one 6,.one 7,.one 8,.one 9,.one 10] _ _ q rfl)) rfl) rfl
 exact V _ rfl
end
theorem fV{α:Type}{P:α->Prop}{xs:List α}{x:α}(h:∀y∈xs,P y)(h':P x):∀y∈xs++[x],P y:=λy m=>(cp.mp m).elim (h y) λm=>au.mp m▸h'
section
variable{es:List Ent}{cs cs':List Int}{s s' lr lr':Nat}{e:Ent}{t:S}{v:Int}
theorem bC.add(G:bC es cs s)(hc:cs.length<=cs'.length)(hi:e.idx<cs'.length)(hs:(∀e∈es,e.isRef=false)\/s'=s)(hr:e.isRef=true->e.idx=s')(hd:∀e'∈es,e'.idx=e.idx->e'.isRef=true/\e.isRef=true)(hn:∀e'∈es,e'.name≠e.name)(ho:iW e.name/\e.name.length<=30)(hm:es.length<15):bC (es++[e]) cs' s' where
 nodup:=by
  rw[aN,dI]
  exact⟨G.nodup,aJ.mpr ⟨dk,.nil⟩,λa ha b hb=>(aS.mp ha).elim λe' h=>h.2▸au.mp hb▸hn e' h.1⟩
 idx:=fV (λe' h=>aY (G.idx e' h) hc) hi
 ref:=fV (λe' h r=>hs.elim (λhs=>(aT ((hs e' h).symm.trans r)).elim) λhs=>hs▸G.ref e' h r) hr
 dist:=fV (λe1 h1=>fV (λe2 h2=>G.dist e1 h1 e2 h2) λx _=>(hd e1 h1 x).1) (fV (λe2 h2 x _=>(hd e2 h2 x.symm).2) λ_ n=>(n rfl).elim)
 names:=fV G.names ho
 many:=by rw[aw];exact hm
theorem bC.Dc(G:bC es cs s)(hn:∀e'∈es,e'.name≠t)(ho:iW t/\t.length<=30)(hm:es.length<15):bC (es++[⟨t,false,cs.length⟩]) (cs++[v]) s:=
 have l:(cs++[v]).length=cs.length+1:=aw
 G.add (l▸br _) (l▸bM _) (.inr rfl) (λh=>(aT h).elim) (λe' he' h=>(fw (G.idx e' he') h).elim) hn ho hm
theorem bC.Pw(G:bC es cs s)(h0:∀e∈es,e.isRef=false)(hn:∀e'∈es,e'.name≠t)(ho:iW t/\t.length<=30)(hm:es.length<15):bC (es++[⟨t,true,cs.length⟩]) (cs++[v]) cs.length:=
 have l:(cs++[v]).length=cs.length+1:=aw
 G.add (l▸br _) (l▸bM _) (.inl h0) (λ_=>rfl) (λe' he' h=>(fw (G.idx e' he') h).elim) hn ho hm
theorem bC.addRef{e0:Ent}(G:bC es cs s)(h0:e0∈es)(r0:e0.isRef=true)(hn:∀e'∈es,e'.name≠t)(ho:iW t/\t.length<=30)(hm:es.length<15):bC (es++[⟨t,true,s⟩]) cs s:=
 G.add (aK _) (G.ref e0 h0 r0▸G.idx e0 h0) (.inr rfl) (λ_=>rfl) (λe' he' h=>⟨jr λn=>n (by
  by_cases x:e'.name=e0.name
  ·exact G.same he' h0 x▸r0
  ·exact G.dist e' he' e0 h0 (h.trans (G.ref e0 h0 r0).symm) x),rfl⟩) hn ho hm
theorem fresh{g:Ent->AV}(hn:∀e'∈es,e'.name≠t):∀k∈(es.map λe=>(AV.str e.name,g e)).map (·.1),k≠.str t:=λk m=>(aS.mp m).elim λp h=>(aS.mp h.1).elim λe' h'=>h.2▸h'.2▸λx=>hn e' h'.1 (iX x)
theorem e7{g:Ent->AV}{x:AV}(hn:∀e'∈es,e'.name≠t):dput (es.map λe=>(AV.str e.name,g e)) (.str t) x=(es.map λe=>(AV.str e.name,g e))++[(.str t,x)]:=vD (fresh hn)
theorem getD_snoc{i:Nat}(h:i<cs.length):(cs++[v]).getD i 0=cs.getD i 0:=by rw[bG,bG,bk h]
theorem nW:(cs++[v]).getD cs.length 0=v:=by rw[bG,cc];rfl
theorem kR(h:∀e∈es,e.idx<cs.length):bX es (cs++[v]) lr=bX es cs lr:=eT λe he=>congrArg (Prod.mk _) (by unfold fR;rw[getD_snoc (h e he)])
theorem Mo(h:∀e∈es,e.isRef=false):bX es cs lr=bX es cs lr':=eT λe he=>congrArg (Prod.mk _) ((jG (h e he)).trans (jG (h e he)).symm)
theorem ie:bX (es++[e]) cs lr=bX es cs lr++[(.str e.name,fR cs lr e)]:=aN
theorem lE:cH (es++[e])=cH es++[(.str e.name,.int e.idx)]:=aN
theorem P5:(es++[e]).any (·.isRef)=(es.any (·.isRef)||e.isRef):=by rw[List.any_append,iN];exact congrArg _ (Bool.or_false _)
theorem qV:refs (es++[e])=refs es+(if e.isRef then 1 else 0):=by
 unfold refs
 rw[List.filter_append,aw,gq]
 cases e.isRef<;>rfl
theorem Ta(h:∀e∈es,e.isRef=false):refs es=0:=Ag.mpr (Cn.mpr λe he=>ne_true_of_eq_false (h e he))
end
noncomputable def Ph:List (Nat×S):=[(0,[97]),(1,[98]),(2,[95,99]),(3,[55]),(4,[112,95,97])]
structure Rx(m:Nat)(es:List Ent)(cs:List Int)(s:Nat):Prop where
 good:bC es cs s
 names:∀e∈es,e.name∈(Ph.take m).map (·.2)
 le:es.length<=m/\cs.length<=m
structure FrN(m:Nat) where
 es:List Ent
 cs:List Int
 P:Int
 I:Rx m es cs 0
 no:∀e∈es,e.isRef=false
structure FrY(m:Nat) where
 es:List Ent
 cs:List Int
 P:Int
 s:Nat
 lr:Nat
 lt:Nat
 tt:Nat
 z:Int
 k:Int
 i:Int
 I:Rx m es cs s
 yes:∃e∈es,e.isRef=true
 hz:z=cs.getD s 0
 hk:k=refs es
 hi:i=s
section
variable{d:Nat}{Q E:PE}{X Y:Nat->AV}{lp lh lf ln lv:Nat}{th:AV}{P:Int}
noncomputable def fL(X Y:Nat->AV)(lp lh lf ln lv:Nat)(th:AV)(P:Int)(V:List (AV×AV)):Cs:=[(lp,.list (.cons (.v (.int P)) .nil)),(lh,qW X (.r 2) (.v (.ref ln))),(lf,qe Y th 3),(lv,.dict (.raw V))]
noncomputable def Zm(X Y:Nat->AV)(lp lh lf ln lv lb lc lq l4 l5 m:Nat)(th:AV)(t:FrN m):Cs:=fL X Y lp lh lf ln lv th t.P (bX t.es t.cs 0)++[(lb,.dict (.raw (cH t.es))),(lc,.list (.raw (t.cs.map .int))),(lq,.dict .nil),(l4,.gh []),(l5,.gh [])]
noncomputable def ZE(X Y:Nat->AV)(lp lh lf ln lv lb lc lq l4 l5 m:Nat)(th:AV)(t:FrY m):Cs:=fL X Y lp lh lf ln lv th t.P (bX t.es t.cs t.lr)++[(lb,.dict (.raw (cH t.es))),(lc,.list (.raw (t.cs.map .int))),(lq,.dict (.cons (.str [115,104,97,114,101,100]) (.r 11) .nil)),(l4,.gh []),(l5,.gh []),(t.lr,.inst .ref [.v (.int t.z),.v (.int t.k),.r 10]),(t.lt,.list .nil),(t.tt,.tup (.cons (.r 9) (.cons (.v (.int t.i)) .nil)))]
theorem kZ{ps ps':List (AV×AV)}{a x:AV}{w:RV}{L:Cs}{k:RD->Prop}(d:den (locs L) w=some x)(e:dput ps a x=ps')(h:k (.raw ps')):F2 (.raw ps) a w L k:=xP d (e▸h)
theorem Au{us us':List AV}{x:AV}{w:RV}{L:Cs}{k:RS->Prop}(d:den (locs L) w=some x)(e:us++[x]=us')(h:k (.raw us')):Gb (.raw us) w L k:=xP d (e▸h)
theorem gB{n k:Nat}(h:n<=k)(hk:k<=100):n<lim:=aB (ah h hk) (by decide)
theorem IK{ps:List (AV×AV)}{k v w:AV}(h:∀k'∈ps.map (·.1),k'≠k):dput (ps++[(k,v)]) k w=ps++[(k,w)]:=by
 induction ps with
 |nil=>exact if_pos rfl
 |cons p r ih=>exact(if_neg (h p.1 (.head _))).trans (congrArg (p::·) (ih λk' m=>h k' (.tail _ m)))
theorem Rx.up{m s:Nat}{es:List Ent}{cs:List Int}(h:Rx m es cs s):Rx (m+1) es cs s:=
 ⟨h.good,λe he=>(aS.mp (h.names e he)).elim λx z=>aS.mpr ⟨x,List.take_subset_take_left _ (br m) z.1,z.2⟩,tQ h.le.1,tQ h.le.2⟩
theorem Rx.add{m s s':Nat}{es:List Ent}{cs cs':List Int}{e:Ent}{x:Nat×S}(h:Rx m es cs s)(ex:Ph[m]?=some x)(G:bC (es++[e]) cs' s')(n:e.name=x.2)(l:cs'.length<=cs.length+1):Rx (m+1) (es++[e]) cs' s':=
 ⟨G,fV h.up.names (n▸aU (rV ex▸a8 _ (.head _))),aw▸aP h.le.1,ah l (aP h.le.2)⟩
theorem JO{m:Nat}{x:Nat×S}(h:Ph[m]?=some x):x.1<5/\m<5/\(iW x.2/\x.2.length<=30)/\∀z∈(Ph.take m).map (·.2),z≠x.2:=by
 have hm:m<5:=(aq.mp h).1
 have key:∀i:_root_.Fin 5,∀y,Ph[i.val]?=some y->y.1<5/\(y.2=[55]\/(d9 y.2=true/\y.2≠bj/\y.2.all z9=true))/\y.2.length<=30/\∀z∈(Ph.take i.val).map (·.2),z≠y.2:=by
  intro i y e
  have:=(by decide:∀i:_root_.Fin 5,(Ph[i.val]?.all λy=>decide (y.1<5/\(y.2=[55]\/(d9 y.2=true/\y.2≠bj/\y.2.all z9=true))/\y.2.length<=30/\∀z∈(Ph.take i.val).map (·.2),z≠y.2))=true) i
  rw[e] at this
  exact of_decide_eq_true this
 have z:=key ⟨m,hm⟩ x h
 exact⟨z.1,hm,⟨z.2.1,z.2.2.1⟩,z.2.2.2⟩
theorem Tr{a b c e f:Int}{m:Nat}{L:Cs}{k:RV->Prop}(h:m<5)(q:∀i,k (.v (.int i))):qI (.cons (.v (.int a)) (.cons (.v (.int b)) (.cons (.v (.int c)) (.cons (.v (.int e)) (.cons (.v (.int f)) .nil))))) m L k:=
 bK h (q a) λ_ h=>bK h (q b) λ_ h=>bK h (q c) λ_ h=>bK h (q e) λ_ h=>bK h (q f) λ_ h=>absurd h (dM _)
noncomputable def ZS(X Y:Nat->AV)(lp lh lf ln lv:Nat)(th:AV)(P:Int)(es:List Ent)(cs:List Int)(lr lb lc tt:Nat)(B:List (Nat×aF)):Cs:=fL X Y lp lh lf ln lv th P (bX es cs lr)++[(0,.d6 B),(lb,.dict (.raw (cH es))),(lc,.list (.raw (cs.map .int))),(tt,.tup (.cons (.r 5) (.cons (.r 6) .nil)))]
theorem B6(q:∀es cs P s lr lt lb lc tt,bC es cs s->es.length<=5/\cs.length<=5->Q (.r 7) (ZS X Y lp lh lf ln lv th P es cs lr lb lc tt (jV es cs s lr lt))):Call (d+9) .zu [.r 0,.r 1] (fL X Y lp lh lf ln lv th P []) Q E:=by
 refine cf λlb lc lq l4 l5=>.inv2 Ph (λx=>.pair (.v (.int x.1)) (.v (.str x.2))) rfl [some (.r 0),some (.r 1),some (.r 4),some (.r 5),some (.r 6),none,none,none] (λm=>Zm X Y lp lh lf ln lv lb lc lq l4 l5 m th) (λm=>ZE X Y lp lh lf ln lv lb lc lq l4 l5 m th) (.mk [.one 0,.one 1,.one 2,.one 3,.one 4,.one 5,.one 6,.no l4,.no l5] (.inl ⟨[],[],P,⟨⟨.nil,λ_=>mq,λ_=>mq,λ_=>mq,λ_=>mq,aV _⟩,λ_=>mq,aK _,aK _⟩,λ_=>mq⟩) rfl) (λm x ex t Q' K=>?_) (λm x ex t Q' K=>?_) (λt=>?_) λt=>?_
 ·have fr:=JO ex
  have nn:=λe he=>fr.2.2.2 _ (t.I.names e he)
  refine λt6=>Tr fr.1 λtold=>use [0] (mG (by decide) (by decide) λr P' hr=>?_) rfl
  have ll:(cH t.es).length<=m/\(bX t.es t.cs 0).length<=m/\(t.cs.map AV.int).length<=m:=⟨(aj _).symm▸t.I.le.1,(aj _).symm▸t.I.le.1,(aj _).symm▸t.I.le.2⟩
  have m100:m<=100:=ah (bz fr.2.1) (by decide)
  have es':cH (t.es++[⟨x.2,false,t.cs.length⟩])=dput (cH t.es) (.str x.2) (.int (t.cs.map AV.int).length):=by rw[lE,aj];exact(e7 nn).symm
  have cs':(t.cs++[(x.1:Int)+20]).map AV.int=t.cs.map AV.int++[.int ((x.1:Int)+20)]:=aN
  have vs':bX (t.es++[⟨x.2,false,t.cs.length⟩]) (t.cs++[(x.1:Int)+20]) 0=dput (bX t.es t.cs 0) (.str x.2) (.int ((x.1:Int)+20)):=by
   rw[ie,kR t.I.good.idx,jG rfl,nW];exact(e7 nn).symm
  refine cz (λr2=>?_) λr2=>dS r2 (cz (λrp=>?_) λrp=>K (.mk [.one 0,.one 1,.one 2,.one 3,.one 4,.one 5,.one 6,.one 7,.one 8] (.inl ⟨t.es,t.cs,P',t.I.up,t.no⟩) rfl))
  ·obtain rfl:r=2:=gZ (eq_of_beq r2)
   have eb:cH (t.es++[⟨x.2,true,t.cs.length⟩])=dput (cH t.es) (.str x.2) (.int (t.cs.map AV.int).length):=by rw[lE,aj];exact(e7 nn).symm
   have vt:∀lr,bX (t.es++[⟨x.2,true,t.cs.length⟩]) (t.cs++[(x.1:Int)+20]) lr=dput (bX (t.es++[⟨x.2,false,t.cs.length⟩]) (t.cs++[(x.1:Int)+20]) 0) (.str x.2) (.ref lr):=λlr=>by
    rw[ie,ie,nA rfl,kR t.I.good.idx,kR t.I.good.idx,Mo t.no (lr':=0)];exact(IK (fresh nn)).symm
   refine bB (decide_eq_true (gB ll.1 m100)) (kZ rfl eb.symm (bB (decide_eq_true (gB ll.2.2 m100)) (Au rfl cs'.symm (bB (decide_eq_true (gB ll.2.1 m100)) (kZ rfl vs'.symm λlr lt tt=>bB (decide_eq_true ?_) (kZ rfl (vt lr).symm ?_))))))
   ·show(bX (t.es++[⟨x.2,false,t.cs.length⟩]) (t.cs++[(x.1:Int)+20]) 0).length<lim
    exact gB (k:=m+1) ((aj _).symm▸aw▸aP t.I.le.1) (ah fr.2.1 (by decide))
   ·exact K (.mk [.one 0,.one 1,.one 2,.one 3,.one 4,.one 5,.one 6,.one 7,.one 8,.one 10,.one 11,.one 12] (.inr ⟨t.es++[⟨x.2,true,t.cs.length⟩],t.cs++[(x.1:Int)+20],P',t.cs.length,lr,lt,tt,_,_,_,t.I.add ex (t.I.good.Pw t.no nn fr.2.2.1 (aB t.I.le.1 (cg fr.2.1 (by decide)))) rfl (aH aw),⟨_,a8 _ (.head _),rfl⟩,(show(x.1:Int)+20=_ from nW.symm),(show(1:Int)=_ by rw[qV,Ta t.no];rfl),(show(((t.cs++[(x.1:Int)+20]).map AV.int).length:Int) - 1=_ by rw[aj,aw];exact Jw (t.cs.length:Int) 1)⟩) rfl)
  ·refine bB (decide_eq_true (gB ll.1 m100)) (kZ rfl es'.symm (bB (decide_eq_true (gB ll.2.2 m100)) (Au rfl cs'.symm (bB (decide_eq_true (gB ll.2.1 m100)) (kZ rfl vs'.symm (dS r2 (K (.mk [.one 0,.one 1,.one 2,.one 3,.one 4,.one 5,.one 6,.one 7,.one 8] (.inl ⟨t.es++[⟨x.2,false,t.cs.length⟩],t.cs++[(x.1:Int)+20],P',t.I.add ex (t.I.good.Dc nn fr.2.2.1 (aB t.I.le.1 (cg fr.2.1 (by decide)))) rfl (aH aw),fV t.no rfl⟩) rfl))))))))
 ·have fr:=JO ex
  have nn:=λe he=>fr.2.2.2 _ (t.I.names e he)
  have ll:(cH t.es).length<=m/\(bX t.es t.cs t.lr).length<=m/\(t.cs.map AV.int).length<=m:=⟨(aj _).symm▸t.I.le.1,(aj _).symm▸t.I.le.1,(aj _).symm▸t.I.le.2⟩
  have m100:m<=100:=ah (bz fr.2.1) (by decide)
  have es15:t.es.length<15:=aB t.I.le.1 (cg fr.2.1 (by decide))
  refine λt6=>Tr fr.1 λtold=>use [0] (mG (by decide) (by decide) λr P' hr=>?_) rfl
  refine cz (λr2=>?_) λr2=>dS r2 (cz (λrp=>?_) λrp=>K (.mk [.one 0,.one 1,.one 2,.one 3,.one 4,.one 5,.one 6,.one 7,.one 8,.one 9,.one 10,.one 11] (.inr ⟨t.es,t.cs,P',t.s,t.lr,t.lt,t.tt,t.z,t.k,t.i,t.I.up,t.yes,t.hz,t.hk,t.hi⟩) rfl))
  ·have eb:cH (t.es++[⟨x.2,true,t.s⟩])=dput (cH t.es) (.str x.2) (.int t.i):=by rw[lE,t.hi];exact(e7 nn).symm
   have vt:bX (t.es++[⟨x.2,true,t.s⟩]) t.cs t.lr=dput (bX t.es t.cs t.lr) (.str x.2) (.ref t.lr):=by rw[ie,nA rfl];exact(e7 nn).symm
   exact bB (decide_eq_true (gB ll.1 m100)) (kZ rfl eb.symm (bB (decide_eq_true (gB ll.2.1 m100)) (kZ rfl vt.symm (K (.mk [.one 0,.one 1,.one 2,.one 3,.one 4,.one 5,.one 6,.one 7,.one 8,.one 9,.one 10,.one 11] (.inr ⟨t.es++[⟨x.2,true,t.s⟩],t.cs,P',t.s,t.lr,t.lt,t.tt,t.z,_,t.i,t.yes.elim λe0 h0=>t.I.add ex (t.I.good.addRef h0.1 h0.2 nn fr.2.2.1 es15) rfl (br _),⟨_,a8 _ (.head _),rfl⟩,t.hz,(show t.k+1=_ by rw[qV,t.hk];rfl),t.hi⟩) rfl)))))
  ·have eb:cH (t.es++[⟨x.2,false,t.cs.length⟩])=dput (cH t.es) (.str x.2) (.int (t.cs.map AV.int).length):=by rw[lE,aj];exact(e7 nn).symm
   have ec:(t.cs++[(x.1:Int)+20]).map AV.int=t.cs.map AV.int++[.int ((x.1:Int)+20)]:=aN
   have vt:bX (t.es++[⟨x.2,false,t.cs.length⟩]) (t.cs++[(x.1:Int)+20]) t.lr=dput (bX t.es t.cs t.lr) (.str x.2) (.int ((x.1:Int)+20)):=by
    rw[ie,kR t.I.good.idx,jG rfl,nW];exact(e7 nn).symm
   have sl:t.s<t.cs.length:=t.yes.elim λe0 h0=>t.I.good.ref e0 h0.1 h0.2▸t.I.good.idx e0 h0.1
   exact bB (decide_eq_true (gB ll.1 m100)) (kZ rfl eb.symm (bB (decide_eq_true (gB ll.2.2 m100)) (Au rfl ec.symm (bB (decide_eq_true (gB ll.2.1 m100)) (kZ rfl vt.symm (dS r2 (K (.mk [.one 0,.one 1,.one 2,.one 3,.one 4,.one 5,.one 6,.one 7,.one 8,.one 9,.one 10,.one 11] (.inr ⟨t.es++[⟨x.2,false,t.cs.length⟩],t.cs++[(x.1:Int)+20],P',t.s,t.lr,t.lt,t.tt,t.z,t.k,t.i,t.I.add ex (t.I.good.Dc nn fr.2.2.1 es15) rfl (aH aw),t.yes.imp λe0 h0=>⟨aZ _ h0.1,h0.2⟩,t.hz.trans (getD_snoc sl).symm,t.hk.trans (by rw[qV];rfl),t.hi⟩) rfl))))))))
 ·have b:jV t.es t.cs 0 0 0=[]:=sm (List.any_eq_false.mpr λe he=>ne_true_of_eq_false (t.no e he))
  have q:=λtt=>q t.es t.cs t.P 0 0 0 lb lc tt t.I.good t.I.le
  unfold ZS at q
  rw[b] at q
  exact λtt=>.mk [.one 0,.one 1,.one 2,.one 3,.gT [],.one 4,.one 5,.one 9] _ _ (q tt) rfl
 ·have b:jV t.es t.cs t.s t.lr t.lt=[(t.lr,.inst .ref [.int t.z,.int t.k,.ref t.lt]),(t.lt,.list [])]:=t.yes.elim λe h=>by rw[lY h.1 h.2,t.hz,t.hk]
  have q:=λtt=>q t.es t.cs t.P t.s t.lr t.lt lb lc tt t.I.good t.I.le
  unfold ZS at q
  rw[b] at q
  exact λtt=>.mk [.one 0,.one 1,.one 2,.one 3,.gT [9,10],.one 4,.one 5,.one 12] _ _ (q tt) rfl
end
noncomputable def Hs(k:AV):Prop:=k=.int 3\/∃t,k=.str t/\t.all z9=true/\t.length<=4
noncomputable def Bc(p:AV×AV):Prop:=Hs p.1/\∃i,p.2=.int i
theorem mE{t:S}(h:(t.all z9&&decide (t.length<=4))=true):Hs (.str t):=have h:=bR _ _▸h;.inr ⟨t,rfl,h.1,of_decide_eq_true h.2⟩
theorem Wm{z:Int}{n:Nat}{k:Nat->Prop}(e:z=n)(h:k n):Xt z k:=e▸h
theorem WN{m:Nat}{L:Cs}{k:RV->Prop}(h:m<10)(q:∀v,Hs v->k (.v v)):qI (.cons (.v (.str [97])) (.cons (.v (.str [98])) (.cons (.v (.str [95,99])) (.cons (.v (.str [110,101,119])) (.cons (.v (.int 3)) (.cons (.v (.str [57,120])) (.cons (.v (.str [120,32,121])) (.cons (.v (.str [])) (.cons (.v (.str [116,104,105,115])) (.cons (.v (.str [112,95,97])) .nil)))))))))) m L k:=
 bK h (q _ (mE rfl)) λ_ h=>bK h (q _ (mE rfl)) λ_ h=>bK h (q _ (mE rfl)) λ_ h=>bK h (q _ (mE rfl)) λ_ h=>bK h (q _ (.inl rfl)) λ_ h=>bK h (q _ (mE rfl)) λ_ h=>bK h (q _ (mE rfl)) λ_ h=>bK h (q _ (mE rfl)) λ_ h=>bK h (q _ (mE rfl)) λ_ h=>bK h (q _ (mE rfl)) λ_ h=>absurd h (dM _)
noncomputable def U3(m:Nat)(G:List (Nat×List AV)):Prop:=∃ps,G.map (·.2)=lz ps/\ps.length=m/\∀p∈ps,Bc p
theorem U3.lim{m r:Nat}{G:List (Nat×List AV)}(h:U3 m G)(hm:m<5 - r):(jR G).length<lim:=h.elim λps h=>by
 rw[oA h.1,h.2.1]
 exact cg (aY hm (rI ..)) (by decide)
theorem U3.snoc{m t:Nat}{G:List (Nat×List AV)}{k:AV}{i:Int}(h:U3 m G)(hk:Hs k):U3 (m+1) (G++[(t,[k,.int i])]):=h.elim λps h=>⟨ps++[(k,.int i)],by rw[aN,h.1];unfold lz;rw[aN];rfl,aw.trans (congrArg de h.2.1),fV h.2.2 ⟨hk,i,rfl⟩⟩
section
variable{d:Nat}{Q E:PE}{lp:Nat}{P:Int}{kn:List (Nat×bF)}
noncomputable def R2(lp:Nat)(P:Int)(kn:List (Nat×bF)):Cs:=[(lp,.list (.cons (.v (.int P)) .nil)),(0,.gk kn)]
theorem Pd(q:∀P' l a ps,Arr kn false a (qh [] ps)->(∀p∈ps,Bc p)->ps.length<=5->Q (.r 3) (R2 lp P' kn++[(0,.gh []),(l,wX a),(0,.d6 (wu a))])):Call (d+12) .pairs [.r 0] (R2 lp P kn) Q E:=by
 refine An (cf λtk lq=>use [0] (mG (by decide) (by decide) λr P' hr=>?_) rfl)
 have hr5:r<5:=bW.mp hr
 refine Wm (n:=5 - r) (Int.ofNat_sub (bz hr5)).symm (bB (decide_eq_true ⟨aV _,ah (rI ..) (by decide)⟩) ?_)
 refine .xV (τ:=λm=>{t:Int×List (Nat×List AV)//U3 m t.2}) (λ_ _=>[some (.r 0),some (.r 3),some (.r 4),none]) (λ_ t=>R2 lp t.1.1 kn++([(0,.gh t.1.2),(tk,.tup (.cons (.v (.str [97])) (.cons (.v (.str [98])) (.cons (.v (.str [95,99])) (.cons (.v (.str [110,101,119])) (.cons (.v (.int 3)) (.cons (.v (.str [57,120])) (.cons (.v (.str [120,32,121])) (.cons (.v (.str [])) (.cons (.v (.str [116,104,105,115])) (.cons (.v (.str [112,95,97])) .nil))))))))))),(lq,.list (.raw (jR t.1.2)))]:Cs)) (.mk [.one 0,.one 1,.one 2,.one 3,.one 4] ⟨(P',[]),[],rfl,rfl,λ_=>mq⟩ rfl) (λm hm t=>?_) λt=>?_
 ·refine λt6=>Tr (aY (show m<5 - r from hm) (rI ..)) λtold=>use [0] (mG (by decide) (by decide) λr2 P2 hr2=>?_) rfl
  refine WN (bW.mp hr2) λk hk t7=>bB (decide_eq_true (U3.lim t.2 hm)) (Au rfl fU (.mk [.one 0,.one 1,.gh 2 [6],.one 3,.one 4] ⟨(P2,_),t.2.snoc (i:=(m:Int)+30) (t:=t7) hk⟩ rfl))
 ·obtain⟨ps,hG,hl,hp⟩:=t.2
  have l5:ps.length<=5:=ah (aH (show ps.length=5 - r from hl)) (rI ..)
  exact use [4,2,1] (AP (b:=false) hG (λp m=>(hp p m).1.imp id λh=>h.imp λ_ h=>h.1) (λp m=>.inl ((hp p m).2.elim λi e=>e▸rfl)) (ah l5 (by decide)) λl a A=>.mk [.one 0,.one 1,.no 0,.one 5,.one 6] _ _ (q t.1.1 l a ps A hp l5) rfl) rfl
end
noncomputable def MZ:AV->S
 |.str k=>k
 |.int i=>je i
 |_=>[]
noncomputable def yF(pre t:S):S:=pre++[95]++t
noncomputable def Yp(es:List Ent)(mode:Int)(pre t:S):S:=
 if mode=2/\((bN es t).isSome=true\/t=bj) then(if t=[] then[] else yF pre t) else if mode=1/\((bN es t).isSome=true\/t=bj) then[] else t
noncomputable def gV(es:List Ent)(mode:Int)(pre:S)(k:AV):S:=
 if mode=3 then(if k=.str [] then[] else yF pre (MZ k)) else match k with
 |.str t=>Yp es mode pre t
 |_=>[]
noncomputable def cm(es:List Ent)(mode:Int)(pre:S)(k:AV):S:=if d9 (gV es mode pre k) then gV es mode pre k else[]
noncomputable def intOf:AV->Int
 |.int i=>i
 |_=>0
noncomputable def Yb(cs:List Int)(es:List Ent)(t:S):Option Ent->List Ent
 |some _=>es
 |none=>es++[⟨t,false,cs.length⟩]
noncomputable def W7(cs:List Int)(i:Int):Option Ent->List Int
 |some e=>cs.set e.idx i
 |none=>cs++[i]
noncomputable abbrev Eh:=List Ent×List Int×Nat
noncomputable def fD(t:S)(i:Int)(s:Eh):Eh:=(Yb s.2.1 s.1 t (bN s.1 t),W7 s.2.1 i (bN s.1 t),s.2.2+1)
noncomputable def eG(mode:Int)(pre:S):List (AV×AV)->Eh->Option Nat×Eh
 |[],s=>(some s.2.2,s)
 |p::r,s=>if cm s.1 mode pre p.1=bj then(none,s) else if cm s.1 mode pre p.1=[] then eG mode pre r s else eG mode pre r (fD (cm s.1 mode pre p.1) (intOf p.2) s)
theorem OO{mode:Int}{pre:S}{p:AV×AV}{r:List (AV×AV)}{s:Eh}:eG mode pre (p::r) s=if cm s.1 mode pre p.1=bj then(none,s) else if cm s.1 mode pre p.1=[] then eG mode pre r s else eG mode pre r (fD (cm s.1 mode pre p.1) (intOf p.2) s):=rfl
noncomputable def pX(mode:Int)(k:AV):Prop:=Hs k\/(mode=0/\∃t,k=.str t/\t.all z9=true/\t.length<=30)
noncomputable def AL(mode:Int)(p:AV×AV):Prop:=pX mode p.1/\∃i,p.2=.int i
noncomputable def sR(pre:S):Prop:=pre.all z9=true/\pre.length<=4
section
variable{es:List Ent}{cs:List Int}{s:Nat}{t pre:S}{i mode:Int}{k:AV}{st:Eh}{ps:List (AV×AV)}
noncomputable def Jf(n:Nat)(t:S):Prop:=t.all z9=true/\t.length<=n
theorem pX.e(h:pX mode k):k=.int 3\/∃t,k=.str t:=h.elim (λh=>h.imp id λh=>h.imp λ_ h=>h.1) λh=>.inr (h.2.imp λ_ h=>h.1)
theorem EJ(h:Hs k):Jf 4 (MZ k):=by
 rcases h with rfl|⟨t,rfl,h1,h2⟩
 ·exact(by decide+kernel:(je 3).all z9=true/\(je 3).length<=4)
 ·exact⟨h1,h2⟩
theorem Fl(h:pX mode k):Jf 30 (MZ k):=by
 rcases h with h|⟨-,t,rfl,h1,h2⟩
 ·exact⟨(EJ h).1,ah (EJ h).2 (by decide)⟩
 ·exact⟨h1,h2⟩
theorem GV(hp:sR pre)(h:Jf 4 t):Jf 30 (yF pre t):=by
 unfold yF
 exact⟨by rw[wo,wo,hp.1,h.1];rfl,ah (mw (a:=5) (b:=4) (mw (a:=4) (b:=1) hp.2 (aK _)) h.2) (by decide)⟩
theorem Jf.up(h:Jf 4 t):Jf 30 t:=⟨h.1,ah h.2 (by decide)⟩
theorem YK:Jf 30 []:=⟨rfl,aV _⟩
theorem ve{P:S->Prop}{c:Prop}[Decidable c]{a b:S}(h:P a)(h':P b):P (if c then a else b):=by split<;>assumption
theorem zp(hk:pX mode k)(hp:sR pre):Jf 30 (gV es mode pre k):=by
 rcases hk with hk|⟨rfl,t,rfl,h⟩
 case inr=>exact h
 unfold gV
 refine ve (ve YK (GV hp (EJ hk))) ?_
 rcases hk with rfl|⟨t,rfl,h2,h3⟩
 ·exact YK
 ·exact ve (ve YK (GV hp ⟨h2,h3⟩)) (ve YK (Jf.up ⟨h2,h3⟩))
theorem Cj(hk:pX mode k)(hp:sR pre)(h1:cm es mode pre k≠bj)(h2:cm es mode pre k≠[]):iW (cm es mode pre k)/\(cm es mode pre k).length<=30:=by
 have h:=zp (es:=es) (mode:=mode) hk hp
 unfold cm at*
 by_cases hn:d9 (gV es mode pre k)=true
 ·rw[if_pos hn] at h1⊢;exact⟨.inr ⟨hn,h1,h.1⟩,h.2⟩
 ·rw[if_neg hn] at h2;exact(h2 rfl).elim
theorem vQ(h:bN es t=none):∀e∈es,e.name≠t:=by
 induction es with
 |nil=>exact λ_=>mq
 |cons a r ih=>
  rw[qL] at h
  by_cases w:a.name=t
  ·rw[if_pos w] at h;exact ns h.symm
  ·rw[if_neg w] at h;exact λe m=>(aC.mp m).elim (λx=>x▸w) (ih h e)
theorem xl(G:bC st.1 st.2.1 s)(ho:iW t/\t.length<=30)(hm:st.1.length<15):bC (fD t i st).1 (fD t i st).2.1 s:=by
 unfold fD
 cases hf:bN st.1 t with
 |some e=>exact⟨G.nodup,λe he=>by show _<(st.2.1.set _ _).length;rw[aQ];exact G.idx e he,G.ref,G.dist,G.names,G.many⟩
 |none=>exact G.Dc (vQ hf) ho hm
theorem Kj:(fD t i st).1.length<=st.1.length+1:=by
 unfold fD
 cases bN st.1 t with
 |some e=>exact br _
 |none=>exact aH aw
end
noncomputable def JE:S:=[101,120,116,114,97,99,116,40,41,58,32,65,114,103,117,109,101,110,116,32,35,50,32,40,36,102,108,97,103,115,41,32,109,117,115,116,32,98,101,32,97,32,118,97,108,105,100,32,101,120,116,114,97,99,116,32,116,121,112,101]
noncomputable def tD:S:=[101,120,116,114,97,99,116,40,41,58,32,65,114,103,117,109,101,110,116,32,35,51,32,40,36,112,114,101,102,105,120,41,32,105,115,32,114,101,113,117,105,114,101,100,32,119,104,101,110,32,117,115,105,110,103,32,116,104,105,115,32,101,120,116,114,97,99,116,32,116,121,112,101]
noncomputable def Bf:S:=[101,120,116,114,97,99,116,40,41,58,32,65,114,103,117,109,101,110,116,32,35,51,32,40,36,112,114,101,102,105,120,41,32,109,117,115,116,32,98,101,32,97,32,118,97,108,105,100,32,105,100,101,110,116,105,102,105,101,114]
noncomputable def nr:S:=[108,101,102,116]
noncomputable def oV(pre:S):S:=if pre=[] then[] else if d9 pre=true then[] else Bf
inductive Mode:Int->Prop where
 |m0:Mode 0
 |m1:Mode 1
 |m2:Mode 2
 |m3:Mode 3
 |m7:Mode 7
 |P9:Mode 256
 |m5:Mode 5
noncomputable def qd(mode:Int)(pre:S):S:=
 if mode=7 then JE else if mode=256 then nr else if mode=0\/mode=1 then oV pre else if pre=[] then tD else if mode=5 then nr else oV pre
section
variable{d:Nat}{Q E:PE}{pre:S}{mode:Int}
theorem M0{P:S->Prop}(h0:pre=[]->P [])(h1:pre≠[]->d9 pre=true->P [])(h2:pre≠[]->d9 pre=false->P Bf):P (oV pre):=by
 unfold oV
 by_cases a:pre=[]
 ·rw[if_pos a];exact h0 a
 ·rw[if_neg a]
  cases b:d9 pre with
  |true=>exact h1 a b
  |false=>exact h2 a b
theorem jv(h:(pre==[])=true):pre=[]:=by
 cases pre with
 |nil=>rfl
 |cons=>exact absurd h aT
theorem mO(h:(pre==[])=false):pre≠[]:=λe=>by subst e;exact absurd h (by decide)
theorem AR(h:(!(pre==[]))=true)(n:(!d9 pre)=true):oV pre=Bf:=M0 (P:=λs=>s=Bf) (λe=>by subst e;exact absurd h (by decide)) (λ_ m=>by rw[m] at n;exact absurd n aT) λ_ _=>rfl
theorem AJ(n:(!d9 pre)=false):oV pre=[]:=M0 (P:=λs=>s=[]) (λ_=>rfl) (λ_ _=>rfl) λ_ m=>by rw[m] at n;exact absurd n.symm aT
theorem B7(h:(!(pre==[]))=false):oV pre=[]:=M0 (P:=λs=>s=[]) (λ_=>rfl) (λ_ _=>rfl) λa _=>(a (jv (by cases e:pre==[] with|true=>rfl|false=>rw[e] at h;exact absurd h.symm aT))).elim
theorem Il(hm:Mode mode)(hs:sX pre=true)(hl:pre.length<=4)(q:Q (.v (.str (qd mode pre))) []):Call (d+2) .refused [.v (.int mode),.v (.str pre)] [] Q E:=by
 have h1000:=ah hl (by decide:4<=1000)
 cases hm with
 |m7=>exact cf (.mk [] _ _ q rfl)
 |P9=>exact cf λt=>.mk [] _ _ q rfl
 |m5=>
  refine cf λt=>cz (λh=>?_) λh=>?_
  ·cases jv h
   exact .mk [] _ _ q rfl
  ·have e:qd 5 pre=nr:=show(if pre=[] then tD else nr)=nr from if_neg (mO h)
   rw[e] at q
   exact .mk [] _ _ q rfl
 |m0=>
  have q:Q (.v (.str (oV pre))) []:=q
  exact cf λt=>cz (λh=>use [] (nH hs h1000 (cz (λn=>.mk [] _ _ (AR h n▸q) rfl) λn=>.mk [] _ _ (AJ n▸q) rfl)) rfl) λh=>dS h (.mk [] _ _ (B7 h▸q) rfl)
 |m1=>
  have q:Q (.v (.str (oV pre))) []:=q
  exact cf λt=>cz (λh=>use [] (nH hs h1000 (cz (λn=>.mk [] _ _ (AR h n▸q) rfl) λn=>.mk [] _ _ (AJ n▸q) rfl)) rfl) λh=>dS h (.mk [] _ _ (B7 h▸q) rfl)
 |m2=>
  refine cf λt=>cz (λh=>?_) λh=>?_
  ·cases jv h
   exact .mk [] _ _ q rfl
  ·have e:qd 2 pre=oV pre:=show(if pre=[] then tD else oV pre)=oV pre from if_neg (mO h)
   rw[e] at q
   exact cz (λh=>use [] (nH hs h1000 (cz (λn=>.mk [] _ _ (AR h n▸q) rfl) λn=>.mk [] _ _ (AJ n▸q) rfl)) rfl) λh=>dS h (.mk [] _ _ (B7 h▸q) rfl)
 |m3=>
  refine cf λt=>cz (λh=>?_) λh=>?_
  ·cases jv h
   exact .mk [] _ _ q rfl
  ·have e:qd 3 pre=oV pre:=show(if pre=[] then tD else oV pre)=oV pre from if_neg (mO h)
   rw[e] at q
   exact cz (λh=>use [] (nH hs h1000 (cz (λn=>.mk [] _ _ (AR h n▸q) rfl) λn=>.mk [] _ _ (AJ n▸q) rfl)) rfl) λh=>dS h (.mk [] _ _ (B7 h▸q) rfl)
end
noncomputable def Wl:S:=[86,97,108,117,101,69,114,114,111,114]
noncomputable def UB:S:=[97,32,115,111,114,116,32,111,102,32,101,120,116,114,97,99,116]
noncomputable def UU(n t:S):RO:=.fl .thrown [.v (.str n),.v (.str t),.v (.int 0),.v .none,.v .none]
noncomputable def VQ:RO:=.fl .leftOut [.v (.str UB)]
theorem Lz{c:Nat}(h:z9 c=true):ml c=n6.contains c/\qB c=(n6++I7).contains c:=
 (by decide+kernel:∀c:_root_.Fin 128,z9 c.val=true->ml c.val=n6.contains c.val/\qB c.val=(n6++I7).contains c.val) ⟨c,Df h⟩ h
theorem Xi{α:Type}{p q:α->Bool}{l:List α}(h:∀c∈l,p c=q c):l.all p=l.all q:=by
 induction l with
 |nil=>rfl
 |cons c r ih=>rw[lJ,lJ,h c (.head _),ih λc m=>h c (.tail _ m)]
theorem pQ{s:S}(h:s.all z9=true):qr s=d9 s:=by
 cases s with
 |nil=>rfl
 |cons c r=>
  have z:=λc m=>Lz (aD.mp h c m)
  show(ml c&&(c::r).all qB)=(n6.contains c&&!(c::r).any BR)
  rw[Ae,(z c (.head _)).1]
  exact congrArg (and (n6.contains c)) (Xi λc m=>(z c m).2.trans (Bool.not_not _).symm)
theorem zC{s:S}(h:s.all z9=true):sX s=true:=aD.mpr λc m=>decide_eq_true (aY (Df (aD.mp h c m)) (by decide))
theorem zP{pre:S}{mode:Int}(hm:mode≠7/\mode≠256/\mode≠5)(h:¬(mode=0\/mode=1)->pre≠[]):qd mode pre=oV pre:=by
 unfold qd
 rw[if_neg hm.1,if_neg hm.2.1]
 by_cases c:mode=0\/mode=1
 ·rw[if_pos c]
 ·rw[if_neg c,if_neg (h c),if_neg hm.2.2]
section
variable{d:Nat}{Q E:PE}{pre:S}{mode:Int}
theorem wI(hm:Mode mode)(hs:pre.all z9=true)(q:qd mode pre=[]->Q (.v (.int mode)) [])(e1:∀l,qd mode pre=nr->E (.r 0) [(l,VQ)])(e2:∀l t,qd mode pre=t->t≠[]->t≠nr->E (.r 0) [(l,UU Wl t)]):Call (d+4) .ti [.v (.int mode),.v (.str pre)] [] Q E:=by
 have ns:=pQ hs
 have e2':=λl h=>e2 l Bf h (by decide) (by decide)
 cases hm with
 |m7=>exact cf λl=>.mk [.one 0] _ _ (e2 l JE rfl (by decide) (by decide)) rfl
 |P9=>exact cf λl=>.mk [.one 0] _ _ (e1 l rfl) rfl
 |m5=>
  refine cf (cz (λh=>λl=>?_) λh=>λl=>?_)
  ·cases jv h
   exact .mk [.one 0] _ _ (e2 l tD rfl (by decide) (by decide)) rfl
  ·exact .mk [.one 0] _ _ (e1 l (if_neg (mO h))) rfl
 |m0=>
  have r:=zP (mode:=0) (pre:=pre) (by decide) λh=>(h (by decide)).elim
  rw[r] at q e2'
  exact cf (cz (λh=>use [] (jl (cz (λn l=>.mk [.one 0] _ _ (e2' l (AR h (ns▸n))) rfl) λn=>.mk [] _ _ (q (AJ (ns▸n))) rfl)) rfl) λh=>dS h (.mk [] _ _ (q (B7 h)) rfl))
 |m1=>
  have r:=zP (mode:=1) (pre:=pre) (by decide) λh=>(h (by decide)).elim
  rw[r] at q e2'
  exact cf (cz (λh=>use [] (jl (cz (λn l=>.mk [.one 0] _ _ (e2' l (AR h (ns▸n))) rfl) λn=>.mk [] _ _ (q (AJ (ns▸n))) rfl)) rfl) λh=>dS h (.mk [] _ _ (q (B7 h)) rfl))
 |m2=>
  refine cf (cz (λh=>λl=>?_) λh=>?_)
  ·cases jv h
   exact .mk [.one 0] _ _ (e2 l tD rfl (by decide) (by decide)) rfl
  ·have r:=zP (mode:=2) (pre:=pre) (by decide) λ_=>mO h
   rw[r] at q e2'
   exact cz (λh=>use [] (jl (cz (λn l=>.mk [.one 0] _ _ (e2' l (AR h (ns▸n))) rfl) λn=>.mk [] _ _ (q (AJ (ns▸n))) rfl)) rfl) λh=>dS h (.mk [] _ _ (q (B7 h)) rfl)
 |m3=>
  refine cf (cz (λh=>λl=>?_) λh=>?_)
  ·cases jv h
   exact .mk [.one 0] _ _ (e2 l tD rfl (by decide) (by decide)) rfl
  ·have r:=zP (mode:=3) (pre:=pre) (by decide) λ_=>mO h
   rw[r] at q e2'
   exact cz (λh=>use [] (jl (cz (λn l=>.mk [.one 0] _ _ (e2' l (AR h (ns▸n))) rfl) λn=>.mk [] _ _ (q (AJ (ns▸n))) rfl)) rfl) λh=>dS h (.mk [] _ _ (q (B7 h)) rfl)
end
inductive Md:Int->Prop where
 |m0:Md 0
 |m1:Md 1
 |m2:Md 2
 |m3:Md 3
theorem Mode.md{mode:Int}{pre:S}(h:Mode mode)(r:qd mode pre=[]):Md mode:=by
 cases h with
 |m0=>exact .m0
 |m1=>exact .m1
 |m2=>exact .m2
 |m3=>exact .m3
 |m7=>exact absurd (show JE=[] from r) (by decide)
 |P9=>exact absurd (show nr=[] from r) (by decide)
 |m5=>
  by_cases e:pre=[]
  ·exact absurd (show tD=[] from(if_pos e).symm.trans r) (by decide)
  ·exact absurd (show nr=[] from(if_neg e).symm.trans r) (by decide)
section
variable{d lb:Nat}{Q E:PE}{es:List Ent}{pre t raw:S}{mode:Int}{k:AV}
theorem X8{R:S->Prop}(q:R (cm es mode pre k))(e:gV es mode pre k=raw):(d9 raw=true->R raw)/\(d9 raw=false->R []):=by
 subst e
 unfold cm at q
 exact⟨λh=>by rw[if_pos h] at q;exact q,λh=>by rw[if_neg (ne_true_of_eq_false h)] at q;exact q⟩
theorem xw{n:Nat}(h:t.length<=n)(h':n<=100):t.length<=lim:=ah h (ah h' (by decide))
theorem DC{b c:Bool}{H M:Prop}(h:(b||c)=true->H)(m:(b||c)=false->M):wt b (wt b H M) (wt c H M):=match b,c,h,m with
 |true,_,h,_=>h rfl
 |false,true,h,_=>h rfl
 |false,false,_,m=>m rfl
noncomputable def qg(es:List Ent)(t:S):Bool:=(bN es t).isSome||t==bj
theorem EL{g:Ent->AV}:((dG (es.map λe=>(.str e.name,g e)) (.str t)).isSome||t==bj)=qg es t:=by rw[ju,Hh];rfl
theorem Mu(h:qg es t=true):(bN es t).isSome=true\/t=bj:=(wq _ _▸h).imp id eq_of_beq
theorem Rt(h:qg es t=false):¬((bN es t).isSome=true\/t=bj):=λz=>ne_true_of_eq_false h (z.elim (λz=>congrArg (·||_) z) λz=>by subst z;exact(congrArg ((bN es bj).isSome||·) (by decide)).trans (g6 _))
theorem x5(h:mode≠3):gV es mode pre (.str t)=Yp es mode pre t:=if_neg h
theorem MJ:gV es 0 pre (.str t)=t:=(x5 (by decide)).trans ((if_neg λz=>absurd z.1 (by decide)).trans (if_neg λz=>absurd z.1 (by decide)))
theorem uV(h:qg es t=true):gV es 1 pre (.str t)=[]:=(x5 (by decide)).trans ((if_neg λz=>absurd z.1 (by decide)).trans (if_pos ⟨rfl,Mu h⟩))
theorem yO(h:qg es t=false):gV es 1 pre (.str t)=t:=(x5 (by decide)).trans ((if_neg λz=>absurd z.1 (by decide)).trans (if_neg λz=>Rt h z.2))
theorem zE(h:qg es t=false):gV es 2 pre (.str t)=t:=(x5 (by decide)).trans ((if_neg λz=>Rt h z.2).trans (if_neg λz=>absurd z.1 (by decide)))
theorem J5(h:qg es []=true):gV es 2 pre (.str [])=[]:=(x5 (by decide)).trans (if_pos ⟨rfl,Mu h⟩)
theorem D4(h:qg es t=true)(n:t≠[]):gV es 2 pre (.str t)=yF pre t:=(x5 (by decide)).trans ((if_pos ⟨rfl,Mu h⟩).trans (if_neg n))
theorem Dx(n:t≠[]):gV es 3 pre (.str t)=yF pre t:=(if_pos rfl).trans (if_neg λe=>n (iX e))
theorem j8(h:Jf 30 raw)(q:Q (.v (.bool (d9 raw))) []):Call (d+1) .isName [.v (.str raw)] [] Q E:=nH (zC h.1) (ah h.2 (by decide)) q
theorem RQ(hm:Md mode)(hk:pX mode k)(hp:sR pre)(q:Q (.v (.str (cm es mode pre k))) [(lb,.dict (.raw (cH es)))]):Call (d+2) .goal [.v k,.v (.int mode),.v (.str pre),.r 0] [(lb,.dict (.raw (cH es)))] Q E:=by
 have g:=λ{raw} (e:gV es mode pre k=raw)=>And.intro (e▸zp hk hp:Jf 30 raw) (X8 (R:=λz=>Q (.v (.str z)) [(lb,.dict (.raw (cH es)))]) q e)
 have l0:pre.length<=lim:=xw hp.2 (by decide)
 have l1:(pre++[95]).length<=lim:=xw (mw (a:=4) (b:=1) hp.2 (aK _)) (by decide)
 have l2:(MZ k).length<=lim:=xw (Fl hk).2 (by decide)
 rcases hk.e with rfl|⟨t,rfl⟩
 ·cases hm with
  |m3=>
   have z:=g (raw:=yF pre (je 3)) rfl
   exact cf (bB (decide_eq_true ⟨rfl,l0,by decide⟩) (bB (decide_eq_true ⟨rfl,l1,l2⟩) (use [] (j8 z.1 (cz (λh=>.mk [.one 0] _ _ (z.2.1 h) rfl) λh=>.mk [.one 0] _ _ (z.2.2 h) rfl)) rfl)))
  |_=>
   have z:=g (raw:=[]) rfl
   exact cf (use [] (j8 z.1 (.mk [.one 0] _ _ (z.2.2 rfl) rfl)) rfl)
 ·cases hm with
  |m0=>
   have z:=g MJ
   exact cf (use [] (j8 z.1 (cz (λh=>.mk [.one 0] _ _ (z.2.1 h) rfl) λh=>.mk [.one 0] _ _ (z.2.2 h) rfl)) rfl)
  |m1=>
   refine cf (DC (λh=>?_) λh=>?_)
   ·have z:=g (uV (EL.symm.trans h))
    exact(use [] (j8 z.1 (.mk [.one 0] _ _ (z.2.2 rfl) rfl)) rfl)
   ·have z:=g (yO (EL.symm.trans h))
    exact(use [] (j8 z.1 (cz (λh=>.mk [.one 0] _ _ (z.2.1 h) rfl) λh=>.mk [.one 0] _ _ (z.2.2 h) rfl)) rfl)
  |m2=>
   refine cf (DC (λh=>cz (λe=>?_) λe=>?_) λh=>?_)
   ·cases jv e
    have z:=g (J5 (EL.symm.trans h))
    exact(use [] (j8 z.1 (.mk [.one 0] _ _ (z.2.2 rfl) rfl)) rfl)
   ·have z:=g (D4 (EL.symm.trans h) (mO e))
    exact(bB (decide_eq_true ⟨rfl,l0,by decide⟩) (bB (decide_eq_true ⟨rfl,l1,l2⟩) (use [] (j8 z.1 (cz (λh=>.mk [.one 0] _ _ (z.2.1 h) rfl) λh=>.mk [.one 0] _ _ (z.2.2 h) rfl)) rfl)))
   ·have z:=g (zE (EL.symm.trans h))
    exact(use [] (j8 z.1 (cz (λh=>.mk [.one 0] _ _ (z.2.1 h) rfl) λh=>.mk [.one 0] _ _ (z.2.2 h) rfl)) rfl)
  |m3=>
   refine cf (cz (λe=>?_) λe=>?_)
   ·cases jv e
    have z:=g (raw:=[]) rfl
    exact(use [] (j8 z.1 (.mk [.one 0] _ _ (z.2.2 rfl) rfl)) rfl)
   ·have z:=g (Dx (mO e))
    exact(bB (decide_eq_true ⟨rfl,l0,by decide⟩) (bB (decide_eq_true ⟨rfl,l1,l2⟩) (use [] (j8 z.1 (cz (λh=>.mk [.one 0] _ _ (z.2.1 h) rfl) λh=>.mk [.one 0] _ _ (z.2.2 h) rfl)) rfl)))
theorem Tt:gV es 1 pre (.str [])=[]:=by
 cases h:qg es [] with
 |true=>exact uV h
 |false=>exact yO h
theorem KS:gV es 2 pre (.str [])=[]:=by
 cases h:qg es [] with
 |true=>exact J5 h
 |false=>exact zE h
theorem isE{g:Ent->AV}:(dG (es.map λe=>(.str e.name,g e)) (.str t)).isSome=(bN es t).isSome:=by rw[ju,Hh]
theorem WH(h:(bN es t).isSome=false)(n:t≠bj):qg es t=false:=by unfold qg;rw[h];exact beq_false_of_ne n
noncomputable def xN(es:List Ent)(mode:Int)(pre:S)(k:AV):S:=if mode=1/\k=.str bj then bj else gV es mode pre k
theorem Zb(h:¬(mode=1/\k=.str bj))(e:gV es mode pre k=raw):xN es mode pre k=raw:=(if_neg h).trans e
theorem OX{cs:List Int}{lr lv:Nat}(hm:Md mode)(hk:pX mode k)(hp:sR pre)(hn:bN es bj=none)(q:Q (.v (.str (xN es mode pre k))) [(lv,.dict (.raw (bX es cs lr)))]):Call (d+4) .j6 [.r 0,.v k,.v (.int mode),.v (.str pre)] [(lv,.dict (.raw (bX es cs lr)))] Q E:=by
 have g:∀{raw},¬(mode=1/\k=.str bj)->gV es mode pre k=raw->Q (.v (.str raw)) [(lv,.dict (.raw (bX es cs lr)))]:=λh e=>Zb h e▸q
 have l0:pre.length<=lim:=xw hp.2 (by decide)
 have l1:(pre++[95]).length<=lim:=xw (mw (a:=4) (b:=1) hp.2 (aK _)) (by decide)
 have l2:(MZ k).length<=lim:=xw (Fl hk).2 (by decide)
 rcases hk.e with rfl|⟨t,rfl⟩
 ·cases hm with
  |m3=>
   have z:=g (raw:=yF pre (je 3)) (λz=>absurd z.1 (by decide)) rfl
   exact cf (bB (decide_eq_true ⟨rfl,l0,by decide⟩) (bB (decide_eq_true ⟨rfl,l1,l2⟩) (.mk [.one 0] _ _ z rfl)))
  |_=>
   have z:=g (raw:=[]) (λz=>AV.noConfusion z.2) rfl
   exact cf (.mk [.one 0] _ _ z rfl)
 ·cases hm with
  |m0=>
   have z:=g (λz=>absurd z.1 (by decide)) MJ
   exact cf (cz (λh=>jv h▸(.mk [.one 0] _ _ z rfl)) λ_=>(.mk [.one 0] _ _ z rfl))
  |m1=>
   refine cf (cz (λe=>?_) λe=>cz (λh=>?_) λh=>?_)
   ·cases jv e
    have z:=g (λz=>absurd (iX z.2) (by decide)) Tt
    exact(.mk [.one 0] _ _ z rfl)
   ·have h:=isE.symm.trans h
    have z:=g (λz=>absurd ((iX z.2▸hn:bN es t=none)▸h) (by decide)) (uV (congrArg (·||_) h))
    exact(.mk [.one 0] _ _ z rfl)
   ·by_cases c:t=bj
    ·subst c
     rw[show xN es 1 pre (.str bj)=bj from if_pos ⟨rfl,rfl⟩] at q
     exact(.mk [.one 0] _ _ q rfl)
    ·have z:=g (λz=>c (iX z.2)) (yO (WH (isE.symm.trans h) c))
     exact(.mk [.one 0] _ _ z rfl)
  |m2=>
   refine cf (cz (λe=>?_) λe=>DC (λh=>?_) λh=>?_)
   ·cases jv e
    have z:=g (λz=>absurd z.1 (by decide)) KS
    exact(.mk [.one 0] _ _ z rfl)
   ·have z:=g (λz=>absurd z.1 (by decide)) (D4 (EL.symm.trans h) (mO e))
    exact(bB (decide_eq_true ⟨rfl,l0,by decide⟩) (bB (decide_eq_true ⟨rfl,l1,l2⟩) (.mk [.one 0] _ _ z rfl)))
   ·have z:=g (λz=>absurd z.1 (by decide)) (zE (EL.symm.trans h))
    exact(.mk [.one 0] _ _ z rfl)
  |m3=>
   refine cf (cz (λe=>?_) λe=>?_)
   ·cases jv e
    have z:=g (raw:=[]) (λz=>absurd z.1 (by decide)) rfl
    exact(.mk [.one 0] _ _ z rfl)
   ·have z:=g (λz=>absurd z.1 (by decide)) (Dx (mO e))
    exact(bB (decide_eq_true ⟨rfl,l0,by decide⟩) (bB (decide_eq_true ⟨rfl,l1,l2⟩) (.mk [.one 0] _ _ z rfl)))
end
noncomputable def GI:S:=[67,97,110,110,111,116,32,114,101,45,97,115,115,105,103,110,32,36,116,104,105,115]
noncomputable def Wc:Option Nat->AV
 |some n=>.int n
 |none=>.str GI
section
variable{n s:Nat}{mode:Int}{pre:S}{ps r:List (AV×AV)}{p:AV×AV}{st:Eh}{m:Nat}{k v:AV}{fin:Option Nat×Eh}{e:Ent}{i:Int}
theorem C9(hp:sR pre)(hk:AL mode p)(G:bC st.1 st.2.1 s)(h1:cm st.1 mode pre p.1≠bj)(h2:cm st.1 mode pre p.1≠[])(hm:st.1.length<15):bC (fD (cm st.1 mode pre p.1) (intOf p.2) st).1 (fD (cm st.1 mode pre p.1) (intOf p.2) st).2.1 s:=xl G (Cj hk.1 hp h1 h2) hm
noncomputable def rm(t:Eh)(r n:Nat):Prop:=t.1.length+r<=n/\t.2.1.length+r<=n
theorem GU{a b c d:Nat}(h:a+(b+1)<=d)(l:c<=a+1):c+b<=d:=ah (bE l b) (ah (aH (by rw[eI,fx 1])) h)
theorem rm.mono{r:Nat}(h:rm st (r+1) n):rm st r n:=⟨ah (br _) h.1,ah (br _) h.2⟩
theorem rm.zero{r:Nat}(h:rm st r n):rm st 0 n:=⟨ah (bb ..) h.1,ah (bb ..) h.2⟩
theorem rm.lt{r:Nat}(h:rm st (r+1) n):st.1.length<n/\st.2.1.length<n:=⟨aY (lM (bb ..)) h.1,aY (lM (bb ..)) h.2⟩
theorem H5{t:S}:(fD t i st).2.1.length<=st.2.1.length+1:=by
 unfold fD
 cases bN st.1 t with
 |some e=>exact ah (aH aQ) (br _)
 |none=>exact aH aw
theorem rm.take{r:Nat}{t:S}(h:rm st (r+1) n):rm (fD t i st) r n:=⟨GU h.1 Kj,GU h.2 H5⟩
theorem C7(hp:sR pre):∀{st:Eh},(∀p∈ps,AL mode p)->bC st.1 st.2.1 s->rm st ps.length n->n<=15->bC (eG mode pre ps st).2.1 (eG mode pre ps st).2.2.1 s/\rm (eG mode pre ps st).2 0 n:=by
 induction ps with
 |nil=>exact λ_ G h _=>⟨G,h⟩
 |cons p r ih=>exact λ{st} hk G h h15=>(by
   have hk':=λq m=>hk q (.tail _ m)
   have l1:rm st r.length n:=h.mono
   rw[OO]
   by_cases h1:cm st.1 mode pre p.1=bj
   ·rw[if_pos h1];exact⟨G,h.zero⟩
   rw[if_neg h1]
   by_cases h2:cm st.1 mode pre p.1=[]
   ·rw[if_pos h2];exact ih hk' G l1 h15
   rw[if_neg h2]
   exact ih hk' (C9 hp (hk p (.head _)) G h1 h2 (aY h.lt.1 h15)) h.take h15)
structure GG(mode:Int)(pre:S)(ps:List (AV×AV))(s:Nat)(fin:Option Nat×Eh)(m:Nat)(t:Eh):Prop where
 left:eG mode pre (ps.drop m) t=fin
 good:bC t.1 t.2.1 s
 room:rm t (ps.drop m).length 15
theorem GG.stop(I:GG mode pre ps s fin m st)(h:ps[m]?=some (k,v))(h1:cm st.1 mode pre k=bj):fin=(none,st):=by
 have z:=I.left
 rw[il h] at z
 exact z.symm.trans (if_pos h1)
theorem GG.lt(I:GG mode pre ps s fin m st)(h:ps[m]?=some (k,v)):st.1.length<15/\st.2.1.length<15:=by
 have z:=I.room
 rw[il h] at z
 exact z.lt
theorem GG.skip(I:GG mode pre ps s fin m st)(h:ps[m]?=some (k,v))(h1:cm st.1 mode pre k≠bj)(h2:cm st.1 mode pre k=[]):GG mode pre ps s fin (m+1) st:=by
 have z:=I.left
 have l:=I.room
 rw[il h] at z l
 exact⟨((if_neg h1).trans (if_pos h2)).symm.trans z,I.good,l.mono⟩
theorem GG.go(hp:sR pre)(hk:pX mode k)(I:GG mode pre ps s fin m st)(h:ps[m]?=some (k,.int i))(h1:cm st.1 mode pre k≠bj)(h2:cm st.1 mode pre k≠[]):GG mode pre ps s fin (m+1) (fD (cm st.1 mode pre k) i st):=by
 have z:=I.left
 have l:=I.room
 rw[il h] at z l
 exact⟨((if_neg h1).trans (if_neg h2)).symm.trans z,xl I.good (Cj hk hp h1 h2) (I.lt h).1,l.take⟩
theorem GG.done(I:GG mode pre ps s fin m st)(e:m=ps.length):fin=(some st.2.2,st):=by
 subst e
 have z:=I.left
 rw[nV] at z
 exact z.symm
theorem GX{t:S}(h:bN st.1 t=some e):fD t i st=(st.1,st.2.1.set e.idx i,st.2.2+1):=by unfold fD;rw[h];rfl
theorem yY{t:S}(h:bN st.1 t=none):fD t i st=(st.1++[⟨t,false,st.2.1.length⟩],st.2.1++[i],st.2.2+1):=by unfold fD;rw[h];rfl
end
theorem IG{us us':List AV}{x:AV}{w:RV}{L:Cs}{n:Nat}{k:RS->Prop}(h:n<us.length)(d:den (locs L) w=some x)(e:us.set n x=us')(q:k (.raw us')):Mw (.raw us) n w L k:=⟨h,xP d (e▸q)⟩
section
variable{d lb lc lq s:Nat}{Q E:PE}{pre:S}{mode:Int}{ps:List (AV×AV)}{G:List (Nat×List AV)}{st:Eh}
noncomputable def apC(lb lc lq:Nat)(es:List Ent)(cs:List Int)(G:List (Nat×List AV)):Cs:=[(lb,.dict (.raw (cH es))),(lc,.list (.raw (cs.map .int))),(lq,.list (.raw (jR G))),(0,.gh G)]
theorem Ym{es:List Ent}{cs:List Int}{z:S}(h:bN es z=none):dput (cH es) (.str z) (.int (cs.map AV.int).length)=cH (es++[⟨z,false,cs.length⟩]):=by rw[lE,aj];exact e7 (vQ h)
theorem HJ{es:List Ent}{z:S}{b:Bool}{i:Nat}(h:bN es z=none):bN (es++[⟨z,b,i⟩]) z=some ⟨z,b,i⟩:=by
 induction es with
 |nil=>exact if_pos rfl
 |cons a r ih=>
  rw[qL] at h
  by_cases w:a.name=z
  ·rw[if_pos w] at h;exact ns h.symm
  ·rw[if_neg w] at h;exact(if_neg w).trans (ih h)
theorem WT{es:List Ent}{z:S}{n:Nat}(h:bN es z=none):dG (cH (es++[⟨z,false,n⟩])) (.str z)=some (.int n):=(A1 z).trans (congrArg (dZ _) (HJ h))
theorem T4{cs:List Int}{i:Int}:(cs.map AV.int++[AV.none]).set cs.length (.int i)=(cs++[i]).map AV.int:=by
 induction cs with
 |nil=>rfl
 |cons c r ih=>exact congrArg (AV.int c::·) ih
theorem Wk{cs:List Int}:cs.length<(cs.map AV.int++[AV.none]).length:=by rw[aw,aj];exact bM _
theorem zx(hm:Md mode)(hp:sR pre)(hG:G.map (·.2)=lz ps)(hP:∀p∈ps,AL mode p)(hs:bC st.1 st.2.1 s)(hl:rm st ps.length 15)(h0:st.2.2=0)
  (q:Q (.v (Wc (eG mode pre ps st).1)) (apC lb lc lq (eG mode pre ps st).2.1 (eG mode pre ps st).2.2.1 G)):Call (d+3) .vn [.r 2,.v (.int mode),.v (.str pre),.r 0,.r 1] (apC lb lc lq st.1 st.2.1 G) Q E:=by
 refine cf (.lz (X:=G) (τ:=λm=>{t//GG mode pre ps s (eG mode pre ps st) m t}) (λ_ t=>[some (.r 2),some (.v (.int mode)),some (.v (.str pre)),some (.r 0),some (.r 1),some (.v (.int (t.1.2.2:Nat))),none,none,none]) (λ_ t=>[(lb,.dict (.raw (cH t.1.1))),(lc,.list (.raw (t.1.2.1.map AV.int))),(lq,.ro (.list (.raw (jR G)))),(0,.gh G)]) (λ_ _=>⟨3,0,rfl⟩) (.id ⟨st,rfl,hs,hl⟩ (by rw[h0];rfl)) (λm r x y eg t=>?_) (j0 hG) λt=>?_)
 ·have hx:=nO hG eg
  obtain⟨hk,i,rfl⟩:pX mode x/\∃i,y=.int i:=hP _ (av hx)
  have I:=t.2
  refine cn rfl (use [0] (RQ hm hk hp (cz (λh1=>?_) λh1=>cz (λh2=>?_) λh2=>?_)) rfl)
  ·have e:=I.stop hx (eq_of_beq h1)
   rw[e] at q
   exact .mk [.one 0,.one 1,.one 2,.one 3] _ _ q rfl
  ·have h2:=mO (fM _▸h2)
   have I':=I.go hp hk hx (ne_of_beq_false h1) h2
   have lb:(cH t.1.1).length<lim:=gB ((aj _).symm▸bz (I.lt hx).1) (by decide)
   have lc:(t.1.2.1.map AV.int).length<lim:=gB ((aj _).symm▸bz (I.lt hx).2) (by decide)
   generalize cm t.1.1 mode pre x=z at*
   cases hf:bN t.1.1 z with
   |some e=>
    rw[GX hf] at I'
    have he:=I.good.idx e (f7 hf).1
    have hg:dG (cH t.1.1) (.str z)=some (.int e.idx):=(A1 z).trans (congrArg (dZ _) hf)
    exact dS (congrArg (!·) (yB hg)) (cn hg (IG ((aj ..).symm▸he) rfl sS.symm (.mk [.one 0,.one 1,.one 2,.one 3] ⟨_,I'⟩ rfl)))
   |none=>
    rw[yY hf] at I'
    exact nQ (congrArg (!·) (pZ (GC hf))) (bB (decide_eq_true lb) (kZ rfl (Ym hf) (bB (decide_eq_true lc) (Au rfl rfl (cn (WT hf) (IG Wk rfl T4 (.mk [.one 0,.one 1,.one 2,.one 3] ⟨_,I'⟩ rfl)))))))
  ·exact .mk [.one 0,.one 1,.one 2,.one 3] ⟨t.1,I.skip hx (ne_of_beq_false h1) (jv (by simpa using h2))⟩ rfl
 ·have e:=t.2.done (mu hG)
  rw[e] at q
  exact .mk [.one 0,.one 1,.one 2,.one 3] _ _ q rfl
end
section
variable{es:List Ent}{cs cs':List Int}{s lr lt:Nat}{pre z:S}{mode i:Int}{k v:AV}{e:Ent}
theorem sf{t:S}:yF pre t≠bj:=λe=>absurd (e▸aZ _ (a8 _ (.head _)):95∈bj) (by decide)
theorem vA(h:cm es mode pre k≠[]):d9 (gV es mode pre k)=true/\cm es mode pre k=gV es mode pre k:=by
 unfold cm at*
 by_cases n:d9 (gV es mode pre k)=true
 ·rw[if_pos n];exact⟨n,rfl⟩
 ·rw[if_neg n] at h;exact(h rfl).elim
theorem HD(h:cm es mode pre k=[]):d9 (gV es mode pre k)=false:=by
 unfold cm at h
 cases n:d9 (gV es mode pre k) with
 |false=>rfl
 |true=>rw[if_pos n] at h;rw[h] at n;exact n.symm
theorem TO(h:mode=1/\k=.str bj):xN es mode pre k=bj/\gV es mode pre k=[]:=by
 obtain⟨rfl,rfl⟩:=h
 exact⟨if_pos ⟨rfl,rfl⟩,uV (g6 _)⟩
theorem Lw(hm:Md mode)(hk:pX mode k)(h:gV es mode pre k=bj):mode=0:=by
 have no:([]:S)≠bj:=by decide
 have hit:qg es bj=true:=g6 _
 rcases hk.e with rfl|⟨t,rfl⟩
 ·cases hm with
  |m3=>exact(sf (pre:=pre) (t:=je 3) h).elim
  |_=>exact(no h).elim
 ·cases hm with
  |m0=>rfl
  |m1=>
   cases c:qg es t with
   |true=>exact(no ((uV c).symm.trans h)).elim
   |false=>exact(aT (c.symm.trans ((yO c).symm.trans h▸hit))).elim
  |m2=>
   cases c:qg es t with
   |true=>
    by_cases n:t=[]
    ·subst n;exact(no (KS.symm.trans h)).elim
    ·exact(sf ((D4 c n).symm.trans h)).elim
   |false=>exact(aT (c.symm.trans ((zE c).symm.trans h▸hit))).elim
  |m3=>
   by_cases n:t=[]
   ·subst n;exact(no h).elim
   ·exact(sf ((Dx n).symm.trans h)).elim
theorem OP(hm:Md mode)(hk:pX mode k)(h:cm es mode pre k=bj):xN es mode pre k=bj/\mode=0:=by
 have r:=(vA (h▸(by decide))).2.symm.trans h
 exact⟨(if_neg λc=>absurd ((TO c).2.symm.trans r) (by decide)).trans r,Lw hm hk r⟩
theorem OB(h:cm es mode pre k=[]):(xN es mode pre k=bj/\mode=1)\/(xN es mode pre k≠bj/\d9 (xN es mode pre k)=false/\xN es mode pre k=gV es mode pre k):=by
 have n:=HD h
 by_cases c:mode=1/\k=.str bj
 ·exact .inl ⟨(TO c).1,c.1⟩
 ·have e:xN es mode pre k=gV es mode pre k:=if_neg c
  rw[e]
  exact .inr ⟨λe=>absurd (e▸n:d9 bj=false) (by decide),n,rfl⟩
theorem Pf(h:cm es mode pre k≠[]):xN es mode pre k=cm es mode pre k/\d9 (cm es mode pre k)=true:=by
 have r:=vA h
 exact⟨(if_neg λc=>absurd ((TO c).2▸r.1:d9 []=true) (by decide)).trans r.2.symm,r.2.symm▸r.1⟩
theorem Fy{g g':Ent->AV}(hn:(es.map (·.name)).Nodup)(he:e∈es)(h1:g' e=v)(h2:∀e'∈es,e'.name≠e.name->g' e'=g e'):dput (es.map λe=>(AV.str e.name,g e)) (.str e.name) v=es.map λe=>(AV.str e.name,g' e):=by
 induction es with
 |nil=>exact mq he
 |cons a r ih=>
  rw[cq,aJ] at hn
  rw[cq,cq]
  have out:∀e'∈r,e'.name≠a.name:=λe' m h=>hn.1 (h▸aU (f:=λe:Ent=>e.name) m)
  rw[ma]
  rcases aC.mp he with rfl|m
  ·rw[if_pos rfl,h1]
   exact congrArg (_::·) (eT λe' m=>congrArg _ (h2 e' (.tail _ m) (out e' m)).symm)
  ·have ne:a.name≠e.name:=λh=>out e m h.symm
   rw[if_neg λh=>ne (iX h),ih hn.2 m λe' m=>h2 e' (.tail _ m),h2 a (.head _) ne]
theorem Bg{n j:Nat}(h:n≠j):(cs.set n i).getD j 0=cs.getD j 0:=by rw[bG,bG,bS h]
theorem getD_at{n:Nat}(h:n<cs.length):(cs.set n i).getD n 0=i:=by rw[bG,a9 h];rfl
theorem slot_set(G:bC es cs s)(he:e∈es):∀e'∈es,e'.name≠e.name->fR (cs.set e.idx i) lr e'=fR cs lr e':=λe' he' n=>by
 cases r:e'.isRef with
 |true=>rw[nA r,nA r]
 |false=>rw[jG r,jG r,Bg λx=>aT (r.symm.trans (G.dist e' he' e he x.symm n))]
theorem Lx(G:bC es cs s)(he:e∈es)(r:e.isRef=false):dput (bX es cs lr) (.str e.name) (.int i)=bX es (cs.set e.idx i) lr:=
 Fy G.nodup he ((jG r).trans (congrArg AV.int (getD_at (G.idx e he)))) (slot_set G he)
theorem M1(G:bC es cs s)(he:e∈es)(r:e.isRef=true):dput (bX es cs lr) (.str e.name) (.ref lr)=bX es (cs.set e.idx i) lr:=
 Fy G.nodup he (nA r) (slot_set G he)
theorem MU(G:bC es cs s)(h:bN es z=none):dput (bX es cs lr) (.str z) (.int i)=bX (es++[⟨z,false,cs.length⟩]) (cs++[i]) lr:=by
 rw[ie,kR G.idx,jG rfl,nW];exact e7 (vQ h)
theorem Qb(h:∀e∈es,e.isRef=true->cs'.getD s 0=cs.getD s 0):jV es cs' s lr lt=jV es cs s lr lt:=by
 cases a:es.any (·.isRef) with
 |false=>rw[sm a,sm a]
 |true=>
  obtain⟨e,he,r⟩:=gm.mp a
  rw[lY he r,lY he r,h e he r]
theorem NR(G:bC es cs s)(he:e∈es)(r:e.isRef=false):jV es (cs.set e.idx i) s lr lt=jV es cs s lr lt:=
 Qb λe' he' r'=>Bg λx=>aT (r.symm.trans (G.dist e he e' he' (x.trans (G.ref e' he' r').symm) λn=>aT (r.symm.trans (G.same he he' n▸r'))))
theorem LN(G:bC es cs s)(he:e∈es)(r:e.isRef=true):jV es (cs.set e.idx i) s lr lt=[(lr,.inst .ref [.int i,.int (refs es:Nat),.ref lt]),(lt,.list [])]:=by
 rw[lY he r,<-G.ref e he r,getD_at (G.idx e he)]
theorem MN(G:bC es cs s):jV (es++[⟨z,false,cs.length⟩]) (cs++[i]) s lr lt=jV es cs s lr lt:=by
 cases a:es.any (·.isRef) with
 |false=>rw[sm a,sm (P5.trans (a.symm▸rfl))]
 |true=>
  obtain⟨e,he,r⟩:=gm.mp a
  rw[lY he r,lY (aZ _ he) r,getD_snoc (G.ref e he r▸G.idx e he),qV];rfl
theorem bC.this(G:bC es cs s):bN es bj=none:=by
 cases h:bN es bj with
 |none=>rfl
 |some e=>exact((G.names e (f7 h).1).1.elim (λx=>absurd ((f7 h).2.symm.trans x) (by decide)) λx=>x.2.1 (f7 h).2).elim
end
noncomputable def ZF:S:=[69,114,114,111,114]
noncomputable def inX(f:Fn):Bool:=inl f&&f !=.assigned
section
variable{d lh lf ln lv lr lt s la lx:Nat}{Q E:PE}{X Y:Nat->AV}{th:AV}{es:List Ent}{cs:List Int}{pre z:S}{mode i:Int}{k v x h:AV}{e:Ent}{kn:List (Nat×bF)}{a:AD}{ps:List (AV×AV)}{st:Eh}{b:Bool}
theorem MX{B B':List (Nat×aF)}(hv:v=.none\/∃i,v=.int i)(e:B'=B)(q:Q (.v x) [(0,.d6 B')]):Call (d+1) .assigned [.v h,.v v,.v x] [(0,.d6 B)] Q E:=by
 subst e
 rcases hv with rfl|⟨i,rfl⟩
 ·exact cf (.mk [.one 0] _ _ q rfl)
 ·exact cf (.mk [.one 0] _ _ q rfl)
theorem J2(md:Md mode)(hk:pX mode k)(hp:sR pre)(hn:bN es bj=none)(k1:cm es mode pre k=bj->mode=0->Q (.v (.str bj)) [(lv,.dict (.raw (bX es cs lr)))])(k2:cm es mode pre k=[]->mode=1->Q (.v (.str bj)) [(lv,.dict (.raw (bX es cs lr)))])(k3:∀z,cm es mode pre k=[]->z≠bj->qr z=false->Q (.v (.str z)) [(lv,.dict (.raw (bX es cs lr)))])(k4:∀z,cm es mode pre k=z->z≠bj->z≠[]->qr z=true->Q (.v (.str z)) [(lv,.dict (.raw (bX es cs lr)))]):Call (d+4) .j6 [.r 0,.v k,.v (.int mode),.v (.str pre)] [(lv,.dict (.raw (bX es cs lr)))] Q E:=by
 have ok:=(zp (es:=es) (mode:=mode) hk hp).1
 refine OX md hk hp hn ?_
 by_cases h1:cm es mode pre k=bj
 ·have z:=OP md hk h1
  exact z.1.symm▸k1 h1 z.2
 by_cases h2:cm es mode pre k=[]
 ·exact(OB h2).elim (λz=>z.1.symm▸k2 h2 z.2) λz=>k3 _ h2 z.1 ((pQ (z.2.2.symm▸ok)).trans z.2.1)
 ·have z:=Pf h2
  exact z.1.symm▸k4 _ rfl h1 h2 ((pQ ((vA h2).2.symm▸ok)).trans z.2)
theorem Uj(G:bC es cs s)(he:e∈es)(r:e.isRef=true)(q:Q (.v (.ref lr)) [(0,.d6 (jV es (cs.set e.idx i) s lr lt))]):Call (d+1) .assigned [.v h,.v (.ref lr),.v (.int i)] [(0,.d6 (jV es cs s lr lt))] Q E:=by
 rw[LN G he r] at q
 rw[lY he r]
 exact uu [(lr,.inst .ref [.v (.int (cs.getD s 0)),.v (.int (refs es:Nat)),.r 1]),(lt,.list .nil)] [.v h,.r 0,.v (.int i)] [.gT [0,1]] (i9 inl (.mk [.gT [0,1]] _ _ q rfl)) rfl
theorem Rj{o:Option AV}(h:o=some v):some (o.getD .none)=some v:=by rw[h];rfl
theorem Yt{o:Option AV}(h:o=none):some (o.getD .none)=some AV.none:=by rw[h];rfl
noncomputable def Vm(X Y:Nat->AV)(lh lf ln lv lr lt s:Nat)(th:AV)(es:List Ent)(cs:List Int)(kn:List (Nat×bF)):Cs:=[(lh,qW X (.r 1) (.v (.ref ln))),(lf,qe Y th 2),(lv,.dict (.raw (bX es cs lr))),(0,.d6 (jV es cs s lr lt)),(0,.gk kn)]
noncomputable def Vt(la lx:Nat)(a:AD)(mode:Int)(pre:S):Cs:=[(la,wX a),(0,.d6 (wu a)),(lx,.list (.cons (.r 5) (.cons (.v (.int mode)) (.cons (.v (.str pre)) .nil))))]
theorem sv(hm:Mode mode)(hp:sR pre)(A:Arr kn b a ps)(hP:∀p∈ps,AL mode p)(hl:rm st ps.length 15)(hs:bC st.1 st.2.1 s)(h0:st.2.2=0)
  (e1:∀l,qd mode pre=nr->E (.r 8) (Vm X Y lh lf ln lv lr lt s th st.1 st.2.1 kn++Vt la lx a mode pre++[(l,VQ)]))
  (e2:∀l t,qd mode pre=t->t≠[]->t≠nr->E (.r 8) (Vm X Y lh lf ln lv lr lt s th st.1 st.2.1 kn++Vt la lx a mode pre++[(l,UU Wl t)]))
  (e3:∀l,qd mode pre=[]->(eG mode pre ps st).1=none->E (.r 8) (Vm X Y lh lf ln lv lr lt s th (eG mode pre ps st).2.1 (eG mode pre ps st).2.2.1 kn++Vt la lx a mode pre++[(l,UU ZF GI)]))
  (q:∀n:Nat,qd mode pre=[]->(eG mode pre ps st).1=some n->Q (.v (.int n)) (Vm X Y lh lf ln lv lr lt s th (eG mode pre ps st).2.1 (eG mode pre ps st).2.2.1 kn++Vt la lx a mode pre)):
  Call (d+5) .extract [.r 0,.r 7] (Vm X Y lh lf ln lv lr lt s th st.1 st.2.1 kn++Vt la lx a mode pre) Q E:=by
 have l100:ps.length<=100:=ah (ah (wA ..) hl.1) (by decide)
 have Vj:∀p∈ps,oC p.2=true:=λp m=>(hP p m).2.elim λi e=>e▸rfl
 refine km inX (use [] (wI hm hp.1 (λhr=>?_) (λl hr=>.mk [.one 0,.one 1,.one 2,.one 3,.one 4,.one 5,.one 6,.one 7,.one 8] _ _ (e1 l hr) rfl) λl t hr h1 h2=>.mk [.one 0,.one 1,.one 2,.one 3,.one 4,.one 5,.one 6,.one 7,.one 8] _ _ (e2 l t hr h1 h2) rfl) rfl)
 refine use [5,6,4] (r4 (.arr A) l100 Vj λG lg hG=>?_) rfl
 have md:=hm.md hr
 refine .lz (X:=G) (τ:=λm=>{t//GG mode pre ps s (eG mode pre ps st) m t}) (λ_ t=>[some (.r 0),some (.r 7),some (.r 5),some (.v (.int mode)),some (.v (.str pre)),some (.v (.int mode)),some (.r 2),some (.v (.int (t.1.2.2:Nat))),none,none,none]) (λ_ t=>Vm X Y lh lf ln lv lr lt s th t.1.1 t.1.2.1 kn++Vt la lx a mode pre++([(0,.gh G),(lg,.ro (.list (.raw (jR G))))]:Cs)) (λ_ _=>⟨8,0,rfl⟩) (.mk [.one 0,.one 1,.one 2,.one 3,.one 4,.one 5,.one 6,.one 7,.one 8,.one 9] ⟨st,rfl,hs,hl⟩ (by rw[h0];rfl)) (λm r x y eg t=>?_) (j0 hG) λt=>?_
 ·have hx:=nO hG eg
  obtain⟨hk,i,rfl⟩:pX mode x/\∃i,y=.int i:=hP _ (av hx)
  have I:=t.2
  refine cn rfl (use [2] (J2 md hk hp I.good.this (λh1 m0=>nQ (beq_iff_eq.mpr m0) ?_) (λh2 m1=>dS (beq_eq_false_iff_ne.mpr (m1▸(by decide))) ?_) (λz h2 hz hv=>dS (beq_eq_false_iff_ne.mpr hz) (dS (beq_eq_false_iff_ne.mpr hz) (nQ (congrArg (!·) (beq_eq_false_iff_ne.mpr hz)) (use [] (jl (dS hv ?_)) rfl)))) λz hz h1 h2 hv=>dS (beq_eq_false_iff_ne.mpr h1) (dS (beq_eq_false_iff_ne.mpr h1) (nQ (congrArg (!·) (beq_eq_false_iff_ne.mpr h1)) (use [] (jl (nQ hv ?_)) rfl)))) rfl)
  ·have e:=I.stop hx h1
   rw[e] at e3
   exact λl=>.mk [.one 0,.one 1,.one 2,.one 3,.one 4,.one 5,.one 6,.one 7,.one 10] _ _ (e3 l hr rfl) rfl
  ·exact .mk [.one 0,.one 1,.one 2,.one 3,.one 4,.one 5,.one 6,.one 7,.one 8,.one 9] ⟨t.1,I.skip hx (λe=>absurd (e.symm.trans h2) (by decide)) h2⟩ rfl
  ·exact .mk [.one 0,.one 1,.one 2,.one 3,.one 4,.one 5,.one 6,.one 7,.one 8,.one 9] ⟨t.1,I.skip hx (λe=>absurd (e.symm.trans h2) (by decide)) h2⟩ rfl
  ·have I':=I.go hp hk hx (hz▸h1) (hz▸h2)
   have lv:(bX t.1.1 t.1.2.1 lr).length<lim:=gB ((aj _).symm▸bz (I.lt hx).1) (by decide)
   rw[hz] at I'
   cases hf:bN t.1.1 z with
   |none=>
    rw[yY hf] at I'
    exact cn (Yt (ju.trans (congrArg (dZ _) hf))) (use [3] (MX (h:=.ref lh) (.inl rfl) (MN (z:=z) (i:=i) I.good) (bB (decide_eq_true lv) (kZ rfl (MU I.good hf) (.mk [.one 0,.one 1,.one 2,.one 3,.one 4,.one 5,.one 6,.one 7,.one 8,.one 9] ⟨_,I'⟩ rfl)))) rfl)
   |some e=>
    rw[GX hf] at I'
    obtain⟨he,rfl⟩:=f7 hf
    cases r:e.isRef with
    |false=>exact cn (Rj ((tp I.good he).trans (congrArg some (jG r)))) (use [3] (MX (h:=.ref lh) (.inr ⟨_,rfl⟩) (NR (i:=i) I.good he r) (bB (decide_eq_true lv) (kZ rfl (Lx I.good he r) (.mk [.one 0,.one 1,.one 2,.one 3,.one 4,.one 5,.one 6,.one 7,.one 8,.one 9] ⟨_,I'⟩ rfl)))) rfl)
    |true=>exact cn (Rj ((tp I.good he).trans (congrArg some (nA r)))) (use [3] (Uj (h:=.ref lh) I.good he r (bB (decide_eq_true lv) (kZ rfl (M1 I.good he r) (.mk [.one 0,.one 1,.one 2,.one 3,.one 4,.one 5,.one 6,.one 7,.one 8,.one 9] ⟨_,I'⟩ rfl)))) rfl)
 ·have e:=t.2.done (mu hG)
  rw[e] at q
  exact .mk [.one 0,.one 1,.one 2,.one 3,.one 4,.one 5,.one 6,.one 7] _ _ (q _ hr rfl) rfl
end
theorem ZT{m:Nat}{L:Cs}{k:RV->Prop}(h:m<9)(q:∀i,Mode i->k (.v (.int i))):qI (.cons (.v (.int 0)) (.cons (.v (.int 1)) (.cons (.v (.int 2)) (.cons (.v (.int 3)) (.cons (.v (.int 0)) (.cons (.v (.int 3)) (.cons (.v (.int 7)) (.cons (.v (.int 256)) (.cons (.v (.int 5)) .nil))))))))) m L k:=
 bK h (q _ .m0) λ_ h=>bK h (q _ .m1) λ_ h=>bK h (q _ .m2) λ_ h=>bK h (q _ .m3) λ_ h=>bK h (q _ .m0) λ_ h=>bK h (q _ .m3) λ_ h=>bK h (q _ .m7) λ_ h=>bK h (q _ .P9) λ_ h=>bK h (q _ .m5) λ_ h=>absurd h (dM _)
theorem Zp{m:Nat}{L:Cs}{k:RV->Prop}(h:m<4)(q:∀t,sR t->k (.v (.str t))):qI (.cons (.v (.str [112])) (.cons (.v (.str [])) (.cons (.v (.str [49,112])) (.cons (.v (.str [95])) .nil)))) m L k:=
 have ok:∀t,(t.all z9&&decide (t.length<=4))=true->sR t:=λt h=>(bR _ _▸h).imp id of_decide_eq_true
 bK h (q _ (ok _ rfl)) λ_ h=>bK h (q _ (ok _ rfl)) λ_ h=>bK h (q _ (ok _ rfl)) λ_ h=>bK h (q _ (ok _ rfl)) λ_ h=>absurd h (dM _)
theorem JZ{ps:List (AV×AV)}:∀{d:List (AV×AV)},(∀p∈d,Bc p)->(∀p∈ps,Bc p)->∀p∈qh d ps,Bc p:=by
 induction ps with
 |nil=>exact λh _=>h
 |cons a r ih=>exact λh h'=>ih (AF h (h' a (.head _))) λp m=>h' p (.tail _ m)
theorem ND{ps:List (AV×AV)}:∀{d:List (AV×AV)},(qh d ps).length<=d.length+ps.length:=by
 induction ps with
 |nil=>exact aK _
 |cons a r ih=>exact ah ih (ah (bE nP _) (aH (by rw[mK,eI,fx 1])))
section
variable{d n:Nat}{Q E:PE}{w:W}{P:Int}{es:List Ent}{cs:List Int}{N:List (Nat×List AV)}
theorem isT{b:Bool}{L:Cs}(h:b=true)(q:Q (.v (.bool true)) L):Q (.v (.bool b)) L:=h.symm▸q
theorem jg(G:bC es cs w.s)(hn:es.length<=n/\cs.length<=n)(h15:n+5<=15)
  (q:∀es' cs' P',bC es' cs' w.s->es'.length<=n+5/\cs'.length<=n+5->Q (.v (.bool true)) (LS w es' cs' N P')):
  Call (d+13) .uN [.r 7,.r 0,.r 8,.r 9] (LS w es cs N P) Q E:=by
 refine cf (use [7,6] (Pd λP' l a ps A hP hl=>?_) rfl)
 have hP:=JZ (λ_=>mq) hP
 have hl:(qh [] ps).length<=5:=ah ND (ah (aH (cj _)) hl)
 generalize qh [] ps=ps at*
 have hP:=λmode p m=>(hP p m).imp (λh=>(Or.inl h:pX mode p.1)) id
 refine λt1=>use [7] (mG (by decide) (by decide) λr P' hr=>ZT (bW.mp hr) λmode hm=>λt2=>use [7] (mG (by decide) (by decide) λr P' hr=>Zp (bW.mp hr) λpre hp=>?_) rfl) rfl
 have R:rm (es,cs,0) ps.length 15:=⟨ah (eZ hn.1 hl) h15,ah (eZ hn.2 hl) h15⟩
 have g0:=q es cs P' G (hn.imp (ah · (bb ..)) (ah · (bb ..)))
 refine use [] (Il hm (zC hp.1) hp.2 (cz (λh=>?_) λh=>?_)) rfl
 ·have hr:=jv h
  have no:∀{t},qd mode pre=t->t≠[]->False:=λe n=>n (e.symm.trans hr)
  have g:=C7 (n:=n+5) (mode:=mode) (st:=(es,cs,0)) hp (hP _) G ⟨eZ hn.1 hl,eZ hn.2 hl⟩ h15
  have g1:=q _ _ P' g.1 g.2
  refine use [12,13,6] (ui (.arr A) (ah hl (by decide)) λG' lg hG=>?_) rfl
  refine use [8,9,17,16] (zx (st:=(es,cs,0)) (hm.md hr) hp hG (hP _) G R rfl ?_) rfl
  refine λlx=>use [0,1,3,4,6,12,13,18] (sv (st:=(es,cs,0)) (s:=w.s) (lr:=w.lr) (lt:=w.lt) hm hp A (hP _) R G rfl (λl e=>(no e (by decide)).elim) (λl t e h1 h2=>(no e h1).elim) (λl _ e=>?_) λn _ e=>?_) rfl
  ·refine oW (b:=true) (by rw[e];rfl) ?_
   exact .mk [.one 0,.one 1,.one 2,.one 3,.one 4,.one 5,.one 6,.one 7,.one 8,.one 9,.one 10] _ _ g1 rfl
  ·refine oW (b:=true) (by rw[e];exact congrArg some (beq_self_eq_true _)) ?_
   exact .mk [.one 0,.one 1,.one 2,.one 3,.one 4,.one 5,.one 6,.one 7,.one 8,.one 9,.one 10] _ _ g1 rfl
 ·have no:=mO h
  refine λlx=>use [0,1,3,4,6,12,13,16] (sv (st:=(es,cs,0)) (s:=w.s) (lr:=w.lr) (lt:=w.lt) hm hp A (hP _) R G rfl (λl e=>?_) (λl t e h1 h2=>?_) (λl e=>(no e).elim) λn e=>(no e).elim) rfl
  ·exact .mk [.one 0,.one 1,.one 2,.one 3,.one 4,.one 5,.one 6,.one 7,.one 8,.one 9,.one 10] _ _ (isT (e▸beq_self_eq_true _) g0) rfl
  ·exact .mk [.one 0,.one 1,.one 2,.one 3,.one 4,.one 5,.one 6,.one 7,.one 8,.one 9,.one 10] _ _ (isT (e▸beq_self_eq_true _) g0) rfl
end
noncomputable def valOf(es:List Ent)(cs:List Int)(t:S):Int:=((bN es t).map λe=>cs.getD e.idx 0).getD 0
noncomputable def qz(f:S->Int)(ts:List S):List (AV×AV):=ts.map λt=>(.str t,.int (f t))
section
variable{es:List Ent}{cs:List Int}{tv:Option AV}{n lr:Nat}{f:S->Int}{ts:List S}{t:S}
theorem GH:∀{acc:List (AV×AV)},(∀t∈ts,∀k∈acc.map (·.1),k≠.str t)->ts.Nodup->qh acc (qz f ts)=acc++qz f ts:=by
 induction ts with
 |nil=>exact λ{acc} _ _=>(bf acc).symm
 |cons t r ih=>exact λ{acc} h n=>(by
   have n:=aJ.mp n
   refine((congrArg (qh · (qz f r)) (vD (h t (.head _)))).trans (ih (λt' m k mk=>?_) n.2)).trans (ay ..)
   rw[aN] at mk
   exact(cp.mp mk).elim (h t' (.tail _ m) k) λmk=>au.mp mk▸λe=>n.1 (iX e▸m))
theorem Mi{ns:List S}:∀{acc:List (AV×AV)},(∀t∈ts,t≠[55]/\∃e,bN es t=some e)->aI es cs tv n (ts.map .str) (acc,ns)=(qh acc (qz (valOf es cs) ts),ns):=by
 induction ts with
 |nil=>exact λ_=>rfl
 |cons t r ih=>exact λ{acc} h=>(by
   obtain⟨n7,e,he⟩:=h t (.head _)
   have z:cI es cs tv n (.str t) (acc,ns)=(dput acc (.str t) (.int (valOf es cs t)),ns):=by
    show mA cs tv t (acc,ns) (bN es t)=_
    unfold valOf
    rw[he]
    show(dput acc (oU t) _,ns)=_
    unfold oU
    rw[if_neg n7];rfl
   show aI es cs tv n (r.map .str) (cI es cs tv n (.str t) (acc,ns))=_
   rw[z]
   exact ih λt m=>h t (.tail _ m))
theorem M7:∀{st:Eh},(∀t∈ts,d9 t=true/\t≠bj/\∀e∈st.1,e.name≠t)->ts.Nodup->(∀e∈st.1,e.idx<st.2.1.length)->(eG 0 [] (qz f ts) st).1=some (st.2.2+ts.length)/\bX (eG 0 [] (qz f ts) st).2.1 (eG 0 [] (qz f ts) st).2.2.1 lr=bX st.1 st.2.1 lr++qz f ts:=by
 induction ts with
 |nil=>exact λ{st} _ _ _=>⟨rfl,(bf _).symm⟩
 |cons t r ih=>exact λ{st} h n hi=>(by
   have n:=aJ.mp n
   obtain⟨h1,h2,h3⟩:=h t (.head _)
   have hg:cm st.1 0 [] (.str t)=t:=by unfold cm;rw[MJ,if_pos h1]
   have h0:t≠[]:=λe=>absurd (e▸h1:d9 []=true) (by decide)
   have hf:bN st.1 t=none:=by
    cases c:bN st.1 t with
    |none=>rfl
    |some e=>exact(h3 e (f7 c).1 (f7 c).2).elim
   have e1:eG 0 [] (qz f (t::r)) st=eG 0 [] (qz f r) (st.1++[⟨t,false,st.2.1.length⟩],st.2.1++[f t],st.2.2+1):=by
    refine(if_neg (c:=cm st.1 0 [] (.str t)=bj) λz=>h2 (hg.symm.trans z)).trans ((if_neg λz=>h0 (hg.symm.trans z)).trans ?_)
    show eG 0 [] (qz f r) (fD (cm st.1 0 [] (.str t)) (f t) st)=_
    rw[hg,yY hf]
   have l:(st.2.1++[f t]).length=st.2.1.length+1:=aw
   have z:=ih (st:=(st.1++[⟨t,false,st.2.1.length⟩],st.2.1++[f t],st.2.2+1)) (λt' m=>have h:=h t' (.tail _ m);⟨h.1,h.2.1,fV h.2.2 λe=>n.1 ((show t=t' from e)▸m)⟩) n.2 (fV (λe m=>l▸hK (hi e m)) (l▸bM _))
   rw[e1]
   exact⟨z.1.trans (congrArg some ((eI ..).trans (congrArg _ (fx 1 _)))),z.2.trans (by rw[ie,kR hi,jG rfl,nW,ay];rfl)⟩)
theorem KQ(h:t∈ts):dG (qz f ts) (.str t)=some (.int (f t)):=by
 induction ts with
 |nil=>exact mq h
 |cons a r ih=>
  show(if AV.str a=AV.str t then some (AV.int (f a)) else dG (qz f r) (.str t))=_
  by_cases e:a=t
  ·subst e;exact if_pos rfl
  ·exact(if_neg λz=>e (iX z)).trans (ih ((aC.mp h).resolve_left λz=>e z.symm))
theorem Qr{r:List S}:(∀t∈r,t∈ts)->Mine.Internal.Em (qz f ts) (qz f r)=some true:=by
 induction r with
 |nil=>exact λ_=>rfl
 |cons a r ih=>exact λh=>(by
   show(match dG (qz f ts) (.str a) with|.none=>some false|some w=>match w5 (.int (f a)) w,Mine.Internal.Em (qz f ts) (qz f r) with|some a,some b=>some (a&&b)|_,_=>.none)=_
   rw[KQ (f:=f) (h a (.head _)),ih λt m=>h t (.tail _ m)]
   exact congrArg some (congrArg (·&&true) (beq_self_eq_true (f a))))
end
section
variable{L:Cs}{i j l l':Nat}{xs ps:List (AV×AV)}{Q:Bool->Prop}{G:List (Nat×List AV)}{P:PE}
theorem R6{ys:List (AV×AV)}(n:dz L i=some (l,.dict (.raw ys)))(n':dz L j=some (l',.dict (.raw xs)))(e0:ys=xs)(e:Mine.Internal.Em xs xs=some true)(q:Q true):Ve (.r i) (.r j) L Q:=.mk true (λσ x y dx dy F=>by
 subst e0
 have z:=F.obj i l _ _ n rfl
 have z':=F.obj j l' _ _ n' rfl
 cases (sZ (fm n)).symm.trans dx
 cases (sZ (fm n')).symm.trans dy
 have d:dictAt σ (.ref l)=some ys:=by unfold dictAt;dsimp only;rw[z]
 have d':dictAt σ (.ref l')=some ys:=by unfold dictAt;dsimp only;rw[z']
 show(match dictAt σ (.ref l) with|some xs=>_|.none=>_:R Bool)=_
 rw[d]
 show opt (dictAt σ (.ref l')) _ σ=_
 rw[d']
 show(if ys.length≠ys.length then _ else _:MM Bool) σ=_
 rw[if_neg λh=>h rfl,e];rfl) q
theorem AN{σ:Hp}(h:∀g∈G,σ[g.1]?=some (.tup g.2)):∀{ps:List (AV×AV)},G.map (·.2)=lz ps->(∀p∈ps,isKey p.1=true)->pairsOf σ (jR G)=some ps:=by
 induction G with
 |nil=>exact λ{ps} e _=>(by
   cases ps with
   |nil=>rfl
   |cons=>exact(cP _ _ e.symm).elim)
 |cons g G ih=>exact λ{ps} e k=>(by
   cases ps with
   |nil=>exact(cP _ _ e).elim
   |cons p ps=>
    have e:=dJ e
    have y:=h g (.head _)
    rw[show g.2=[p.1,p.2] from e.1] at y
    have z:=ih (λg m=>h g (.tail _ m)) e.2 λp m=>k p (.tail _ m)
    show pW σ[g.1]? _ _=_
    rw[y]
    show(if isKey p.1=true then _ else none)=_
    rw[if_pos (k p (.head _))]
    show(pairsOf σ (jR G)).map _=_
    rw[z];rfl)
theorem WE(n:dz L i=some (l,.list (.raw (jR G))))(n':dz L j=some (l',.gh G))(e:G.map (·.2)=lz ps)(k:∀p∈ps,isKey p.1=true)(h:kU (.dict (.raw (qh [] ps))) L P):VT (vG .dict) [.r i] L P:=⟨λargs d F G' σ S=>by
 have fc:=cC.fc S
 have hs:=fc.obj i l _ _ n rfl
 cases (show cF (den (locs L) (.r i)) (λa=>some [a])=some [.ref l] by rw[sZ (fm n)];rfl).symm.trans d
 refine bD hs ?_
 show Wp (opt (pairsOf σ (jR G)) _ σ) _ _
 rw[AN (λg m=>fc.tup j l' G g n' m) e k]
 exact oD (.dict .raw) h F G' σ S⟩
end
section
variable{d:Nat}{Q E:PE}{w:W}{ll la lu:Nat}{es:List Ent}{cs:List Int}{N:List (Nat×List AV)}{b:AD}{pz:List (AV×AV)}{ts:List S}
theorem DT(G:bC es cs w.s)(T:Ez w.kn w.th)(R:RI w.kn b pz)(hv:∀p∈pz,cQ p.2)(hN:N.map (·.2)=cJ ts)(hr:room ([],ts) pz.length)
  (q:∀l a' N',Arr w.kn true a' (aI es cs (mY w.th) 1 (pz.map (·.2)) ([],ts)).1->N'.map (·.2)=cJ (aI es cs (mY w.th) 1 (pz.map (·.2)) ([],ts)).2->Q (.r 11) (wC w es cs N'++mC ll b++[(la,.list (.cons (.r 7) (.cons (.r 10) .nil))),(lu,.list .nil)]++mC l a')):
  Call (d+13) .uo [.r 0,.r 9] (wC w es cs N++mC ll b++[(la,.list (.cons (.r 7) (.cons (.r 10) .nil))),(lu,.list .nil)]) Q E:=by
 refine km YC λl=>use [11] (oG λlk lv lh ln lw=>λt1=>λt2=>.run (λt3=>use [0,1,2,3,4,5,6,11,12,7,8,15] (vM (n:=1) G T R hv (by decide) .nil hN hr λa' N' A' hN'=>?_) rfl)) rfl
 exact .mk [.one 0,.one 1,.one 2,.one 3,.one 4,.one 5,.one 6,.one 7,.one 8,.one 9,.one 10,.one 11,.one 12] _ _ (q l a' N' A' hN') rfl
end
noncomputable def AM(es:List Ent):List S:=(mR (es.map (·.name))).filter λt=>!(t==[55])
section
variable{es:List Ent}{cs:List Int}{s:Nat}{t:S}
theorem OU(G:bC es cs s)(h:t∈AM es):t≠[55]/\(∃e,bN es t=some e/\e.idx<cs.length)/\t.all z9=true/\d9 t=true/\t≠bj/\t.length<=30:=by
 obtain⟨m,n7⟩:=gE.mp h
 obtain⟨e,he,rfl⟩:=aS.mp (hZ.mem_iff.mp m)
 have n7:e.name≠[55]:=λz=>by rw[z] at n7;exact absurd n7 (by decide)
 have o:=G.names e he
 obtain⟨o1,o2,o3⟩:=o.1.resolve_left n7
 exact⟨n7,⟨e,nv G.nodup he,G.idx e he⟩,o3,o1,o2,o.2⟩
theorem QC(G:bC es cs s):(AM es).Nodup:=Hg.nodup (hZ.nodup_iff.mpr G.nodup)
theorem JQ(G:bC es cs s):(AM es).length<=15:=ah (ou ..) (ah (aH (hZ.length_eq.trans (aj _))) G.many)
theorem Xj{ss:List S}:(ss.flatMap λt=>if t==[55] then[] else[AV.str t])=(ss.filter λt=>!(t==[55])).map .str:=by
 induction ss with
 |nil=>rfl
 |cons t r ih=>
  rw[kE,gq,ih]
  cases t==[55]<;>rfl
end
theorem Yr{es:List Ent}{cs:List Int}{bs:List S}{N:List (Nat×List AV)}{m l:Nat}{z:S}{e:Ent}(h:N.map (·.2)=lz (qz (valOf es cs) (bs.take m)))(hz:bs[m]?=some z)(he:bN es z=some e):(N++[(l,[AV.str z,AV.int (cs.getD e.idx 0)])]).map (·.2)=lz (qz (valOf es cs) (bs.take (m+1))):=by
 rw[<-rV hz]
 unfold qz lz at*
 rw[aN,h,aN,aN]
 unfold valOf
 rw[ru,ru,ru,he];rfl
noncomputable def X4(w:W):Cs:=[(w.lh,.gh []),(w.lf,.gh []),(w.ln,.gh []),(w.lv,.gh []),(0,.gh []),(0,.gh []),(0,.gh []),(w.lp,.gh []),(w.lb,.gh []),(w.lc,.gh []),(0,.gh []),(0,.gh []),(0,.gh [])]
noncomputable def WV(f:Fn):Bool:=inl f
section
variable{d:Nat}{Q E:PE}{w:W}{P:Int}{es:List Ent}{cs:List Int}{N:List (Nat×List AV)}{ts:List S}
theorem Mx(G:bC es cs w.s)(Tk:Ez w.kn w.th)(hN:N.map (·.2)=cJ ts)(ht:ts.length<=80)(q:Q (.v (.bool true)) (X4 w)):Call (d+14) .back [.r 0,.r 8,.r 9] (LS w es cs N P) Q E:=by
 have sl:(es.map (·.name)).length<64:=by rw[aj];exact aB G.many (by decide)
 have bl:=JQ G
 have bi:=λt=>OU (t:=t) G
 have bn:=QC G
 refine U2 (An (cf (oW (jx (f:=λe:Ent=>e.name)) (bB (decide_eq_true sl) λl1=>?_))))
 refine .flat (mR (es.map λe:Ent=>e.name)) (λt=>.one (.v (.str t))) (λt=>if t==[55] then[] else[.str t]) bU (λt m us=>cz (λh=>?_) λh=>?_) ?_ rfl
 ·exact .id () (by rw[if_neg (by simpa using h)]) rfl
 ·exact .id () (by rw[if_pos (by simpa using h),bf]) rfl
 rw[Xj]
 generalize hb:AM es=bs at*
 unfold AM at hb
 rw[hb]
 have bm:(bs.map AV.str).length<=15:=(aj _).symm▸bl
 have okb:∀v∈bs.map AV.str,oC v=true:=λv m=>(aS.mp m).elim λt h=>h.2▸zC (bi t h.1).2.2.1
 refine bB (decide_eq_true (ah bm (by decide))) λl2 l3=>?_
 refine Em (cW rfl rfl okb) (cW (us:=[]) rfl rfl λ_=>mq) (fQ okb) rfl ?_
 refine cz (λh=>?_) λh=>?_
 ·exact .mk [.no w.lh,.no w.lf,.no w.ln,.no w.lv,.no 0,.no 0,.no 0,.no w.lp,.no w.lb,.no w.lc,.no 0,.no 0,.no 0] _ _ q rfl
 have hpz:∀p∈vB 0 (bs.map AV.str),cQ p.2:=sH λv m=>(aS.mp m).elim λt h=>h.2▸.inr ⟨t,rfl,ah (bi t h.1).2.2.2.2.2 (by decide),zC (bi t h.1).2.2.1⟩
 have hr:room ([],ts) (vB 0 (bs.map AV.str)).length:=by rw[qC];exact⟨aB (ah (aH (cj _)) bm) (by decide),ah (eZ ht bm) (by decide)⟩
 refine use [14,6] (vx bm λl lk lv lh ln lw=>?_) rfl
 refine λlu la=>use [0,1,2,3,4,5,6,16,17,19,18] (DT (b:=kr lk lv lh ln lw (bs.map AV.str).length (bs.map AV.str)) (pz:=vB 0 (bs.map AV.str)) G Tk (.lst λv m=>.inl (okb v m)) hpz hN hr λl' a' N' A' hN'=>?_) rfl
 have A:Arr w.kn true a' (qz (valOf es cs) bs):=by
  rw[qN,Mi (λt m=>⟨(bi t m).1,(bi t m).2.1.imp λe h=>h.1⟩),GH (λ_ _ _=>mq) bn] at A'
  exact A'
 have kM:∀p∈qz (valOf es cs) bs,AL 0 p:=λp m=>(aS.mp m).elim λt h=>h.2▸⟨.inr ⟨rfl,t,rfl,(bi t h.1).2.2.1,(bi t h.1).2.2.2.2.2⟩,_,rfl⟩
 have nl:(qz (valOf es cs) bs).length=bs.length:=aj _
 have R:rm ([],[],0) (qz (valOf es cs) bs).length 15:=⟨(cj _).symm▸nl▸bl,(cj _).symm▸nl▸bl⟩
 have tn:=M7 (lr:=0) (f:=valOf es cs) (st:=([],[],0)) (λt m=>⟨(bi t m).2.2.2.1,(bi t m).2.2.2.2.1,λ_=>mq⟩) bn λ_=>mq
 refine λlF lV lA lx=>use [0,22,23,11,6,20,21,25] (sv (X:=w.X) (Y:=λn=>if n=5 then .ref lA else .none) (th:=.none) (lr:=0) (lt:=0) (s:=0) (st:=([],[],0)) (mode:=0) (pre:=[]) .m0 ⟨rfl,by decide⟩ A kM R ⟨.nil,λ_=>mq,λ_=>mq,λ_=>mq,λ_=>mq,aV _⟩ rfl (λl e=>absurd e (by decide)) (λl t e n=>absurd e.symm n) (λl e n=>absurd (tn.1.symm.trans n) nofun) λn e hn=>?_) rfl
 have en:n=bs.length:=(ae (hn.symm.trans tn.1)).trans (cj _)
 refine dS (by rw[en,aj,beq_self_eq_true];rfl) ?_
 refine .lst (τ:=λm=>{N:List (Nat×List AV)//N.map (·.2)=lz (qz (valOf es cs) (bs.take m))}) (λ_ t=>jR t.1) (λ_ t=>[(w.lh,.gh []),(w.lf,.gh []),(w.ln,.gh []),(w.lv,.gh []),(0,.gh []),(0,.gh []),(0,.gh []),(w.lp,.gh []),(w.lb,.dict (.raw (cH es))),(w.lc,.list (.raw (cs.map .int))),(0,.gh []),(0,.gh []),(0,.gh t.1),(l1,.gh []),(l2,.ro (.list (.raw (bs.map .str)))),(l3,.gh []),(l,.gh []),(0,.gh []),(lu,.gh []),(la,.gh []),(l',.gh []),(0,.gh []),(lF,.gh []),(lV,.dict (.raw (bX (eG 0 [] (qz (valOf es cs) bs) ([],[],0)).2.1 (eG 0 [] (qz (valOf es cs) bs) ([],[],0)).2.2.1 0))),(lA,.gh []),(lx,.gh [])]) (.mk [.no w.lh,.no w.lf,.no w.ln,.no w.lv,.no 0,.no 0,.no 0,.no w.lp,.one 8,.one 9,.no 0,.no 0,.one 12,.no l1,.one 14,.no l3,.no l,.no 0,.no lu,.no la,.no l',.no 0,.no lF,.one 23,.no lA,.no lx] ⟨[],rfl⟩ rfl rfl) (λm x ex t=>?_) λt=>?_
 ·rw[bw] at ex
  obtain⟨z,hz,rfl⟩:=Option.map_eq_some_iff.mp ex
  obtain⟨e,he,hi⟩:=(bi z (av hz)).2.1
  exact cn ((A1 z).trans (congrArg (dZ _) he)) (cn (Fz hi) λlt=>.mk [.one 0,.one 1,.one 2,.one 3,.one 4,.one 5,.one 6,.one 7,.one 8,.one 9,.one 10,.one 11,.gh 12 [26],.one 13,.one 14,.one 15,.one 16,.one 17,.one 18,.one 19,.one 20,.one 21,.one 22,.one 23,.one 24,.one 25] ⟨_,Yr t.2 hz he⟩ fU rfl)
 ·have hN2:t.1.map (·.2)=lz (qz (valOf es cs) bs):=t.2.trans (by rw[aj,iL])
  have l15:(jR t.1).length<=lim:=ah (aH (oA hN2)) (ah (nl▸bl) (by decide))
  have put:=GH (f:=valOf es cs) (acc:=[]) (λ_ _ _=>mq) bn
  refine bB (decide_eq_true l15) λl4=>WE (i:=26) (j:=12) rfl rfl hN2 (λp m=>(aS.mp m).elim λt h=>h.2▸rfl) λl5=>?_
  rw[put]
  refine R6 rfl rfl tn.2 (Qr λt m=>m) ?_
  exact .mk [.no w.lh,.no w.lf,.no w.ln,.no w.lv,.no 0,.no 0,.no 0,.no w.lp,.no w.lb,.no w.lc,.no 0,.no 0,.no 0] _ _ q rfl
end
section
variable{d:Nat}{Q E:PE}{X Y Z:Nat->AV}{lp lh lf ln lv lo:Nat}{P:Int}
noncomputable def frK(X Y:Nat->AV)(lp lh lf ln lv:Nat)(th:AV)(P:Int)(es:List Ent)(cs:List Int)(s lr lt lb lc tt:Nat)(M:Cs)(T:List (Nat×aF))(i j:Nat):Cs:=fL X Y lp lh lf ln lv th P (bX es cs lr)++M++[(0,.d6 (jV es cs s lr lt)),(lb,.dict (.raw (cH es))),(lc,.list (.raw (cs.map .int))),(tt,.tup (.cons (.r i) (.cons (.r j) .nil))),(0,.d6 T)]
theorem HQ(q:∀es cs P s lr lt lb lc tt,bC es cs s->es.length<=5/\cs.length<=5->Q (.r 9) (frK X Y lp lh lf ln lv (.ref lo) P es cs s lr lt lb lc tt [(lo,.gh []),(0,.gk [(lo,.obj)])] [(lo,EM Z)] 7 8)):Call (d+9) .zu [.r 0,.r 1] (fL X Y lp lh lf ln lv (.ref lo) P []++[(lo,Kn Z),(0,.gh [])]) Q E:=
 uu (fL X Y lp lh lf ln lv (.ref lo) P []++([(lo,Kn Z),(0,.gh [])]:Cs)) [.r 0,.r 1] [.one 0,.one 1,.one 2,.one 3,.one 4,.one 5] (use [0,1,2,3] (B6 λes cs P s lr lt lb lc tt G l=>.mk [.one 0,.one 1,.one 2,.one 3,.no lo,.gk 5 [4],.one 6,.one 7,.one 8,.one 9,.gT [4]] _ _ (q es cs P s lr lt lb lc tt G l) rfl) rfl) rfl
theorem I6(q:∀es cs P s lr lt lb lc tt,bC es cs s->es.length<=5/\cs.length<=5->Q (.r 8) (frK X Y lp lh lf ln lv .none P es cs s lr lt lb lc tt [(0,.gk [])] [] 6 7)):Call (d+9) .zu [.r 0,.r 1] (fL X Y lp lh lf ln lv .none P []++[(0,.gh [])]) Q E:=
 uu (fL X Y lp lh lf ln lv .none P []++([(0,.gh [])]:Cs)) [.r 0,.r 1] [.one 0,.one 1,.one 2,.one 3,.one 4] (use [0,1,2,3] (B6 λes cs P s lr lt lb lc tt G l=>.mk [.one 0,.one 1,.one 2,.one 3,.gk 4 [],.one 5,.one 6,.one 7,.one 8,.gT []] _ _ (q es cs P s lr lt lb lc tt G l) rfl) rfl) rfl
noncomputable def Gk(a b c f p u k m n o v:Nat):Nat->AV:=λi=>[.ref a,.ref b,.ref c,.ref f,.none,.none,.none,.ref p,.ref u,.int 0,.int 12,.int 0,.none,.int 0,.ref k,.ref m,.ref n,.ref o,.ref v].getD i .none
noncomputable def yr(a:Nat):Nat->AV:=λi=>[.none,.none,.none,.none,.none,.ref a].getD i .none
noncomputable def Vw(a b:Nat):Nat->AV:=λi=>[.none,.none,.ref a,.none,.ref b,.bool false,.bool false].getD i .none
theorem Uc(q:Q (.v (.bool true)) [(lp,.gh []),(0,.gh []),(0,.gh [])]):Call (d+19) .kept [.r 0] [(lp,.list (.cons (.v (.int P)) .nil))] Q E:=by
 refine An (An (cf λlh a b c f fv fa ln p u k m n o v=>use [0] (mG (by decide) (by decide) λr P' hr=>cz (λh=>?_) λh=>?_) rfl))
 ·refine λlo lo1 lo2 lf lv la=>?_
  refine use [0,3,21,22,18,2] (HQ (X:=Gk a b c f p u k m n o v) (Y:=yr la) (Z:=Vw lo1 lo2) (ln:=ln) λes cs P' s lr lt lb lc tt G l5=>?_) rfl
  let w:W:=⟨Gk a b c f p u k m n o v,yr la,lh,lf,ln,lv,.ref lo,lr,lt,s,[(lo,.obj)],lp,lb,lc,[(lo,EM (Vw lo1 lo2))]⟩
  have Tk:Ez w.kn w.th:=.inr ⟨lo,rfl,.head _⟩
  have H:OT w.th w.T:=.inr ⟨lo,_,rfl,rfl⟩
  refine use [3,21,10,22,24,1,2,0,25,26,28] (f6 (w:=w) G (use [3,21,10,22,24,1,2,0,25,26,28] (j1 (w:=w) (N:=[]) (ts:=[]) G Tk H rfl (by decide) (λ_=>mq) λN1 P1 ts1 hN1 ht1 hs1=>.run ?_) rfl)) rfl
  refine use [3,21,10,22,24,1,2,0,25,26,28] (jg (w:=w) (n:=5) G l5 (by decide) λes1 cs1 P2 G1 l1=>use [3,21,10,22,24,1,2,0,25,26,28] (f6 (w:=w) G1 ?_) rfl) rfl
  refine use [3,21,10,22,24,1,2,0,25,26,28] (jg (w:=w) (n:=10) G1 l1 (by decide) λes2 cs2 P3 G2 l2=>use [3,21,10,22,24,1,2,0,25,26,28] (f6 (w:=w) G2 ?_) rfl) rfl
  have l12:ts1.length<=12:=ht1
  refine use [3,21,10,22,24,1,2,0,25,26,28] (j1 (w:=w) (N:=N1) G2 Tk H hN1 (ah l12 (by decide)) hs1 λN2 P4 ts2 hN2 ht2 hs2=>?_) rfl
  exact use [3,21,10,22,24,1,2,0,25,26,28] (Mx (w:=w) G2 Tk hN2 (ah ht2 (ah (bE l12 12) (by decide))) (.mk [.no lp,.no 0,.no 0] _ _ q rfl)) rfl
 ·refine λlf lv la=>?_
  refine use [0,3,18,19,2] (I6 (X:=Gk a b c f p u k m n o v) (Y:=yr la) (ln:=ln) λes cs P' s lr lt lb lc tt G l5=>?_) rfl
  let w:W:=⟨Gk a b c f p u k m n o v,yr la,lh,lf,ln,lv,.none,lr,lt,s,[],lp,lb,lc,[]⟩
  have Tk:Ez w.kn w.th:=.inl rfl
  have H:OT w.th w.T:=.inl ⟨rfl,rfl⟩
  refine use [3,18,10,19,21,1,2,0,22,23,25] (f6 (w:=w) G (use [3,18,10,19,21,1,2,0,22,23,25] (j1 (w:=w) (N:=[]) (ts:=[]) G Tk H rfl (by decide) (λ_=>mq) λN1 P1 ts1 hN1 ht1 hs1=>.run ?_) rfl)) rfl
  refine use [3,18,10,19,21,1,2,0,22,23,25] (jg (w:=w) (n:=5) G l5 (by decide) λes1 cs1 P2 G1 l1=>use [3,18,10,19,21,1,2,0,22,23,25] (f6 (w:=w) G1 ?_) rfl) rfl
  refine use [3,18,10,19,21,1,2,0,22,23,25] (jg (w:=w) (n:=10) G1 l1 (by decide) λes2 cs2 P3 G2 l2=>use [3,18,10,19,21,1,2,0,22,23,25] (f6 (w:=w) G2 ?_) rfl) rfl
  have l12:ts1.length<=12:=ht1
  refine use [3,18,10,19,21,1,2,0,22,23,25] (j1 (w:=w) (N:=N1) G2 Tk H hN1 (ah l12 (by decide)) hs1 λN2 P4 ts2 hN2 ht2 hs2=>?_) rfl
  exact use [3,18,10,19,21,1,2,0,22,23,25] (Mx (w:=w) G2 Tk hN2 (ah ht2 (ah (bE l12 12) (by decide))) (.mk [.no lp,.no 0,.no 0] _ _ q rfl)) rfl
end
noncomputable def um:dH:=(.cons (.ret (.cmp .eq (.comp (.call (.glob (.fn .kept)) (.cons (.list (.cons (.bin .mod (.call (.glob (.bi .sum)) (.cons (.slice (.loc 0) (.loc 1) .none (.int 3)) .nil)) (.bin .pow (.int 10) (.int 40))) .nil)) .nil)) 1 (.dU (.int 3)) (.bool true)) (.list (.cons (.bool true) (.cons (.bool true) (.cons (.bool true) .nil)))))) .nil)
theorem EY{is:List Int}:intsOf (is.map .int)=some is:=by
 induction is with
 |nil=>rfl
 |cons i r ih=>exact congrArg (dZ (i::·)) ih
theorem ER{is:List Int}{a s:Int}:∃js:List Int,nM (is.map AV.int) a s=js.map .int:=by
 unfold nM
 rw[aj]
 generalize sliceRange _ _ _=ks
 refine⟨ks.filterMap (is[·]?),?_⟩
 rw[List.map_filterMap]
 refine congrArg (λf=>List.filterMap f ks) (funext λk=>?_)
 rw[bw]
theorem HZ{α:Type}{vs:List α}{a s:Int}(ha:0<=a)(hs:0<s):(nM vs a s).length<=vs.length:=by
 unfold nM
 refine ah (z7 _ _) (sliceRange_length_le _ _ _ _ (λhc=>?_) λhc=>?_)
 ·simp only[sliceBounds] at hc⊢
  simp only[hc,if_true]
  exact⟨Int.le_max_left _ _,Int.le_refl _⟩
 ·simp only[sliceBounds] at hc
  exact absurd hs hc
theorem aad{is:List Int}(hl:is.length<=63):wSs (hI inl 6 47) um [some (.r 0)] [(0,.list (.raw (is.map .int)))] (λf _=>f=.ret (.v (.bool true))) λ_ _=>False:=by
 refine .WI (λm=>aM m (.bool true)) rfl (λm hm=>?_) ?_ rfl
 ·obtain⟨js,hj⟩:=ER (is:=is) (a:=(m:Int)) (s:=3)
  have hp:(nM (is.map AV.int) (m:Int) 3).length<=lim:=ah (HZ (bI m) (by decide)) (ah (aH (aj _)) (ah hl (by decide)))
  rw[hj] at hp
  refine bB (decide_eq_true (ah (aH (aj _)) (ah hl (by decide)))) ?_
  refine bB (decide_eq_true (hj▸hp)) λl1=>oW (hj▸EY) λl2=>use [2] (Uc (d:=28) ?_) rfl
  exact .mk [.one 0] () Ff.symm rfl
 ·have ok:∀v∈[AV.bool true,AV.bool true,AV.bool true],oC v=true:=λv m=>(rn.mp (show v∈aM 3 (AV.bool true) from m)).2▸rfl
  exact λl1 l2=>pP (cW (us:=[.bool true,.bool true,.bool true]) rfl rfl ok) (cW (us:=[.bool true,.bool true,.bool true]) rfl rfl ok) (fQ ok) rfl
theorem C8{is:List Int}(hl:is.length<=63):Wp (Cy (xS 47) um [some (.ref 0)] [.list (is.map .int)]) (λf _=>f=.ret (.bool true)) λ_ _=>False:=by
 have S:cC [.list (is.map .int)] (at_ (locs [(0,.list (.raw (is.map .int)))]) [(0,.list (.raw (is.map .int)))]++[]) []:=
  ⟨λf m=>(au.mp m:f=.o 0 (.list (is.map .int)))▸rfl,λ_=>mq,aJ.mpr ⟨dk,.nil⟩,λl b m=>Fa.noConfusion (au.mp m:Fa.r l b=.o 0 (.list (is.map .int))),.nil⟩
 exact(Ld (Gn inl 6 47) um [some (.r 0)] [some (.ref 0)] [(0,.list (.raw (is.map .int)))] (λf _=>f=.ret (.v (.bool true))) (λ_ _=>False) (.cons (.so rfl) .nil) (aad hl) [] [] _ S).mono (λf σ z=>z.e λg L r _ _ q=>(by subst q;cases r with|ret h=>exact congrArg pM.ret (ae h).symm)) λf σ z=>z.e λ_ _ _ _ _ q=>q
end Mine.Internal.A
namespace Mine.Internal
open PySem PySem.W PySem.Calls PyProof.Rows
noncomputable def Pm:Str:=aa "script"
section
variable{g:Gl}{A:a7}{K:cT}{s:ak}{mg mb:Str->Option ai}{fI:bF->ax}
structure L7(env:Env)(h:bt)(x:Str)(u:ai):Prop where
 l:env.kindOf x=some .local->∃m,h.Ns env.locals m/\m x=some u
 c:env.kindOf x=some .cell->∃c,env.cells.lookup x=some c/\h.IsCell c (some u)
theorem Pn{T:Tab}{ad:Ad}{vs:List ai}{is:List Int}(h:IntsAre vs is):eJ T ad (is.map .int) vs:=by
 induction h with
 |nil=>exact .nil
 |cons n t _ ih=>exact .cons ⟨t,rfl⟩ ih
theorem BM{CM:Fn->List AV->MM AV}{n:Nat}{d:Fn->bc}{envs:List Env}{f:Fr}{is:List Int}{items:Array ai}{a:ax}{st:bT}{p:Pt}{tk:Nat}{Q:Ha->ak->Prop}{E:ai->ak->Prop}(T:Top g CM n K d mg mb)(G:Gd n envs f)(hns:f.ns=[Pm])(a0:mQ g f [none] p)(H:L7 f.env p.h Pm (.ref a))(hL:g.base.IsList a items)(hi:IntsAre items.toList is)(hlen:is.length<=63)
  (h:Zr f.env.scope.names f.ns (.assign (.loc 0) (.slice (.loc 0) .none (.int 63) .none)) st=true) (h0:p.σ=[])
  (hQ:∀p' tk,p'.σ=[.list (is.map .int)]->mQ g f [some (.ref 0)] p'->Q .next (p'.on s tk)) (ke:EC g [] f.fr (Ji f.L) s p (λ_ _=>False) E):wpAny g.M f.A (exec st f.env) Q E (p.on s tk):=by
 refine k7 h λts x pos h=>?_
 refine i7 h λt' h=>?_
 refine mx h λhw ht h=>?_
 refine cG (P:=λt'=>T9 f.env.scope.names f.ns (.loc 0) t'=true->wpAny g.M f.A (exec (.Assign [t'] x pos) f.env) Q E (p.on s tk)) ht (λy pt _ ht=>?_) ht
 refine mf (P:=λx=>wpAny g.M f.A (exec (.Assign [.Name y pt] x pos) f.env) Q E (p.on s tk)) h λv t p2 h=>?_
 refine Ge (P:=λt=>wpAny g.M f.A (exec (.Assign [.Name y pt] (.Subscript v t p2) pos) f.env) Q E (p.on s tk)) h λl u tt p1 h=>?_
 refine xD h λh1 h2 h3 h4=>?_
 refine cG (P:=λv=>wpAny g.M f.A (exec (.Assign [.Name y pt] (.Subscript v (.Slice l u tt p1) p2) pos) f.env) Q E (p.on s tk)) h1 λnm p3 h1=>?_
 refine mx h1 λk1 k2 k3=>?_
 have hnm:nm=Pm:=(ae (dP (hns▸eq_of_beq k1:bg [Pm] nm=some 0))).symm
 subst hnm
 refine jd (k8 rfl) rfl rfl (Subscript_ ?_)
 have name:∀{Q:ai->ak->Prop},Q (.ref a) (p.on s tk)->wpAny g.M f.A (eval (.Name Pm p3) f.env) Q E (p.on s tk):=λhQ=>by
  rcases Fj rfl k2 with q|q
  ·obtain⟨m,hm,hv⟩:=H.l q
   exact uB (rA G.hk q hm hv hQ) (QQ k3)
  ·obtain⟨c,hc,hv⟩:=H.c q
   exact uB (wpAny_loadName_cell G.hk q hc hv hQ) (QQ k3)
 refine name ?_
 refine Av (CM:=CM) (Q:=λx y z σ=>(x=.none/\y=.int 63/\z=.none)/\σ=[]) (sP (fF T .none) G h2) (sP (fF T (.int 63)) G h3) (sP (fF T .none) G h4) a0 ⟨⟨rfl,rfl,rfl⟩,h0⟩ (λv₂ v₃ v₄ u₂ u₃ u₄ p' tk' sl hq A ha hb hc hs=>?_) ke
 obtain⟨⟨rfl,rfl,rfl⟩,hσ⟩:=hq
 cases ha
 cases hc
 obtain⟨tb,rfl⟩:=hb
 have hL':p'.h.IsList a items:=hL.elim λo q=>⟨o,A.I.stays a o q.1,q.2⟩
 have hsz:items.size<=63:=by rw[intsAre_size hi];exact hlen
 refine(J0 (l:=l) (u:=u) (t:=tt) (q:=p1) (sl:=sl) (.ref a)).elim λops hops=>tail_any hL'.typeIs wy.lookup (G9 hL' hs (lo:=none) (hi:=some 63) (st:=none) .none (.int 63 tb) .none (by simp) ?_ (ah hsz (by decide))) hops
 rw[show(63:Int)=((63:Nat):Int) from rfl,slicePick_upto',Cq hsz]
 have e:=aE (h:=p'.h) (o:=listOf items.toList.toArray 0) rfl
 refine ic (X:=[]) (s:=s) (tk:=tk') (K:=λv s₁=>wpAny g.M f.A (assign (.Name y pt) f.env v) (λ_=>Q .next) E s₁) (o:=.list (is.map .int)) (ob:=listOf items.toList.toArray 0) A.I rfl ⟨_,⟨_,e,rfl,_,rfl⟩,Pn hi,ah (aH (aj _)) (ah hlen (by decide)),_,e,rfl⟩ λv u p'' tk'' e A' hv=>?_
 obtain⟨rfl,e2⟩:=e
 rw[hσ] at e2 hv
 exact tr (CM:=CM) (Q:=λρ' σ=>ρ'=[some (.ref 0)]/\σ=[.list (is.map .int)]) (Er:=λ_ _=>False) T G ht ((a0.on A).on A') hv ⟨rfl,e2⟩ (λρ' p3 tk3 q A3 F3 hl3=>hQ p3 tk3 q.2 ⟨q.1▸F3,A3.I,q.1▸hl3⟩) ((ke.on A.S).on A'.S)
theorem Qu{is:List Int}{items:Array ai}{a:ax}{R:pH->ak->Prop}(C:Cx g K tU)(hb:g.base=s.heap)(N:jT g K mg mb)(MK:w7 g.T K)(XF:qQ g.T K)(MF:jh g.T K mb)(CF:gK g.T K)(IF:lj g.T K fI)
  (hA:RY 48 A [] []) (hL:s.heap.IsList a items) (hi:IntsAre items.toList is) (hlen:is.length<=63) (hR:∀h' tk,oY s.heap h'->R (.ok (.ret (.bool true))) {s with heap:=h',toks:=tk}):
  codeAny g.M A (.call (.ref (g.T.uv .Vi)) ⟨[.ref a],[]⟩) R s:=by
 have O:=Ms C N MF CF IF
 have CO:=A7 C N MK O XF CF 47
 have I:Inv g [] ⟨[],[],s.heap⟩:=⟨rfl,λl o e=>aG e,λl l' q q' e=>aG e,λb hb=>hb.elim λp q=>(dk q.1).elim,λb o e=>hb▸e,λb q=>(dk q).elim⟩
 refine sq (C.fn .Vi) λoc fd body ds P=>uI (p:=⟨[],[],s.heap⟩) (tk:=s.toks) C P (aB (bb ..) (cg hA.depth (by decide))) I (aK 1) (aK 1) λvals env h₁ tk₁ hv he x keep=>?_
 have eL:env.locals=s.heap.objs.size:=he▸rfl
 have eF:env.frame=some env.locals:=he▸rfl
 have nL:s.heap.get? env.locals=none:=eL▸cA s.heap
 have I₁:=Al I keep nL x.toInCall.ns
 have Vd:eJ g.T [] (tU .Vi).dflt ds:=gU P.vr
 obtain rfl:=Vd.nil_inv
 obtain rfl:vals=[.ref a]:=hv
 have F:=wa (ρ:=[none]) P I (λ{i} {v} {P'} q k=>(by cases i<;>exact nomatch q)) rfl he x env.locals (A.deeper env)
 have hA':=hA.deep eF F.kind
 have hsn:env.scope.names=fd.scope.names:=he▸rfl
 have nd:((((tU .Vi).ps.zip [cY a])).map (·.1)).Nodup:=aJ.mpr ⟨dk,.nil⟩
 have H:L7 env h₁ Pm (.ref a):=⟨λq=>⟨_,x.toInCall.ns,vg (i:=0) q nd rfl⟩,λq=>by
  have hc:(env.cells.lookup Pm).isSome=true:=by
   rw[he] at q⊢;exact ia (.inr q)
  exact(eD.mp hc).elim λc hc=>(x.cell Pm c hc).elim λo z=>⟨c,hc,o,z.1,z.2.trans (congrArg Data.cell (Cf (i:=0) q nd rfl))⟩⟩
 have T:Top g (xS 47) 47 K tU mg mb:=⟨C,N,MK,O,CO⟩
 refine iJ (P:=λbody=>wpAny g.M (A.deeper env) (execs body env) _ _ _) P.ck λst rest hck=>gX hck λh1 h2=>jq ?_
 refine BM (f:=⟨A.deeper env,[env.locals],env,env.locals,[Pm]⟩) T ⟨hA',F.kind⟩ rfl ⟨F,I₁,rfl⟩ H (hb▸hL) hi hlen (hsn▸h1) rfl (λp' tk' hσ a'=>?_) λe p' tk' ea q o=>q.elim
 refine Q9 T XF CF ⟨hA',F.kind⟩ eF Mine.Internal.A.um rest (hsn▸h2) s p' tk' _ _ _ _ _ a' (hσ.symm▸Mine.Internal.A.C8 hlen) (λv u p2 tk2 q A2 hm=>?_) λe p' tk' ea q o=>q.elim
 subst q
 obtain⟨v,rfl,hv⟩:=hm
 cases (hv:v=.bool true)
 exact hR p2.h tk2 (hb▸A2.I.stays)
end
noncomputable def fnL:List ax:=[923,918,818,832,825,270,206,727,705,249,837,263,866,844,856,459,849,445,285,114,327,299,421,400,393,386,381,376,369,362,355,407,414,228,121,669,662,433,428,438,341,466,741,320,292,191,177,128,135,149,142,473,861,873,452,878,885,892,899,906,690,683,676,543,529,655,550,557,648,911,107,93]
noncomputable def clL:List ax:=[38,51,63,83,209,231,252,344,708,807]
noncomputable def bu:Tab:=⟨λc=>clL.getD c.ctorIdx 38,λf=>fnL.getD f 923⟩
noncomputable def nR(c:bF):ax:=[0,35,0,80].getD c.ctorIdx 0
noncomputable def Se:List bF:=[.ref,.absent,.obj,.arr,.frame,.host]
noncomputable def SA:List bF:=[.thrown,.leftOut]
noncomputable def Ub:List bF:=[.iF,.leftOut,.jY,.thrown,.ref,.absent,.obj,.arr,.frame,.host]
noncomputable def kdL:List Kd:=[.none,.bool,.int,.str,.list,.tup,.dict]++Se.map .inst
noncomputable def tgL:List AV:=[.bi .int,.bi .bool,.bi .str,.bi .list,.cls .ref,.cls .absent,.cls .arr,.cls .obj]
noncomputable def biL:List Bi:=[.len,.isinstance,.list,.str,.int,.bool,.dict,.ord,.sorted,.sum,.min]
noncomputable def Ny(K:cT)(c:bF):Bool:=c.fields.all λx=>findIn K (.ref (bu.bZ c)) x.str==some none
noncomputable def I0(K:cT)(c:bF)(x y:String):Bool:=findIn K (.ref (bu.bZ c)) (aa x)==some (some (.builtin y))
noncomputable def c1(K:cT)(f:Fn):Bool:=VA K (bu.uv f) (tU f)&&((!qK (.fn f)||nsIn K mainGlobals f.dW==some (some (.ref (bu.uv f))))&&keepIn K (.ref (bu.uv f)))
noncomputable def c2(K:cT):Bool:=kdL.all λk=>tgL.all λt=>kitOne K (S9 bu k) (RT bu t)==some (yL k t)
noncomputable def c3(K:cT)(c:bF):Bool:=plainGet K (bu.bZ c) "__class__"&&(hasDictIn K (bu.bZ c)&&(I0 K c "__class__" "object.__class__"&&mroIn K (bu.bZ c) (.type "object")==some true))
noncomputable def c4(K:cT)(c:bF):Bool:=((clsIn K (bu.bZ c)).any (·.hasDict)&&Ny K c)&&(I0 K c "__getattribute__" "object.__getattribute__"&&(findIn K (.ref (bu.bZ c)) "__getattr__"==some none&&(I0 K c "__setattr__" "object.__setattr__"&&plainOver K (bu.bZ c))))
noncomputable def c5(K:cT)(c:bF):Bool:=jF (qj c) λf=>makesIn K (bu.bZ c)&&(findIn K (.ref (bu.bZ c)) "__init__"==some (some (.ref (bu.uv f)))&&typeIn K (.ref (bu.uv f))==some (.type "function"))
noncomputable def YB:List (bF×S×Fn):=[(.arr,toS "find",.find),(.arr,toS "put",.put),(.arr,toS "append",.append),(.arr,toS "has",.has),(.arr,toS "key_at",.BN),(.host,toS "warn",.warn)]
noncomputable def c6(K:cT):Bool:=YB.all λx=>findIn K (.ref (bu.bZ x.1)) (strOf x.2.1)==some (some (.ref (bu.uv x.2.2)))&&(typeIn K (.ref (bu.uv x.2.2))==some (.type "function")&&x.1.fields.all λy=>!(y.str==strOf x.2.1))
noncomputable def c7(K:cT)(c:bF):Bool:=(SA.all (λd=>exmOne K (.ref (bu.bZ c)) (.ref (bu.bZ d))==some (decide (c=d)))&&((clsIn K (bu.bZ c)).any (·.hasDict)&&(I0 K c "__getattribute__" "BaseException.__getattribute__"&&(findIn K (.ref (bu.bZ c)) "__getattr__"==some none&&Ny K c))))&&
 ((excIn K (bu.bZ c)&&(I0 K c "__setattr__" "object.__setattr__"&&(clsIn K (bu.bZ c)).any (λcd=>nU cd.mro)))&&(findIn K (.ref (bu.bZ c)) "__init__"==some (some (.ref (nR c)))&&(typeIn K (.ref (nR c))==some (.type "function")&&A0 K (nR c) (iR c) (MT c))))
noncomputable def c8(K:cT)(c:bF):Bool:=!c.isExc||(subIn K (.ref (bu.bZ c)) (.type "BaseException")==some true&&typeIn K (.ref (bu.bZ c))==some (.type "type"))
noncomputable def c9(K:cT)(c:bF):Bool:=keepIn K (.ref (bu.bZ c))&&nsIn K mainGlobals c.dW==some (some (.ref (bu.bZ c)))
noncomputable def c10(K:cT):Bool:=biL.all (λb=>nsIn K mainGlobals b.dW==some none)&&(nsIn K mainGlobals (aa "range")==some none&&(nsIn K mainGlobals (aa "enumerate")==some none&&nsIn K mainGlobals (aa "Exception")==some none))
structure Jg(K:cT):Prop where
 f0:(dA 0 12).all (c1 K)=true
 f1:(dA 12 12).all (c1 K)=true
 f2:(dA 24 12).all (c1 K)=true
 f3:(dA 36 12).all (c1 K)=true
 f4:(dA 48 12).all (c1 K)=true
 f5:(dA 60 12).all (c1 K)=true
 kd:c2 K=true
 kg:specialIn K (.builtin "object.__class__") "__get__"=some (some (.builtin "getset_descriptor.__get__"))
 kt:takesIn K (.builtin "object.__class__")=some true
 own:Se.all (λc=>c3 K c&&(c4 K c&&c5 K c))=true
 mt:c6 K=true
 YN:SA.all (c7 K)=true
 exc:Ub.all (c8 K)=true
 all:Ub.all (c9 K)=true
 nm:c10 K=true
 Sr:findCls K (.type "Exception") (.type "type") "__init__"=some (.val (.builtin "Exception.__init__"))
section
variable{K:cT}
theorem CQ(c:bF):c∈Ub:=by cases c<;>decide
theorem Kp{c:bF}(h:c.isExc=false):c∈Se:=by cases c<;>first|decide|exact ft h.symm
theorem uJ{c:bF}(h:c.leaf=true):c∈SA:=by cases c<;>first|decide|exact ft h
theorem VL(b:Bi):b∈biL:=by cases b<;>decide
theorem vZ{α:Type}{l:List α}{i:Nat}{d:α}(h:l.length<=i):l.getD i d=d:=by rw[bG,iD h];rfl
theorem Jg.fn(X:Jg K):∀f,c1 K f=true:=λf=>by
 have big:∀f,f<72->c1 K f=true:=λf h=>by
  have go:∀a,(dA a 12).all (c1 K)=true->a<=f->f<a+12->c1 K f=true:=λa q h1 h2=>aD.mp q f (List.mem_range'_1.mpr ⟨h1,h2⟩)
  by_cases h1:f<12
  ·exact go 0 X.f0 (aV _) h1
  by_cases h2:f<24
  ·exact go 12 X.f1 (bp h1) h2
  by_cases h3:f<36
  ·exact go 24 X.f2 (bp h2) h3
  by_cases h4:f<48
  ·exact go 36 X.f3 (bp h3) h4
  by_cases h5:f<60
  ·exact go 48 X.f4 (bp h4) h5
  ·exact go 60 X.f5 (bp h5) h
 by_cases h:f<72
 ·exact big f h
 ·have h:=bp h
  have e1:bu.uv f=bu.uv 0:=vZ h
  have e2:tU f=tU 0:=vZ h
  have e3:Fn.dW f=Fn.dW 0:=vZ h
  have z:=big 0 (by decide)
  unfold c1 at*
  rw[e1,e2,e3]
  refine mx z λz1 z2 z3=>?_
  have x:(nsIn K mainGlobals (Fn.dW 0)==some (some (.ref (bu.uv 0))))=true:=z2
  rw[z1,z3,x,g6];rfl
theorem vR{c:bF}{x y:String}(h:I0 K c x y=true):findIn K (.ref (bu.bZ c)) (aa x)=some (some (.builtin y)):=eq_of_beq h
theorem Gv{c:bF}(h:Ny K c=true):∀x∈c.fields,findIn K (.ref (bu.bZ c)) x.str=some none:=λx m=>eq_of_beq (aD.mp h x m)
theorem Jg.cls(X:Jg K){c:bF}(hc:c.isExc=false):c3 K c=true/\c4 K c=true/\c5 K c=true:=mx (aD.mp X.own c (Kp hc)) λa b c=>⟨a,b,c⟩
theorem Bu{c:bF}{f:Fn}(h:qj c=some f):c.isExc=false:=by cases c<;>first|rfl|exact aG h
theorem WG{k:Kd}(h:∀c,k=.inst c->c.isExc=false):k∈kdL:=by
 cases k with
 |inst c=>exact a8 _ (aU (Kp (h c rfl)))
 |_=>exact aZ _ (by decide)
theorem XI{t:AV}(h:BS t=true):t∈tgL:=by
 cases t with
 |bi b=>cases b<;>first|decide|exact ft h
 |cls c=>cases c<;>first|decide|exact ft h
 |_=>exact ft h
theorem Rz{c:bF}{m:S}{f:Fn}(h:vf c m=some f):(c,m,f)∈YB:=by
 cases c with
 |arr=>
  have h:(if m=toS "find" then some Fn.find else if m=toS "put" then some .put else if m=toS "append" then some .append else if m=toS "has" then some .has else if m=toS "key_at" then some .BN else .none)=some f:=h
  by_cases e1:m=toS "find"
  ·rw[if_pos e1] at h;exact ae h▸e1▸.head _
  rw[if_neg e1] at h
  by_cases e2:m=toS "put"
  ·rw[if_pos e2] at h;exact ae h▸e2▸.tail _ (.head _)
  rw[if_neg e2] at h
  by_cases e3:m=toS "append"
  ·rw[if_pos e3] at h;exact ae h▸e3▸.tail _ (.tail _ (.head _))
  rw[if_neg e3] at h
  by_cases e4:m=toS "has"
  ·rw[if_pos e4] at h;exact ae h▸e4▸.tail _ (.tail _ (.tail _ (.head _)))
  rw[if_neg e4] at h
  by_cases e5:m=toS "key_at"
  ·rw[if_pos e5] at h;exact ae h▸e5▸.tail _ (.tail _ (.tail _ (.tail _ (.head _))))
  rw[if_neg e5] at h;exact aG h
 |host=>
  have h:(if m=toS "warn" then some Fn.warn else .none)=some f:=h
  by_cases e1:m=toS "warn"
  ·rw[if_pos e1] at h;exact ae h▸e1▸.tail _ (.tail _ (.tail _ (.tail _ (.tail _ (.head _)))))
  rw[if_neg e1] at h;exact aG h
 |_=>exact aG h
theorem Ur{x:bF×S×Fn}(h:x∈YB):x.1.isExc=false:=(by decide:∀x∈YB,x.1.isExc=false) x h
theorem Zv(X:Jg K):Od bu K:=⟨λk t hk ht=>eq_of_beq (aD.mp (aD.mp X.kd k (WG hk)) t (XI ht)),λc hc=>xD (X.cls hc).1 λa1 a2 a3 a4=>⟨a1,a2,vR a3,eq_of_beq a4⟩,X.kg,X.kt⟩
theorem XC(X:Jg K):Gp K bu:=λc hc=>gX (X.cls hc).2.1 λa b=>gX a λa1 a2=>xD b λb1 b2 b3 b4=>⟨a1,vR b1,eq_of_beq b2,Gv a2,vR b3,b4⟩
theorem Z4(X:Jg K):w7 bu K where
 make:=λc f h=>by
  have z:=(X.cls (Bu h)).2.2
  unfold c5 at z
  rw[h] at z
  exact mx z λa b c=>⟨a,eq_of_beq b,eq_of_beq c⟩
 exc:=λc f h=>Bu h
 wZ:=λc m f h=>mx (aD.mp X.mt _ (Rz h)) λa b d=>⟨Ur (Rz h),eq_of_beq a,eq_of_beq b,λx m=>ne_of_beq_false (cJ (aD.mp d x m))⟩
 LW:=λf=>mx (X.fn f) λ_ _ c=>c
 Rh:=λc=>gX (aD.mp X.all c (CQ c)) λa _=>a
theorem XY(X:Jg K):qQ bu K:=
 have z:=λc (h:bF.isExc c=true)=>(CP (aD.mp X.exc c (CQ c)) (λn=>ft ((cJ n).symm.trans h)) λq=>gX q λa b=>⟨eq_of_beq a,eq_of_beq b⟩:subIn K (.ref (bu.bZ c)) (.type "BaseException")=some true∧typeIn K (.ref (bu.bZ c))=some (.type "type"))
 ⟨λc h=>(z c h).1,λc h=>(z c h).2⟩
theorem Yj(X:Jg K):gK bu K:=⟨λc d h h'=>gX (aD.mp X.YN c (uJ h)) λa _=>gX a λa _=>eq_of_beq (aD.mp a d (uJ h')),λc h=>gX (aD.mp X.YN c (uJ h)) λa _=>gX a λ_ b=>xD b λb1 b2 b3 b4=>⟨b1,vR b2,eq_of_beq b3,Gv b4⟩⟩
theorem XM(X:Jg K){mb:Str→Option ai}(hb:mb (aa "Exception")=some (.type "Exception")):jh bu K mb:=
 have z:=λc h=>(gX (aD.mp X.YN c (uJ h)) λ_ b=>gX b λb _=>mx b λb1 b2 b3=>⟨b1,vR b2,b3⟩:excIn K (bu.bZ c)=true∧findIn K (.ref (bu.bZ c)) "__setattr__"=some (some (.builtin "object.__setattr__"))∧(clsIn K (bu.bZ c)).any (λcd=>nU cd.mro)=true)
 ⟨λc h=>(z c h).1,λc h=>(z c h).2.1,λc h=>(z c h).2.2,⟨xD X.nm λ_ _ _ d=>eq_of_beq d,hb⟩,X.Sr⟩
theorem SO(X:Jg K):lj bu K nR:=
 have z:=λc h=>(gX (aD.mp X.YN c (uJ h)) λ_ b=>gX b λ_ b=>mx b λb1 b2 b3=>⟨eq_of_beq b1,eq_of_beq b2,b3⟩:findIn K (.ref (bu.bZ c)) "__init__"=some (some (.ref (nR c)))∧typeIn K (.ref (nR c))=some (.type "function")∧A0 K (nR c) (iR c) (MT c)=true)
 ⟨λc h=>(z c h).1,λc h=>(z c h).2.1,λc h=>(z c h).2.2⟩
theorem Fs(b:Bi):bootBuiltins b.dW=some (XU b)∧b.dW≠"__name__":=by
 cases b<;>exact⟨by kernel_rfl,by decide⟩
theorem PC{prog:fK}{w:ky}{s:ak}{mg mb:Str→Option ai}{is:List Int}{items:Array ai}{a fa:ax}{R:pH→ak→Prop}(F:Jg K)(X:K.In s.heap)(G:s.heap.Ns mainGlobals mg)(B:s.heap.Ns builtinsNs mb)(hb:∀x:Str,x≠"__name__"→mb x=bootBuiltins x)
  (lim:s.heap.NoLimit) (seer:s.heap.NoSeer) (hfa:mg (aa "law")=some (.ref fa)) (hL:s.heap.IsList a items) (hi:IntsAre items.toList is) (hlen:is.length≤63)
  (hR:∀h' tk,(∀b o,s.heap.get? b=some o->h'.get? b=some o)->R (.ok (.ret (.bool true))) {s with heap:=h',toks:=tk}):
  codeAny (model prog w) callerA (.call (.ref fa) ⟨[.ref a],[]⟩) R s:=by
 have bx:∀x v,bootBuiltins x=some v→x≠"__name__"→mb x=some v:=λx v q n=>(hb x n).trans q
 have nF:∀f,qK (.fn f)=true->nsIn K mainGlobals (Fn.dW f)=some (some (.ref (bu.uv f))):=λf h=>mx (F.fn f) λ_ b _=>CP b (λn=>ft ((cJ n).symm.trans h)) eq_of_beq
 have e:=mg_of X G (nF .Vi rfl)
 rw[show Fn.dW .Vi=aa "law" from rfl,hfa] at e
 cases ae e
 refine xD F.nm λn1 n2 n3 n4=>?_
 exact Qu (g:=⟨prog,w,bu,s.heap⟩) (fI:=nR) ⟨X,Zv F,XC F,(let ⟨_,⟨o,_,_,ho,_⟩,_⟩:=seer.mods;⟨o,ho⟩),lim,λf=>mx (F.fn f) λa _ _=>a⟩ rfl
  ⟨G,B,nF,λc=>gX (aD.mp F.all c (CQ c)) λ_ b=>eq_of_beq b,λb=>⟨eq_of_beq (aD.mp n1 b (VL b)),bx _ _ (Fs b).1 (Fs b).2⟩,⟨eq_of_beq n2,bx _ _ (by kernel_rfl) (by decide)⟩,⟨eq_of_beq n3,bx _ _ (by kernel_rfl) (by decide)⟩⟩
  (Z4 F) (XY F) (XM F (bx _ _ (by kernel_rfl) (by decide))) (Yj F) (SO F) ⟨rfl,rfl,rfl,(λ_ h=>(dk h).elim),by decide,by decide⟩ hL hi hlen hR
end
end Mine.Internal
end
namespace Mine.top
abbrev T:=True
theorem t:T:=⟨⟩
theorem tw10001883323181062329:T:=t
theorem tw10005945817407372193:T:=t
theorem tw10006222313960134694:T:=t
theorem tw10079171474624433434:T:=t
theorem tw10187264123177260123:T:=t
theorem tw10187724287525710026:T:=t
theorem tw10194810499950245846:T:=t
theorem tw10242591131026960117:T:=t
theorem tw10252623693936335467:T:=t
theorem tw10276331973627342096:T:=t
theorem tw10296497611174029103:T:=t
theorem tw10328360990557673835:T:=t
theorem tw10341860258655708415:T:=t
theorem tw10361075674979980167:T:=t
theorem tw10362775142378211054:T:=t
theorem tw10399464001100048223:T:=t
theorem tw1040915598704419856:T:=t
theorem tw10414433010598505635:T:=t
theorem tw104434173382791472:T:=t
theorem tw10448899703829047738:T:=t
theorem tw10467260515200827399:T:=t
theorem tw105208000716104510:T:=t
theorem tw10548783162686979305:T:=t
theorem tw10562855833978642645:T:=t
theorem tw10567129059001840431:T:=t
theorem tw10574840078274726829:T:=t
theorem tw10577272966987657301:T:=t
theorem tw10579768621468169598:T:=t
theorem tw10617020205504526918:T:=t
theorem tw10643057118474118344:T:=t
theorem tw10657950659306570408:T:=t
theorem tw1068965626710143233:T:=t
theorem tw10694878333477680388:T:=t
theorem tw10773188271377071773:T:=t
theorem tw10774637447528242797:T:=t
theorem tw10801874191123338550:T:=t
theorem tw10864713392326063847:T:=t
theorem tw10871174231137468428:T:=t
theorem tw1088946173253831356:T:=t
theorem tw10915162052029792233:T:=t
theorem tw10936122117785486979:T:=t
theorem tw10956490626425055710:T:=t
theorem tw10987319290404115282:T:=t
theorem tw10996937224433265937:T:=t
theorem tw11045010717311733409:T:=t
theorem tw11053662475850362967:T:=t
theorem tw11072019736110318841:T:=t
theorem tw1108800333578037850:T:=t
theorem tw11116745826364501430:T:=t
theorem tw11131206648525784891:T:=t
theorem tw11133666699803404755:T:=t
theorem tw11141966352661209427:T:=t
theorem tw11145643937294416527:T:=t
theorem tw11159431927160009238:T:=t
theorem tw11189890337720088615:T:=t
theorem tw11199532085631943738:T:=t
theorem tw11199710921928265848:T:=t
theorem tw11203750815551599093:T:=t
theorem tw1123975283337734383:T:=t
theorem tw1124271682379634556:T:=t
theorem tw11334203419191126389:T:=t
theorem tw11334350811105764591:T:=t
theorem tw11334415319851112604:T:=t
theorem tw11377482038585738817:T:=t
theorem tw11383000496634168614:T:=t
theorem tw11423202765487971197:T:=t
theorem tw1142415686869020238:T:=t
theorem tw1142465760834251562:T:=t
theorem tw11430207588045935325:T:=t
theorem tw11443710868159068359:T:=t
theorem tw11457754044182789617:T:=t
theorem tw11459358961799972967:T:=t
theorem tw11466170419677230873:T:=t
theorem tw11468358511172941013:T:=t
theorem tw11470690223818410786:T:=t
theorem tw114735475811551136:T:=t
theorem tw11487705115161347191:T:=t
theorem tw1149218181149386328:T:=t
theorem tw11520865232209809239:T:=t
theorem tw11542710104232473196:T:=t
theorem tw11546936639936008217:T:=t
theorem tw11582926029173025856:T:=t
theorem tw11592465598724292549:T:=t
theorem tw11593399256984752444:T:=t
theorem tw11613256710310857696:T:=t
theorem tw11620634932572840514:T:=t
theorem tw1169771345039838236:T:=t
theorem tw11760055953109336660:T:=t
theorem tw11762496359356365647:T:=t
theorem tw11779653239440661071:T:=t
theorem tw11845233108574324481:T:=t
theorem tw11858546649754279707:T:=t
theorem tw1186331607622873149:T:=t
theorem tw11922380849998532372:T:=t
theorem tw1192657577511650299:T:=t
theorem tw11982747722937265360:T:=t
theorem tw11994683656316670133:T:=t
theorem tw12012865196380796599:T:=t
theorem tw12080426169559351053:T:=t
theorem tw12094960947251128927:T:=t
theorem tw12105128591322288922:T:=t
theorem tw12117888159696746259:T:=t
theorem tw12166907935582030026:T:=t
theorem tw12182655422080760471:T:=t
theorem tw12209182163369298222:T:=t
theorem tw12209373703501877683:T:=t
theorem tw12210559395081530917:T:=t
theorem tw12256363837256957063:T:=t
theorem tw12287887523310495049:T:=t
theorem tw12317137736924338119:T:=t
theorem tw12318557346453588183:T:=t
theorem tw12340227926317113386:T:=t
theorem tw12342655685612074800:T:=t
theorem tw12355365744023807785:T:=t
theorem tw12376051458212225564:T:=t
theorem tw12379415707883124570:T:=t
theorem tw12385144161495827662:T:=t
theorem tw12392516345856041104:T:=t
theorem tw12415523145999629524:T:=t
theorem tw12425085872883035938:T:=t
theorem tw1245559373397905713:T:=t
theorem tw12483720753089274532:T:=t
theorem tw12507017104952529904:T:=t
theorem tw12520176845478516731:T:=t
theorem tw12535971307161669396:T:=t
theorem tw12540527436937284434:T:=t
theorem tw12545222027267286695:T:=t
theorem tw12564220515667953714:T:=t
theorem tw12609604535291364189:T:=t
theorem tw12622177474791663080:T:=t
theorem tw12625694945159114441:T:=t
theorem tw12638030207367898728:T:=t
theorem tw12643491718579748851:T:=t
theorem tw12643520174271941249:T:=t
theorem tw12718909917080609646:T:=t
theorem tw1275901062530889299:T:=t
theorem tw12762922103008790111:T:=t
theorem tw12783364522390391256:T:=t
theorem tw12787338502077490372:T:=t
theorem tw12819366960792805191:T:=t
theorem tw1284575025550258836:T:=t
theorem tw12894197372075662830:T:=t
theorem tw12904532413392791838:T:=t
theorem tw1291508964198565346:T:=t
theorem tw12958502747184954254:T:=t
theorem tw12958664272152378060:T:=t
theorem tw13012589842206080548:T:=t
theorem tw13042145991694459580:T:=t
theorem tw13044034144603486326:T:=t
theorem tw13047834502658803893:T:=t
theorem tw13068111086705522682:T:=t
theorem tw13090165191389475591:T:=t
theorem tw13091174067606910046:T:=t
theorem tw13120753694373217308:T:=t
theorem tw13134186033006778460:T:=t
theorem tw13160728816969591200:T:=t
theorem tw13177472732611162249:T:=t
theorem tw13191473780850816973:T:=t
theorem tw13193460572425462058:T:=t
theorem tw1321871150748368714:T:=t
theorem tw13223034962123697568:T:=t
theorem tw13261893007816960818:T:=t
theorem tw13264354339760550358:T:=t
theorem tw13272337422414781067:T:=t
theorem tw132903981291199154:T:=t
theorem tw13303987763403120937:T:=t
theorem tw13305523845174962083:T:=t
theorem tw13307591127769906961:T:=t
theorem tw13318506193475082254:T:=t
theorem tw13326734554550294991:T:=t
theorem tw13359135706311490777:T:=t
theorem tw13369591340354186047:T:=t
theorem tw13385244156195431271:T:=t
theorem tw13385996262653078937:T:=t
theorem tw13420762306968818387:T:=t
theorem tw13432635357386499347:T:=t
theorem tw13500427573557490136:T:=t
theorem tw13501252493785611398:T:=t
theorem tw1353657120722975067:T:=t
theorem tw13549259019975226677:T:=t
theorem tw13706816188851595723:T:=t
theorem tw13710211086531791108:T:=t
theorem tw13713866747541496747:T:=t
theorem tw13799840507378627052:T:=t
theorem tw13802547742096326172:T:=t
theorem tw13820912127525551613:T:=t
theorem tw13822267516522204269:T:=t
theorem tw13852830345959847167:T:=t
theorem tw13864677062968915208:T:=t
theorem tw13889309363888878346:T:=t
theorem tw13889484949932952446:T:=t
theorem tw13890846271309207196:T:=t
theorem tw13899568491130100285:T:=t
theorem tw13928562000808390012:T:=t
theorem tw1394568958698188020:T:=t
theorem tw13975414291046593716:T:=t
theorem tw13983857475226248213:T:=t
theorem tw13985988839938425345:T:=t
theorem tw13987285891283452908:T:=t
theorem tw13990698242589431971:T:=t
theorem tw13994475860397038760:T:=t
theorem tw1400011881503588481:T:=t
theorem tw14009863360362892063:T:=t
theorem tw14042817526060737062:T:=t
theorem tw14084254815424685500:T:=t
theorem tw14142502885225118848:T:=t
theorem tw14145802354927516647:T:=t
theorem tw14168018189251442112:T:=t
theorem tw14190884011817671563:T:=t
theorem tw14214845130331304391:T:=t
theorem tw14235281626263879747:T:=t
theorem tw14248925298954806443:T:=t
theorem tw14263998999751124003:T:=t
theorem tw14282377253939248939:T:=t
theorem tw14301671488300290737:T:=t
theorem tw14317375437502057738:T:=t
theorem tw14349089067433371257:T:=t
theorem tw14372152842798730730:T:=t
theorem tw14390669486469195807:T:=t
theorem tw14402358008270493973:T:=t
theorem tw14450715343900746980:T:=t
theorem tw14453841093610474573:T:=t
theorem tw14459580976405569124:T:=t
theorem tw14466935161476858967:T:=t
theorem tw14526540143163920134:T:=t
theorem tw14537839394382259888:T:=t
theorem tw14608685727046917156:T:=t
theorem tw14615657086365298920:T:=t
theorem tw14632489290957082403:T:=t
theorem tw14657780768301432306:T:=t
theorem tw14671331368771545958:T:=t
theorem tw146815374380898660:T:=t
theorem tw14697636140705633519:T:=t
theorem tw14705559076539443318:T:=t
theorem tw14724332232928298890:T:=t
theorem tw14747140909534839006:T:=t
theorem tw14762295962024373759:T:=t
theorem tw14771320824794740959:T:=t
theorem tw14789260269991461300:T:=t
theorem tw14796646475526232899:T:=t
theorem tw14823308797102314842:T:=t
theorem tw14826035006057030972:T:=t
theorem tw1486479319815781832:T:=t
theorem tw14901070454687303710:T:=t
theorem tw14917401599646851644:T:=t
theorem tw14983691940233647259:T:=t
theorem tw15008207993883188931:T:=t
theorem tw15058813355848621054:T:=t
theorem tw15073315481182737699:T:=t
theorem tw15092371282622821202:T:=t
theorem tw15095372191486117680:T:=t
theorem tw15125931889511115149:T:=t
theorem tw1516213087968936877:T:=t
theorem tw15169761463676818070:T:=t
theorem tw15177526630643400193:T:=t
theorem tw15212760480394562756:T:=t
theorem tw1522322319653140107:T:=t
theorem tw15229573370884232203:T:=t
theorem tw15240379268576122478:T:=t
theorem tw15245507539482535896:T:=t
theorem tw15254643099363442306:T:=t
theorem tw15271675978053873483:T:=t
theorem tw15286249088069653756:T:=t
theorem tw15299407806266782574:T:=t
theorem tw15361541807878343388:T:=t
theorem tw15362295582089109014:T:=t
theorem tw15383718091736126541:T:=t
theorem tw15451780782824253742:T:=t
theorem tw15508944514630427714:T:=t
theorem tw15525995667512963556:T:=t
theorem tw15569959144833144457:T:=t
theorem tw1559226430018442191:T:=t
theorem tw15638586536077026902:T:=t
theorem tw15646934709686841381:T:=t
theorem tw156680339441677793:T:=t
theorem tw15683283827167961885:T:=t
theorem tw15740088241188596515:T:=t
theorem tw15740948416001004644:T:=t
theorem tw15744752440731449612:T:=t
theorem tw15786856763048480637:T:=t
theorem tw15821300534535209081:T:=t
theorem tw15823732540823425666:T:=t
theorem tw1584292188352093569:T:=t
theorem tw1585457916280141200:T:=t
theorem tw15860264024139754761:T:=t
theorem tw15874363893724204672:T:=t
theorem tw15877122091014420850:T:=t
theorem tw15878805988109762761:T:=t
theorem tw15911569825323301435:T:=t
theorem tw1592229195962567352:T:=t
theorem tw15976228082101565994:T:=t
theorem tw15985961358823992270:T:=t
theorem tw16004416686337608138:T:=t
theorem tw16007503158450755388:T:=t
theorem tw1601500998369573665:T:=t
theorem tw16034636559557993077:T:=t
theorem tw16044733080236030384:T:=t
theorem tw16054190913257422852:T:=t
theorem tw16058212318047004132:T:=t
theorem tw16068562728529669930:T:=t
theorem tw16104615914030681952:T:=t
theorem tw16120041803238788101:T:=t
theorem tw16123964013534891561:T:=t
theorem tw16149628235652541579:T:=t
theorem tw16155163154822807229:T:=t
theorem tw16174758807025615021:T:=t
theorem tw16196420915677631385:T:=t
theorem tw16204670001084760307:T:=t
theorem tw16240068400928781132:T:=t
theorem tw16262243036561855896:T:=t
theorem tw16264823338695392855:T:=t
theorem tw16325430554902658873:T:=t
theorem tw1638113669730673903:T:=t
theorem tw16414630628198896168:T:=t
theorem tw16415559393655328363:T:=t
theorem tw16420938139371093754:T:=t
theorem tw16439428074185983240:T:=t
theorem tw16453443671601555132:T:=t
theorem tw16509065781470453940:T:=t
theorem tw16541100652227675460:T:=t
theorem tw16550210197400561554:T:=t
theorem tw1655259298481077034:T:=t
theorem tw16580785732701462914:T:=t
theorem tw16597617366809209970:T:=t
theorem tw16600302727076016134:T:=t
theorem tw16612331741718818515:T:=t
theorem tw16674975167109581930:T:=t
theorem tw1670607248958778201:T:=t
theorem tw16719718919923625709:T:=t
theorem tw16734371015571099844:T:=t
theorem tw16759092144687519636:T:=t
theorem tw1676862907878916244:T:=t
theorem tw16795567611416646642:T:=t
theorem tw16800595933775061595:T:=t
theorem tw16809779246217341487:T:=t
theorem tw16821654228018055803:T:=t
theorem tw16836452506482946331:T:=t
theorem tw168773606155904870:T:=t
theorem tw16878204669230926818:T:=t
theorem tw16896751376397280635:T:=t
theorem tw16900427199656544559:T:=t
theorem tw1697544655201012999:T:=t
theorem tw16982378080980825192:T:=t
theorem tw17009415399725018624:T:=t
theorem tw17033825039287860005:T:=t
theorem tw17046948494117081484:T:=t
theorem tw17050326753033342646:T:=t
theorem tw1706793611546318481:T:=t
theorem tw17072921774324240998:T:=t
theorem tw17089494485692210459:T:=t
theorem tw17103177528636943170:T:=t
theorem tw17135812771915316397:T:=t
theorem tw1717825165581474212:T:=t
theorem tw17219337458794519322:T:=t
theorem tw1732150942055357024:T:=t
theorem tw17323899518341599180:T:=t
theorem tw17342085116792181814:T:=t
theorem tw17346259052997144950:T:=t
theorem tw1736530178072539846:T:=t
theorem tw17395277212465857529:T:=t
theorem tw17470836177267949868:T:=t
theorem tw17486766287000646611:T:=t
theorem tw17492772389151264855:T:=t
theorem tw17494340499879156831:T:=t
theorem tw17542608870123051758:T:=t
theorem tw1754339480302792767:T:=t
theorem tw17545328352263074274:T:=t
theorem tw17555251805378815213:T:=t
theorem tw17565814175750979855:T:=t
theorem tw17576949682797635024:T:=t
theorem tw17576975557295073227:T:=t
theorem tw17582957951858275007:T:=t
theorem tw17594962761535629368:T:=t
theorem tw17620759639134147866:T:=t
theorem tw17699833187948243897:T:=t
theorem tw17704029263460632042:T:=t
theorem tw17735899436944072409:T:=t
theorem tw17741875731164886585:T:=t
theorem tw17774833976778514315:T:=t
theorem tw17781115878593249900:T:=t
theorem tw17783859843131274014:T:=t
theorem tw17788931634197215145:T:=t
theorem tw17807222030613408314:T:=t
theorem tw17810072253543177317:T:=t
theorem tw17828378304095215089:T:=t
theorem tw17886615442053742456:T:=t
theorem tw17964300760807480141:T:=t
theorem tw17981982808018919739:T:=t
theorem tw18008055252877512497:T:=t
theorem tw1803303928475200142:T:=t
theorem tw18034075008235765660:T:=t
theorem tw18063644159110109576:T:=t
theorem tw18064794426631996164:T:=t
theorem tw18085771088847121727:T:=t
theorem tw18086089286151905521:T:=t
theorem tw18121752080927795069:T:=t
theorem tw18134043772397237400:T:=t
theorem tw1814787853859245837:T:=t
theorem tw18164388396756303480:T:=t
theorem tw18177719399980262173:T:=t
theorem tw18185382058313985135:T:=t
theorem tw18186074749648716422:T:=t
theorem tw18200808041648558556:T:=t
theorem tw18245740138792012028:T:=t
theorem tw18289109515434150305:T:=t
theorem tw18326957874037197240:T:=t
theorem tw1833847959688406909:T:=t
theorem tw18367679650794681301:T:=t
theorem tw18371284783138465269:T:=t
theorem tw18374746225686918389:T:=t
theorem tw18394268562011335289:T:=t
theorem tw1869187583165140508:T:=t
theorem tw1886144042066472794:T:=t
theorem tw196536941598035525:T:=t
theorem tw1971433849790844608:T:=t
theorem tw1988063486488863061:T:=t
theorem tw2007660962349395123:T:=t
theorem tw2029088862249889922:T:=t
theorem tw2047080938173012442:T:=t
theorem tw2047500489365003465:T:=t
theorem tw2103985501979894447:T:=t
theorem tw2104741419117168686:T:=t
theorem tw2126296398998916975:T:=t
theorem tw2145171640123136144:T:=t
theorem tw2165817408578904141:T:=t
theorem tw2220570432770164149:T:=t
theorem tw2287362676942042354:T:=t
theorem tw2312856594315299383:T:=t
theorem tw2365566498512967660:T:=t
theorem tw2369445192022557226:T:=t
theorem tw2377541652452675900:T:=t
theorem tw2405475915293451298:T:=t
theorem tw2417791160451022400:T:=t
theorem tw243287103678006315:T:=t
theorem tw2443449257678562572:T:=t
theorem tw2446451932059125521:T:=t
theorem tw2462062305354472974:T:=t
theorem tw2464713573024523455:T:=t
theorem tw2502181453436431679:T:=t
theorem tw2506305409684761478:T:=t
theorem tw2544169868661182894:T:=t
theorem tw2555065506035805374:T:=t
theorem tw2580922434103091657:T:=t
theorem tw2581206410525282061:T:=t
theorem tw2596539476470345881:T:=t
theorem tw2601905985415302144:T:=t
theorem tw2617181576586992344:T:=t
theorem tw2617719716777270872:T:=t
theorem tw2619622883677149074:T:=t
theorem tw2665807947273092163:T:=t
theorem tw2675166985342186458:T:=t
theorem tw2683898200743741643:T:=t
theorem tw2685012915969955173:T:=t
theorem tw2685745773621513544:T:=t
theorem tw2686433634493928565:T:=t
theorem tw2707679213066786127:T:=t
theorem tw2722852734226103192:T:=t
theorem tw2727672472851901052:T:=t
theorem tw2731995056826638727:T:=t
theorem tw2732273902793177162:T:=t
theorem tw2741389259953327712:T:=t
theorem tw2752453847809088016:T:=t
theorem tw2770239361232196585:T:=t
theorem tw2812155379371279736:T:=t
theorem tw2822501910515967889:T:=t
theorem tw283044589724301:T:=t
theorem tw2835187731363253809:T:=t
theorem tw2847958352784047137:T:=t
theorem tw2858025505805532374:T:=t
theorem tw2859833716702649255:T:=t
theorem tw2867133514656366558:T:=t
theorem tw2878843996050045342:T:=t
theorem tw2907113945770861938:T:=t
theorem tw2926424126403749041:T:=t
theorem tw2965125352208521119:T:=t
theorem tw2972514686349903234:T:=t
theorem tw2985252069258134486:T:=t
theorem tw2988451766255067171:T:=t
theorem tw3002795768020413707:T:=t
theorem tw3033006917804047512:T:=t
theorem tw3120133295221510679:T:=t
theorem tw3143785405151724282:T:=t
theorem tw314455870634268127:T:=t
theorem tw3195522803047326042:T:=t
theorem tw3207569582813703071:T:=t
theorem tw3217022616335106338:T:=t
theorem tw3254097082911018636:T:=t
theorem tw3331421620988305804:T:=t
theorem tw3337584539547039419:T:=t
theorem tw3357215229441099570:T:=t
theorem tw3378803678994701225:T:=t
theorem tw342308947776675178:T:=t
theorem tw3453223234828964814:T:=t
theorem tw3474246075231452896:T:=t
theorem tw3479634599624807885:T:=t
theorem tw3486219094355674750:T:=t
theorem tw350670483859837877:T:=t
theorem tw352232786441526191:T:=t
theorem tw3548060758652744671:T:=t
theorem tw3561193834555079511:T:=t
theorem tw3567177698169325468:T:=t
theorem tw3570499242123996262:T:=t
theorem tw3581848524822189991:T:=t
theorem tw3644161924160858147:T:=t
theorem tw3664424711883983056:T:=t
theorem tw3669314199184481253:T:=t
theorem tw3686270052255827929:T:=t
theorem tw3696473221133414273:T:=t
theorem tw3704924817259034979:T:=t
theorem tw370947364307004932:T:=t
theorem tw3715792687998586317:T:=t
theorem tw372964977893139469:T:=t
theorem tw3730354652608582461:T:=t
theorem tw3739144386018749749:T:=t
theorem tw3767615275625035234:T:=t
theorem tw3776753064480771068:T:=t
theorem tw3796891538752321733:T:=t
theorem tw381845443943030031:T:=t
theorem tw3820434133910038737:T:=t
theorem tw3831216023754155268:T:=t
theorem tw3846862658102513837:T:=t
theorem tw3874152929960365753:T:=t
theorem tw390997316461189296:T:=t
theorem tw3969286963782609292:T:=t
theorem tw3976154599441133093:T:=t
theorem tw3995942328266245912:T:=t
theorem tw4002441696211005659:T:=t
theorem tw4010397242664982755:T:=t
theorem tw401921906979044612:T:=t
theorem tw4046864289407762814:T:=t
theorem tw4047667213573674445:T:=t
theorem tw4058662728301269685:T:=t
theorem tw4076138812419527698:T:=t
theorem tw4134505453457115739:T:=t
theorem tw4158126171336067921:T:=t
theorem tw4159251561096739476:T:=t
theorem tw4166218997396506358:T:=t
theorem tw4177254973167742082:T:=t
theorem tw4193201676641898369:T:=t
theorem tw4213018616267185653:T:=t
theorem tw4232285709927190386:T:=t
theorem tw4250876409542091131:T:=t
theorem tw4250950275838387964:T:=t
theorem tw427420600052151026:T:=t
theorem tw4292522238394942308:T:=t
theorem tw4299629679881509495:T:=t
theorem tw4321519831107876412:T:=t
theorem tw4331257952254489624:T:=t
theorem tw4383139521930768336:T:=t
theorem tw4392038535549328194:T:=t
theorem tw4468942710605802240:T:=t
theorem tw4498253355057717688:T:=t
theorem tw4547018644641229820:T:=t
theorem tw4551080515912023512:T:=t
theorem tw4555866861457887817:T:=t
theorem tw4571971715460732019:T:=t
theorem tw4597200072644226624:T:=t
theorem tw4655869559712951663:T:=t
theorem tw4671429814451907529:T:=t
theorem tw4691186174975459493:T:=t
theorem tw46980244435833615:T:=t
theorem tw4699463449715708850:T:=t
theorem tw47109162367338493:T:=t
theorem tw4713442408853163898:T:=t
theorem tw4736427724481360342:T:=t
theorem tw4773702212245658779:T:=t
theorem tw4784893810139332661:T:=t
theorem tw4791253341166991637:T:=t
theorem tw4807692442873511580:T:=t
theorem tw4828031223510198475:T:=t
theorem tw4835499133494076262:T:=t
theorem tw4859757453598101857:T:=t
theorem tw4889993521063298876:T:=t
theorem tw4916261283513009128:T:=t
theorem tw4940147422707163885:T:=t
theorem tw4951766788466123468:T:=t
theorem tw5058314954733539658:T:=t
theorem tw5088376156974544275:T:=t
theorem tw5105846836358774362:T:=t
theorem tw5155950481276406077:T:=t
theorem tw5156246054561092756:T:=t
theorem tw516228168201391017:T:=t
theorem tw517144808224063464:T:=t
theorem tw5186518429493523239:T:=t
theorem tw5196900775432865589:T:=t
theorem tw5225153198818245361:T:=t
theorem tw5225916559131626549:T:=t
theorem tw5235370132326077648:T:=t
theorem tw5240389563564037448:T:=t
theorem tw5240762971458559404:T:=t
theorem tw5244899138074338376:T:=t
theorem tw5245862010334584759:T:=t
theorem tw5278709424875269971:T:=t
theorem tw5303079699428457377:T:=t
theorem tw53344730913325255:T:=t
theorem tw5341934141677670832:T:=t
theorem tw5398424786039705171:T:=t
theorem tw5476889619067714990:T:=t
theorem tw5483185372664623402:T:=t
theorem tw5507162329139097715:T:=t
theorem tw5513142621748847562:T:=t
theorem tw5523086135645875356:T:=t
theorem tw5581607755468803823:T:=t
theorem tw5590232498371695878:T:=t
theorem tw5596365628329696591:T:=t
theorem tw5597187220613765494:T:=t
theorem tw5609151216138764652:T:=t
theorem tw5647976800219259906:T:=t
theorem tw5648408011753718230:T:=t
theorem tw5667650583090716360:T:=t
theorem tw5702910450625016506:T:=t
theorem tw5728218623943512802:T:=t
theorem tw5738303106652476479:T:=t
theorem tw575894324575664597:T:=t
theorem tw5766051744304087583:T:=t
theorem tw5790966258338625528:T:=t
theorem tw5868845118606482295:T:=t
theorem tw5889316905344633881:T:=t
theorem tw5915399644114372684:T:=t
theorem tw5938664839603501006:T:=t
theorem tw594810645892935528:T:=t
theorem tw5969682004907312646:T:=t
theorem tw5970215366352900667:T:=t
theorem tw598176504601604073:T:=t
theorem tw5983031951866500094:T:=t
theorem tw602653604445443664:T:=t
theorem tw6042063481754889096:T:=t
theorem tw6043657780237489720:T:=t
theorem tw6102558586747877343:T:=t
theorem tw6124053682588569230:T:=t
theorem tw6127594578889010139:T:=t
theorem tw6143595290313323761:T:=t
theorem tw6176384092110617959:T:=t
theorem tw6187478851450931391:T:=t
theorem tw6196800358849779857:T:=t
theorem tw6203543418390704334:T:=t
theorem tw6211089042160764376:T:=t
theorem tw6240723676877644813:T:=t
theorem tw6265701101103706036:T:=t
theorem tw6286779285267259847:T:=t
theorem tw6287420888163001789:T:=t
theorem tw6292954644110606532:T:=t
theorem tw6381231289166406305:T:=t
theorem tw6383614241601562808:T:=t
theorem tw6388654656322651781:T:=t
theorem tw6430265229019958763:T:=t
theorem tw6431110157172167083:T:=t
theorem tw6438537300738474071:T:=t
theorem tw6459276657848829223:T:=t
theorem tw6468107147075657394:T:=t
theorem tw6491118196486620199:T:=t
theorem tw649594095290182367:T:=t
theorem tw6503730183909636620:T:=t
theorem tw6505410396798821541:T:=t
theorem tw6520327441239513222:T:=t
theorem tw657111498738832265:T:=t
theorem tw6572447435987645144:T:=t
theorem tw6583040956863952856:T:=t
theorem tw661290744650703789:T:=t
theorem tw6623532728838073528:T:=t
theorem tw6624316729101989866:T:=t
theorem tw6659320528611288953:T:=t
theorem tw6662652255960138227:T:=t
theorem tw6664487174759623829:T:=t
theorem tw6674990990233134667:T:=t
theorem tw668136137496459709:T:=t
theorem tw6694047246710070196:T:=t
theorem tw672699306608606093:T:=t
theorem tw6733462575251390621:T:=t
theorem tw6746510453823603384:T:=t
theorem tw6749217079512962374:T:=t
theorem tw6756851087969907010:T:=t
theorem tw6786057226368545225:T:=t
theorem tw681777741448182936:T:=t
theorem tw6859976401760118174:T:=t
theorem tw6883741973766446791:T:=t
theorem tw6885214360128481674:T:=t
theorem tw6893477703608230032:T:=t
theorem tw6898770573198911631:T:=t
theorem tw6906291655842520137:T:=t
theorem tw6912233166142098652:T:=t
theorem tw6930518751129746686:T:=t
theorem tw6973401727384321114:T:=t
theorem tw7008692893051332821:T:=t
theorem tw7033079012710635876:T:=t
theorem tw705360758644809490:T:=t
theorem tw7059692629156357883:T:=t
theorem tw7069510175615937415:T:=t
theorem tw708234853630380328:T:=t
theorem tw7092665756404751892:T:=t
theorem tw7198060816514059695:T:=t
theorem tw7204493036743257322:T:=t
theorem tw7204998973626084599:T:=t
theorem tw7213333562754528385:T:=t
theorem tw72247145696351765:T:=t
theorem tw7250933059871147345:T:=t
theorem tw728428047077509346:T:=t
theorem tw729201693064108563:T:=t
theorem tw7297446738713254254:T:=t
theorem tw7313339093194340965:T:=t
theorem tw7325726471975496349:T:=t
theorem tw7386116660499605909:T:=t
theorem tw7414872774492366064:T:=t
theorem tw7429413206186439793:T:=t
theorem tw7439886461454727182:T:=t
theorem tw7458633546980236471:T:=t
theorem tw7475746777092488413:T:=t
theorem tw7522852383072776753:T:=t
theorem tw7527032243904285869:T:=t
theorem tw7538252964068480738:T:=t
theorem tw7600245330811189008:T:=t
theorem tw76412952228603488:T:=t
theorem tw7657828476027519975:T:=t
theorem tw7671549972530922468:T:=t
theorem tw7673058066778466091:T:=t
theorem tw7715697345341360870:T:=t
theorem tw7717162694582976202:T:=t
theorem tw7737320934136571279:T:=t
theorem tw7743179893348639699:T:=t
theorem tw7744093853086628109:T:=t
theorem tw775762912060472103:T:=t
theorem tw7799483888651840948:T:=t
theorem tw7830913209206220567:T:=t
theorem tw7845129631348957993:T:=t
theorem tw7847352863974893604:T:=t
theorem tw7855079511596107753:T:=t
theorem tw788273225186049534:T:=t
theorem tw7913636548009798097:T:=t
theorem tw795583310449317561:T:=t
theorem tw7973188991228987537:T:=t
theorem tw7990429038631628895:T:=t
theorem tw8025738503920905074:T:=t
theorem tw8043003576528973991:T:=t
theorem tw8054331753737935190:T:=t
theorem tw8069049012094873728:T:=t
theorem tw8107780213005350392:T:=t
theorem tw8139039716903228087:T:=t
theorem tw814325599930780420:T:=t
theorem tw8143265674769528471:T:=t
theorem tw8146399340996573465:T:=t
theorem tw8148004212497801138:T:=t
theorem tw8159302507568227503:T:=t
theorem tw8170299122808406783:T:=t
theorem tw81815255157605957:T:=t
theorem tw8184561461823581802:T:=t
theorem tw8204474986945543665:T:=t
theorem tw8237333600419904120:T:=t
theorem tw8265311939077410998:T:=t
theorem tw8281120267493503204:T:=t
theorem tw8297286125493194097:T:=t
theorem tw8321918168302905379:T:=t
theorem tw83393220934416808:T:=t
theorem tw8345894832289464959:T:=t
theorem tw8363718466572441477:T:=t
theorem tw8374938949443298174:T:=t
theorem tw8393700709775954928:T:=t
theorem tw8410488445778877200:T:=t
theorem tw84136930442132756:T:=t
theorem tw8443935842833279946:T:=t
theorem tw8455645898260960030:T:=t
theorem tw8472579005086612782:T:=t
theorem tw8507776931139520737:T:=t
theorem tw8531415777343470585:T:=t
theorem tw8538268897159353584:T:=t
theorem tw8547604310838440241:T:=t
theorem tw8560541052185303311:T:=t
theorem tw859137505422859605:T:=t
theorem tw860223938195835975:T:=t
theorem tw8620165645458168473:T:=t
theorem tw8622502720953521162:T:=t
theorem tw8637452081102412489:T:=t
theorem tw8640399195822439974:T:=t
theorem tw8645369167282567922:T:=t
theorem tw864819663365544661:T:=t
theorem tw8657480035899644758:T:=t
theorem tw8672883130414831044:T:=t
theorem tw8679839319945467846:T:=t
theorem tw8693662901424576113:T:=t
theorem tw8694864300669457046:T:=t
theorem tw8729362747519067210:T:=t
theorem tw8735323631387419056:T:=t
theorem tw877433047237710547:T:=t
theorem tw8800459187187324500:T:=t
theorem tw8810280945414196856:T:=t
theorem tw8813761850579938390:T:=t
theorem tw8817415213059835157:T:=t
theorem tw8823455108540655025:T:=t
theorem tw8874702517807110003:T:=t
theorem tw887695700811335699:T:=t
theorem tw8892184565913893157:T:=t
theorem tw8941264354851200702:T:=t
theorem tw8968299171318014206:T:=t
theorem tw8973803690348224638:T:=t
theorem tw8985709366574770022:T:=t
theorem tw8999917154711486175:T:=t
theorem tw9016798869158615873:T:=t
theorem tw9059672392935016618:T:=t
theorem tw9059832203979395877:T:=t
theorem tw9063741608606530840:T:=t
theorem tw908825868028484722:T:=t
theorem tw9149571693438533347:T:=t
theorem tw9152664641465651067:T:=t
theorem tw9165953624949470791:T:=t
theorem tw9166809390415177425:T:=t
theorem tw9178861053002065721:T:=t
theorem tw9227057690007400460:T:=t
theorem tw9227541089923242437:T:=t
theorem tw9229161468869434483:T:=t
theorem tw9233335307524088747:T:=t
theorem tw9238823003894178615:T:=t
theorem tw9272544492142499777:T:=t
theorem tw9305691244287143441:T:=t
theorem tw9326722878772556681:T:=t
theorem tw9328819404386307858:T:=t
theorem tw9332579688445097367:T:=t
theorem tw9335426496214029073:T:=t
theorem tw9361663168868926718:T:=t
theorem tw9366391650621772374:T:=t
theorem tw9378254376102152143:T:=t
theorem tw9407396174263392564:T:=t
theorem tw9442318146202087700:T:=t
theorem tw9503340733035011235:T:=t
theorem tw9516688046558066552:T:=t
theorem tw953821971998124167:T:=t
theorem tw956089473029861405:T:=t
theorem tw956942650209027819:T:=t
theorem tw9576743257966636567:T:=t
theorem tw9589608677651300831:T:=t
theorem tw9590735534726013551:T:=t
theorem tw9601329371697537090:T:=t
theorem tw9614876229902214918:T:=t
theorem tw9631074621892390191:T:=t
theorem tw9685713192446186341:T:=t
theorem tw9723989250521069032:T:=t
theorem tw9739860059890490050:T:=t
theorem tw9743097575036673082:T:=t
theorem tw9759319705405543751:T:=t
theorem tw9768079942903668216:T:=t
theorem tw9800703332001039478:T:=t
theorem tw9833397302626899308:T:=t
theorem tw9843447840031818808:T:=t
theorem tw9843949296442739443:T:=t
theorem tw984902984118615328:T:=t
theorem tw9851269098105209369:T:=t
theorem tw987869383939708018:T:=t
theorem tw9913501989792142831:T:=t
theorem tw9919435345466941130:T:=t
theorem tw9951221954081769418:T:=t
theorem tw995497684801637723:T:=t
theorem tw9961057766049560675:T:=t
theorem tw9962302188120564619:T:=t
theorem tw9990226795618131978:T:=t
end Mine.top
open PySem PySem.W PyProof.Rows
set_option Elab.async true
namespace Mine
theorem top:PySem.Challenge.rw_ov0016_01.Holds:=by
 w_on
 o_law
 k_head
 case hw=>w_witness2
 k_fill
 intro w s₀ s₁ mg mb G Y fa o pm cd doc dV kV ho hd hcd hD hmg hg args vals as hpre hlay hrd hwl hlo
 have KX:=kIn_of Y
 have V:=(Ground.X G).2
 have GL:=glob_more (Ground.glob G (by first|k_qdec|decide+kernel) (by first|k_qdec|decide+kernel)) V
 refine Ground.open G ?_
 intro T B D TE TW
 clear ho hd hcd hD
 wrow_args hpre hlay hrd hwl hlo
 rename_i is _ _ _ _ _ _ _ a items _ hL _ _ _ hi _ hlen _
 refine enter_call ?_
 refine Mine.Internal.PC ⟨by kernel_rfl,by kernel_rfl,by kernel_rfl,by kernel_rfl,by kernel_rfl,by kernel_rfl,by kernel_rfl,by kernel_rfl,by kernel_rfl,by kernel_rfl,by kernel_rfl,by kernel_rfl,by kernel_rfl,by kernel_rfl,by kernel_rfl,by kernel_rfl⟩ KX GL.g GL.b GL.builtins GL.nolimit GL.seer hmg hL hi (by omega) λh' tk hk=>GoodW.toG ⟨.inl ⟨.bool true,.bool true,[],rfl,?_,.bool true,?_,?_⟩,hk,rfl,hg⟩
 ·intro _;rfl
 ·wrow_post
 ·exact unshared_nil
end Mine
theorem PySem.Challenge.cw_ov0016_01_holds : PySem.Challenge.rw_ov0016_01.Holds :=
  Mine.top
