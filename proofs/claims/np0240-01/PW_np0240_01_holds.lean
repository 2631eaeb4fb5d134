import PyProof.Rows.All
import Wide.All
import OpenK.AllK
import Wide.FinOn
import KE.KLam
import KE.KNestM
import KE.KIntText
import PyProof.StrLawsLast
import PyProof.Rows.StrAscii
import PySem.Challenge.RW_np0240_01
set_option Elab.async false
set_option linter.all false
set_option linter.unusedVariables false
set_option maxRecDepth 100000
set_option genSizeOf false
set_option genInjectivity false
set_option genCtorIdx false
set_option backward.match.sparseCases false
open Array renaming length_toList->eK,toList_append->C7,toList_inj->Hq
open Bool renaming false_ne_true->aJ,rec->bE,not_eq_true'->dH,false_eq_true->eY,and_eq_true->fN,and_eq_true_iff->j8,or_true->nF,or_eq_true->nJ,false_or->qc,and_true->qd,true_or->rW,or_false->yX,eq_false_iff->Hp,true_and->QS
open Classical renaming em->Ho
open Eq renaming symm->cN
open Exists renaming imp->VV
open False renaming elim->bR
open ForInStep renaming yield->qZ
open Int renaming natCast_nonneg->bk,ofNat_le->bQ,lt_of_lt_of_le->e9,le_trans->fy,le_refl->f6,natCast_add->gx,ofNat_lt->jq,fmod_nonneg_of_pos->jt,toNat_natCast->mB,not_lt->qW,fmod_lt_of_pos->qX,add_sub_cancel->qY,add_zero->sS,max_eq_right->ue,sub_le_self->vM,lt_add_of_sub_right_lt->xB,add_nonneg->xC,eq_ofNat_of_zero_le->A9,add_comm->Bl,lt_iff_le_and_ne->Es,negSucc_lt_zero->GY,lt_of_le_of_lt->Hn,min_eq_left->PA,zero_add->WD,sub_zero->WE,lt_trans->WG
open List renaming mem_cons->aA,length_append->aF,length_map->aI,size_toArray->aM,append_nil->aT,getElem?_eq_some_iff->bb,mem_singleton->bj,cons_ne_nil->bl,append_assoc->bq,not_mem_nil->bt,all_eq_true->bw,mem_append_right->bP,getElem?_set_self->cq,mem_of_getElem?->cW,mem_append_left->cX,nodup_cons->cZ,mem_filter->c0,lookup_cons->c9,mem_map_of_mem->dc,filter_cons->dw,pairwise_cons->dS,map_cons->dY,mem_map->d6,length_cons->et,getElem?_eq_getElem->ez,eq_nil_of_length_eq_zero->eB,map_map->eQ,getElem?_append_left->fk,map_reverse->fM,set_set->fW,contains_iff_mem->gz,length_reverse->ib,map->iw,any_cons->ix,map_nil->jf,getElem?_map->jg,range->jR,mem_reverse->jS,getElem?_set_ne->j7,mem_append->kA,find?_cons->kB,replicate->lu,getElem?_append_right->ly,take->mZ,take_of_length_le->nC,of_mem_zip->nH,length_set->nI,set_append_right->og,getElem?_eq_none->oh,take_left->oT,drop->pk,toList_toArray->pT,find?->qR,reverse_cons->rU,mk_mem_zipIdx_iff_getElem?->sR,any_eq_true->tp,length->ud,nil_append->vz,map_append->vA,mem_range->wm,drop_eq_getElem_cons->xA,length_filterMap_le->yW,pairwise_singleton->y6,lookup_eq_some_iff->y7,find?_cons_of_pos->A8,length_filter_le->Bi,getElem?_toArray->Bj,length_pos_iff->Er,map_inj_left->Hj,getElem?_inj->Hk,foldl_append->Hl,length_take->LY,getElem_mem->LZ,drop_length->L4,cons->L5,any_toArray->L6,length_nil->Ml,forIn_cons->Mm,drop_zero->Py,Mem->Pz,toArray->VU,map_id->WB,lookup->WC
open List.Mem renaming head->Hm
open Nat renaming le_trans->aa,le_refl->ab,le_of_ble_eq_true->ae,add_le_add_left->ag,le_add_right->ak,le_add_left->aq,le_max_right->az,le_max_left->aC,add_le_add_right->aE,add_le_add->aG,mul_le_mul_left->aK,beq->aL,lt_of_le_of_lt->aQ,le_of_succ_le_succ->aR,ble->aV,add_comm->aW,add_assoc->bh,le_of_eq->bu,succ_le_succ->bA,zero_le->bC,sub_add_cancel->bL,zero_add->bM,ne_of_lt->bO,ble_eq_true_of_le->bT,max_le->bV,lt_of_succ_lt->cu,le_of_succ_le->cv,le_of_lt->cF,eq_of_beq_eq_true->df,le_of_add_right_le->dB,le_succ_of_le->dM,lt_succ_self->dU,le_succ->dW,mul_add->d9,lt_of_lt_of_le->eu,add_right_comm->ew,not_succ_le_zero->eF,le_mul_of_pos_left->eR,not_lt_zero->gw,lt_trans->g0,one_mul->iY,lt_add_of_pos_right->iZ,sub_pos_of_lt->jn,blt->jo,succ_ne_zero->jV,mul_le_mul_right->kg,lt_or_ge->k8,ne_of_gt->nG,max_eq_left->n9,le_antisymm->oe,sub_eq_zero_of_le->oN,add_mul->pj,sub_lt_sub_left->pY,max_assoc->qQ,succ_pos->sL,succ->sN,sub_self->sP,max_comm->sQ,lt_of_not_le->uc,mul_one->vy,min_eq_left->vL,lt_irrefl->y5,zero_mul->Bg,lt_of_succ_lt_succ->Bh,le_of_sub_eq_zero->C6,pow_le_pow_right->Eo,add_add_add_comm->Ep,add_sub_cancel'->GX,eq_zero_or_pos->Hh,lt_succ_of_le->LW,le_of_lt_succ->LX,zero_lt_succ->Mh,min_le_right->Mi,min_eq_right->Mj,max_eq_right->Mk,le_total->WA
open Nat.succ renaming inj->j6
open Ne renaming symm->bY
open Option renaming some_ne_none->ay,some->aH,isSome_iff_exists->en,map_eq_some_iff->eN,none->lJ,map_some->ni,map_none->tl,elim_some->GV,elim_none->GW,map->VT
open Option.some renaming inj->ar
open Prod renaming mk->bz
open Prod.mk renaming inj->aN,injEq->LV
open PyProof.Rows renaming slot_tuple_getitem->e8,subscriptTail->fe,assign_Name->rT,Subscript_->ub
open PySem renaming Value->aj,wpAny_bind->au,Shared->aw,wpAny_pure->aO,Addr->aZ,wpAny_execs_cons->ba,Around->b9,DictEntry->cw,Builtin->cy,starEach->cM,plainObj_wpAny_Assign_Attribute->dr,mainGlobals->dA,NameKind->dC,wpAny_mono->ed,PyData->ef,eval->ei,wpAny_items_cons->eE,Heap->eO,sizeLine_eq->fg,Scope->fq,cellsFrom->fG,wpAny_loadName_local->fH,strKind_is->gA,backTo->gB,wpAny_items_nil->gI,wpAny_holding->gP,assign->iI,wpAny_execs_nil->jc,importedModules->jd,Program->je,wpAny_Constant_int->jm,compareOp->jE,wpAny_newObj_type->jT,recursionLimit->jU,treeTable->kH,truthy->kI,swapsWith->mA,bindArgs->mC,wpAny_truthy_bool->nt,wpAny_field->nv,valueAt->nz,World->nB,model->oK,wpAny_Assign_Subscript->pb,letOwnedTupleGo->pS,wpAny_isTrue_Compare1->pW,Stmt->pX,callWith->qT,Arguments->rX,list_getitem_lookup->sH,evalPart_some->tg,evalPart_none->ti,attributeBase->tj,wpAny_Name->tZ,wpAny_Constant_str->t8,typeIs_str->t9,wpAny_typeOf->vI,wpAny_Return_some->vJ,wpAny_call_entry->xx,wpAny_Dict_empty->xy,wpAny_getItem_list_slice->Em,call->En,wpAny_getItem_str_slice->GT,wpAny_callSpecial?_slot->GU
open PySem.Around renaming frames_deeper->oi
open PySem.BindsTo renaming of_eq->vO
open PySem.Builtin renaming divisionGoesByPylong->sT
open PySem.Builtin.Int renaming intBits->wo
open PySem.Builtin.List renaming listSubscript?->qb,listItems->tA
open PySem.Builtin.Range renaming rangeFitsLong->pU,rangeSize->rV,small->vB
open PySem.Builtin.Slice renaming slicePlaces->gq,sliceAdjust->jW,sliceApplied->qa,sliceFields->WI
open PySem.Builtin.Tuple renaming tupleExact->gC,tupleIsExact->pZ,tupleItemsOf->WH
open PySem.Challenge renaming rw_np0240_01->cc,pw_np0240_01->iL
open PySem.Code renaming builtin->nE
open PySem.Data renaming cell->tw
open PySem.F renaming cmp_object->ph,slot_list_delitem->vw,slot_str_getitem->vK,slot_str_eq->A7
open PySem.Heap renaming get?_push_size->fJ,lt_size->f7,SameBut->jh,get?_push_of_some->nD,size_push->oU,IsSliceOf->oV
open PySem.Heap.IsSliceOf renaming new->jF
open PySem.NameKind renaming free->dF,cell->Hi
open PySem.NumText renaming digitsVal->Wz
open PySem.PyData renaming keyHash->bg,int->C5
open PySem.SeqAt renaming EqAt->k7,RcNeAt->QR
open PySem.Str renaming ofString->af,length->qU
open PySem.StrLaws renaming At->QQ
open PySem.Txt renaming rfind->lr,isdigit->pg
open PySem.Unicode renaming isDigit->sJ
open PySem.Value renaming ref->fj,isStr->gJ,isStrOf_shape->pe,type->Wy
open PySem.W renaming dictOf->aU,getL->cj,findIn->fO,instObj->iC,boot_heap->iD,putN->iJ,putL->iK,listOf->kJ,hideAll->lU,SharedT->lV,takerIn->nA,hasDictIn->oM,tabObj->qS,get_own->rS,boot_drawn->ua,dictOf->y4,InstAt->Hf,InstAt->Hg
open PySem.W.InstAt renaming of_news->cp,of_news->lR
open PySem.W.Looks renaming of_pure->Px
namespace Mine
open PySem PySem.W
theorem Gk{p:Prop}(h:∀G:Prop,(p->G)->G):p:=h p id
inductive Cl|Var|Lit|App|iu|Let|Alt|Case|o9|Prim|il(u:Unit:=())
inductive Fd|kind|alts|args|binds|body|fresh|fun|bB(u:Unit:=())|yb|pI|key|many|name|names|op|other|params|value|dD|bU
inductive Me|groups|inner|leaf|kQ|next|note|parts|gr|run(u:Unit:=())
inductive Bo|add|sub|mul|fdiv|mod|pow(u:Unit:=())
inductive Co|eq|ne|lt|le|gt|ge|isin|zB(u:Unit:=())
inductive B1|len|list|dict|sorted|toInt|toStr|all|any(u:Unit:=())
inductive B2|mn|mx(u:Unit:=())
inductive Ik|of|range(p q:Pos)|rev(p q:Pos)
noncomputable def Cl.n:Cl->Nat
 |.Var=>0|.Lit=>1|.App=>2|.iu=>3|.Let=>4|.Alt=>5|.Case=>6|.o9=>7|.Prim=>8|.il _=>9
noncomputable def Fd.n:Fd->Nat
 |.kind=>0|.alts=>1|.args=>2|.binds=>3|.body=>4|.fresh=>5|.fun=>6|.bB _=>7|.yb=>8|.pI=>9|.key=>10|.many=>11|.name=>12|.names=>13|.op=>14|.other=>15|.params=>16|.value=>17|.dD=>18|.bU=>19
inductive MV
 |none|bool(b:Bool)|int(z:Int)|str(s:Str)
 |tup(xs:List MV)|lst(xs:List MV)|bI(es:List (Str×MV))|g9(x:MV)
 |inst(c:Cl)(fs:List MV)|ref(i:Nat)|xj(k:Nat)(i:Nat)
noncomputable def MV.ctorIdx(t:MV):Nat:=@MV.casesOn (fun _=>Nat) t 0 (fun _=>1) (fun _=>2) (fun _=>3) (fun _=>4) (fun _=>5) (fun _=>6) (fun _=>7) (fun _ _=>8) (fun _=>9) (fun _ _=>10)
inductive MC
 |lst(xs:List MV)|fresh(bU dD:List (Str×MV))|uses(many:Int)(inf:Bool)|tab(n:Nat)
inductive Slot
 |un|fz(m:MV)|own(m:MV)
noncomputable def MC.ctorIdx(t:MC):Nat:=@MC.casesOn (fun _=>Nat) t (fun _=>0) (fun _ _=>1) (fun _ _=>2) (fun _=>3)
noncomputable def Slot.ctorIdx(t:Slot):Nat:=@Slot.casesOn (fun _=>Nat) t 0 (fun _=>1) (fun _=>2)
structure St where
 loc:List Slot
 mu:List MC
inductive X
 |nil|cons(x xs:X)
 |v(k:Nat)(p:Pos)|int(z:Nat)(p:Pos)|str(s:String)(p:Pos)|bool(b:Bool)(p:Pos)|Nv(p:Pos)|neg(z:Nat)(p q:Pos)
 |tup(xs:X)(p:Pos)|lst(xs:X)(p:Pos)|cell(xs:X)(p:Pos)|d0(p:Pos)|d1(k:String)(x:X)(p q:Pos)
 |fld(x:X)(f:Fd)(p:Pos)|call(f:Nat)(xs:X)(p q:Pos)|new(c:Cl)(xs:X)(p q:Pos)|l8(x:X)(p q:Pos)|oA(p q:Pos)|rule(x y:X)(p q:Pos)
 |kj(x:X)(m:Me)(xs:X)(p q:Pos)|xl(k:Nat)(x:X)(p q:Pos)
 |lM(k:Nat)(r p q:Pos)|b1(o:B1)(x:X)(p q:Pos)|b2(o:B2)(x y:X)(p q:Pos)|isin(x:X)(cs:List (Cl×Pos))(r p q:Pos)
 |F6(x k:X)(p q:Pos)|F5(x k z:X)(p q:Pos)|Gb(x:X)(f:Fd)(k:Nat)(z:Nat)(r s t p q:Pos)|fin(k x:X)(f:Fd)(p q:Pos)
 |rfind(x:X)(s:String)(r p q:Pos)|isdigit(x:X)(p q:Pos)|append(k:Nat)(x:X)(r p q:Pos)|pop(k:Nat)(r p q:Pos)
 |bin(o:Bo)(x y:X)(p:Pos)|cmp(o:Co)(x y:X)(p:Pos)|isNone(x:X)(r p:Pos)
 |and(xs:X)(p:Pos)|or(xs:X)(p:Pos)|not(x:X)(p:Pos)|ite(c a b:X)(p:Pos)
 |sub(x i:X)(p:Pos)|dP(k:Nat)(i:X)(r p:Pos)|Rw(x lo:X)(r p:Pos)|ur(k:Nat)(lo:X)(r s p:Pos)|sX(k:Nat)(hi:X)(r s p:Pos)
 |comp(e:X)(ks:List (Nat×Pos))(r:Pos)(ik:Ik)(it cs:X)(sc:fq)(p:Pos)
inductive Ss
 |nil
 |asg(k:Nat)(x:X)(p q:Pos)(r:Ss)|wd(ks:List (Nat×Pos))(x:X)(p q:Pos)(r:Ss)|n7(ks:List (Nat×Pos))(xs:X)(p o q:Pos)(r:Ss)
 |nk(k:Nat)(i x:X)(p o q:Pos)(r:Ss)|zh(x:X)(f:Fd)(i v:X)(p o q:Pos)(r:Ss)|EN(x:X)(f:Fd)(v:X)(p q:Pos)(r:Ss)
 |AY(k:Nat)(x:X)(p q:Pos)(r:Ss)|GP(x:X)(f:Fd)(v:X)(p q:Pos)(r:Ss)|g9(k:Nat)(i x c y:X)(p1 p2 p3 p4 p5 q:Pos)(r:Ss)
 |ret(x:X)(q:Pos)(r:Ss)|iE(k:Nat)(p q:Pos)(r:Ss)|gU(c:X)(a b:Ss)(q:Pos)(r:Ss)|Et(c:X)(b:Ss)(q:Pos)(r:Ss)
 |fr(ks:List (Nat×Pos))(p:Pos)(ik:Ik)(it:X)(b:Ss)(q:Pos)(r:Ss)|cont(q:Pos)(r:Ss)|del(k:Nat)(lo:X)(p1 p2 p3 q:Pos)(r:Ss)|ex(x:X)(q:Pos)(r:Ss)
inductive Fl
 |Dv|cont|ret(b:Bool)(m:MV)
noncomputable def Fl.ctorIdx(t:Fl):Nat:=@Fl.casesOn (fun _=>Nat) t 0 1 (fun _ _=>2)
noncomputable def b8:Nat:=8388608
noncomputable def i0(b:Bool)(A B:Prop):Prop:=@bE (fun _=>Prop) B A b
noncomputable def gd(b:Bool)(A:Prop):Prop:=@bE (fun _=>Prop) False A b
noncomputable def mM{α:Type}(o:Option α)(A:α->Prop)(B:Prop):Prop:=@Option.rec α (fun _=>Prop) B A o
noncomputable def sq(a b:Str):Bool:=decide (a=b)
noncomputable def br(es:List (Str×MV))(k:Str)(v:MV):List (Str×MV):=
 match es with
 |[]=>[(k,v)]
 |(k',v')::r=>@bE (fun _=>List (Str×MV)) ((k',v')::br r k v) ((k',v)::r) (sq k' k)
noncomputable def cf(es:List (Str×MV))(k:Str):Option MV:=
 match es with
 |[]=>lJ
 |(k',v')::r=>@bE (fun _=>Option MV) (cf r k) (some v') (sq k' k)
noncomputable def gp(es:List (Str×MV))(k:Str):Bool:=(cf es k).isSome
noncomputable def fT(es:List (Str×MV)):MV->MV
 |.g9 x=>.tup [x,.bI es]
 |v=>v
noncomputable def bX(es:List (Str×MV)):List (Str×MV):=es.map fun p=>(p.1,fT es p.2)
noncomputable def fieldsOf:Cl->List Fd
 |.Var=>[.name]|.Lit=>[.kind,.value]|.App=>[.fun,.args]|.iu=>[.params,.body]|.Let=>[.binds,.body,.pI]
 |.Alt=>[.key,.names,.body]|.Case=>[.value,.name,.alts,.other]|.o9=>[.name,.args]|.Prim=>[.op,.args]|.il _=>[.fresh,.yb]
noncomputable def fAt(f:Nat):List Fd->List MV->(MV->Prop)->Prop
 |g::gs,m::ms,Q=>i0 (aL g.n f) (Q m) (fAt f gs ms Q)
 |_,_,_=>False
noncomputable def sY(z:Int)(Q:Nat->Prop):Prop:=match z with|.ofNat n=>Q n|_=>False
noncomputable def eU(m:MV)(P:Int->Prop):Prop:=match m with|.int z=>P z|_=>False
noncomputable def kK(m:MV)(P:Str->Prop):Prop:=match m with|.str s=>P s|_=>False
noncomputable def AC(m:MV)(P:Bool->Prop):Prop:=match m with|.bool b=>P b|_=>False
noncomputable def rz(m:MV)(P:List MV->Prop):Prop:=match m with|.lst xs=>P xs|_=>False
noncomputable def EB(m:MV)(P:List MV->Prop):Prop:=match m with|.tup xs=>P xs|_=>False
noncomputable def vb(m:MV)(P:List (Str×MV)->Prop):Prop:=match m with|.bI es=>P es|_=>False
noncomputable def rt(m:MV)(P:Nat->Prop):Prop:=match m with|.ref i=>P i|_=>False
noncomputable def instW(m:MV)(P:Cl->List MV->Prop):Prop:=match m with|.inst c fs=>P c fs|_=>False
noncomputable def SK(xs:List MV)(P:Prop):Prop:=match xs with|[]=>P|_=>False
noncomputable def XQ(xs:List (Str×MV))(P:Prop):Prop:=match xs with|[]=>P|_=>False
noncomputable def vm(a b:MV)(Q:Bool->Prop):Prop:=match a with
 |.str s=>(match b with|.str t=>Q (sq s t)|.int _=>Q false|_=>False)
 |.int x=>(match b with|.int y=>Q (decide (x=y))|.str _=>Q false|_=>False)
 |_=>False
noncomputable def Da:List MV->List MV->(Bool->Prop)->Prop
 |[],ys,Q=>Q ys.isEmpty
 |x::xs,ys,Q=>match ys with|[]=>Q false|y::ys=>vm x y fun b=>Da xs ys fun r=>Q (b&&r)
noncomputable def eqW(a b:MV)(Q:Bool->Prop):Prop:=match a with
 |.tup xs=>EB b fun ys=>Da xs ys Q
 |.lst xs=>rz b fun ys=>SK ys (Q xs.isEmpty)
 |.bI es=>vb b fun ds=>XQ ds (Q es.isEmpty)
 |.inst _ _=>kK b fun _=>Q false
 |a=>vm a b Q
noncomputable def neW(a b:MV)(Q:Bool->Prop):Prop:=match a with
 |.lst xs=>rz b fun ys=>SK ys (Q !xs.isEmpty)
 |a=>vm a b fun r=>Q !r
noncomputable def inW(x:MV):List MV->(Bool->Prop)->Prop
 |[],Q=>Q false
 |y::ys,Q=>vm y x fun b=>inW x ys fun r=>Q (b||r)
noncomputable def Jv(a b:MV)(Q:Bool->Prop):Prop:=match b with
 |.bI es=>kK a fun k=>Q (gp es k)
 |.lst xs=>inW a xs Q
 |_=>False
noncomputable def G0(m:MV)(Q:Bool->Prop):Prop:=match m with
 |.none=>Q false
 |.bool b=>Q b
 |.int z=>Q (z !=0)
 |.lst a=>gd (aV a.length b8) (Q !a.isEmpty)
 |_=>False
noncomputable def r5(a b:Int):Bool:=b==0||b==1||(decide (a.natAbs<2^64)&&decide (b.natAbs<2^64))
noncomputable def addW(a b:MV)(Q:Bool->MV->Prop):Prop:=match a with
 |.int x=>eU b fun y=>Q false (.int (x+y))
 |.lst xs=>rz b fun ys=>gd (aV (xs.length+ys.length) b8) (Q true (.lst (xs++ys)))
 |.str x=>kK b fun y=>gd (aV (x.length+y.length) 1000) (Q false (.str (x++y)))
 |_=>False
noncomputable def Pa(o:Bo)(a b:MV)(Q:Bool->MV->Prop):Prop:=match o with
 |.add=>addW a b Q
 |.sub=>eU a fun x=>eU b fun y=>Q false (.int (x-y))
 |.mul=>eU a fun x=>eU b fun y=>gd (r5 x y) (Q false (.int (x*y)))
 |.fdiv=>eU a fun x=>eU b fun y=>gd (!decide (y=0)&&decide (y.natAbs<2^64)) (Q false (.int (x.fdiv y)))
 |.mod=>eU a fun x=>eU b fun y=>gd (!decide (y=0)) (Q false (.int (x.fmod y)))
 |.pow _=>eU a fun x=>eU b fun y=>gd (decide (x=10)&&decide (y=18)) (Q false (.int (10^18)))
noncomputable def CF(o:Co)(a b:MV)(Q:Bool->Prop):Prop:=match o with
 |.eq=>eqW a b Q
 |.ne=>neW a b Q
 |.lt=>eU a fun x=>eU b fun y=>Q (decide (x<y))
 |.le=>eU a fun x=>eU b fun y=>Q (decide (x<=y))
 |.gt=>eU a fun x=>eU b fun y=>Q (decide (x>y))
 |.ge=>eU a fun x=>eU b fun y=>Q (decide (x>=y))
 |.isin=>Jv a b Q
 |.zB _=>Jv a b fun r=>Q !r
noncomputable def Cv:List MV->Nat->(MV->Prop)->Prop
 |[],_,_=>False
 |x::xs,n,Q=>match n with|0=>Q x|n+1=>Cv xs n Q
noncomputable def Cj(xs:List MV)(z:Int)(Q:MV->Prop):Prop:=gd (aV xs.length b8) (match z with
 |.ofNat n=>Cv xs n Q
 |.negSucc n=>gd (jo n xs.length) (Cv xs (xs.length-(n+1)) Q))
noncomputable def EE(a i:MV)(Q:MV->Prop):Prop:=match a with
 |.lst xs=>eU i fun z=>Cj xs z Q
 |.tup xs=>eU i fun z=>Cj xs z Q
 |.bI es=>kK i fun k=>mM (cf es k) (fun v=>Q (fT es v)) False
 |_=>False
noncomputable def rx(m:MV)(Q:MV->Prop):Prop:=match m with|.g9 _=>False|v=>Q v
noncomputable def Ri(a i:MV)(Q:MV->Prop):Prop:=match a with
 |.lst xs=>eU i fun z=>Cj xs z Q
 |.bI es=>kK i fun k=>mM (cf es k) (fun v=>rx v Q) False
 |_=>False
noncomputable def clamp(n:Nat)(z:Int):Nat:=match z with|.ofNat k=>min k n|.negSucc k=>n-(k+1)
noncomputable def ze(a i:MV)(Q:Bool->MV->Prop):Prop:=match a with
 |.lst xs=>eU i fun z=>gd (aV xs.length b8&&aV z.natAbs b8) (Q true (.lst (xs.drop (clamp xs.length z))))
 |.str s=>eU i fun z=>gd (aV s.length 1000) (sY z fun n=>gd (aV n s.cps.toList.length) (Q false (.str ⟨(s.cps.toList.drop n).toArray⟩)))
 |_=>False
noncomputable def HT(a i:MV)(Q:Bool->MV->Prop):Prop:=match a with
 |.lst xs=>eU i fun z=>gd (aV xs.length b8&&aV z.natAbs b8) (Q true (.lst (xs.take (clamp xs.length z))))
 |.tup xs=>eU i fun z=>gd (aV xs.length 1000) (sY z fun n=>gd (aV n b8) (Q false (.tup (xs.take n))))
 |.str s=>eU i fun z=>gd (aV s.length 1000) (sY z fun n=>gd (aV n s.cps.toList.length) (Q false (.str ⟨(s.cps.toList.take n).toArray⟩)))
 |_=>False
noncomputable def yE:List MV->(List Bool->Prop)->Prop
 |[],Q=>Q []
 |x::r,Q=>AC x fun b=>yE r fun bs=>Q (b::bs)
noncomputable def qh(a b:Str):Bool:=decide (a.cps.toList<=b.cps.toList)
noncomputable def yc(k:Str):List Str->List Str
 |[]=>[k]
 |x::xs=>@bE (fun _=>List Str) (x::yc k xs) (k::x::xs) (qh k x)
noncomputable def qi:List Str->List Str
 |[]=>[]
 |x::xs=>yc x (qi xs)
noncomputable def Wq(o:B1)(m:MV)(Q:Bool->MV->Prop):Prop:=match o with
 |.len=>rz m fun xs=>gd (aV xs.length b8) (Q false (.int xs.length))
 |.list=>rz m fun xs=>gd (aV xs.length b8) (Q true (.lst xs))
 |.dict=>vb m fun es=>gd (aV es.length b8) (Q true (.bI (bX es)))
 |.sorted=>vb m fun es=>gd (aV es.length 59) (Q true (.lst ((qi (es.map (·.1))).map .str)))
 |.toInt=>(match m with|.int a=>Q false (.int a)|.bool b=>Q false (.int (@bE (fun _=>Int) 0 1 b))|_=>False)
 |.toStr=>eU m fun a=>sY a fun n=>gd (jo n (10^18)) (Q false (.str (af (toString a))))
 |.all=>rz m fun xs=>yE xs fun bs=>Q false (.bool (bs.all id))
 |.any _=>rz m fun xs=>yE xs fun bs=>Q false (.bool (bs.any id))
noncomputable def b2W(o:B2)(a b:MV)(Q:Bool->MV->Prop):Prop:=eU a fun x=>eU b fun y=>match o with
 |.mn=>Q false (.int (if y<x then y else x))
 |.mx _=>Q false (.int (if y>x then y else x))
noncomputable def fE:Cl->Me->Option Nat
 |.Var,.groups=>some 0|.Var,.parts=>some 1|.Var,.gr=>some 2
 |.Lit,.groups=>some 3|.Lit,.parts=>some 4|.Lit,.gr=>some 5
 |.App,.groups=>some 6|.App,.parts=>some 7|.App,.gr=>some 8
 |.iu,.groups=>some 9|.iu,.parts=>some 10|.iu,.gr=>some 11
 |.Let,.groups=>some 12|.Let,.parts=>some 13|.Let,.gr=>some 14
 |.Case,.groups=>some 15|.Case,.parts=>some 16|.Case,.gr=>some 17
 |.o9,.groups=>some 18|.o9,.parts=>some 19|.o9,.gr=>some 20
 |.Prim,.groups=>some 21|.Prim,.parts=>some 22|.Prim,.gr=>some 23
 |.il _,.kQ=>some 27|.il _,.inner=>some 28|.il _,.leaf=>some 29|.il _,.run _=>some 30
 |_,_=>lJ
noncomputable def KV:MC->Me->Option Nat
 |.fresh ..,.next=>some 41
 |.uses ..,.note=>some 42
 |_,_=>lJ
noncomputable def OZ:List (Nat×Bool):=[(64,true),(65,true),(66,true),(67,true),(68,true),(35,false),(70,true),(33,false)]
noncomputable def jP(k:Nat):Option (Nat×Bool):=OZ[k]?
noncomputable def St.put(st:St)(k:Nat)(s:Slot):St:={st with loc:=st.loc.set k s}
noncomputable def slotAt(st:St)(k:Nat)(A B:MV->Prop):Prop:=match st.loc[k]? with
 |some (.own m)=>A m
 |some (.fz m)=>B m
 |_=>False
noncomputable def G2(st:St)(k:Nat)(Q:MV->St->Prop):Prop:=slotAt st k (fun m=>Q m (st.put k (.fz m))) fun m=>Q m st
noncomputable def cellAt(st:St)(i:Nat)(Q:MC->Prop):Prop:=mM st.mu[i]? Q False
noncomputable def Te(c:MC)(Q:List MV->Prop):Prop:=match c with|.lst xs=>Q xs|_=>False
noncomputable def u7(c:MC)(Q:List (Str×MV)->List (Str×MV)->Prop):Prop:=match c with|.fresh a n=>Q a n|_=>False
noncomputable def Rg(c:MC)(Q:Nat->Prop):Prop:=match c with|.tab n=>Q n|_=>False
noncomputable def uj(c:MC)(Q:Int->Bool->Prop):Prop:=match c with|.uses n b=>Q n b|_=>False
noncomputable def abv(st:St)(m:MV)(Q:MV->Prop):Prop:=match m with
 |.ref i=>cellAt st i fun c=>Te c fun xs=>Q (.lst xs)
 |m=>Q m
noncomputable def AA(st:St)(k:Nat)(A B:MV->Prop):Prop:=slotAt st k A fun m=>abv st m B
noncomputable def lL(b:Bool)(m:MV):Slot:=@bE (fun _=>Slot) (.fz m) (.own m) b
noncomputable def putAll:List (Nat×Pos)->List MV->St->(St->Prop)->Prop
 |[],[],st,Q=>Q st
 |k::ks,m::ms,st,Q=>putAll ks ms (st.put k.1 (.fz m)) Q
 |_,_,_,_=>False
noncomputable def kf(ks:List (Nat×Pos))(m:MV)(st:St)(Q:St->Prop):Prop:=match ks with
 |[k]=>Q (st.put k.1 (.fz m))
 |ks=>EB m fun ms=>putAll ks ms st Q
noncomputable def P7(ik:Ik)(m:MV)(Q:List MV->Prop):Prop:=match ik with
 |.of=>(match m with|.lst xs=>Q xs|.tup xs=>Q xs|.bI es=>Q (es.map fun p=>.str p.1)|_=>False)
 |.range _ _=>eU m fun z=>sY z fun n=>gd (aV n b8) (Q ((jR n).map fun(i:Nat)=>MV.int (i:Int)))
 |.rev _ _=>rz m fun xs=>Q xs.reverse
noncomputable def YF:Option Slot->Bool
 |some .un=>true
 |_=>false
noncomputable def Ei(ks:List (Nat×Pos))(st:St):Bool:=ks.all fun k=>YF st.loc[k.1]?
noncomputable def qg(ks:List (Nat×Pos))(st:St):St:=ks.foldl (fun st k=>st.put k.1 .un) st
abbrev Qe:=Bool->MV->St->Prop
abbrev lq:=Nat->List MV->List MC->(Bool->MV->List MC->Prop)->Prop
structure Sm where
 ev:St->Qe->Prop
 tt:St->(Bool->St->Prop)->Prop
 Kn:St->(List MV->St->Prop)->Prop
 ta:St->(Bool->St->Prop)->Prop
 to:St->(Bool->St->Prop)->Prop
 ea:St->(MV->St->Prop)->Prop
 eo:St->(MV->St->Prop)->Prop
noncomputable def II(e:St->Qe->Prop)(t:St->(Bool->St->Prop)->Prop):Sm:=⟨e,t,fun _ _=>False,fun _ _=>False,fun _ _=>False,fun _ _=>False,fun _ _=>False⟩
noncomputable def gf(e:St->Qe->Prop):Sm:=II e fun st Q=>e st fun _ m st=>G0 m fun b=>Q b st
noncomputable def o6(b:MV->St->(Option MV->St->Prop)->Prop):List MV->St->(List MV->St->Prop)->Prop
 |[],st,Q=>Q [] st
 |x::xs,st,Q=>b x st fun m st=>o6 b xs st fun ms st=>Q (m.toList++ms) st
noncomputable def Ut(st:St)(f:Fd)(m:MV)(Q:MV->Prop):Prop:=match m with
 |.inst c fs=>fAt f.n (fieldsOf c) fs Q
 |.ref i=>cellAt st i fun c=>uj c fun n b=>match f with
  |.many=>Q (.int n)
  |.bB _=>Q (.bool b)
  |_=>False
 |_=>False
noncomputable def IS(st:St)(m:Me)(o:MV)(Q:Nat->Prop):Prop:=match o with
 |.inst c _=>mM (fE c m) Q False
 |.ref i=>cellAt st i fun c=>mM (KV c m) Q False
 |_=>False
noncomputable def getD(es:List (Str×MV))(k z:MV)(Q:MV->Prop):Prop:=kK k fun k=>mM (cf es k) (fun v=>Q (fT es v)) (Q z)
noncomputable def isNum:Fd->Bool|.dD=>true|_=>false
noncomputable def zV:Fd->Bool|.bU=>true|_=>false
noncomputable def isInf:Fd->Bool|.bB _=>true|_=>false
noncomputable def Ce:Fd->Bool|.many=>true|_=>false
noncomputable def Uw(st:St)(f:Fd)(a k:MV)(Q:Bool->Prop):Prop:=gd (zV f) (rt a fun i=>kK k fun k=>cellAt st i fun c=>u7 c fun es _=>Q (gp es k))
noncomputable def pD(st:St)(k:Nat)(Q:List MV->Prop):Prop:=slotAt st k (fun m=>rz m fun xs=>gd (aV xs.length b8) (Q xs)) fun _=>False
noncomputable def nP(st:St)(k:Nat)(Q:List (Str×MV)->Prop):Prop:=slotAt st k (fun m=>vb m fun es=>gd (aV es.length b8) (Q es)) fun _=>False
noncomputable def DH:List MV->(List MV->MV->Prop)->Prop
 |[],_=>False
 |[m],Q=>Q [] m
 |m::ms,Q=>DH ms fun r z=>Q (m::r) z
noncomputable def qv:MV->Bool
 |.none=>true
 |_=>false
noncomputable def Dd:List MV->(List Str->Prop)->Prop
 |[],Q=>Q []
 |x::r,Q=>kK x fun s=>Dd r fun l=>Q (s::l)
noncomputable def U2(f:MV)(Q:Nat->Nat->Prop):Prop:=match f with
 |.xj j i=>Q j i
 |_=>False
noncomputable def K0:Option Slot->Bool
 |some (.own _)=>true
 |some (.fz _)=>true
 |_=>false
noncomputable def gv(st:St)(k:Nat):Bool:=K0 st.loc[k]?
noncomputable def cP(cl:lq)(d:Nat):X->Sm
 |.nil=>⟨fun _ _=>False,fun _ _=>False,fun st Q=>Q [] st,fun st Q=>Q true st,fun st Q=>Q false st,fun _ _=>False,fun _ _=>False⟩
 |.cons x xs=>⟨fun _ _=>False,fun _ _=>False,fun st Q=>(cP cl d x).ev st fun _ m st=>(cP cl d xs).Kn st fun ms st=>Q (m::ms) st,
    fun st Q=>(cP cl d x).tt st fun b st=>i0 b ((cP cl d xs).ta st Q) (Q false st),fun st Q=>(cP cl d x).tt st fun b st=>i0 b (Q true st) ((cP cl d xs).to st Q),
    fun st Q=>(cP cl d x).ev st fun _ m st=>match xs with|.nil=>Q m st|.cons z1 z2=>G0 m fun b=>i0 b ((cP cl d xs).ea st Q) (Q m st)|_=>False,
    fun st Q=>(cP cl d x).ev st fun _ m st=>match xs with|.nil=>Q m st|.cons z1 z2=>G0 m fun b=>i0 b (Q m st) ((cP cl d xs).eo st Q)|_=>False⟩
 |.v k z1=>II (fun st Q=>G2 st k (Q false)) fun st Q=>AA st k (fun m=>G0 m fun b=>Q b st) fun m=>G0 m fun b=>Q b st
 |.int z z1=>gf fun st Q=>Q false (.int z) st
 |.str s z1=>gf fun st Q=>Q false (.str (af s)) st
 |.bool b z1=>gf fun st Q=>Q false (.bool b) st
 |.Nv z1=>gf fun st Q=>Q false .none st
 |.neg z z1 z2=>gf fun st Q=>Q false (.int (-(z:Int))) st
 |.tup xs z1=>gf fun st Q=>(cP cl d xs).Kn st fun ms st=>gd (aV ms.length 1000) (Q false (.tup ms) st)
 |.lst xs z1=>gf fun st Q=>(cP cl d xs).Kn st fun ms st=>gd (aV ms.length 1000) (Q true (.lst ms) st)
 |.cell xs z1=>gf fun st Q=>(cP cl d xs).Kn st fun ms st=>gd (aV ms.length 1000) (Q false (.ref st.mu.length) {st with mu:=st.mu++[.lst ms]})
 |.d0 z1=>gf fun st Q=>Q true (.bI []) st
 |.d1 k x z1 z2=>gf fun st Q=>(cP cl d x).ev st fun _ m st=>Q true (.bI [(af k,m)]) st
 |.fld x f z1=>gf fun st Q=>(cP cl d x).ev st fun _ m st=>Ut st f m fun m=>Q false m st
 |.call f xs z1 z2=>gf fun st Q=>(cP cl d xs).Kn st fun ms st=>cl f ms st.mu fun b m mu=>Q b m {st with mu:=mu}
 |.new c xs z1 z2=>gf fun st Q=>(cP cl d xs).Kn st fun ms st=>gd (aL ms.length (fieldsOf c).length&&aV 2 d) (Q false (.inst c ms) st)
 |.l8 x z1 z2=>gf fun st Q=>(cP cl d x).ev st fun _ m st=>rz m fun xs=>Dd xs fun ks=>gd (aV ks.length 100&&aV 3 d) (Q false (.ref st.mu.length) {st with mu:=st.mu++[.fresh (ks.foldl (fun es k=>br es k (.bool true)) []) []]})
 |.oA z1 z2=>gf fun st Q=>gd (aV 2 d) (Q false (.ref st.mu.length) {st with mu:=st.mu++[.uses 0 false]})
 |.rule x y z1 z2=>gf fun st Q=>(cP cl d x).ev st fun _ a st=>(cP cl d y).ev st fun _ b st=>eU a fun z=>sY z fun k=>rt b fun i=>gd (jo k 8&&aV 1 d) (cellAt st 0 fun c=>Rg c fun n=>gd (aL n 0) (Q false (.xj k i) {st with mu:=st.mu.set 0 (.tab 1)}))
 |.kj x m xs z1 z2=>gf fun st Q=>(cP cl d x).ev st fun _ o st=>IS st m o fun f=>(cP cl d xs).Kn st fun ms st=>cl f (o::ms) st.mu fun b m mu=>Q b m {st with mu:=mu}
 |.xl k x z1 z2=>gf fun st Q=>G2 st k fun f st=>U2 f fun j i=>mM (jP j) (fun p=>(cP cl d x).ev st fun _ m st=>cl p.1 (@bE (fun _=>List MV) [m] [m,.ref i] p.2) st.mu fun b m mu=>Q b m {st with mu:=mu}) False
 |.lM k z1 z2 z3=>gf fun st Q=>AA st k (fun m=>Wq .len m fun b m=>Q b m st) fun m=>Wq .len m fun b m=>Q b m st
 |.b1 o x z1 z2=>gf fun st Q=>(cP cl d x).ev st fun _ m st=>Wq o m fun b m=>Q b m st
 |.b2 o x y z1 z2=>gf fun st Q=>(cP cl d x).ev st fun _ a st=>(cP cl d y).ev st fun _ b st=>b2W o a b fun b m=>Q b m st
 |.isin x cs z1 z2 z3=>gf fun st Q=>(cP cl d x).ev st fun _ m st=>instW m fun c _=>Q false (.bool (cs.any fun x=>aL x.1.n c.n)) st
 |.F6 x k z1 z2=>gf fun st Q=>(cP cl d x).ev st fun _ a st=>vb a fun es=>(cP cl d k).ev st fun _ k st=>getD es k .none fun m=>Q false m st
 |.F5 x k z z1 z2=>gf fun st Q=>(cP cl d x).ev st fun _ a st=>vb a fun es=>(cP cl d k).ev st fun _ k st=>(cP cl d z).ev st fun _ z st=>getD es k z fun m=>Q false m st
 |.Gb x f k z z1 z2 z3 z4 z5=>gf fun st Q=>(cP cl d x).ev st fun _ a st=>gd (isNum f) (rt a fun i=>cellAt st i fun c=>u7 c fun _ es=>G2 st k fun k st=>kK k fun k=>mM (cf es k) (fun v=>rx v fun m=>Q false m st) (Q false (.int z) st))
 |.fin k x f z1 z2=>II (fun _ _=>False) fun st Q=>(cP cl d k).ev st fun _ k st=>(cP cl d x).ev st fun _ a st=>Uw st f a k fun b=>Q b st
 |.rfind x s z1 z2 z3=>gf fun st Q=>(cP cl d x).ev st fun _ m st=>kK m fun x=>Q false (.int (lr x (af s))) st
 |.isdigit x z1 z2=>gf fun st Q=>(cP cl d x).ev st fun _ m st=>kK m fun x=>Q false (.bool (pg x)) st
 |.append k x z1 z2 z3=>gf fun st Q=>pD st k fun _=>(cP cl d x).ev st fun _ m st=>pD st k fun xs=>Q false .none (st.put k (.own (.lst (xs++[m]))))
 |.pop k z1 z2 z3=>gf fun st Q=>pD st k fun xs=>DH xs fun r m=>Q false m (st.put k (.own (.lst r)))
 |.bin o x y z1=>gf fun st Q=>(cP cl d x).ev st fun _ a st=>(cP cl d y).ev st fun _ b st=>Pa o a b fun b m=>Q b m st
 |.cmp o x y z1=>II (fun st Q=>(cP cl d x).ev st fun _ a st=>(cP cl d y).ev st fun _ b st=>CF o a b fun r=>Q false (.bool r) st) fun st Q=>(cP cl d x).ev st fun _ a st=>(cP cl d y).ev st fun _ b st=>CF o a b fun r=>Q r st
 |.isNone x z1 z2=>II (fun st Q=>(cP cl d x).ev st fun _ a st=>Q false (.bool (qv a)) st) fun st Q=>(cP cl d x).ev st fun _ a st=>Q (qv a) st
 |.and xs z1=>II (fun st Q=>(cP cl d xs).ea st fun m st=>Q false m st) (cP cl d xs).ta
 |.or xs z1=>II (fun st Q=>(cP cl d xs).eo st fun m st=>Q false m st) (cP cl d xs).to
 |.not x z1=>II (fun st Q=>(cP cl d x).ev st fun _ m st=>G0 m fun b=>Q false (.bool !b) st) fun st Q=>(cP cl d x).tt st fun b st=>Q (!b) st
 |.ite c a b z1=>II (fun st Q=>(cP cl d c).tt st fun z st=>i0 z ((cP cl d a).ev st Q) ((cP cl d b).ev st Q)) fun _ _=>False
 |.sub x i z1=>gf fun st Q=>(cP cl d x).ev st fun _ a st=>(cP cl d i).ev st fun _ i st=>EE a i fun m=>Q false m st
 |.dP k i z1 z2=>gf fun st Q=>gd (gv st k) ((cP cl d i).ev st fun _ i st=>AA st k (fun a=>Ri a i fun m=>Q false m st) fun a=>EE a i fun m=>Q false m st)
 |.Rw x i z1 z2=>gf fun st Q=>(cP cl d x).ev st fun _ a st=>(cP cl d i).ev st fun _ i st=>ze a i fun b m=>Q b m st
 |.ur k i z1 z2 z3=>gf fun st Q=>gd (gv st k) ((cP cl d i).ev st fun _ i st=>AA st k (fun a=>ze a i fun b m=>Q b m st) fun a=>ze a i fun b m=>Q b m st)
 |.sX k i z1 z2 z3=>gf fun st Q=>gd (gv st k) ((cP cl d i).ev st fun _ i st=>AA st k (fun a=>HT a i fun b m=>Q b m st) fun a=>HT a i fun b m=>Q b m st)
 |.comp e ks z1 ik it cs z2 z3=>gf fun st Q=>(cP cl d it).ev st fun _ i st=>P7 ik i fun xs=>gd (aV xs.length b8&&Ei ks st)
    (o6 (fun m st Q=>kf ks m st fun st=>(cP cl d cs).ta st fun z st=>i0 z ((cP cl d e).ev st fun _ m st=>Q (some m) st) (Q lJ st)) xs st fun ms st=>Q true (.lst ms) (qg ks st))
noncomputable def OD(cl:lq)(d:Nat):X->St->(List (Bool×MV)->St->Prop)->Prop
 |.nil=>fun st Q=>Q [] st
 |.cons x xs=>fun st Q=>(cP cl d x).ev st fun b m st=>OD cl d xs st fun ms st=>Q ((b,m)::ms) st
 |_=>fun _ _=>False
noncomputable def Ds:List (Nat×Pos)->List (Bool×MV)->St->(St->Prop)->Prop
 |[],[],st,Q=>Q st
 |k::ks,m::ms,st,Q=>Ds ks ms (st.put k.1 (lL m.1 m.2)) Q
 |_,_,_,_=>False
noncomputable def EO(r:St->(Fl->St->Prop)->Prop)(Q:Fl->St->Prop)(fl:Fl)(st:St):Prop:=match fl with
 |.Dv=>r st Q
 |.cont=>Q .cont st
 |.ret b m=>Q (.ret b m) st
noncomputable def wz(r:St->Prop)(Q:Fl->St->Prop)(fl:Fl)(st:St):Prop:=match fl with
 |.ret b m=>Q (.ret b m) st
 |_=>r st
noncomputable def Ht(t:St->(Bool->St->Prop)->Prop)(b:St->(Fl->St->Prop)->Prop)(r:St->(Fl->St->Prop)->Prop):Nat->St->(Fl->St->Prop)->Prop
 |0,_,_=>False
 |n+1,st,Q=>t st fun z st=>i0 z (b st (wz (fun st=>Ht t b r n st Q) Q)) (r st Q)
noncomputable def yo(b:MV->St->(Fl->St->Prop)->Prop)(r:St->(Fl->St->Prop)->Prop):List MV->St->(Fl->St->Prop)->Prop
 |[],st,Q=>r st Q
 |x::xs,st,Q=>b x st (wz (fun st=>yo b r xs st Q) Q)
noncomputable def HX(k:Nat)(i m:MV)(st:St)(Q:St->Prop):Prop:=slotAt st k
 (fun o=>vb o fun es=>kK i fun s=>gd (aV es.length b8) (Q (st.put k (.own (.bI (br es s m))))))
 (fun o=>rt o fun j=>eU i fun z=>sY z fun n=>cellAt st j fun c=>Te c fun xs=>gd (jo n xs.length&&aV xs.length b8) (Q {st with mu:=st.mu.set j (.lst (xs.set n m))}))
noncomputable def wF(f:Fd)(m a i:MV)(st:St)(Q:St->Prop):Prop:=rt a fun j=>kK i fun s=>cellAt st j fun c=>u7 c fun av es=>
 i0 (isNum f) (gd (aV es.length b8) (Q {st with mu:=st.mu.set j (.fresh av (br es s m))})) (gd (zV f&&aV av.length b8) (Q {st with mu:=st.mu.set j (.fresh (br av s m) es)}))
noncomputable def dJ(W:Nat)(cl:lq)(d:Nat):Ss->St->(Fl->St->Prop)->Prop
 |.nil=>fun st Q=>Q .Dv st
 |.asg k x z1 z2 r=>fun st Q=>(cP cl d x).ev st fun b m st=>dJ W cl d r (st.put k (lL b m)) Q
 |.wd ks x z1 z2 r=>fun st Q=>(cP cl d x).ev st fun _ m st=>EB m fun ms=>putAll ks ms st fun st=>dJ W cl d r st Q
 |.n7 ks xs z1 z2 z3 r=>fun st Q=>OD cl d xs st fun rs st=>gd (aV rs.length 1000) (Ds ks rs st fun st=>dJ W cl d r st Q)
 |.nk k i x z1 z2 z3 r=>fun st Q=>(cP cl d x).ev st fun _ m st=>gd (gv st k) ((cP cl d i).ev st fun _ i st=>HX k i m st fun st=>dJ W cl d r st Q)
 |.zh x f i v z1 z2 z3 r=>fun st Q=>(cP cl d v).ev st fun _ m st=>(cP cl d x).ev st fun _ a st=>(cP cl d i).ev st fun _ i st=>wF f m a i st fun st=>dJ W cl d r st Q
 |.EN x f v z1 z2 r=>fun st Q=>(cP cl d v).ev st fun _ m st=>(cP cl d x).ev st fun _ a st=>gd (isInf f) (rt a fun j=>AC m fun b=>cellAt st j fun c=>uj c fun n _=>dJ W cl d r {st with mu:=st.mu.set j (.uses n b)} Q)
 |.AY k x z1 z2 r=>fun st Q=>G2 st k fun a st=>eU a fun a=>(cP cl d x).ev st fun _ b st=>eU b fun b=>dJ W cl d r (st.put k (.fz (.int (a+b)))) Q
 |.GP x f v z1 z2 r=>fun st Q=>(cP cl d x).ev st fun _ a st=>(cP cl d v).ev st fun _ b st=>gd (Ce f) (rt a fun j=>eU b fun b=>cellAt st j fun c=>uj c fun n z=>dJ W cl d r {st with mu:=st.mu.set j (.uses (n+b) z)} Q)
 |.g9 k i x c y z1 z2 z3 z4 z5 z6 r=>fun st Q=>(cP cl d x).ev st fun _ m st=>(cP cl d c).tt st fun z st=>
    i0 z (nP st k fun _=>(cP cl d i).ev st fun _ i st=>kK i fun s=>nP st k fun es=>dJ W cl d r (st.put k (.own (.bI (br es s (.g9 m))))) Q)
     ((cP cl d y).ev st fun _ y st=>gd (gv st k) ((cP cl d i).ev st fun _ i st=>kK i fun s=>nP st k fun es=>dJ W cl d r (st.put k (.own (.bI (br es s (.tup [m,y]))))) Q))
 |.ret x z1 z2=>fun st Q=>(cP cl d x).ev st fun b m st=>Q (.ret b m) st
 |.iE k z1 z2 z3=>fun st Q=>slotAt st k (fun m=>Q (.ret true m) (st.put k .un)) fun m=>Q (.ret false m) st
 |.gU c a b z1 r=>fun st Q=>(cP cl d c).tt st fun z st=>i0 z (dJ W cl d a st (EO (dJ W cl d r) Q)) (dJ W cl d b st (EO (dJ W cl d r) Q))
 |.Et c b z1 r=>fun st Q=>Ht (cP cl d c).tt (dJ W cl d b) (dJ W cl d r) W st Q
 |.fr ks z1 ik it b z2 r=>fun st Q=>(cP cl d it).ev st fun _ i st=>P7 ik i fun xs=>yo (fun m st Q=>kf ks m st fun st=>dJ W cl d b st Q) (dJ W cl d r) xs st Q
 |.cont z1 z2=>fun st Q=>Q .cont st
 |.del k lo z1 z2 z3 z4 r=>fun st Q=>gd (gv st k) ((cP cl d lo).ev st fun _ i st=>pD st k fun xs=>eU i fun z=>sY z fun n=>gd (aV n xs.length) (dJ W cl d r (st.put k (.own (.lst (xs.take n)))) Q))
 |.ex x z1 r=>fun st Q=>(cP cl d x).ev st fun _ _ st=>dJ W cl d r st Q
structure Fn where
 np:Nat
 ns:Nat
 body:Ss
noncomputable def eL(Q:Bool->MV->List MC->Prop)(fl:Fl)(st:St):Prop:=match fl with
 |.ret b m=>Q b m st.mu
 |_=>Q false .none st.mu
noncomputable def q(l c e:Nat):Pos:=⟨l,c,l,e⟩
noncomputable def sc(l:List (String×dC)):fq:=⟨.function,l.map fun p=>(af p.1,p.2),false,false,[]⟩
noncomputable def yJ:Ss:=(.ret (.lst .nil (q 8 15 17)) (q 8 8 17) .nil)
noncomputable def AO:Ss:=(.ret (.lst .nil (q 11 15 17)) (q 11 8 17) .nil)
noncomputable def vY:Ss:=(.iE 0 (q 14 15 19) (q 14 8 19) .nil)
noncomputable def yL:Ss:=(.ret (.lst .nil (q 22 15 17)) (q 22 8 17) .nil)
noncomputable def AQ:Ss:=(.ret (.lst .nil (q 25 15 17)) (q 25 8 17) .nil)
noncomputable def v5:Ss:=(.iE 0 (q 28 15 19) (q 28 8 19) .nil)
noncomputable def yQ:Ss:=(.ret (.lst .nil (q 36 15 17)) (q 36 8 17) .nil)
noncomputable def AW:Ss:=(.ret (.bin .add (.lst (.cons (.tup (.cons (.fld (.v 0 (q 39 17 21)) .fun (q 39 17 25)) (.cons (.tup .nil (q 39 27 29)) .nil)) (q 39 16 30)) .nil) (q 39 15 31)) (.comp (.tup (.cons (.v 1 (q 39 36 39)) (.cons (.tup .nil (q 39 41 43)) .nil)) (q 39 35 44)) [(1,(q 39 49 52))] default .of (.fld (.v 0 (q 39 56 60)) .args (q 39 56 65)) .nil (sc [(".0",.local),("arg",.local)]) (q 39 34 66)) (q 39 15 66)) (q 39 8 66) .nil)
noncomputable def wb:Ss:=(.ret (.new .App (.cons (.dP 2 (.int 0 (q 42 25 26)) (q 42 19 24) (q 42 19 27)) (.cons (.ur 2 (.int 1 (q 42 35 36)) (q 42 29 34) (q 42 35 37) (q 42 29 38)) .nil)) (q 42 15 18) (q 42 15 39)) (q 42 8 39) .nil)
noncomputable def yN:Ss:=(.ret (.lst (.cons (.fld (.v 0 (q 50 16 20)) .params (q 50 16 27)) .nil) (q 50 15 28)) (q 50 8 28) .nil)
noncomputable def AU:Ss:=(.ret (.lst (.cons (.tup (.cons (.fld (.v 0 (q 53 17 21)) .body (q 53 17 26)) (.cons (.tup (.cons (.int 0 (q 53 29 30)) .nil) (q 53 28 32)) .nil)) (q 53 16 33)) .nil) (q 53 15 34)) (q 53 8 34) .nil)
noncomputable def v8:Ss:=(.ret (.new .iu (.cons (.dP 1 (.int 0 (q 56 26 27)) (q 56 19 25) (q 56 19 28)) (.cons (.dP 2 (.int 0 (q 56 36 37)) (q 56 30 35) (q 56 30 38)) .nil)) (q 56 15 18) (q 56 15 39)) (q 56 8 39) .nil)
noncomputable def yM:Ss:=(.ret (.lst (.cons (.comp (.v 1 (q 65 17 21)) [(1,(q 65 26 30)),(2,(q 65 32 36))] (q 65 26 36) .of (.fld (.v 0 (q 65 40 44)) .binds (q 65 40 50)) .nil (sc [(".0",.local),("name",.local),("expr",.local)]) (q 65 16 51)) .nil) (q 65 15 52)) (q 65 8 52) .nil)
noncomputable def AS:Ss:=(.asg 1 (.ite (.fld (.v 0 (q 68 24 28)) .pI (q 68 24 35)) (.tup (.cons (.int 0 (q 68 17 18)) .nil) (q 68 16 20)) (.tup .nil (q 68 41 43)) (q 68 16 43)) (q 68 8 13) (q 68 8 43) (.ret (.bin .add (.comp (.tup (.cons (.v 3 (q 69 17 21)) (.cons (.v 1 (q 69 23 28)) .nil)) (q 69 16 29)) [(2,(q 69 34 38)),(3,(q 69 40 44))] (q 69 34 44) .of (.fld (.v 0 (q 69 48 52)) .binds (q 69 48 58)) .nil (sc [(".0",.local),("name",.local),("expr",.local),("scope",.free)]) (q 69 15 59)) (.lst (.cons (.tup (.cons (.fld (.v 0 (q 69 64 68)) .body (q 69 64 73)) (.cons (.tup (.cons (.int 0 (q 69 76 77)) .nil) (q 69 75 79)) .nil)) (q 69 63 80)) .nil) (q 69 62 81)) (q 69 15 81)) (q 69 8 81) .nil))
noncomputable def v7:Ss:=(.asg 3 (.comp (.tup (.cons (.sub (.dP 1 (.int 0 (q 72 25 26)) (q 72 18 24) (q 72 18 27)) (.v 4 (q 72 28 30)) (q 72 18 31)) (.cons (.dP 2 (.v 4 (q 72 39 41)) (q 72 33 38) (q 72 33 42)) .nil)) (q 72 17 43)) [(4,(q 72 48 50))] default (.range (q 72 54 59) (q 72 54 76)) (.b1 .len (.fld (.v 0 (q 72 64 68)) .binds (q 72 64 74)) (q 72 60 63) (q 72 60 75)) .nil (sc [(".0",.local),("at",.local),("groups",.free),("parts",.free)]) (q 72 16 77)) (q 72 8 13) (q 72 8 77) (.ret (.new .Let (.cons (.v 3 (q 73 19 24)) (.cons (.dP 2 (.neg 1 (q 73 33 34) (q 73 32 34)) (q 73 26 31) (q 73 26 35)) (.cons (.fld (.v 0 (q 73 37 41)) .pI (q 73 37 48)) .nil))) (q 73 15 18) (q 73 15 49)) (q 73 8 49) .nil))
noncomputable def wa:Ss:=(.ret (.bin .add (.lst (.cons (.lst (.cons (.fld (.v 0 (q 89 17 21)) .name (q 89 17 26)) .nil) (q 89 16 27)) .nil) (q 89 15 28)) (.comp (.fld (.v 1 (q 89 32 35)) .names (q 89 32 41)) [(1,(q 89 46 49))] default .of (.fld (.v 0 (q 89 53 57)) .alts (q 89 53 62)) .nil (sc [(".0",.local),("alt",.local)]) (q 89 31 63)) (q 89 15 63)) (q 89 8 63) .nil)
noncomputable def yP:Ss:=(.asg 1 (.lst (.cons (.tup (.cons (.fld (.v 0 (q 92 18 22)) .value (q 92 18 28)) (.cons (.tup .nil (q 92 30 32)) .nil)) (q 92 17 33)) .nil) (q 92 16 34)) (q 92 8 13) (q 92 8 34) (.fr [(2,(q 93 12 14))] default (.range (q 93 18 23) (q 93 18 39)) (.b1 .len (.fld (.v 0 (q 93 28 32)) .alts (q 93 28 37)) (q 93 24 27) (q 93 24 38)) (.ex (.append 1 (.tup (.cons (.fld (.sub (.fld (.v 0 (q 94 26 30)) .alts (q 94 26 35)) (.v 2 (q 94 36 38)) (q 94 26 39)) .body (q 94 26 44)) (.cons (.tup (.cons (.int 0 (q 94 47 48)) (.cons (.bin .add (.v 2 (q 94 50 52)) (.int 1 (q 94 55 56)) (q 94 50 56)) .nil)) (q 94 46 57)) .nil)) (q 94 25 58)) (q 94 12 17) (q 94 12 24) (q 94 12 59)) (q 94 12 59) .nil) ⟨93,8,94,59⟩ (.ret (.ite (.isNone (.fld (.v 0 (q 95 24 28)) .other (q 95 24 34)) (q 95 38 42) (q 95 24 42)) (.v 1 (q 95 15 20)) (.bin .add (.v 1 (q 95 48 53)) (.lst (.cons (.tup (.cons (.fld (.v 0 (q 95 58 62)) .other (q 95 58 68)) (.cons (.tup (.cons (.int 0 (q 95 71 72)) .nil) (q 95 70 74)) .nil)) (q 95 57 75)) .nil) (q 95 56 76)) (q 95 48 76)) (q 95 15 76)) (q 95 8 76) .nil)))
noncomputable def vl:Ss:=(.asg 3 (.lst .nil (q 98 15 17)) (q 98 8 12) (q 98 8 17) (.fr [(4,(q 99 12 14))] default (.range (q 99 18 23) (q 99 18 39)) (.b1 .len (.fld (.v 0 (q 99 28 32)) .alts (q 99 28 37)) (q 99 24 27) (q 99 24 38)) (.ex (.append 3 (.new .Alt (.cons (.fld (.sub (.fld (.v 0 (q 100 28 32)) .alts (q 100 28 37)) (.v 4 (q 100 38 40)) (q 100 28 41)) .key (q 100 28 45)) (.cons (.dP 1 (.bin .add (.v 4 (q 100 54 56)) (.int 1 (q 100 59 60)) (q 100 54 60)) (q 100 47 53) (q 100 47 61)) (.cons (.dP 2 (.bin .add (.v 4 (q 100 69 71)) (.int 1 (q 100 74 75)) (q 100 69 75)) (q 100 63 68) (q 100 63 76)) .nil))) (q 100 24 27) (q 100 24 77)) (q 100 12 16) (q 100 12 23) (q 100 12 78)) (q 100 12 78) .nil) ⟨99,8,100,78⟩ (.ret (.new .Case (.cons (.dP 2 (.int 0 (q 101 26 27)) (q 101 20 25) (q 101 20 28)) (.cons (.sub (.dP 1 (.int 0 (q 101 37 38)) (q 101 30 36) (q 101 30 39)) (.int 0 (q 101 40 41)) (q 101 30 42)) (.cons (.v 3 (q 101 44 48)) (.cons (.ite (.isNone (.fld (.v 0 (q 101 58 62)) .other (q 101 58 68)) (q 101 72 76) (q 101 58 76)) (.Nv (q 101 50 54)) (.dP 2 (.neg 1 (q 101 89 90) (q 101 88 90)) (q 101 82 87) (q 101 82 91)) (q 101 50 91)) .nil)))) (q 101 15 19) (q 101 15 92)) (q 101 8 92) .nil)))
noncomputable def yO:Ss:=(.ret (.lst .nil (q 109 15 17)) (q 109 8 17) .nil)
noncomputable def AV:Ss:=(.ret (.comp (.tup (.cons (.v 1 (q 112 17 20)) (.cons (.tup .nil (q 112 22 24)) .nil)) (q 112 16 25)) [(1,(q 112 30 33))] default .of (.fld (.v 0 (q 112 37 41)) .args (q 112 37 46)) .nil (sc [(".0",.local),("arg",.local)]) (q 112 15 47)) (q 112 8 47) .nil)
noncomputable def v9:Ss:=(.ret (.new .o9 (.cons (.fld (.v 0 (q 115 19 23)) .name (q 115 19 28)) (.cons (.v 2 (q 115 30 35)) .nil)) (q 115 15 18) (q 115 15 36)) (q 115 8 36) .nil)
noncomputable def vZ:Ss:=(.ret (.lst .nil (q 123 15 17)) (q 123 8 17) .nil)
noncomputable def yK:Ss:=(.ret (.comp (.tup (.cons (.v 1 (q 126 17 20)) (.cons (.tup .nil (q 126 22 24)) .nil)) (q 126 16 25)) [(1,(q 126 30 33))] default .of (.fld (.v 0 (q 126 37 41)) .args (q 126 37 46)) .nil (sc [(".0",.local),("arg",.local)]) (q 126 15 47)) (q 126 8 47) .nil)
noncomputable def vk:Ss:=(.ret (.new .Prim (.cons (.fld (.v 0 (q 129 20 24)) .op (q 129 20 27)) (.cons (.v 2 (q 129 29 34)) .nil)) (q 129 15 19) (q 129 15 35)) (q 129 8 35) .nil)
noncomputable def Lr:Ss:=(.gU (.cmp .eq (.v 2 (q 132 7 12)) (.tup .nil (q 132 16 18)) (q 132 7 18)) (.iE 0 (q 133 15 20) (q 133 8 20) .nil) .nil ⟨132,4,133,20⟩ (.asg 3 (.b1 .dict (.v 0 (q 134 17 22)) (q 134 12 16) (q 134 12 23)) (q 134 4 9) (q 134 4 23) (.fr [(4,(q 135 8 14))] default .of (.v 2 (q 135 18 23)) (.fr [(5,(q 136 12 16))] default .of (.dP 1 (.v 4 (q 136 27 33)) (q 136 20 26) (q 136 20 34)) (.nk 3 (.v 5 (q 137 18 22)) (.bool true (q 137 26 30)) (q 137 12 17) (q 137 12 23) (q 137 12 30) .nil) ⟨136,8,137,30⟩ .nil) ⟨135,4,137,30⟩ (.iE 3 (q 138 11 16) (q 138 4 16) .nil))))
noncomputable def qJ:Ss:=(.n7 [(1,(q 140 4 9)),(2,(q 140 11 16))] (.cons (.d0 (q 140 20 22)) (.cons (.lst (.cons (.tup (.cons (.v 0 (q 140 26 30)) (.cons (.d0 (q 140 32 34)) .nil)) (q 140 25 35)) .nil) (q 140 24 36)) .nil)) (q 140 4 16) (q 140 19 37) (q 140 4 37) (.Et (.v 2 (q 141 10 15)) (.wd [(3,(q 142 8 12)),(4,(q 142 14 19))] (.pop 2 (q 142 22 27) (q 142 22 31) (q 142 22 33)) (q 142 8 19) (q 142 8 33) (.gU (.isin (.v 3 (q 143 22 26)) [(.Var,(q 143 28 31))] default (q 143 11 21) (q 143 11 32)) (.gU (.cmp .zB (.fld (.v 3 (q 144 15 19)) .name (q 144 15 24)) (.v 4 (q 144 32 37)) (q 144 15 37)) (.nk 1 (.fld (.v 3 (q 145 22 26)) .name (q 145 22 31)) (.bool true (q 145 35 39)) (q 145 16 21) (q 145 16 32) (q 145 16 39) .nil) .nil ⟨144,12,145,39⟩ (.cont (q 146 12 20) .nil)) .nil ⟨143,8,146,20⟩ (.asg 5 (.kj (.v 3 (q 147 17 21)) .groups .nil (q 147 17 28) (q 147 17 30)) (q 147 8 14) (q 147 8 30) (.fr [(6,(q 148 12 16)),(7,(q 148 18 23))] (q 148 12 23) .of (.kj (.v 3 (q 148 27 31)) .parts .nil (q 148 27 37) (q 148 27 39)) (.ex (.append 2 (.tup (.cons (.v 6 (q 149 26 30)) (.cons (.call 24 (.cons (.v 4 (q 149 39 44)) (.cons (.v 5 (q 149 46 52)) (.cons (.v 7 (q 149 54 59)) .nil))) (q 149 32 38) (q 149 32 60)) .nil)) (q 149 25 61)) (q 149 12 17) (q 149 12 24) (q 149 12 62)) (q 149 12 62) .nil) ⟨148,8,149,62⟩ .nil)))) ⟨141,4,149,62⟩ (.ret (.b1 .sorted (.v 1 (q 150 18 23)) (q 150 11 17) (q 150 11 24)) (q 150 4 24) .nil)))
noncomputable def GL:Ss:=(.ret (.cmp .isin (.v 0 (q 152 11 15)) (.call 25 (.cons (.v 1 (q 152 30 34)) .nil) (q 152 19 29) (q 152 19 35)) (q 152 11 35)) (q 152 4 35) .nil)
noncomputable def n6:Ss:=(.ret (.comp (.comp (.kj (.fld (.v 0 (q 160 17 21)) .fresh (q 160 17 27)) .next (.cons (.v 3 (q 160 33 37)) .nil) (q 160 17 32) (q 160 17 38)) [(3,(q 160 43 47))] default .of (.v 2 (q 160 51 56)) .nil (sc [(".0",.local),("name",.local),("self",.free)]) (q 160 16 57)) [(2,(q 160 62 67))] default .of (.v 1 (q 160 71 77)) .nil (sc [(".0",.local),("group",.local),("self",.free)]) (q 160 15 78)) (q 160 8 78) .nil)
noncomputable def s9:Ss:=(.gU (.cmp .eq (.v 2 (q 163 11 16)) (.tup .nil (q 163 20 22)) (q 163 11 22)) (.iE 1 (q 164 19 24) (q 164 12 24) .nil) .nil ⟨163,8,164,24⟩ (.asg 5 (.b1 .dict (.v 1 (q 165 21 26)) (q 165 16 20) (q 165 16 27)) (q 165 8 13) (q 165 8 27) (.fr [(6,(q 166 12 18))] default .of (.v 2 (q 166 22 27)) (.fr [(7,(q 167 16 18))] default (.range (q 167 22 27) (q 167 22 48)) (.b1 .len (.dP 3 (.v 6 (q 167 39 45)) (q 167 32 38) (q 167 32 46)) (q 167 28 31) (q 167 28 47)) (.nk 5 (.sub (.dP 3 (.v 6 (q 168 29 35)) (q 168 22 28) (q 168 22 36)) (.v 7 (q 168 37 39)) (q 168 22 40)) (.sub (.dP 4 (.v 6 (q 168 49 55)) (q 168 44 48) (q 168 44 56)) (.v 7 (q 168 57 59)) (q 168 44 60)) (q 168 16 21) (q 168 16 41) (q 168 16 60) .nil) ⟨167,12,168,60⟩ .nil) ⟨166,8,168,60⟩ (.iE 5 (q 169 15 20) (q 169 8 20) .nil))))
noncomputable def vj:Ss:=(.gU (.not (.isin (.v 1 (q 172 26 30)) [(.Var,(q 172 32 35))] default (q 172 15 25) (q 172 15 36)) (q 172 11 36)) (.iE 1 (q 173 19 23) (q 173 12 23) .nil) .nil ⟨172,8,173,23⟩ (.gU (.cmp .isin (.fld (.v 1 (q 174 11 15)) .name (q 174 11 20)) (.v 2 (q 174 24 29)) (q 174 11 29)) (.ret (.new .Var (.cons (.dP 2 (.fld (.v 1 (q 175 29 33)) .name (q 175 29 38)) (q 175 23 28) (q 175 23 39)) .nil) (q 175 19 22) (q 175 19 40)) (q 175 12 40) .nil) .nil ⟨174,8,175,40⟩ (.asg 3 (.F6 (.fld (.v 0 (q 176 16 20)) .yb (q 176 16 28)) (.fld (.v 1 (q 176 33 37)) .name (q 176 33 42)) (q 176 16 32) (q 176 16 43)) (q 176 8 13) (q 176 8 43) (.ret (.ite (.isNone (.v 3 (q 177 23 28)) (q 177 32 36) (q 177 23 36)) (.v 1 (q 177 15 19)) (.kj (.new .il (.cons (.fld (.v 0 (q 177 50 54)) .fresh (q 177 50 60)) (.cons (.d0 (q 177 62 64)) .nil)) (q 177 42 49) (q 177 42 65)) .run (.cons (.v 3 (q 177 70 75)) .nil) (q 177 42 69) (q 177 42 76)) (q 177 15 76)) (q 177 8 76) .nil))))
noncomputable def o8:Ss:=(.n7 [(2,(q 180 8 13)),(3,(q 180 15 19))] (.cons (.lst (.cons (.tup (.cons (.v 1 (q 180 25 29)) (.cons (.d0 (q 180 31 33)) (.cons (.Nv (q 180 35 39)) .nil))) (q 180 24 40)) .nil) (q 180 23 41)) (.cons (.lst .nil (q 180 43 45)) .nil)) (q 180 8 19) (q 180 22 46) (q 180 8 46) (.Et (.v 2 (q 181 14 19)) (.wd [(4,(q 182 12 16)),(5,(q 182 18 23)),(6,(q 182 25 29))] (.pop 2 (q 182 32 37) (q 182 32 41) (q 182 32 43)) (q 182 12 29) (q 182 12 43) (.asg 7 (.kj (.v 4 (q 183 20 24)) .parts .nil (q 183 20 30) (q 183 20 32)) (q 183 12 17) (q 183 12 32) (.gU (.cmp .eq (.v 7 (q 184 15 20)) (.lst .nil (q 184 24 26)) (q 184 15 26)) (.ex (.append 3 (.kj (.v 0 (q 185 28 32)) .leaf (.cons (.v 4 (q 185 38 42)) (.cons (.v 5 (q 185 44 49)) .nil)) (q 185 28 37) (q 185 28 50)) (q 185 16 20) (q 185 16 27) (q 185 16 51)) (q 185 16 51) .nil) (.gU (.isNone (.v 6 (q 186 17 21)) (q 186 25 29) (q 186 17 29)) (.asg 8 (.kj (.v 4 (q 187 25 29)) .groups .nil (q 187 25 36) (q 187 25 38)) (q 187 16 22) (q 187 16 38) (.asg 6 (.kj (.v 0 (q 188 23 27)) .kQ (.cons (.v 8 (q 188 39 45)) .nil) (q 188 23 38) (q 188 23 46)) (q 188 16 20) (q 188 16 46) (.ex (.append 2 (.tup (.cons (.v 4 (q 189 30 34)) (.cons (.v 5 (q 189 36 41)) (.cons (.v 6 (q 189 43 47)) .nil))) (q 189 29 48)) (q 189 16 21) (q 189 16 28) (q 189 16 49)) (q 189 16 49) (.fr [(9,(q 190 20 24)),(10,(q 190 26 31))] (q 190 20 31) (.rev (q 190 35 43) (q 190 35 50)) (.v 7 (q 190 44 49)) (.ex (.append 2 (.tup (.cons (.v 9 (q 191 34 38)) (.cons (.kj (.v 0 (q 191 40 44)) .inner (.cons (.v 5 (q 191 51 56)) (.cons (.v 10 (q 191 58 63)) (.cons (.v 8 (q 191 65 71)) (.cons (.v 6 (q 191 73 77)) .nil)))) (q 191 40 50) (q 191 40 78)) (.cons (.Nv (q 191 80 84)) .nil))) (q 191 33 85)) (q 191 20 25) (q 191 20 32) (q 191 20 86)) (q 191 20 86) .nil) ⟨190,16,191,86⟩ .nil)))) (.asg 11 (.lM 7 (q 193 27 32) (q 193 23 26) (q 193 23 33)) (q 193 16 20) (q 193 16 33) (.asg 12 (.kj (.v 4 (q 194 24 28)) .gr (.cons (.v 6 (q 194 37 41)) (.cons (.ur 3 (.bin .sub (.lM 3 (q 194 52 56) (q 194 48 51) (q 194 48 57)) (.v 11 (q 194 60 64)) (q 194 48 64)) (q 194 43 47) (q 194 48 65) (q 194 43 66)) .nil)) (q 194 24 36) (q 194 24 67)) (q 194 16 21) (q 194 16 67) (.del 3 (.bin .sub (.lM 3 (q 195 29 33) (q 195 25 28) (q 195 25 34)) (.v 11 (q 195 37 41)) (q 195 25 41)) (q 195 20 24) (q 195 25 42) (q 195 20 43) (q 195 16 43) (.ex (.append 3 (.v 12 (q 196 28 33)) (q 196 16 20) (q 196 16 27) (q 196 16 34)) (q 196 16 34) .nil)))) ⟨186,12,196,34⟩ .nil) ⟨184,12,196,34⟩ .nil))) ⟨181,8,196,34⟩ (.ret (.dP 3 (.int 0 (q 197 20 21)) (q 197 15 19) (q 197 15 22)) (q 197 8 22) .nil)))
noncomputable def GH:Ss:=(.ret (.kj (.new .il (.cons (.v 1 (q 199 19 24)) (.cons (.d0 (q 199 26 28)) .nil)) (q 199 11 18) (q 199 11 29)) .run (.cons (.v 0 (q 199 34 38)) .nil) (q 199 11 33) (q 199 11 39)) (q 199 4 39) .nil)
noncomputable def vW:Ss:=(.ret (.kj (.new .il (.cons (.v 2 (q 201 19 24)) (.cons (.v 1 (q 201 26 33)) .nil)) (q 201 11 18) (q 201 11 34)) .run (.cons (.v 0 (q 201 39 43)) .nil) (q 201 11 38) (q 201 11 44)) (q 201 4 44) .nil)
noncomputable def Vp:Ss:=(.gU (.and (.cons (.isin (.v 0 (q 204 18 22)) [(.App,(q 204 24 27))] default (q 204 7 17) (q 204 7 28)) (.cons (.isin (.fld (.v 0 (q 204 44 48)) .fun (q 204 44 52)) [(.App,(q 204 54 57))] default (q 204 33 43) (q 204 33 58)) .nil)) (q 204 7 58)) (.ret (.new .App (.cons (.fld (.fld (.v 0 (q 205 19 23)) .fun (q 205 19 27)) .fun (q 205 19 31)) (.cons (.bin .add (.b1 .list (.fld (.fld (.v 0 (q 205 38 42)) .fun (q 205 38 46)) .args (q 205 38 51)) (q 205 33 37) (q 205 33 52)) (.b1 .list (.fld (.v 0 (q 205 60 64)) .args (q 205 60 69)) (q 205 55 59) (q 205 55 70)) (q 205 33 70)) .nil)) (q 205 15 18) (q 205 15 71)) (q 205 8 71) .nil) .nil ⟨204,4,205,71⟩ (.iE 0 (q 206 11 15) (q 206 4 15) .nil))
noncomputable def Vq:Ss:=(.gU (.or (.cons (.not (.isin (.v 0 (q 208 22 26)) [(.App,(q 208 28 31))] default (q 208 11 21) (q 208 11 32)) (q 208 7 32)) (.cons (.not (.isin (.fld (.v 0 (q 208 51 55)) .fun (q 208 51 59)) [(.iu,(q 208 61 64))] default (q 208 40 50) (q 208 40 65)) (q 208 36 65)) .nil)) (q 208 7 65)) (.iE 0 (q 209 15 19) (q 209 8 19) .nil) .nil ⟨208,4,209,19⟩ (.asg 2 (.call 31 (.cons (.fld (.v 0 (q 210 18 22)) .fun (q 210 18 26)) (.cons (.v 1 (q 210 28 33)) .nil)) (q 210 10 17) (q 210 10 34)) (q 210 4 7) (q 210 4 34) (.asg 3 (.b2 .mn (.b1 .len (.fld (.v 2 (q 211 19 22)) .params (q 211 19 29)) (q 211 15 18) (q 211 15 30)) (.b1 .len (.fld (.v 0 (q 211 36 40)) .args (q 211 36 45)) (q 211 32 35) (q 211 32 46)) (q 211 11 14) (q 211 11 47)) (q 211 4 8) (q 211 4 47) (.asg 4 (.fld (.v 2 (q 212 11 14)) .body (q 212 11 19)) (q 212 4 8) (q 212 4 19) (.gU (.cmp .lt (.v 3 (q 213 7 11)) (.b1 .len (.fld (.v 2 (q 213 18 21)) .params (q 213 18 28)) (q 213 14 17) (q 213 14 29)) (q 213 7 29)) (.asg 4 (.new .iu (.cons (.Rw (.fld (.v 2 (q 214 19 22)) .params (q 214 19 29)) (.v 3 (q 214 30 34)) (q 214 30 35) (q 214 19 36)) (.cons (.v 4 (q 214 38 42)) .nil)) (q 214 15 18) (q 214 15 43)) (q 214 8 12) (q 214 8 43) .nil) .nil ⟨213,4,214,43⟩ (.gU (.cmp .lt (.v 3 (q 215 7 11)) (.b1 .len (.fld (.v 0 (q 215 18 22)) .args (q 215 18 27)) (q 215 14 17) (q 215 14 28)) (q 215 7 28)) (.asg 4 (.new .App (.cons (.v 4 (q 216 19 23)) (.cons (.b1 .list (.Rw (.fld (.v 0 (q 216 30 34)) .args (q 216 30 39)) (.v 3 (q 216 40 44)) (q 216 40 45) (q 216 30 46)) (q 216 25 29) (q 216 25 47)) .nil)) (q 216 15 18) (q 216 15 48)) (q 216 8 12) (q 216 8 48) .nil) .nil ⟨215,4,216,48⟩ (.asg 5 (.comp (.tup (.cons (.sub (.fld (.v 2 (q 217 14 17)) .params (q 217 14 24)) (.v 6 (q 217 25 27)) (q 217 14 28)) (.cons (.sub (.fld (.v 0 (q 217 30 34)) .args (q 217 30 39)) (.v 6 (q 217 40 42)) (q 217 30 43)) .nil)) (q 217 13 44)) [(6,(q 217 49 51))] default (.range (q 217 55 60) (q 217 55 66)) (.v 3 (q 217 61 65)) .nil (sc [(".0",.local),("at",.local),("expr",.free),("lam",.free)]) (q 217 12 67)) (q 217 4 9) (q 217 4 67) (.ret (.new .Let (.cons (.v 5 (q 218 15 20)) (.cons (.v 4 (q 218 22 26)) (.cons (.bool false (q 218 28 33)) .nil))) (q 218 11 14) (q 218 11 34)) (q 218 4 34) .nil))))))))
noncomputable def Ls:Ss:=(.gU (.and (.cons (.isin (.v 0 (q 220 18 22)) [(.iu,(q 220 24 27))] default (q 220 7 17) (q 220 7 28)) (.cons (.isin (.fld (.v 0 (q 220 44 48)) .body (q 220 44 53)) [(.iu,(q 220 55 58))] default (q 220 33 43) (q 220 33 59)) .nil)) (q 220 7 59)) (.asg 1 (.fld (.v 0 (q 221 16 20)) .body (q 221 16 25)) (q 221 8 13) (q 221 8 25) (.gU (.b1 .all (.comp (.cmp .zB (.v 2 (q 222 16 20)) (.fld (.v 1 (q 222 28 33)) .params (q 222 28 40)) (q 222 16 40)) [(2,(q 222 45 49))] default .of (.fld (.v 0 (q 222 53 57)) .params (q 222 53 64)) .nil (sc [(".0",.local),("name",.local),("inner",.free)]) (q 222 15 65)) (q 222 11 14) (q 222 11 66)) (.ret (.new .iu (.cons (.bin .add (.b1 .list (.fld (.v 0 (q 223 28 32)) .params (q 223 28 39)) (q 223 23 27) (q 223 23 40)) (.b1 .list (.fld (.v 1 (q 223 48 53)) .params (q 223 48 60)) (q 223 43 47) (q 223 43 61)) (q 223 23 61)) (.cons (.fld (.v 1 (q 223 63 68)) .body (q 223 63 73)) .nil)) (q 223 19 22) (q 223 19 74)) (q 223 12 74) .nil) .nil ⟨222,8,223,74⟩ .nil)) .nil ⟨220,4,223,74⟩ (.iE 0 (q 224 11 15) (q 224 4 15) .nil))
noncomputable def vX:Ss:=(.gU (.or (.cons (.not (.isin (.v 0 (q 226 22 26)) [(.App,(q 226 28 31))] default (q 226 11 21) (q 226 11 32)) (q 226 7 32)) (.cons (.not (.isin (.fld (.v 0 (q 226 51 55)) .fun (q 226 51 59)) [(.Let,(q 226 61 64))] default (q 226 40 50) (q 226 40 65)) (q 226 36 65)) .nil)) (q 226 7 65)) (.iE 0 (q 227 15 19) (q 227 8 19) .nil) .nil ⟨226,4,227,19⟩ (.asg 2 (.call 31 (.cons (.fld (.v 0 (q 228 18 22)) .fun (q 228 18 26)) (.cons (.v 1 (q 228 28 33)) .nil)) (q 228 10 17) (q 228 10 34)) (q 228 4 7) (q 228 4 34) (.ret (.new .Let (.cons (.fld (.v 2 (q 229 15 18)) .binds (q 229 15 24)) (.cons (.new .App (.cons (.fld (.v 2 (q 229 30 33)) .body (q 229 30 38)) (.cons (.b1 .list (.fld (.v 0 (q 229 45 49)) .args (q 229 45 54)) (q 229 40 44) (q 229 40 55)) .nil)) (q 229 26 29) (q 229 26 56)) (.cons (.fld (.v 2 (q 229 58 61)) .pI (q 229 58 68)) .nil))) (q 229 11 14) (q 229 11 69)) (q 229 4 69) .nil)))
noncomputable def aae:Ss:=(.gU (.or (.cons (.not (.isin (.v 0 (q 231 22 26)) [(.iu,(q 231 28 31))] default (q 231 11 21) (q 231 11 32)) (q 231 7 32)) (.cons (.not (.isin (.fld (.v 0 (q 231 51 55)) .body (q 231 51 60)) [(.App,(q 231 62 65))] default (q 231 40 50) (q 231 40 66)) (q 231 36 66)) (.cons (.not (.isin (.fld (.fld (.v 0 (q 231 86 90)) .body (q 231 86 95)) .fun (q 231 86 99)) [(.Var,(q 231 101 104))] default (q 231 75 85) (q 231 75 105)) (q 231 71 105)) .nil))) (q 231 7 106)) (.iE 0 (q 232 15 19) (q 232 8 19) .nil) .nil ⟨231,4,232,19⟩ (.n7 [(2,(q 233 4 8)),(3,(q 233 10 14)),(4,(q 233 16 22))] (.cons (.fld (.fld (.fld (.v 0 (q 233 26 30)) .body (q 233 26 35)) .fun (q 233 26 39)) .name (q 233 26 44)) (.cons (.fld (.fld (.v 0 (q 233 46 50)) .body (q 233 46 55)) .args (q 233 46 60)) (.cons (.fld (.v 0 (q 233 62 66)) .params (q 233 62 73)) .nil))) (q 233 4 22) (q 233 25 74) (q 233 4 74) (.asg 5 (.bin .sub (.lM 3 (q 234 15 19) (q 234 11 14) (q 234 11 20)) (.lM 4 (q 234 27 33) (q 234 23 26) (q 234 23 34)) (q 234 11 34)) (q 234 4 8) (q 234 4 34) (.gU (.or (.cons (.cmp .lt (.v 5 (q 235 7 11)) (.int 0 (q 235 14 15)) (q 235 7 15)) (.cons (.cmp .le (.F5 (.v 1 (q 235 19 26)) (.v 2 (q 235 31 35)) (.int 0 (q 235 37 38)) (q 235 19 30) (q 235 19 39)) (.v 5 (q 235 43 47)) (q 235 19 47)) (.cons (.cmp .isin (.v 2 (q 235 51 55)) (.v 4 (q 235 59 65)) (q 235 51 65)) .nil))) (q 235 7 65)) (.iE 0 (q 236 15 19) (q 236 8 19) .nil) .nil ⟨235,4,236,19⟩ (.fr [(6,(q 237 8 10))] default (.range (q 237 14 19) (q 237 14 32)) (.lM 4 (q 237 24 30) (q 237 20 23) (q 237 20 31)) (.asg 7 (.dP 3 (.bin .add (.v 5 (q 238 20 24)) (.v 6 (q 238 27 29)) (q 238 20 29)) (q 238 15 19) (q 238 15 30)) (q 238 8 12) (q 238 8 30) (.gU (.or (.cons (.not (.isin (.v 7 (q 239 26 30)) [(.Var,(q 239 32 35))] default (q 239 15 25) (q 239 15 36)) (q 239 11 36)) (.cons (.cmp .ne (.fld (.v 7 (q 239 40 44)) .name (q 239 40 49)) (.dP 4 (.v 6 (q 239 60 62)) (q 239 53 59) (q 239 53 63)) (q 239 40 63)) (.cons (.cmp .isin (.dP 4 (.v 6 (q 239 74 76)) (q 239 67 73) (q 239 67 77)) (.sX 4 (.v 6 (q 239 89 91)) (q 239 81 87) (q 239 88 91) (q 239 81 92)) (q 239 67 92)) .nil))) (q 239 11 92)) (.iE 0 (q 240 19 23) (q 240 12 23) .nil) .nil ⟨239,8,240,23⟩ .nil)) ⟨237,4,240,23⟩ (.asg 8 (.b1 .list (.sX 3 (.v 5 (q 241 22 26)) (q 241 16 20) (q 241 21 26) (q 241 16 27)) (q 241 11 15) (q 241 11 28)) (q 241 4 8) (q 241 4 28) (.fr [(9,(q 242 8 11))] default .of (.v 8 (q 242 15 19)) (.gU (.b1 .any (.comp (.cmp .isin (.v 10 (q 243 16 20)) (.v 4 (q 243 24 30)) (q 243 16 30)) [(10,(q 243 35 39))] default .of (.call 25 (.cons (.v 9 (q 243 54 57)) .nil) (q 243 43 53) (q 243 43 58)) .nil (sc [(".0",.local),("name",.local),("params",.free)]) (q 243 15 59)) (q 243 11 14) (q 243 11 60)) (.iE 0 (q 244 19 23) (q 244 12 23) .nil) .nil ⟨243,8,244,23⟩ .nil) ⟨242,4,244,23⟩ (.ret (.ite (.cmp .eq (.v 8 (q 245 24 28)) (.lst .nil (q 245 32 34)) (q 245 24 34)) (.new .Var (.cons (.v 2 (q 245 15 19)) .nil) (q 245 11 14) (q 245 11 20)) (.new .App (.cons (.new .Var (.cons (.v 2 (q 245 48 52)) .nil) (q 245 44 47) (q 245 44 53)) (.cons (.v 8 (q 245 55 59)) .nil)) (q 245 40 43) (q 245 40 60)) (q 245 11 60)) (q 245 4 60) .nil))))))))
noncomputable def AK:Ss:=(.n7 [(2,(q 248 4 9)),(3,(q 248 11 15))] (.cons (.lst (.cons (.tup (.cons (.v 0 (q 248 21 25)) (.cons (.bool false (q 248 27 32)) .nil)) (q 248 20 33)) .nil) (q 248 19 34)) (.cons (.lst .nil (q 248 36 38)) .nil)) (q 248 4 15) (q 248 18 39) (q 248 4 39) (.Et (.v 2 (q 249 10 15)) (.wd [(4,(q 250 8 12)),(5,(q 250 14 22))] (.pop 2 (q 250 25 30) (q 250 25 34) (q 250 25 36)) (q 250 8 22) (q 250 8 36) (.asg 6 (.kj (.v 4 (q 251 16 20)) .parts .nil (q 251 16 26) (q 251 16 28)) (q 251 8 13) (q 251 8 28) (.gU (.and (.cons (.not (.v 5 (q 252 15 23)) (q 252 11 23)) (.cons (.cmp .ne (.v 6 (q 252 28 33)) (.lst .nil (q 252 37 39)) (q 252 28 39)) .nil)) (q 252 11 39)) (.ex (.append 2 (.tup (.cons (.v 4 (q 253 26 30)) (.cons (.bool true (q 253 32 36)) .nil)) (q 253 25 37)) (q 253 12 17) (q 253 12 24) (q 253 12 38)) (q 253 12 38) (.fr [(7,(q 254 16 20)),(8,(q 254 22 27))] (q 254 16 27) (.rev (q 254 31 39) (q 254 31 46)) (.v 6 (q 254 40 45)) (.ex (.append 2 (.tup (.cons (.v 7 (q 255 30 34)) (.cons (.bool false (q 255 36 41)) .nil)) (q 255 29 42)) (q 255 16 21) (q 255 16 28) (q 255 16 43)) (q 255 16 43) .nil) ⟨254,12,255,43⟩ (.cont (q 256 12 20) .nil))) .nil ⟨252,8,256,20⟩ (.asg 9 (.v 4 (q 257 16 20)) (q 257 8 13) (q 257 8 20) (.gU (.cmp .ne (.v 6 (q 258 11 16)) (.lst .nil (q 258 20 22)) (q 258 11 22)) (.asg 10 (.lM 6 (q 259 23 28) (q 259 19 22) (q 259 19 29)) (q 259 12 16) (q 259 12 29) (.asg 9 (.kj (.v 4 (q 260 20 24)) .gr (.cons (.kj (.v 4 (q 260 33 37)) .groups .nil (q 260 33 44) (q 260 33 46)) (.cons (.ur 3 (.bin .sub (.lM 3 (q 260 57 61) (q 260 53 56) (q 260 53 62)) (.v 10 (q 260 65 69)) (q 260 53 69)) (q 260 48 52) (q 260 53 70) (q 260 48 71)) .nil)) (q 260 20 32) (q 260 20 72)) (q 260 12 17) (q 260 12 72) (.del 3 (.bin .sub (.lM 3 (q 261 25 29) (q 261 21 24) (q 261 21 30)) (.v 10 (q 261 33 37)) (q 261 21 37)) (q 261 16 20) (q 261 21 38) (q 261 16 39) (q 261 12 39) .nil))) .nil ⟨258,8,261,39⟩ (.ex (.append 3 (.xl 1 (.v 9 (q 262 27 32)) (q 262 20 26) (q 262 20 33)) (q 262 8 12) (q 262 8 19) (q 262 8 34)) (q 262 8 34) .nil)))))) ⟨249,4,262,34⟩ (.ret (.dP 3 (.int 0 (q 263 16 17)) (q 263 11 15) (q 263 11 18)) (q 263 4 18) .nil)))
noncomputable def xr:Ss:=(.n7 [(2,(q 265 4 8)),(3,(q 265 10 15))] (.cons (.int 0 (q 265 19 20)) (.cons (.lst (.cons (.v 0 (q 265 23 27)) .nil) (q 265 22 28)) .nil)) (q 265 4 15) (q 265 18 29) (q 265 4 29) (.Et (.and (.cons (.v 3 (q 266 10 15)) (.cons (.cmp .le (.v 2 (q 266 20 24)) (.v 1 (q 266 28 32)) (q 266 20 32)) .nil)) (q 266 10 32)) (.asg 4 (.pop 3 (q 267 15 20) (q 267 15 24) (q 267 15 26)) (q 267 8 12) (q 267 8 26) (.AY 2 (.int 1 (q 268 16 17)) (q 268 8 12) (q 268 8 17) (.fr [(5,(q 269 12 16)),(6,(q 269 18 23))] (q 269 12 23) .of (.kj (.v 4 (q 269 27 31)) .parts .nil (q 269 27 37) (q 269 27 39)) (.ex (.append 3 (.v 5 (q 270 25 29)) (q 270 12 17) (q 270 12 24) (q 270 12 30)) (q 270 12 30) .nil) ⟨269,8,270,30⟩ .nil))) ⟨266,4,270,30⟩ (.ret (.ite (.not (.v 3 (q 271 23 28)) (q 271 19 28)) (.v 2 (q 271 11 15)) (.bin .add (.v 1 (q 271 34 38)) (.int 1 (q 271 41 42)) (q 271 34 42)) (q 271 11 42)) (q 271 4 42) .nil)))
noncomputable def GO:Ss:=(.asg 1 (.rfind (.v 0 (q 274 9 13)) "." (q 274 20 23) (q 274 9 19) (q 274 9 24)) (q 274 4 6) (q 274 4 24) (.ret (.ite (.and (.cons (.cmp .gt (.v 1 (q 275 24 26)) (.int 0 (q 275 29 30)) (q 275 24 30)) (.cons (.isdigit (.ur 0 (.bin .add (.v 1 (q 275 40 42)) (.int 1 (q 275 45 46)) (q 275 40 46)) (q 275 35 39) (q 275 40 47) (q 275 35 48)) (q 275 35 56) (q 275 35 58)) .nil)) (q 275 24 58)) (.sX 0 (.v 1 (q 275 17 19)) (q 275 11 15) (q 275 16 19) (q 275 11 20)) (.v 0 (q 275 64 68)) (q 275 11 68)) (q 275 4 68) .nil))
noncomputable def qK:Ss:=(.asg 2 (.call 40 (.cons (.v 1 (q 288 23 27)) .nil) (q 288 15 22) (q 288 15 28)) (q 288 8 12) (q 288 8 28) (.asg 3 (.bin .add (.Gb (.v 0 (q 289 17 21)) .dD 2 0 (q 289 17 29) (q 289 34 38) (q 289 40 41) (q 289 17 33) (q 289 17 42)) (.int 1 (q 289 45 46)) (q 289 17 46)) (q 289 8 14) (q 289 8 46) (.Et (.fin (.bin .add (.bin .add (.v 2 (q 290 14 18)) (.str "." (q 290 21 24)) (q 290 14 24)) (.b1 .toStr (.v 3 (q 290 31 37)) (q 290 27 30) (q 290 27 38)) (q 290 14 38)) (.v 0 (q 290 42 46)) .bU (q 290 42 54) (q 290 14 54)) (.AY 3 (.int 1 (q 291 22 23)) (q 291 12 18) (q 291 12 23) .nil) ⟨290,8,291,23⟩ (.zh (.v 0 (q 292 8 12)) .dD (.v 2 (q 292 21 25)) (.v 3 (q 292 29 35)) (q 292 8 20) (q 292 8 26) (q 292 8 35) (.ret (.bin .add (.bin .add (.v 2 (q 293 15 19)) (.str "." (q 293 22 25)) (q 293 15 25)) (.b1 .toStr (.v 3 (q 293 32 38)) (q 293 28 31) (q 293 28 39)) (q 293 15 39)) (q 293 8 39) .nil)))))
noncomputable def AP:Ss:=(.GP (.v 0 (q 302 8 12)) .many (.int 1 (q 302 21 22)) (q 302 8 17) (q 302 8 22) (.EN (.v 0 (q 303 8 12)) .bB (.or (.cons (.fld (.v 0 (q 303 27 31)) .bB (q 303 27 43)) (.cons (.v 1 (q 303 47 58)) .nil)) (q 303 27 58)) (q 303 8 24) (q 303 8 58) .nil))
noncomputable def xq:Ss:=(.n7 [(2,(q 305 4 9)),(3,(q 305 11 16))] (.cons (.oA (q 305 20 24) (q 305 20 26)) (.cons (.lst (.cons (.tup (.cons (.v 1 (q 305 30 34)) (.cons (.bool false (q 305 36 41)) .nil)) (q 305 29 42)) .nil) (q 305 28 43)) .nil)) (q 305 4 16) (q 305 19 44) (q 305 4 44) (.Et (.v 3 (q 306 10 15)) (.wd [(4,(q 307 8 12)),(5,(q 307 14 20))] (.pop 3 (q 307 23 28) (q 307 23 32) (q 307 23 34)) (q 307 8 20) (q 307 8 34) (.gU (.and (.cons (.isin (.v 4 (q 308 22 26)) [(.Var,(q 308 28 31))] default (q 308 11 21) (q 308 11 32)) (.cons (.cmp .eq (.fld (.v 4 (q 308 37 41)) .name (q 308 37 46)) (.v 0 (q 308 50 54)) (q 308 37 54)) .nil)) (q 308 11 54)) (.ex (.kj (.v 2 (q 309 12 17)) .note (.cons (.v 5 (q 309 23 29)) .nil) (q 309 12 22) (q 309 12 30)) (q 309 12 30) .nil) .nil ⟨308,8,309,30⟩ (.asg 6 (.or (.cons (.v 5 (q 310 17 23)) (.cons (.isin (.v 4 (q 310 38 42)) [(.iu,(q 310 44 47))] default (q 310 27 37) (q 310 27 48)) .nil)) (q 310 17 48)) (q 310 8 14) (q 310 8 48) (.fr [(7,(q 311 12 16)),(8,(q 311 18 23))] (q 311 12 23) .of (.kj (.v 4 (q 311 27 31)) .parts .nil (q 311 27 37) (q 311 27 39)) (.ex (.append 3 (.tup (.cons (.v 7 (q 312 26 30)) (.cons (.v 6 (q 312 32 38)) .nil)) (q 312 25 39)) (q 312 12 17) (q 312 12 24) (q 312 12 40)) (q 312 12 40) .nil) ⟨311,8,312,40⟩ .nil)))) ⟨306,4,312,40⟩ (.iE 2 (q 313 11 16) (q 313 4 16) .nil)))
noncomputable def GN:Ss:=(.ret (.or (.cons (.isin (.v 0 (q 315 22 26)) [(.Var,(q 315 29 32)),(.Lit,(q 315 34 37))] (q 315 28 38) (q 315 11 21) (q 315 11 39)) (.cons (.and (.cons (.isin (.v 0 (q 315 55 59)) [(.o9,(q 315 61 64))] default (q 315 44 54) (q 315 44 65)) (.cons (.cmp .eq (.fld (.v 0 (q 315 70 74)) .args (q 315 70 79)) (.lst .nil (q 315 83 85)) (q 315 70 85)) .nil)) (q 315 44 85)) .nil)) (q 315 11 86)) (q 315 4 86) .nil)
noncomputable def CQ:Ss:=(.gU (.call 44 (.cons (.v 1 (q 318 15 20)) .nil) (q 318 7 14) (q 318 7 21)) (.ret (.bool true (q 319 15 19)) (q 319 8 19) .nil) .nil ⟨318,4,319,19⟩ (.asg 4 (.call 43 (.cons (.v 0 (q 320 19 23)) (.cons (.v 2 (q 320 25 29)) .nil)) (q 320 11 18) (q 320 11 30)) (q 320 4 8) (q 320 4 30) (.gU (.and (.cons (.cmp .eq (.fld (.v 4 (q 321 7 11)) .many (q 321 7 16)) (.int 1 (q 321 20 21)) (q 321 7 21)) (.cons (.or (.cons (.not (.fld (.v 4 (q 321 31 35)) .bB (q 321 31 47)) (q 321 27 47)) (.cons (.isin (.v 1 (q 321 62 67)) [(.iu,(q 321 69 72))] default (q 321 51 61) (q 321 51 73)) .nil)) (q 321 27 73)) .nil)) (q 321 7 74)) (.ret (.bool true (q 322 15 19)) (q 322 8 19) .nil) .nil ⟨321,4,322,19⟩ (.ret (.and (.cons (.isin (.v 1 (q 323 22 27)) [(.iu,(q 323 29 32))] default (q 323 11 21) (q 323 11 33)) (.cons (.cmp .le (.call 39 (.cons (.v 1 (q 323 46 51)) (.cons (.v 3 (q 323 53 57)) .nil)) (q 323 38 45) (q 323 38 58)) (.v 3 (q 323 62 66)) (q 323 38 66)) .nil)) (q 323 11 66)) (q 323 4 66) .nil))))
noncomputable def xu:Ss:=(.gU (.or (.cons (.not (.isin (.v 0 (q 325 22 26)) [(.Let,(q 325 28 31))] default (q 325 11 21) (q 325 11 32)) (q 325 7 32)) (.cons (.fld (.v 0 (q 325 36 40)) .pI (q 325 36 47)) .nil)) (q 325 7 47)) (.iE 0 (q 326 15 19) (q 326 8 19) .nil) .nil ⟨325,4,326,19⟩ (.n7 [(3,(q 327 4 9)),(4,(q 327 11 15))] (.cons (.d0 (q 327 19 21)) (.cons (.lst .nil (q 327 23 25)) .nil)) (q 327 4 15) (q 327 18 26) (q 327 4 26) (.fr [(5,(q 328 8 12)),(6,(q 328 14 19))] (q 328 8 19) .of (.fld (.v 0 (q 328 23 27)) .binds (q 328 23 33)) (.gU (.call 45 (.cons (.v 5 (q 329 20 24)) (.cons (.v 6 (q 329 26 31)) (.cons (.fld (.v 0 (q 329 33 37)) .body (q 329 33 42)) (.cons (.v 2 (q 329 44 48)) .nil)))) (q 329 11 19) (q 329 11 49)) (.nk 3 (.v 5 (q 330 18 22)) (.v 6 (q 330 26 31)) (q 330 12 17) (q 330 12 23) (q 330 12 31) .nil) (.ex (.append 4 (.tup (.cons (.v 5 (q 332 25 29)) (.cons (.v 6 (q 332 31 36)) .nil)) (q 332 24 37)) (q 332 12 16) (q 332 12 23) (q 332 12 38)) (q 332 12 38) .nil) ⟨329,8,332,38⟩ .nil) ⟨328,4,332,38⟩ (.gU (.cmp .eq (.v 3 (q 333 7 12)) (.d0 (q 333 16 18)) (q 333 7 18)) (.iE 0 (q 334 15 19) (q 334 8 19) .nil) .nil ⟨333,4,334,19⟩ (.gU (.cmp .eq (.v 4 (q 335 7 11)) (.lst .nil (q 335 15 17)) (q 335 7 17)) (.ret (.call 32 (.cons (.fld (.v 0 (q 336 27 31)) .body (q 336 27 36)) (.cons (.v 3 (q 336 38 43)) (.cons (.v 1 (q 336 45 50)) .nil))) (q 336 15 26) (q 336 15 51)) (q 336 8 51) .nil) .nil ⟨335,4,336,51⟩ (.asg 7 (.d0 (q 337 11 13)) (q 337 4 8) (q 337 4 13) (.fr [(5,(q 338 8 12)),(6,(q 338 14 19))] (q 338 8 19) .of (.v 4 (q 338 23 27)) (.nk 7 (.v 5 (q 339 13 17)) (.kj (.v 1 (q 339 21 26)) .next (.cons (.v 5 (q 339 32 36)) .nil) (q 339 21 31) (q 339 21 37)) (q 339 8 12) (q 339 8 18) (q 339 8 37) .nil) ⟨338,4,339,37⟩ (.asg 8 (.b1 .dict (.v 3 (q 340 19 24)) (q 340 14 18) (q 340 14 25)) (q 340 4 11) (q 340 4 25) (.fr [(5,(q 341 8 12))] default .of (.v 7 (q 341 16 20)) (.nk 8 (.v 5 (q 342 16 20)) (.new .Var (.cons (.dP 7 (.v 5 (q 342 33 37)) (q 342 28 32) (q 342 28 38)) .nil) (q 342 24 27) (q 342 24 39)) (q 342 8 15) (q 342 8 21) (q 342 8 39) .nil) ⟨341,4,342,39⟩ (.ret (.new .Let (.cons (.comp (.tup (.cons (.dP 7 (.v 9 (q 343 22 26)) (q 343 17 21) (q 343 17 27)) (.cons (.v 10 (q 343 29 34)) .nil)) (q 343 16 35)) [(9,(q 343 40 44)),(10,(q 343 46 51))] (q 343 40 51) .of (.v 4 (q 343 55 59)) .nil (sc [(".0",.local),("name",.local),("bound",.local),("news",.free)]) (q 343 15 60)) (.cons (.call 32 (.cons (.fld (.v 0 (q 343 74 78)) .body (q 343 74 83)) (.cons (.v 8 (q 343 85 92)) (.cons (.v 1 (q 343 94 99)) .nil))) (q 343 62 73) (q 343 62 100)) (.cons (.bool false (q 343 102 107)) .nil))) (q 343 11 14) (q 343 11 108)) (q 343 4 108) .nil))))))))))
noncomputable def vf:Ss:=(.asg 2 (.int 0 (q 346 11 12)) (q 346 4 8) (q 346 4 12) (.gU (.cmp .lt (.v 1 (q 347 7 8)) (.lM 0 (q 347 15 21) (q 347 11 14) (q 347 11 22)) (q 347 7 22)) (.asg 2 (.dP 0 (.v 1 (q 348 22 23)) (q 348 15 21) (q 348 15 24)) (q 348 8 12) (q 348 8 24) .nil) .nil ⟨347,4,348,24⟩ (.asg 3 (.b2 .mx (.b1 .toInt (.v 2 (q 349 18 22)) (q 349 14 17) (q 349 14 23)) (.b1 .toInt (.bin .sub (.neg 1 (q 349 30 31) (q 349 29 31)) (.v 2 (q 349 34 38)) (q 349 29 38)) (q 349 25 28) (q 349 25 39)) (q 349 10 13) (q 349 10 40)) (q 349 4 7) (q 349 4 40) (.asg 4 (.bin .mod (.b1 .toInt (.bin .mul (.bin .add (.bin .add (.bin .add (.bin .mod (.b1 .toInt (.v 3 (q 350 21 24)) (q 350 17 20) (q 350 17 25)) (.int 2147483629 (q 350 28 38)) (q 350 17 38)) (.bin .mul (.bin .mul (.int 7919 (q 350 41 45)) (.v 1 (q 350 48 49)) (q 350 41 49)) (.v 1 (q 350 52 53)) (q 350 41 53)) (q 350 17 53)) (.bin .mul (.int 31 (q 350 56 58)) (.v 1 (q 350 61 62)) (q 350 56 62)) (q 350 17 62)) (.int 17 (q 350 65 67)) (q 350 17 67)) (.int 48271 (q 350 71 76)) (q 350 16 76)) (q 350 12 15) (q 350 12 77)) (.int 2147483647 (q 350 80 90)) (q 350 12 90)) (q 350 4 9) (q 350 4 90) (.ret (.cell (.cons (.bin .mul (.v 3 (q 351 12 15)) (.b1 .toInt (.cmp .ge (.v 3 (q 351 22 25)) (.bin .pow (.int 10 (q 351 29 31)) (.int 18 (q 351 35 37)) (q 351 29 37)) (q 351 22 37)) (q 351 18 21) (q 351 18 38)) (q 351 12 38)) (.cons (.v 4 (q 351 40 45)) .nil)) (q 351 11 46)) (q 351 4 46) .nil)))))
noncomputable def CO:Ss:=(.gU (.cmp .gt (.dP 0 (.int 0 (q 353 14 15)) (q 353 7 13) (q 353 7 16)) (.int 0 (q 353 19 20)) (q 353 7 20)) (.asg 2 (.bin .mod (.b1 .toInt (.dP 0 (.int 0 (q 354 27 28)) (q 354 20 26) (q 354 20 29)) (q 354 16 19) (q 354 16 30)) (.v 1 (q 354 33 36)) (q 354 16 36)) (q 354 8 13) (q 354 8 36) (.nk 0 (.int 0 (q 355 15 16)) (.bin .fdiv (.dP 0 (.int 0 (q 355 27 28)) (q 355 20 26) (q 355 20 29)) (.v 1 (q 355 33 36)) (q 355 20 36)) (q 355 8 14) (q 355 8 17) (q 355 8 36) (.iE 2 (q 356 15 20) (q 356 8 20) .nil))) .nil ⟨353,4,356,20⟩ (.nk 0 (.int 1 (q 357 11 12)) (.bin .mod (.b1 .toInt (.bin .add (.bin .mul (.dP 0 (.int 1 (q 357 27 28)) (q 357 20 26) (q 357 20 29)) (.int 39373 (q 357 32 37)) (q 357 20 37)) (.int 7 (q 357 40 41)) (q 357 20 41)) (q 357 16 19) (q 357 16 42)) (.int 2147483647 (q 357 45 55)) (q 357 16 55)) (q 357 4 10) (q 357 4 13) (q 357 4 55) (.ret (.bin .mod (.b1 .toInt (.bin .fdiv (.bin .mod (.b1 .toInt (.bin .mul (.dP 0 (.int 1 (q 358 26 27)) (q 358 19 25) (q 358 19 28)) (.dP 0 (.int 1 (q 358 38 39)) (q 358 31 37) (q 358 31 40)) (q 358 19 40)) (q 358 15 18) (q 358 15 41)) (.int 2147483629 (q 358 44 54)) (q 358 15 54)) (.int 32 (q 358 58 60)) (q 358 15 60)) (q 358 11 14) (q 358 11 61)) (.v 1 (q 358 64 67)) (q 358 11 67)) (q 358 4 67) .nil)))
noncomputable def GJ:Ss:=(.ret (.dP 1 (.call 48 (.cons (.v 0 (q 360 28 34)) (.cons (.lM 1 (q 360 40 46) (q 360 36 39) (q 360 36 47)) .nil)) (q 360 18 27) (q 360 18 48)) (q 360 11 17) (q 360 11 49)) (q 360 4 49) .nil)
noncomputable def sy:Ss:=(.ret (.comp (.v 2 (q 362 12 16)) [(2,(q 362 21 25))] default .of (.v 0 (q 362 29 32)) (.cons (.cmp .eq (.dP 0 (.v 2 (q 362 40 44)) (q 362 36 39) (q 362 36 45)) (.v 1 (q 362 49 53)) (q 362 36 53)) .nil) (sc [(".0",.local),("name",.local),("env",.free),("kind",.free)]) (q 362 11 54)) (q 362 4 54) .nil)
noncomputable def CN:Ss:=(.asg 2 (.b1 .dict (.v 0 (q 364 17 20)) (q 364 12 16) (q 364 12 21)) (q 364 4 9) (q 364 4 21) (.fr [(3,(q 365 8 12)),(4,(q 365 14 18))] (q 365 8 18) .of (.v 1 (q 365 22 26)) (.nk 2 (.v 3 (q 366 14 18)) (.v 4 (q 366 22 26)) (q 366 8 13) (q 366 8 19) (q 366 8 26) .nil) ⟨365,4,366,26⟩ (.iE 2 (q 367 11 16) (q 367 4 16) .nil)))
noncomputable def vg:Ss:=(.asg 3 (.call 50 (.cons (.v 2 (q 369 23 26)) (.cons (.v 1 (q 369 28 32)) .nil)) (q 369 12 22) (q 369 12 33)) (q 369 4 9) (q 369 4 33) (.gU (.and (.cons (.cmp .ne (.v 3 (q 370 7 12)) (.lst .nil (q 370 16 18)) (q 370 7 18)) (.cons (.cmp .gt (.call 48 (.cons (.v 0 (q 370 33 39)) (.cons (.int 3 (q 370 41 42)) .nil)) (q 370 23 32) (q 370 23 43)) (.int 0 (q 370 46 47)) (q 370 23 47)) .nil)) (q 370 7 47)) (.ret (.new .Var (.cons (.call 49 (.cons (.v 0 (q 371 28 34)) (.cons (.v 3 (q 371 36 41)) .nil)) (q 371 19 27) (q 371 19 42)) .nil) (q 371 15 18) (q 371 15 43)) (q 371 8 43) .nil) .nil ⟨370,4,371,43⟩ (.gU (.cmp .eq (.call 48 (.cons (.v 0 (q 372 17 23)) (.cons (.int 9 (q 372 25 26)) .nil)) (q 372 7 16) (q 372 7 27)) (.int 0 (q 372 31 32)) (q 372 7 32)) (.ret (.new .Prim (.cons (.str "error" (q 373 20 27)) (.cons (.lst .nil (q 373 29 31)) .nil)) (q 373 15 19) (q 373 15 32)) (q 373 8 32) .nil) .nil ⟨372,4,373,32⟩ (.gU (.cmp .eq (.v 1 (q 374 7 11)) (.str "i" (q 374 15 18)) (q 374 7 18)) (.ret (.new .Lit (.cons (.str "int" (q 375 19 24)) (.cons (.call 48 (.cons (.v 0 (q 375 36 42)) (.cons (.int 3 (q 375 44 45)) .nil)) (q 375 26 35) (q 375 26 46)) .nil)) (q 375 15 18) (q 375 15 47)) (q 375 8 47) .nil) .nil ⟨374,4,375,47⟩ (.gU (.cmp .eq (.v 1 (q 376 7 11)) (.str "f" (q 376 15 18)) (q 376 7 18)) (.ret (.new .iu (.cons (.lst (.cons (.str "x" (q 377 20 23)) .nil) (q 377 19 24)) (.cons (.call 49 (.cons (.v 0 (q 377 35 41)) (.cons (.lst (.cons (.new .Var (.cons (.str "x" (q 377 48 51)) .nil) (q 377 44 47) (q 377 44 52)) (.cons (.new .Lit (.cons (.str "int" (q 377 58 63)) (.cons (.int 1 (q 377 65 66)) .nil)) (q 377 54 57) (q 377 54 67)) (.cons (.new .App (.cons (.new .Var (.cons (.str "g" (q 377 77 80)) .nil) (q 377 73 76) (q 377 73 81)) (.cons (.lst (.cons (.new .Lit (.cons (.str "int" (q 377 88 93)) (.cons (.int 2 (q 377 95 96)) .nil)) (q 377 84 87) (q 377 84 97)) (.cons (.new .Var (.cons (.str "x" (q 377 103 106)) .nil) (q 377 99 102) (q 377 99 107)) .nil)) (q 377 83 108)) .nil)) (q 377 69 72) (q 377 69 109)) .nil))) (q 377 43 110)) .nil)) (q 377 26 34) (q 377 26 111)) .nil)) (q 377 15 18) (q 377 15 112)) (q 377 8 112) .nil) .nil ⟨376,4,377,112⟩ (.ret (.ite (.cmp .eq (.call 48 (.cons (.v 0 (q 378 37 43)) (.cons (.int 2 (q 378 45 46)) .nil)) (q 378 27 36) (q 378 27 47)) (.int 0 (q 378 51 52)) (q 378 27 52)) (.new .o9 (.cons (.str "D" (q 378 15 18)) (.cons (.lst .nil (q 378 20 22)) .nil)) (q 378 11 14) (q 378 11 23)) (.new .o9 (.cons (.str "C" (q 378 62 65)) (.cons (.lst (.cons (.new .Lit (.cons (.str "int" (q 378 72 77)) (.cons (.call 48 (.cons (.v 0 (q 378 89 95)) (.cons (.int 2 (q 378 97 98)) .nil)) (q 378 79 88) (q 378 79 99)) .nil)) (q 378 68 71) (q 378 68 100)) .nil) (q 378 67 101)) .nil)) (q 378 58 61) (q 378 58 102)) (q 378 11 102)) (q 378 4 102) .nil))))))
noncomputable def CP:Ss:=(.asg 2 (.new .App (.cons (.new .Var (.cons (.v 1 (q 380 19 23)) .nil) (q 380 15 18) (q 380 15 24)) (.cons (.lst (.cons (.new .Prim (.cons (.str "intAdd" (q 380 32 40)) (.cons (.lst (.cons (.new .Var (.cons (.str "n" (q 380 47 50)) .nil) (q 380 43 46) (q 380 43 51)) (.cons (.new .Lit (.cons (.str "int" (q 380 57 62)) (.cons (.neg 1 (q 380 65 66) (q 380 64 66)) .nil)) (q 380 53 56) (q 380 53 67)) .nil)) (q 380 42 68)) .nil)) (q 380 27 31) (q 380 27 69)) .nil) (q 380 26 70)) .nil)) (q 380 11 14) (q 380 11 71)) (q 380 4 8) (q 380 4 71) (.ret (.new .iu (.cons (.lst (.cons (.str "n" (q 381 16 19)) .nil) (q 381 15 20)) (.cons (.new .Case (.cons (.new .Var (.cons (.str "n" (q 381 31 34)) .nil) (q 381 27 30) (q 381 27 35)) (.cons (.str "v" (q 381 37 40)) (.cons (.lst (.cons (.new .Alt (.cons (.tup (.cons (.str "lit" (q 381 48 53)) (.cons (.str "int" (q 381 55 60)) (.cons (.int 0 (q 381 62 63)) .nil))) (q 381 47 64)) (.cons (.lst .nil (q 381 66 68)) (.cons (.new .Lit (.cons (.str "int" (q 381 74 79)) (.cons (.call 48 (.cons (.v 0 (q 381 91 97)) (.cons (.int 3 (q 381 99 100)) .nil)) (q 381 81 90) (q 381 81 101)) .nil)) (q 381 70 73) (q 381 70 102)) .nil))) (q 381 43 46) (q 381 43 103)) .nil) (q 381 42 104)) (.cons (.v 2 (q 381 106 110)) .nil)))) (q 381 22 26) (q 381 22 111)) .nil)) (q 381 11 14) (q 381 11 112)) (q 381 4 112) .nil))
noncomputable def rN:Ss:=(.n7 [(4,(q 383 4 8)),(5,(q 383 10 14))] (.cons (.call 49 (.cons (.v 0 (q 383 27 33)) (.cons (.lst (.cons (.str "x" (q 383 36 39)) (.cons (.str "y" (q 383 41 44)) (.cons (.str "z" (q 383 46 49)) .nil))) (q 383 35 50)) .nil)) (q 383 18 26) (q 383 18 51)) (.cons (.call 49 (.cons (.v 0 (q 383 62 68)) (.cons (.lst (.cons (.str "i" (q 383 71 74)) (.cons (.str "i" (q 383 76 79)) (.cons (.str "f" (q 383 81 84)) (.cons (.str "c" (q 383 86 89)) .nil)))) (q 383 70 90)) .nil)) (q 383 53 61) (q 383 53 91)) .nil)) (q 383 4 14) (q 383 17 92) (q 383 4 92) (.gU (.and (.cons (.cmp .eq (.v 5 (q 384 7 11)) (.str "f" (q 384 15 18)) (q 384 7 18)) (.cons (.cmp .eq (.call 48 (.cons (.v 0 (q 384 33 39)) (.cons (.int 3 (q 384 41 42)) .nil)) (q 384 23 32) (q 384 23 43)) (.int 0 (q 384 47 48)) (q 384 23 48)) .nil)) (q 384 7 48)) (.asg 6 (.call 56 (.cons (.v 0 (q 385 25 31)) (.cons (.v 1 (q 385 33 37)) (.cons (.call 51 (.cons (.v 2 (q 385 49 52)) (.cons (.lst (.cons (.tup (.cons (.v 4 (q 385 56 60)) (.cons (.str "f" (q 385 62 65)) .nil)) (q 385 55 66)) .nil) (q 385 54 67)) .nil)) (q 385 39 48) (q 385 39 68)) (.cons (.bin .sub (.v 3 (q 385 70 74)) (.int 1 (q 385 77 78)) (q 385 70 78)) .nil)))) (q 385 15 24) (q 385 15 79)) (q 385 8 12) (q 385 8 79) (.ret (.new .Let (.cons (.lst (.cons (.tup (.cons (.v 4 (q 386 21 25)) (.cons (.call 53 (.cons (.v 0 (q 386 37 43)) (.cons (.v 4 (q 386 45 49)) .nil)) (q 386 27 36) (q 386 27 50)) .nil)) (q 386 20 51)) .nil) (q 386 19 52)) (.cons (.v 6 (q 386 54 58)) (.cons (.bool true (q 386 60 64)) .nil))) (q 386 15 18) (q 386 15 65)) (q 386 8 65) .nil)) .nil ⟨384,4,386,65⟩ (.asg 7 (.and (.cons (.cmp .eq (.v 5 (q 387 13 17)) (.str "f" (q 387 21 24)) (q 387 13 24)) (.cons (.cmp .eq (.call 48 (.cons (.v 0 (q 387 39 45)) (.cons (.int 3 (q 387 47 48)) .nil)) (q 387 29 38) (q 387 29 49)) (.int 0 (q 387 53 54)) (q 387 29 54)) .nil)) (q 387 13 54)) (q 387 4 10) (q 387 4 54) (.asg 8 (.lst (.cons (.tup (.cons (.v 4 (q 388 14 18)) (.cons (.call 56 (.cons (.v 0 (q 388 30 36)) (.cons (.v 5 (q 388 38 42)) (.cons (.v 2 (q 388 44 47)) (.cons (.bin .sub (.v 3 (q 388 49 53)) (.int 1 (q 388 56 57)) (q 388 49 57)) .nil)))) (q 388 20 29) (q 388 20 58)) .nil)) (q 388 13 59)) .nil) (q 388 12 60)) (q 388 4 9) (q 388 4 60) (.asg 9 (.call 51 (.cons (.v 2 (q 389 23 26)) (.cons (.lst (.cons (.tup (.cons (.v 4 (q 389 30 34)) (.cons (.v 5 (q 389 36 40)) .nil)) (q 389 29 41)) .nil) (q 389 28 42)) .nil)) (q 389 13 22) (q 389 13 43)) (q 389 4 10) (q 389 4 43) (.gU (.cmp .eq (.call 48 (.cons (.v 0 (q 390 17 23)) (.cons (.int 4 (q 390 25 26)) .nil)) (q 390 7 16) (q 390 7 27)) (.int 0 (q 390 31 32)) (q 390 7 32)) (.ex (.append 8 (.tup (.cons (.str "w" (q 391 22 25)) (.cons (.call 56 (.cons (.v 0 (q 391 37 43)) (.cons (.str "i" (q 391 45 48)) (.cons (.v 2 (q 391 50 53)) (.cons (.bin .sub (.v 3 (q 391 55 59)) (.int 1 (q 391 62 63)) (q 391 55 63)) .nil)))) (q 391 27 36) (q 391 27 64)) .nil)) (q 391 21 65)) (q 391 8 13) (q 391 8 20) (q 391 8 66)) (q 391 8 66) (.nk 9 (.str "w" (q 392 15 18)) (.str "i" (q 392 22 25)) (q 392 8 14) (q 392 8 19) (q 392 8 25) .nil)) .nil ⟨390,4,392,25⟩ (.ret (.new .Let (.cons (.v 8 (q 393 15 20)) (.cons (.call 56 (.cons (.v 0 (q 393 32 38)) (.cons (.v 1 (q 393 40 44)) (.cons (.v 9 (q 393 46 52)) (.cons (.bin .sub (.v 3 (q 393 54 58)) (.int 1 (q 393 61 62)) (q 393 54 62)) .nil)))) (q 393 22 31) (q 393 22 63)) (.cons (.and (.cons (.v 7 (q 393 65 71)) (.cons (.cmp .eq (.lM 8 (q 393 80 85) (q 393 76 79) (q 393 76 86)) (.int 1 (q 393 90 91)) (q 393 76 91)) (.cons (.not (.call 26 (.cons (.v 4 (q 393 109 113)) (.cons (.sub (.dP 8 (.int 0 (q 393 121 122)) (q 393 115 120) (q 393 115 123)) (.int 1 (q 393 124 125)) (q 393 115 126)) .nil)) (q 393 101 108) (q 393 101 127)) (q 393 97 127)) .nil))) (q 393 65 128)) .nil))) (q 393 11 14) (q 393 11 129)) (q 393 4 129) .nil)))))))
noncomputable def vi:Ss:=(.n7 [(4,(q 395 4 8)),(5,(q 395 10 14))] (.cons (.call 49 (.cons (.v 0 (q 395 27 33)) (.cons (.lst (.cons (.str "x" (q 395 36 39)) (.cons (.str "y" (q 395 41 44)) (.cons (.str "v" (q 395 46 49)) .nil))) (q 395 35 50)) .nil)) (q 395 18 26) (q 395 18 51)) (.cons (.call 49 (.cons (.v 0 (q 395 62 68)) (.cons (.lst (.cons (.str "i" (q 395 71 74)) (.cons (.str "c" (q 395 76 79)) (.cons (.str "c" (q 395 81 84)) (.cons (.str "f" (q 395 86 89)) .nil)))) (q 395 70 90)) .nil)) (q 395 53 61) (q 395 53 91)) .nil)) (q 395 4 14) (q 395 17 92) (q 395 4 92) (.asg 6 (.call 56 (.cons (.v 0 (q 396 22 28)) (.cons (.v 5 (q 396 30 34)) (.cons (.v 2 (q 396 36 39)) (.cons (.bin .sub (.v 3 (q 396 41 45)) (.int 1 (q 396 48 49)) (q 396 41 49)) .nil)))) (q 396 12 21) (q 396 12 50)) (q 396 4 9) (q 396 4 50) (.n7 [(7,(q 397 4 10)),(8,(q 397 12 16)),(9,(q 397 18 23))] (.cons (.call 51 (.cons (.v 2 (q 397 37 40)) (.cons (.lst (.cons (.tup (.cons (.v 4 (q 397 44 48)) (.cons (.v 5 (q 397 50 54)) .nil)) (q 397 43 55)) .nil) (q 397 42 56)) .nil)) (q 397 27 36) (q 397 27 57)) (.cons (.lst .nil (q 397 59 61)) (.cons (.Nv (q 397 63 67)) .nil))) (q 397 4 23) (q 397 26 68) (q 397 4 68) (.gU (.cmp .eq (.v 5 (q 398 7 11)) (.str "c" (q 398 15 18)) (q 398 7 18)) (.asg 10 (.call 49 (.cons (.v 0 (q 399 25 31)) (.cons (.lst (.cons (.str "x" (q 399 34 37)) (.cons (.str "z" (q 399 39 42)) .nil)) (q 399 33 43)) .nil)) (q 399 16 24) (q 399 16 44)) (q 399 8 13) (q 399 8 44) (.ex (.append 8 (.new .Alt (.cons (.tup (.cons (.str "con" (q 400 25 30)) (.cons (.str "C" (q 400 32 35)) .nil)) (q 400 24 36)) (.cons (.lst (.cons (.v 10 (q 400 39 44)) .nil) (q 400 38 45)) (.cons (.call 56 (.cons (.v 0 (q 400 57 63)) (.cons (.v 1 (q 400 65 69)) (.cons (.call 51 (.cons (.v 7 (q 400 81 87)) (.cons (.lst (.cons (.tup (.cons (.v 10 (q 400 91 96)) (.cons (.str "i" (q 400 98 101)) .nil)) (q 400 90 102)) .nil) (q 400 89 103)) .nil)) (q 400 71 80) (q 400 71 104)) (.cons (.bin .sub (.v 3 (q 400 106 110)) (.int 1 (q 400 113 114)) (q 400 106 114)) .nil)))) (q 400 47 56) (q 400 47 115)) .nil))) (q 400 20 23) (q 400 20 116)) (q 400 8 12) (q 400 8 19) (q 400 8 117)) (q 400 8 117) .nil)) .nil ⟨398,4,400,117⟩ (.gU (.cmp .eq (.v 5 (q 401 7 11)) (.str "i" (q 401 15 18)) (q 401 7 18)) (.ex (.append 8 (.new .Alt (.cons (.tup (.cons (.str "lit" (q 402 25 30)) (.cons (.str "int" (q 402 32 37)) (.cons (.call 48 (.cons (.v 0 (q 402 49 55)) (.cons (.int 3 (q 402 57 58)) .nil)) (q 402 39 48) (q 402 39 59)) .nil))) (q 402 24 60)) (.cons (.lst .nil (q 402 62 64)) (.cons (.call 56 (.cons (.v 0 (q 402 76 82)) (.cons (.v 1 (q 402 84 88)) (.cons (.v 7 (q 402 90 96)) (.cons (.bin .sub (.v 3 (q 402 98 102)) (.int 1 (q 402 105 106)) (q 402 98 106)) .nil)))) (q 402 66 75) (q 402 66 107)) .nil))) (q 402 20 23) (q 402 20 108)) (q 402 8 12) (q 402 8 19) (q 402 8 109)) (q 402 8 109) .nil) .nil ⟨401,4,402,109⟩ (.gU (.and (.cons (.cmp .eq (.v 5 (q 403 7 11)) (.str "c" (q 403 15 18)) (q 403 7 18)) (.cons (.cmp .eq (.call 48 (.cons (.v 0 (q 403 33 39)) (.cons (.int 2 (q 403 41 42)) .nil)) (q 403 23 32) (q 403 23 43)) (.int 0 (q 403 47 48)) (q 403 23 48)) .nil)) (q 403 7 48)) (.ex (.append 8 (.new .Alt (.cons (.tup (.cons (.str "con" (q 404 25 30)) (.cons (.str "D" (q 404 32 35)) .nil)) (q 404 24 36)) (.cons (.lst .nil (q 404 38 40)) (.cons (.call 56 (.cons (.v 0 (q 404 52 58)) (.cons (.v 1 (q 404 60 64)) (.cons (.v 7 (q 404 66 72)) (.cons (.bin .sub (.v 3 (q 404 74 78)) (.int 1 (q 404 81 82)) (q 404 74 82)) .nil)))) (q 404 42 51) (q 404 42 83)) .nil))) (q 404 20 23) (q 404 20 84)) (q 404 8 12) (q 404 8 19) (q 404 8 85)) (q 404 8 85) .nil) (.asg 9 (.call 56 (.cons (.v 0 (q 406 26 32)) (.cons (.v 1 (q 406 34 38)) (.cons (.v 7 (q 406 40 46)) (.cons (.bin .sub (.v 3 (q 406 48 52)) (.int 1 (q 406 55 56)) (q 406 48 56)) .nil)))) (q 406 16 25) (q 406 16 57)) (q 406 8 13) (q 406 8 57) .nil) ⟨403,4,406,57⟩ (.ret (.new .Case (.cons (.v 6 (q 407 16 21)) (.cons (.v 4 (q 407 23 27)) (.cons (.v 8 (q 407 29 33)) (.cons (.v 9 (q 407 35 40)) .nil)))) (q 407 11 15) (q 407 11 41)) (q 407 4 41) .nil)))))))
noncomputable def vh:Ss:=(.asg 4 (.ite (.cmp .gt (.v 3 (q 409 34 38)) (.int 0 (q 409 41 42)) (q 409 34 42)) (.call 48 (.cons (.v 0 (q 409 20 26)) (.cons (.int 7 (q 409 28 29)) .nil)) (q 409 10 19) (q 409 10 30)) (.int 6 (q 409 48 49)) (q 409 10 49)) (q 409 4 7) (q 409 4 49) (.gU (.cmp .lt (.v 4 (q 410 7 10)) (.int 2 (q 410 13 14)) (q 410 7 14)) (.ret (.call 54 (.cons (.v 0 (q 411 24 30)) (.cons (.v 1 (q 411 32 36)) (.cons (.v 2 (q 411 38 41)) (.cons (.v 3 (q 411 43 47)) .nil)))) (q 411 15 23) (q 411 15 48)) (q 411 8 48) .nil) .nil ⟨410,4,411,48⟩ (.gU (.cmp .lt (.v 4 (q 412 7 10)) (.int 4 (q 412 13 14)) (q 412 7 14)) (.ret (.call 55 (.cons (.v 0 (q 413 25 31)) (.cons (.v 1 (q 413 33 37)) (.cons (.v 2 (q 413 39 42)) (.cons (.v 3 (q 413 44 48)) .nil)))) (q 413 15 24) (q 413 15 49)) (q 413 8 49) .nil) .nil ⟨412,4,413,49⟩ (.gU (.and (.cons (.cmp .eq (.v 4 (q 414 7 10)) (.int 4 (q 414 14 15)) (q 414 7 15)) (.cons (.cmp .eq (.v 1 (q 414 20 24)) (.str "i" (q 414 28 31)) (q 414 20 31)) .nil)) (q 414 7 31)) (.ret (.new .App (.cons (.call 56 (.cons (.v 0 (q 415 29 35)) (.cons (.str "f" (q 415 37 40)) (.cons (.v 2 (q 415 42 45)) (.cons (.bin .sub (.v 3 (q 415 47 51)) (.int 1 (q 415 54 55)) (q 415 47 55)) .nil)))) (q 415 19 28) (q 415 19 56)) (.cons (.lst (.cons (.call 56 (.cons (.v 0 (q 415 69 75)) (.cons (.str "i" (q 415 77 80)) (.cons (.v 2 (q 415 82 85)) (.cons (.bin .sub (.v 3 (q 415 87 91)) (.int 1 (q 415 94 95)) (q 415 87 95)) .nil)))) (q 415 59 68) (q 415 59 96)) .nil) (q 415 58 97)) .nil)) (q 415 15 18) (q 415 15 98)) (q 415 8 98) .nil) .nil ⟨414,4,415,98⟩ (.gU (.and (.cons (.cmp .eq (.v 4 (q 416 7 10)) (.int 5 (q 416 14 15)) (q 416 7 15)) (.cons (.cmp .eq (.v 1 (q 416 20 24)) (.str "i" (q 416 28 31)) (q 416 20 31)) .nil)) (q 416 7 31)) (.ret (.new .Prim (.cons (.str "intAdd" (q 417 20 28)) (.cons (.lst (.cons (.call 56 (.cons (.v 0 (q 417 41 47)) (.cons (.str "i" (q 417 49 52)) (.cons (.v 2 (q 417 54 57)) (.cons (.bin .sub (.v 3 (q 417 59 63)) (.int 1 (q 417 66 67)) (q 417 59 67)) .nil)))) (q 417 31 40) (q 417 31 68)) (.cons (.call 56 (.cons (.v 0 (q 417 80 86)) (.cons (.str "i" (q 417 88 91)) (.cons (.v 2 (q 417 93 96)) (.cons (.bin .sub (.v 3 (q 417 98 102)) (.int 1 (q 417 105 106)) (q 417 98 106)) .nil)))) (q 417 70 79) (q 417 70 107)) .nil)) (q 417 30 108)) .nil)) (q 417 15 19) (q 417 15 109)) (q 417 8 109) .nil) .nil ⟨416,4,417,109⟩ (.gU (.and (.cons (.cmp .gt (.v 4 (q 418 7 10)) (.int 3 (q 418 13 14)) (q 418 7 14)) (.cons (.cmp .lt (.v 4 (q 418 19 22)) (.int 6 (q 418 25 26)) (q 418 19 26)) (.cons (.cmp .eq (.v 1 (q 418 32 36)) (.str "f" (q 418 40 43)) (q 418 32 43)) .nil))) (q 418 7 44)) (.asg 5 (.call 49 (.cons (.v 0 (q 419 24 30)) (.cons (.lst (.cons (.str "x" (q 419 33 36)) (.cons (.str "y" (q 419 38 41)) .nil)) (q 419 32 42)) .nil)) (q 419 15 23) (q 419 15 43)) (q 419 8 12) (q 419 8 43) (.ret (.new .iu (.cons (.lst (.cons (.v 5 (q 420 20 24)) .nil) (q 420 19 25)) (.cons (.call 56 (.cons (.v 0 (q 420 37 43)) (.cons (.str "i" (q 420 45 48)) (.cons (.call 51 (.cons (.v 2 (q 420 60 63)) (.cons (.lst (.cons (.tup (.cons (.v 5 (q 420 67 71)) (.cons (.str "i" (q 420 73 76)) .nil)) (q 420 66 77)) .nil) (q 420 65 78)) .nil)) (q 420 50 59) (q 420 50 79)) (.cons (.bin .sub (.v 3 (q 420 81 85)) (.int 1 (q 420 88 89)) (q 420 81 89)) .nil)))) (q 420 27 36) (q 420 27 90)) .nil)) (q 420 15 18) (q 420 15 91)) (q 420 8 91) .nil)) .nil ⟨418,4,420,91⟩ (.gU (.and (.cons (.cmp .gt (.v 4 (q 421 7 10)) (.int 3 (q 421 13 14)) (q 421 7 14)) (.cons (.cmp .lt (.v 4 (q 421 19 22)) (.int 6 (q 421 25 26)) (q 421 19 26)) .nil)) (q 421 7 26)) (.ret (.new .o9 (.cons (.str "C" (q 422 19 22)) (.cons (.lst (.cons (.call 56 (.cons (.v 0 (q 422 35 41)) (.cons (.str "i" (q 422 43 46)) (.cons (.v 2 (q 422 48 51)) (.cons (.bin .sub (.v 3 (q 422 53 57)) (.int 1 (q 422 60 61)) (q 422 53 61)) .nil)))) (q 422 25 34) (q 422 25 62)) .nil) (q 422 24 63)) .nil)) (q 422 15 18) (q 422 15 64)) (q 422 8 64) .nil) .nil ⟨421,4,422,64⟩ (.ret (.call 52 (.cons (.v 0 (q 423 21 27)) (.cons (.v 1 (q 423 29 33)) (.cons (.v 2 (q 423 35 38)) .nil))) (q 423 11 20) (q 423 11 39)) (q 423 4 39) .nil))))))))
noncomputable def AN:Ss:=(.ret (.call 61 (.cons (.dP 0 (.int 0 (q 425 28 29)) (q 425 22 27) (q 425 22 30)) (.cons (.dP 0 (.int 1 (q 425 38 39)) (q 425 32 37) (q 425 32 40)) (.cons (.v 1 (q 425 42 46)) .nil))) (q 425 11 21) (q 425 11 47)) (q 425 4 47) .nil)
noncomputable def AM:Ss:=(.asg 3 (.b1 .dict (.v 0 (q 427 17 20)) (q 427 12 16) (q 427 12 21)) (q 427 4 9) (q 427 4 21) (.fr [(4,(q 428 8 10))] default (.range (q 428 14 19) (q 428 14 31)) (.lM 1 (q 428 24 29) (q 428 20 23) (q 428 20 30)) (.nk 3 (.dP 1 (.v 4 (q 429 20 22)) (q 429 14 19) (q 429 14 23)) (.dP 2 (.v 4 (q 429 34 36)) (q 429 27 33) (q 429 27 37)) (q 429 8 13) (q 429 8 24) (q 429 8 37) .nil) ⟨428,4,429,37⟩ (.iE 3 (q 430 11 16) (q 430 4 16) .nil)))
noncomputable def yI:Ss:=(.Et (.cmp .ne (.v 1 (q 432 10 14)) (.lst .nil (q 432 18 20)) (q 432 10 20)) (.gU (.cmp .ne (.dP 0 (.int 0 (q 433 17 18)) (q 433 11 16) (q 433 11 19)) (.str "fun" (q 433 23 28)) (q 433 11 28)) (.ret (.ite (.cmp .isin (.dP 0 (.int 0 (q 434 34 35)) (q 434 28 33) (q 434 28 36)) (.lst (.cons (.str "error" (q 434 41 48)) (.cons (.str "long" (q 434 50 56)) .nil)) (q 434 40 57)) (q 434 28 57)) (.v 0 (q 434 19 24)) (.tup (.cons (.str "stuck" (q 434 64 71)) .nil) (q 434 63 73)) (q 434 19 73)) (q 434 12 73) .nil) .nil ⟨433,8,434,73⟩ (.n7 [(3,(q 435 8 14)),(4,(q 435 16 20)),(5,(q 435 22 25))] (.cons (.dP 0 (.int 1 (q 435 35 36)) (q 435 29 34) (q 435 29 37)) (.cons (.dP 0 (.int 2 (q 435 45 46)) (q 435 39 44) (q 435 39 47)) (.cons (.dP 0 (.int 3 (q 435 55 56)) (q 435 49 54) (q 435 49 57)) .nil))) (q 435 8 25) (q 435 28 58) (q 435 8 58) (.asg 6 (.b2 .mn (.lM 3 (q 436 23 29) (q 436 19 22) (q 436 19 30)) (.lM 1 (q 436 36 40) (q 436 32 35) (q 436 32 41)) (q 436 15 18) (q 436 15 42)) (q 436 8 12) (q 436 8 42) (.asg 7 (.call 58 (.cons (.v 5 (q 437 28 31)) (.cons (.sX 3 (.v 6 (q 437 41 45)) (q 437 33 39) (q 437 40 45) (q 437 33 46)) (.cons (.sX 1 (.v 6 (q 437 54 58)) (q 437 48 52) (q 437 53 58) (q 437 48 59)) .nil))) (q 437 17 27) (q 437 17 60)) (q 437 8 14) (q 437 8 60) (.asg 0 (.ite (.cmp .lt (.v 6 (q 438 56 60)) (.lM 3 (q 438 67 73) (q 438 63 66) (q 438 63 74)) (q 438 56 74)) (.tup (.cons (.str "fun" (q 438 17 22)) (.cons (.ur 3 (.v 6 (q 438 31 35)) (q 438 24 30) (q 438 31 36) (q 438 24 37)) (.cons (.v 4 (q 438 39 43)) (.cons (.v 7 (q 438 45 51)) .nil)))) (q 438 16 52)) (.call 61 (.cons (.v 4 (q 438 91 95)) (.cons (.v 7 (q 438 97 103)) (.cons (.v 2 (q 438 105 109)) .nil))) (q 438 80 90) (q 438 80 110)) (q 438 16 110)) (q 438 8 13) (q 438 8 110) (.asg 1 (.ur 1 (.v 6 (q 439 20 24)) (q 439 15 19) (q 439 20 25) (q 439 15 26)) (q 439 8 12) (q 439 8 26) .nil)))))) ⟨432,4,439,26⟩ (.iE 0 (q 440 11 16) (q 440 4 16) .nil))
noncomputable def yH:Ss:=(.asg 3 (.call 61 (.cons (.fld (.v 0 (q 442 23 27)) .value (q 442 23 33)) (.cons (.v 1 (q 442 35 38)) (.cons (.v 2 (q 442 40 44)) .nil))) (q 442 12 22) (q 442 12 45)) (q 442 4 9) (q 442 4 45) (.gU (.cmp .isin (.dP 3 (.int 0 (q 443 13 14)) (q 443 7 12) (q 443 7 15)) (.lst (.cons (.str "error" (q 443 20 27)) (.cons (.str "stuck" (q 443 29 36)) (.cons (.str "long" (q 443 38 44)) .nil))) (q 443 19 45)) (q 443 7 45)) (.iE 3 (q 444 15 20) (q 444 8 20) .nil) .nil ⟨443,4,444,20⟩ (.asg 4 (.call 58 (.cons (.v 1 (q 445 24 27)) (.cons (.lst (.cons (.fld (.v 0 (q 445 30 34)) .name (q 445 30 39)) .nil) (q 445 29 40)) (.cons (.lst (.cons (.tup (.cons (.str "known" (q 445 44 51)) (.cons (.v 3 (q 445 53 58)) .nil)) (q 445 43 59)) .nil) (q 445 42 60)) .nil))) (q 445 13 23) (q 445 13 61)) (q 445 4 10) (q 445 4 61) (.fr [(5,(q 446 8 11))] default .of (.fld (.v 0 (q 446 15 19)) .alts (q 446 15 24)) (.gU (.and (.cons (.cmp .eq (.fld (.v 5 (q 447 11 14)) .key (q 447 11 18)) (.tup (.cons (.str "con" (q 447 23 28)) (.cons (.dP 3 (.int 1 (q 447 36 37)) (q 447 30 35) (q 447 30 38)) .nil)) (q 447 22 39)) (q 447 11 39)) (.cons (.cmp .eq (.dP 3 (.int 0 (q 447 50 51)) (q 447 44 49) (q 447 44 52)) (.str "con" (q 447 56 61)) (q 447 44 61)) .nil)) (q 447 11 61)) (.ret (.call 61 (.cons (.fld (.v 5 (q 448 30 33)) .body (q 448 30 38)) (.cons (.call 58 (.cons (.v 4 (q 448 51 57)) (.cons (.fld (.v 5 (q 448 59 62)) .names (q 448 59 68)) (.cons (.dP 3 (.int 2 (q 448 76 77)) (q 448 70 75) (q 448 70 78)) .nil))) (q 448 40 50) (q 448 40 79)) (.cons (.v 2 (q 448 81 85)) .nil))) (q 448 19 29) (q 448 19 86)) (q 448 12 86) .nil) .nil ⟨447,8,448,86⟩ (.gU (.and (.cons (.cmp .eq (.fld (.v 5 (q 449 11 14)) .key (q 449 11 18)) (.tup (.cons (.str "lit" (q 449 23 28)) (.cons (.str "int" (q 449 30 35)) (.cons (.dP 3 (.int 1 (q 449 43 44)) (q 449 37 42) (q 449 37 45)) .nil))) (q 449 22 46)) (q 449 11 46)) (.cons (.cmp .eq (.dP 3 (.int 0 (q 449 57 58)) (q 449 51 56) (q 449 51 59)) (.str "int" (q 449 63 68)) (q 449 51 68)) .nil)) (q 449 11 68)) (.ret (.call 61 (.cons (.fld (.v 5 (q 450 30 33)) .body (q 450 30 38)) (.cons (.v 4 (q 450 40 46)) (.cons (.v 2 (q 450 48 52)) .nil))) (q 450 19 29) (q 450 19 53)) (q 450 12 53) .nil) .nil ⟨449,8,450,53⟩ .nil)) ⟨446,4,450,53⟩ (.ret (.ite (.isNone (.fld (.v 0 (q 451 25 29)) .other (q 451 25 35)) (q 451 39 43) (q 451 25 43)) (.tup (.cons (.str "stuck" (q 451 12 19)) .nil) (q 451 11 21)) (.call 61 (.cons (.fld (.v 0 (q 451 60 64)) .other (q 451 60 70)) (.cons (.v 4 (q 451 72 78)) (.cons (.v 2 (q 451 80 84)) .nil))) (q 451 49 59) (q 451 49 85)) (q 451 11 85)) (q 451 4 85) .nil)))))
noncomputable def sx:Ss:=(.nk 2 (.int 0 (q 453 9 10)) (.bin .sub (.dP 2 (.int 0 (q 453 19 20)) (q 453 14 18) (q 453 14 21)) (.int 1 (q 453 24 25)) (q 453 14 25)) (q 453 4 8) (q 453 4 11) (q 453 4 25) (.gU (.cmp .lt (.dP 2 (.int 0 (q 454 12 13)) (q 454 7 11) (q 454 7 14)) (.int 0 (q 454 17 18)) (q 454 7 18)) (.ret (.tup (.cons (.str "long" (q 455 16 22)) .nil) (q 455 15 24)) (q 455 8 24) .nil) .nil ⟨454,4,455,24⟩ (.gU (.cmp .eq (.v 0 (q 456 7 11)) (.str "known" (q 456 15 22)) (q 456 7 22)) (.iE 1 (q 457 15 18) (q 457 8 18) .nil) .nil ⟨456,4,457,18⟩ (.gU (.isin (.v 0 (q 458 18 22)) [(.Var,(q 458 24 27))] default (q 458 7 17) (q 458 7 28)) (.ret (.call 57 (.cons (.dP 1 (.fld (.v 0 (q 459 30 34)) .name (q 459 30 39)) (q 459 26 29) (q 459 26 40)) (.cons (.v 2 (q 459 42 46)) .nil)) (q 459 15 25) (q 459 15 47)) (q 459 8 47) .nil) .nil ⟨458,4,459,47⟩ (.gU (.isin (.v 0 (q 460 18 22)) [(.Lit,(q 460 24 27))] default (q 460 7 17) (q 460 7 28)) (.ret (.tup (.cons (.str "int" (q 461 16 21)) (.cons (.fld (.v 0 (q 461 23 27)) .value (q 461 23 33)) .nil)) (q 461 15 34)) (q 461 8 34) .nil) .nil ⟨460,4,461,34⟩ (.gU (.isin (.v 0 (q 462 18 22)) [(.iu,(q 462 24 27))] default (q 462 7 17) (q 462 7 28)) (.ret (.tup (.cons (.str "fun" (q 463 16 21)) (.cons (.fld (.v 0 (q 463 23 27)) .params (q 463 23 34)) (.cons (.fld (.v 0 (q 463 36 40)) .body (q 463 36 45)) (.cons (.v 1 (q 463 47 50)) .nil)))) (q 463 15 51)) (q 463 8 51) .nil) .nil ⟨462,4,463,51⟩ (.gU (.isin (.v 0 (q 464 18 22)) [(.App,(q 464 24 27))] default (q 464 7 17) (q 464 7 28)) (.ret (.call 59 (.cons (.call 61 (.cons (.fld (.v 0 (q 465 38 42)) .fun (q 465 38 46)) (.cons (.v 1 (q 465 48 51)) (.cons (.v 2 (q 465 53 57)) .nil))) (q 465 27 37) (q 465 27 58)) (.cons (.comp (.tup (.cons (.v 10 (q 465 62 65)) (.cons (.v 1 (q 465 67 70)) .nil)) (q 465 61 71)) [(10,(q 465 76 79))] default .of (.fld (.v 0 (q 465 83 87)) .args (q 465 83 92)) .nil (sc [(".0",.local),("arg",.local),("env",.free)]) (q 465 60 93)) (.cons (.v 2 (q 465 95 99)) .nil))) (q 465 15 26) (q 465 15 100)) (q 465 8 100) .nil) .nil ⟨464,4,465,100⟩ (.gU (.isin (.v 0 (q 466 18 22)) [(.o9,(q 466 24 27))] default (q 466 7 17) (q 466 7 28)) (.ret (.tup (.cons (.str "con" (q 467 16 21)) (.cons (.fld (.v 0 (q 467 23 27)) .name (q 467 23 32)) (.cons (.comp (.tup (.cons (.v 9 (q 467 36 39)) (.cons (.v 1 (q 467 41 44)) .nil)) (q 467 35 45)) [(9,(q 467 50 53))] default .of (.fld (.v 0 (q 467 57 61)) .args (q 467 57 66)) .nil (sc [(".0",.local),("arg",.local),("env",.free)]) (q 467 34 67)) .nil))) (q 467 15 68)) (q 467 8 68) .nil) .nil ⟨466,4,467,68⟩ (.gU (.isin (.v 0 (q 468 18 22)) [(.Case,(q 468 24 28))] default (q 468 7 17) (q 468 7 29)) (.ret (.call 60 (.cons (.v 0 (q 469 27 31)) (.cons (.v 1 (q 469 33 36)) (.cons (.v 2 (q 469 38 42)) .nil))) (q 469 15 26) (q 469 15 43)) (q 469 8 43) .nil) .nil ⟨468,4,469,43⟩ (.gU (.isin (.v 0 (q 470 18 22)) [(.Let,(q 470 24 27))] default (q 470 7 17) (q 470 7 28)) (.asg 3 (.b1 .dict (.v 1 (q 471 22 25)) (q 471 17 21) (q 471 17 26)) (q 471 8 14) (q 471 8 26) (.fr [(4,(q 472 12 16)),(5,(q 472 18 22))] (q 472 12 22) .of (.fld (.v 0 (q 472 26 30)) .binds (q 472 26 36)) (.g9 3 (.v 4 (q 473 19 23)) (.v 5 (q 473 28 32)) (.fld (.v 0 (q 473 44 48)) .pI (q 473 44 55)) (.v 1 (q 473 61 64)) (q 473 12 18) (q 473 12 24) (q 473 34 40) (q 473 34 64) (q 473 27 65) (q 473 12 65) .nil) ⟨472,8,473,65⟩ (.ret (.call 61 (.cons (.fld (.v 0 (q 474 26 30)) .body (q 474 26 35)) (.cons (.v 3 (q 474 37 43)) (.cons (.v 2 (q 474 45 49)) .nil))) (q 474 15 25) (q 474 15 50)) (q 474 8 50) .nil))) .nil ⟨470,4,474,50⟩ (.gU (.cmp .eq (.fld (.v 0 (q 475 7 11)) .op (q 475 7 14)) (.str "error" (q 475 18 25)) (q 475 7 25)) (.ret (.tup (.cons (.str "error" (q 476 16 23)) .nil) (q 476 15 25)) (q 476 8 25) .nil) .nil ⟨475,4,476,25⟩ (.asg 6 (.comp (.call 61 (.cons (.v 8 (q 477 25 28)) (.cons (.v 1 (q 477 30 33)) (.cons (.v 2 (q 477 35 39)) .nil))) (q 477 14 24) (q 477 14 40)) [(8,(q 477 45 48))] default .of (.fld (.v 0 (q 477 52 56)) .args (q 477 52 61)) .nil (sc [(".0",.local),("arg",.local),("_law_value",.globalImplicit),("env",.free),("fuel",.free)]) (q 477 13 62)) (q 477 4 10) (q 477 4 62) (.fr [(7,(q 478 8 13))] default .of (.v 6 (q 478 17 23)) (.gU (.cmp .ne (.dP 7 (.int 0 (q 479 17 18)) (q 479 11 16) (q 479 11 19)) (.str "int" (q 479 23 28)) (q 479 11 28)) (.iE 7 (q 480 19 24) (q 480 12 24) .nil) .nil ⟨479,8,480,24⟩ .nil) ⟨478,4,480,24⟩ (.ret (.tup (.cons (.str "int" (q 481 12 17)) (.cons (.bin .add (.sub (.dP 6 (.int 0 (q 481 26 27)) (q 481 19 25) (q 481 19 28)) (.int 1 (q 481 29 30)) (q 481 19 31)) (.sub (.dP 6 (.int 1 (q 481 41 42)) (q 481 34 40) (q 481 34 43)) (.int 1 (q 481 44 45)) (q 481 34 46)) (q 481 19 46)) .nil)) (q 481 11 47)) (q 481 4 47) .nil))))))))))))))
noncomputable def AL:Ss:=(.asg 2 (.new .iu (.cons (.lst (.cons (.str "a" (q 483 17 20)) (.cons (.str "b" (q 483 22 25)) .nil)) (q 483 16 26)) (.cons (.new .Prim (.cons (.str "intAdd" (q 483 33 41)) (.cons (.lst (.cons (.new .Var (.cons (.str "a" (q 483 48 51)) .nil) (q 483 44 47) (q 483 44 52)) (.cons (.new .Var (.cons (.str "b" (q 483 58 61)) .nil) (q 483 54 57) (q 483 54 62)) .nil)) (q 483 43 63)) .nil)) (q 483 28 32) (q 483 28 64)) .nil)) (q 483 12 15) (q 483 12 65)) (q 483 4 9) (q 483 4 65) (.asg 3 (.call 61 (.cons (.v 0 (q 484 23 27)) (.cons (.d1 "g" (.tup (.cons (.v 2 (q 484 36 41)) (.cons (.d0 (q 484 43 45)) .nil)) (q 484 35 46)) (q 484 30 33) (q 484 29 47)) (.cons (.cell (.cons (.v 1 (q 484 50 54)) .nil) (q 484 49 55)) .nil))) (q 484 12 22) (q 484 12 56)) (q 484 4 9) (q 484 4 56) (.ret (.ite (.cmp .isin (.dP 3 (.int 0 (q 485 30 31)) (q 485 24 29) (q 485 24 32)) (.lst (.cons (.str "int" (q 485 37 42)) (.cons (.str "con" (q 485 44 49)) .nil)) (q 485 36 50)) (q 485 24 50)) (.sX 3 (.int 2 (q 485 18 19)) (q 485 11 16) (q 485 17 19) (q 485 11 20)) (.sX 3 (.int 1 (q 485 63 64)) (q 485 56 61) (q 485 62 64) (q 485 56 65)) (q 485 11 65)) (q 485 4 65) .nil)))
noncomputable def k5:Ss:=(.asg 1 (.call 47 (.cons (.v 0 (q 496 23 29)) (.cons (.int 0 (q 496 31 32)) .nil)) (q 496 13 22) (q 496 13 33)) (q 496 4 10) (q 496 4 33) (.asg 2 (.rule (.call 48 (.cons (.v 1 (q 497 31 37)) (.cons (.int 8 (q 497 39 40)) .nil)) (q 497 21 30) (q 497 21 41)) (.l8 (.lst (.cons (.str "x" (q 497 50 53)) (.cons (.str "y" (q 497 55 58)) (.cons (.str "z" (q 497 60 63)) (.cons (.str "w" (q 497 65 68)) (.cons (.str "v" (q 497 70 73)) (.cons (.str "g" (q 497 75 78)) .nil)))))) (q 497 49 79)) (q 497 43 48) (q 497 43 80)) (q 497 11 20) (q 497 11 81)) (q 497 4 8) (q 497 4 81) (.asg 3 (.call 56 (.cons (.v 1 (q 498 21 27)) (.cons (.str "i" (q 498 29 32)) (.cons (.d0 (q 498 34 36)) (.cons (.bin .add (.int 2 (q 498 38 39)) (.call 48 (.cons (.v 1 (q 498 52 58)) (.cons (.int 2 (q 498 60 61)) .nil)) (q 498 42 51) (q 498 42 62)) (q 498 38 62)) .nil)))) (q 498 11 20) (q 498 11 63)) (q 498 4 8) (q 498 4 63) (.asg 4 (.call 62 (.cons (.v 3 (q 499 21 25)) (.cons (.int 250 (q 499 27 30)) .nil)) (q 499 10 20) (q 499 10 31)) (q 499 4 7) (q 499 4 31) (.gU (.cmp .eq (.v 4 (q 500 7 10)) (.tup (.cons (.str "long" (q 500 15 21)) .nil) (q 500 14 23)) (q 500 7 23)) (.ret (.bool true (q 501 15 19)) (q 501 8 19) .nil) .nil ⟨500,4,501,19⟩ (.asg 5 (.call 38 (.cons (.v 3 (q 502 18 22)) (.cons (.v 2 (q 502 24 28)) .nil)) (q 502 11 17) (q 502 11 29)) (q 502 4 8) (q 502 4 29) (.ret (.and (.cons (.cmp .eq (.call 62 (.cons (.v 5 (q 503 22 26)) (.cons (.int 3000 (q 503 28 32)) .nil)) (q 503 11 21) (q 503 11 33)) (.v 4 (q 503 37 40)) (q 503 11 40)) (.cons (.cmp .eq (.call 62 (.cons (.call 38 (.cons (.v 5 (q 503 63 67)) (.cons (.v 2 (q 503 69 73)) .nil)) (q 503 56 62) (q 503 56 74)) (.cons (.int 3000 (q 503 76 80)) .nil)) (q 503 45 55) (q 503 45 81)) (.v 4 (q 503 85 88)) (q 503 45 88)) .nil)) (q 503 11 88)) (q 503 4 88) .nil)))))))
noncomputable def Vo:Ss:=(.ret (.call 34 (.cons (.v 0 (q 488 18 22)) (.cons (.v 1 (q 488 24 29)) .nil)) (q 488 13 17) (q 488 13 30)) (q 488 13 30) .nil)
noncomputable def Vn:Ss:=(.ret (.call 34 (.cons (.call 33 (.cons (.v 0 (q 489 23 27)) .nil) (q 489 18 22) (q 489 18 28)) (.cons (.v 1 (q 489 30 35)) .nil)) (q 489 13 17) (q 489 13 36)) (q 489 13 36) .nil)
noncomputable def Vm:Ss:=(.ret (.call 36 (.cons (.v 0 (q 490 25 29)) (.cons (.v 1 (q 490 31 36)) .nil)) (q 490 13 24) (q 490 13 37)) (q 490 13 37) .nil)
noncomputable def Vk:Ss:=(.ret (.call 46 (.cons (.v 0 (q 491 21 25)) (.cons (.v 1 (q 491 27 32)) (.cons (.int 4 (q 491 34 35)) .nil))) (q 491 13 20) (q 491 13 36)) (q 491 13 36) .nil)
noncomputable def Vj:Ss:=(.ret (.call 46 (.cons (.call 34 (.cons (.v 0 (q 492 26 30)) (.cons (.v 1 (q 492 32 37)) .nil)) (q 492 21 25) (q 492 21 38)) (.cons (.v 1 (q 492 40 45)) (.cons (.int 0 (q 492 47 48)) .nil))) (q 492 13 20) (q 492 13 49)) (q 492 13 49) .nil)
noncomputable def Vi:Ss:=(.ret (.call 37 (.cons (.v 0 (q 493 17 21)) (.cons (.d1 "g" (.int 2 (q 493 29 30)) (q 493 24 27) (q 493 23 31)) .nil)) (q 493 13 16) (q 493 13 32)) (q 493 13 32) .nil)
noncomputable def jJ:Ss:=(.fr [(2,(q 284 12 16))] default .of (.v 1 (q 284 20 25)) (.zh (.v 0 (q 285 12 16)) .bU (.v 2 (q 285 25 29)) (.bool true (q 285 33 37)) (q 285 12 24) (q 285 12 30) (q 285 12 37) .nil) ⟨284,8,285,37⟩ .nil)
noncomputable def F8(i:Nat):Option Fn:=List.getD ([some ⟨1,1,yJ⟩,some ⟨1,1,AO⟩,some ⟨3,3,vY⟩,some ⟨1,1,yL⟩,some ⟨1,1,AQ⟩,some ⟨3,3,v5⟩,some ⟨1,1,yQ⟩,some ⟨1,2,AW⟩,some ⟨3,3,wb⟩,some ⟨1,1,yN⟩,some ⟨1,1,AU⟩,some ⟨3,3,v8⟩,some ⟨1,3,yM⟩,some ⟨1,4,AS⟩,some ⟨3,5,v7⟩,some ⟨1,2,wa⟩,some ⟨1,3,yP⟩,some ⟨3,5,vl⟩,some ⟨1,1,yO⟩,some ⟨1,2,AV⟩,some ⟨3,3,v9⟩,some ⟨1,1,vZ⟩,some ⟨1,2,yK⟩,some ⟨3,3,vk⟩,some ⟨3,6,Lr⟩,some ⟨1,8,qJ⟩,some ⟨2,2,GL⟩,some ⟨2,4,n6⟩,some ⟨5,8,s9⟩,some ⟨3,4,vj⟩,some ⟨2,13,o8⟩,some ⟨2,2,GH⟩,some ⟨3,3,vW⟩,some ⟨1,1,Vp⟩,some ⟨2,7,Vq⟩,some ⟨1,3,Ls⟩,some ⟨2,3,vX⟩,some ⟨2,11,aae⟩,some ⟨2,11,AK⟩,some ⟨2,7,xr⟩,some ⟨1,2,GO⟩,some ⟨2,4,qK⟩,some ⟨2,2,AP⟩,some ⟨2,9,xq⟩,some ⟨1,1,GN⟩,some ⟨4,5,CQ⟩,some ⟨3,11,xu⟩,some ⟨2,5,vf⟩,some ⟨2,3,CO⟩,some ⟨2,2,GJ⟩,some ⟨2,3,sy⟩,some ⟨2,5,CN⟩,some ⟨3,4,vg⟩,some ⟨2,3,CP⟩,some ⟨4,10,rN⟩,some ⟨4,11,vi⟩,some ⟨4,6,vh⟩,some ⟨2,2,AN⟩,some ⟨3,5,AM⟩,some ⟨3,8,yI⟩,some ⟨3,6,yH⟩,some ⟨3,11,sx⟩,some ⟨2,4,AL⟩,.none,some ⟨2,2,Vo⟩,some ⟨2,2,Vn⟩,some ⟨2,2,Vm⟩,some ⟨2,2,Vk⟩,some ⟨2,2,Vj⟩,.none,some ⟨2,2,Vi⟩]:List (Option Fn)) i .none
noncomputable def nms(i:Nat):List String×Nat:=List.getD ([(["self"],1),(["self"],1),(["self","groups","parts"],3),(["self"],1),(["self"],1),(["self","groups","parts"],3),(["self"],1),(["self","arg"],1),(["self","groups","parts"],3),(["self"],1),(["self"],1),(["self","groups","parts"],3),(["self","name","expr"],1),(["self","scope","name","expr"],2),(["self","groups","parts","binds","at"],4),(["self","alt"],1),(["self","found","at"],3),(["self","groups","parts","alts","at"],5),(["self"],1),(["self","arg"],1),(["self","groups","parts"],3),(["self"],1),(["self","arg"],1),(["self","groups","parts"],3),(["names","groups","scope","found","number","name"],6),(["expr","found","tasks","node","bound","groups","part","scope"],8),(["name","expr"],2),(["self","groups","group","name"],2),(["self","names","scope","groups","news","found","number","at"],8),(["self","node","names","found"],4),(["self","expr","tasks","done","node","names","news","parts","groups","part","scope","many","found"],13),(["expr","fresh"],2),(["expr","instead","fresh"],3),(["expr"],1),(["expr","fresh","lam","many","body","binds","at"],6),(["expr","inner","name"],2),(["expr","fresh","let"],3),(["expr","arities","name","args","params","left","at","last","kept","arg","name"],10),(["expr","change","tasks","done","node","is_ready","parts","part","scope","found","many"],11),(["expr","most","many","tasks","node","part","scope"],7),(["name","at"],2),(["self","base","told","number"],4),(["self","in_function"],2),(["name","expr","found","tasks","node","inside","within","part","scope"],9),(["expr"],1),(["name","bound","body","most","uses"],5),(["expr","fresh","most","taken","kept","name","bound","news","instead","name","bound"],9),(["script","k","cell","big","mixed"],5),(["source","top","digit"],3),(["source","things"],2),(["env","kind","name"],2),(["env","rows","found","name","kind"],5),(["source","kind","env","names"],4),(["source","name","less"],3),(["source","kind","env","deep","name","sort","rest","is_rec","binds","within"],10),(["source","kind","env","deep","name","sort","value","within","alts","other","field"],11),(["source","kind","env","deep","way","name"],6),(["thing","fuel"],2),(["env","names","things","found","at"],5),(["value","args","fuel","params","body","env","many","within"],8),(["expr","env","fuel","value","within","alt"],6),(["expr","env","fuel","within","name","tied","values","value","arg","arg","arg"],8),(["expr","fuel","adder","value"],4),(["script","source","rule","expr","due","once"],6),(["node","fresh"],2),(["node","fresh"],2),(["node","fresh"],2),(["node","fresh"],2),(["node","fresh"],2),([],0),(["node","fresh"],2),(["self","names","name"],3)]:List (List String×Nat)) i ([],0)
noncomputable def ah(W:Nat):Nat->lq
 |0=>fun _ _ _ _=>False
 |d+1=>fun f args mu Q=>mM (F8 f) (fun fn=>gd (aL args.length fn.np) (dJ W (ah W d) d fn.body ⟨args.map .fz++lu (fn.ns-fn.np) .un,mu⟩ (eL Q))) False
noncomputable def xd(x:X):Nat×X×X×List (Nat×Pos):=by
 cases x with
 |nil=>exact(1,.nil,.nil,[])
 |cons a b=>exact(2,b,.nil,[])
 |v=>exact(3,.nil,.nil,[])
 |int=>exact(4,.nil,.nil,[])
 |comp e ks r ik it cs sc p=>exact(0,e,cs,ks)
 |_=>exact(0,.nil,.nil,[])
noncomputable def sd(s:Ss):Ss×Ss×Ss×X×List (Nat×Pos):=by
 cases s with
 |asg k x p q r=>exact(r,.nil,.nil,.nil,[])
 |wd k x p q r=>exact(r,.nil,.nil,.nil,[])
 |n7 k x p o q r=>exact(r,.nil,.nil,.nil,[])
 |nk k i x p o q r=>exact(r,.nil,.nil,.nil,[])
 |ex x q r=>exact(r,.nil,.nil,.nil,[])
 |gU c a b q r=>exact(r,a,b,.nil,[])
 |Et c b q r=>exact(r,b,.nil,c,[])
 |fr ks p ik it b q r=>exact(r,b,.nil,.nil,ks)
 |del k lo a b c q r=>exact(r,.nil,.nil,.nil,[])
 |AY k x p q r=>exact(r,.nil,.nil,.nil,[])
 |ret x q r=>exact(.nil,.nil,.nil,x,[])
 |_=>exact(.nil,.nil,.nil,.nil,[])
end Mine
namespace Mine
open PySem PySem.W PySem.Calls PyProof.Rows PyProof.Rows.LCg
inductive Ow|fz|rest|py|cd|cell(i j:Nat)|slot(k:Nat)|m8(n:Nat)
noncomputable def Ow.ctorIdx(t:Ow):Nat:=@Ow.casesOn (fun _=>Nat) t 0 1 2 3 (fun _ _=>4) (fun _=>5) (fun _=>6)
structure ck where
 kh:Str->Int
 cls:Cl->aZ
 cFresh:aZ
 cUses:aZ
 tab:aZ
 fn:Nat->aZ
 lam:Nat->aZ->Obj->aZ->Obj->Prop
inductive Pl|loc(x:Str)|so(c:aZ)|cmp(C:aZ)(x:Str)
noncomputable def Pl.ctorIdx(t:Pl):Nat:=@Pl.casesOn (fun _=>Nat) t (fun _=>0) (fun _=>1) (fun _ _=>2)
structure Gh where
 ow:aZ->Option Ow
 ca:List aZ
 nw:List (aZ×Obj)
 pv:Pl->Option aj
noncomputable def Ob(g:Gh)(a:aZ)(X:Ow)(o:Obj):Prop:=g.ow a=some X/\(a,o)∈g.nw
noncomputable abbrev Fz(g:Gh)(a:aZ)(o:Obj):Prop:=Ob g a .fz o
noncomputable abbrev nj(vs:List aj):Obj:={cls:=.type "tuple",data:=.seq vs.toArray}
noncomputable abbrev dq(vs:List aj)(n:Nat):Obj:=listOf vs.toArray n
noncomputable def fdT:List String:=["kind","alts","args","binds","body","fresh","fun","in_function","instead","is_rec","key","many","name","names","op","other","params","value","numbers","avoided"]
noncomputable def ZG(i:Nat):Str:=af (fdT.getD i "")
noncomputable def eA(f:Fd):Str:=ZG f.n
noncomputable def Wx(kh:Str->Int):List Str->List aj->List cw->Prop
 |[],[],[]=>True
 |f::fs,v::vs,d::ds=>(∃t,d=⟨kh f,.str f t,v⟩)/\Wx kh fs vs ds
 |_,_,_=>False
section
variable(P:ck)
inductive aaw(g:Gh)(k i:Nat)(v:aj):Prop
 |mk(a c:aZ)(o oc:Obj)(ai c':aZ)(o':Obj)(h1:v=.ref a)(h2:Fz g a o)(h3:P.lam k c o c' o')(h7:Fz g c' o')(h4:Fz g c oc)(h5:oc.data=.cell (some (.ref ai)))(h6:g.ca[i]?=some ai)
noncomputable def tY(g:Gh)(k i:Nat)(v:aj):Prop:=
 match jP k with
 |none=>False
 |some (lj,false)=>v=.ref (P.fn lj)
 |some (_,true)=>aaw P g k i v
inductive VO{β:Type}(p:β->Prop)(q:List β->Prop)(vs:List β):Prop
 |mk(v:β)(r:List β)(h1:vs=v::r)(h2:p v)(h3:q r)
inductive abG(g:Gh)(tr:List aj->Prop)(v:aj):Prop
 |mk(a:aZ)(vs:List aj)(h1:v=.ref a)(h2:Fz g a (nj vs))(h3:tr vs)
inductive abO(g:Gh)(tr:List aj->Prop)(v:aj):Prop
 |mk(a:aZ)(vs:List aj)(n:Nat)(h1:v=.ref a)(h2:Fz g a (dq vs n))(h3:tr vs)
inductive abZ(g:Gh)(tre:aZ->List cw->Prop)(nd:Prop)(v:aj):Prop
 |mk(a:aZ)(k6:List cw)(n:Nat)(h1:v=.ref a)(h2:Fz g a (dictOf k6 n))(h3:tre a k6)(h4:nd)
inductive abR(g:Gh)(nY:Option aZ)(tr:aj->Prop)(v:aj):Prop
 |mk(a b:aZ)(vx:aj)(h1:nY=some a)(h2:v=.ref b)(h3:Fz g b (nj [vx,.ref a]))(h4:tr vx)
inductive abU(g:Gh)(c:Cl)(tr:List aj->Prop)(v:aj):Prop
 |mk(a dx:aZ)(k6:List cw)(n:Nat)(vs:List aj)(h1:v=.ref a)(h2:Fz g a (iC (P.cls c) dx))(h3:Fz g dx (dictOf k6 n))(h4:tr vs)(h5:Wx P.kh ((fieldsOf c).map eA) vs k6)
mutual
noncomputable def Tr(g:Gh)(nY:Option aZ):MV->aj->Prop
 |.none,v=>v=.none
 |.bool b,v=>v=.bool b
 |.int z,v=>∃t,v=.int z t
 |.str s,v=>∃t,v=.str s t
 |.tup xs,v=>abG g (e7 g xs) v
 |.lst xs,v=>abO g (e7 g xs) v
 |.bI es,v=>abZ g (fun a ds=>nh g a es ds) (es.map (·.1)).Nodup v
 |.g9 x,v=>abR g nY (Tr g none x) v
 |.inst c fs,v=>abU P g c (e7 g fs) v
 |.ref i,v=>∃a,g.ca[i]?=some a/\v=.ref a
 |.xj k i,v=>tY P g k i v
noncomputable def e7(g:Gh):List MV->List aj->Prop
 |[],vs=>vs=[]
 |x::xs,vs=>VO (Tr g none x) (e7 g xs) vs
noncomputable def nh(g:Gh)(a:aZ):List (Str×MV)->List cw->Prop
 |[],ds=>ds=[]
 |e::es,ds=>VO (LM g a e) (nh g a es) ds
noncomputable def LM(g:Gh)(a:aZ):Str×MV->cw->Prop
 |(k,m),d=>∃t v,d=⟨P.kh k,.str k t,v⟩/\Tr g (some a) m v
end
structure GLe(g g':Gh):Prop where
 fz:∀a o,Fz g a o->Fz g' a o
 ca:∀(i:Nat)(a:aZ),g.ca[i]?=some a->g'.ca[i]?=some a
theorem GLe.rfl:GLe g g:=⟨fun _ _ h=>h,fun _ _ h=>h⟩
theorem GLe.trans(h:GLe g g')(h':GLe g' vF):GLe g vF:=⟨fun a o e=>h'.fz a o (h.fz a o e),fun i a e=>h'.ca i a (h.ca i a e)⟩
variable{P}
theorem tY.ref(c:tY P g k i v):∃a,v=.ref a:=by
 unfold tY at c
 generalize jP k=o at c
 induction o with
 |none=>exact c.elim
 |some p=>
  obtain⟨lj,b⟩:=p
  induction b with
  |false=>exact⟨_,c⟩
  |true=>obtain⟨a,_,_,_,_,_,_,e,_⟩:=(show aaw P g k i v from c);exact⟨a,e⟩
theorem tY.mono(h:GLe g g')(c:tY P g k i v):tY P g' k i v:=by
 unfold tY at c⊢
 induction hk:jP k with
 |none=>rw[hk]at c;exact c
 |some p=>
  obtain⟨lj,b⟩:=p
  rw[hk]at c
  induction b with
  |false=>exact c
  |true=>
   obtain⟨a,c,o,oc,ai,c',o',h1,h2,h3,h7,h4,h5,h6⟩:=c
   exact⟨a,c,o,oc,ai,c',o',h1,h.fz _ _ h2,h3,h.fz _ _ h7,h.fz _ _ h4,h5,h.ca _ _ h6⟩
mutual
theorem Tr.mono(h:GLe g g'):∀{m:MV}{v:aj},Tr P g nY m v->Tr P g' nY m v
 |.none,_,e=>e
 |.bool b,_,e=>e
 |.int z,_,e=>e
 |.str s,_,e=>e
 |.tup xs,_,e=>by obtain⟨a,vs,h1,h2,h3⟩:=e;exact⟨a,vs,h1,h.fz _ _ h2,e7.mono h (xs:=xs) h3⟩
 |.lst xs,_,e=>by obtain⟨a,vs,n,h1,h2,h3⟩:=e;exact⟨a,vs,n,h1,h.fz _ _ h2,e7.mono h (xs:=xs) h3⟩
 |.bI es,_,e=>by obtain⟨a,vs,n,h1,h2,h3,h4⟩:=e;exact⟨a,vs,n,h1,h.fz _ _ h2,nh.mono h (es:=es) h3,h4⟩
 |.g9 x,_,e=>by obtain⟨a,b,vx,h1,h2,h3,h4⟩:=e;exact⟨a,b,vx,h1,h2,h.fz _ _ h3,Tr.mono h (m:=x) h4⟩
 |.inst c fs,_,e=>by obtain⟨a,dx,k6,n,vs,h1,h2,h3,h4,h5⟩:=e;exact⟨a,dx,k6,n,vs,h1,h.fz _ _ h2,h.fz _ _ h3,e7.mono h (xs:=fs) h4,h5⟩
 |.ref i,_,e=>by obtain⟨a,h1,h2⟩:=e;exact⟨a,h.ca _ _ h1,h2⟩
 |.xj k i,_,e=>tY.mono h (show tY P g k i _ from e)
theorem e7.mono(h:GLe g g'):∀{xs:List MV}{vs:List aj},e7 P g xs vs->e7 P g' xs vs
 |[],_,e=>by exact e
 |x::xs,_,e=>by obtain⟨v,r,h1,h2,h3⟩:=e;exact⟨v,r,h1,Tr.mono h h2,e7.mono h h3⟩
theorem nh.mono(h:GLe g g'):∀{es:List (Str×MV)}{ds:List cw},nh P g a es ds->nh P g' a es ds
 |[],_,e=>by exact e
 |x::xs,_,e=>by obtain⟨v,r,h1,h2,h3⟩:=e;exact⟨v,r,h1,LM.mono h h2,nh.mono h h3⟩
theorem LM.mono(h:GLe g g'):∀{e:Str×MV}{d:cw},LM P g a e d->LM P g' a e d
 |(k,m),_,e=>by obtain⟨t,v,h1,h2⟩:=e;exact⟨t,v,h1,Tr.mono h h2⟩
end
theorem Tr.nY(e:Tr P g none m v):Tr P g h m v:=by
 cases m with
 |g9 x=>obtain⟨a,b,vx,h1,_⟩:=e;exact(ay _ (cN h1)).elim
 |_=>exact e
theorem e7.nil:e7 P g [] []:=by rfl
theorem e7.cons(h:Tr P g none x v)(hs:e7 P g xs vs):e7 P g (x::xs) (v::vs):=by exact⟨v,vs,rfl,h,hs⟩
theorem e7.inv(h:e7 P g (x::xs) vs):VO (Tr P g none x) (e7 P g xs) vs:=by exact h
theorem e7.len:∀{xs:List MV}{vs:List aj},e7 P g xs vs->vs.length=xs.length:=by
 intro xs
 induction xs with
 |nil=>intro vs e;cases(show vs=[]from e);rfl
 |cons x xs cz=>intro vs e;obtain⟨v,r,rfl,_,h⟩:=e.inv;exact congrArg (· +1) (cz h)
theorem e7.append:∀{xs ys:List MV}{vs us:List aj},e7 P g xs vs->e7 P g ys us->e7 P g (xs++ys) (vs++us):=by
 intro xs
 induction xs with
 |nil=>intro _ vs _ e h;cases(show vs=[]from e);exact h
 |cons x xs cz=>intro _ vs _ e h;obtain⟨v,r,rfl,h1,h2⟩:=e.inv;exact .cons h1 (cz h2 h)
theorem e7.one(h:Tr P g none x v):e7 P g [x] [v]:=.cons h .nil
theorem e7.take:∀(n:Nat){xs:List MV}{vs:List aj},e7 P g xs vs->e7 P g (xs.take n) (vs.take n):=by
 intro n
 induction n with
 |zero=>exact fun _=>e7.nil
 |succ n cz=>
  intro xs vs e
  induction xs with
  |nil=>cases(show vs=[]from e);exact e7.nil
  |cons x xs=>obtain⟨v,r,rfl,h1,h2⟩:=e.inv;exact e7.cons h1 (cz h2)
theorem e7.drop:∀(n:Nat){xs:List MV}{vs:List aj},e7 P g xs vs->e7 P g (xs.drop n) (vs.drop n):=by
 intro n
 induction n with
 |zero=>exact fun e=>e
 |succ n cz=>
  intro xs vs e
  induction xs with
  |nil=>cases(show vs=[]from e);exact e7.nil
  |cons x xs=>obtain⟨v,r,rfl,h1,h2⟩:=e.inv;exact cz h2
theorem e7.set:∀{n:Nat}{xs:List MV}{vs:List aj}{x:MV}{v:aj},e7 P g xs vs->Tr P g none x v->e7 P g (xs.set n x) (vs.set n v):=by
 intro n xs
 induction xs generalizing n with
 |nil=>intro vs _ _ e _;cases(show vs=[]from e);exact e7.nil
 |cons y xs cz=>
  intro vs _ _ e h
  obtain⟨v,r,rfl,h1,h2⟩:=e.inv
  induction n with
  |zero=>exact e7.cons h h2
  |succ n=>exact e7.cons h1 (cz h2 h)
variable(P)
noncomputable def my(g:Gh)(a:aZ)(X:Ow):MV->Prop
 |.lst xs=>∃vs n,Ob g a X (dq vs n)/\e7 P g xs vs
 |.bI es=>∃k6 n,Ob g a X (dictOf k6 n)/\nh P g a es k6/\(es.map (·.1)).Nodup
 |_=>False
inductive abX(g:Gh)(i:Nat)(av nums:List (Str×MV)):Prop
 |mk(x dx a1 a2:aZ)(t1 t2:Tok)(n:Nat)(d1:List cw)(n1:Nat)(d2:List cw)(n2:Nat)(h1:g.ca[i]?=some x)(h2:Ob g x (.cell i 0) (iC P.cFresh dx))
   (h3:Ob g dx (.cell i 1) (dictOf [⟨P.kh (eA .bU),.str (eA .bU) t1,.ref a1⟩,⟨P.kh (eA .dD),.str (eA .dD) t2,.ref a2⟩] n))
   (h4:Ob g a1 (.cell i 2) (dictOf d1 n1)) (h5:nh P g a1 av d1/\(av.map (·.1)).Nodup) (h6:Ob g a2 (.cell i 3) (dictOf d2 n2)) (h7:nh P g a2 nums d2/\(nums.map (·.1)).Nodup)
inductive abE(g:Gh)(i:Nat)(m:Int)(b:Bool):Prop
 |mk(x dx:aZ)(t1 t2 t3:Tok)(n:Nat)(h1:g.ca[i]?=some x)(h2:Ob g x (.cell i 0) (iC P.cUses dx))
   (h3:Ob g dx (.cell i 1) (dictOf [⟨P.kh (eA .many),.str (eA .many) t1,.int m t3⟩,⟨P.kh (eA .bB),.str (eA .bB) t2,.bool b⟩] n))
inductive ab0(g:Gh)(i:Nat)(xs:List MV):Prop
 |mk(a:aZ)(vs:List aj)(n:Nat)(h1:g.ca[i]?=some a)(h2:Ob g a (.cell i 0) (dq vs n))(h3:e7 P g xs vs)
noncomputable def lI(g:Gh)(i:Nat):MC->Prop
 |.lst xs=>ab0 P g i xs
 |.fresh av nums=>abX P g i av nums
 |.uses m b=>abE P g i m b
 |.tab k=>∃ps:Array aj,g.ca[i]?=some P.tab/\Ob g P.tab (.cell i 0) (qS ps)/\(k=0->ps=#[])
inductive SlF(g:Gh)(p:Option Pl)(m:MV):Prop
 |mk(q:Pl)(v:aj)(h1:p=some q)(h2:g.pv q=some v)(h3:Tr P g none m v)
inductive SlO(g:Gh)(p:Option Pl)(k:Nat)(m:MV):Prop
 |mk(q:Pl)(a:aZ)(h1:p=some q)(h2:g.pv q=some (.ref a))(h3:my P g a (.slot k) m)
noncomputable def lH(g:Gh)(p:Option Pl)(k:Nat):Option Slot->Prop
 |none=>True
 |some .un=>True
 |some (.fz m)=>SlF P g p m
 |some (.own m)=>SlO P g p k m
noncomputable def VR(g:Gh)(n:Nat)(b:Bool)(m:MV)(v:aj):Prop:=@bE (fun _=>Prop) (Tr P g none m v) (∃a,v=.ref a/\my P g a (.m8 n) m) b
structure Fm where
 h₀:eO
 L:aZ
 fenv:Env
 outer:List Env
 base:eO
 A₀:b9
structure Cx where
 env:Env
 pl:Nat->Option Pl
 pcs:List aZ
 cds:List aZ
 ro:Bool:=false
noncomputable def Cx.vG(cx:Cx):Ow:=if cx.ro then .fz else .py
@[simp] theorem Cx.ZU {cx:Cx} {k:Nat}:cx.vG≠ .slot k:=by unfold Cx.vG;split<;>simp
@[simp] theorem Cx.aax {cx:Cx} {k:Nat}:cx.vG≠ .m8 k:=by unfold Cx.vG;split<;>simp
@[simp] theorem Cx.ZW {cx:Cx} {i j:Nat}:cx.vG≠ .cell i j:=by unfold Cx.vG;split<;>simp
@[simp] theorem Cx.UU {cx:Cx}:cx.vG≠ .cd:=by unfold Cx.vG;split<;>simp
@[simp] theorem Cx.ZV {cx:Cx}:cx.vG≠ .rest:=by unfold Cx.vG;split<;>simp
theorem Cx.UT(cx:Cx):cx.vG=.py\/cx.vG=.fz:=by unfold Cx.vG;split<;>simp
structure Bs(f:Fm)(h:eO)(mu:List MC)(g:Gh):Prop where
 N:News f.h₀ f.L h g.nw
 ow:∀a X,g.ow a=some X->∃o,(a,o)∈g.nw
 len:mu.length=g.ca.length
 lo:(∃p,p∈g.nw)/\∀p∈g.nw,2<p.1
 mu:∀i c,mu[i]?=some c->lI P g i c
structure Rel(f:Fm)(cx:Cx)(h:eO)(st:St)(g:Gh):Prop extends Bs P f h st.mu g where
 F:Fr f.h₀ f.L h (fun x=>g.pv (.loc x))
 gi:∀c∈cx.pcs,∃o,Ob g c cx.vG o/\o.data=.cell (g.pv (.so c))
 cds:∀C∈cx.cds,∃o,Ob g C .cd o/\NsObj o (fun x=>g.pv (.cmp C x))
 sl:∀k,lH P g (cx.pl k) k st.loc[k]?
 gY:∀C x v,g.pv (.cmp C x)=some v->∃o,(C,o)∈g.nw
structure Kq(n:Nat)(g g':Gh):Prop extends GLe g g' where
 rest:∀a o,Ob g a .rest o->Ob g' a .rest o
 m8:∀j a o,j<n->Ob g a (.m8 j) o->Ob g' a (.m8 j) o
 zz:∀a o,(a,o)∈g.nw->∃o',(a,o')∈g'.nw
structure Kp(n:Nat)(g g':Gh):Prop extends Kq n g g' where
 pv:∀q v,g.pv q=some v->g'.pv q=some v
variable{P}
theorem Kq.refl:Kq n g g:=⟨.rfl,fun _ _ h=>h,fun _ _ _ _ h=>h,fun _ o h=>⟨o,h⟩⟩
theorem Kq.trans(h:Kq n g g')(h':Kq m g' vF)(hm:n<=m):Kq n g vF:=⟨h.toGLe.trans h'.toGLe,fun a o e=>h'.rest a o (h.rest a o e),fun j a o l e=>h'.m8 j a o (by lia) (h.m8 j a o l e),fun a o e=>let ⟨o',e'⟩:=h.zz a o e;h'.zz a o' e'⟩
theorem Kp.refl:Kp n g g:=⟨.refl,fun _ _ h=>h⟩
theorem Kp.trans(h:Kp n g g')(h':Kp m g' vF)(hm:n<=m):Kp n g vF:=⟨h.toKq.trans h'.toKq hm,fun q v e=>h'.pv q v (h.pv q v e)⟩
end
structure Le(S:Ow->Prop)(g g':Gh):Prop where
 ob:∀a X o,S X->Ob g a X o->Ob g' a X o
 ca:∀(i:Nat)(a:aZ),g.ca[i]?=some a->g'.ca[i]?=some a
 nw:∀a o,(a,o)∈g.nw->∃o',(a,o')∈g'.nw
section
variable{P:ck}{S:Ow->Prop}{g g':Gh}{f:Fm}{cx:Cx}{h h':eO}{st:St}{n:Nat}
theorem Le.gZ(L:Le S g g')(hS:S .fz):GLe g g':=⟨fun a o e=>L.ob a .fz o hS e,L.ca⟩
theorem Le.kp(L:Le S g g')(hS:S .fz)(hr:S .rest)(ht:∀j,j<n->S (.m8 j))(hp:g'.pv=g.pv:=by rfl):Kp n g g':=⟨⟨L.gZ hS,fun a o e=>L.ob a _ o hr e,fun j a o hj e=>L.ob a _ o (ht j hj) e,L.nw⟩,fun q v e=>by rw[hp];exact e⟩
theorem my.cases{p:Prop}{a:aZ}{X:Ow}{m:MV}(o:my P g a X m)(kl:∀xs vs n,m=.lst xs->Ob g a X (dq vs n)->e7 P g xs vs->p)(kd:∀es k6 n,m=.bI es->Ob g a X (dictOf k6 n)->nh P g a es k6->(es.map (·.1)).Nodup->p):p:=by
 cases m with
 |lst xs=>obtain⟨vs,n,h1,h2⟩:=o;exact kl xs vs n rfl h1 h2
 |bI es=>obtain⟨k6,n,h1,h2,h3⟩:=o;exact kd es k6 n rfl h1 h2 h3
 |_=>exact o.elim
theorem my.mono(L:Le S g g')(hS:S .fz){X:Ow}(hX:S X){a:aZ}{m:MV}(o:my P g a X m):my P g' a X m:=
 o.cases (fun xs vs n e h1 h2=>e▸⟨vs,n,L.ob _ _ _ hX h1,h2.mono (L.gZ hS)⟩) fun es k6 n e h1 h2 h3=>e▸⟨k6,n,L.ob _ _ _ hX h1,h2.mono (L.gZ hS),h3⟩
theorem lI.mono(L:Le S g g')(hS:S .fz)(hX:∀j,S (.cell i j))(o:lI P g i c):lI P g' i c:=by
 have G:=L.gZ hS
 induction c with
 |lst xs=>obtain⟨a,vs,n,h1,h2,h3⟩:=o;exact⟨a,vs,n,L.ca _ _ h1,L.ob _ _ _ (hX _) h2,h3.mono G⟩
 |fresh av nums=>
  obtain⟨x,dx,a1,a2,t1,t2,n,d1,n1,d2,n2,h1,h2,h3,h4,h5,h6,h7⟩:=o
  exact⟨x,dx,a1,a2,t1,t2,n,d1,n1,d2,n2,L.ca _ _ h1,L.ob _ _ _ (hX _) h2,L.ob _ _ _ (hX _) h3,L.ob _ _ _ (hX _) h4,⟨h5.1.mono G,h5.2⟩,L.ob _ _ _ (hX _) h6,h7.1.mono G,h7.2⟩
 |uses m b=>
  obtain⟨x,dx,t1,t2,t3,n,h1,h2,h3⟩:=o
  exact⟨x,dx,t1,t2,t3,n,L.ca _ _ h1,L.ob _ _ _ (hX _) h2,L.ob _ _ _ (hX _) h3⟩
 |tab k=>obtain⟨ps,h1,h2,h3⟩:=o;exact⟨ps,L.ca _ _ h1,L.ob _ _ _ (hX _) h2,h3⟩
theorem lH.mono(L:Le S g g')(hS:S .fz)(hX:S (.slot k))(hp:∀q,p=some q->g'.pv q=g.pv q)(o:lH P g p k s):lH P g' p k s:=by
 induction s with
 |none=>trivial
 |some x=>
  induction x with
  |un=>trivial
  |fz m=>obtain⟨q,v,h1,h2,h3⟩:=o;exact⟨q,v,h1,(hp q h1).trans h2,h3.mono (L.gZ hS)⟩
  |own m=>obtain⟨q,a,h1,h2,h3⟩:=o;exact⟨q,a,h1,(hp q h1).trans h2,h3.mono L hS hX⟩
noncomputable def Gh.push(g:Gh)(a:aZ)(o:Obj)(X:Ow):Gh:={g with ow:=fun b=>if b=a then some X else g.ow b,nw:=(a,o)::g.nw}
theorem cT{a:aZ}{o:Obj}{X:Ow}(fC:∀p∈g.nw,p.1<a):Le (fun _=>True) g (g.push a o X):=by
 refine⟨fun b Y o' _ h=>⟨?_,.tail _ h.2⟩,fun _ _ e=>e,fun _ o h=>⟨o,.tail _ h⟩⟩
 have:=fC _ h.2
 show(if b=a then some X else g.ow b)=some Y
 rw[if_neg (bO this)];exact h.1
theorem dk{a:aZ}{o:Obj}{X:Ow}:Ob (g.push a o X) a X o:=⟨if_pos rfl,.head _⟩
theorem Bs.push{mu:List MC}(B:Bs P f h mu g){a:aZ}{o:Obj}{X:Ow}(N':News f.h₀ f.L h' ((a,o)::g.nw))(fC:∀p∈g.nw,p.1<a):Bs P f h' mu (g.push a o X)where
 N:=N'
 ow:=fun b Y e=>by
  by_cases hb:b=a
  ·subst hb;exact⟨o,.head _⟩
  ·change (if b=a then some X else g.ow b)=some Y at e
   rw[if_neg hb]at e
   obtain⟨o',h⟩:=B.ow b Y e
   exact⟨o',.tail _ h⟩
 len:=B.len
 lo:=by
  obtain⟨⟨p,hp⟩,hl⟩:=B.lo
  refine⟨⟨_,.head _⟩,fun q hq=>?_⟩
  rcases aA.mp hq with rfl|hq
  ·exact g0 (hl p hp) (fC p hp)
  ·exact hl q hq
 mu:=fun i c e=>(B.mu i c e).mono (cT fC) trivial fun _=>trivial
theorem Rel.push(R:Rel P f cx h st g){a:aZ}{o:Obj}{X:Ow}(F':Fr f.h₀ f.L h' (fun x=>g.pv (.loc x)))(N':News f.h₀ f.L h' ((a,o)::g.nw))(fC:∀p∈g.nw,p.1<a):Rel P f cx h' st (g.push a o X)where
 toBs:=R.toBs.push N' fC
 F:=F'
 gi:=fun c hc=>let ⟨o',h1,h2⟩:=R.gi c hc;⟨o',(cT fC).ob _ _ _ trivial h1,h2⟩
 cds:=fun c hc=>let ⟨o',h1,h2⟩:=R.cds c hc;⟨o',(cT fC).ob _ _ _ trivial h1,h2⟩
 sl:=fun k=>(R.sl k).mono (cT fC) trivial trivial fun _ _=>rfl
 gY:=fun C x v e=>let ⟨o,h⟩:=R.gY C x v e;⟨o,.tail _ h⟩
theorem cU{a:aZ}{o:Obj}{X:Ow}(fC:∀p∈g.nw,p.1<a):Kp n g (g.push a o X):=(cT fC).kp trivial trivial fun _ _=>trivial
noncomputable def Gh.give(g:Gh)(a:aZ)(X:Ow):Gh:={g with ow:=fun b=>if b=a then some X else g.ow b}
theorem dN{a:aZ}{X Y:Ow}(hY:g.ow a=some Y):Le (fun Z=>Z≠Y) g (g.give a X):=by
 refine⟨fun b Z o' hZ h=>⟨?_,h.2⟩,fun _ _ e=>e,fun _ o h=>⟨o,h⟩⟩
 show(if b=a then some X else g.ow b)=some Z
 rw[if_neg fun e=>hZ (ar (by rw[<-h.1,e,hY]))];exact h.1
theorem iT{a:aZ}{X Y:Ow}{o:Obj}(h:Ob g a Y o):Ob (g.give a X) a X o:=⟨if_pos rfl,h.2⟩
theorem Bs.give{mu:List MC}(B:Bs P f h mu g){a:aZ}{X Y:Ow}(hY:g.ow a=some Y)(hn:∀i j,Y≠ .cell i j)(hf:Y≠ .fz):Bs P f h mu (g.give a X)where
 N:=B.N
 ow:=fun b Z e=>by
  by_cases hb:b=a
  ·subst hb;exact B.ow _ _ hY
  ·change (if b=a then some X else g.ow b)=some Z at e
   rw[if_neg hb]at e
   exact B.ow b Z e
 len:=B.len
 lo:=B.lo
 mu:=fun i c e=>(B.mu i c e).mono (dN hY) (bY hf) fun j=>bY (hn i j)
theorem Rel.JW(R:Rel P f cx h st g){a:aZ}{X:Ow}{j:Nat}(hY:g.ow a=some (.m8 j)):Rel P f cx h st (g.give a X)where
 toBs:=R.toBs.give hY (fun _ _=>by simp) (by simp)
 F:=R.F
 gi:=fun c hc=>let ⟨o',h1,h2⟩:=R.gi c hc;⟨o',(dN hY).ob _ _ _ (by simp) h1,h2⟩
 cds:=fun c hc=>let ⟨o',h1,h2⟩:=R.cds c hc;⟨o',(dN hY).ob _ _ _ (by simp) h1,h2⟩
 sl:=fun k=>(R.sl k).mono (dN hY) (by simp) (by simp) fun _ _=>rfl
 gY:=R.gY
theorem uT{a:aZ}{X:Ow}{j:Nat}(hY:g.ow a=some (.m8 j))(hj:n<=j):Kp n g (g.give a X):=
 (dN hY).kp (by simp) (by simp) fun i hi e=>by cases e;lia
theorem Rel.Ql(R:Rel P f cx h st g){X:Ow}{k:Nat}{st':St}(hY:g.ow a=some (.slot k))(YX:st'.mu=st.mu)(hk:lH P (g.give a X) (cx.pl k) k st'.loc[k]?)(hl:∀i,i≠k->st'.loc[i]?=st.loc[i]?):
 Rel P f cx h st' (g.give a X)where
 toBs:=by rw[YX];exact R.toBs.give hY (fun _ _=>by simp) (by simp)
 F:=R.F
 gi:=fun c hc=>let ⟨o',h1,h2⟩:=R.gi c hc;⟨o',(dN hY).ob _ _ _ (by simp) h1,h2⟩
 cds:=fun c hc=>let ⟨o',h1,h2⟩:=R.cds c hc;⟨o',(dN hY).ob _ _ _ (by simp) h1,h2⟩
 sl:=fun i=>by
  by_cases hi:i=k
  ·subst hi;exact hk
  ·rw[hl i hi];exact(R.sl i).mono (dN hY) (by simp) (fun e=>hi (by cases e;rfl)) fun _ _=>rfl
 gY:=R.gY
theorem zT{a:aZ}{X:Ow}{k:Nat}(hY:g.ow a=some (.slot k)):Kp n g (g.give a X):=
 (dN hY).kp (by simp) (by simp) fun _ _=>by simp
theorem my.fz{a:aZ}{X:Ow}{m:MV}(o:my P g a X m)(hX:X≠ .fz):Tr P (g.give a .fz) none m (.ref a):=
 o.cases (fun xs vs n e h1 h2=>e▸⟨a,vs,n,rfl,iT h1,h2.mono ((dN h1.1).gZ (bY hX))⟩) fun es k6 n e h1 h2 h3=>e▸⟨a,k6,n,rfl,iT h1,h2.mono ((dN h1.1).gZ (bY hX)),h3⟩
theorem my.ow{a:aZ}{X:Ow}{m:MV}(o:my P g a X m):g.ow a=some X:=o.cases (fun _ _ _ _ h _=>h.1) fun _ _ _ _ h _ _=>h.1
theorem my.give{a:aZ}{X Y:Ow}{m:MV}(o:my P g a X m)(hX:X≠ .fz):my P (g.give a Y) a Y m:=
 o.cases (fun xs vs n e h1 h2=>e▸⟨vs,n,iT h1,h2.mono ((dN h1.1).gZ (bY hX))⟩) fun es k6 n e h1 h2 h3=>e▸⟨k6,n,iT h1,h2.mono ((dN h1.1).gZ (bY hX)),h3⟩
theorem VR.freeze(R:Rel P f cx h st g){b:Bool}{m:MV}{v:aj}(V:VR P g n b m v):∃g',Rel P f cx h st g'/\Kp n g g'/\Tr P g' none m v:=by
 cases b
 ·exact⟨g,R,.refl,V⟩
 ·obtain⟨a,rfl,o⟩:=V
  exact⟨_,R.JW o.ow,uT o.ow (ab _),o.fz (by simp)⟩
theorem VR.of(t:Tr P g none m v):VR P g n false m v:=t
noncomputable def rg(D:aZ)(o':Obj)(l:List (aZ×Obj)):List (aZ×Obj):=l.map fun p=>if p.1=D then(D,o')else p
theorem fP(h:(a,o)∈l)(hn:a≠D):(a,o)∈rg D o' l:=d6.mpr ⟨(a,o),h,if_neg hn⟩
theorem ju(h:(D,o)∈l):(D,o')∈rg D o' l:=d6.mpr ⟨(D,o),h,if_pos rfl⟩
noncomputable def Gh.set(g:Gh)(D:aZ)(o':Obj):Gh:={g with nw:=rg D o' g.nw}
theorem cH{D:aZ}{o':Obj}{X:Ow}(hX:g.ow D=some X):Le (fun Z=>Z≠X) g (g.set D o'):=
 ⟨fun b Z o hZ h=>⟨h.1,fP h.2 fun e=>hZ (ar (by rw[<-h.1,e,hX]))⟩,fun _ _ e=>e,fun a o h=>if e:a=D then⟨o',by subst e;exact ju h⟩else⟨o,fP h e⟩⟩
theorem gD{D:aZ}{o o':Obj}{X:Ow}(h:Ob g D X o):Ob (g.set D o') D X o':=⟨h.1,ju h.2⟩
theorem News.upd(N:News h₀ L h l)(hm:(D,o)∈l)(hs:jh D h h')(ho:h'.get? D=some o'):News h₀ L h' (rg D o' l):=by
 intro p hp
 obtain⟨q,hq,rfl⟩:=d6.mp hp
 by_cases e:q.1=D
 ·rw[if_pos e];exact⟨ho,(N _ hm).2⟩
 ·rw[if_neg e];exact⟨(hs.2 _ e).trans (N q hq).1,(N q hq).2⟩
theorem pK(F:Fr h₀ L h m)(N:News h₀ L h l)(hm:(D,o)∈l)(hs:jh D h h'):Fr h₀ L h' m:=
 ⟨F.ns.sameBut hs (bY (N _ hm).2.1),fun b ob e=>(hs.2 b fun q=>by rw[q,(N _ hm).2.2]at e;exact(ay _ (cN e)).elim).trans (F.keep b ob e),F.above⟩
theorem Bs.set{mu mu':List MC}(B:Bs P f h mu g){D:aZ}{o o':Obj}{X:Ow}(hD:Ob g D X o)(N':News f.h₀ f.L h' (rg D o' g.nw))
 (hl:mu'.length=mu.length) (YX:∀i c,mu'[i]?=some c->lI P (g.set D o') i c):Bs P f h' mu' (g.set D o')where
 N:=N'
 ow:=fun b Z e=>by
  obtain⟨ob,hm⟩:=B.ow b Z e
  by_cases hb:b=D
  ·subst hb;exact⟨o',ju hm⟩
  ·exact⟨ob,fP hm hb⟩
 len:=hl.trans B.len
 lo:=by
  obtain⟨⟨p,hp⟩,hl⟩:=B.lo
  refine⟨⟨_,ju hD.2⟩,fun q hq=>?_⟩
  obtain⟨r,hr,rfl⟩:=d6.mp hq
  by_cases e:r.1=D
  ·rw[if_pos e];exact hl (D,o) hD.2
  ·rw[if_neg e];exact hl r hr
 mu:=YX
theorem n4(h:∀C x v,g.pv (.cmp C x)=some v->∃o,(C,o)∈g.nw):∀C x v,(g.set D o').pv (.cmp C x)=some v->∃o,(C,o)∈(g.set D o').nw:=fun C x v e=>by
 obtain⟨o,hm⟩:=h C x v e
 by_cases hb:C=D
 ·subst hb;exact⟨o',ju hm⟩
 ·exact⟨o,fP hm hb⟩
noncomputable def wH(D:aZ)(o:Obj)(l:List (aZ×Obj)):List (aZ×Obj):=(D,o)::l.filter fun p=>decide (p.1≠D)
theorem lC(N:News h₀ L h l)(hm:(D,o)∈l):News h₀ L h (wH D o l):=by
 intro p hp
 rcases aA.mp hp with rfl|hp
 ·exact N _ hm
 ·exact N p (c0.mp hp).1
theorem ox(N:News h₀ L h (wH D o' l)):News h₀ L h (rg D o' l):=by
 intro p hp
 obtain⟨q,hq,rfl⟩:=d6.mp hp
 by_cases e:q.1=D
 ·rw[if_pos e];exact N _ (.head _)
 ·rw[if_neg e];exact N q (.tail _ (c0.mpr ⟨hq,by simpa using e⟩))
theorem nK:Upd D o o' (wH D o l) (wH D o' l):=.head fun p hp=>by simpa using (c0.mp hp).2
theorem Rel.MQ(R:Rel P f cx h st g){o o':Obj}{k:Nat}{st':St}(hD:Ob g D (.slot k) o)(F':Fr f.h₀ f.L h' (fun x=>g.pv (.loc x)))(N':News f.h₀ f.L h' (rg D o' g.nw))(YX:st'.mu=st.mu)
 (hk:lH P (g.set D o') (cx.pl k) k st'.loc[k]?) (hl:∀i,i≠k->st'.loc[i]?=st.loc[i]?):Rel P f cx h' st' (g.set D o')where
 toBs:=by
  rw[YX]
  exact Bs.set R.toBs hD N' rfl fun i c e=>lI.mono (cH hD.1) (by simp) (fun j=>by simp) (R.mu i c e)
 F:=F'
 gi:=fun c hc=>let ⟨o',h1,h2⟩:=R.gi c hc;⟨o',(cH hD.1).ob _ _ _ (by simp) h1,h2⟩
 cds:=fun c hc=>let ⟨o',h1,h2⟩:=R.cds c hc;⟨o',(cH hD.1).ob _ _ _ (by simp) h1,h2⟩
 sl:=fun i=>by
  by_cases hi:i=k
  ·subst hi;exact hk
  ·rw[hl i hi];exact(R.sl i).mono (cH hD.1) (by simp) (fun e=>hi (by cases e;rfl)) fun _ _=>rfl
 gY:=n4 R.gY
theorem tN{D:aZ}{o':Obj}{k:Nat}(hD:g.ow D=some (.slot k)):Kp n g (g.set D o'):=
 (cH hD).kp (by simp) (by simp) fun _ _=>by simp
theorem Rel.setC(R:Rel P f cx h st g){o o':Obj}{i j:Nat}{mu':List MC}(hD:Ob g D (.cell i j) o)(F':Fr f.h₀ f.L h' (fun x=>g.pv (.loc x)))(N':News f.h₀ f.L h' (rg D o' g.nw))(hl:mu'.length=st.mu.length)
 (hi:∀c,mu'[i]?=some c->lI P (g.set D o') i c) (eM:∀k,k≠i->mu'[k]?=st.mu[k]?):Rel P f cx h' {st with mu:=mu'} (g.set D o')where
 toBs:=R.toBs.set hD N' hl fun k c e=>by
  by_cases hk:k=i
  ·subst hk;exact hi c e
  ·replace e:=eM k hk▸e;exact(R.mu k c e).mono (cH hD.1) (by simp) fun _ e=>hk (by cases e;rfl)
 F:=F'
 gi:=fun c hc=>let ⟨o',h1,h2⟩:=R.gi c hc;⟨o',(cH hD.1).ob _ _ _ (by simp) h1,h2⟩
 cds:=fun c hc=>let ⟨o',h1,h2⟩:=R.cds c hc;⟨o',(cH hD.1).ob _ _ _ (by simp) h1,h2⟩
 sl:=fun k=>(R.sl k).mono (cH hD.1) (by simp) (by simp) fun _ _=>rfl
 gY:=n4 R.gY
theorem mT{D:aZ}{o':Obj}{i j:Nat}(hD:g.ow D=some (.cell i j)):Kp n g (g.set D o'):=
 (cH hD).kp (by simp) (by simp) fun _ _=>by simp
theorem Rel.Rx(R:Rel P f cx h st g){D:aZ}{o o':Obj}{X:Ow}(hX:X=.rest\/∃j,X=.m8 j)(hD:Ob g D X o)(F':Fr f.h₀ f.L h' (fun x=>g.pv (.loc x)))(N':News f.h₀ f.L h' (rg D o' g.nw)):Rel P f cx h' st (g.set D o'):=by
 have eM:∀Z,(Z=.fz\/Z=.py\/Z=.cd\/(∃i j,Z=.cell i j)\/∃k,Z=.slot k)->Z≠X:=by
  rintro Z hZ rfl
  rcases hX with rfl|⟨j,rfl⟩<;>rcases hZ with h|h|h|⟨i,j,h⟩|⟨k,h⟩<;>simp at h
 refine⟨Bs.set R.toBs hD N' rfl fun i c e=>(R.mu i c e).mono (cH hD.1) (eM _ (.inl rfl)) fun j=>eM _ (.inr (.inr (.inr (.inl ⟨_,_,rfl⟩)))),F',fun c hc=>?_,fun c hc=>?_,fun k=>?_,n4 R.gY⟩
 ·obtain⟨o',h1,h2⟩:=R.gi c hc
  exact⟨o',(cH hD.1).ob _ _ _ (eM _ (cx.UT.elim (fun e=>.inr (.inl e)) .inl)) h1,h2⟩
 ·obtain⟨o',h1,h2⟩:=R.cds c hc
  exact⟨o',(cH hD.1).ob _ _ _ (eM _ (.inr (.inr (.inl rfl)))) h1,h2⟩
 ·exact(R.sl k).mono (cH hD.1) (eM _ (.inl rfl)) (eM _ (.inr (.inr (.inr (.inr ⟨_,rfl⟩))))) fun _ _=>rfl
theorem Rel.JX(R:Rel P f cx h st g){a:aZ}{X:Ow}(hY:g.ow a=some .rest):Rel P f cx h st (g.give a X)where
 toBs:=R.toBs.give hY (fun _ _=>by simp) (by simp)
 F:=R.F
 gi:=fun c hc=>let ⟨o',h1,h2⟩:=R.gi c hc;⟨o',(dN hY).ob _ _ _ (by simp) h1,h2⟩
 cds:=fun c hc=>let ⟨o',h1,h2⟩:=R.cds c hc;⟨o',(dN hY).ob _ _ _ (by simp) h1,h2⟩
 sl:=fun k=>(R.sl k).mono (dN hY) (by simp) (by simp) fun _ _=>rfl
 gY:=R.gY
theorem Kp.Ry{D:aZ}{o':Obj}{vF:Gh}(K:Kp n g g')(hn:∀p∈g.nw,p.1≠D)(e1:vF.ca=g'.ca)(e2:vF.pv=g'.pv)(e3:∀a X o,a≠D->Ob g' a X o->Ob vF a X o)(e4:∀a o,(a,o)∈g'.nw->∃o',(a,o')∈vF.nw):Kp n g vF:=
 ⟨⟨⟨fun a o h=>e3 _ _ _ (hn _ h.2) (K.fz a o h),fun i a h=>by exact e1.symm▸K.ca i a h⟩,fun a o h=>e3 _ _ _ (hn _ h.2) (K.rest a o h),fun j a o hj h=>e3 _ _ _ (hn _ h.2) (K.m8 j a o hj h),fun a o h=>let ⟨o',e⟩:=K.zz a o h;e4 a o' e⟩,fun q v h=>by rw[e2];exact K.pv q v h⟩
end
noncomputable def CK:List String:=["Var","Lit","App","Lam","Let","Alt","Case","Con","Prim","Renamer"]
noncomputable def clS(i:Nat):Str:=af (CK.getD i "")
noncomputable def Ha(c:Cl):Str:=clS c.n
noncomputable def Me.n:Me->Nat
 |.groups=>0|.inner=>1|.leaf=>2|.kQ=>3|.next=>4|.note=>5|.parts=>6|.gr=>7|.run _=>8
noncomputable def PX(m:Me):Str:=af (["groups","inner","leaf","new_groups","next","note","parts","rebuilt","run"].getD m.n "")
noncomputable def XH:Bo->Operator
 |.add=>.Add|.sub=>.Sub|.mul=>.Mult|.fdiv=>.FloorDiv|.mod=>.Mod|.pow _=>.Pow
noncomputable def OV:Co->CmpOp
 |.eq=>.Eq|.ne=>.NotEq|.lt=>.Lt|.le=>.LtE|.gt=>.Gt|.ge=>.GtE|.isin=>.In|.zB _=>.NotIn
noncomputable def Qp:List (Nat×String):=[(24,"scoped"),(25,"free_names"),(26,"is_free"),(31,"renamed"),(32,"substituted"),(33,"flat"),(34,"beta"),(35,"nested"),(36,"call_of_let"),(37,"eta"),(38,"mapped"),(39,"size_of"),(40,"base_of"),
 (43,"uses_of"),(44,"is_atom"),(45,"is_taken"),(46,"inlined"),(47,"_law_pool"),(48,"_law_take"),(49,"_law_one"),(50,"_law_known"),(51,"_law_with"),(52,"_law_leaf"),(53,"_law_down"),(54,"_law_let"),(55,"_law_case"),(56,"_law_expr"),
 (57,"_law_asked"),(58,"_law_bound"),(59,"_law_called"),(60,"_law_chosen"),(61,"_law_value"),(62,"_law_shown")]
noncomputable def Vf:List (String×aj):=[("len",.builtin "len"),("list",.type "list"),("dict",.type "dict"),("sorted",.builtin "sorted"),("int",.type "int"),("str",.type "str"),("all",.builtin "all"),("any",.builtin "any"),("min",.builtin "min"),("max",.builtin "max"),
 ("isinstance",.builtin "isinstance"),("range",.type "range"),("reversed",.type "reversed")]
noncomputable def B1.n:B1->Nat
 |.len=>0|.list=>1|.dict=>2|.sorted=>3|.toInt=>4|.toStr=>5|.all=>6|.any _=>7
noncomputable def B2.n:B2->Nat
 |.mn=>8|.mx _=>9
noncomputable def Hc(i:Nat):String:=(Vf.getD i ("",.none)).1
noncomputable def biV(i:Nat):aj:=(Vf.getD i ("",.none)).2
noncomputable def Zz(i:Nat):String:=(Qp.lookup i).getD ""
structure Cn where
 sc:List (Str×dC)
 G:List (Str×Nat)
 nm:Nat->Str
section
variable(nm:Nat->Str)
noncomputable def iH(k:Nat)(p:Pos):Expr:=.Name (nm k) p
noncomputable def G1(ks:List (Nat×Pos))(p:Pos):Expr:=match ks with
 |[k]=>iH nm k.1 k.2
 |ks=>.Tuple (ks.map fun k=>iH nm k.1 k.2) 0 p
noncomputable def UX(cs:List (Cl×Pos))(p:Pos):Expr:=match cs with
 |[c]=>.Name (Ha c.1) c.2
 |cs=>.Tuple (cs.map fun c=>.Name (Ha c.1) c.2) 0 p
noncomputable def Mf(f:String)(es:List Expr)(p q:Pos):Expr:=.Call (.Name (af f) p) es [] q
noncomputable def FD(ik:Ik)(e:Expr):Expr:=match ik with
 |.of=>e
 |.range p q=>Mf "range" [e] p q
 |.rev p q=>Mf "reversed" [e] p q
noncomputable def Fe(e:Expr)(m:Str)(es:List Expr)(p q:Pos):Expr:=.Call (.Attribute e m p) es [] q
mutual
noncomputable def py:X->Expr
 |.nil=>.Name default default
 |.cons z1 z2=>.Name default default
 |.v k p=>iH nm k p
 |.int z p=>.Constant (.int z) 0 p
 |.str s p=>.Constant (.str (af s)) 0 p
 |.bool b p=>.Constant (.bool b) 0 p
 |.Nv p=>.Constant .none 0 p
 |.neg z p q=>.UnaryOp .USub (.Constant (.int z) 0 p) q
 |.tup xs p=>.Tuple (gi xs) 0 p
 |.lst xs p=>.List (gi xs) p
 |.cell xs p=>.List (gi xs) p
 |.d0 p=>.Dict [] [] p
 |.d1 k x p q=>.Dict [some (.Constant (.str (af k)) 0 p)] [py x] q
 |.fld x f p=>.Attribute (py x) (eA f) p
 |.call f xs p q=>Mf (Zz f) (gi xs) p q
 |.new c xs p q=>.Call (.Name (Ha c) p) (gi xs) [] q
 |.l8 x p q=>Mf "Fresh" [py x] p q
 |.oA p q=>Mf "Uses" [] p q
 |.rule x y p q=>Mf "_law_rule" [py x,py y] p q
 |.kj x m xs p q=>Fe (py x) (PX m) (gi xs) p q
 |.xl k x p q=>.Call (iH nm k p) [py x] [] q
 |.lM k r p q=>Mf "len" [iH nm k r] p q
 |.b1 o x p q=>Mf (Hc o.n) [py x] p q
 |.b2 o x y p q=>Mf (Hc o.n) [py x,py y] p q
 |.isin x cs r p q=>Mf "isinstance" [py x,UX cs r] p q
 |.F6 x k p q=>Fe (py x) (af "get") [py k] p q
 |.F5 x k z p q=>Fe (py x) (af "get") [py k,py z] p q
 |.Gb x f k z r s t p q=>Fe (.Attribute (py x) (eA f) r) (af "get") [iH nm k s,.Constant (.int z) 0 t] p q
 |.fin k x f p q=>.Compare (py k) [.In] [.Attribute (py x) (eA f) p] q
 |.rfind x s r p q=>Fe (py x) (af "rfind") [.Constant (.str (af s)) 0 r] p q
 |.isdigit x p q=>Fe (py x) (af "isdigit") [] p q
 |.append k x r p q=>Fe (iH nm k r) (af "append") [py x] p q
 |.pop k r p q=>Fe (iH nm k r) (af "pop") [] p q
 |.bin o x y p=>.BinOp (py x) (XH o) (py y) p
 |.cmp o x y p=>.Compare (py x) [OV o] [py y] p
 |.isNone x r p=>.Compare (py x) [.Is] [.Constant .none 0 r] p
 |.and xs p=>.BoolOp .And (gi xs) p
 |.or xs p=>.BoolOp .Or (gi xs) p
 |.not x p=>.UnaryOp .Not (py x) p
 |.ite c a b p=>.IfExp (py c) (py a) (py b) p
 |.sub x i p=>.Subscript (py x) (py i) p
 |.dP k i r p=>.Subscript (iH nm k r) (py i) p
 |.Rw x lo r p=>.Subscript (py x) (.Slice (some (py lo)) none none r) p
 |.ur k lo r s p=>.Subscript (iH nm k r) (.Slice (some (py lo)) none none s) p
 |.sX k hi r s p=>.Subscript (iH nm k r) (.Slice none (some (py hi)) none s) p
 |.comp e ks r ik it cs sc p=>.ListComp (py e) [⟨G1 nm ks r,FD ik (py it),gi cs,0⟩] sc p
noncomputable def gi:X->List Expr
 |.nil=>[]
 |.cons x xs=>py x::gi xs
 |_=>[]
end
noncomputable def iF:Ss->List pX
 |.nil=>[]
 |.asg k x p q r=>.Assign [iH nm k p] (py nm x) q::iF r
 |.wd ks x p q r=>.Assign [.Tuple (ks.map fun k=>iH nm k.1 k.2) 0 p] (py nm x) q::iF r
 |.n7 ks xs p o q r=>.Assign [.Tuple (ks.map fun k=>iH nm k.1 k.2) 0 p] (.Tuple (gi nm xs) 0 o) q::iF r
 |.nk k i x p o q r=>.Assign [.Subscript (iH nm k p) (py nm i) o] (py nm x) q::iF r
 |.zh x f i v p o q r=>.Assign [.Subscript (.Attribute (py nm x) (eA f) p) (py nm i) o] (py nm v) q::iF r
 |.EN x f v p q r=>.Assign [.Attribute (py nm x) (eA f) p] (py nm v) q::iF r
 |.AY k x p q r=>.AugAssign (iH nm k p) .Add (py nm x) q::iF r
 |.GP x f v p q r=>.AugAssign (.Attribute (py nm x) (eA f) p) .Add (py nm v) q::iF r
 |.g9 k i x c y p1 p2 p3 p4 p5 q r=>.Assign [.Subscript (iH nm k p1) (py nm i) p2] (.Tuple [py nm x,.IfExp (py nm c) (iH nm k p3) (py nm y) p4] 0 p5) q::iF r
 |.ret x q r=>.Return (some (py nm x)) q::iF r
 |.iE k p q r=>.Return (some (iH nm k p)) q::iF r
 |.gU c a b q r=>.If (py nm c) (iF a) (iF b) q::iF r
 |.Et c b q r=>.While (py nm c) (iF b) [] q::iF r
 |.fr ks p ik it b q r=>.For (G1 nm ks p) (FD ik (py nm it)) (iF b) [] q::iF r
 |.cont q r=>.Continue q::iF r
 |.del k lo p1 p2 p3 q r=>.Delete [.Subscript (iH nm k p1) (.Slice (some (py nm lo)) none none p2) p3] q::iF r
 |.ex x q r=>.Expr (py nm x) q::iF r
end
noncomputable def nV(J:Cn)(x:Str):Bool:=J.sc.lookup x==some .globalImplicit
noncomputable def gN(J:Cn)(s:String):Bool:=nV J (af s)
noncomputable def BX(x:Str):Bool:= !(x==af "__debug__")&& !(x==af "__classdict__")
noncomputable def G4{α:Type}[BEq α]:List α->Bool
 |[]=>true
 |x::r=> !r.contains x&&G4 r
noncomputable def Cn.comp(J:Cn)(sc:fq)(ks:List (Nat×Pos)):Cn:=
 ⟨sc.names,ks.map (fun k=>(J.nm k.1,k.1))++J.G.filter fun p=>sc.names.lookup p.1==some .free,J.nm⟩
noncomputable def MT(J:Cn)(sc:fq)(xs:List Str)(ks:List Nat):Bool:=
 sc.kind==.function&&sc.names.all (fun y=>match y.2 with
   |.local=>sc.names.lookup y.1==some .local
   |.free=>(J.sc.lookup y.1==some .cell||J.sc.lookup y.1==some .free)&&(J.G.lookup y.1).isSome
   |.globalImplicit=>true
   |_=>false)&&xs.all (fun x=>sc.names.lookup x==some .local&&BX x)&&G4 xs&&G4 ks&&(J.G.filter fun p=>sc.names.lookup p.1==some .free).all (fun p=> !ks.contains p.2)
noncomputable def ug(J:Cn)(k:Nat):Bool:=J.G.lookup (J.nm k)==some k
noncomputable def eT(e:Expr):Nat:=by
 cases e with
 |ListComp=>exact 1
 |SetComp=>exact 1
 |DictComp=>exact 1
 |Set=>exact 2
 |Tuple=>exact 3
 |_=>exact 0
noncomputable def xO(e:Expr):Bool:= !aL (eT e) 1
noncomputable def Iy(e:Expr):Bool:= !aL (eT e) 2
noncomputable def PR(e:Expr):Bool:= !aL (eT e) 3
noncomputable def baseOk(e:Expr):Bool:=by
 cases e with
 |Call f xs ks p=>exact !(xs.isEmpty&&ks.isEmpty)
 |_=>exact true
noncomputable def V9(J:Cn)(e:Expr)(n:Nat)(p q:Pos):Bool:=baseOk e&&(p.endLine==q.line)&&jo n 30
noncomputable def itG(J:Cn):Ik->Bool
 |.of=>true
 |.range _ _=>gN J "range"
 |.rev _ _=>gN J "reversed"
noncomputable def oneAt(x:X):Bool:=aL (xd x).1 1||(aL (xd x).1 2&&aL (xd (xd x).2.1).1 1)
noncomputable def wf:X->Cn->Bool
 |.nil=>fun _=>true
 |.cons x xs=>fun J=>wf x J&&wf xs J
 |.v k z1=>fun J=>ug J k
 |.int z1 z2=>fun _=>true
 |.str z1 z2=>fun _=>true
 |.bool z1 z2=>fun _=>true
 |.Nv z1=>fun _=>true
 |.neg z z1 z2=>fun _=> !(aL z 0)
 |.tup xs z1=>fun J=>wf xs J
 |.lst xs z1=>fun J=>wf xs J
 |.cell xs z1=>fun J=>wf xs J
 |.d0 z1=>fun _=>true
 |.d1 z1 x z2 z3=>fun J=>wf x J
 |.fld x z1 z2=>fun J=>wf x J&&baseOk (py J.nm x)
 |.call f xs z1 z2=>fun J=>wf xs J&&(gN J (Zz f)&&(Qp.lookup f).isSome)
 |.new c xs z1 z2=>fun J=>wf xs J&&nV J (Ha c)
 |.l8 x z1 z2=>fun J=>wf x J&&gN J "Fresh"
 |.oA z1 z2=>fun J=>gN J "Uses"
 |.rule x y z1 z2=>fun J=>wf x J&&(wf y J&&gN J "_law_rule")
 |.kj x z1 xs p q=>fun J=>wf x J&&(wf xs J&&V9 J (py J.nm x) (gi J.nm xs).length p q)
 |.xl k x z1 z2=>fun J=>wf x J&&ug J k
 |.lM k z1 z2 z3=>fun J=>ug J k&&gN J "len"
 |.b1 o x z1 z2=>fun J=>wf x J&&gN J (Hc o.n)
 |.b2 o x y z1 z2=>fun J=>wf x J&&(wf y J&&gN J (Hc o.n))
 |.isin x cs z1 z2 z3=>fun J=>wf x J&&(gN J "isinstance" &&(cs.all (fun c=>nV J (Ha c.1))&&aV cs.length 20))
 |.F6 x k p q=>fun J=>wf x J&&(wf k J&&V9 J (py J.nm x) 1 p q)
 |.F5 x k z p q=>fun J=>wf x J&&(wf k J&&(wf z J&&V9 J (py J.nm x) 2 p q))
 |.Gb x f k z1 r z2 z3 p q=>fun J=>wf x J&&(ug J k&&(baseOk (py J.nm x)&&(p.endLine==q.line)))
 |.fin k x z1 z2 z3=>fun J=>wf k J&&(wf x J&&baseOk (py J.nm x))
 |.rfind x z1 z2 p q=>fun J=>wf x J&&V9 J (py J.nm x) 1 p q
 |.isdigit x p q=>fun J=>wf x J&&V9 J (py J.nm x) 0 p q
 |.append k x z1 p q=>fun J=>wf x J&&(ug J k&&(p.endLine==q.line))
 |.pop k z1 p q=>fun J=>ug J k&&(p.endLine==q.line)
 |.bin z1 x y z2=>fun J=>wf x J&&wf y J
 |.cmp o x y z1=>fun J=>wf x J&&(wf y J&& !behindInMarks (OV o) (py J.nm y))
 |.isNone x z1 z2=>fun J=>wf x J
 |.and xs z1=>fun J=>wf xs J
 |.or xs z1=>fun J=>wf xs J
 |.not x z1=>fun J=>wf x J
 |.ite c a b z1=>fun J=>wf c J&&(wf a J&&wf b J)
 |.sub x i z1=>fun J=>wf x J&&wf i J
 |.dP k i z1 z2=>fun J=>wf i J&&ug J k
 |.Rw x lo z1 z2=>fun J=>wf x J&&wf lo J
 |.ur k lo z1 z2 z3=>fun J=>wf lo J&&ug J k
 |.sX k hi z1 z2 z3=>fun J=>wf hi J&&ug J k
 |.comp e ks z1 ik it cs sc z2=>fun J=>wf it J&&(wf e (J.comp sc ks)&&(wf cs (J.comp sc ks)&&(itG J ik&&(oneAt cs&&MT J sc (ks.map fun k=>J.nm k.1) (ks.map fun k=>k.1)))))
noncomputable def vsb(J:Cn)(ks:List (Nat×Pos)):Bool:=ks.all fun k=>ug J k.1
noncomputable def TP(x:X):Bool:=aL (xd x).1 3
noncomputable def isI(x:X):Bool:=aL (xd x).1 4
noncomputable def rY:Ss->Cn->Bool
 |.nil=>fun _=>true
 |.asg k x z1 z2 r=>fun J=>wf x J&&(rY r J&&ug J k)
 |.wd ks x z1 z2 r=>fun J=>wf x J&&(rY r J&&(vsb J ks&&(jo 1 ks.length&&PR (py J.nm x))))
 |.n7 ks xs z1 z2 z3 r=>fun J=>wf xs J&&(rY r J&&(vsb J ks&&(G4 (ks.map fun k=>k.1)&&(G4 (ks.map fun k=>J.nm k.1)&&(!((gi J.nm xs).all (constantsAlone 8))||(gi J.nm xs).all (foldedForSure 8))))))
 |.nk k i x z1 z2 z3 r=>fun J=>wf x J&&(wf i J&&(rY r J&&ug J k))
 |.zh x z1 i v z2 z3 z4 r=>fun J=>wf v J&&(wf x J&&(wf i J&&(rY r J&&(baseOk (py J.nm x)&&TP i))))
 |.EN x z1 v z2 z3 r=>fun J=>wf v J&&(wf x J&&(rY r J&&xO (py J.nm v)))
 |.AY k x z1 z2 r=>fun J=>wf x J&&(rY r J&&ug J k)
 |.GP x z1 v z2 z3 r=>fun J=>wf x J&&(wf v J&&(rY r J&&isI v))
 |.g9 k i x c y z1 z2 z3 z4 z5 z6 r=>fun J=>wf x J&&(wf c J&&(wf i J&&(wf y J&&(rY r J&&ug J k))))
 |.ret x z1 r=>fun J=>wf x J&&rY r J
 |.iE k z1 z2 r=>fun J=>ug J k&&rY r J
 |.gU c a b z1 r=>fun J=>wf c J&&(rY a J&&(rY b J&&rY r J))
 |.Et c b z1 r=>fun J=>wf c J&&(rY b J&&rY r J)
 |.fr ks z1 ik it b z2 r=>fun J=>wf it J&&(rY b J&&(rY r J&&(itG J ik&&vsb J ks)))
 |.cont z1 r=>fun J=>rY r J
 |.del k lo z1 z2 z3 z4 r=>fun J=>wf lo J&&(rY r J&&ug J k)
 |.ex x z1 r=>fun J=>wf x J&&(rY r J&&xO (py J.nm x))
structure dh where
 prog:je
 w:nB
 K:Frag
 p:je
 loose:List Str
 jy:ExcName->Option aj
 mg:Str->Option aj
 mb:Str->Option aj
structure cY(D:dh)(f:Fm)(A:b9)(d:Nat):Prop where
 hA:A.frames=some (f.fenv::f.outer)
 hh:A.handled=none
 B:Below f.A₀ f.base f.outer f.h₀
 X:D.K.In f.h₀
 T:Top D.p D.loose D.jy D.mg D.mb f.h₀
 hf:f.fenv.frame=some f.L
 hk:f.fenv.scope.kind=.function
 depth:A.depth+d<=999
 units:A.units+8*d<=9000
noncomputable def okN(x:Str):Prop:=(x==af "__debug__")=false/\(x==af "__classdict__")=false
noncomputable def Res(f:Fm)(cx:Cx)(x:Str)(k:Nat):Prop:=
 okN x/\((cx.env.kindOf x=some .local/\((cx.env.locals=f.L/\cx.pl k=some (.loc x))\/(cx.env.locals∈cx.cds/\cx.pl k=some (.cmp cx.env.locals x))))\/
  ((cx.env.kindOf x=some .cell\/cx.env.kindOf x=some .free)/\∃c,cx.env.cells.lookup x=some c/\cx.pl k=some (.so c)/\c∈cx.pcs))
structure eX(f:Fm)(cx:Cx)(J:Cn):Prop where
 kind:cx.env.scope.kind=.function
 glob:cx.env.globals=dA
 blt:cx.env.builtins=builtinsNs
 gl:∀x,nV J x=true->cx.env.kindOf x=some .globalImplicit
 rs:∀x k,J.G.lookup x=some k->Res f cx x k
 inj:∀i j q,cx.pl i=some q->cx.pl j=some q->i=j
 sck:∀x,J.sc.lookup x=some .cell\/J.sc.lookup x=some .free->cx.env.kindOf x=some .cell\/cx.env.kindOf x=some .free
 Sw:∀k C x,cx.pl k=some (.cmp C x)->C∈cx.cds
noncomputable abbrev Wp(D:dh)(A:b9){α:Type}(t:Sem α)(Q:α->aw->Prop)(E:aj->aw->Prop)(s:aw):Prop:=wpAny (oK D.prog D.w) A t Q E s
structure fL(D:dh)(P:ck):Prop where
 kh:P.kh=bg D.w.params
 bi:∀i,i<13->nsIn D.K dA (af (Hc i))=some none/\bootBuiltins (af (Hc i))=some (biV i)
 fnG:∀i,(Qp.lookup i).isSome=true->nsIn D.K dA (af (Zz i))=some (some (.ref (P.fn i)))
 clG:∀c,nsIn D.K dA (Ha c)=some (some (.ref (P.cls c)))
 DO:∀i,i<64->keepIn D.K (.ref (P.fn i))=true
 P4:∀c,keepIn D.K (.ref (P.cls c))=true
 get:∀c nm,plainGet D.K (P.cls c) nm=true
 dict:∀c,oM D.K (P.cls c)=true
 fld:∀c f,f∈fieldsOf c->fO D.K (.ref (P.cls c)) (eA f)=some none
 Fe:∀c m i,fE c m=some i->i<64/\fO D.K (.ref (P.cls c)) (PX m)=some (some (.ref (P.fn i)))/\isFn D.K (.ref (P.fn i))=true/\∀f∈(fieldsOf c).map eA,(f==PX m)=false
inductive Vw{α β:Type}(m:β)(c:α->β)(P:α->Prop):Prop
 |mk(z:α)(h1:m=c z)(h2:P z)
inductive Vw2{α β γ:Type}(m:γ)(c:α->β->γ)(P:α->β->Prop):Prop
 |mk(y:α)(z:β)(h1:m=c y z)(h2:P y z)
inductive abL(o:Option Slot)(A:MV->Prop):Prop
 |mk(m:MV)(h1:o=some (.own m))(h2:A m)
inductive SlE(o:Option Slot)(A B:MV->Prop):Prop
 |own(m:MV)(h1:o=some (.own m))(h2:A m)
 |fz(m:MV)(h1:o=some (.fz m))(h2:B m)
inductive abS(b:Bool)(A B:Prop):Prop
 |t(h1:b=true)(h2:A)
 |f(h1:b=false)(h2:B)
theorem pJ:eU m P->Vw m MV.int P:=by cases m<;>first|exact fun h=>⟨_,rfl,h⟩|exact bR
theorem nL:kK m P->Vw m MV.str P:=by cases m<;>first|exact fun h=>⟨_,rfl,h⟩|exact bR
theorem D8:AC m P->Vw m MV.bool P:=by cases m<;>first|exact fun h=>⟨_,rfl,h⟩|exact bR
theorem pF:rz m P->Vw m MV.lst P:=by cases m<;>first|exact fun h=>⟨_,rfl,h⟩|exact bR
theorem By:EB m P->Vw m MV.tup P:=by cases m<;>first|exact fun h=>⟨_,rfl,h⟩|exact bR
theorem pM:vb m P->Vw m MV.bI P:=by cases m<;>first|exact fun h=>⟨_,rfl,h⟩|exact bR
theorem mH:rt m P->Vw m MV.ref P:=by cases m<;>first|exact fun h=>⟨_,rfl,h⟩|exact bR
theorem instW_e:instW m P->Vw2 m MV.inst P:=by cases m<;>first|exact fun h=>⟨_,_,rfl,h⟩|exact bR
theorem U1:U2 m P->Vw2 m MV.xj P:=by cases m<;>first|exact fun h=>⟨_,_,rfl,h⟩|exact bR
theorem nR:sY z P->Vw z (Nat.cast:Nat->Int) P:=by induction z<;>first|exact fun h=>⟨_,rfl,h⟩|exact bR
theorem km:gd b A->b=true/\A:=by induction b<;>first|exact fun h=>⟨rfl,h⟩|exact bR
section
variable{P:ck}{g:Gh}{nY:Option aZ}{m:MV}{u:aj}
inductive abT(u:aj)(Q:Int->Prop):Prop
 |mk(z:Int)(t:Tok)(h1:u=.int z t)(h2:Q z)
inductive abI(u:aj)(Q:Str->Prop):Prop
 |mk(z:Str)(t:Tok)(h1:u=.str z t)(h2:Q z)
inductive ab3(g:Gh)(u:aj)(Q:Nat->Prop):Prop
 |mk(i:Nat)(a:aZ)(h0:g.ca[i]?=some a)(h1:u=.ref a)(h2:Q i)
inductive abN(P:ck)(g:Gh)(u:aj)(Q:List MV->Prop):Prop
 |mk(xs:List MV)(a:aZ)(vs:List aj)(n:Nat)(h1:u=.ref a)(h2:Fz g a (dq vs n))(h3:e7 P g xs vs)(h:Q xs)
inductive ab2(P:ck)(g:Gh)(u:aj)(Q:List MV->Prop):Prop
 |mk(xs:List MV)(a:aZ)(vs:List aj)(h1:u=.ref a)(h2:Fz g a (nj vs))(h3:e7 P g xs vs)(h:Q xs)
inductive abY(P:ck)(g:Gh)(u:aj)(Q:List (Str×MV)->Prop):Prop
 |mk(es:List (Str×MV))(a:aZ)(k6:List cw)(n:Nat)(h1:u=.ref a)(h2:Fz g a (y4 k6 n))(h3:nh P g a es k6)(h4:(es.map (·.1)).Nodup)(h:Q es)
theorem gT(h:eU m Q)(T:Tr P g nY m u):abT u Q:=by
 obtain⟨z,rfl,h⟩:=pJ h
 obtain⟨t,rfl⟩:=T
 exact⟨z,t,rfl,h⟩
theorem lK(h:kK m Q)(T:Tr P g nY m u):abI u Q:=by
 obtain⟨z,rfl,h⟩:=nL h
 obtain⟨t,rfl⟩:=T
 exact⟨z,t,rfl,h⟩
theorem uR(h:rz m Q)(T:Tr P g nY m u):abN P g u Q:=by
 obtain⟨xs,rfl,h⟩:=pF h
 obtain⟨a,vs,n,rfl,o,t⟩:=T
 exact⟨xs,a,vs,n,rfl,o,t,h⟩
theorem UN(h:vb m Q)(T:Tr P g nY m u):abY P g u Q:=by
 obtain⟨xs,rfl,h⟩:=pM h
 obtain⟨a,vs,n,rfl,o,t,nd⟩:=T
 exact⟨xs,a,vs,n,rfl,o,t,nd,h⟩
end
theorem e5(h:gd (aV a b) A):a<=b/\A:=⟨ae (km h).1,(km h).2⟩
theorem uL:mM o A False->Vw o some A:=by induction o<;>first|exact fun h=>⟨_,rfl,h⟩|exact bR
theorem hJ{st:St}(h:cellAt st i Q):Vw st.mu[i]? some Q:=uL h
theorem I1:Te c P->Vw c MC.lst P:=by induction c<;>first|exact fun h=>⟨_,rfl,h⟩|exact bR
theorem u6:u7 c P->Vw2 c MC.fresh P:=by induction c<;>first|exact fun h=>⟨_,_,rfl,h⟩|exact bR
theorem xD:uj c P->Vw2 c MC.uses P:=by induction c<;>first|exact fun h=>⟨_,_,rfl,h⟩|exact bR
theorem Rf:Rg c P->Vw c MC.tab P:=by induction c<;>first|exact fun h=>⟨_,rfl,h⟩|exact bR
theorem IB:SK xs P->xs=[]/\P:=by induction xs<;>first|exact fun h=>⟨rfl,h⟩|exact bR
theorem SM:XQ xs P->xs=[]/\P:=by induction xs<;>first|exact fun h=>⟨rfl,h⟩|exact bR
theorem Rv:(match o with|some (.own m)=>A m|some (.fz m)=>B m|_=>False)->SlE o A B:=by
 induction o with
 |none=>exact bR
 |some sl=>induction sl<;>first|exact bR|exact fun h=>.own _ rfl h|exact fun h=>.fz _ rfl h
theorem jL{st:St}(h:slotAt st k A B):SlE st.loc[k]? A B:=Rv h
theorem wC{st:St}(h:slotAt st k A fun _=>False):abL st.loc[k]? A:=by
 rcases jL h with⟨m,e,h⟩|⟨_,_,h⟩
 ·exact⟨m,e,h⟩
 ·exact h.elim
theorem Ju:i0 b A B->abS b A B:=by induction b<;>first|exact fun h=>.t rfl h|exact fun h=>.f rfl h
theorem aP(h:(a&&b)=true):a=true:=(j8.mp h).1
theorem aB(h:(a&&b)=true):b=true:=(j8.mp h).2
section
variable{D:dh}{P:ck}{f:Fm}{cx:Cx}{J:Cn}{A:b9}{E:aj->aw->Prop}{s:aw}{st st':St}{g g':Gh}{n d:Nat}{cl:lq}{W:Nat}
noncomputable def Kv(P:ck)(f:Fm)(cx:Cx)(n:Nat)(g:Gh)(s:aw)(Q:Bool->MV->St->Prop)(K:aj->aw->Prop):Prop:=
 ∀⦃b m st' v g' h' tk⦄,Q b m st'->Rel P f cx h' st' g'->Kp n g g'->VR P g' n b m v->K v {s with heap:=h',toks:=tk}
noncomputable def Kf(P:ck)(f:Fm)(cx:Cx)(n:Nat)(g:Gh)(s:aw)(Q:MV->St->Prop)(K:aj->aw->Prop):Prop:=
 ∀⦃m st' v g' h' tk⦄,Q m st'->Rel P f cx h' st' g'->Kp n g g'->Tr P g' none m v->K v {s with heap:=h',toks:=tk}
noncomputable def Ks(P:ck)(f:Fm)(cx:Cx)(n:Nat)(g:Gh)(s:aw)(Q:List MV->St->Prop)(K:List aj->aw->Prop):Prop:=
 ∀⦃ms st' vs g' h' tk⦄,Q ms st'->Rel P f cx h' st' g'->Kp n g g'->e7 P g' ms vs->K vs {s with heap:=h',toks:=tk}
noncomputable def Kt(P:ck)(f:Fm)(cx:Cx)(n:Nat)(g:Gh)(s:aw)(Q:Bool->St->Prop)(K:Bool->aw->Prop):Prop:=
 ∀⦃b st' g' h' tk⦄,Q b st'->Rel P f cx h' st' g'->Kp n g g'->K b {s with heap:=h',toks:=tk}
theorem Kf.v{K:aj->aw->Prop}(k:Kf P f cx n g s Q K):Kv P f cx n g s (fun _ m st=>Q m st) K:=fun _ _ _ _ _ _ _ q R' K' V=>by
 obtain⟨vF,R2,K2,T⟩:=V.freeze R'
 exact k q R2 (K'.trans K2 (ab _)) T
noncomputable def SE(D:dh)(P:ck)(f:Fm)(A:b9)(cl:lq)(d:Nat)(x:X):Prop:=
 ∀⦃cx J n E s g st Q K⦄,eX f cx J->wf x J=true->Rel P f cx s.heap st g->(cP cl d x).ev st Q->Kv P f cx n g s Q K->Wp D A (ei (py J.nm x) cx.env) K E s
noncomputable def ST(D:dh)(P:ck)(f:Fm)(A:b9)(cl:lq)(d:Nat)(x:X):Prop:=
 ∀⦃cx J n E s g st Q K⦄,eX f cx J->wf x J=true->Rel P f cx s.heap st g->(cP cl d x).tt st Q->Kt P f cx n g s Q K->Wp D A (isTrue (py J.nm x) cx.env (ei (py J.nm x) cx.env)) K E s
noncomputable def SL(D:dh)(P:ck)(f:Fm)(A:b9)(cl:lq)(d:Nat)(x:X):Prop:=
 ∀⦃cx J n E s g st Q K pos⦄,eX f cx J->wf x J=true->Rel P f cx s.heap st g->(cP cl d x).Kn st Q->Ks P f cx n g s Q K->Wp D A (spliced (gB pos (cM (gi J.nm x) cx.env))) K E s
theorem SE.fz(hs:SE D P f A cl d x)(n:Nat){K:aj->aw->Prop}(C:eX f cx J)(w:wf x J=true)(R:Rel P f cx s.heap st g)(h:(cP cl d x).ev st fun _ m st=>Q m st)(k:Kf P f cx n g s Q K):Wp D A (ei (py J.nm x) cx.env) K E s:=
 hs C w R h k.v
theorem PQ(R:Rel P f cx h st g)(hC:C∈cx.cds):h.Ns C (fun x=>g.pv (.cmp C x)):=by
 obtain⟨o,h1,h2⟩:=R.cds C hC
 exact h2.ns (R.N _ h1.2).1
theorem DC(C:eX f cx J)(R:Rel P f cx s.heap st g)(hr:Res f cx x k)(hv:∀q,cx.pl k=some q->g.pv q=some v)(h:Q v s):Wp D A (loadName cx.env x) Q E s:=by
 obtain⟨⟨hn1,hn2⟩,hr⟩:=hr
 rcases hr with⟨hk,⟨hl,hp⟩|⟨hc,hp⟩⟩|⟨hk,c,hc,hp,hm⟩
 ·exact fH C.kind hk (m:=fun x=>g.pv (.loc x)) (by rw[hl];exact R.F.ns) (hv _ hp) h
 ·exact fH C.kind hk (m:=fun x=>g.pv (.cmp cx.env.locals x)) (PQ R hc) (hv _ hp) h
 ·obtain⟨o,h1,h2⟩:=R.gi c hm
  rcases hk with hk|hk
  ·exact wpAny_loadName_cell C.kind hk hc (⟨o,(R.N _ h1.2).1,by rw[h2,hv _ hp]⟩:s.heap.IsCell c (some v)) h
  ·exact wpAny_loadName_free C.kind hk hc (⟨o,(R.N _ h1.2).1,by rw[h2,hv _ hp]⟩:s.heap.IsCell c (some v)) h hn2
theorem fB(C:eX f cx J)(R:Rel P f cx s.heap st g)(hx:ug J k=true)(hv:∀q,cx.pl k=some q->g.pv q=some v)(h:Q v s):Wp D A (ei (iH J.nm k pos) cx.env) Q E s:=
 tZ (DC C R (C.rs _ k (eq_of_beq hx)) hv h) (C.rs _ k (eq_of_beq hx)).1.1
theorem Tf(h:st.loc[k]?=some sl):k<st.loc.length:=(bb.mp h).1
theorem lY(h:st.loc[k]?=some sl):(st.put k W4).loc[k]?=some W4:=by
 show(st.loc.set k W4)[k]?=some W4
 rw[cq (Tf h)]
theorem mI:∀i,i≠k->(st.put k W4).loc[i]?=st.loc[i]?:=fun _ hi=>j7 (bY hi)
theorem gF{q:Pl}(h1:cx.pl k=some q)(h2:g.pv q=some v):∀q',cx.pl k=some q'->g.pv q'=some v:=fun q' hq=>by rw[h1]at hq;obtain rfl:=ar hq;exact h2
theorem PP{pos:Pos}{K:aj->aw->Prop}(C:eX f cx J)(R:Rel P f cx s.heap st g)(hx:ug J k=true)(he:G2 st k Q)(kk:Kf P f cx n g s Q K):Wp D A (ei (iH J.nm k pos) cx.env) K E s:=by
 have S:=R.sl k
 rcases jL he with⟨m,hs,hq⟩|⟨m,hs,hq⟩
 ·rw[hs]at S
  obtain⟨q,a,h1,h2,h3⟩:=S
  refine fB C R hx (gF h1 h2) (kk (g':=g.give a .fz) (h':=s.heap) (tk:=s.toks) hq (R.Ql h3.ow rfl ?_ mI) (zT h3.ow) (h3.fz (by simp)))
  rw[lY hs]
  exact⟨q,_,h1,h2,h3.fz (by simp)⟩
 ·rw[hs]at S
  obtain⟨q,v,h1,h2,h3⟩:=S
  exact fB C R hx (gF h1 h2) (kk (g':=g) (h':=s.heap) (tk:=s.toks) hq R .refl h3)
end
section
variable{D:dh}{P:ck}{f:Fm}{cx:Cx}{J:Cn}{A:b9}{E:aj->aw->Prop}{s:aw}{st st':St}{g g':Gh}{n d:Nat}{cl:lq}
theorem BB:Tr P g h (.int z) (.int z t):=⟨_,rfl⟩
theorem Ra:Tr P g h (.str z) (.str z t):=⟨_,rfl⟩
theorem L7:Tr P g h (.bool z) (.bool z):=rfl
theorem VW:Tr P g h .none .none:=rfl
theorem trR(e:g.ca[i]?=some a):Tr P g h (.ref i) (.ref a):=⟨a,e,rfl⟩
theorem trL(o:Fz g a (dq vs nn))(t:e7 P g xs vs):Tr P g h (.lst xs) (.ref a):=⟨a,vs,nn,rfl,o,t⟩
theorem trT(o:Fz g a (nj vs))(t:e7 P g xs vs):Tr P g h (.tup xs) (.ref a):=⟨a,vs,rfl,o,t⟩
theorem trD(o:Fz g a (y4 ds nn))(t:nh P g a es ds)(nd:(es.map (·.1)).Nodup):Tr P g h (.bI es) (.ref a):=⟨a,ds,nn,rfl,o,t,nd⟩
theorem cJ(R:Rel P f cx h st g):∀p∈g.nw,p.1<h.objs.size:=fun p hp=>f7 (R.N p hp).1
theorem de(R:Rel P f cx h st g)(o:Obj)(X:Ow)(ho:o.isFreed=false:=by rfl):Rel P f cx (h.push o) st (g.push h.objs.size o X):=
 R.push (R.F.push o) (R.N.push R.F o ho) (cJ R)
theorem lP:b8<=sizeLine:=by rw[fg];decide
theorem pQ(h:n<=b8):(n:Int)<2^63:=by unfold b8 at h;omega
theorem cK{X:Ow}(B:Bs P f h mu g)(ho:Ob g a X (dq vs nn)):h.IsList a vs.toArray:=⟨_,(B.N _ ho.2).1,rfl,nn,rfl⟩
theorem jA{X:Ow}(B:Bs P f h mu g)(ho:Ob g a X (nj vs)):h.IsTuple a vs.toArray:=⟨_,(B.N _ ho.2).1,rfl,_,rfl⟩
theorem rA{X:Ow}(B:Bs P f h mu g)(ho:Ob g a X o):(a==sysModules)=false:=
 beq_eq_false_iff_ne.mpr (nG (g0 (by decide) (B.lo.2 _ ho.2)))
noncomputable def BV(P:ck)(g:Gh)(own:Bool)(m:MV)(v:aj):Prop:=match m with
 |.lst xs=>∃a X vs nn,v=.ref a/\Ob g a X (dq vs nn)/\e7 P g xs vs
 |.bI es=>∃a X k6 nn,v=.ref a/\Ob g a X (y4 k6 nn)/\nh P g a es k6/\(es.map (·.1)).Nodup/\(own=false->X=.fz)
 |m=>Tr P g none m v
theorem BV.wK(h:Tr P g none m v):BV P g own m v:=by
 cases m with
 |lst xs=>obtain⟨a,vs,nn,h1,h2,h3⟩:=h;exact⟨a,.fz,vs,nn,h1,h2,h3⟩
 |bI es=>obtain⟨a,vs,nn,h1,h2,h3,h4⟩:=h;exact⟨a,.fz,vs,nn,h1,h2,h3,h4,fun _=>rfl⟩
 |_=>exact h
theorem BV.SA{X:Ow}(h:my P g a X m):BV P g true m (.ref a):=by
 cases m with
 |lst xs=>obtain⟨vs,nn,h4,h5⟩:=h;exact⟨a,_,vs,nn,rfl,h4,h5⟩
 |bI es=>obtain⟨vs,nn,h4,h5,h6⟩:=h;exact⟨a,_,vs,nn,rfl,h4,h5,h6,fun e=>(aJ (cN e)).elim⟩
 |_=>exact h.elim
inductive ab1(P:ck)(cx:Cx)(g:Gh)(k:Nat)(X Y:MV->Prop):Prop
 |mk(o:Bool)(m:MV)(v:aj)(q:Pl)(h1:cx.pl k=some q)(h2:g.pv q=some v)(h3:BV P g o m v)(h4: @bE (fun _=>Prop) (Y m) (X m) o)
theorem CL{X Y:MV->Prop}(R:Rel P f cx h st g)(hb:AA st k X Y):ab1 P cx g k X Y:=by
 have S:=R.sl k
 rcases jL hb with⟨m,hs,hq⟩|⟨m,hs,hq⟩
 ·rw[hs]at S
  obtain⟨q,a,h1,h2,h3⟩:=S
  exact⟨true,m,_,q,h1,h2,.SA h3,hq⟩
 ·rw[hs]at S
  obtain⟨q,v,h1,h2,h3⟩:=S
  cases m with
  |ref i=>
   obtain⟨c,hx,hq⟩:=hJ hq
   obtain⟨xs,rfl,hq⟩:=I1 hq
   obtain⟨a,vs,nn,c1,c2,c3⟩:=R.mu i _ hx
   obtain⟨a',h4,rfl⟩:=h3
   rw[c1]at h4;obtain rfl:=ar h4
   exact⟨false,.lst xs,_,q,h1,h2,⟨a,_,vs,nn,rfl,c2,c3⟩,hq⟩
  |_=>exact⟨false,_,v,q,h1,h2,.wK h3,hq⟩
theorem oj{K:Bool->aw->Prop}(B:Bs P f s.heap mu g)(hv:BV P g own m v)(h:G0 m Q)(k:∀b tk,Q b->K b {s with toks:=tk}):Wp D A (kI v) K E s:=by
 cases m with
 |none=>cases(show v=.none from hv);exact fun _ _ _=>k _ s.toks h
 |bool b=>cases(show v=.bool b from hv);exact nt (k _ s.toks h)
 |int z=>obtain⟨t,rfl⟩:=hv;exact PySem.P.truthy_int (k _ s.toks h)
 |lst xs=>
  obtain⟨hl,h⟩:=e5 h
  obtain⟨a,X,vs,nn,rfl,ho,ht⟩:=hv
  refine wpAny_truthy_list (cK B ho) (by exact aM.symm▸ht.len.symm▸pQ hl) ?_
  have:(!vs.toArray.isEmpty)= !xs.isEmpty:=by
   induction xs<;>induction vs<;>first|rfl|cases ht.len
  exact this.symm▸k _ _ h
 |_=>exact h.elim
theorem WY(hs:SE D P f A cl d x)(ht:∀{st Q},(cP cl d x).tt st Q->(cP cl d x).ev st fun _ m st=>G0 m fun b=>Q b st)(hp:∀nm env whole,isTrue (py nm x) env whole=(do let v<-whole;standAt (py nm x).pos;holding [v] (kI v))):ST D P f A cl d x:=
 fun{cx J n E s g st Q K} C w R h k=>wpAny_isTrue_value (he:=hp _ _ _) (hs.fz n (Q:=fun m st=>G0 m fun b=>Q b st) C w R (ht h) fun m st' v g' h' tk q R' K' T=>oj (s:={s with heap:=h',toks:=tk}) R'.toBs (.wK (own:=false) T) q fun b PE hb=>k hb R' K')
section
variable{p q:Pos}
theorem Xh:SE D P f A cl d (.int z p):=fun _ _ _ _ _ _ _ _ _ C w R h k=>jm (k h R .refl (VR.of BB))
theorem W8:SE D P f A cl d (.str z p):=fun _ _ _ _ _ _ _ _ _ C w R h k=>t8 (k h R .refl (VR.of Ra))
theorem s_bool:SE D P f A cl d (.bool z p):=fun{cx J n E s g st Q K} C w R h k=>wpAny_Constant_bool (k (h':=s.heap) (tk:=s.toks) h R .refl (VR.of L7))
theorem Xc:SE D P f A cl d (.Nv p):=fun{cx J n E s g st Q K} C w R h k=>wpAny_Constant_none (k (h':=s.heap) (tk:=s.toks) h R .refl (VR.of VW))
theorem Xe:SE D P f A cl d (.neg z p q):=fun _ _ _ _ _ _ _ _ _ C w R h k=>wpAny_UnaryOp (jm (PyProof.Rows.neg_int (k h R .refl (VR.of BB))))
theorem s_v:SE D P f A cl d (.v k p):=fun _ _ _ _ _ _ _ _ _ C w R h kk=>PP C R w h fun _ _ _ _ _ _ q R' K' T=>kk q R' K' (VR.of T)
theorem t_v:ST D P f A cl d (.v k p):=fun{cx J n E s g st Q K} C w R h kk=>by
 obtain⟨o,m,v,q,h1,h2,bv,hq⟩:=CL R h
 exact wpAny_isTrue_value (fB C R w (gF h1 h2) (oj R.toBs bv (by induction o<;>exact hq) fun b tk hb=>kk (h':=s.heap) hb R .refl))
theorem aaE:SE D P f A cl d (.d0 p):=fun{cx J n E s g st Q K} C w R h k=>xy (k (tk:=s.toks) h (de R _ _) (cU (cJ R)) ⟨_,rfl,[],0,dk,rfl,.nil⟩)
end
theorem gR:cM (py nm x::es) env=(false,ei (py nm x) env)::cM es env:=by induction x<;>rfl
theorem uu:SL D P f A cl d .nil:=fun{cx J n E s g st Q K pos} C w R h k=>gI (k (h':=s.heap) (tk:=s.toks) h R .refl .nil)
theorem oq(h1:SE D P f A cl d x)(h2:SL D P f A cl d xs):SL D P f A cl d (.cons x xs):=fun{cx J n E s g st Q K pos} C w R h k=>by
 refine eE (h1.fz n (Q:=fun m st=>(cP cl d xs).Kn st fun ms st=>Q (m::ms) st) C (aP w) R h fun m eZ v g1 Y4 WR q R1 K1 T1=>?_) gR
 exact h2 (s:={s with heap:=Y4,toks:=WR}) C (aB w) R1 q fun _ _ _ _ _ _ q R2 K2 T2=>k q R2 (K1.trans K2 (ab _)) (.cons (T1.mono K2.toGLe) T2)
theorem lD{K:aj->aw->Prop}(M:cY D f A d)(C:eX f cx J)(R:Rel P f cx s.heap st g)(hx:nV J x=true)(e:nsIn D.K dA x=some (some v))(hd:(x==af "__debug__")=false)(h:K v s):
 Wp D A (ei (.Name x pos) cx.env) K E s:=
 Name_function_global C.kind (C.gl x hx) (loadGlobal_global (by rw[C.glob];exact M.T.g.keeps R.F.keep) (mg_of M.X M.T.g e) h) hd
theorem O9{K:aj->aw->Prop}(M:cY D f A d)(C:eX f cx J)(R:Rel P f cx s.heap st g)(hx:nV J x=true)(e:nsIn D.K dA x=some none)(hv:bootBuiltins x=some v)(hn:x≠ "__name__")
 (hd:(x==af "__debug__")=false) (h:K v s):Wp D A (ei (.Name x pos) cx.env) K E s:=
 Name_function_global C.kind (C.gl x hx) (loadGlobal_builtin (by rw[C.glob];exact M.T.g.keeps R.F.keep) (mg_none_of M.X M.T.g e) (by rw[C.blt];exact M.T.b.keeps R.F.keep) ((M.T.builtins x hn).trans hv) h) hd
theorem ff{p:Prop}(h:false=true):p:=(aJ h).elim
noncomputable def Pt(nm:Nat->Str)(x:X):Prop:=gi nm x=[]\/∃e r,x=.cons e r
theorem Pt.em(h:gi nm x=[]):Pt nm x:=.inl h
theorem XA:∀x,Pt nm x:=by
 intro x
 induction x with
 |cons e r=>exact .inr ⟨_,_,rfl⟩
 |_=>exact Pt.em (@rfl _ [])
theorem noStar:(gB pos (cM (gi nm x) env)).any (·.1)=false:=by
 induction x with
 |cons x xs _ ih=>
  show(gB pos (cM (py nm x::gi nm xs) env)).any (·.1)=false
  rw[gR]
  exact ih
 |_=>rfl
noncomputable def Callee(P:ck)(g:Gh)(lj:Nat)(ms:List MV)(fv:aj)(vs:List aj):Prop:=
 if lj<64 then fv=.ref (P.fn lj)/\e7 P g ms vs else∃m v i,ms=[m,.ref i]/\vs=[v]/\Tr P g none m v/\tY P g (lj-64) i fv/\jP (lj-64)=some (lj,true)
structure Bk(P:ck)(f:Fm)(n:Nat)(g g':Gh)(mu':List MC)(b:Bool)(m:MV)(v:aj)(h':eO):Prop where
 F:Fr f.h₀ f.L h' (fun x=>g.pv (.loc x))
 pv:g'.pv=g.pv
 B:Bs P f h' mu' g'
 L:Le (fun X=>∀i j,X≠ .cell i j) g g'
 V:VR P g' n b m v
 nw:∀C o,(C,o)∈g.nw->∃o',(C,o')∈g'.nw
noncomputable def lQ(D:dh)(P:ck)(d:Nat)(cl:lq):Prop:=
 ∀(lj:Nat)(ms:List MV)(mu:List MC)(Q:Bool->MV->List MC->Prop),cl lj ms mu Q->
 ∀(f:Fm)(A:b9)(s:aw)(g:Gh)(n:Nat)(fv:aj)(vs:List aj)(R:Result->aw->Prop),
  cY D f A d->Fr f.h₀ f.L s.heap (fun x=>g.pv (.loc x))->Bs P f s.heap mu g->Callee P g lj ms fv vs->
  (∀b m mu' v g' h' tk,Q b m mu'->Bk P f n g g' mu' b m v h'->R (.ok (.ret v)) {s with heap:=h',toks:=tk})->
  codeAny (oK D.prog D.w) A (.call fv ⟨vs,[]⟩) R s
theorem Rel.after(R:Rel P f cx h st g)(B:Bk P f n g g' mu' b m v h'):Rel P f cx h' {st with mu:=mu'} g'/\Kp n g g':=by
 refine⟨⟨B.B,by exact B.pv.symm▸B.F,fun c hc=>?_,fun C hC=>?_,fun k=>?_,fun C x v e=>?_⟩,B.L.kp (by simp) (by simp) (fun _ _=>by simp) B.pv⟩
 ·obtain⟨o,h1,h2⟩:=R.gi c hc
  exact⟨o,B.L.ob _ _ _ (by simp) h1,by rw[B.pv];exact h2⟩
 ·obtain⟨o,h1,h2⟩:=R.cds C hC
  exact⟨o,B.L.ob _ _ _ (by simp) h1,by rw[B.pv];exact h2⟩
 ·exact(R.sl k).mono B.L (by simp) (by simp) fun q _=>by exact B.pv.symm▸rfl
 ·rw[B.pv]at e
  obtain⟨o,ho⟩:=R.gY C x v e
  exact B.nw C o ho
theorem yD{K:aj->aw->Prop}(H:lQ D P d cl)(M:cY D f A d)(R:Rel P f cx s.heap st g)(y2:cl lj ms st.mu fun b m mu=>Q b m {st with mu:=mu})(hc:Callee P g lj ms fv vs)(k:Kv P f cx n g s Q K):
 Wp D A (call fv vs) K E s:=
 wpAny_call (H lj ms st.mu _ y2 f A s g n fv vs _ M R.F R.toBs hc fun b m mu' v g' h' tk q B=>k q (R.after B).1 (R.after B).2 B.V)
theorem mX{K:aj->aw->Prop}(M:cY D f A d)(R:Rel P f cx s.heap st g)(hk:keepIn D.K fv=true)(hs:SL D P f A cl d xs)(C:eX f cx J)(w:wf xs J=true)(h:(cP cl d xs).Kn st Q)
 (k:Ks P f cx n g s Q fun vs s₁=>Wp D A (call fv (first++vs)) K E s₁):Wp D A (qT pos fv first (gB pos (cM (gi J.nm xs) cx.env)) []) K E s:=by
 rcases XA (nm:=J.nm) xs with e|⟨e,r,rfl⟩
 ·have h':=hs (E:=E) (pos:=pos) C w R h k
  rw[e]at h'⊢
  refine callWith_K0 (M.X.keeps R.F.keep) hk fun J' p hΓ=>?_
  exact h' J' p hΓ J' p hΓ
 ·exact callWith_K M.X hk (hs C w R h fun ms st' vs g' h' tk q R' K' T=>⟨M.X.keeps R'.F.keep,k q R' K' T⟩) gR noStar
theorem Zv:∀p∈Qp,p.1<64/\(af p.2==af "__debug__")=false:=by decide+kernel
theorem Zw(h:(Qp.lookup i).isSome=true):i<64/\(af (Zz i)==af "__debug__")=false:=by
 obtain⟨nm,hn⟩:=en.mp h
 obtain⟨l₁,l₂,e,_⟩:=y7.mp hn
 have:=Zv (i,nm) (by rw[e];simp)
 exact⟨this.1,by unfold Zz;exact hn.symm▸this.2⟩
theorem s_call{p q:Pos}(G:fL D P)(H:lQ D P d cl)(M:cY D f A d)(hs:SL D P f A cl d xs):SE D P f A cl d (.call i xs p q):=fun{cx J n E s g st Q K} C w R h k=>by
 have w2:=aB w
 obtain⟨h1,h2⟩:=Zw (aB w2)
 refine Call_ (lD M C R (aP w2) (G.fnG i (aB w2)) h2 ?_)
 refine mX (n:=n) M R (G.DO i h1) hs C (aP w) h fun ms eZ vs g1 Y4 WR hq R1 K1 T1=>?_
 exact yD (s:={s with heap:=Y4,toks:=WR}) (n:=n) H M R1 hq (by unfold Callee;rw[if_pos h1];exact⟨rfl,T1⟩) fun b m mF v g2 hh2 tk2 q2 R2 K2 V2=>k q2 R2 (K1.trans K2 (ab _)) V2
end
noncomputable def A6:List Str->List Str->List pX->Prop
 |[],[],b=>b=[]
 |f::fs,y::ps,b=>∃p1 p2 p3 p4 r,b=.Assign [.Attribute (.Name (af "self") p1) f p2] (.Name y p3) p4::r/\(y==af "__debug__")=false/\A6 fs ps r
 |_,_,_=>False
inductive aau(D:dh)(C:aZ)(lh:List Str):Prop
 |mk(fI:aZ)(name qual:Str)(params:rX)(body:List pX)(scope:fq)(dV kV doc pm Az ct oc:aj)(an od:Option aZ)(V4:Array (Option aj))(ps:List Str)
  (h1:fO D.K (.ref C) "__init__"=some (some (.ref fI))) (h2:isFn D.K (.ref fI)=true) (h3:D.K.lookup fI=some ⟨oc,od,.func (fnOf name qual params body scope dV kV doc pm an Az ct),V4⟩) (h4:codeIn D.K Az qual=true)
  (h5:∀x vs,vs.length=ps.length->mC (fnOf name qual params body scope dV kV doc pm an Az ct) ⟨x::vs,[]⟩=pure ((af "self",x)::ps.zip vs))
  (h6:A6 lh ps body) (h7:scope.kind=.function) (h8:scope.isCoroutine=false) (h9:scope.isGenerator=false) (h10:∀x∈scope.names,x.2≠ .cell) (h11:scope.names.lookup (af "self")=some .local)
  (h12:∀p∈ps,scope.names.lookup p=some .local) (h13:(af "self" ::ps).Nodup)
structure yU(D:dh)(C:aZ)(lh:List Str):Prop where
 make:makesIn D.K C=true
 dict:oM D.K C=true
 sa:fO D.K (.ref C) "__setattr__"=some (some (.builtin "object.__setattr__"))
 po:plainOver D.K C=true
 tk:∀x∈lh,nA D.K C x=some none
 nd:lh.Nodup
 sz:lh.length<=20
 init:aau D C lh
structure LP(P:ck):Prop where
 fn:∀k c o c' o',P.lam k c o c' o'->∃fd,o.data=.func fd
section
variable{D:dh}{P:ck}{f:Fm}{cx:Cx}{J:Cn}{A:b9}{E:aj->aw->Prop}{s:aw}{st st':St}{g g':Gh}{n d:Nat}{cl:lq}
noncomputable def Vl(P:ck)(g:Gh)(a:aZ):List (Str×MV)->List (Str×aj)->Prop
 |[],kvs=>kvs=[]
 |e::es,kvs=>∃v r,kvs=(e.1,v)::r/\Tr P g (some a) e.2 v/\Vl P g a es r
theorem nh.inv(h:nh P g a (e::es) ds):∃t v r,ds=⟨P.kh e.1,.str e.1 t,v⟩::r/\Tr P g (some a) e.2 v/\nh P g a es r:=by
 obtain⟨k0,m0⟩:=e
 obtain⟨d,r,h1,⟨t,v,h2,h3⟩,h4⟩:=h
 exact⟨t,v,r,by rw[h1,h2],h3,h4⟩
theorem nh.cons(h:Tr P g (some a) m v)(hs:nh P g a es ds):nh P g a ((k,m)::es) (⟨P.kh k,.str k t,v⟩::ds):=by
 exact⟨_,_,rfl,⟨t,v,rfl,h⟩,hs⟩
theorem nh.nil:nh P g a [] []:=by rfl
theorem nh.pairs(kh:P.kh=bg D.w.params):∀{es:List (Str×MV)}{ds:List cw},nh P g a es ds->∃kvs,Vl P g a es kvs/\Pairs (strKind D.prog D.w) ds kvs/\(∀e∈ds,∃k,(strKind D.prog D.w).is k e.key=true/\e.hash=(strKind D.prog D.w).hash k)/\kvs.map (·.1)=es.map (·.1):=by
 intro es
 induction es with
 |nil=>
  intro ds h
  subst h;exact⟨[],rfl,.nil,(fun _ he=>(bt he).elim),rfl⟩
 |cons e es cz=>
  intro ds h
  obtain⟨t,v,r,rfl,h1,h2⟩:=h.inv
  obtain⟨kvs,i1,i2,i3,i4⟩:=cz h2
  refine⟨(e.1,v)::kvs,⟨v,kvs,rfl,h1,i1⟩,.cons (gA _ _ _ _) rfl i2,?_,by simp[i4]⟩
  intro e' he
  rcases aA.mp he with rfl|he
  ·exact⟨e.1,gA _ _ _ _,by rw[kh];rfl⟩
  ·exact i3 e' he
theorem nh.dictOf(kh:P.kh=bg D.w.params){h:eO}(t:nh P g a es ds)(hn:(es.map (·.1)).Nodup)(ho:h.get? a=some (aU ds nn)):
 ∃kvs,h.DictOf (strKind D.prog D.w) a kvs/\Vl P g a es kvs/\kvs.map (·.1)=es.map (·.1):=by
 obtain⟨kvs,i1,i2,i3,i4⟩:=t.pairs (D:=D) kh
 refine⟨kvs,⟨_,_,_,ho,⟨rfl,rfl,rfl⟩,rfl,fun e he=>i3 e (by simpa using he),by simpa using i2,by rw[i4];exact hn⟩,i1,i4⟩
theorem Pairs.tre(kh:P.kh=bg D.w.params):∀{es:List (Str×MV)}{ds:List cw}{kvs:List (Str×aj)},Vl P g a es kvs->Pairs (strKind D.prog D.w) ds kvs->(∀e∈ds,∃k,(strKind D.prog D.w).is k e.key=true/\e.hash=(strKind D.prog D.w).hash k)->nh P g a es ds:=by
 intro es
 induction es with
 |nil=>
  intro ds kvs h hp _
  subst h
  cases hp;exact .nil
 |cons e es cz=>
  rintro ds kvs ⟨v,r,h1,h2,h3⟩ hp hk
  subst h1
  cases hp with
  | @cons d kv Gi NW p1 p2 p3=>
    obtain⟨k,q1,q2⟩:=hk d (.head _)
    have:k=e.1:=(strKind D.prog D.w).inj _ _ _ q1 p1
    subst this
    obtain⟨hh,kk,vv⟩:=d
    simp only at p1 p2 q2
    subst p2 q2
    obtain⟨t,rfl⟩:=pe p1
    have:=nh.cons (t:=t) (k:=e.1) h2 (cz h3 p3 fun e he=>hk e (.tail _ he))
    rw[kh]at this
    exact this
theorem DictOf.obj(kh:P.kh=bg D.w.params){h:eO}(hd:h.DictOf (strKind D.prog D.w) a kvs)(v:Vl P g a es kvs)(he:kvs.map (·.1)=es.map (·.1)):
 ∃ds nn,h.get? a=some (aU ds nn)/\nh P g a es ds/\(es.map (·.1)).Nodup:=by
 obtain⟨o,k6,ep,ho,⟨c1,c2,c3⟩,Oi,hk,hp,hn⟩:=hd
 refine⟨k6.toList,ep,?_,Pairs.tre kh v hp fun e he=>hk e (by simpa using he),he▸hn⟩
 obtain⟨oc,od,odt,V4⟩:=o
 simp only at c1 c2 c3 Oi
 subst c1 c2 c3 Oi
 exact ho
theorem k9(h:a=b):sq a b=true:=decide_eq_true h
theorem jX(h:¬a=b):sq a b=false:=decide_eq_false h
theorem Rz(h:ek=k):br ((ek,em)::es) k v=(ek,v)::es:=by show @bE (fun _=>List (Str×MV)) _ _ (sq ek k)=_;rw[k9 h]
theorem RA(h:¬ek=k):br ((ek,em)::es) k v=(ek,em)::br es k v:=by show @bE (fun _=>List (Str×MV)) _ _ (sq ek k)=_;rw[jX h]
theorem UO(h:ek=k):cf ((ek,em)::es) k=some em:=by rw[cf,k9 h]
theorem UP(h:¬ek=k):cf ((ek,em)::es) k=cf es k:=by rw[cf,jX h]
theorem Vl.keys:∀{es:List (Str×MV)}{kvs:List (Str×aj)},Vl P g a es kvs->kvs.map (·.1)=es.map (·.1):=by
 intro es
 induction es with
 |nil=>
  intro _ h
  cases(show _=[]from h);rfl
 |cons e es cz=>
  rintro _ ⟨v,r,h1,_,h⟩
  subst h1;refine dY.symm▸?_;rw[dY,cz h]
theorem Vl.set(hm:Tr P g (some a) m v):∀{es:List (Str×MV)}{kvs:List (Str×aj)},Vl P g a es kvs->(kvs.map (·.1)).Nodup->Vl P g a (br es k m) (stored kvs k v):=by
 intro es
 induction es with
 |nil=>
  intro kvs h _
  cases(show _=[]from h);exact⟨v,[],rfl,hm,rfl⟩
 |cons zx es cz=>
  obtain⟨ek,em⟩:=zx
  rintro kvs ⟨u,r,h1,h2,h3⟩ hn
  subst h1
  by_cases hk:ek=k
  ·refine(Rz hk).symm▸?_
   subst hk
   have hs:stored ((ek,u)::r) ek v=(ek,v)::r:=by
    unfold stored
    simp only[ix,decide_true,rW,if_true,dY]
    rw[map_store_of_not_mem r ek v (cZ.mp hn).1]
   exact hs.symm▸⟨v,r,rfl,hm,h3⟩
  ·have hs:stored ((ek,u)::r) k v=(ek,u)::stored r k v:=by
    unfold stored
    simp only[ix,decide_eq_false hk,qc,dY,if_neg hk]
    split<;>rfl
   exact hs.symm▸(RA hk).symm▸⟨u,_,rfl,h2,cz h3 (cZ.mp hn).2⟩
theorem Vl.get:∀{es:List (Str×MV)}{kvs:List (Str×aj)},Vl P g a es kvs->(cf es k=none/\nz kvs k=none)\/∃m v,cf es k=some m/\nz kvs k=some v/\Tr P g (some a) m v:=by
 intro es
 induction es with
 |nil=>
  intro kvs h
  cases(show _=[]from h);exact .inl ⟨rfl,rfl⟩
 |cons zx es cz=>
  obtain⟨ek,em⟩:=zx
  rintro kvs ⟨u,r,h1,h2,h3⟩
  subst h1
  by_cases hk:ek=k
  ·subst hk
   exact .inr ⟨em,u,UO rfl,by simp[nz],h2⟩
  ·have e2:nz ((ek,u)::r) k=nz r k:=by simp[nz,kB,hk]
   exact(UP hk).symm▸e2.symm▸cz h3
theorem Vl.has(h:Vl P g a es kvs):(nz kvs k).isSome=gp es k:=by
 unfold gp
 rcases h.get (k:=k)with⟨m1,m2⟩|⟨m',v',m1,m2,m3⟩
 ·rw[m1,m2];rfl
 ·rw[m1,m2];rfl
theorem Tr.Bx(hn:∀x,m≠ .g9 x)(e:Tr P g h m v):Tr P g none m v:=by
 cases m with
 |g9 x=>exact absurd rfl (hn x)
 |_=>exact e
theorem Tr.fT(hd:Tr P g none (.bI es) (.ref a))(h:Tr P g (some a) m v):Tr P g none (fT es m) v:=by
 cases m with
 |g9 x=>
  obtain⟨a',b,vx,h1,rfl,h3,h4⟩:=h
  obtain rfl:=ar h1
  exact⟨b,_,rfl,h3,.cons h4 (.cons hd .nil)⟩
 |_=>exact Tr.Bx (fun x e=>by cases e) h
theorem Ii:∀{es:List cw},es.find? (·.key.isStr x)=none->putL x h key v es=es++[⟨h,key,v⟩]/\es.any (·.key.isStr x)=false:=by
 intro es
 induction es with
 |nil=>
  intro _
  exact⟨rfl,rfl⟩
 |cons e r cz=>
  intro hf
  rw[kB]at hf
  split at hf
  ·exact(ay _ hf).elim
  ·rename_i hb
   obtain⟨h1,h2⟩:=cz hf
   constructor
   ·show(if e.key.isStr x=true then _ else _)=_
    rw[if_neg (by rw[hb];simp),h1];rfl
   ·rw[ix,h2,yX];exact hb
theorem Ga{x f:Str}(h1:es.find? (·.key.isStr x)=none)(h2:(f==x)=false):(es++[(⟨h,.str f t,v⟩:cw)]).find? (·.key.isStr x)=none:=by
 rw[List.find?_append,h1,kB]
 have:gJ (.str f t) x=false:=h2
 simp[this]
theorem JB(X:D.K.In g₀)(hl:env.locals=L')(hk:env.scope.kind=.function)(w8:m' (af "self")=some (.ref x))(hs:env.kindOf (af "self")=some .local)
 (mk:oM D.K C=true) (sa:fO D.K (.ref C) "__setattr__"=some (some (.builtin "object.__setattr__"))) (po:plainOver D.K C=true) (hx:x≠dx) (hnw:∀p∈nw,p.1≠dx):
 ∀(lh ps:List Str)(vs:List aj)(body:List pX)(es:List cw)(nn:Nat)(s:aw)(Q:Flow->aw->Prop),A6 lh ps body->(∀y∈lh,nA D.K C y=some none)->lh.Nodup->vs.length=ps.length->
  (∀(i:Nat)(p:Str)(v:aj),ps[i]?=some p->vs[i]?=some v->m' p=some v/\env.kindOf p=some .local)->(∀y∈lh,es.find? (·.key.isStr y)=none)->es.any (·.refKey)=false->es.length+lh.length<=1000->
  Fr g₀ L' s.heap m'->News g₀ L' s.heap ((x,iC C dx)::(dx,dictOf es nn)::nw)->
  (∀h' tk es' wM,Fr g₀ L' h' m'->News g₀ L' h' ((x,iC C dx)::(dx,dictOf (es++es') wM)::nw)->Wx (bg D.w.params) lh vs es'->Q .next {s with heap:=h',toks:=tk})->
  Wp D A (execs body env) Q E s:=by
 intro lh
 induction lh with
 |nil=>
  intro ps vs body es nn s Q hb _ _ hlen _ _ _ _ F N k
  cases ps with
  |cons=>exact hb.elim
  |nil=>
   obtain rfl:body=[]:=hb
   replace k:=eB hlen▸k
   exact jc (k s.heap s.toks [] nn F (by rw[aT];exact N) trivial)
 |cons a lh ih=>
  intro ps vs body es nn s Q hb htk xc hlen hm JQ hrk Wi F N k
  cases ps with
  |nil=>exact hb.elim
  |cons y ps=>
   cases vs with
   |nil=>exact(jV _ hlen.symm).elim
   |cons v vs=>
    obtain⟨p1,p2,p3,p4,sts,rfl,e4,YV⟩:=hb
    obtain⟨hv,hkp⟩:=hm 0 y v rfl rfl
    refine ba (dr (hs:=rfl) (tZ (hd:=e4) (fH hk hkp (by exact hl.symm▸F.ns:s.heap.Ns env.locals m') hv (tZ (hd:=by decide+kernel) (fH hk hs (by exact hl.symm▸F.ns:s.heap.Ns env.locals m') w8 ?_)))))
    obtain⟨q1,q2⟩:=Ii (h:=bg D.w.params a) (key:=.str a (s.toks+1)) (v:=v) (JQ a (.head _))
    refine set_dict F X N (cp N (.head _) (.tail _ (.head _))) rfl sa po (htk a (.head _)) mk ?_ (es':=es++[⟨bg D.w.params a,.str a (s.toks+1),v⟩]) (n':=nn+1) ?_ (Upd.tail hx (Upd.head hnw)) ?_ fun h' F' N'=>?_
    ·unfold cj
     refine(JQ a (.head _)).symm▸?_
     simp[hrk]
    ·refine q1.symm▸?_;unfold putN;refine q2.symm▸?_;rfl
    ·simp at Wi⊢;lia
    ·refine ih ps vs sts _ (nn+1) {s with heap:=h',toks:=s.toks+2} Q YV (fun y hy=>htk y (.tail _ hy)) (cZ.mp xc).2 (by simpa using hlen) (fun i p' v' h1 h2=>hm (i+1) p' v' h1 h2)
      (fun y hy=>Ga (JQ y (.tail _ hy)) (by
        have:a≠y:=fun e=>(cZ.mp xc).1 (e▸hy)
        simpa using this)) (by rw[List.any_append];refine hrk.symm▸?_;rfl) (by simp at Wi⊢;lia) F' N' fun h'' tk es' wM F'' N'' hI=>?_
     exact k h'' tk (⟨_,_,_⟩::es') wM F'' (by simpa using N'') ⟨⟨_,rfl⟩,hI⟩
theorem mD:(A.under (.builtin "type.__call__" ⟨x,kw⟩)).frames=A.frames:=by
 unfold b9.under
 have:(nE "type.__call__" ⟨x,kw⟩).envs=[]:=by unfold Code.envs Code.isFrame;rfl
 refine this.symm▸?_;rfl
theorem Hr:∀{ps:List Str}{vs:List aj}{i:Nat},ps.Nodup->ps[i]?=some p->vs[i]?=some v->∀y u,(y,u)∈ps.zip vs->y=p->u=v:=by
 intro ps
 induction ps with
 |nil=>intro vs i _ h;exact(ay _ (cN h)).elim
 |cons q ps ih=>
  intro vs i xc h1 h2 y u hm e
  cases vs with
  |nil=>exact(ay _ (cN h2)).elim
  |cons w vs=>
   cases i with
   |zero=>
    cases ar h1
    cases ar h2
    rcases aA.mp hm with e'|hm
    ·obtain⟨rfl,rfl⟩:=aN e';rfl
    ·exact absurd (e▸(nH hm).1) (cZ.mp xc).1
   |succ i=>
    rcases aA.mp hm with e'|hm
    ·obtain⟨rfl,rfl⟩:=aN e'
     exact absurd (e▸cW (show ps[i]?=some p from h1)) (cZ.mp xc).1
    ·exact ih (i:=i) (cZ.mp xc).2 h1 h2 y u hm e
theorem uf:∀{ps:List Str}{vs:List aj}{i:Nat},ps[i]?=some p->vs[i]?=some v->(p,v)∈ps.zip vs:=by
 intro ps
 induction ps with
 |nil=>intro vs i h;exact(ay _ (cN h)).elim
 |cons q ps ih=>
  intro vs i h1 h2
  induction vs with
  |nil=>exact(ay _ (cN h2)).elim
  |cons w vs=>
   induction i with
   |zero=>cases ar h1;cases ar h2;exact .head _
   |succ i=>exact .tail _ (ih h1 h2)
theorem zK:∀{l:List (Str×aj)},(p,v)∈l->(∀y u,(y,u)∈l->y=p->u=v)->l.lookup p=some v:=by
 intro l
 induction l with
 |nil=>
  intro h _
  exact(bt h).elim
 |cons zx r cz=>
  obtain⟨y,u⟩:=zx
  intro h hu
  rw[c9]
  by_cases e:p=y
  ·subst e;simp[hu p u (.head _) rfl]
  ·have hb:(p==y)=false:=by simpa using e
   simp only[hb]
   rcases aA.mp h with e'|h
   ·obtain⟨rfl,rfl⟩:=aN e';exact absurd rfl e
   ·exact cz h fun y' u' hm he=>hu y' u' (.tail _ hm) he
theorem JC:∀(fs:List Str){ps:List Str}{b:List pX},A6 fs ps b->ps.length=fs.length:=by
 intro fs
 induction fs with
 |nil=>intro ps b h;induction ps with|nil=>rfl|cons y r=>exact h.elim
 |cons f fs ih=>
  intro ps b h
  induction ps with
  |nil=>exact h.elim
  |cons y r=>exact h.elim fun _ h=>h.elim fun _ h=>h.elim fun _ h=>h.elim fun _ h=>h.elim fun _ h=>congrArg (· +1) (ih h.2.2)
theorem NL(I:yU D C lh)(M:cY D f A d)(hd:2<=d)(R:Rel P f cx s.heap st g)(hlen:vs.length=lh.length)
 (k:∀x dx es nn h' tk,Fr f.h₀ f.L h' (fun y=>g.pv (.loc y))->News f.h₀ f.L h' ((x,iC C dx)::(dx,dictOf es nn)::g.nw)->(∀p∈g.nw,p.1<dx)->dx<x->Wx (bg D.w.params) lh vs es->Q (.ref x) {s with heap:=h',toks:=tk}):
 Wp D A (call (.ref C) vs) Q E s:=by
 obtain⟨fI,name,qual,params,body,scope,dV,kV,doc,pm,Az,ct,oc,an,od,V4,ps,i1,i2,i3,i4,i5,i6,i7,i8,i9,i10,i11,i12,i13⟩:=I.init
 have FK:ps.length=lh.length:=JC _ i6
 refine call_cls R.F M.X R.N I.make i1 i2 fun x dx h' F' N' fC hx=>?_
 have z8:(A.under (.builtin "type.__call__" ⟨.ref C::vs,[]⟩)).depth<jU:=by
  have:=M.depth
  show A.depth+_<jU
  refine(by rfl:(nE "type.__call__" ⟨.ref C::vs,[]⟩).weight=1).symm▸?_;show A.depth+1<1000;lia
 refine code_def (s:={s with heap:=h'}) M.B F' M.X N' M.T (by exact mD.symm▸M.hA) M.hf M.hk i3 i4 z8 (vO (i5 (.ref x) vs (by lia))) ?_ (fun g₀ L' h₁ FG F₁ N₁ B₁ X₁ T₁=>?_) i8 i9 i7 i10
 ·intro y hy
  rcases aA.mp hy with rfl|hy
  ·exact i11
  ·exact i12 _ (nH (a:=y.1) (b:=y.2) hy).1
 ·have xc:=cZ.mp i13
  have Cp:∀(p:Str)(v:aj),(p,v)∈(af "self",fj x)::ps.zip vs->(∀y u,(y,u)∈(af "self",fj x)::ps.zip vs->y=p->u=v)->(((af "self",fj x)::ps.zip vs).reverse).lookup p=some v:=
   fun p v h hu=>zK (jS.mpr h) fun y u hm e=>hu y u (jS.mp hm) e
  have w8:=Cp _ _ (.head _) (fun y u hm e=>by
   rcases aA.mp hm with e'|hm
   ·obtain⟨rfl,rfl⟩:=aN e';rfl
   ·exact absurd (e▸(nH hm).1) xc.1)
  have aba:∀(i:Nat)(p:Str)(v:aj),ps[i]?=some p->vs[i]?=some v->(((af "self",fj x)::ps.zip vs).reverse).lookup p=some v/\(envOf qual scope L' fI Az).kindOf p=some .local:=fun i p v h1 h2=>
   ⟨Cp p v (.tail _ (uf h1 h2)) (fun y u hm e=>by
     rcases aA.mp hm with e'|hm
     ·obtain⟨rfl,rfl⟩:=aN e'
      exact absurd (e▸cW h1) xc.1
     ·exact Hr xc.2 h1 h2 y u hm e),i12 p (cW h1)⟩
  refine JB (env:=envOf qual scope L' fI Az) (C:=C) (x:=x) (dx:=dx) (nw:=g.nw) (m':=fun y=>(((af "self",fj x)::ps.zip vs).reverse).lookup y) X₁ rfl i7 w8 i11 I.dict I.sa I.po (nG hx) (fun p hp=>bO (fC p hp)) lh ps vs body [] 0 _ _ i6 I.tk I.nd (by lia:vs.length=ps.length) aba (fun _ _=>rfl) rfl (by have:=I.sz;simp;lia:([]:List cw).length+lh.length<=1000) F₁ N₁ fun h₂ tk es' wM F₂ N₂ hI=>?_
  refine leaveK_ F₂ N₂ fun F₃ N₃=>?_
  exact⟨rfl,k x dx es' wM h₂ tk F₃ (by simpa using N₃) fC hx hI⟩
theorem Rel.Ij(R:Rel P f cx h st g){X Y:Ow}(F':Fr f.h₀ f.L h' (fun x=>g.pv (.loc x)))(N':News f.h₀ f.L h' ((x,o)::(dx,od)::g.nw))(fC:∀p∈g.nw,p.1<dx)(hx:dx<x):
 Rel P f cx h' st ((g.push dx od Y).push x o X)/\Kp n g ((g.push dx od Y).push x o X)/\Ob ((g.push dx od Y).push x o X) x X o/\Ob ((g.push dx od Y).push x o X) dx Y od/\Le (fun _=>True) g ((g.push dx od Y).push x o X):=by
 have Cq:∀p∈(g.push dx od Y).nw,p.1<x:=by
  intro p hp
  rcases aA.mp hp with rfl|hp
  ·exact hx
  ·exact g0 (fC p hp) hx
 have l1:=cT (o:=od) (X:=Y) fC
 have l2:=cT (o:=o) (X:=X) Cq
 refine⟨(R.push (X:=Y) F' (fun p hp=>N' p (.tail _ hp)) fC).push F' N' Cq,(cU fC).trans (cU Cq) (ab _),dk,l2.ob _ _ _ trivial dk,⟨fun a Z o' hZ h=>l2.ob _ _ _ hZ (l1.ob _ _ _ hZ h),fun i a e=>l2.ca i a (l1.ca i a e),fun a o e=>let ⟨o1,e1⟩:=l1.nw a o e;l2.nw a o1 e1⟩⟩
variable{p q:Pos}
theorem Tr.handed(t:Tr P g h m v):handedIn v=true:=by
 cases m with
 |none=>cases(show v=.none from t);rfl
 |bool b=>cases(show v=.bool b from t);rfl
 |int=>obtain⟨_,rfl⟩:=t;rfl
 |str=>obtain⟨_,rfl⟩:=t;rfl
 |tup=>obtain⟨_,_,rfl,_⟩:=t;rfl
 |lst=>obtain⟨_,_,_,rfl,_⟩:=t;rfl
 |bI=>obtain⟨_,_,_,rfl,_⟩:=t;rfl
 |g9=>obtain⟨_,_,_,_,rfl,_⟩:=t;rfl
 |inst=>obtain⟨_,_,_,_,_,rfl,_⟩:=t;rfl
 |ref=>obtain⟨_,_,rfl⟩:=t;rfl
 |xj k i=>
  have t:tY P g k i v:=t
  obtain⟨_,rfl⟩:=t.ref;rfl
theorem Kg:∀{vs:List aj}{ds:List cw},Wx kh fs vs ds->(∀f∈fs,(f==x)=false)->cj x ds=some none/\ds.find? (·.key.isStr x)=none/\ds.any (·.refKey)=false:=by
 induction fs with
 |nil=>intro vs ds h _;cases vs<;>cases ds<;>first|exact⟨rfl,rfl,rfl⟩|exact h.elim
 |cons f fs ih=>
  intro vs ds h hn
  cases vs with
  |nil=>exact h.elim
  |cons v vs=>
   cases ds with
   |nil=>exact h.elim
   |cons e ds=>
    obtain⟨⟨t,e⟩,h⟩:=h
    subst e
    obtain⟨_,i1,i2⟩:=ih h fun f' hf=>hn f' (.tail _ hf)
    have h1:gJ (.str f t) x=false:=hn f (.head _)
    have j1:(⟨kh f,.str f t,v⟩::ds:List cw).find? (·.key.isStr x)=none:=by rw[kB];simp only[h1];exact i1
    have j2:(⟨kh f,.str f t,v⟩::ds:List cw).any (·.refKey)=false:=by rw[ix];refine i2.symm▸?_;rfl
    refine⟨?_,j1,j2⟩
    unfold cj
    refine j1.symm▸?_
    simp only[j2,eY,if_false]
theorem Qs:∀f:Fd,f.n<20:=by intro f;induction f<;>exact ae rfl
theorem Qr{a b:Fd}(e:a=b)(h:aL a.n b.n=false):False:=Nat.ne_of_beq_eq_false h (congrArg Fd.n e)
theorem Ox:∀i<20,∀j<20,(ZG i==ZG j)=aL i j:=by decide+kernel
theorem J4(h:es.find? (·.key.isStr c)=some e):cj c es=some (some e.val):=by
 unfold cj;rw[h]
theorem J5(h:es.find? (·.key.isStr c)=none)(h2:es.any (·.refKey)=false):cj c es=some none:=by
 unfold cj;rw[h];exact if_neg (h2▸aJ)
theorem F0(h:e.key.isStr c=false)(hk:e.refKey=false):cj c (e::ds)=cj c ds:=by
 unfold cj
 rw[show qR (fun x=>x.key.isStr c) (e::ds)=ds.find? (fun x=>x.key.isStr c)from List.find?_cons_of_neg (by rw[h];exact aJ),ix,hk,qc]
theorem ZH:∀{ms:List MV}{vs:List aj}{ds:List cw},i<20->fAt i fs ms Q->Wx kh (fs.map eA) vs ds->e7 P g ms vs->(∃f∈fs,f.n=i)/\∃m v,Q m/\Tr P g none m v/\cj (ZG i) ds=some (some v):=by
 induction fs with
 |nil=>intro ms vs ds _ h;exact h.elim
 |cons f fs ih=>
  intro ms vs ds hi h hd ht
  cases ms with
  |nil=>exact h.elim
  |cons m ms=>
   obtain⟨v,r,rfl,t1,t2⟩:=ht.inv
   cases ds with
   |nil=>exact hd.elim
   |cons e ds=>
    obtain⟨⟨t,e⟩,hd⟩:=hd
    subst e
    have hb:gJ (.str (eA f) t) (ZG i)=aL f.n i:=Ox _ (Qs f) _ hi
    rcases Ju h with⟨hq,h⟩|⟨hq,h⟩
    ·refine⟨⟨f,.head _,df hq⟩,m,v,h,t1,?_⟩
     unfold cj
     rw[kB,hb,hq]
    ·refine Gk fun zG zk=>?_
     obtain⟨⟨f',hf,e⟩,m',v',q1,q2,q3⟩:=ih hi h hd t2
     refine zk ?_
     refine⟨⟨f',.tail _ hf,e⟩,m',v',q1,q2,?_⟩
     exact(F0 (hb.trans hq) rfl).trans q3
theorem Ee(hb:baseOk o=true):tj o a env w=w:=by
 cases o with
 |Call f xs ks p=>
  have go:∀f,tj (.Call f xs ks p) a env w=w:=fun f=>by
   cases xs with
   |nil=>
    cases ks with
    |nil=>exact(aJ hb).elim
    |cons=>clear hb;cases f<;>exact @rfl _ w
   |cons=>clear hb;cases f<;>exact @rfl _ w
  exact go f
 |_=>exact @rfl _ w
theorem qL{K:aj->aw->Prop}(hb:baseOk o=true)(h:Wp D A (ei o env) (fun ov s₁=>Wp D A (getAttr ov a true) K E s₁) E s):Wp D A (ei (.Attribute o a p) env) K E s:=
 Attribute_any_ h (by
  show(do let o'<-tj o a env (ei o env);standAt p.atName;let r<-holding [o'] (getAttr o' a true);letTemporaryGo o o' r;pure r)=_
  rw[Ee hb])
theorem ZC{p:α->Bool}{x y:α}(h:p x=false)(h':p y=true):qR p [x,y]=some y:=by
 show(match p x with|true=>some x|false=>qR p [y])=some y
 rw[h];exact A8 h'
theorem ZE{p:α->Bool}{x y:α}(h:p x=false)(h':p y=false):qR p [x,y]=none:=by
 show(match p x with|true=>some x|false=>match p y with|true=>some y|false=>none)=none
 rw[h,h']
theorem mi:cj a [⟨h1,.str a t1,v1⟩,⟨h2,.str b t2,v2⟩]=some (some v1):=
 J4 (e:=⟨h1,.str a t1,v1⟩) (A8 (p:=fun e:cw=>e.key.isStr a) (beq_self_eq_true a))
theorem oD{t1 t2:Tok}{v1 v2:aj}(eM:(a==b)=false):cj b [⟨h1,.str a t1,v1⟩,⟨h2,.str b t2,v2⟩]=some (some v2):=
 J4 (e:=⟨h2,.str b t2,v2⟩) (ZC (p:=fun e:cw=>e.key.isStr b) eM (beq_self_eq_true b))
theorem rH{t1 t2:Tok}{v1 v2:aj}(h:(a==c)=false)(h':(b==c)=false):cj c [⟨h1,.str a t1,v1⟩,⟨h2,.str b t2,v2⟩]=some none:=
 J5 (ZE (p:=fun e:cw=>e.key.isStr c) h h') rfl
structure yT(D:dh)(P:ck):Prop where
 Cy:∀nm,plainGet D.K P.cFresh nm=true
 J3:∀nm,plainGet D.K P.cUses nm=true
 Ap:oM D.K P.cFresh=true
 Ao:oM D.K P.cUses=true
 dD:fO D.K (.ref P.cFresh) (eA .dD)=some none
 bU:fO D.K (.ref P.cFresh) (eA .bU)=some none
 many:fO D.K (.ref P.cUses) (eA .many)=some none
 inf:fO D.K (.ref P.cUses) (eA .bB)=some none
 next:fO D.K (.ref P.cFresh) (PX .next)=some (some (.ref (P.fn 41)))/\isFn D.K (.ref (P.fn 41))=true
 note:fO D.K (.ref P.cUses) (PX .note)=some (some (.ref (P.fn 42)))/\isFn D.K (.ref (P.fn 42))=true
 saU:fO D.K (.ref P.cUses) (af "__setattr__")=some (some (.builtin "object.__setattr__"))
 poU:plainOver D.K P.cUses=true
 tkM:nA D.K P.cUses (eA .many)=some none
 tkI:nA D.K P.cUses (eA .bB)=some none
theorem Kj{K:aj->aw->Prop}(G:fL D P)(GF:yT D P)(M:cY D f A d)(R:Rel P f cx s.heap st g)(t:Tr P g none m v)(h:Ut st fd m Q)
 (k:∀m u,Q m->Tr P g none m u->K u {s with toks:=s.toks+1}):Wp D A (getAttr v (eA fd) b) K E s:=by
 cases m with
 |inst c fs=>
  obtain⟨a,dx,k6,nn,vs,rfl,h1,h2,h3,h4⟩:=t
  obtain⟨⟨f',hf,e⟩,m,u,q1,q2,q3⟩:=ZH (Qs fd) h h4 h3
  have:=G.fld c f' hf
  unfold eA at this
  rw[e]at this
  exact rS R.F M.X (cp R.N h1.2 h2.2) (G.get c _) (G.dict c) this rfl q3 q2.handed (k m u q1 q2)
 |ref i=>
  obtain⟨c,hm,h⟩:=hJ h
  obtain⟨nu,bo,rfl,h⟩:=xD h
  obtain⟨xa,h2,rfl⟩:=t
  obtain⟨x',dx,t1,t2,t3,nn,c1,c2,c3⟩:=R.mu i _ hm
  rw[c1]at h2;obtain rfl:=ar h2
  induction fd with
  |many=>exact rS R.F M.X (cp R.N c2.2 c3.2) (GF.J3 _) GF.Ao GF.many rfl mi rfl (k _ _ h BB)
  |bB=>exact rS R.F M.X (cp R.N c2.2 c3.2) (GF.J3 _) GF.Ao GF.inf rfl (oD (by kernel_rfl)) rfl (k _ _ h L7)
  |_=>exact h.elim
 |_=>exact h.elim
theorem Xj(G:fL D P)(GF:yT D P)(M:cY D f A d)(hx:SE D P f A cl d x):SE D P f A cl d (.fld x fd p):=fun{cx J n E s g st Q K} C w R h k=>
 qL (aB w) (hx.fz n (Q:=fun m st=>Ut st fd m fun m=>Q false m st) C (aP w) R h fun m eZ v g1 h1 t1 q R1 K1 T1=>
  Kj (s:={s with heap:=h1,toks:=t1}) G GF M R1 T1 q fun m u q T=>k q R1 K1 (VR.of T))
theorem J8(G:yT D P)(M:cY D f A d)(R:Rel P f cx s.heap st g){K:aj->aw->Prop}(Ue:fd=.dD\/fd=.bU)(hm:st.mu[i]?=some (.fresh av nums))(t:Tr P g none (.ref i) v)
 (k:∀a j ds nn,Ob g a (.cell i j) (aU ds nn)->(fd=.dD->j=3/\nh P g a nums ds/\(nums.map (·.1)).Nodup)->(fd=.bU->j=2/\nh P g a av ds/\(av.map (·.1)).Nodup)->K (.ref a) {s with toks:=s.toks+1}):Wp D A (getAttr v (eA fd) b) K E s:=by
 obtain⟨x,dx,a1,a2,t1,t2,nn,d1,n1,d2,n2,c1,c2,c3,c4,c5,c6,c7⟩:=R.mu i _ hm
 obtain⟨x',h1,rfl⟩:=t
 rw[c1]at h1;obtain rfl:=ar h1
 rcases Ue with rfl|rfl
 ·exact rS R.F M.X (cp R.N c2.2 c3.2) (G.Cy _) G.Ap G.dD rfl (oD (by decide+kernel)) rfl (k a2 3 d2 n2 c6 (fun _=>⟨rfl,c7⟩) fun e=>(Qr e rfl).elim)
 ·exact rS R.F M.X (cp R.N c2.2 c3.2) (G.Cy _) G.Ap G.bU rfl mi rfl (k a1 2 d1 n1 c4 (fun e=>(Qr e rfl).elim) fun _=>⟨rfl,c5⟩)
theorem CV:(gB q (cM (gi nm x) env)).all (!·.1)=true:=by
 have:=noStar (nm:=nm) (env:=env) (pos:=q) (x:=x)
 rw[List.any_eq_false]at this
 rw[bw]
 intro x hx
 simpa using this x hx
theorem mP{K:aj->aw->Prop}(hb:baseOk o=true)(hl:(p.endLine==q.line)=true)(hn:es.length<30)(hp:(gB q (cM es env)).all (!·.1)=true)
 (h:Wp D A (ei o env) (fun ov s₁=>Wp D A (getMethod ov nm (do return (<-importBound o env).getD true)) (fun fx s₂=>Wp D A (qT q fx.1 fx.2 (gB q (cM es env)) []) K E s₂) E s₁) E s):
 Wp D A (ei (Fe o nm es p q) env) K E s:=by
 refine MethodCall_ h ?_
 show(do let ov<-tj o nm env (ei o env);standAt p.atName;methodCall o nm p q env ov (es.length+0) (gB q (cM es env)) [])=_
 rw[Ee hb]
 have few:methodCallForm (es.length+0) (gB q (cM es env)) []=true:=by
  unfold methodCallForm
  refine hp.symm▸?_
  simp[hn]
 unfold methodCall
 refine few.symm▸?_
 have mp:methodCallPos true o env p q=pure q:=by
  unfold methodCallPos
  exact if_pos hl
 refine mp.symm▸?_
 rfl
theorem zJ(h:V9 J e k p q=true):baseOk e=true/\(p.endLine==q.line)=true/\k<30:=
 ⟨aP (aP h),aB (aP h),ae (aB h)⟩
theorem IR{K:aj×List aj->aw->Prop}(G:fL D P)(GF:yT D P)(M:cY D f A d)(R:Rel P f cx s.heap st g)(t:Tr P g none o v)(h:IS st me o Q)
 (k:∀i,i<64->Q i->K (.ref (P.fn i),[v]) s):Wp D A (getMethod v (PX me) pl) K E s:=by
 cases o with
 |inst c fs=>
  refine Gk fun zG zk=>?_
  obtain⟨i,hm,h⟩:=uL h
  obtain⟨hi,hf,Ud,eM⟩:=G.Fe c me i hm
  obtain⟨a,dx,k6,nn,vs,rfl,i1,i2,i3,i4⟩:=t
  refine zk ?_
  exact method_inst R.F M.X (cp R.N i1.2 i2.2) (G.get c _) hf Ud (Kg i4 eM).1 (k i hi h)
 |ref i=>
  obtain⟨c,hm,h⟩:=hJ h
  obtain⟨j,hj,h⟩:=uL h
  obtain⟨xa,h2,rfl⟩:=t
  induction c with
  |lst=>exact(ay _ (cN hj)).elim
  |tab=>exact(ay _ (cN hj)).elim
  |fresh av nums=>
   obtain⟨x,dx,a1,a2,t1,t2,nn,d1,n1,d2,n2,c1,c2,c3,c4,c5,c6,c7⟩:=R.mu i _ hm
   rw[c1]at h2;obtain rfl:=ar h2
   induction me<;>cases hj
   exact method_inst R.F M.X (cp R.N c2.2 c3.2) (GF.Cy _) GF.next.1 GF.next.2 (rH (by decide+kernel) (by decide+kernel)) (k 41 (of_decide_eq_true rfl) h)
  |uses nu b=>
   obtain⟨x,dx,t1,t2,t3,nn,c1,c2,c3⟩:=R.mu i _ hm
   rw[c1]at h2;obtain rfl:=ar h2
   induction me<;>cases hj
   exact method_inst R.F M.X (cp R.N c2.2 c3.2) (GF.J3 _) GF.note.1 GF.note.2 (rH (by decide+kernel) (by decide+kernel)) (k 42 (of_decide_eq_true rfl) h)
 |_=>exact h.elim
theorem RG(G:fL D P)(GF:yT D P)(H:lQ D P d cl)(M:cY D f A d)(hx:SE D P f A cl d x)(hs:SL D P f A cl d xs):SE D P f A cl d (.kj x me xs p q):=fun{cx J n E s g st Q K} C w R h k=>by
 obtain⟨b1,b2,b3⟩:=zJ (aB (aB w))
 refine mP b1 b2 b3 CV (hx.fz n (Q:=fun o st=>IS st me o fun f=>(cP cl d xs).Kn st fun ms st=>cl f (o::ms) st.mu fun b m mu=>Q b m {st with mu:=mu}) C (aP w) R h fun o eZ v g1 h1 t1 hq R1 K1 T1=>?_)
 refine IR (s:={s with heap:=h1,toks:=t1}) G GF M R1 T1 hq fun i hi hq=>?_
 refine mX (s:={s with heap:=h1,toks:=t1}) (n:=n) M R1 (G.DO i hi) hs C (aP (aB w)) hq fun ms mF vs g2 h2 t2 hq R2 K2 T2=>?_
 exact yD (s:={s with heap:=h2,toks:=t2}) (n:=n) H M R2 hq (by unfold Callee;rw[if_pos hi];exact⟨rfl,.cons (T1.mono K2.toGLe) T2⟩) fun b m HO v g3 h3 t3 q3 R3 K3 V3=>k q3 R3 ((K1.trans K2 (ab _)).trans K3 (ab _)) V3
theorem Xd(G:fL D P)(I:∀c,yU D (P.cls c) ((fieldsOf c).map eA))(M:cY D f A d)(hs:SL D P f A cl d xs):SE D P f A cl d (.new c xs p q):=fun{cx J n E s g st Q K} C w R h k=>by
 have hd:(Ha c==af "__debug__")=false:=by induction c<;>kernel_rfl
 refine Call_ (lD M C R (aB w) (G.clG c) hd ?_)
 refine mX (n:=n) M R (G.P4 c) hs C (aP w) h fun ms eZ vs g1 h1 t1 hq R1 K1 T1=>?_
 obtain⟨hb,hq⟩:=km hq
 refine NL (s:={s with heap:=h1,toks:=t1}) (I c) M (ae (aB hb)) R1 (by rw[vz,T1.len,(df (aP hb):ms.length=(fieldsOf c).length),aI]) fun x dx es' nn h2 t2 F2 N2 fC hx hI=>?_
 refine Gk fun zG zk=>?_
 obtain⟨R2,K2,O1,O2,L⟩:=R1.Ij (n:=n) (X:=.fz) (Y:=.fz) F2 N2 fC hx
 refine zk ?_
 refine k hq R2 (K1.trans K2 (ab _)) (VR.of ?_)
 exact⟨x,dx,es',nn,vs,rfl,O1,O2,T1.mono (L.gZ trivial),by rw[G.kh];exact hI⟩
end
noncomputable def Gh.td(g:Gh)(a:aZ):Gh:={g with ca:=g.ca++[a]}
section
variable{D:dh}{P:ck}{f:Fm}{cx:Cx}{J:Cn}{A:b9}{E:aj->aw->Prop}{s:aw}{st st':St}{g g':Gh}{n d:Nat}{cl:lq}{p q r:Pos}
theorem iW:Le (fun _=>True) g (g.td a):=⟨fun _ _ _ _ h=>h,fun i b e=>(fk (bb.mp e).1).trans e,fun _ o h=>⟨o,h⟩⟩
theorem Rel.td(R:Rel P f cx h st g)(hc:lI P (g.td a) st.mu.length c):Rel P f cx h {st with mu:=st.mu++[c]} (g.td a)where
 toBs:={
  N:=R.N
  ow:=R.ow
  len:=by show(st.mu++[c]).length=(g.ca++[a]).length;rw[aF,aF,R.len];rfl
  lo:=R.lo
  mu:=fun i c' e=>by
   rcases k8 i st.mu.length with hi|hi
   ·exact(R.mu i c' ((fk hi).symm.trans e)).mono iW trivial fun _=>trivial
   ·have e':=(ly (l₂:=[c]) hi).symm.trans e
    induction hk:i-st.mu.length with
    |succ k=>rw[hk]at e';exact(ay _ (cN e')).elim
    |zero=>
     rw[hk]at e';obtain rfl:=ar e'
     have:i=st.mu.length:=oe (C6 hk) hi
     subst this;exact hc}
 F:=R.F
 gi:=R.gi
 cds:=R.cds
 sl:=fun k=>(R.sl k).mono iW trivial trivial fun _ _=>rfl
 gY:=R.gY
theorem mq:(g.td a).ca[g.ca.length]?=some a:=List.getElem?_concat_length
theorem xZ:Kp n g (g.td a):=iW.kp trivial trivial fun _ _=>trivial
theorem W6(hs:SL D P f A cl d xs):SE D P f A cl d (.tup xs p):=fun{cx J n E s g st Q K} C w R h k=>
 wpAny_Tuple (hs C w R h fun ms eZ vs g1 h1 t1 hq R1 K1 T1=>by
  obtain⟨hl,hq⟩:=e5 hq
  exact⟨by rw[T1.len,fg];exact aa hl (by decide),k hq (de R1 _ .fz) (K1.trans (cU (cJ R1)) (ab _)) (VR.of (trT dk (T1.mono ((cT (cJ R1)).gZ trivial))))⟩)
theorem Xf{xs:X}(hs:SL D P f A cl d xs):SE D P f A cl d (.lst xs p):=fun{cx J n E s g st Q K} C w R h k=>
 wpAny_List (hs C w R h fun ms eZ vs g1 h1 t1 hq R1 K1 T1=>by
  obtain⟨hl,hq⟩:=e5 hq
  exact⟨by rw[T1.len,fg];exact aa hl (by decide),k hq (de R1 _ (.m8 n)) (K1.trans (cU (cJ R1)) (ab _)) ⟨_,rfl,vs,0,dk,T1.mono ((cT (cJ R1)).gZ trivial)⟩⟩)
theorem RT{xs:X}(hs:SL D P f A cl d xs):SE D P f A cl d (.cell xs p):=fun{cx J n E s g st Q K} C w R h k=>
 wpAny_List (hs C w R h fun ms eZ vs g1 h1 t1 hq R1 K1 T1=>by
  obtain⟨hl,hq⟩:=e5 hq
  have R2:=de R1 (dq vs 0) (.cell eZ.mu.length 0)
  exact⟨by rw[T1.len,fg];exact aa hl (by decide),k hq (R2.td (a:=h1.objs.size) (c:=.lst ms) ⟨h1.objs.size,vs,0,((R2.len:eZ.mu.length=(g1.push h1.objs.size (dq vs 0) (.cell eZ.mu.length 0)).ca.length)▸mq:((g1.push h1.objs.size (dq vs 0) (.cell eZ.mu.length 0)).td h1.objs.size).ca[eZ.mu.length]?=some h1.objs.size),iW.ob _ _ _ trivial (dk:Ob (g1.push h1.objs.size (dq vs 0) (.cell eZ.mu.length 0)) h1.objs.size (.cell eZ.mu.length 0) (dq vs 0)),(T1.mono ((cT (cJ R1)).gZ trivial)).mono (iW.gZ trivial)⟩) ((K1.trans (cU (cJ R1)) (ab _)).trans xZ (ab _)) (VR.of (trR ((R2.len:eZ.mu.length=(g1.push h1.objs.size (dq vs 0) (.cell eZ.mu.length 0)).ca.length)▸mq:((g1.push h1.objs.size (dq vs 0) (.cell eZ.mu.length 0)).td h1.objs.size).ca[eZ.mu.length]?=some h1.objs.size)))⟩)
theorem aaD{k:String}{x:X}(G:fL D P)(hx:SE D P f A cl d x):SE D P f A cl d (.d1 k x p q):=fun{cx J n E s g st Q K} C w R h kk=>by
 let o₀:Obj:={cls:=.type "dict",data:=.dict #[]}
 refine wpAny_Dict_pairs (knd:=strKind D.prog D.w) (pairs:=[(ei (.Constant (.str (af k)) 0 p) cx.env,(do let x<-ei (py J.nm x) cx.env;standAt q;pure x))]) rfl (by simp) (by simp) ?_
 show wpAny _ _ (do let kv<-ei (.Constant (.str (af k)) 0 p) cx.env;let vv<-holding [kv] (do let x<-ei (py J.nm x) cx.env;standAt q;pure x);return (kv,vv)::(<-holding [kv,vv] (evalPairs []))) _ _ _
 refine au (t8 (au (gP (au ?_))))
 refine hx.fz n (g:=g.push s.heap.objs.size o₀ .rest) (s:={s with heap:=s.heap.push o₀,toks:=s.toks+1}) (Q:=fun m st=>Q true (.bI [(af k,m)]) st) C w (de R o₀ .rest) h fun m eZ u g₁ h₁ EC hq R₁ K₁ T₁=>?_
 refine au (wpAny_standAt (aO (au (gP (aO (aO ?_))))))
 have O₁:=K₁.rest _ _ (dk:Ob (g.push s.heap.objs.size o₀ .rest) s.heap.objs.size .rest o₀)
 refine⟨[(af k,u)],⟨gA _ _ _ _,rfl,trivial⟩,(⟨_,_,_,(R₁.N _ O₁.2).1,⟨rfl,rfl,rfl⟩,rfl,(fun e he=>nomatch he),.nil,List.nodup_nil⟩:h₁.DictOf (strKind D.prog D.w) s.heap.objs.size []),fun h' hm w9=>?_⟩
 have hv:Vl P g₁ s.heap.objs.size [(af k,m)] [(af k,u)]:=⟨u,[],rfl,Tr.nY T₁,rfl⟩
 obtain⟨ds,n',q1,q2,q3⟩:=DictOf.obj (D:=D) G.kh hm hv rfl
 have O₂:Ob (g₁.set s.heap.objs.size (aU ds n')) s.heap.objs.size .rest (aU ds n'):=gD O₁
 refine kk hq ((R₁.Rx (.inl rfl) O₁ (pK R₁.F R₁.N O₁.2 w9) (News.upd R₁.N O₁.2 w9 q1)).JX (X:=.m8 n) O₂.1) ?_ ⟨_,rfl,ds,n',iT O₂,(q2.mono ((cH (o':=aU ds n') O₁.1).gZ (by simp))).mono ((dN (X:=.m8 n) O₂.1).gZ (by simp)),q3⟩
 refine((cU (cJ R):Kp n g (g.push s.heap.objs.size o₀ .rest)).trans K₁ (ab _)).Ry (D:=s.heap.objs.size) (o':=o₀) (fun p hp=>bO (cJ R p hp)) rfl rfl (fun a X o eM ho=>⟨?_,fP ho.2 eM⟩) fun a o h=>((dN (X:=.m8 n) O₂.1).nw a _ ((cH (o':=aU ds n') O₁.1).nw a o h).choose_spec)
 show(if a=s.heap.objs.size then _ else g₁.ow a)=some X
 rw[if_neg eM];exact ho.1
theorem Z0:∀p∈OZ,p.2=false->p.1<64:=by decide+kernel
theorem Z3:∀j<8,(OZ[j]?).all (fun p=> !p.2||aL p.1 (64+j))=true:=by decide+kernel
theorem sg(h:jP j=some (lj,false)):lj<64:=Z0 _ (cW h) rfl
theorem Gv(h:jP j=some (lj,true)):lj=64+j:=by
 have:=Z3 j (bb.mp h).1
 rw[show OZ[j]?=some (lj,true)from h]at this
 exact df this
theorem MW(G:fL D P)(LO:LP P)(H:lQ D P d cl)(M:cY D f A d)(hx:SE D P f A cl d x):SE D P f A cl d (.xl k x p q):=fun{cx J n E s g st Q K} C w R h kk=>by
 refine Call_ (PP (n:=n) (Q:=fun fv st=>U2 fv fun j i=>mM (jP j) (fun p=>(cP cl d x).ev st fun _ m st=>cl p.1 (@bE (fun _=>List MV) [m] [m,.ref i] p.2) st.mu fun b m mu=>Q b m {st with mu:=mu}) False) C R (aB w) h fun fm eZ fv g1 h1 t1 hq R1 K1 T1=>?_)
 have sl:SL D P f A cl d (.cons x .nil):=oq hx uu
 have wl:wf (.cons x .nil) J=true:=show(wf x J&&true)=true from(qd _).trans (aP w)
 obtain⟨j,i,rfl,hq⟩:=U1 hq
 obtain⟨⟨lj,b⟩,hj,hq⟩:=uL hq
 have fin:∀{ms mF vs g2 h2 t2},(match ms with|[m]=>cl lj (@bE (fun _=>List MV) [m] [m,.ref i] b) mF.mu fun b m mu=>Q b m {mF with mu:=mu}|_=>False)->
  Rel P f cx h2 mF g2->Kp n g1 g2->e7 P g2 ms vs->Wp D A (call fv ([]++vs)) K E {s with heap:=h2,toks:=t2}:=fun{ms mF vs g2 h2 t2} hq R2 K2 T2=>by
  match ms,hq with
  |[m],hq=>
   have A3:=T1.mono K2.toGLe
   obtain⟨v,rr,rfl,u1,u2⟩:=T2.inv
   cases(show rr=[]from u2)
   refine yD (s:={s with heap:=h2,toks:=t2}) (n:=n) H M R2 hq ?_ fun b m HO v g3 h3 t3 q3 R3 K3 V3=>kk q3 R3 ((K1.trans K2 (ab _)).trans K3 (ab _)) V3
   unfold Callee
   induction b with
   |false=>
    have A3:tY P g2 j i fv:=A3
    unfold tY at A3
    rw[hj]at A3
    rw[if_pos (sg hj)]
    exact⟨A3,.one u1⟩
   |true=>
    have:=Gv hj
    subst this
    rw[if_neg (by omega),Nat.add_sub_cancel_left]
    exact⟨m,v,i,rfl,rfl,u1,A3,hj⟩
 have A3:tY P g1 j i fv:=T1
 unfold tY at A3
 rw[hj]at A3
 induction b with
 |false=>
  cases(show fv=_ from A3)
  exact mX (first:=[]) (s:={s with heap:=h1,toks:=t1}) (n:=n) (Q:=fun ms mF=>match ms with|[m]=>cl lj [m] mF.mu fun b m mu=>Q b m {mF with mu:=mu}|_=>False) M R1 (G.DO lj (sg hj)) sl C wl hq fun ms mF vs g2 h2 t2 hq R2 K2 T2=>fin hq R2 K2 T2
 |true=>
  obtain⟨a,c,o,oc,ai,c',o',rfl,q1,q2,q6,q3,q4,q5⟩:=A3
  obtain⟨fd,Ue⟩:=LO.fn _ _ _ _ _ q2
  have Ud:∀{h:eO}{g':Gh}{mF:St},Rel P f cx h mF g'->Kp n g1 g'->PySem.W.FnAt a h:=fun R' K'=>by
   have:=(R'.N _ (K'.fz _ _ q1).2).1
   obtain⟨L9,od',dd',W4⟩:=o
   subst Ue
   exact⟨_,_,_,_,this⟩
  exact callWith_F (Ud R1 .refl) (sl (s:={s with heap:=h1,toks:=t1}) (n:=n) (Q:=fun ms mF=>match ms with|[m]=>cl lj [m,.ref i] mF.mu fun b m mu=>Q b m {mF with mu:=mu}|_=>False) C wl R1 hq fun ms mF vs g2 h2 t2 hq R2 K2 T2=>⟨Ud R2 K2,fin hq R2 K2 T2⟩) gR rfl
end
structure wh(D:dh)(P:ck):Prop where
 cl:∀c,fO D.K (.ref (P.cls c)) "__class__"=some (some (.builtin "object.__class__"))
 mro:∀c,mroIn D.K (P.cls c) (.type "object")=some true
 gg:specialIn D.K (.builtin "object.__class__") "__get__"=some (some (.builtin "getset_descriptor.__get__"))
 ts:takesIn D.K (.builtin "object.__class__")=some true
 one:∀c c',kitOne D.K (.ref (P.cls c)) (.ref (P.cls c'))=some (aL c'.n c.n)
section
variable{D:dh}{P:ck}{f:Fm}{cx:Cx}{J:Cn}{A:b9}{E:aj->aw->Prop}{s:aw}{st st':St}{g g':Gh}{n d:Nat}{cl:lq}{p q r:Pos}
inductive QN:aj->Prop|b(i:String):QN (.builtin i)|t(i:String):QN (.type i)
theorem UQ(hb:QN bv){K:aj->aw->Prop}(hp:args.any (·.1)=false)
 (h:Wp D A (evalArgs bv true args []) (fun a s₁=>Wp D A (call bv (first++a.pos) a.kw) K E s₁) E s):Wp D A (qT pos bv first args []) K E s:=by
 induction hb with
 |b i=>exact PySem.Calls.callWith_builtin hp h
 |t i=>exact PySem.callWith_type hp h
theorem LB(hb:QN bv){K:aj->aw->Prop}(h:Wp D A (call bv (first++[])) K E s):Wp D A (qT pos bv first (gB pos (cM [] cx.env)) []) K E s:=
 UQ hb rfl (PyProof.Rows.evalArgs_none h)
theorem sp1{K:List aj->aw->Prop}(he:cM [e] cx.env=[(false,ei e cx.env)])(h:Wp D A (ei e cx.env) (fun v s₁=>K [v] s₁) E s):Wp D A (spliced (gB pos (cM [e] cx.env))) K E s:=
 eE (ed h (fun _ _ z=>gI z) fun _ _ z=>z) he
theorem rP(hb:QN bv){K:aj->aw->Prop}(he:cM [e] cx.env=[(false,ei e cx.env)])
 (h:Wp D A (ei e cx.env) (fun v s₁=>Wp D A (call bv (first++[v])) K E s₁) E s):Wp D A (qT pos bv first (gB pos (cM [e] cx.env)) []) K E s:=by
 have h':=sp1 (pos:=pos) (K:=fun vs s₁=>Wp D A (call bv (first++vs)) K E s₁) he h
 rw[he]at h'⊢
 exact UQ hb rfl (evalArgs_plain h')
theorem LA(hb:QN bv){K:aj->aw->Prop}(he:∀es,cM (e::es) cx.env=(false,ei e cx.env)::cM es cx.env)(he':cM [e'] cx.env=[(false,ei e' cx.env)])
 (h:Wp D A (ei e cx.env) (fun v s₁=>Wp D A (ei e' cx.env) (fun u s₂=>Wp D A (call bv [v,u]) K E s₂) E s₁) E s):Wp D A (qT pos bv [] (gB pos (cM [e,e'] cx.env)) []) K E s:=by
 have h':Wp D A (spliced (gB pos (cM [e,e'] cx.env))) (fun vs s₁=>Wp D A (call bv ([]++vs)) K E s₁) E s:=
  eE (ed h (fun _ _ z=>sp1 he' z) fun _ _ z=>z) (he _)
 rw[he,he']at h'⊢
 exact UQ hb rfl (evalArgs_plain h')
theorem Lh:∀i<13,af (Hc i)≠("__name__" :Str)/\(af (Hc i)==af "__debug__")=false:=by decide+kernel
theorem xm{K:aj->aw->Prop}(G:fL D P)(M:cY D f A d)(C:eX f cx J)(R:Rel P f cx s.heap st g)(hi:i<13)(hx:gN J (Hc i)=true)(h:K (biV i) s):Wp D A (ei (.Name (af (Hc i)) pos) cx.env) K E s:=
 O9 M C R hx (G.bi i hi).1 (G.bi i hi).2 (Lh i hi).1 (Lh i hi).2 h
theorem Pb:∀p∈Vf,QN p.2:=by
 simp only[Vf,List.forall_mem_cons]
 exact⟨.b _,.t _,.t _,.b _,.t _,.t _,.b _,.b _,.b _,.b _,.b _,.t _,.t _,fun _ h=>(bt h).elim⟩
theorem biB(i:Nat)(hi:i<13):QN (biV i):=by
 refine Pb (Vf.getD i ("",.none)) ?_
 rw[List.getD_eq_getElem?_getD,ez (hi:i<Vf.length)]
 exact LZ (hi:i<Vf.length)
theorem Rel.grownK(R:Rel P f cx h st g)(hk:∀b o,h.get? b=some o->h'.get? b=some o):Rel P f cx h' st g:=
 ⟨⟨R.N.grown hk,R.ow,R.len,R.lo,R.mu⟩,R.F.grownK hk,R.gi,R.cds,R.sl,R.gY⟩
theorem Rel.zE(R:Rel P f cx h st g){X:Ow}(hk:∀b o,h.get? b=some o->h'.get? b=some o)(hn:h'.get? h.objs.size=some o):Rel P f cx h' st (g.push h.objs.size o X):=by
 refine R.push (R.F.grownK hk) (fun p hp=>?_) (cJ R)
 rcases aA.mp hp with rfl|hp
 ·refine⟨hn,nG R.F.ns.lt,?_⟩
  induction q:f.h₀.get? h.objs.size with
  |none=>rfl
  |some o=>exact absurd (f7 (R.F.keep _ _ q)) (y5 _)
 ·exact⟨hk _ _ (R.N p hp).1,(R.N p hp).2⟩
theorem UW(hd:Tr P g none (.bI es₀) (.ref a)):∀{es:List (Str×MV)}{kvs:List (Str×aj)},Vl P g a es kvs->Vl P g b (es.map fun p=>(p.1,fT es₀ p.2)) kvs:=by
 intro es
 induction es with
 |nil=>
  intro _ h
  exact h
 |cons e es cz=>
  rintro _ ⟨v,r,h1,h2,h3⟩
  exact⟨v,r,h1,Tr.nY (Tr.fT hd h2),cz h3⟩
theorem AB:∀{xs:List MV}{vs:List aj}{Q:List Bool->Prop},e7 P g xs vs->yE xs Q->∃bs,LSm.BoolsAre vs bs/\Q bs:=by
 intro xs
 induction xs with
 |nil=>
  intro _ Q h hb
  cases(show _=[]from h);exact⟨[],.nil,hb⟩
 |cons x xs cz=>
  intro _ Q h hb
  obtain⟨v,r,rfl,h1,h2⟩:=h.inv
  obtain⟨b,rfl,hb⟩:=D8 hb
  obtain⟨bs,i1,i2⟩:=cz h2 hb
  cases(show v=.bool b from h1)
  exact⟨b::bs,.cons _ i1,i2⟩
theorem Jx(h:qh k x=true):yc k (x::xs)=k::x::xs:=by show @bE (fun _=>List Str) _ _ (qh k x)=_;rw[h]
theorem Jy(h:qh k x=false):yc k (x::xs)=x::yc k xs:=by show @bE (fun _=>List Str) _ _ (qh k x)=_;rw[h]
theorem wZ(k:Str):∀l:List Str,(yc k l).Perm (k::l):=by
 intro l
 induction l with
 |nil=>
  exact .refl _
 |cons x xs cz=>
  induction h:qh k x with
  |true=>rw[Jx h]
  |false=>rw[Jy h];exact((cz).cons x).trans (.swap k x xs)
theorem BF:∀l:List Str,(qi l).Perm l:=by
 intro l
 induction l with
 |nil=>
  exact .refl _
 |cons x xs cz=>
  exact(wZ x (qi xs)).trans ((cz).cons x)
noncomputable def xw(a b:Str):Prop:=a.cps.toList<=b.cps.toList
theorem xw.total(a b:Str):xw a b\/xw b a:=List.le_total _ _
theorem xw.trans(h:xw a b)(h':xw b c):xw a c:=List.le_trans h h'
theorem xw.abC(h:xw a b)(h':xw b a):a=b:=by
 have:=List.le_antisymm h h'
 cases a;cases b
 congr 1
 exact Hq.mp this
theorem zW(k:Str):∀l:List Str,l.Pairwise xw->(yc k l).Pairwise xw:=by
 intro l
 induction l with
 |nil=>
  intro _
  exact y6 _ _
 |cons x xs cz=>
  intro h
  obtain⟨h1,h2⟩:=dS.mp h
  induction hk:qh k x with
  |true=>
   rw[Jx hk]
   have hk:xw k x:=of_decide_eq_true (p:=k.cps.toList<=x.cps.toList) hk
   refine dS.mpr ⟨fun y hy=>?_,h⟩
   rcases aA.mp hy with rfl|hy
   ·exact hk
   ·exact hk.trans (h1 y hy)
  |false=>
   rw[Jy hk]
   have G7:xw x k:=by
    rcases xw.total k x with h|h
    ·exact absurd h (of_decide_eq_false (p:=k.cps.toList<=x.cps.toList) hk)
    ·exact h
   refine dS.mpr ⟨fun y hy=>?_,cz h2⟩
   rcases aA.mp ((wZ k xs).mem_iff.mp hy)with rfl|hy
   ·exact G7
   ·exact h1 y hy
theorem xG:∀l:List Str,(qi l).Pairwise xw:=by
 intro l
 induction l with
 |nil=>
  exact .nil
 |cons x xs cz=>
  exact zW x _ (cz)
theorem ET:∀(p:Str)(l:List Str),risingS p l=true->(p::l).Pairwise xw:=by
 intro p l
 induction l generalizing p with
 |nil=>exact fun _=>y6 _ _
 |cons x r cz=>
  intro h
  have h':(!Spec.ltCps x.cps.toList p.cps.toList&&risingS x r)=true:=h
  rw[fN,dH,ltCps_eq]at h'
  have ih:=cz x h'.2
  have hpx:xw p x:=by
   have:=of_decide_eq_false h'.1
   exact List.not_lt.mp this
  refine dS.mpr ⟨fun y hy=>?_,ih⟩
  rcases aA.mp hy with rfl|hy
  ·exact hpx
  ·exact hpx.trans ((dS.mp ih).1 y hy)
theorem BE:∀(l:List Str),sortedS l=true->l.Pairwise xw:=by
 intro l
 induction l with
 |nil=>
  intro _
  exact .nil
 |cons x r cz=>
  intro h
  exact ET x r h
theorem zb(hp:l'.Perm l)(hs:sortedS l'=true):l'=qi l:=
 (hp.trans (BF l).symm).eq_of_pairwise (fun _ _ _ _ h h'=>xw.abC h h') (BE _ hs) (xG l)
theorem Mx{kvs:List (Str×aj)}:∀{ks:List Str}{vs:List aj},vs.length=ks.length->(∀(j:Nat)(v:aj),vs[j]?=some v->∃k,ks[j]?=some k/\(strKind D.prog D.w).is k v=true)->StrsAre vs ks:=by
 intro ks
 induction ks with
 |nil=>
  intro vs h _
  cases List.length_eq_zero_iff.mp h;exact .nil
 |cons k ks cz=>
  intro vs h hk
  induction vs with
  |nil=>simp at h
  |cons v vs=>
  obtain⟨k',h1,h2⟩:=hk 0 v rfl
  simp at h1;subst h1
  obtain⟨t,rfl⟩:=pe h2
  exact .cons _ _ (cz (by simpa using h) fun j v hj=>by simpa using hk (j+1) v (by simpa using hj))
theorem e7.strs(h:StrsAre vs ks):e7 P g (ks.map .str) vs:=by
 induction h with
 |nil=>exact .nil
 |cons y t h ih=>exact .cons Ra ih
theorem aag{K:aj->aw->Prop}(G:fL D P)(M:cY D f A d)(R:Rel P f cx s.heap st g)(T:Tr P g none m u)(h:Wq o m fun b m=>Q b m st)(k:Kv P f cx n g s Q K):Wp D A (call (biV o.n) [u]) K E s:=by
 induction o with
 |len=>
  obtain⟨xs,a,vs,nn,rfl,ho,hs,h⟩:=uR h T
  obtain⟨hl,h⟩:=e5 h
  exact call_len_list (cK R.toBs ho) (by rw[aM,hs.len];exact pQ hl) (by
   exact aM.symm▸hs.len.symm▸k (h':=s.heap) h R .refl (VR.of BB))
 |list=>
  obtain⟨xs,a,vs,nn,rfl,ho,hs,h⟩:=uR h T
  obtain⟨hl,h⟩:=e5 h
  refine call_list_seq a (.inl rfl) (R.N _ ho.2).1 rfl rfl (fun h' c' hk hn=>?_) (by rw[aM,hs.len];exact aa hl lP)
  exact k (tk:=s.toks) h (R.zE (o:=dq vs c') hk hn) (cU (cJ R)) ⟨_,rfl,vs,c',dk,hs.mono ((cT (cJ R)).gZ trivial)⟩
 |dict=>
  obtain⟨es,rfl,h⟩:=pM h
  obtain⟨hl,h⟩:=e5 h
  have T':=T
  obtain⟨a,k6,nn,rfl,ho,hs,xc⟩:=T
  obtain⟨kvs,h1,h2,h3⟩:=hs.dictOf (D:=D) G.kh xc (R.N _ ho.2).1
  refine kt_call_dict (rA R.toBs ho) h1 (by rw[(by have:=congrArg ud h3;simpa using this:kvs.length=es.length)];exact aa hl lP) fun h' hm w9=>?_
  obtain⟨ds,n',q1,q2,q3⟩:=DictOf.obj (D:=D) G.kh hm (UW (b:=s.heap.objs.size) T' h2) (by refine h3.symm▸?_;simp)
  exact k h (R.zE (fun b o e=>(w9.2 b (bO (f7 e))).trans (nD _ e):∀b o,s.heap.get? b=some o->h'.get? b=some o) q1) (cU (cJ R)) ⟨_,rfl,ds,n',dk,q2.mono ((cT (cJ R)).gZ trivial),q3⟩
 |sorted=>
  obtain⟨es,a,k6,nn,rfl,ho,hs,xc,h⟩:=UN h T
  obtain⟨hl,h⟩:=e5 h
  obtain⟨kvs,h1,h2,h3⟩:=hs.dictOf (D:=D) G.kh xc (R.N _ ho.2).1
  obtain⟨o',UL,ep,Wm⟩:=h1
  have hlen:kvs.length=es.length:=by have:=congrArg ud h3;simpa using this
  refine kdu_sorted (kdl_dict (knd:=strKind D.prog D.w) (kvs:=kvs) (ep:=ep) (rA R.toBs ho)) M.hh R.F R.N ⟨o',UL,Wm⟩ (by rw[hlen,fg];lia) fun B h' tk vs F' N' fC YT hv=>?_
  have hS:StrsAre vs (es.map (·.1)):=Mx (D:=D) (kvs:=kvs) (by simp[YT,hlen]) fun j v hj=>by
   obtain⟨k,x,q1,q2⟩:=hv j v hj
   refine⟨k,?_,q2⟩
   refine h3▸?_;rw[jg,q1];rfl
  have hB:=(N' _ (.head _)).1
  refine xx PyProof.Rows.slot_list_sort ⟨_,hB,rfl⟩ PyProof.Rows.entry_list_sort (list_sort_treeK strKind_oneLt hB hS.keysOf (fun v₁ v₂ rest e=>keyKind_strs (by exact e▸hS)) (by lia:vs.length<64) fun st' hp hsr=>?_) (PyProof.Rows.args_list_sort _)
  obtain⟨ss',b1,b2,b3⟩:=sorted_out_str hS hp hsr
  have:=zb b2 b3
  subst this
  obtain⟨ee,hee⟩:=sortedHeap_at (out:=(arrOf st').map (·.2)) hB
  have hold:∀b o,b≠B->h'.get? b=some o->(sortedHeap h' B vs ((arrOf st').map (·.2))).get? b=some o:=fun b o hb e=>(sortedHeap_old hb (f7 e)).trans e
  refine⟨.none,rfl,?_⟩
  refine k (g':=g.push B (dq ((arrOf st').map (·.2)).toList ee) (.m8 n)) h (R.push ?_ ?_ fC) (cU fC) ⟨B,rfl,_,ee,dk,e7.strs b1⟩
  ·obtain⟨oL,a1,a2,YW,a3⟩:=F'.ns
   refine⟨⟨oL,a1,a2,hold _ _ (bY (N' _ (.head _)).2.1) YW,a3⟩,fun b o eb=>hold b o ?_ (F'.keep b o eb),F'.above⟩
   rintro rfl
   rw[(N' _ (.head _)).2.2]at eb;exact(ay _ (cN eb)).elim
  ·intro p hp
   rcases aA.mp hp with rfl|hp
   ·exact⟨by rw[hee],(N' _ (.head _)).2⟩
   ·exact⟨hold _ _ (bO (fC p hp)) (N' p (.tail _ hp)).1,(N' p (.tail _ hp)).2⟩
 |toInt=>
  cases m with
  |int z=>obtain⟨t,rfl⟩:=T;exact call_int_int (k (h':=s.heap) (tk:=s.toks) h R .refl (VR.of BB))
  |bool b=>cases(show u=.bool b from T);exact call_int_bool (k (h':=s.heap) h R .refl (VR.of (by induction b<;>exact BB)))
  |_=>exact h.elim
 |toStr=>
  obtain⟨z,t,rfl,h⟩:=gT h T
  obtain⟨k',rfl,h⟩:=nR h
  obtain⟨hl,h⟩:=e5 h
  exact str_of_int_fit (N:=10^18) (by split<;>lia) (by decide) fun _=>k (h':=s.heap) h R .refl (VR.of Ra)
 |all=>
  obtain⟨xs,a,vs,nn,rfl,ho,hs,h⟩:=uR h T
  obtain⟨bs,hb,h⟩:=AB hs h
  exact LSm.all_bools R.F R.N M.hh (cK R.toBs ho) hb fun h' tk F' N'=>k h ⟨⟨N',R.ow,R.len,R.lo,R.mu⟩,F',R.gi,R.cds,R.sl,R.gY⟩ .refl (VR.of L7)
 |any=>
  obtain⟨xs,a,vs,nn,rfl,ho,hs,h⟩:=uR h T
  obtain⟨bs,hb,h⟩:=AB hs h
  exact LSm.any_bools R.F R.N M.hh (cK R.toBs ho) hb fun h' tk F' N'=>k h ⟨⟨N',R.ow,R.len,R.lo,R.mu⟩,F',R.gi,R.cds,R.sl,R.gY⟩ .refl (VR.of L7)
theorem QF(o:B1):o.n<13:=by induction o<;>exact ae rfl
theorem QE(o:B2):o.n<13:=by induction o<;>exact ae rfl
theorem aaG{x:X}(G:fL D P)(M:cY D f A d)(hx:SE D P f A cl d x):SE D P f A cl d (.b1 o x p q):=fun{cx J n E s g st Q K} C w R h k=>
 Call_ (xm G M C R (QF o) (aB w) (rP (biB _ (QF o)) gR (hx.fz n (Q:=fun m st=>Wq o m fun b m=>Q b m st) C (aP w) R h fun m eZ u g1 h1 t1 hq R1 K1 T1=>
  aag (s:={s with heap:=h1,toks:=t1}) G M R1 T1 hq fun _ _ _ _ _ _ _ q2 R2 K2 V2=>k q2 R2 (K1.trans K2 (ab _)) V2)))
theorem aaF{x y:X}(G:fL D P)(M:cY D f A d)(hx:SE D P f A cl d x)(hy:SE D P f A cl d y):SE D P f A cl d (.b2 o x y p q):=fun{cx J n E s g st Q K} C w R h k=>
 Call_ (xm G M C R (QE o) (aB (aB w)) (LA (biB _ (QE o)) (fun _=>gR) gR (hx.fz n (Q:=fun a st=>(cP cl d y).ev st fun _ b st=>b2W o a b fun b m=>Q b m st) C (aP w) R h fun m eZ u g1 h1 t1 hq R1 K1 T1=>
  hy.fz n (s:={s with heap:=h1,toks:=t1}) (Q:=fun b st=>b2W o m b fun b m=>Q b m st) C (aP (aB w)) R1 hq fun m2 mF u2 g2 h2 t2 hq R2 K2 T2=>by
    obtain⟨a,ta,rfl,hb⟩:=gT hq T1
    obtain⟨b,tb,rfl,hc⟩:=gT hb T2
    induction o with
    |mn=>exact min_two_ints M.hh fun h' tk hk=>k hc (R2.grownK hk) (K1.trans K2 (ab _)) (VR.of (by split<;>exact BB))
    |mx=>exact max_two_ints M.hh fun h' tk hk=>k hc (R2.grownK hk) (K1.trans K2 (ab _)) (VR.of (by split<;>exact BB)))))
theorem RJ{k:Nat}(G:fL D P)(M:cY D f A d):SE D P f A cl d (.lM k r p q):=fun{cx J n E s g st Q K} C w R h kk=>by
 obtain⟨o,m,v,pq,h1,h2,bv,hq⟩:=CL R h
 have hq:Wq .len m fun b m=>Q b m st:=by induction o<;>exact hq
 refine Call_ (xm (i:=0) G M C R (by decide) (aB w) (rP (.b _) rfl (fB C R (aP w) (gF h1 h2) ?_)))
 obtain⟨xs,rfl,hq⟩:=pF hq
 obtain⟨hl,hq⟩:=e5 hq
 obtain⟨a,X,vs,nn,rfl,ho,hs⟩:=bv
 exact call_len_list (cK R.toBs ho) (by rw[aM,hs.len];exact pQ hl) (by
  rw[aM,hs.len]
  exact kk (h':=s.heap) hq R .refl (VR.of BB))
variable{t:Pos}
theorem KP:∀c,(Ha c==af "__debug__")=false:=by intro c;induction c<;>kernel_rfl
theorem Gu{py:Pos}(G:fL D P)(M:cY D f A d)(C:eX f cx J)(R:Rel P f cx s.heap st g){K:List aj->aw->Prop}(cs:List (Cl×Pos)):cs.all (fun c=>nV J (Ha c.1))=true->K (cs.map fun c=>fj (P.cls c.1)) s->
 Wp D A (spliced (gB py (cM (cs.map fun c=>.Name (Ha c.1) c.2) cx.env))) K E s:=by
 induction cs generalizing K with
 |nil=>exact fun _ hq=>gI hq
 |cons c' cs cz=>exact fun hgl hq=>eE (he:=rfl) (lD M C R (aP hgl) (G.clG c'.1) (KP c'.1) (cz (aB hgl) hq))
theorem Fy(GI:wh D P)(c:Cl):∀cs:List (Cl×Pos),kitAny D.K (.ref (P.cls c)) (cs.map fun c=>fj (P.cls c.1))=some (cs.any fun x=>aL x.1.n c.n):=by
 intro cs
 induction cs with
 |nil=>
  exact rfl
 |cons c' cs cz=>
  rw[dY,kitAny,GI.one c c'.1,ix]
  induction h:aL c'.1.n c.n with
  |true=>rfl
  |false=>simp only[cz];rfl
theorem RL{x:X}{cs:List (Cl×Pos)}(G:fL D P)(GI:wh D P)(M:cY D f A d)(hx:SE D P f A cl d x):SE D P f A cl d (.isin x cs r p q):=fun{cx J n E s g st Q K} C w R h k=>by
 have w2:=aB w
 have Oj:cM [UX cs r] cx.env=[(false,ei (UX cs r) cx.env)]:=by
  induction cs with
  |nil=>rfl
  |cons c cs=>induction cs<;>rfl
 refine Call_ (xm (i:=10) G M C R (of_decide_eq_true rfl) (aP w2) (LA (.b _) (fun _=>gR) Oj (hx.fz n (Q:=fun m st=>instW m fun c _=>Q false (.bool (cs.any fun x=>aL x.1.n c.n)) st) C (aP w) R h fun m eZ u g1 h1 t1 hq R1 K1 T1=>?_)))
 obtain⟨c,fs,rfl,hq⟩:=instW_e hq
 obtain⟨xa,dx,k6,nn,vs,rfl,i1,i2,i3,i4⟩:=T1
 have Zx:KitX D.K (.ref xa) (.ref (P.cls c)) (fun h=>Hg h xa (iC (P.cls c) dx) (P.cls c) (some (aU k6 nn))):=kitx_own (G.get c _) (G.dict c) (GI.cl c) GI.gg GI.ts (GI.mro c)
 have HD:cs.length<=20->Wp D A (ei (.Tuple (cs.map fun c=>.Name (Ha c.1) c.2) 0 r) cx.env) (fun v s₂=>Wp D A (call (.builtin "isinstance") [.ref xa,v]) K E s₂) E {s with heap:=h1,toks:=t1}:=fun hl=>by
  refine wpAny_Tuple (Gu (s:={s with heap:=h1,toks:=t1}) G M C R1 cs (aP (aB w2)) ⟨by rw[aI,fg];lia,?_⟩)
  have R2:=de R1 (nj (cs.map fun c=>fj (P.cls c.1))) .fz
  have K2:Kp n g1 _:=cU (o:=nj (cs.map fun c=>fj (P.cls c.1))) (X:=.fz) (cJ R1)
  exact kia_tup (n:=0) (sl:=#[]) (dd:=none) (its:=cs.map fun c=>fj (P.cls c.1)) Zx (M.X.keeps R2.F.keep) (cp R2.N (K2.fz _ _ i1).2 (K2.fz _ _ i2).2) (R2.N _ dk.2).1 (Fy GI c cs) (by simp) fun tk=>k hq R2 (K1.trans K2 (ab _)) (VR.of L7)
 cases cs with
 |nil=>exact HD (ae (aB (aB w2)))
 |cons c' cs=>
  cases cs with
  |cons=>exact HD (ae (aB (aB w2)))
  |nil=>
   refine lD (s:={s with heap:=h1,toks:=t1}) M C R1 (aP (aP (aB w2))) (G.clG c'.1) (KP c'.1) ?_
   exact kia_one Zx (M.X.keeps R1.F.keep) (cp R1.N i1.2 i2.2) (GI.one c c'.1) (by simp) fun tk=>k (h':=h1) (tk:=tk) (show Q false (.bool (aL c'.1.n c.n)) eZ from(yX (aL c'.1.n c.n))▸(show Q false (.bool (aL c'.1.n c.n||false)) eZ from hq)) R1 K1 (VR.of L7)
theorem yi{K:aj×List aj->aw->Prop}(hd:s.heap.DictOf (strKind D.prog D.w) a kvs)(h:K (.builtin "dict.get",[.ref a]) s):Wp D A (getMethod (.ref a) (af "get") pl) K E s:=
 getMethod_builtin hd.typeIs PySem.F.plainAttrs_dict PySem.F.slot_dict_get PySem.F.type_dict_get hd.mapOf.noDict h
theorem PL:gB pos (cM [py nm x] env)=[(false,ei (py nm x) env)]:=by rw[gR];rfl
theorem PK:gB pos (cM [py nm x,py nm y] env)=[(false,ei (py nm x) env),(false,ei (py nm y) env)]:=by rw[gR,gR];rfl
theorem all1:(gB pos (cM [py nm x] env)).all (!·.1)=true:=by rw[PL];rfl
theorem all2:(gB pos (cM [py nm x,py nm y] env)).all (!·.1)=true:=by rw[PK];rfl
theorem DY{Q:MV->Prop}(hd:Tr P g none (.bI es) (.ref a))(v:Vl P g a es kvs)(hz:Tr P g none z zv)(h:mM (cf es key) (fun v=>Q (fT es v)) (Q z)):
 ∃m,Q m/\Tr P g none m (match nz kvs key with|some v=>v|none=>zv):=by
 rcases v.get (k:=key)with⟨m1,m2⟩|⟨m,u,m1,m2,m3⟩
 ·replace h:=m1▸h;exact m2.symm▸⟨z,h,hz⟩
 ·rw[m1]at h;exact m2.symm▸⟨_,h,Tr.fT hd m3⟩
inductive abW(D:dh)(P:ck)(g:Gh)(h:eO)(es:List (Str×MV))(v:aj):Prop
 |mk(a:aZ)(kvs:List (Str×aj))(h1:v=.ref a)(h2:h.DictOf (strKind D.prog D.w) a kvs)(h3:Vl P g a es kvs)(h4:(a==sysModules)=false)
theorem get_dict(G:fL D P)(R:Rel P f cx h st g)(T:Tr P g none (.bI es) v):abW D P g h es v:=by
 refine Gk fun zG zk=>?_
 obtain⟨da,k6,nn,rfl,i1,i2,i3⟩:=T
 obtain⟨kvs,j1,j2,j3⟩:=i2.dictOf (D:=D) G.kh i3 (R.N _ i1.2).1
 refine zk ?_
 exact⟨da,kvs,rfl,j1,j2,rA R.toBs i1⟩
theorem RP{x kx:X}(G:fL D P)(hx:SE D P f A cl d x)(hk:SE D P f A cl d kx):SE D P f A cl d (.F6 x kx p q):=fun{cx J n E s g st Q K} C w R h k=>by
 refine Gk fun zG zk=>?_
 obtain⟨b1,b2,b3⟩:=zJ (aB (aB w))
 refine zk ?_
 refine mP b1 b2 (aQ (ab _) b3) all1 (hx.fz n (Q:=fun a st=>vb a fun es=>(cP cl d kx).ev st fun _ k st=>getD es k .none fun m=>Q false m st) C (aP w) R h fun m eZ v g1 h1 t1 hq R1 K1 T1=>?_)
 refine Gk fun zG zk=>?_
 obtain⟨es,rfl,hq⟩:=pM hq
 obtain⟨da,kvs,rfl,j1,_,lo⟩:=get_dict (D:=D) G R1 T1
 refine zk ?_
 refine yi (s:={s with heap:=h1,toks:=t1}) j1 ?_
 rw[PL]
 refine wpAny_dict_get1 (knd:=strKind D.prog D.w) lo (hk.fz n (s:={s with heap:=h1,toks:=t1}) (Q:=fun k st=>getD es k .none fun m=>Q false m st) C (aP (aB w)) R1 hq fun m mF kv g2 h2 t2 hq R2 K2 T2=>?_)
 refine Gk fun zG zk=>?_
 obtain⟨key,tt,rfl,hq⟩:=lK hq T2
 obtain⟨_,NW,e,l1,l2,_⟩:=get_dict (D:=D) G R2 (T1.mono K2.toGLe)
 cases e
 obtain⟨m,hm,tm⟩:=DY (Q:=fun m=>Q false m mF) (T1.mono K2.toGLe) l2 VW hq
 refine zk ?_
 refine⟨key,_,gA _ _ _ _,l1.mapOf,?_⟩
 exact k (h':=h2) hm R2 (K1.trans K2 (ab _)) (VR.of (by induction hv:nz NW key<;>rw[hv]at tm<;>exact tm))
theorem RM{x kx zx:X}(G:fL D P)(hx:SE D P f A cl d x)(hk:SE D P f A cl d kx)(hz:SE D P f A cl d zx):SE D P f A cl d (.F5 x kx zx p q):=fun{cx J n E s g st Q K} C w R h k=>by
 refine Gk fun zG zk=>?_
 obtain⟨b1,b2,b3⟩:=zJ (aB (aB (aB w)))
 refine zk ?_
 refine mP b1 b2 (aQ (ab _) b3) all2 (hx.fz n (Q:=fun a st=>vb a fun es=>(cP cl d kx).ev st fun _ k st=>(cP cl d zx).ev st fun _ z st=>getD es k z fun m=>Q false m st) C (aP w) R h fun m eZ v g1 h1 t1 hq R1 K1 T1=>?_)
 refine Gk fun zG zk=>?_
 obtain⟨es,rfl,hq⟩:=pM hq
 obtain⟨da,kvs,rfl,j1,_,lo⟩:=get_dict (D:=D) G R1 T1
 refine zk ?_
 refine yi (s:={s with heap:=h1,toks:=t1}) j1 ?_
 rw[PK]
 refine wpAny_dict_get2 (knd:=strKind D.prog D.w) lo (hk.fz n (s:={s with heap:=h1,toks:=t1}) (Q:=fun k st=>(cP cl d zx).ev st fun _ z st=>getD es k z fun m=>Q false m st) C (aP (aB w)) R1 hq fun m mF kv g2 h2 t2 hq R2 K2 T2=>
  hz.fz n (s:={s with heap:=h2,toks:=t2}) (Q:=fun z st=>getD es m z fun m=>Q false m st) C (aP (aB (aB w))) R2 hq fun mz HO zv g3 h3 t3 hq R3 K3 T3=>?_)
 refine Gk fun zG zk=>?_
 obtain⟨key,tt,rfl,hq⟩:=lK hq T2
 obtain⟨_,NW,e,l1,l2,_⟩:=get_dict (D:=D) G R3 (T1.mono (K2.trans K3 (ab _)).toGLe)
 cases e
 obtain⟨m,hm,tm⟩:=DY (Q:=fun m=>Q false m HO) (T1.mono (K2.trans K3 (ab _)).toGLe) l2 T3 hq
 refine zk ?_
 refine⟨key,_,gA _ _ _ _,l1.mapOf,?_⟩
 exact k (h':=h3) hm R3 ((K1.trans K2 (ab _)).trans K3 (ab _)) (VR.of (by induction hv:nz NW key<;>rw[hv]at tm<;>exact tm))
theorem zD:rx m Q->Q m/\∀x,m≠ .g9 x:=by
 cases m with
 |g9=>exact bR
 |_=>exact fun h=>⟨h,fun _ e=>MV.noConfusion e⟩
theorem Ig{Q:Str->St->Prop}(R:Rel P f cx h st g)(he:G2 st k fun m st=>kK m fun s=>Q s st):∃y t q,Q y st/\cx.pl k=some q/\g.pv q=some (.str y t):=by
 have S:=R.sl k
 rcases jL he with⟨m,hs,hq⟩|⟨m,hs,hq⟩
 ·rw[hs]at S
  refine Gk fun zG zk=>?_
  obtain⟨q,a,h1,h2,h3⟩:=S
  obtain⟨y,rfl,hq⟩:=nL hq
  refine zk ?_
  exact h3.elim
 ·rw[hs]at S
  refine Gk fun zG zk=>?_
  obtain⟨q,v,h1,h2,h3⟩:=S
  obtain⟨y,t,rfl,hq⟩:=lK hq h3
  refine zk ?_
  exact⟨y,t,q,hq,h1,h2⟩
theorem RQ{a b c:Pos}(G:fL D P)(GF:yT D P)(M:cY D f A d)(hx:SE D P f A cl d x):SE D P f A cl d (.Gb x fd i z a b c p q):=fun{cx J n E s g st Q K} C w R h k=>by
 refine mP rfl (aB (aB (aB w))) (by show 2<30;decide) rfl (qL (aP (aB (aB w))) (hx.fz n (Q:=fun a st=>gd (isNum fd) (rt a fun j=>cellAt st j fun c=>u7 c fun _ es=>G2 st i fun k st=>kK k fun k=>mM (cf es k) (fun v=>rx v fun m=>Q false m st) (Q false (.int z) st))) C (aP w) R h fun m eZ v g1 h1 t1 hq R1 K1 T1=>?_))
 obtain⟨Ue,hq⟩:=km hq
 obtain⟨j,rfl,hq⟩:=mH hq
 obtain⟨c,hm,hq⟩:=hJ hq
 obtain⟨av,nums,rfl,hq⟩:=u6 hq
 obtain⟨key,t,pq,hq,p1,p2⟩:=Ig (Q:=fun k st=>mM (cf nums k) (fun v=>rx v fun m=>Q false m st) (Q false (.int z) st)) R1 hq
 have JR:fd=.dD:=by induction fd<;>first|rfl|cases Ue
 refine J8 (s:={s with heap:=h1,toks:=t1}) GF M R1 (.inl JR) hm T1 fun da jj ds nn od hd _=>?_
 refine Gk fun zG zk=>?_
 obtain⟨rfl,u1,u2⟩:=hd JR
 obtain⟨kvs,j1,j2,j3⟩:=u1.dictOf (D:=D) G.kh u2 (R1.N _ od.2).1
 refine zk ?_
 refine yi (s:={s with heap:=h1,toks:=t1+1}) j1 ?_
 show Wp D A (qT q (.builtin "dict.get") [.ref da] [(false,ei (iH J.nm i b) cx.env),(false,ei _ cx.env)] []) K E _
 refine wpAny_dict_get2 (knd:=strKind D.prog D.w) (rA R1.toBs od) (fB (s:={s with heap:=h1,toks:=t1+1}) C R1 (aP (aB w)) (gF p1 p2) (jm ?_))
 refine⟨key,_,gA _ _ _ _,j1.mapOf,?_⟩
 rcases j2.get (k:=key)with⟨m1,m2⟩|⟨m',v',m1,m2,m3⟩
 ·rw[m1]at hq;rw[m2];exact k (h':=h1) hq R1 K1 (VR.of BB)
 ·rw[m1]at hq;refine m2.symm▸?_
  obtain⟨hq,hk⟩:=zD hq
  exact k (h':=h1) hq R1 K1 (VR.of (Tr.Bx hk m3))
theorem WV(G:fL D P)(GF:yT D P)(M:cY D f A d)(hk:SE D P f A cl d kx)(hx:SE D P f A cl d x):ST D P f A cl d (.fin kx x fd p q):=fun{cx J n E s g st Q K} C w R h k=>by
 refine pW (hk.fz n (Q:=fun kk st=>(cP cl d x).ev st fun _ a st=>Uw st fd a kk fun b=>Q b st) C (aP w) R h fun m eZ u g1 h1 t1 hq R1 K1 T1=>
  qL (aB (aB w)) (hx.fz n (s:={s with heap:=h1,toks:=t1}) (Q:=fun a st=>Uw st fd a m fun b=>Q b st) C (aP (aB w)) R1 hq fun m2 mF v g2 h2 t2 hq R2 K2 T2=>?_)) rfl
 obtain⟨Ue,hq⟩:=km hq
 obtain⟨i,rfl,hq1⟩:=mH hq
 obtain⟨key,t,rfl,hq2⟩:=lK hq1 T1
 obtain⟨c,hm,hq3⟩:=hJ hq2
 obtain⟨av,nums,rfl,hq4⟩:=u6 hq3
 have JR:fd=.bU:=by induction fd<;>first|rfl|cases Ue
 refine J8 (s:={s with heap:=h2,toks:=t2}) GF M R2 (.inr JR) hm T2 fun da jj ds nn od _ hd=>?_
 refine Gk fun zG zk=>?_
 obtain⟨rfl,u1,u2⟩:=hd JR
 obtain⟨kvs,j1,j2,j3⟩:=u1.dictOf (D:=D) G.kh u2 (R2.N _ od.2).1
 refine zk ?_
 refine wpAny_in_of (knd:=strKind D.prog D.w) (k:=key) (gA _ _ _ _) (rA R2.toBs od) j1.mapOf ?_
 exact j2.has▸nt (k (h':=h2) hq4 R2 (K1.trans K2 (ab _)))
theorem MU(hx:SE D P f A cl d x):SE D P f A cl d (.rfind x str r p q):=fun{cx J n E s g st Q K} C w R h k=>by
 obtain⟨b1,b2,b3⟩:=zJ (aB w)
 refine mP b1 b2 (aQ (ab _) b3) rfl (hx.fz n (Q:=fun m st=>kK m fun x=>Q false (.int (lr x (af str))) st) C (aP w) R h fun m eZ v g1 h1 t1 hq R1 K1 T1=>?_)
 obtain⟨y,t,rfl,hq⟩:=lK hq T1
 exact GM.rfind (rP (.b _) rfl (t8 (SC.rfind (k (h':=h1) hq R1 K1 (VR.of BB)))))
theorem ER(hx:SE D P f A cl d x):SE D P f A cl d (.isdigit x p q):=fun{cx J n E s g st Q K} C w R h k=>by
 obtain⟨b1,b2,b3⟩:=zJ (aB w)
 refine mP b1 b2 (aQ (ab _) b3) rfl (hx.fz n (Q:=fun m st=>kK m fun x=>Q false (.bool (pg x)) st) C (aP w) R h fun m eZ v g1 h1 t1 hq R1 K1 T1=>?_)
 obtain⟨y,t,rfl,hq⟩:=lK hq T1
 exact GM.isdigit (LB (.b _) (SC.isdigit (k (h':=h1) (tk:=t1) hq R1 K1 (VR.of L7))))
inductive aaq(o:Option Slot)(Q:List MV->Prop):Prop
 |mk(xs:List MV)(h1:o=some (.own (.lst xs)))(h2:xs.length<=b8)(h3:Q xs)
inductive aar(o:Option Slot)(Q:List (Str×MV)->Prop):Prop
 |mk(xs:List (Str×MV))(h1:o=some (.own (.bI xs)))(h2:xs.length<=b8)(h3:Q xs)
theorem qo(h:pD st k Q):aaq st.loc[k]? Q:=by
 refine Gk fun zG zk=>?_
 obtain⟨m,hs,hq⟩:=wC h
 obtain⟨xs,rfl,hq⟩:=pF hq
 refine zk ?_
 exact⟨xs,hs,(e5 hq).1,(e5 hq).2⟩
theorem zy(h:nP st k Q):aar st.loc[k]? Q:=by
 refine Gk fun zG zk=>?_
 obtain⟨m,hs,hq⟩:=wC h
 obtain⟨xs,rfl,hq⟩:=pM hq
 refine zk ?_
 exact⟨xs,hs,(e5 hq).1,(e5 hq).2⟩
inductive abK(P:ck)(cx:Cx)(g:Gh)(k:Nat)(xs:List MV):Prop
 |mk(q:Pl)(a:aZ)(vs:List aj)(nn:Nat)(h1:cx.pl k=some q)(h2:g.pv q=some (.ref a))(h3:Ob g a (.slot k) (dq vs nn))(h4:e7 P g xs vs)
inductive abM(P:ck)(cx:Cx)(g:Gh)(k:Nat)(xs:List (Str×MV)):Prop
 |mk(q:Pl)(a:aZ)(vs:List cw)(nn:Nat)(h1:cx.pl k=some q)(h2:g.pv q=some (.ref a))(h3:Ob g a (.slot k) (aU vs nn))(h4:nh P g a xs vs/\(xs.map (·.1)).Nodup)
theorem tH(R:Rel P f cx h st g)(hs:st.loc[k]?=some (.own (.lst xs))):abK P cx g k xs:=by
 have S:=R.sl k
 rw[hs]at S
 refine Gk fun zG zk=>?_
 obtain⟨q,a,h1,h2,vs,nn,h3,h4⟩:=S
 refine zk ?_
 exact⟨q,a,vs,nn,h1,h2,h3,h4⟩
theorem tI(R:Rel P f cx h st g)(hs:st.loc[k]?=some (.own (.bI xs))):abM P cx g k xs:=by
 have S:=R.sl k
 rw[hs]at S
 refine Gk fun zG zk=>?_
 obtain⟨q,a,h1,h2,vs,nn,h3,h4⟩:=S
 refine zk ?_
 exact⟨q,a,vs,nn,h1,h2,h3,h4⟩
theorem H1(hx:SE D P f A cl d x):SE D P f A cl d (.append i x r p q):=fun{cx J n E s g st Q K} C w R h k=>by
 refine Gk fun zG zk=>?_
 obtain⟨ys,hys,_,h⟩:=qo h
 obtain⟨pq,la,vs,nn,q1,q2,q3,q4⟩:=tH R hys
 refine zk ?_
 refine mP rfl (aB (aB w)) (by show 1<30;decide) all1 (fB C R (aP (aB w)) (gF q1 q2) ?_)
 refine getMethod_list_append (R.N _ q3.2).1 rfl rfl (rP (.b _) gR (hx.fz n (Q:=fun m st=>pD st i fun xs=>Q false .none (st.put i (.own (.lst (xs++[m]))))) C (aP w) R h fun m eZ v g1 h1 t1 hq R1 K1 T1=>?_))
 obtain⟨xs,hs,hl,hq⟩:=qo hq
 obtain⟨q',la',Q1,wM,p1,p2,p3,p4⟩:=tH R1 hs
 rw[q1]at p1;obtain rfl:=ar p1
 have e1:=K1.pv _ _ q2
 replace e1:=p2▸e1;cases e1
 refine append_at (s:={s with heap:=h1,toks:=t1}) (R1.N _ p3.2).1 (fun h' w9 oQ=>?_) (by rw[aM,p4.len];exact aa hl lP)
 have JL:h'.get? la=some (dq (Q1++[v]) (wM+1)):=by
  rw[oQ];show some (kJ _ _)=some (kJ _ _);simp[kJ]
 have Gl:=(cH (o':=dq (Q1++[v]) (wM+1)) p3.1).gZ (by simp)
 refine k hq (R1.MQ p3 (pK R1.F R1.N p3.2 w9) (News.upd R1.N p3.2 w9 JL) rfl ?_ mI) (K1.trans (tN p3.1) (ab _)) (VR.of VW)
 rw[lY hs]
 exact⟨pq,la,q1,p2,_,_,gD p3,(p4.mono Gl).append (.one (T1.mono Gl))⟩
theorem NR:∀{xs:List MV}{Q:List MV->MV->Prop}{vs:List aj},DH xs Q->e7 P g xs vs->∃r m us v,Q r m/\kl_last vs=some (us,v)/\e7 P g r us/\Tr P g none m v:=by
 intro xs
 induction xs with
 |nil=>exact fun h _=>h.elim
 |cons m ms cz=>
  intro Q vs h t
  induction ms with
  |nil=>
   obtain⟨v,r,rfl,t1,t2⟩:=t.inv
   cases(show r=[]from t2)
   exact⟨[],m,[],v,h,rfl,.nil,t1⟩
  |cons m' ms=>
  refine Gk fun zG zk=>?_
  obtain⟨v,r,rfl,t1,t2⟩:=t.inv
  obtain⟨r',z,us,u,i1,i2,i3,i4⟩:=cz (Q:=fun r z=>Q (m::r) z) h t2
  refine zk ?_
  refine⟨m::r',z,v::us,u,i1,?_,.cons t1 i3,i4⟩
  show(match kl_last r with|some (p,y)=>some (v::p,y)|none=>some ([],v))=_
  exact i2.symm▸rfl
theorem s_pop:SE D P f A cl d (.pop i r p q):=fun{cx J n E s g st Q K} C w R h k=>by
 refine Gk fun zG zk=>?_
 obtain⟨xs,hs,hl,h⟩:=qo h
 obtain⟨pq,la,vs,nn,q1,q2,q3,q4⟩:=tH R hs
 obtain⟨r',m,us,v,hq,v1,v2,v3⟩:=NR h q4
 refine zk ?_
 refine mP rfl (aB w) (by show 0<30;decide) rfl (fB C R (aP w) (gF q1 q2) ?_)
 refine Copied.getMethod_pop_at (R.N _ q3.2).1 rfl rfl (LB (.b _) ?_)
 refine kl_pop (p:=us) (y:=v) R.F (lC R.N q3.2) (by rw[pT];exact v1) nK (by rw[pT,q4.len];exact aa hl lP) fun h' F' N'=>?_
 have Gl:=(cH (o':=dq us (nn+1)) q3.1).gZ (by simp)
 refine k hq (R.MQ q3 F' (ox N') rfl ?_ mI) (tN q3.1) (VR.of (v3.mono Gl))
 rw[lY hs]
 exact⟨pq,la,q1,q2,_,_,gD q3,v2.mono Gl⟩
end
end Mine
set_option backward.match.sparseCases true
namespace Mine
open PySem PySem.W PySem.Calls PyProof.Rows PyProof.Rows.LCg
structure A4(D:dh)(P:ck):Prop where
 eqm:∀c,fO D.K (.ref (P.cls c)) "__eq__"=some (some (.builtin "object.__eq__"))
 sub:∀c,subIn D.K (.type "str") (.ref (P.cls c))=some false
theorem iV{α:Type}[DecidableEq α][BEq α][LawfulBEq α]{a b:α}:(a==b)=decide (a=b):=by
 by_cases h:a=b
 ·subst h;simp
 ·simp[h]
theorem E5(hq:Q (.done (.ret .notImplemented)) s):wpAny M A (cy.«object.__eq__» ⟨[.ref x,.str y t],[]⟩) Q E s:=by
 unfold cy.«object.__eq__»
 repeat (first|with_reducible refine wpAny_isSame_plain rfl ?_|wp_step)
 exact hq
theorem EF(y:Str)(t:Tok)(a:aZ)(C:aZ)(dx:aZ):
 Meets (cy.«str.__eq__» ⟨[.str y t,.ref a],[]⟩) (fun _ R s=>s.heap.get? a=some (iC C dx)/\R (.ok (.ret .notImplemented)) s):=
 .of_wp fun prog w A R s h=>by obtain⟨hp,g,d,tk,os⟩:=s;obtain⟨hl,h⟩:=h;wp_walk using AutoSeq1.wpAny_loadPart' hl,wpAny_load hl;exact⟨_,rfl,h⟩
section
variable{D:dh}{P:ck}{f:Fm}{cx:Cx}{J:Cn}{A:b9}{E:aj->aw->Prop}{s:aw}{st st':St}{g g':Gh}{n d:Nat}{cl:lq}{p q r t:Pos}
set_option maxHeartbeats 1000000 in
theorem Hx(M:cY D f A d):A.units<cLine:=aQ (aa (ak _ _) M.units) (show 9000<9900 by decide)
theorem aaZ{c:Prop}[Decidable c]{A B:Prop}(a:A)(b:B):if c then A else B:=by
 by_cases h:c
 ·exact(if_pos h).symm▸a
 ·exact(if_neg h).symm▸b
set_option maxHeartbeats 2000000 in
theorem Aj{y:Str}{t:Tok}{v:aj}{Q:aj->aw->Prop}(GI:wh D P)(GE:A4 D P)(M:cY D f A d)(R:Rel P f cx s.heap st g)(T:Tr P g none (.inst c fs) v)(h:Q (.bool false) s):Wp D A (jE .Eq v (.str y t)) Q E s:=by
 obtain⟨xa,dx,k6,nn,vs,rfl,i1,i2,i3,i4⟩:=T
 have X:=M.X.keeps R.F.keep
 have I:=cp R.N i1.2 i2.2
 have hu:A.units<cLine:=Hx M
 refine cmp_ofEq ?_
 unfold richCompare
 simp only[oneThing_ref]
 refine gP (au (wpAny_cRoomFor hu ?_))
 refine au (I.type.here (au (vI (t9 _ _ _) ?_)))
 have e0:(fj (P.cls c) !=Wy "str")=true:=rfl
 refine e0.symm▸?_
 simp only[if_true]
 refine au ((looks_subIn X (GE.sub c)).here ?_)
 simp only[eY,if_false]
 have one:Wp D A (tryCompare (.ref xa) (af "__eq__") (.str y t)) (fun r s'=>r=none/\s'=s) E s:=by
  unfold tryCompare
  refine au ?_
  unfold callSpecialIfBound? bindSpecialIfBound?
  refine gP (au (au (au (I.type.here ((looks_findIn X (GE.eqm c)).here ?_)))))
  refine au (wpAny_askSetting (wpAny_ite ?_))
  have fin:Wp D A (call (.builtin "object.__eq__") ([.ref xa]++[.str y t])>>=fun v=>pure (some v)) (fun r s₁=>Wp D A (match r with|some .notImplemented|none=>pure none|some v=>pure (some v)) (fun r s'=>r=none/\s'=s) E s₁) E s:=by
   refine au (wpAny_call (codeAny_call_builtin ph.eq.plain PySem.F.cmpEntry_eq (check_slot PySem.F.cmpKind_eq PySem.F.cmpSplit_eq (I.type.andThen (looks_mroIn X (GI.mro c))) (PySem.F.cmpArgs_eq _ _) (E5 ?_))))
   exact aO (aO ⟨rfl,rfl⟩)
  refine aaZ ?_ ?_
  ·exact au ((Px (ph.eq.bind _)).here (aO (by exact fin)))
  ·exact wpAny_tryCatch (au ((Px (ph.eq.bind _)).here (aO (by exact fin))))
 refine au (ed one (fun r s' z=>?_) fun _ _ e=>e)
 obtain⟨rfl,rfl⟩:=z
 simp only[Bool.not_false,if_true]
 refine au (wpAny_tryCompare_declines (t9 _ _ _) A7 (call_meets A7 (t9 _ _ _) PySem.F.entry_str_eq (PySem.F.args_str_eq_2 _ _) (EF y t xa (P.cls c) dx) ⟨(R.N _ i1.2).1,?_⟩))
 refine⟨rfl,?_⟩
 refine au (wpAny_rule (au (wpAny_isSame_plain rfl (aO h))))
theorem BD{a b:Str}:(a==b)=sq a b:=iV
noncomputable def Mc(u v:aj):Bool:=match u with
 |.str a _=>(match v with|.str b _=>sq a b|_=>false)
 |.int a _=>(match v with|.int b _=>decide (a=b)|_=>false)
 |_=>false
theorem Eh{u v:aj}{Q:Bool->Prop}(hx:Tr P g none x u)(hy:Tr P g none y v)(h:vm x y Q):Q (Mc u v)/\k7 A s u v (Mc u v):=by
 cases x with
 |str a=>
  obtain⟨t,rfl⟩:=hx
  cases y with
  |str b=>obtain⟨t',rfl⟩:=hy;exact⟨h,Eq.mp (congrArg _ BD) (k7.str_str (A:=A) (s:=s) _ t _ t')⟩
  |int b=>obtain⟨t',rfl⟩:=hy;exact⟨h,k7.str_int _ _ _ _⟩
  |_=>exact h.elim
 |int a=>
  obtain⟨t,rfl⟩:=hx
  cases y with
  |int b=>obtain⟨t',rfl⟩:=hy;exact⟨h,Eq.mp (congrArg _ iV) (k7.int_int (A:=A) (s:=s) _ t _ t')⟩
  |str b=>obtain⟨t',rfl⟩:=hy;exact⟨h,k7.int_str _ _ _ _⟩
  |_=>exact h.elim
 |_=>exact h.elim
theorem Pi{x y:MV}{Q:Bool->Prop}{K:aj->aw->Prop}(hx:Tr P g none x u)(hy:Tr P g none y v)(h:vm x y Q)(k:∀b,Q b->K (.bool b) s):Wp D A (jE .Eq u v) K E s:=by
 cases x with
 |str a=>
  obtain⟨t,rfl⟩:=hx
  cases y with
  |str b=>obtain⟨t',rfl⟩:=hy;exact PyProof.Rows.eq_str (by rw[BD];exact k _ h)
  |int b=>obtain⟨t',rfl⟩:=hy;exact EqMixed.eq_str_int (k _ h)
  |_=>exact h.elim
 |int a=>
  obtain⟨t,rfl⟩:=hx
  cases y with
  |int b=>obtain⟨t',rfl⟩:=hy;exact PyProof.Rows.eq_int (by rw[iV];exact k _ h)
  |str b=>obtain⟨t',rfl⟩:=hy;exact EqMixed.eq_int_str (k _ h)
  |_=>exact h.elim
 |_=>exact h.elim
theorem Ph{x y:MV}{Q:Bool->Prop}{K:aj->aw->Prop}(hx:Tr P g none x u)(hy:Tr P g none y v)(h:vm x y fun r=>Q !r)(k:∀b,Q b->K (.bool b) s):Wp D A (jE .NotEq u v) K E s:=by
 cases x with
 |str a=>
  obtain⟨t,rfl⟩:=hx
  cases y with
  |str b=>obtain⟨t',rfl⟩:=hy;exact PyProof.Rows.ne_str (by rw[bne,BD];exact k _ h)
  |int b=>obtain⟨t',rfl⟩:=hy;exact EqMixed.ne_str_int (k _ h)
  |_=>exact h.elim
 |int a=>
  obtain⟨t,rfl⟩:=hx
  cases y with
  |int b=>obtain⟨t',rfl⟩:=hy;exact PyProof.Rows.ne_int (by rw[bne,iV];exact k _ h)
  |str b=>obtain⟨t',rfl⟩:=hy;exact EqMixed.ne_int_str (k _ h)
  |_=>exact h.elim
 |_=>exact h.elim
noncomputable def eJ(vs us:List aj)(j:Nat):Bool:=match vs[j]? with
 |some u=>(match us[j]? with|some v=>Mc u v|none=>true)
 |none=>true
theorem Mt:∀{xs ys:List MV}{vs us:List aj}{Q:Bool->Prop},e7 P g xs vs->e7 P g ys us->Da xs ys Q->(∀(j:Nat)(u v:aj),vs[j]?=some u->us[j]?=some v->k7 A s u v (Mc u v))/\Q ((jR (min vs.length us.length)).all (eJ vs us)&&vs.length==us.length):=by
 intro xs
 induction xs with
 |nil=>
  intro ys vs us Q hv hu h
  cases(show vs=[]from hv)
  refine⟨fun j u v h1=>by exact(ay _ (cN h1)).elim,?_⟩
  have:=hu.len
  induction ys with
  |nil=>cases(show us=[]from hu);exact h
  |cons y ys=>induction us with
   |nil=>cases this
   |cons u us=>rw[Ml,Nat.zero_min];exact h
 |cons x xs cz=>
  intro ys vs us Q hv hu h
  induction ys with
  |nil=>
   cases(show us=[]from hu)
   obtain⟨v,r,rfl,t1,t2⟩:=hv.inv
   refine⟨fun j u v h1 h2=>by exact(ay _ (cN h2)).elim,?_⟩
   rw[Ml,Nat.min_zero];exact h
  |cons y ys=>
  obtain⟨v,r,rfl,t1,t2⟩:=hv.inv
  obtain⟨u,r',rfl,t3,t4⟩:=hu.inv
  obtain⟨h,hb⟩:=Eh (A:=A) (s:=s) (Q:=fun b=>Da xs ys fun r=>Q (b&&r)) t1 t3 h
  obtain⟨i1,i2⟩:=cz (Q:=fun r=>Q (Mc v u&&r)) t2 t4 h
  refine⟨fun j u' v' h1 h2=>?_,?_⟩
  ·induction j with
   |zero=>obtain rfl:=ar h1;obtain rfl:=ar h2;exact hb
   |succ j=>exact i1 j u' v' h1 h2
  ·rw[et,et,Nat.succ_min_succ,List.range_succ_eq_map,List.all_cons,List.all_map]
   refine(by simp:(r.length+1==r'.length+1)=(r.length==r'.length)).symm▸?_;rw[Bool.and_assoc]
   exact i2
theorem YN(hx:Tr P g none x u):∀{xs:List MV}{vs:List aj}{Q:Bool->Prop},e7 P g xs vs->inW x xs Q->(∀y∈vs,k7 A s y u (Mc y u))/\Q (vs.any fun y=>Mc y u):=by
 intro xs
 induction xs with
 |nil=>
  intro _ Q h hb
  cases(show _=[]from h);exact⟨(fun _ h=>(bt h).elim),hb⟩
 |cons y ys cz=>
  intro _ Q h hb
  obtain⟨v,r,rfl,h1,h2⟩:=h.inv
  obtain⟨hb,e⟩:=Eh (A:=A) (s:=s) h1 hx hb
  obtain⟨i1,i2⟩:=cz (Q:=fun r=>Q (Mc v u||r)) h2 hb
  refine⟨fun y' hy=>?_,by rw[ix];exact i2⟩
  rcases aA.mp hy with rfl|hy
  ·exact e
  ·exact i1 _ hy
theorem nil_of{vs:List aj}(h:e7 P g [] vs):vs=[]:=h
theorem OH{a b:MV}{u v:aj}{Q:Bool->Prop}{K:aj->aw->Prop}(G:fL D P)(GI:wh D P)(GE:A4 D P)(M:cY D f A d)(R:Rel P f cx s.heap st g)(ha:Tr P g none a u)(hb:Tr P g none b v)(h:eqW a b Q)(k:∀b,Q b->K (.bool b) s):Wp D A (jE .Eq u v) K E s:=by
 have hu:A.units<cLine:=Hx M
 cases a with
 |tup xs=>
  obtain⟨ys,rfl,h⟩:=By h
  obtain⟨la,vs,rfl,oa,ta⟩:=ha
  obtain⟨lb,us,rfl,ob,tb⟩:=hb
  obtain⟨h1,h2⟩:=Mt (A:=A.in1) (s:=s) ta tb h
  refine SeqAt.eq_tupleAt (jA R.toBs oa) (jA R.toBs ob) hu (e:=eJ vs us) (fun j q1 q2=>?_) (k _ h2)
  have e1:vs[j]?=some vs.toArray[j]:=ez q1
  have e2:us[j]?=some us.toArray[j]:=ez q2
  have:=h1 j _ _ e1 e2
  unfold eJ
  refine e1.symm▸e2.symm▸?_;exact this
 |lst xs=>
  obtain⟨ys,rfl,h⟩:=pF h
  obtain⟨rfl,h⟩:=IB h
  obtain⟨la,vs,n1,rfl,oa,ta⟩:=ha
  obtain⟨lb,us,n2,rfl,ob,tb⟩:=hb
  cases nil_of tb
  induction xs with
  |nil=>
   cases nil_of ta
   exact SeqAt.eq_listAt (cK R.toBs oa) (cK R.toBs ob) rfl hu (e:=fun _=>true) (fun j q1 _=>by exact(gw _ q1).elim) (k _ h)
  |cons x xs=>
   obtain⟨v,r,rfl,_,_⟩:=ta.inv
   exact SeqAt.eq_list_lengthsAt (cK R.toBs oa) (cK R.toBs ob) rfl hu (k _ h)
 |bI xs=>
  obtain⟨ys,rfl,h⟩:=pM h
  obtain⟨rfl,h⟩:=SM h
  obtain⟨la,ka,rfl,i1,i2,lo1⟩:=get_dict (D:=D) G R ha
  obtain⟨lb,kb,rfl,j1,j2,lo2⟩:=get_dict (D:=D) G R hb
  cases(show kb=[]from j2)
  have hlen:ka.length=xs.length:=by have:=congrArg ud i2.keys;simpa using this
  refine keq_eq lo1 lo2 i1 j1 hu (r:=true) (fun e=>?_) ?_
  ·cases eB (l:=ka) e;exact .nil
  ·have:(ka.length==([]:List (Str×aj)).length&&true)=xs.isEmpty:=by
    rw[qd,hlen]
    induction xs<;>rfl
   exact this.symm▸k _ h
 |inst c fs=>
  obtain⟨y,rfl,h⟩:=nL h
  obtain⟨t,rfl⟩:=hb
  exact Aj GI GE M R ha (k _ h)
 |_=>exact Pi ha hb h k
theorem Ny{a b:MV}{u v:aj}{Q:Bool->Prop}{K:aj->aw->Prop}(M:cY D f A d)(R:Rel P f cx s.heap st g)(ha:Tr P g none a u)(hb:Tr P g none b v)(h:neW a b Q)(k:∀b,Q b->K (.bool b) s):Wp D A (jE .NotEq u v) K E s:=by
 have hu:A.units<cLine:=Hx M
 cases a with
 |lst xs=>
  obtain⟨ys,rfl,h⟩:=pF h
  obtain⟨rfl,h⟩:=IB h
  obtain⟨la,vs,n1,rfl,oa,ta⟩:=ha
  obtain⟨lb,us,n2,rfl,ob,tb⟩:=hb
  cases nil_of tb
  cases xs with
  |nil=>
   cases nil_of ta
   exact cmp_ofNotEq (QR.lists (cK R.toBs oa) (cK R.toBs ob) rfl hu (e:=fun _=>true) (fun j q1 _=>by exact(gw _ q1).elim) _ _ _ _ (k _ h))
  |cons x xs=>
   obtain⟨v,r,rfl,_,_⟩:=ta.inv
   exact cmp_ofNotEq (QR.lists_lengths (cK R.toBs oa) (cK R.toBs ob) rfl hu _ _ _ _ (k _ h))
 |_=>exact Ph ha hb h k
theorem wY(G:fL D P)(R:Rel P f cx s.heap st g)(ha:Tr P g none a u)(hb:Tr P g none b v)(h:Jv a b Q):
 (∀K:aj->aw->Prop,(∀b tk,Q b->K (.bool b) {s with toks:=tk})->Wp D A (jE .In u v) K E s)/\∀K:aj->aw->Prop,(∀b tk,Q b->K (.bool !b) {s with toks:=tk})->Wp D A (jE .NotIn u v) K E s:=by
 cases b with
 |bI es=>
  obtain⟨k,rfl,h⟩:=nL h
  obtain⟨t,rfl⟩:=ha
  obtain⟨la,kvs,rfl,j1,j2,lo⟩:=get_dict (D:=D) G R hb
  exact⟨fun K kk=>wpAny_in_of (knd:=strKind D.prog D.w) (k:=k) (gA _ _ _ _) lo j1.mapOf (by rw[j2.has];exact kk _ _ h),fun K kk=>wpAny_notIn_of (knd:=strKind D.prog D.w) (k:=k) (gA _ _ _ _) lo j1.mapOf (by rw[j2.has];exact kk _ _ h)⟩
 |lst xs=>
  obtain⟨la,vs,nn,rfl,od,t1⟩:=hb
  obtain⟨i1,i2⟩:=YN (A:=A.in1) (s:=s) ha t1 h
  exact⟨fun K kk=>SeqAt.in_listAt (fun y=>Mc y u) (cK R.toBs od) (fun y hy=>i1 y (by simpa using hy)) (by rw[L6];exact kk _ s.toks i2),fun K kk=>SeqAt.notIn_listAt (fun y=>Mc y u) (cK R.toBs od) (fun y hy=>i1 y (by simpa using hy)) (by rw[L6];exact kk _ s.toks i2)⟩
 |_=>exact h.elim
theorem KJ{a b:MV}{Q:Bool->Prop}{K:aj->aw->Prop}(G:fL D P)(GI:wh D P)(GE:A4 D P)(M:cY D f A d)(R:Rel P f cx s.heap st g)(ha:Tr P g none a u)(hb:Tr P g none b v)(h:CF o a b Q)(k:∀b tk,Q b->K (.bool b) {s with toks:=tk}):Wp D A (jE (OV o) u v) K E s:=by
 have vP:∀{W:Int->Int->Prop},(eU a fun x=>eU b fun y=>W x y)->∃x y t t',u=.int x t/\v=.int y t'/\W x y:=fun h=>by
  obtain⟨x,rfl,h1⟩:=pJ h
  obtain⟨y,rfl,h2⟩:=pJ h1
  obtain⟨t,rfl⟩:=ha
  obtain⟨t',rfl⟩:=hb
  exact⟨x,y,t,t',rfl,rfl,h2⟩
 induction o with
 |eq=>exact OH G GI GE M R ha hb h fun b q=>k b s.toks q
 |ne=>exact Ny M R ha hb h fun b q=>k b s.toks q
 |lt=>obtain⟨x,y,t,t',rfl,rfl,h⟩:=vP h;exact PyProof.Rows.lt_int (k _ s.toks h)
 |le=>obtain⟨x,y,t,t',rfl,rfl,h⟩:=vP h;exact PyProof.Rows.le_int (k _ s.toks h)
 |gt=>obtain⟨x,y,t,t',rfl,rfl,h⟩:=vP h;exact PyProof.Rows.gt_int (k _ s.toks h)
 |ge=>obtain⟨x,y,t,t',rfl,rfl,h⟩:=vP h;exact PyProof.Rows.ge_int (k _ s.toks h)
 |isin=>exact(wY G R ha hb h).1 K k
 |zB=>exact(wY (Q:=fun r=>Q !r) G R ha hb h).2 K fun b tk q=>k _ tk q
theorem QB{o:Co}{K:aj->aw->Prop}(G:fL D P)(GI:wh D P)(GE:A4 D P)(M:cY D f A d)(hx:SE D P f A cl d x)(hy:SE D P f A cl d y)(C:eX f cx J)(w:wf (.cmp o x y p) J=true)(R:Rel P f cx s.heap st g)
 (h:(cP cl d x).ev st fun _ a st=>(cP cl d y).ev st fun _ b st=>CF o a b fun r=>Q r st) (k:Kt P f cx n g s Q fun b s'=>K (.bool b) s'):
 Wp D A (ei (py J.nm x) cx.env) (fun u s₁=>Wp D A (ei (py J.nm y) cx.env) (fun v s₂=>Wp D A (jE (OV o) u v) K E s₂) E s₁) E s:=
 hx.fz n (Q:=fun a st=>(cP cl d y).ev st fun _ b st=>CF o a b fun r=>Q r st) C (aP w) R h fun m eZ u g1 h1 t1 hq R1 K1 T1=>
   hy.fz n (s:={s with heap:=h1,toks:=t1}) (Q:=fun b st=>CF o m b fun r=>Q r st) C (aP (aB w)) R1 hq fun m2 mF v g2 h2 t2 hq R2 K2 T2=>
     KJ (s:={s with heap:=h2,toks:=t2}) G GI GE M R2 (T1.mono K2.toGLe) T2 hq fun b tk q=>k q R2 (K1.trans K2 (ab _))
theorem Xk(G:fL D P)(GI:wh D P)(GE:A4 D P)(M:cY D f A d)(hx:SE D P f A cl d x)(hy:SE D P f A cl d y):SE D P f A cl d (.cmp o x y p):=fun{cx J n E s g st Q K} C w R h k=>
 wpAny_Compare1 (QB (n:=n) (p:=p) (Q:=fun r st=>Q false (.bool r) st) G GI GE M hx hy C w R h fun b st' g' h' tk q R' K'=>k q R' K' (VR.of L7)) (by have:=aB (aB w);simpa using this)
theorem WW{o:Co}(G:fL D P)(GI:wh D P)(GE:A4 D P)(M:cY D f A d)(hx:SE D P f A cl d x)(hy:SE D P f A cl d y):ST D P f A cl d (.cmp o x y p):=fun{cx J n E s g st Q K} C w R h k=>
 pW (QB (n:=n) (p:=p) (K:=fun v s₁=>Wp D A (kI v) K E s₁) G GI GE M hx hy C w R h fun b st' g' h' tk q R' K'=>nt (k q R' K')) (by have:=aB (aB w);simpa using this)
theorem Nu(T:Tr P g none m v):(v==aj.none)=qv m:=by
 cases m with
 |none=>cases(show v=.none from T);rfl
 |bool b=>cases(show v=.bool b from T);rfl
 |int=>obtain⟨_,rfl⟩:=T;rfl
 |str=>obtain⟨_,rfl⟩:=T;rfl
 |tup=>obtain⟨_,_,rfl,_⟩:=T;rfl
 |lst=>obtain⟨_,_,_,rfl,_⟩:=T;rfl
 |bI=>obtain⟨_,_,_,rfl,_⟩:=T;rfl
 |g9=>obtain⟨_,_,_,_,rfl,_⟩:=T;rfl
 |inst=>obtain⟨_,_,_,_,_,rfl,_⟩:=T;rfl
 |ref=>obtain⟨_,_,rfl⟩:=T;rfl
 |xj k i=>
  obtain⟨_,rfl⟩:=(T:tY P g k i v).ref;rfl
theorem zU{K:aj->aw->Prop}(hx:SE D P f A cl d x)(C:eX f cx J)(w:wf x J=true)(R:Rel P f cx s.heap st g)
 (h:(cP cl d x).ev st fun _ a st=>Q (qv a) st) (k:Kt P f cx n g s Q fun b s'=>K (.bool b) s'):
 Wp D A (ei (py J.nm x) cx.env) (fun u s₁=>Wp D A (ei (.Constant .none 0 r) cx.env) (fun v s₂=>Wp D A (jE .Is u v) K E s₂) E s₁) E s:=
 hx.fz n (Q:=fun a st=>Q (qv a) st) C w R h fun m eZ u g1 h1 t1 hq R1 K1 T1=>wpAny_Constant_none (is_none (by rw[Nu T1];exact k (h':=h1) (tk:=t1) hq R1 K1))
theorem H0(hx:SE D P f A cl d x):SE D P f A cl d (.isNone x r p):=fun{cx J n E s g st Q K} C w R h k=>
 wpAny_Compare1 (zU (n:=n) (Q:=fun r st=>Q false (.bool r) st) hx C w R h fun b st' g' h' tk q R' K'=>k q R' K' (VR.of L7)) rfl
theorem HJ{x:X}(hx:SE D P f A cl d x):ST D P f A cl d (.isNone x r p):=fun{cx J n E s g st Q K} C w R h k=>
 pW (zU (n:=n) (K:=fun v s₁=>Wp D A (kI v) K E s₁) hx C w R h fun b st' g' h' tk q R' K'=>nt (k q R' K')) rfl
theorem I2(h:m<2^64):m.log2<64:=by
 by_cases h0:m=0
 ·subst h0;decide
 ·exact(Nat.log2_lt h0).mpr h
theorem bits_le(h:a.natAbs<2^64):wo a<=64:=by
 unfold wo
 split
 ·lia
 ·have:=I2 h;lia
theorem mulOk_of(h:r5 a b=true):IntMulOk a b:=by
 unfold r5 at h
 simp only[nJ,fN,decide_eq_true_eq,beq_iff_eq]at h
 rcases h with(rfl|rfl)|h
 ·exact .of_right (by decide)
 ·exact .of_right (by decide)
 ·exact .of_left (bits_le h.1)
theorem UJ(h:b.natAbs<2^64):¬sT a b=true:=by
 unfold sT
 simp only[fN,decide_eq_true_eq,not_and]
 intro h1
 exfalso
 split at h1
 ·lia
 ·have:=I2 h;lia
theorem Lg{K:aj->aw->Prop}(R:Rel P f cx s.heap st g)(ha:Tr P g none a u)(hb:Tr P g none b v)(h:Pa o a b fun b m=>Q b m st)(k:Kv P f cx n g s Q K):Wp D A (binaryOp (XH o) u v) K E s:=by
 have vP:∀{W:Int->Int->Prop},(eU a fun x=>eU b fun y=>W x y)->∃x y t t',u=.int x t/\v=.int y t'/\W x y:=fun h=>by
  obtain⟨x,t,rfl,h1⟩:=gT h ha
  obtain⟨y,rfl,h2⟩:=pJ h1
  obtain⟨t',rfl⟩:=hb
  exact⟨x,y,t,t',rfl,rfl,h2⟩
 have fin:∀{z:Int},Q false (.int z) st->∀{t:Tok}{tk:Nat},K (.int z t) {s with toks:=tk}:=fun{z} hq{t tk}=>k (h':=s.heap) hq R .refl (VR.of BB)
 induction o with
 |add=>
  cases a with
  |int x=>
   obtain⟨y,rfl,h⟩:=pJ h
   obtain⟨t,rfl⟩:=ha
   obtain⟨t',rfl⟩:=hb
   exact PyProof.Rows.add_int (fin h)
  |lst xs=>
   obtain⟨ys,rfl,h⟩:=pF h
   obtain⟨hm,h⟩:=e5 h
   obtain⟨la,vs,n1,rfl,oa,ta⟩:=ha
   obtain⟨lb,us,n2,rfl,ob,tb⟩:=hb
   refine PySem.P.add_list (R.N _ oa.2).1 (R.N _ ob.2).1 ?_ (by exact aM.symm▸aM.symm▸ta.len.symm▸tb.len.symm▸aa hm lP)
   exact(by simp:vs.toArray++us.toArray=(vs++us).toArray).symm▸k (tk:=s.toks) h (de R (dq (vs++us) 0) (.m8 n)) (cU (cJ R)) ⟨_,rfl,_,0,dk,(ta.append tb).mono ((cT (cJ R)).gZ trivial)⟩
  |str x=>
   obtain⟨y,rfl,h⟩:=nL h
   obtain⟨hm,h⟩:=e5 h
   obtain⟨t,rfl⟩:=ha
   obtain⟨t',rfl⟩:=hb
   exact SB.add (fun t' tk=>k (h':=s.heap) h R .refl (VR.of Ra)) (aa hm (by rw[fg];decide))
  |_=>exact h.elim
 |sub=>obtain⟨x,y,t,t',rfl,rfl,h⟩:=vP h;exact PyProof.Rows.sub_int (fin h)
 |mul=>
  obtain⟨x,y,t,t',rfl,rfl,h⟩:=vP h
  obtain⟨hm,h⟩:=km h
  exact PyProof.Rows.mul_int (fin h) (mulOk_of hm)
 |fdiv=>
  obtain⟨x,y,t,t',rfl,rfl,h⟩:=vP h
  obtain⟨hm,h⟩:=km h
  exact AutoIntOps.floordiv_1 (by simpa using (by have:=aP hm;simpa using this:¬y=0)) (UJ (of_decide_eq_true (aB hm))) (fin h)
 |mod=>
  obtain⟨x,y,t,t',rfl,rfl,h⟩:=vP h
  obtain⟨hm,h⟩:=km h
  exact PyProof.Rows.mod_int (by simpa using hm:¬y=0) (fin h)
 |pow=>
  obtain⟨x,y,t,t',rfl,rfl,h⟩:=vP h
  obtain⟨hm,h⟩:=km h
  have h1:=of_decide_eq_true (aP hm)
  have h2:=of_decide_eq_true (aB hm)
  subst h1 h2
  exact AutoIntOps.pow_4 (by decide) (by decide) (by decide) (by decide) (by decide) (fin h)
theorem Xl(hx:SE D P f A cl d x)(hy:SE D P f A cl d y):SE D P f A cl d (.bin o x y p):=fun{cx J n E s g st Q K} C w R h k=>
 wpAny_BinOp (hx.fz n (Q:=fun a st=>(cP cl d y).ev st fun _ b st=>Pa o a b fun b m=>Q b m st) C (aP w) R h fun m eZ u g1 h1 t1 hq R1 K1 T1=>
  hy.fz n (s:={s with heap:=h1,toks:=t1}) (Q:=fun b st=>Pa o m b fun b m=>Q b m st) C (aB w) R1 hq fun m2 mF v g2 h2 t2 hq R2 K2 T2=>
    Lg (s:={s with heap:=h2,toks:=t2}) R2 (T1.mono K2.toGLe) T2 hq fun b m HO v g3 h3 t3 q R3 K3 V3=>k q R3 ((K1.trans K2 (ab _)).trans K3 (ab _)) V3)
noncomputable def Ws(D:dh)(P:ck)(f:Fm)(A:b9)(cl:lq)(d:Nat)(x:X):Prop:=
 ∀⦃cx J n E s g st Q K⦄,eX f cx J->wf x J=true->Rel P f cx s.heap st g->Kt P f cx n g s Q K->
  ((cP cl d x).ta st Q->Wp D A (allTrue .And (gi J.nm x) cx.env) K E s)/\((cP cl d x).to st Q->Wp D A (allTrue .Or (gi J.nm x) cx.env) K E s)
noncomputable def SEa(D:dh)(P:ck)(f:Fm)(A:b9)(cl:lq)(d:Nat)(x:X):Prop:=
 ∀⦃cx J n E s g st Q K pos⦄,eX f cx J->wf x J=true->Rel P f cx s.heap st g->Kf P f cx n g s Q K->
  ((cP cl d x).ea st Q->Wp D A (ei (.BoolOp .And (gi J.nm x) pos) cx.env) K E s)/\((cP cl d x).eo st Q->Wp D A (ei (.BoolOp .Or (gi J.nm x) pos) cx.env) K E s)
theorem qP{K:Bool->aw->Prop}(h:Wp D A (isTrue x env (ei x env)) (fun b s₁=>match op,b with|.And,false=>K false s₁|.Or,true=>K true s₁|_,_=>Wp D A (allTrue op rest env) K E s₁) E s):Wp D A (allTrue op (x::rest) env) K E s:=by
 show Wp D A (do match op,<-isTrue x env (ei x env)with|.And,false=>pure false|.Or,true=>pure true|_,_=>allTrue op rest env) K E s
 refine au (ed h (fun b s₁ z=>?_) fun _ _ e=>e)
 induction op<;>induction b<;>first|exact aO z|exact z
theorem Rh:Ws D P f A cl d .nil:=fun{cx J n E s g st Q K} C w R k=>⟨fun h=>aO (k (h':=s.heap) (tk:=s.toks) h R .refl),fun h=>aO (k (h':=s.heap) (tk:=s.toks) h R .refl)⟩
theorem Mv(hx:ST D P f A cl d x)(hs:Ws D P f A cl d xs):Ws D P f A cl d (.cons x xs):=fun{cx J n E s g st Q K} C w R k=>by
 refine⟨fun h=>qP (hx (n:=n) (Q:=fun b st=>i0 b ((cP cl d xs).ta st Q) (Q false st)) C (aP w) R h fun b eZ g1 h1 t1 hq R1 K1=>?_),fun h=>qP (hx (n:=n) (Q:=fun b st=>i0 b (Q true st) ((cP cl d xs).to st Q)) C (aP w) R h fun b eZ g1 h1 t1 hq R1 K1=>?_)⟩
 ·induction b with
  |true=>exact(hs (s:={s with heap:=h1,toks:=t1}) C (aB w) R1 fun b mF g2 h2 t2 q R2 K2=>k q R2 (K1.trans K2 (ab _))).1 hq
  |false=>exact k hq R1 K1
 ·induction b with
  |true=>exact k hq R1 K1
  |false=>exact(hs (s:={s with heap:=h1,toks:=t1}) C (aB w) R1 fun b mF g2 h2 t2 q R2 K2=>k q R2 (K1.trans K2 (ab _))).2 hq
theorem WX(hs:Ws D P f A cl d xs):ST D P f A cl d (.and xs p):=fun{cx J n E s g st Q K} C w R h k=>wpAny_isTrue_BoolOp ((hs C w R k).1 h)
theorem aaA(hs:Ws D P f A cl d xs):ST D P f A cl d (.or xs p):=fun{cx J n E s g st Q K} C w R h k=>wpAny_isTrue_BoolOp ((hs C w R k).2 h)
theorem WU(hx:ST D P f A cl d x):ST D P f A cl d (.not x p):=fun{cx J n E s g st Q K} C w R h k=>wpAny_isTrue_Not (hx (n:=n) (Q:=fun b st=>Q (!b) st) C w R h fun b eZ g1 h1 t1 hq R1 K1=>k hq R1 K1)
theorem Xb(hx:SE D P f A cl d x):SE D P f A cl d (.not x p):=fun{cx J n E s g st Q K} C w R h k=>
 wpAny_UnaryOp (hx.fz n (Q:=fun m st=>G0 m fun b=>Q false (.bool !b) st) C w R h fun m eZ v g1 h1 t1 hq R1 K1 T1=>not_of (oj (s:={s with heap:=h1,toks:=t1}) R1.toBs (.wK (own:=false) T1) hq fun b tk hb=>k (h':=h1) hb R1 K1 (VR.of L7)))
theorem Xg(hc:ST D P f A cl d c)(ha:SE D P f A cl d a)(hb:SE D P f A cl d b):SE D P f A cl d (.ite c a b p):=fun{cx J n E s g st Q K} C w R h k=>
 wpAny_IfExp (hc (n:=n) (Q:=fun z st=>i0 z ((cP cl d a).ev st Q) ((cP cl d b).ev st Q)) C (aP w) R h fun z eZ g1 h1 t1 hq R1 K1=>by
  induction z with
  |true=>exact ha (s:={s with heap:=h1,toks:=t1}) C (aP (aB w)) R1 hq fun b m mF v g2 h2 t2 q R2 K2 V2=>k q R2 (K1.trans K2 (ab _)) V2
  |false=>exact hb (s:={s with heap:=h1,toks:=t1}) C (aB (aB w)) R1 hq fun b m mF v g2 h2 t2 q R2 K2 V2=>k q R2 (K1.trans K2 (ab _)) V2)
theorem Kz{K:aj->aw->Prop}(hx:SE D P f A cl d x)(C:eX f cx J)(w:wf x J=true)(R:Rel P f cx s.heap st g)(h:(cP cl d x).ev st fun _ _ _=>False):Wp D A (ei (.BoolOp op [py J.nm x] pos) cx.env) K E s:=
 BoolOp_one (hx.fz 0 (Q:=fun _ _=>False) C w R h fun _ _ _ _ _ _ q=>q.elim)
noncomputable def Nl(cl:lq)(d:Nat)(x:X):St->(MV->St->Prop)->Prop:=fun st _=>(cP cl d x).ev st fun _ _ _=>False
inductive XsW(cl:lq)(d:Nat)(xs:X):Prop
 |nil(h:xs=.nil)
 |cons(y ys:X)(h:xs=.cons y ys)
 |oth(a:∀x,(cP cl d (.cons x xs)).ea=Nl cl d x)(o:∀x,(cP cl d (.cons x xs)).eo=Nl cl d x)(p:∀nm,gi nm xs=[])
theorem QT(xs:X):XsW cl d xs:=by
 induction xs with
 |nil=>exact .nil rfl
 |cons y ys=>exact .cons y ys rfl
 |_=>exact .oth (fun x=>@rfl _ (Nl cl d x)) (fun x=>@rfl _ (Nl cl d x)) fun _=>@rfl _ []
theorem OM(hx:SE D P f A cl d x)(hs:SEa D P f A cl d xs):SEa D P f A cl d (.cons x xs):=fun{cx J n E s g st Q K pos} C w R k=>by
 have one:((cP cl d x).ev st fun _ m st=>Q m st)->∀op,Wp D A (ei (.BoolOp op [py J.nm x] pos) cx.env) K E s:=fun h op=>BoolOp_one (hx.fz n C (aP w) R h k)
 rcases QT (cl:=cl) (d:=d) xs with⟨rfl⟩|⟨y,ys,rfl⟩|⟨h1,h2,h3⟩
 ·exact⟨fun h=>one h _,fun h=>one h _⟩
 ·have step:∀{A1 B1:MV->St->Prop},((cP cl d x).ev st fun _ m st=>G0 m fun b=>i0 b (A1 m st) (B1 m st))->∀{Kb:aj->Bool->aw->Prop},(∀m eZ v g1 h1 t1,Rel P f cx h1 eZ g1->Kp n g g1->Tr P g1 none m v->(A1 m eZ->Kb v true {s with heap:=h1,toks:=t1})/\(B1 m eZ->Kb v false {s with heap:=h1,toks:=t1}))->
   Wp D A (ei (py J.nm x) cx.env) (fun v s₁=>Wp D A (kI v) (fun c s₂=>Kb v c s₂) E s₁) E s:=fun{A1 B1} h{Kb} kb=>
   hx.fz n (Q:=fun m st=>G0 m fun b=>i0 b (A1 m st) (B1 m st)) C (aP w) R h fun m eZ v g1 h1 t1 hq R1 K1 T1=>oj (s:={s with heap:=h1,toks:=t1}) R1.toBs (.wK (own:=false) T1) hq fun b tk hb=>by
     induction b with
     |true=>exact(kb m eZ v g1 h1 tk R1 K1 T1).1 hb
     |false=>exact(kb m eZ v g1 h1 tk R1 K1 T1).2 hb
  refine⟨fun h=>BoolOp_and (step (A1:=fun m st=>(cP cl d (.cons y ys)).ea st Q) (B1:=fun m st=>Q m st) h (Kb:=fun v c s₂=>if c then Wp D A (ei (.BoolOp .And (py J.nm y::gi J.nm ys) pos) cx.env) K E s₂ else K v s₂) fun m eZ v g1 h1 t1 R1 K1 T1=>⟨fun hq=>?_,fun hq=>k hq R1 K1 T1⟩),
   fun h=>BoolOp_or (step (A1:=fun m st=>Q m st) (B1:=fun m st=>(cP cl d (.cons y ys)).eo st Q) h (Kb:=fun v c s₂=>if c then K v s₂ else Wp D A (ei (.BoolOp .Or (py J.nm y::gi J.nm ys) pos) cx.env) K E s₂) fun m eZ v g1 h1 t1 R1 K1 T1=>⟨fun hq=>k hq R1 K1 T1,fun hq=>?_⟩)⟩
  ·exact(hs (s:={s with heap:=h1,toks:=t1}) C (aB w) R1 fun m mF v g2 h2 t2 q R2 K2 T2=>k q R2 (K1.trans K2 (ab _)) T2).1 hq
  ·exact(hs (s:={s with heap:=h1,toks:=t1}) C (aB w) R1 fun m mF v g2 h2 t2 q R2 K2 T2=>k q R2 (K1.trans K2 (ab _)) T2).2 hq
 ·refine(show gi J.nm (.cons x xs)=py J.nm x::gi J.nm xs from rfl).symm▸?_;rw[h3,h1,h2]
  exact⟨Kz hx C (aP w) R,Kz hx C (aP w) R⟩
end
end Mine
namespace Mine
open PySem PySem.W PySem.Calls PyProof.Rows PyProof.Rows.LCg PySem.StrLaws
section
variable{D:dh}{P:ck}{f:Fm}{cx:Cx}{J:Cn}{A:b9}{E:aj->aw->Prop}{s:aw}{st st':St}{g g':Gh}{n d:Nat}{cl:lq}{p q r t:Pos}
theorem U5{k n:Nat}:max 0 (min (k:Int) n)=((min k n:Nat):Int):=by
 rcases WA k n with h|h
 ·rw[vL h,PA (bQ.mpr h),ue (bk _)]
 ·rw[Mj h,Int.min_eq_right (bQ.mpr h),ue (bk _)]
theorem KO(h:k+1<=n): -((k:Int)+1)+n=((n-(k+1):Nat):Int):=by
 rw[Int.ofNat_sub h,Bl];rfl
theorem U7(h:n<=k+1): -((k:Int)+1)+n<=0:=by
 rw[Bl];exact Int.sub_nonpos_of_le (bQ.mpr h)
theorem U6{k n:Nat}:max 0 (min (-((k:Int)+1)+n) n)=((n-(k+1):Nat):Int):=by
 rcases WA (k+1) n with h|h
 ·rw[KO h,PA (bQ.mpr (Nat.sub_le _ _)),ue (bk _)]
 ·rw[oN h];exact Int.max_eq_left (fy (Int.min_le_left _ _) (U7 h))
theorem D5(n:Nat)(z:Int):clipAt n z=clamp n z:=by
 refine Int.ofNat_inj.mp ((clipAt_cast n z).trans ?_)
 induction z with
 |ofNat k=>exact if_neg (show¬Int.ofNat k<0 from qW.mpr (bk k))▸U5
 |negSucc k=>exact if_pos (GY k)▸U6
theorem jK{value slice:Expr}{o i:aj}{T id:String}(hT:s.TypeIs o T)(hl:typeLookup (.type T) "__getitem__"=pure (some (.builtin id)))
 (hs:subscripted slice false o i=operate ops (getItem o i)) (h:Wp D A (getItem o i) Q E s):Wp D A (fe value slice o i) Q E s:=by
 unfold fe
 refine au ?_
 refine(getitemInPython_of_ne hT.not_modules).symm▸?_
 refine au (wpAny_specialOf hT hl ?_)
 have fin:Wp D A (subscripted slice false o i) (fun r s₃=>Wp D A (letTemporaryGo value o r>>=fun _=>pure r) Q E s₃) E s:=by
  rw[hs]
  exact wpAny_operating (ed h (fun r s₃ h₃=>au (wpAny_letTemporaryGo (aO h₃))) fun _ _ x=>x)
 first
  |exact aO (au fin)
  |exact au (aO (au fin))
  |exact au fin
inductive abV(P:ck)(g:Gh)(vs:List aj)(k n:Nat)(Q:MV->Prop):Prop
 |mk(m:MV)(v:aj)(h1:Q m)(h2:k<n)(h3:vs[k]?=some v)(h4:Tr P g none m v)
theorem J1:∀{xs:List MV}{vs:List aj}{k:Nat}{Q:MV->Prop},Cv xs k Q->e7 P g xs vs->abV P g vs k xs.length Q:=by
 intro xs
 induction xs with
 |nil=>exact fun h _=>h.elim
 |cons x xs cz=>
  intro vs k Q h t
  obtain⟨v,r,rfl,t1,t2⟩:=t.inv
  induction k with
  |zero=>exact⟨x,v,h,Mh _,rfl,t1⟩
  |succ k=>
   obtain⟨m,u,i1,i2,i3,i4⟩:=cz (k:=k) h t2
   exact⟨m,u,i1,Nat.succ_lt_succ i2,i3,i4⟩
theorem It:subscripted (py nm x) false o i=operate [o,i] (getItem o i):=by induction x<;>exact @rfl _ (operate [o,i] (getItem o i))
theorem JF(ht:e7 P g xs vs)(h:Cj xs z Q):xs.length<=b8/\∃m v,Q m/\Tr P g none m v/\∃k:Nat,k<xs.length/\vs[k]?=some v/\(z=k\/(z<0/\z+xs.length=k)):=by
 obtain⟨hl,h⟩:=e5 h
 induction z with
 |ofNat k=>
  refine Gk fun zG zk=>?_
  obtain⟨m,v,i1,i2,i3,i4⟩:=J1 h ht
  refine zk ?_
  exact⟨hl,m,v,i1,i4,k,i2,i3,.inl rfl⟩
 |negSucc k=>
  refine Gk fun zG zk=>?_
  obtain⟨hk,h⟩:=e5 h
  obtain⟨m,v,i1,i2,i3,i4⟩:=J1 h ht
  refine zk ?_
  exact⟨hl,m,v,i1,i4,_,i2,i3,.inr ⟨GY k,KO hk⟩⟩
theorem ix2{z:Int}(h:j<n)(e:z+n=j): -(n:Int)<=z:=Int.le_of_sub_nonneg (by rw[Int.sub_neg,e];exact bk j)
theorem ix1{z:Int}(h:j<n)(e:z=j\/(z<0/\z+n=j))(hl:(n:Int)<2^63): -(2^63)<=z/\z<2^63:=by
 rcases e with rfl|⟨e,e'⟩
 ·exact⟨fy (of_decide_eq_true rfl) (bk j),WG (jq.mpr h) hl⟩
 ·exact⟨fy (Int.neg_le_neg (Int.le_of_lt hl)) (ix2 h e'),WG e (of_decide_eq_true rfl)⟩
theorem ix3{z:Int}(h:j<n)(e:z=j\/(z<0/\z+n=j)):PySem.seqIndex? z n=some j:=by
 have hj:(if z<0 then z+n else z)=j:=e.elim (fun e=>(if_neg (qW.mpr (e▸bk j))).trans e) fun e=>(if_pos e.1).trans e.2
 show(if(decide (0<=(if z<0 then z+n else z))&&decide ((if z<0 then z+n else z)<n))=true then some (if z<0 then z+n else z).toNat else none)=some j
 rw[hj]
 exact if_pos (by rw[decide_eq_true (bk j),decide_eq_true (jq.mpr h)];rfl)
theorem LI{vs:List aj}{j:Nat}(h:vs[j]?=some v):vs.toArray[j]?=some v:=by rw[Bj];exact h
theorem I0{X:Ow}{nn:Nat}{xs:List MV}{z:Int}{t:Tok}{Q:MV->Prop}{K:aj->aw->Prop}(hn:∀o i,subscripted sl false o i=operate [o,i] (getItem o i))(R:Rel P f cx s.heap st g)(ho:Ob g a X (dq vs nn))(ht:e7 P g xs vs)(h:Cj xs z Q)
 (k:∀m v tk,Q m->Tr P g none m v->K v {s with toks:=tk}):Wp D A (fe value sl (.ref a) (.int z t)) K E s:=by
 obtain⟨hl,m,v,q1,q2,j,j1,j2,j3⟩:=JF ht h
 have hL:=cK R.toBs ho
 have hx:=ix1 j1 j3 (pQ hl)
 refine jK hL.typeIs sH (hn _ _) ?_
 rcases j3 with rfl|⟨j3,j4⟩
 ·exact wpAny_getItem_list hL (bk j) hx.2 (by rw[mB];exact LI j2) (k m v s.toks q1 q2)
 ·exact wpAny_getItem_list_neg hL j3 (by rw[(by rw[aM,ht.len]:vs.toArray.size=xs.length)];exact ix2 j1 j4) hx.1 (by rw[(by rw[aM,ht.len]:vs.toArray.size=xs.length),j4,mB];exact LI j2) (k m v s.toks q1 q2)
theorem HE{xs:List MV}{z:Int}{t:Tok}{Q:MV->Prop}{K:aj->aw->Prop}(R:Rel P f cx s.heap st g)(ho:Fz g a (nj vs))(ht:e7 P g xs vs)(h:Cj xs z Q)
 (k:∀m v tk,Q m->Tr P g none m v->K v {s with toks:=tk}):Wp D A (fe value (py nm x) (.ref a) (.int z t)) K E s:=by
 refine Gk fun zG zk=>?_
 obtain⟨hl,m,v,q1,q2,j,j1,j2,j3⟩:=JF ht h
 refine zk ?_
 exact jK (T:="tuple") ⟨_,((R.N _ ho.2).1),rfl⟩ e8.lookup (It (nm:=nm) (x:=x)) (PySem.P.getItem_tuple (k:=j) ((R.N _ ho.2).1) (ix1 j1 j3 (pQ hl)).1 (ix1 j1 j3 (pQ hl)).2 (by exact(by rw[aM,ht.len]:vs.toArray.size=xs.length)▸ix3 j1 j3) (LI j2) (k m v s.toks q1 q2))
theorem Ar{X:Ow}{es:List (Str×MV)}{ky:Str}{t:Tok}{K:aj->aw->Prop}(G:fL D P)(R:Rel P f cx s.heap st g)(ho:Ob g a X (dictOf k6 nn))(ht:nh P g a es k6)(xc:(es.map (·.1)).Nodup)(h:mM (cf es ky) W False)
 (k:∀m v tk,W m->Tr P g (some a) m v->K v {s with toks:=tk}):Wp D A (fe value (py nm x) (.ref a) (.str ky t)) K E s:=by
 refine Gk fun zG zk=>?_
 obtain⟨kvs,j1,j2,j3⟩:=ht.dictOf (D:=D) G.kh xc (R.N _ ho.2).1
 refine zk ?_
 refine jK j1.typeIs PySem.F.slot_dict_getitem.lookup (It (nm:=nm) (x:=x)) ?_
 rcases j2.get (k:=ky)with⟨m1,m2⟩|⟨m',v',m1,m2,m3⟩
 ·replace h:=m1▸h;exact h.elim
 ·rw[m1]at h
  exact wpAny_getItem_of (knd:=strKind D.prog D.w) (gA _ _ _ _) j1.mapOf m2 (k _ v' _ h m3)
theorem wX{own:Bool}{a i:MV}{u w:aj}{Q:MV->Prop}{K:aj->aw->Prop}(G:fL D P)(R:Rel P f cx s.heap st g)(ha:BV P g own a u)(hi:Tr P g none i w)(h: @bE (fun _=>Prop) (EE a i Q) (Ri a i Q) own)
 (k:∀m v tk,Q m->Tr P g none m v->K v {s with toks:=tk}):Wp D A (fe value (py nm x) u w) K E s:=by
 cases a with
 |lst xs=>
  have h:eU i fun z=>Cj xs z Q:=by induction own<;>exact h
  obtain⟨z,t,rfl,h⟩:=gT h hi
  obtain⟨la,X,vs,nn,rfl,ho,ht⟩:=ha
  exact I0 (fun _ _=>It) R ho ht h k
 |tup xs=>
  induction own with
  |true=>exact h.elim
  |false=>
   obtain⟨z,t,rfl,h⟩:=gT h hi
   obtain⟨la,vs,rfl,ho,ht⟩:=ha
   exact HE R ho ht h k
 |bI es=>
  obtain⟨la,X,k6,nn,rfl,ho,ht,xc,hX⟩:=ha
  induction own with
  |false=>
   obtain⟨ky,t,rfl,h⟩:=lK h hi
   exact Ar G R ho ht xc h fun m v tk q T=>k _ v tk q (Tr.fT (trD (hX rfl▸ho) ht xc) T)
  |true=>
   obtain⟨ky,t,rfl,h⟩:=lK h hi
   exact Ar (W:=fun v=>rx v Q) G R ho ht xc h fun m v tk q T=>(zD q).elim fun hq hk=>k _ v tk hq (Tr.Bx hk T)
 |_=>induction own<;>exact h.elim
theorem W7{x i:X}(G:fL D P)(hx:SE D P f A cl d x)(hi:SE D P f A cl d i):SE D P f A cl d (.sub x i p):=fun{cx J n E s g st Q K} C w R h k=>
 ub (hx.fz n (Q:=fun a st=>(cP cl d i).ev st fun _ i st=>EE a i fun m=>Q false m st) C (aP w) R h fun m eZ u g1 h1 t1 hq R1 K1 T1=>
  hi.fz n (s:={s with heap:=h1,toks:=t1}) (Q:=fun i st=>EE m i fun m=>Q false m st) C (aB w) R1 hq fun m2 mF v g2 h2 t2 hq R2 K2 T2=>
    wX (s:={s with heap:=h2,toks:=t2}) (own:=false) G R2 (.wK (T1.mono K2.toGLe)) T2 hq fun m v tk q T=>k q R2 (K1.trans K2 (ab _)) (VR.of T))
theorem qH(R:Rel P f cx h st g)(hb:gv st k=true):∃q v,cx.pl k=some q/\g.pv q=some v:=by
 have S:=R.sl k
 have hb:K0 st.loc[k]?=true:=hb
 generalize st.loc[k]?=sl at S hb
 induction sl with
 |none=>exact(aJ hb).elim
 |some sl=>
  induction sl with
  |un=>exact(aJ hb).elim
  |fz m=>obtain⟨q,a,h1,h2,_⟩:=S;exact⟨q,_,h1,h2⟩
  |own m=>obtain⟨q,a,h1,h2,_⟩:=S;exact⟨q,_,h1,h2⟩
theorem ry{k:Nat}{X1 Y1:MV->MV->St->Prop}{K:aj->aj->aw->Prop}(hx:SE D P f A cl d x)(C:eX f cx J)(w:wf x J=true)(hv:ug J k=true)(R:Rel P f cx s.heap st g)
 (h:gd (gv st k) ((cP cl d x).ev st fun _ i st=>AA st k (fun a=>X1 a i st) fun a=>Y1 a i st))
 (kk:∀o a i u w g' h' tk st',Rel P f cx h' st' g'->Kp n g g'->BV P g' o a u->Tr P g' none i w-> @bE (fun _=>Prop) (Y1 a i st') (X1 a i st') o->K u w {s with heap:=h',toks:=tk}):
 Wp D A (ei (iH J.nm k p) cx.env) (fun u s₁=>Wp D A (ei (py J.nm x) cx.env) (fun w s₂=>K u w s₂) E s₁) E s:=by
 refine Gk fun zG zk=>?_
 obtain⟨hb,h⟩:=km h
 obtain⟨q,v,h1,h2⟩:=qH R hb
 refine zk ?_
 refine fB C R hv (gF h1 h2) (hx.fz n (Q:=fun i st=>AA st k (fun a=>X1 a i st) fun a=>Y1 a i st) C w R h fun i eZ w g1 Y4 t1 hq R1 K1 T1=>?_)
 obtain⟨o,a,v',q',p1,p2,bv,hq⟩:=CL R1 hq
 rw[h1]at p1;obtain rfl:=ar p1
 rw[K1.pv q v h2]at p2
 obtain rfl:=ar p2
 exact kk o a i v w g1 Y4 t1 eZ R1 K1 bv T1 hq
theorem RC(G:fL D P)(hi:SE D P f A cl d i):SE D P f A cl d (.dP k i r p):=fun{cx J n E s g st Q K} C w R h kk=>
 ub (ry (n:=n) (X1:=fun a i st=>Ri a i fun m=>Q false m st) (Y1:=fun a i st=>EE a i fun m=>Q false m st) hi C (aP w) (aB w) R h fun o a i u w g1 h1 t1 eZ R1 K1 bv T1 hq=>
  wX (s:={s with heap:=h1,toks:=t1}) (own:=o) G R1 bv T1 hq fun m v tk q T=>kk q R1 K1 (VR.of T))
theorem rm(R:Rel P f cx h st g)(o₁ o₂:Obj)(X:Ow)(h1:o₁.isFreed=false:=by rfl)(h2:o₂.isFreed=false:=by rfl):
 Rel P f cx ((h.push o₁).push o₂) st ((g.push h.objs.size o₁ .fz).push (h.objs.size+1) o₂ X)/\Kp n g ((g.push h.objs.size o₁ .fz).push (h.objs.size+1) o₂ X)/\Le (fun _=>True) g ((g.push h.objs.size o₁ .fz).push (h.objs.size+1) o₂ X):=by
 have R₁:=de R o₁ .fz h1
 have R₂:=de R₁ o₂ X h2
 have L1:=cT (o:=o₁) (X:=.fz) (cJ R)
 have L2:=cT (o:=o₂) (X:=X) (cJ R₁)
 have e:(h.push o₁).objs.size=h.objs.size+1:=oU _ _
 rw[e]at R₂ L2
 have fC:=cJ R₁
 rw[e]at fC
 exact⟨R₂,(cU (cJ R)).trans (cU fC) (ab _),⟨fun a Z o' hZ h=>L2.ob _ _ _ hZ (L1.ob _ _ _ hZ h),fun i a e=>L2.ca i a (L1.ca i a e),fun a o e=>let ⟨o1,e1⟩:=L1.nw a o e;L2.nw a o1 e1⟩⟩
theorem GR(b n:Nat):jW none (some (b:Int)) 1 (n:Int)=(0,((min b n:Nat):Int)):=by
 unfold jW
 have h1:¬((1:Int)<0):=of_decide_eq_true rfl
 have h2:¬((b:Int)<0):=qW.mpr (bk b)
 simp only[h1,h2,if_false]
 congr 1
 omega
theorem E3(b:Nat):gq 0 (b:Int) 1=b:=by
 unfold gq
 rw[if_pos (by decide),WE]
 rcases Hh b with rfl|h
 ·rfl
 ·rw[if_pos (show(0:Int)<b from jq.mpr h),Int.ediv_one,Int.sub_add_cancel];rfl
theorem sW{sl:aZ}{b n:Nat}(hs:s.heap.IsSliceOf sl .none (.int b u) .none)(h:Q (0,1,min b n) s):
 Wp D A (qa (.ref sl) (pure (n:Int))) Q E s:=by
 obtain⟨os,JK,FM,Qg⟩:=id hs
 unfold qa WI
 refine au (au (nv JK Qg (x:=.none) rfl (au (nv JK Qg (x:=.int b u) rfl (au (nv JK Qg (x:=.none) rfl (aO ?_)))))))
 refine au (slicePart_none ?_)
 show wpAny _ _ (if((1:Int)==0)=true then _ else _) _ _ s
 rw[if_neg (by decide)]
 refine au (slicePart_none (au (slicePart_int (au (aO ?_)))))
 show wpAny _ _ (match jW none (some (b:Int)) 1 (n:Int)with|(lo,hi)=>pure (lo,(1:Int),gq lo hi 1)) _ _ s
 rw[GR b n]
 show wpAny _ _ (pure ((0:Int),(1:Int),gq 0 ((min b n:Nat):Int) 1)) _ _ s
 rw[E3]
 exact aO h
theorem Nk(xs:Array aj)(b:Nat):((jR b).filterMap fun(k:Nat)=>xs[((0:Int)+(k:Int)*1).toNat]?).toArray=(xs.toList.take b).toArray:=by
 have e:(fun(k:Nat)=>xs[((0:Int)+(k:Int)*1).toNat]?)=fun k=>xs[0+k]?:=by
  funext k
  have:((0:Int)+(k:Int)*1).toNat=0+k:=by rw[Int.mul_one,WD,bM];rfl
  exact this.symm▸rfl
 refine e.symm▸?_
 have:=pick_run xs 0 b
 rw[List.filterMap_map]at this
 have e2:((fun x=>xs[x]?)∘fun x=>0+x)=fun k=>xs[0+k]?:=rfl
 rw[e2]at this
 rw[this,Py]
theorem rI{t sl:aZ}{items:Array aj}{b:Nat}(ht:IsTup s.heap t items)(hs:s.heap.IsSliceOf sl .none (.int b u) .none)
 (h0:items.size<=b->Q (.ref t) s) (h:b<items.size->Q (.ref s.heap.objs.size) {s with heap:=s.heap.push {cls:=.type "tuple",data:=.seq (items.toList.take b).toArray}})
 (Wi:items.size<=sizeLine):Wp D A (getItem (.ref t) (.ref sl)) Q E s:=by
 have DV:sizeOk (.seq (items.toList.take b).toArray):=by
  show(items.toList.take b).toArray.size<=sizeLine
  rw[aM,LY,eK]
  exact aa (Mi _ _) (by assumption)
 obtain⟨os,JK,FM,Qg⟩:=id hs
 unfold getItem
 try with_reducible refine gP ?_
 first|refine au (aO ?_)|skip
 refine au (wpAny_sequenceKey ht.typeIs (by decide) ?_)
 refine au (GU (name:=af "__getitem__") ht.typeIs e8
  (xx e8 ht.typeIs PyProof.Rows.entry_tuple_getitem ?_ (PyProof.Rows.args_tuple_getitem _ _)))
 show wpAny _ _ (WH (.ref t)>>=_) _ _ s
 refine au (tupleItemsOf_ ht ?_)
 refine au (vI (⟨os,JK,FM⟩:s.TypeIs (.ref sl) "slice") ?_)
 rw[if_pos (by decide)]
 refine au (sW (n:=items.size) hs ?_)
 show wpAny _ _ (if((0:Int)==0&&(1:Int)==1&&(min b items.size)==items.size)=true then _ else _) _ _ s
 by_cases hb:items.size<=b
 ·rw[if_pos (by rw[Mj hb];simp)]
  refine au (m:=pZ (.ref t)) ?_
  unfold pZ
  refine au (vI ht.typeIs (aO ?_))
  rw[if_pos (by decide)]
  refine au (wpAny_rule (au (aO ?_)))
  exact aO ⟨_,rfl,aO (h0 hb)⟩
 ·have e:min b items.size=b:=vL (Nat.le_of_not_le hb)
  have hno:¬(((0:Int)==0&&(1:Int)==1&&(b==items.size))=true):=by
   have:(b==items.size)=false:=by rw[beq_eq_false_iff_ne];exact fun e=>hb (bu e.symm)
   rw[this];simp
  rw[e,if_neg hno,Nk items b]
  have h:=h (uc hb)
  first
   |exact au (m:=gC _) (jT (aO ⟨_,rfl,aO h⟩) DV)
   |exact au (m:=gC _) (jT (au (aO (aO ⟨_,rfl,aO h⟩))) DV)
   |exact au (au (m:=gC _) (jT (aO (aO ⟨_,rfl,aO h⟩)) DV))
   |exact au (au (m:=gC _) (jT (aO ⟨_,rfl,aO h⟩) DV))
theorem zM(h:e7 P g xs vs)(z:Int):slicePick vs.toArray (some z) none none=(vs.drop (clamp xs.length z)).toArray:=by
 rw[slicePick_plain,GV,GW,D5,aM,h.len]
 rw[nC (by simp[h.len])]
theorem zL(h:e7 P g xs vs)(z:Int):slicePick vs.toArray none (some z) none=(vs.take (clamp xs.length z)).toArray:=by
 rw[slicePick_plain,GV,GW,D5,aM,h.len]
 simp
theorem De{x:Str}{t:Tok}(hx:x.length<=1000)(h:∀t' k,Q (.str (sliceText x (l.map (·.1)) (u.map (·.1))) t') {s with toks:=k}):(sliceMade x t l u none).post Q s:=by
 have h':=h
 unfold sliceText at h
 unfold sliceMade slicePicked
 simp only[tl,Option.getD_none]
 split
 ·rename_i hc
  have:=h t s.toks
  rw[if_pos hc]at this
  exact this
 ·rename_i hc
  have:=h s.toks (s.toks+1)
  rw[if_neg hc]at this
  refine⟨?_,this⟩
  have hl:((cy.Str.strSliceIndices (l.map (·.1)) (u.map (·.1)) 1 x.length).filterMap (x.cps[·]?)).length<=x.length:=aa (yW _ _) (indices_len_le _ _ _)
  show(VU _).size<=sizeLine
  rw[aM,fg]
  exact aa hl (aa hx (of_decide_eq_true rfl))
theorem zc{lo:Option Expr}{p:Pos}{a i:MV}{u w:aj}{K:aj->aw->Prop}(R:Rel P f cx s.heap st g)(ha:BV P g own a u)(hi:Tr P g none i w)(h:ze a i fun b m=>Q b m st)(k:Kv P f cx n g s Q K):
 Wp D A (fe value (.Slice lo sl none p) u (.ref s.heap.objs.size)) K E {s with heap:=s.heap.push {cls:=.type "slice",data:=.fields #[w,.none,.none]}}:=by
 cases a with
 |lst xs=>
  refine Gk fun zG zk=>?_
  obtain⟨z,t,rfl,h⟩:=gT h hi
  obtain⟨hl,h⟩:=km h
  obtain⟨la,X,vs,nn,rfl,ho,ht⟩:=ha
  have hL:=cK R.toBs ho
  refine zk ?_
  refine jK (s:={s with heap:=s.heap.push {cls:=.type "slice",data:=.fields #[.int z t,.none,.none]}}) (hL.push _).typeIs sH rfl ?_
  refine Em (s:={s with heap:=s.heap.push {cls:=.type "slice",data:=.fields #[.int z t,.none,.none]}}) (hL.push _) (jF ..) (.int z t) .none .none (by simp) ?_ (by rw[aM,ht.len];exact aa (ae (aP hl)) lP)
  rw[zM ht]
  show K (.ref (s.heap.push _).objs.size) _
  rw[oU]
  refine Gk fun zG zk=>?_
  obtain⟨R2,K2,L2⟩:=rm (n:=n) R {cls:=.type "slice",data:=.fields #[.int z t,.none,.none]} (dq (vs.drop (clamp xs.length z)) 0) (.m8 n)
  refine zk ?_
  exact k (tk:=s.toks) h R2 K2 ⟨_,rfl,_,0,dk,(ht.drop _).mono (L2.gZ trivial)⟩
 |str y=>
  refine Gk fun zG zk=>?_
  obtain⟨z,t,rfl,h1⟩:=gT h hi
  obtain⟨hl,h2⟩:=e5 h1
  obtain⟨j,rfl,h3⟩:=nR h2
  obtain⟨hj,h⟩:=e5 h3
  obtain⟨t',rfl⟩:=ha
  refine zk ?_
  refine jK (T:="str") (s:={s with heap:=s.heap.push {cls:=.type "slice",data:=.fields #[.int j t,.none,.none]}}) (t9 _ _ _) vK.lookup rfl ?_
  refine GT (l:=some ((j:Int),t)) (u:=none) (st:=none) (s:={s with heap:=s.heap.push {cls:=.type "slice",data:=.fields #[.int j t,.none,.none]}}) ⟨_,fJ _ rfl,rfl,rfl⟩ rfl (De hl fun t' kt=>?_)
  refine k h (de R _ .fz) (cU (cJ R)) (VR.of ?_)
  simp only[ni,tl]
  rw[sliceText_from ⟨by omega,by exact bQ.mpr hj⟩,nC (by simp),mB]
  exact Ra
 |_=>exact h.elim
theorem HS{lo:Option Expr}{p:Pos}{a i:MV}{u w:aj}{K:aj->aw->Prop}(R:Rel P f cx s.heap st g)(ha:BV P g own a u)(hi:Tr P g none i w)(h:HT a i fun b m=>Q b m st)(k:Kv P f cx n g s Q K):
 Wp D A (fe value (.Slice lo sl none p) u (.ref s.heap.objs.size)) K E {s with heap:=s.heap.push {cls:=.type "slice",data:=.fields #[.none,w,.none]}}:=by
 cases a with
 |lst xs=>
  refine Gk fun zG zk=>?_
  obtain⟨z,t,rfl,h⟩:=gT h hi
  obtain⟨hl,h⟩:=km h
  obtain⟨la,X,vs,nn,rfl,ho,ht⟩:=ha
  have hL:=cK R.toBs ho
  refine zk ?_
  refine jK (s:={s with heap:=s.heap.push {cls:=.type "slice",data:=.fields #[.none,.int z t,.none]}}) (hL.push _).typeIs sH rfl ?_
  refine Em (s:={s with heap:=s.heap.push {cls:=.type "slice",data:=.fields #[.none,.int z t,.none]}}) (hL.push _) (jF ..) .none (.int z t) .none (by simp) ?_ (by rw[aM,ht.len];exact aa (ae (aP hl)) lP)
  rw[zL ht]
  show K (.ref (s.heap.push _).objs.size) _
  rw[oU]
  refine Gk fun zG zk=>?_
  obtain⟨R2,K2,L2⟩:=rm (n:=n) R {cls:=.type "slice",data:=.fields #[.none,.int z t,.none]} (dq (vs.take (clamp xs.length z)) 0) (.m8 n)
  refine zk ?_
  exact k (tk:=s.toks) h R2 K2 ⟨_,rfl,_,0,dk,(ht.take _).mono (L2.gZ trivial)⟩
 |tup xs=>
  refine Gk fun zG zk=>?_
  obtain⟨z,t,rfl,h1⟩:=gT h hi
  obtain⟨hl,h2⟩:=e5 h1
  obtain⟨b,rfl,h3⟩:=nR h2
  obtain⟨hj,h⟩:=e5 h3
  obtain⟨la,vs,rfl,ho,ht⟩:=ha
  have O:=(cT (o:={cls:=.type "slice",data:=.fields #[.none,.int b t,.none]}) (X:=.fz) (cJ R)).ob _ _ _ trivial ho
  have R1:=de R {cls:=.type "slice",data:=.fields #[.none,.int b t,.none]} .fz
  refine zk ?_
  refine jK (s:={s with heap:=s.heap.push {cls:=.type "slice",data:=.fields #[.none,.int b t,.none]}}) ⟨_,(R1.N _ O.2).1,rfl⟩ e8.lookup rfl ?_
  refine rI (s:={s with heap:=s.heap.push {cls:=.type "slice",data:=.fields #[.none,.int b t,.none]}}) (jA R1.toBs O) (jF ..) (fun hb=>?_) (fun hb=>?_) (by rw[aM,ht.len,fg];omega)
  ·have e:xs.take b=xs:=nC (by rw[aM,ht.len]at hb;exact hb)
   replace h:=e▸h
   exact k (tk:=s.toks) h R1 (cU (cJ R)) (VR.of (trT O (ht.mono ((cT (cJ R)).gZ trivial))))
  ·show K (.ref (s.heap.push _).objs.size) _
   rw[oU]
   refine Gk fun zG zk=>?_
   obtain⟨R2,K2,L2⟩:=rm (n:=n) R {cls:=.type "slice",data:=.fields #[.none,.int b t,.none]} (nj (vs.take b)) .fz
   refine zk ?_
   exact k (tk:=s.toks) h R2 K2 (VR.of (trT dk ((ht.take _).mono (L2.gZ trivial))))
 |str y=>
  refine Gk fun zG zk=>?_
  obtain⟨z,t,rfl,h1⟩:=gT h hi
  obtain⟨hl,h2⟩:=e5 h1
  obtain⟨j,rfl,h3⟩:=nR h2
  obtain⟨hj,h⟩:=e5 h3
  obtain⟨t',rfl⟩:=ha
  refine zk ?_
  refine jK (T:="str") (s:={s with heap:=s.heap.push {cls:=.type "slice",data:=.fields #[.none,.int j t,.none]}}) (t9 _ _ _) vK.lookup rfl ?_
  refine GT (l:=none) (u:=some ((j:Int),t)) (st:=none) (s:={s with heap:=s.heap.push {cls:=.type "slice",data:=.fields #[.none,.int j t,.none]}}) ⟨_,fJ _ rfl,rfl,rfl⟩ rfl (De hl fun t' kt=>?_)
  refine k h (de R _ .fz) (cU (cJ R)) (VR.of ?_)
  simp only[ni,tl]
  rw[sliceText_to ⟨by omega,by exact bQ.mpr hj⟩,Py,WE,mB]
  exact Ra
 |_=>exact h.elim
theorem W9(hx:SE D P f A cl d x)(hi:SE D P f A cl d i):SE D P f A cl d (.Rw x i r p):=fun{cx J n E s g st Q K} C w R h k=>
 ub (hx.fz n (Q:=fun a st=>(cP cl d i).ev st fun _ i st=>ze a i fun b m=>Q b m st) C (aP w) R h fun m eZ u g1 h1 t1 hq R1 K1 T1=>wpAny_Slice (by
  rw[tg]
  refine hi.fz n (s:={s with heap:=h1,toks:=t1}) (Q:=fun i st=>ze m i fun b m=>Q b m st) C (aB w) R1 hq fun m2 mF v g2 h2 t2 hq R2 K2 T2=>?_
  rw[ti]
  exact aO (aO (zc (s:={s with heap:=h2,toks:=t2}) (own:=false) R2 (.wK (T1.mono K2.toGLe)) T2 hq fun b m HO v g3 h3 t3 q R3 K3 V3=>k q R3 ((K1.trans K2 (ab _)).trans K3 (ab _)) V3))))
theorem RD{i:X}(hi:SE D P f A cl d i):SE D P f A cl d (.ur k i r t p):=fun{cx J n E s g st Q K} C w R h kk=>by
 refine ub (ed (ry (n:=n) (p:=r) (X1:=fun a i st=>ze a i fun b m=>Q b m st) (Y1:=fun a i st=>ze a i fun b m=>Q b m st) (K:=fun u w s₂=>Wp D A (fe (iH J.nm k r) (.Slice (some (py J.nm i)) none none t) u (.ref s₂.heap.objs.size)) K E {s₂ with heap:=s₂.heap.push {cls:=.type "slice",data:=.fields #[w,.none,.none]}})
  hi C (aP w) (aB w) R h fun o a i u w g1 h1 t1 eZ R1 K1 bv T1 hq=>zc (s:={s with heap:=h1,toks:=t1}) R1 bv T1 (by induction o<;>exact hq) fun b m HO v g3 h3 t3 q R3 K3 V3=>kk q R3 (K1.trans K3 (ab _)) V3) (fun u s₁ z=>wpAny_Slice ?_) fun _ _ e=>e)
 rw[tg]
 refine ed z (fun w s₂ z=>?_) fun _ _ e=>e
 rw[ti]
 exact aO (aO z)
theorem RE{i:X}(hi:SE D P f A cl d i):SE D P f A cl d (.sX k i r t p):=fun{cx J n E s g st Q K} C w R h kk=>by
 refine ub (ed (ry (n:=n) (p:=r) (X1:=fun a i st=>HT a i fun b m=>Q b m st) (Y1:=fun a i st=>HT a i fun b m=>Q b m st) (K:=fun u w s₂=>Wp D A (fe (iH J.nm k r) (.Slice none (some (py J.nm i)) none t) u (.ref s₂.heap.objs.size)) K E {s₂ with heap:=s₂.heap.push {cls:=.type "slice",data:=.fields #[.none,w,.none]}})
  hi C (aP w) (aB w) R h fun o a i u w g1 h1 t1 eZ R1 K1 bv T1 hq=>HS (s:={s with heap:=h1,toks:=t1}) R1 bv T1 (by induction o<;>exact hq) fun b m HO v g3 h3 t3 q R3 K3 V3=>kk q R3 (K1.trans K3 (ab _)) V3) (fun u s₁ z=>wpAny_Slice ?_) fun _ _ e=>e)
 rw[ti]
 refine aO ?_
 rw[tg]
 refine ed z (fun w s₂ z=>?_) fun _ _ e=>e
 exact aO z
end
end Mine
namespace Mine
open PySem PySem.W PySem.Calls PyProof.Rows PyProof.Rows.LCg
section
variable{D:dh}{P:ck}{f:Fm}{cx:Cx}{J:Cn}{A:b9}{E:aj->aw->Prop}{s:aw}{st st':St}{g g':Gh}{n d:Nat}{cl:lq}
noncomputable def za(n:String):Bool:=["enumerate","zip","dict_itemiterator","dict_reverseitemiterator","odict_iterator","itertools.zip_longest","itertools.pairwise"].contains n
noncomputable def M8(k:Nat):List MV:=(jR k).map fun(i:Nat)=>MV.int (i:Int)
noncomputable def Jn(es:List (Str×MV)):List MV:=es.map fun p=>MV.str p.1
inductive Src(D:dh)(P:ck)(g:Gh):List MV->aj->Prop
 |lst(ms:List MV)(a:aZ)(vs:List aj)(nn:Nat)(o:Fz g a (dq vs nn))(t:e7 P g ms vs):Src D P g ms (.ref a)
 |tup(ms:List MV)(a:aZ)(vs:List aj)(o:Fz g a (nj vs))(t:e7 P g ms vs):Src D P g ms (.ref a)
 |bI(a:aZ)(k6:List cw)(nn:Nat)(es:List (Str×MV))(o:Fz g a (y4 k6 nn))(t:nh P g a es k6)(nd:(es.map (·.1)).Nodup):Src D P g (Jn es) (.ref a)
 |rng(a:aZ)(k:Nat)(t u v:Tok)(hk:k<=b8)(o:Fz g a {cls:=.type "range",data:=.fields #[.int 0 t,.int k u,.int 1 v]}):Src D P g (M8 k) (.ref a)
 |rev(xs:List MV)(I a:aZ)(vs:List aj)(nn:Nat)(o:Fz g a (dq vs nn))(i:Ob g I .rest (revObj a ((vs.length:Int)-1)))(t:e7 P g xs vs):Src D P g xs.reverse (.ref I)
structure Wk(D:dh)(A:b9)(P:ck)(g:Gh)(ms:List MV)(I:aZ)(fp:List aZ)(S:Nat->eO->Prop):Prop where
 W:Walks D.prog D.w A I fp [I] ms.length (fun i v=>∃m,ms[i]?=some m/\Tr P g none m v) S
 fp:∀b∈fp,b≠I->∃o,Fz g b o
 obj:∀i h,S i h->∃o nm,h.get? I=some o/\o.cls=.type nm/\za nm=false
theorem Wk.mono(h:GLe g g'){fp:List aZ}(w:Wk D A P g ms I fp S):Wk D A P g' ms I fp S where
 W:={sub:=w.W.sub,frame:=w.W.frame,done:=w.W.done,self:=w.W.self,item:=fun i s Q E hi hs hQ=>w.W.item i s Q E hi hs fun v h' tk hP hS hk=>hQ v h' tk (let ⟨m,e,t⟩:=hP;⟨m,e,t.mono h⟩) hS hk}
 fp:=fun b hb eM=>let ⟨o,ho⟩:=w.fp b hb eM;⟨o,h.fz b o ho⟩
 obj:=w.obj
theorem qe(W:Walks prog w A I fp [I] k P₁ S)(h:∀i v,i<k->P₁ i v->P₂ i v)(e:k=k'):Walks prog w A I fp [I] k' P₂ S:=
 e▸{sub:=W.sub,frame:=W.frame,done:=W.done,self:=W.self,item:=fun i s Q E hi hs hQ=>W.item i s Q E hi hs fun v h' tk hP hS hk=>hQ v h' tk (h _ _ hi hP) hS hk}
theorem Ul{vs:List aj}{j:Nat}(h:vs.toArray[j]?=some v):vs[j]?=some v:=(Bj ..).symm.trans h
theorem e7.at':∀{xs:List MV}{vs:List aj}{j:Nat}{v:aj},e7 P g xs vs->vs[j]?=some v->∃x,xs[j]?=some x/\Tr P g none x v:=by
 intro xs
 induction xs with
 |nil=>intro vs j v h e;cases(show vs=[]from h);exact(ay _ (cN e)).elim
 |cons x xs cz=>
  intro vs j v h e
  obtain⟨v,r,rfl,h1,h2⟩:=h.inv
  induction j with
  |zero=>obtain rfl:=ar e;exact⟨x,rfl,h1⟩
  |succ j=>exact cz (j:=j) h2 e
noncomputable def Ki(D:dh)(P:ck)(f:Fm)(cx:Cx)(n:Nat)(g:Gh)(s:aw)(Q:List MV->St->Prop)(K:aj->aw->Prop):Prop:=
 ∀⦃ms st' v g' h' tk⦄,Q ms st'->Rel P f cx h' st' g'->Kp n g g'->Src D P g' ms v->(∀I,v=.ref I->g'.ow I=some .rest->∀p∈g.nw,p.1≠I)->K v {s with heap:=h',toks:=tk}
theorem yl(h:Fz g a o){g₀:Gh}:∀I,fj a=.ref I->g.ow I=some .rest->∀p∈g₀.nw,p.1≠I:=fun I e ho=>by
 cases e;exact nomatch h.1.symm.trans ho
theorem YD{g₀:Gh}{Q:List MV->St->Prop}{K:aj->aw->Prop}(T:Tr P g none m v)(h:P7 .of m fun xs=>Q xs st)(k:∀ms,Q ms st->Src D P g ms v->(∀I,v=.ref I->g.ow I=some .rest->∀p∈g₀.nw,p.1≠I)->K v s):K v s:=by
 cases m with
 |lst xs=>
  obtain⟨a,vs,nn,rfl,o,t⟩:=T
  exact k _ h (.lst _ a vs nn o t) (yl o)
 |tup xs=>
  obtain⟨a,vs,rfl,o,t⟩:=T
  exact k _ h (.tup _ a vs o t) (yl o)
 |bI es=>
  obtain⟨a,k6,nn,rfl,o,t,nd⟩:=T
  exact k _ h (.bI a k6 nn es o t nd) (yl o)
 |_=>exact h.elim
theorem HP{K:aj->aw->Prop}(G:fL D P)(M:cY D f A d)(C:eX f cx J)(R:Rel P f cx s.heap st g)(hx:SE D P f A cl d x)(w:wf x J=true)(wi:itG J ik=true)
 (h:(cP cl d x).ev st fun _ m st=>P7 ik m fun xs=>Q xs st) (k:Ki D P f cx n g s Q K):Wp D A (ei (FD ik (py J.nm x)) cx.env) K E s:=by
 induction ik with
 |of=>exact hx.fz n (Q:=fun m st=>P7 .of m fun xs=>Q xs st) C w R h fun m eZ v g1 h1 t1 hq R1 K1 T1=>YD (s:={s with heap:=h1,toks:=t1}) T1 hq fun ms q S e=>k q R1 K1 S e
 |range p q=>
  refine Call_ (xm (i:=11) G M C R (by decide) wi (rP (first:=[]) (biB 11 (by decide)) gR (hx.fz n (Q:=fun m st=>P7 (.range p q) m fun xs=>Q xs st) C w R h fun m eZ v g1 h1 t1 hq R1 K1 T1=>?_)))
  obtain⟨z,t,rfl,hq⟩:=gT hq T1
  obtain⟨j,rfl,hq⟩:=nR hq
  obtain⟨hl,hq⟩:=e5 hq
  have O:=dk (g:=g1) (a:=h1.objs.size) (X:=.fz) (o:={cls:=.type "range",data:=.fields #[.int 0 t1,.int j t,.int 1 (t1+1)]})
  exact call_range_1 (k (g':=g1.push h1.objs.size _ .fz) hq (de R1 _ .fz) (K1.trans (cU (cJ R1)) (ab _)) (.rng _ j _ _ _ hl O) (yl O))
 |rev p q=>
  refine Call_ (xm (i:=12) G M C R (by decide) wi (rP (first:=[]) (biB 12 (by decide)) gR (hx.fz n (Q:=fun m st=>P7 (.rev p q) m fun xs=>Q xs st) C w R h fun m eZ v g1 h1 t1 hq R1 K1 T1=>?_)))
  obtain⟨xs,a,vs,nn,rfl,o,t,hq⟩:=uR hq T1
  have L:=cT (o:=revObj a ((vs.length:Int)-1)) (X:=.rest) (cJ R1)
  exact call_reversed_list (cK R1.toBs o) (k (tk:=t1) hq (de R1 (revObj a ((vs.length:Int)-1)) .rest) (K1.trans (cU (cJ R1)) (ab _)) (.rev xs _ a vs nn (L.ob _ _ _ trivial o) dk (t.mono (L.gZ trivial))) fun I e _ p hp=>by
   cases e
   obtain⟨o',oQ⟩:=K1.zz p.1 p.2 hp
   exact bO (cJ R1 (p.1,o') oQ))
noncomputable def Kw(D:dh)(A:b9)(P:ck)(f:Fm)(cx:Cx)(n:Nat)(g:Gh)(s:aw)(st:St)(ms:List MV)(x:aj)(K:aj->aw->Prop):Prop:=
 ∀⦃I fp S g' h' tk oI⦄,Rel P f cx h' st g'->Kp n g g'->Ob g' I .rest oI->(∀p∈g.nw,p.1=I->x=.ref I/\g.ow I=some .rest)->Wk D A P g' ms I fp S->S 0 h'->K (.ref I) {s with heap:=h',toks:=tk}
theorem oB{K:aj->aw->Prop}(k:Kw D A P f cx n g s st ms x K)(R:Rel P f cx s.heap st g)(ho:o.isFreed=false)(W:Wk D A P (g.push s.heap.objs.size o .rest) ms s.heap.objs.size fp S)(h0:S 0 (s.heap.push o)):
 K (.ref s.heap.objs.size) {s with heap:=s.heap.push o}:=
 k (tk:=s.toks) (de R o .rest ho) (cU (cJ R)) dk (fun p hp e=>absurd e (bO (cJ R p hp))) W h0
theorem TN{j:Nat}(hk:(es.map (·.1))[j]?=some k)(hv:(strKind D.prog D.w).is k v=true):∃m,(Jn es)[j]?=some m/\Tr P g none m v:=by
 obtain⟨t,rfl⟩:=pe hv
 refine⟨.str k,?_,Ra⟩
 unfold Jn
 rw[jg]at hk⊢
 induction h:es[j]? with
 |none=>rw[h]at hk;exact(ay _ (cN hk)).elim
 |some p=>rw[h]at hk;obtain rfl:=ar hk;rfl
theorem fp2{X:Ow}(h:Ob g a X o)(hX:X=.fz):∀b∈[I,a],b≠I->∃o,Fz g b o:=fun b hb eM=>by
 rcases aA.mp hb with rfl|hb
 ·exact absurd rfl eM
 ·cases bj.mp hb;subst hX;exact⟨o,h⟩
theorem rsz(k:Nat):rV 0 k 1=k:=by
 unfold rV
 simp only[show(1:Int)>0 by decide,if_true]
 split<;>lia
theorem rsm(hk:k<=b8):vB 0 k 1=true:=by
 have JP:∀z:Int,0<=z->z<=b8->pU z=true:=fun z h0 h1=>by
  unfold pU
  unfold b8 at h1
  rw[fN,decide_eq_true_eq,decide_eq_true_eq]
  exact⟨fy (of_decide_eq_true rfl) h0,Hn h1 (of_decide_eq_true rfl)⟩
 unfold vB
 rw[rsz]
 simp[(JP k (by lia) (by lia)),(JP 0 (by lia) (by unfold b8;lia)),(JP 1 (by lia) (by unfold b8;lia))]
theorem QY{I a:aZ}{vs:List aj}(M:cY D f A d)(eM:a≠I)(o:Fz g a (dq vs nn))(t:e7 P g ms vs):Wk D A P g ms I [I,a] (fun i h=>h.IsListIter I a i/\h.IsList a vs.toArray):=
 ⟨qe (Walks.list M.hh _ a eM vs.toArray) (fun i v _ hv=>t.at' (Ul hv)) (by rw[aM,t.len]),fp2 o rfl,fun i h hS=>let ⟨oI,h1,h2,h3⟩:=hS.1;⟨oI,_,h1,h2,by decide⟩⟩
theorem QV{ms:List MV}{I a:aZ}(M:cY D f A d)(eM:a≠I)(o:Fz g a (nj vs))(t:e7 P g ms vs):Wk D A P g ms I [I,a] (fun i h=>h.IsTupleIter I a i/\h.IsTuple a vs.toArray):=
 ⟨qe (Walks.tuple M.hh _ a eM vs.toArray) (fun i v _ hv=>t.at' (Ul hv)) (by exact aM.symm▸t.len.symm▸rfl),fp2 o rfl,fun i h hS=>let ⟨oI,h1,h2,h3⟩:=hS.1;⟨oI,_,h1,h2,by decide⟩⟩
theorem QW(M:cY D f A d):Wk D A P g (M8 k) I [I] (fun i h=>IsRangeIter h I (0+(i:Nat)*1) ((k:Int)-(i:Nat)) 1):=
 ⟨qe (Walks.range M.hh _ 0 1 k) (fun i v hi hv=>by
   obtain⟨t,rfl⟩:=hv
   refine⟨.int i,?_,?_⟩
   ·unfold M8;rw[jg,List.getElem?_range hi];rfl
   ·rw[show(0:Int)+(i:Int)*1=i by lia];exact BB) (by unfold M8;rw[aI,List.length_range]),
  fun b hb eM=>absurd (bj.mp hb) eM,fun i h hS=>⟨_,_,hS,rfl,by decide⟩⟩
theorem QX{I a:aZ}{vs:List aj}(M:cY D f A d)(eM:a≠I)(o:Fz g a (dq vs nn))(t:e7 P g xs vs):Wk D A P g xs.reverse I [I,a] (fun i h=>i<=vs.toArray.size/\h.IsRevIter I a ((vs.toArray.size:Int)-1-(i:Int))/\h.IsList a vs.toArray):=
 ⟨qe (Walks.listRev M.hh I a eM vs.toArray) (fun i v hi hv=>by
   obtain⟨x,e1,e2⟩:=t.at' (Ul hv)
   refine⟨x,?_,e2⟩
   rw[List.getElem?_reverse (t.len▸(hi:i<vs.length))]
   exact(congrArg (fun j=>xs[j-1-i]?) t.len.symm).trans e1) (by rw[aM,t.len,ib]),
  fp2 o rfl,fun i h hS=>let ⟨oI,h1,h2,h3⟩:=hS.2.1;⟨oI,_,h1,h2,by decide⟩⟩
theorem DP{ms:List MV}{K:aj->aw->Prop}(G:fL D P)(M:cY D f A d)(R:Rel P f cx s.heap st g)(hx:Src D P g ms x)(k:Kw D A P f cx n g s st ms x K):Wp D A (pyIter x) K E s:=by
 have fC:=cJ R
 have L:∀{o X},Le (fun _=>True) g (g.push s.heap.objs.size o X):=cT fC
 induction hx with
 |lst _ a vs nn o t=>
  exact wpAny_pyIter_list (cK R.toBs o) (oB k R rfl (QY M (bO (fC _ o.2)) (L.ob _ _ _ trivial o) (t.mono (L.gZ trivial))) ⟨⟨_,fJ _ rfl,rfl,rfl⟩,(cK R.toBs o).push _⟩)
 |tup _ a vs o t=>
  have hl:=jA R.toBs o
  exact wpAny_pyIter_tuple hl (oB k R rfl (QV M (bO (fC _ o.2)) (L.ob _ _ _ trivial o) (t.mono (L.gZ trivial))) ⟨⟨_,fJ _ rfl,rfl,rfl⟩,hl.at fun o e=>nD _ e⟩)
 |bI a k6 nn es o t nd=>
  obtain⟨kvs,j1,j2,j3⟩:=t.dictOf (D:=D) G.kh nd (R.N _ o.2).1
  obtain⟨o',UL,ep,Wm⟩:=j1
  have Zd:s.heap.DictAt (strKind D.prog D.w) a kvs ep:=⟨o',UL,Wm⟩
  refine wpAny_pyIter_dict (rA R.toBs o) Zd (oB k R (fp:=[s.heap.objs.size,a]) (S:=fun i h=>h.IsKeyIter s.heap.objs.size a i kvs.length ep/\h.DictAt (strKind D.prog D.w) a kvs ep) rfl ⟨?_,?_,?_⟩ ⟨⟨_,fJ _ rfl,rfl,rfl⟩,Zd.push _⟩)
  ·refine qe (Walks.dictKeys M.hh _ a (bO (fC _ o.2)) kvs ep) (fun i v _ hv=>?_) (by have:=congrArg ud j3;rw[aI,aI]at this;unfold Jn;rw[aI];exact this:kvs.length=(Jn es).length)
   obtain⟨k,x,h1,h2⟩:=hv
   exact TN (D:=D) (k:=k) (by refine j3▸(jg).symm▸h1.symm▸?_;rfl) h2
  ·exact fp2 (L.ob _ _ _ trivial o) rfl
  ·exact fun i h hS=>let ⟨oI,h1,h2,h3⟩:=hS.1;⟨oI,_,h1,h2,by decide⟩
 |rng a j t u v hk o=>
  refine wpAny_pyIter_range (R.N _ o.2).1 (rsm hk) ?_
  rw[rsz]
  exact oB k R rfl (QW M) (fJ s.heap rfl)
 |rev xs I a vs nn o i t=>
  exact wpAny_pyIter_revIter (l:=a) (i:=(vs.length:Int)-1) ⟨_,((R.N _ i.2).1),rfl,rfl⟩ (k (tk:=s.toks) R .refl i (fun p hp e=>⟨rfl,i.1⟩) (QX M (fun e=>by subst e;exact nomatch o.1.symm.trans i.1:a≠I) o t) ⟨bC _,⟨_,((R.N _ i.2).1),rfl,by simp[revObj]⟩,cK R.toBs o⟩)
end
end Mine
namespace Mine
open PySem PySem.W PySem.Calls PyProof.Rows PyProof.Rows.LCg
open Classical in
noncomputable def Gh.bind(g:Gh)(q:Pl)(v:aj):Gh:={g with pv:=fun r=>if r=q then some v else g.pv r}
noncomputable def rQ(f:Fm)(cx:Cx)(x:Str)(k:Nat):Prop:=Res f cx x k/\(cx.ro=false\/cx.env.kindOf x=some .local)
section
variable{D:dh}{P:ck}{f:Fm}{cx:Cx}{J:Cn}{A:b9}{E:aj->aw->Prop}{s:aw}{st st':St}{g g' vF:Gh}{n d:Nat}{cl:lq}
theorem oG{q:Pl}:(g.bind q v).pv q=some v:=if_pos rfl
theorem gO{q r:Pl}(h:r≠q):(g.bind q v).pv r=g.pv r:=if_neg h
theorem yF{q:Pl}:Le (fun _=>True) g (g.bind q v):=⟨fun _ _ _ _ h=>h,fun _ _ h=>h,fun _ o h=>⟨o,h⟩⟩
theorem Le.kq(L:Le S g g')(hS:S .fz)(hr:S .rest)(ht:∀j,j<n->S (.m8 j)):Kq n g g':=⟨L.gZ hS,fun a o e=>L.ob a _ o hr e,fun j a o hj e=>L.ob a _ o (ht j hj) e,L.nw⟩
structure QP(cx:Cx)(ks:List Nat)(g g':Gh):Prop where
 kq:∀n,Kq n g g'
 pv:∀q,(∀k∈ks,cx.pl k≠some q)->g'.pv q=g.pv q
theorem QP.trans(h:QP cx ks g g')(h':QP cx ks' g' vF)(h1:∀k∈ks,k∈Yy)(h2:∀k∈ks',k∈Yy):QP cx Yy g vF:=
 ⟨fun n=>(h.kq n).trans (h'.kq n) (ab _),fun q hq=>(h'.pv q fun k hk=>hq k (h2 k hk)).trans (h.pv q fun k hk=>hq k (h1 k hk))⟩
theorem QP.nil:QP cx [] g g:=⟨fun _=>.refl,fun _ _=>rfl⟩
noncomputable def C0(P:ck)(g:Gh)(k:Nat)(sl:Slot)(v:aj):Prop:=(∃m,sl=.fz m/\Tr P g none m v)\/∃m a,sl=.own m/\v=.ref a/\my P g a (.slot k) m
noncomputable def vH(X:Ow):Prop:=X≠ .py/\X≠ .cd
theorem vH.fz:vH .fz:=⟨nofun,nofun⟩
theorem vH.rest:vH .rest:=⟨nofun,nofun⟩
theorem vH.m8:vH (.m8 j):=⟨nofun,nofun⟩
theorem vH.slot:vH (.slot j):=⟨nofun,nofun⟩
theorem C0.slot{q:Pl}(h:C0 P g k sl v)(L:Le vH g g')(hq:g'.pv q=some v):lH P g' (some q) k (some sl):=by
 rcases h with⟨m,rfl,t⟩|⟨m,a,rfl,rfl,o⟩
 ·exact⟨q,v,rfl,hq,t.mono (L.gZ .fz)⟩
 ·exact⟨q,a,rfl,hq,o.mono L .fz .slot⟩
theorem HR{q:Pl}(h:C0 P g k sl v)(L:Le vH g g')(hp:cx.pl k=some q)(hq:g'.pv q=some v):lH P g' (cx.pl k) k (st.put k sl).loc[k]?:=by
 rw[hp]
 rcases k8 k st.loc.length with hk|hk
 ·have:(st.put k sl).loc[k]?=some sl:=cq hk
  rw[this];exact h.slot L hq
 ·have:(st.put k sl).loc[k]?=none:=oh (by rw[show(st.put k sl).loc=st.loc.set k sl from rfl,nI];exact hk)
  rw[this];trivial
theorem rh{q:Pl}(C:eX f cx J)(R:Rel P f cx h st g)(hv:C0 P g k sl v)(L:Le vH g g')(hp:cx.pl k=some q)(hq:g'.pv q=some v)(hpv:∀r,r≠q->g'.pv r=g.pv r)(i:Nat):lH P g' (cx.pl i) i (st.put k sl).loc[i]?:=by
 rcases Nat.decEq i k with hi|rfl
 ·rw[mI i hi]
  exact(R.sl i).mono L .fz .slot fun r hr=>hpv r fun e=>hi (C.inj i k r hr (e▸hp))
 ·exact HR hv L hp hq
open Classical in
theorem K5:(fun y=>(g.bind (.loc x) v).pv (.loc y))=fun y=>if y=x then some v else g.pv (.loc y):=by
 funext y
 show(if Pl.loc y=Pl.loc x then some v else g.pv (.loc y))=_
 by_cases e:y=x
 ·subst e;rw[if_pos rfl,if_pos rfl]
 ·rw[if_neg e,if_neg (fun h=>e (by cases h;rfl))]
open Classical in
theorem K9:(fun y=>(g.bind (.cmp C x) v).pv (.cmp C y))=fun y=>if y=x then some v else g.pv (.cmp C y):=by
 funext y
 show(if Pl.cmp C y=Pl.cmp C x then some v else g.pv (.cmp C y))=_
 by_cases e:y=x
 ·subst e;rw[if_pos rfl,if_pos rfl]
 ·rw[if_neg e,if_neg (fun h=>e (by cases h;rfl))]
theorem aby{v:aj}:(g.bind (.loc x) v).pv (.so c)=g.pv (.so c):=gO nofun
theorem aad{C:aZ}:(g.bind (.loc x) v).pv (.cmp C y)=g.pv (.cmp C y):=gO nofun
theorem abx{v:aj}:(g.bind (.cmp C' x) v).pv (.so c)=g.pv (.so c):=gO nofun
theorem abw{x:Str}:(fun y=>(g.bind (.cmp C' x) v).pv (.loc y))=fun y=>g.pv (.loc y):=funext fun y=>gO nofun
theorem abz{c:aZ}:(fun y=>(g.bind (.so c) v).pv (.loc y))=fun y=>g.pv (.loc y):=funext fun y=>gO nofun
theorem aaf{C:aZ}:(g.bind (.so c) v).pv (.cmp C y)=g.pv (.cmp C y):=gO nofun
theorem Bs.bind{mu:List MC}(B:Bs P f h mu g){q:Pl}:Bs P f h mu (g.bind q v):=⟨B.N,B.ow,B.len,B.lo,fun i c e=>(B.mu i c e).mono yF trivial fun _=>trivial⟩
theorem vH.SD(L:Le (fun _=>True) g g'):Le vH g g':=⟨fun a X o _ h=>L.ob a X o trivial h,L.ca,L.nw⟩
theorem mS{X:Ow}{q:Pl}(hX:g.ow C=some X)(hn:∀Y,vH Y->Y≠X):Le vH g ((g.set C o').bind q v):=
 ⟨fun a Y o hY h=>yF.ob a Y o trivial ((cH hX).ob a Y o (hn Y hY) h),fun _ _ e=>e,(cH (o':=o') hX).nw⟩
noncomputable def Ka(P:ck)(f:Fm)(cx:Cx)(ks:List Nat)(g:Gh)(s:aw)(st':St)(Q:Unit->aw->Prop):Prop:=
 ∀⦃g' h' tk⦄,Rel P f cx h' st' g'->QP cx ks g g'->Q () {s with heap:=h',toks:=tk}
theorem Vv{q:Pl}(L:Le vH g (vF.bind q v))(e:vF.pv=g.pv)(hp:cx.pl k=some q):QP cx [k] g (vF.bind q v):=
 ⟨fun n=>L.kq .fz .rest fun _ _=>.m8,fun r hr=>(gO fun e=>hr k (.head _) (hp.trans (congrArg some e.symm))).trans (congrFun e r)⟩
theorem lW(C:eX f cx J)(R:Rel P f cx s.heap st g)(hr:rQ f cx x k)(hv:C0 P g k sl v)(hQ:Ka P f cx [k] g s (st.put k sl) Q):Wp D A (storeName cx.env x v) Q E s:=by
 have Oj:(cx.env.scope.kind==.class||(cx.env.scope.kind==.module&&cx.env.locals !=cx.env.globals))=false:=by exact C.kind▸rfl
 obtain⟨⟨_,hr⟩,hw⟩:=hr
 rcases hr with⟨hk,⟨hl,hp⟩|⟨hc,hp⟩⟩|⟨hk,c,hc,hp,hm⟩
 ·refine wpAny_storeName_local hk (m:=fun y=>g.pv (.loc y)) (by exact hl.symm▸R.F.ns) (fun h' hn hs=>?_) Oj
  rw[hl]at hn hs
  have L:Le vH g (g.bind (.loc x) v):=vH.SD yF
  refine hQ (g':=g.bind (.loc x) v) (h':=h') ⟨⟨fun p hp'=>⟨(hs.2 _ (R.N p hp').2.1).trans (R.N p hp').1,(R.N p hp').2⟩,R.ow,R.len,R.lo,(Bs.bind R.toBs).mu⟩,?_,fun c hc=>?_,fun Cc hC=>?_,rh C R hv L hp oG fun r hr=>gO hr,fun Cc y w e=>?_⟩ (Vv L rfl hp)
  ·refine R.F.set ?_ hs
   rw[K5];exact hn
  ·obtain⟨o,h1,h2⟩:=R.gi c hc
   exact⟨o,h1,h2.trans (congrArg tw aby.symm)⟩
  ·obtain⟨o,h1,h2⟩:=R.cds Cc hC
   exact⟨o,h1,by rw[show(fun y=>(g.bind (.loc x) v).pv (.cmp Cc y))=_ from funext fun y=>aad];exact h2⟩
  ·exact R.gY Cc y w (aad.symm.trans e)
 ·obtain⟨o,h1,h2⟩:=R.cds _ hc
  refine wpAny_storeName_local hk (PQ R hc) (fun h' hn hs=>?_) Oj
  obtain⟨o',oQ,abd⟩:=ns_obj hn
  refine hQ (g':=(g.set cx.env.locals o').bind (.cmp cx.env.locals x) v) (h':=h') ⟨(Bs.set R.toBs h1 (News.upd R.N h1.2 hs oQ) rfl fun i c e=>lI.mono (cH (o':=o') h1.1) (by simp) (fun j=>by simp) (R.mu i c e)).bind,by rw[abw];exact pK R.F R.N h1.2 hs,fun c hcm=>?_,fun Cc hC=>?_,rh C R hv (mS h1.1 fun Y hY=>hY.2:Le vH g ((g.set cx.env.locals o').bind (.cmp cx.env.locals x) v)) hp oG fun r hr=>gO hr,fun Cc y w e=>?_⟩ (Vv (mS h1.1 fun Y hY=>hY.2:Le vH g ((g.set cx.env.locals o').bind (.cmp cx.env.locals x) v)) rfl hp)
  ·obtain⟨oc,q1,q2⟩:=R.gi c hcm
   exact⟨oc,(cH (o':=o') h1.1).ob _ _ _ Cx.UU q1,q2.trans (congrArg tw abx.symm)⟩
  ·by_cases e:Cc=cx.env.locals
   ·subst e
    refine⟨o',gD h1,?_⟩
    have:(fun y=>((g.set cx.env.locals o').bind (.cmp cx.env.locals x) v).pv (.cmp cx.env.locals y))=fun y=>if y=x then some v else g.pv (.cmp cx.env.locals y):=K9
    rw[this];exact abd
   ·obtain⟨oc,q1,q2⟩:=R.cds Cc hC
    refine⟨oc,⟨q1.1,fP q1.2 e⟩,?_⟩
    have:(fun y=>((g.set cx.env.locals o').bind (.cmp cx.env.locals x) v).pv (.cmp Cc y))=fun y=>g.pv (.cmp Cc y):=by
     funext y
     exact gO fun h=>e (by cases h;rfl)
    rw[this];exact q2
  ·by_cases hC:Pl.cmp Cc y=Pl.cmp cx.env.locals x
   ·cases hC;exact⟨o',ju h1.2⟩
   ·rw[gO hC]at e
    exact n4 R.gY Cc y w e
 ·have Y8:cx.vG=.py:=by
   unfold Cx.vG
   rcases hw with e|e
   ·exact e▸rfl
   ·rcases hk with hk|hk
    ·cases hk.symm.trans e
    ·cases hk.symm.trans e
  obtain⟨o,h1,h2⟩:=R.gi c hm
  replace h1:=Y8▸h1
  have key:∀h' tk,h'.IsCell c (some v)->jh c s.heap h'->Q () {s with heap:=h',toks:=tk}:=by
   intro h' tk hn hs
   obtain⟨o',oQ,hd⟩:=hn
   refine hQ (g':=(g.set c o').bind (.so c) v) (h':=h') ⟨(Bs.set R.toBs h1 (News.upd R.N h1.2 hs oQ) rfl fun i c e=>lI.mono (cH (o':=o') h1.1) (by simp) (fun j=>by simp) (R.mu i c e)).bind,by rw[abz];exact pK R.F R.N h1.2 hs,fun c' hcm=>?_,fun Cc hC=>?_,rh C R hv (mS h1.1 fun Y hY=>hY.1:Le vH g ((g.set c o').bind (.so c) v)) hp oG fun r hr=>gO hr,fun Cc y w e=>n4 R.gY Cc y w (aaf.symm.trans e)⟩ (Vv (mS h1.1 fun Y hY=>hY.1:Le vH g ((g.set c o').bind (.so c) v)) rfl hp)
   ·by_cases e:c'=c
    ·subst e
     exact⟨o',Y8▸gD h1,by rw[hd,oG]⟩
    ·obtain⟨oc,q1,q2⟩:=R.gi c' hcm
     refine⟨oc,⟨q1.1,fP q1.2 e⟩,?_⟩
     rw[q2];exact(congrArg tw (gO fun h=>e (by cases h;rfl))).symm
   ·obtain⟨oc,q1,q2⟩:=R.cds Cc hC
    exact⟨oc,(cH (o':=o') h1.1).ob _ _ _ (by simp) q1,by rw[show(fun y=>((g.set c o').bind (.so c) v).pv (.cmp Cc y))=_ from funext fun y=>aaf];exact q2⟩
  rcases hk with hk|hk
  ·exact wpAny_storeName_cell C.kind hk hc (⟨o,(R.N _ h1.2).1,h2⟩:s.heap.IsCell c (g.pv (.so c))) fun h' a b=>key h' s.toks a b
  ·exact storeName_free C.kind hk hc (⟨o,(R.N _ h1.2).1,h2⟩:s.heap.IsCell c (g.pv (.so c))) fun h' a b=>key h' s.toks a b
theorem sA{py:Pos}(C:eX f cx J)(R:Rel P f cx s.heap st g)(hr:rQ f cx x k)(hv:Tr P g none m v)(hQ:Ka P f cx [k] g s (st.put k (.fz m)) Q):Wp D A (iI (.Name x py) cx.env v) Q E s:=
 rT (lW C R hr (.inl ⟨m,rfl,hv⟩) hQ)
theorem qM:∀{ks:List (Nat×Pos)},assignEach (ks.map fun k=>iH nm k.1 k.2) env=ks.map fun k=>(false,iI (iH nm k.1 k.2) env):=by
 intro ks
 induction ks with
 |nil=>
  exact rfl
 |cons k ks cz=>
  exact congrArg (L5 _) (cz)
noncomputable abbrev pH(ks:List (Nat×Pos)):List Nat:=ks.map fun k=>k.1
theorem Ci(C:eX f cx J){K:Unit->aw->Prop}:∀{ks:List (Nat×Pos)}{ms:List MV}{vs:List aj}{s:aw}{st:St}{g:Gh},(∀k∈ks,rQ f cx (J.nm k.1) k.1)->Rel P f cx s.heap st g->e7 P g ms vs->putAll ks ms st Q->
 (∀st',Q st'->Ka P f cx (pH ks) g s st' K)->Wp D A (assignInOrder (ks.map fun k=>iI (iH J.nm k.1 k.2) cx.env) vs) K E s:=by
 intro ks
 induction ks with
 |nil=>
  intro ms vs s st g hn R ht hp k
  induction ms with
  |nil=>exact aO (k st hp (h':=s.heap) (tk:=s.toks) R .nil)
  |cons=>exact hp.elim
 |cons j ks cz=>
  intro ms vs s st g hn R ht hp k
  induction ms with
  |nil=>exact hp.elim
  |cons m ms=>
   obtain⟨v,r,rfl,t1,t2⟩:=ht.inv
   refine au (gP (sA C R (hn j (.head _)) t1 fun g1 h1 WR R1 S1=>?_))
   exact cz (s:={s with heap:=h1,toks:=WR}) (fun k hk=>hn k (.tail _ hk)) R1 (t2.mono (S1.kq 0).toGLe) hp fun st' q g2 h2 tk2 R2 S2=>
    k st' q R2 (S1.trans S2 (fun k hk=>bj.mp hk▸ .head _) fun k hk=>.tail _ hk)
theorem BP:∀{ks:List (Nat×Pos)}{ms:List MV}{st:St},putAll ks ms st Q->ks.length=ms.length:=by
 intro ks
 induction ks with
 |nil=>intro ms st h;induction ms with
  |nil=>rfl
  |cons=>exact h.elim
 |cons k ks cz=>intro ms st h;induction ms with
  |nil=>exact h.elim
  |cons m ms=>exact congrArg (· +1) (cz h)
theorem Kh{ts:List (aj->Sem Unit)}:List.findIdx? (·.1) (ts.map fun t=>(false,t))=none:=by
 rw[List.findIdx?_map]
 exact List.findIdx?_eq_none_iff.mpr fun _ _=>rfl
theorem vn{K:Unit->aw->Prop}(M:cY D f A d)(C:eX f cx J)(R:Rel P f cx s.heap st g)(hn:∀k∈ks,rQ f cx (J.nm k.1) k.1)(hv:Tr P g none (.tup ms) v)(hp:putAll ks ms st Q)
 (k:∀st',Q st'->Ka P f cx (pH ks) g s st' K):Wp D A (iI (.Tuple (ks.map fun k=>iH J.nm k.1 k.2) 0 pos) cx.env v) K E s:=by
 refine Gk fun zG zk=>?_
 obtain⟨a,vs,rfl,o,tv⟩:=hv
 have e:assignEach (ks.map fun k=>iH J.nm k.1 k.2) cx.env=(ks.map fun k=>iI (iH J.nm k.1 k.2) cx.env).map fun t=>(false,t):=by rw[qM,eQ];rfl
 refine zk ?_
 refine wpAny_assign_Tuple M.hh (jA R.toBs o) (by rw[e,aI,aI,aM,tv.len];exact(BP hp)) (by rw[e];exact Kh) fun h' hx=>?_
 exact e.symm▸(by rw[eQ];exact WB _:((ks.map fun k=>iI (iH J.nm k.1 k.2) cx.env).map fun t=>(false,t)).map (·.2)=ks.map fun k=>iI (iH J.nm k.1 k.2) cx.env).symm▸Ci C (s:={s with heap:=h'}) hn (R.grownK fun b o e=>hx b o (bO (f7 e)) e) tv hp k
theorem D9{K:Unit->aw->Prop}(M:cY D f A d)(C:eX f cx J)(R:Rel P f cx s.heap st g)(hn:∀k∈ks,rQ f cx (J.nm k.1) k.1)(hv:Tr P g none m v)(hb:kf ks m st Q)
 (k:∀st',Q st'->Ka P f cx (pH ks) g s st' K):Wp D A (iI (G1 J.nm ks pos) cx.env v) K E s:=by
 have go:EB m (fun ms=>putAll ks ms st Q)->Wp D A (iI (.Tuple (ks.map fun k=>iH J.nm k.1 k.2) 0 pos) cx.env v) K E s:=fun hb=>by
  obtain⟨ms,rfl,hp⟩:=By hb
  exact vn M C R hn hv hp k
 cases ks with
 |nil=>exact go hb
 |cons i ks=>
  cases ks with
  |nil=>exact sA C R (hn i (.head _)) hv (k _ hb)
  |cons=>exact go hb
theorem ie(R:Rel P f cx s.heap st g)(w:Wk D A P g ms I fp S)(hO:Ob g I .rest oI)(hS:S i s.heap)(hi:i<ms.length)
 (k:∀v m o' h' tk,ms[i]?=some m->Tr P (g.set I o') none m v->Rel P f cx h' st (g.set I o')->Ob (g.set I o') I .rest o'->S (i+1) h'->Q (some v) {s with heap:=h',toks:=tk}):Wp D A (pyNext (.ref I)) Q E s:=by
 refine w.W.item i s Q E hi hS fun v h' tk hP hS' hk=>?_
 refine Gk fun zG zk=>?_
 obtain⟨m,e1,t⟩:=hP
 obtain⟨o',nm,oQ,_,_⟩:=w.obj _ _ hS'
 have G7:∀b o,b≠I->s.heap.get? b=some o->h'.get? b=some o:=fun b o hb e=>hk b o (fun hm=>hb (bj.mp hm)) e
 obtain⟨n1,n2,n3⟩:=R.N _ hO.2
 have F':Fr f.h₀ f.L h' (fun x=>g.pv (.loc x)):=by
  obtain⟨oL,a1,a2,YW,a3⟩:=R.F.ns
  refine⟨⟨oL,a1,a2,G7 _ _ (bY n2) YW,a3⟩,fun b o eb=>G7 b o ?_ (R.F.keep b o eb),R.F.above⟩
  rintro rfl
  exact nomatch n3.symm.trans eb
 have N':News f.h₀ f.L h' (rg I o' g.nw):=by
  intro p hp
  obtain⟨q,hq,rfl⟩:=d6.mp hp
  by_cases e:q.1=I
  ·rw[if_pos e];exact⟨oQ,n2,n3⟩
  ·rw[if_neg e];exact⟨G7 _ _ e (R.N q hq).1,(R.N q hq).2⟩
 refine zk ?_
 exact k v m o' h' tk e1 (t.mono ((cH hO.1).gZ nofun)) (R.Rx (.inl rfl) hO F' N') (gD hO) hS'
end
noncomputable def Gh.drop(g:Gh)(a:aZ):Gh:=
 {g with ow:=fun b=>if b=a then none else g.ow b,nw:=g.nw.filter fun p=>decide (p.1≠a),pv:=fun q=>match q with|.cmp C _=>if C=a then none else g.pv q|_=>g.pv q}
structure Lo(S:Ow->Prop)(g g':Gh):Prop where
 ob:∀a X o,S X->Ob g a X o->Ob g' a X o
 ca:∀(i:Nat)(a:aZ),g.ca[i]?=some a->g'.ca[i]?=some a
section
variable{D:dh}{P:ck}{f:Fm}{cx:Cx}{J:Cn}{A:b9}{E:aj->aw->Prop}{s:aw}{st st':St}{g g':Gh}{n d:Nat}{S:Ow->Prop}
theorem Lo.gZ(L:Lo S g g')(hS:S .fz):GLe g g':=⟨fun a o e=>L.ob a .fz o hS e,L.ca⟩
theorem my.zI(L:Lo S g g')(hS:S .fz){X:Ow}(hX:S X)(o:my P g a X m):my P g' a X m:=by
 cases m with
 |lst xs=>obtain⟨vs,n,h1,h2⟩:=o;exact⟨vs,n,L.ob _ _ _ hX h1,h2.mono (L.gZ hS)⟩
 |bI es=>obtain⟨vs,n,h1,h2,h3⟩:=o;exact⟨vs,n,L.ob _ _ _ hX h1,h2.mono (L.gZ hS),h3⟩
 |_=>exact o.elim
theorem lI.zI(L:Lo S g g')(hS:S .fz)(hX:∀j,S (.cell i j))(o:lI P g i c):lI P g' i c:=by
 have G:=L.gZ hS
 induction c with
 |lst xs=>obtain⟨a,vs,n,h1,h2,h3⟩:=o;exact⟨a,vs,n,L.ca _ _ h1,L.ob _ _ _ (hX _) h2,h3.mono G⟩
 |fresh av nums=>
  obtain⟨x,dx,a1,a2,t1,t2,n,d1,n1,d2,n2,h1,h2,h3,h4,h5,h6,h7⟩:=o
  exact⟨x,dx,a1,a2,t1,t2,n,d1,n1,d2,n2,L.ca _ _ h1,L.ob _ _ _ (hX _) h2,L.ob _ _ _ (hX _) h3,L.ob _ _ _ (hX _) h4,⟨h5.1.mono G,h5.2⟩,L.ob _ _ _ (hX _) h6,h7.1.mono G,h7.2⟩
 |uses m b=>
  obtain⟨x,dx,t1,t2,t3,n,h1,h2,h3⟩:=o
  exact⟨x,dx,t1,t2,t3,n,L.ca _ _ h1,L.ob _ _ _ (hX _) h2,L.ob _ _ _ (hX _) h3⟩
 |tab k=>obtain⟨ps,h1,h2,h3⟩:=o;exact⟨ps,L.ca _ _ h1,L.ob _ _ _ (hX _) h2,h3⟩
theorem lH.zI(L:Lo S g g')(hS:S .fz)(hX:S (.slot k))(hp:∀q,p=some q->g'.pv q=g.pv q){s:Option Slot}(o:lH P g p k s):lH P g' p k s:=by
 match s,o with
 |none,_=>trivial
 |some .un,_=>trivial
 |some (.fz m),⟨q,v,h1,h2,h3⟩=>exact⟨q,v,h1,(hp q h1).trans h2,h3.mono (L.gZ hS)⟩
 |some (.own m),⟨q,a,h1,h2,h3⟩=>exact⟨q,a,h1,(hp q h1).trans h2,h3.zI L hS hX⟩
theorem mV{X:Ow}(eM:b≠a)(h:Ob g b X o):Ob (g.drop a) b X o:=
 ⟨(if_neg eM).trans h.1,c0.mpr ⟨h.2,decide_eq_true eM⟩⟩
theorem qA{a:aZ}{X:Ow}(hX:g.ow a=some X):Lo (fun Z=>Z≠X) g (g.drop a):=
 ⟨fun b Z o hZ h=>mV (fun e=>hZ (ar (by exact h.1▸e.symm▸hX.symm▸rfl))) h,fun _ _ e=>e⟩
theorem yw(eM:b≠a)(h:(b,o)∈g.nw):(b,o)∈(g.drop a).nw:=c0.mpr ⟨h,decide_eq_true eM⟩
theorem qB(eM:C≠a):(g.drop a).pv (.cmp C x)=g.pv (.cmp C x):=if_neg eM
theorem fr_but(F:Fr f.h₀ f.L h m)(hL:a≠f.L)(h0:f.h₀.get? a=none)(hk:∀b o,b≠a->h.get? b=some o->h'.get? b=some o):Fr f.h₀ f.L h' m:=by
 refine Gk fun zG zk=>?_
 obtain⟨oL,a1,a2,YW,a3⟩:=F.ns
 refine zk ?_
 refine⟨⟨oL,a1,a2,hk _ _ (bY hL) YW,a3⟩,fun b o eb=>hk b o ?_ (F.keep b o eb),F.above⟩
 rintro rfl
 exact nomatch h0.symm.trans eb
theorem Bs.drop{mu:List MC}(B:Bs P f h mu g){X:Ow}(hX:g.ow a=some X)(hn:X≠ .fz/\∀i j,X≠ .cell i j)(hk:∀b o,b≠a->h.get? b=some o->h'.get? b=some o)(he:∃p∈g.nw,p.1≠a):Bs P f h' mu (g.drop a)where
 N:=fun p hp=>by
  obtain⟨h1,h2⟩:=c0.mp hp
  exact⟨hk _ _ (of_decide_eq_true h2) (B.N p h1).1,(B.N p h1).2⟩
 ow:=fun b Y e=>by
  by_cases hb:b=a
  ·exact nomatch (if_pos hb).symm.trans e
  ·obtain⟨o,ho⟩:=B.ow b Y ((if_neg hb).symm.trans e)
   exact⟨o,yw hb ho⟩
 len:=B.len
 lo:=by
  obtain⟨p,hp,eM⟩:=he
  exact⟨⟨p,c0.mpr ⟨hp,decide_eq_true eM⟩⟩,fun q hq=>B.lo.2 q (c0.mp hq).1⟩
 mu:=fun i c e=>(B.mu i c e).zI (qA hX) (bY hn.1) fun j=>bY (hn.2 i j)
theorem Rel.KA{X:Ow}(R:Rel P f cx h st g){o:Obj}(hO:Ob g a X o)(hX:X=.rest\/X=.cd)(hk:∀b o,b≠a->h.get? b=some o->h'.get? b=some o)(he:∃p∈g.nw,p.1≠a)(ha:a∉cx.cds)(xb:∀k C x,cx.pl k=some (.cmp C x)->C∈cx.cds):Rel P f cx h' st (g.drop a):=by
 have h1:X≠ .fz:=by rcases hX with rfl|rfl<;>exact nofun
 have h2:∀i j,X≠ .cell i j:=by rcases hX with rfl|rfl<;>exact nofun
 refine⟨R.toBs.drop hO.1 ⟨h1,h2⟩ hk he,fr_but R.F (R.N _ hO.2).2.1 (R.N _ hO.2).2.2 hk,fun c hc=>?_,fun c hc=>?_,fun k=>?_,fun C x v e=>?_⟩
 ·obtain⟨o',h1,h2⟩:=R.gi c hc
  exact⟨o',(qA hO.1).ob _ _ _ (by rcases hX with rfl|rfl<;>simp:cx.vG≠X) h1,h2⟩
 ·obtain⟨o',h1,h2⟩:=R.cds c hc
  have eM:c≠a:=fun e=>ha (e▸hc)
  refine⟨o',mV eM h1,?_⟩
  rw[show(fun y=>(g.drop a).pv (.cmp c y))=fun y=>g.pv (.cmp c y)from funext fun y=>qB eM]
  exact h2
 ·exact(R.sl k).zI (qA hO.1) (bY h1) ((by rcases hX with rfl|rfl<;>exact nofun:∀k,Ow.slot k≠X) k) fun q hq=>by
   induction q with
   |cmp C x=>exact qB fun(e:C=a)=>ha (e▸xb k _ _ hq)
   |_=>rfl
 ·by_cases hC:C=a
  ·exact nomatch (if_pos hC).symm.trans e
  ·obtain⟨o,ho⟩:=R.gY C x v ((qB hC).symm.trans e)
   exact⟨o,yw hC ho⟩
theorem Nt(R:Rel P f cx h st g)(hO:Ob g a .rest o):a∉cx.cds:=fun hc=>by
 obtain⟨o',h1,_⟩:=R.cds _ hc
 exact nomatch h1.1.symm.trans hO.1
theorem D3{S:Nat->eO->Prop}(R:Rel P f cx s.heap st g)(w:Wk D A P g ms I fp S)(hO:Ob g I .rest oI)(hS:S ms.length s.heap)(he:∃p∈g.nw,p.1≠I)(C:eX f cx J)
 (k:∀h' tk,Rel P f cx h' st (g.drop I)->Q none {s with heap:=h',toks:=tk}):Wp D A (pyNext (.ref I)) Q E s:=
 w.W.done s Q E hS fun h' tk hk=>k h' tk (R.KA hO (.inl rfl) (fun b o hb e=>hk b o (fun hm=>hb (bj.mp hm)) e) he (Nt R hO) C.Sw)
theorem Kq.drop(K:Kq n g₀ g)(hn:∀p∈g₀.nw,p.1≠a):Kq n g₀ (g.drop a):=
 ⟨⟨fun b o h=>mV (hn _ h.2) (K.fz b o h),K.ca⟩,fun b o h=>mV (hn _ h.2) (K.rest b o h),fun j b o hj h=>mV (hn _ h.2) (K.m8 j b o hj h),fun b o h=>let ⟨o',e⟩:=K.zz b o h;⟨o',yw (hn _ h) e⟩⟩
theorem Kp.drop(K:Kp n g₀ g)(hn:∀p∈g₀.nw,p.1≠a)(hp:∀C x v,g₀.pv (.cmp C x)=some v->∃o,(C,o)∈g₀.nw):Kp n g₀ (g.drop a):=
 ⟨K.toKq.drop hn,fun q v h=>by
   induction q with
   |cmp C x=>
    obtain⟨o,ho⟩:=hp C x v h
    exact(qB (hn _ ho)).trans (K.pv _ _ h)
   |_=>exact K.pv _ _ h⟩
end
end Mine
namespace Mine
open PySem PySem.W PySem.Calls PyProof.Rows PyProof.Rows.LCg
section
variable{D:dh}{P:ck}{f:Fm}{cx:Cx}{J:Cn}{A:b9}{E:aj->aw->Prop}{s:aw}{st st':St}{g g':Gh}{n d:Nat}{cl:lq}
theorem lookup_mem [BEq α][LawfulBEq α]:∀{l:List (α×β)},l.lookup p=some v->(p,v)∈l:=fun h=>by
 obtain⟨l₁,l₂,e,_⟩:=y7.mp h
 rw[e];exact bP _ (.head _)
theorem Fo [BEq α][LawfulBEq α]:∀{l:List (α×β)},(p,v)∈l->(∀u,(p,u)∈l->u=v)->l.lookup p=some v:=by
 intro l
 induction l with
 |nil=>exact fun h=>(bt h).elim
 |cons q r ih=>
  intro h hu
  rw[c9]
  induction e:p==q.1 with
  |true=>exact congrArg some (hu q.2 (eq_of_beq e▸ .head _))
  |false=>
   rcases aA.mp h with e'|h
   ·rw[<-e',beq_self_eq_true]at e;exact(aJ e.symm).elim
   ·exact ih h fun u' hm=>hu u' (.tail _ hm)
noncomputable def KN(env:Env)(x:Str×dC)(cs:List (Str×aZ)):Sem (ForInStep (List (Str×aZ))):=do
 let mut cs:=cs
 if x.2==dF then cs:=(x.1,<-cellOf env x.1)::cs
 pure (qZ cs)
theorem U4(h:k≠dF):KN env (y,k) cs=pure (.yield cs):=by
 unfold KN
 simp only[beq_eq_false_iff_ne.mpr h,eY,if_false]
theorem U3(h:env.cells.lookup y=some c):KN env (y,.free) cs=pure (.yield ((y,c)::cs)):=by
 unfold KN
 simp only[beq_self_eq_true,if_true,cellOf,h,pure_bind]
noncomputable def GS(env:Env)(names:List (Str×dC))(acc cl:List (Str×aZ)):Prop:=
 ∀x c,(∀c',(x,c')∈acc->c'=c)->env.cells.lookup x=some c->(∃c',(x,c')∈acc)\/(x,dF)∈names->cl.lookup x=some c
theorem KM:GS env [] acc acc:=fun x c h1 h2 h3=>h3.elim (fun⟨c',hc⟩=>Fo (h1 c' hc▸hc) fun u hm=>h1 u hm) fun h=>(bt h).elim
theorem UZ{acc cl:List (Str×aZ)}(hc:env.cells.lookup y=some c)(h:GS env r ((y,c)::acc) cl):GS env ((y,.free)::r) acc cl:=fun x c' q1 q2 q3=>
 h x c' (fun c'' hm=>(aA.mp hm).elim (fun e=>by obtain⟨rfl,rfl⟩:=aN e;exact ar (hc.symm.trans q2)) (q1 c'')) q2
   (q3.elim (fun⟨c'',hm⟩=>.inl ⟨c'',.tail _ hm⟩) fun hm=>(aA.mp hm).elim (fun e=>.inl ⟨c,(aN e).1▸ .head _⟩) .inr)
theorem U0{acc cl:List (Str×aZ)}(hk:k≠dF)(h:GS env r acc cl):GS env ((y,k)::r) acc cl:=fun x c' q1 q2 q3=>
 h x c' q1 q2 (q3.imp_right fun hm=>(aA.mp hm).elim (fun e=>absurd (aN e).2.symm hk) id)
theorem CI(names:List (Str×dC)):∀(acc:List (Str×aZ)),(∀y∈names,y.2=.free->∃c,env.cells.lookup y.1=some c)->∃cl,forIn (m:=Sem) names acc (KN env)=pure cl/\GS env names acc cl:=by
 induction names with
 |nil=>exact fun acc _=>⟨acc,rfl,KM⟩
 |cons p r ih=>
  obtain⟨y,k⟩:=p
  intro acc hf
  by_cases hk:k=dF
  ·subst hk
   obtain⟨c,hc⟩:=hf _ (.head _) rfl
   obtain⟨cl,h1,h2⟩:=ih ((y,c)::acc) fun z hz=>hf z (.tail _ hz)
   exact⟨cl,by rw[Mm,U3 hc,pure_bind];exact h1,UZ hc h2⟩
  ·obtain⟨cl,h1,h2⟩:=ih acc fun z hz=>hf z (.tail _ hz)
   exact⟨cl,by rw[Mm,U4 hk,pure_bind];exact h1,U0 hk h2⟩
theorem vc(hf:∀y∈scope.names,y.2=.free->∃c,env.cells.lookup y.1=some c):∃cl,closureFor scope env=pure cl/\∀x c,(x,dF)∈scope.names->env.cells.lookup x=some c->cl.lookup x=some c:=by
 obtain⟨cl,h1,h2⟩:=CI scope.names [] hf
 refine⟨cl,?_,fun x c hm hc=>h2 x c (fun _ h=>(bt h).elim) hc (.inr hm)⟩
 unfold closureFor
 refine Eq.trans ?_ ((bind_pure _).trans h1)
 rfl
noncomputable def xM(env:Env)(x:Str)(k:dC):dC:=if(k==dF&&env.scope.kind==.function&&env.kindOf x==some .cell)=true then Hi else k
theorem uz(x:Str):(relabel scope env).names.lookup x=(scope.names.lookup x).map (xM env x):=by
 show(scope.names.map _).lookup x=_
 induction scope.names with
 |nil=>rfl
 |cons y r ih=>
  obtain⟨m,k⟩:=y
  rw[dY]
  by_cases hx:x=m
  ·subst hx
   by_cases hc:(k==dF&&env.scope.kind==.function&&env.kindOf x==some .cell)=true
   ·simp only[c9,beq_self_eq_true,hc,if_true,ni,xM]
   ·simp only[c9,beq_self_eq_true,hc,if_false,ni,eY,xM]
  ·have hb:(x==m)=false:=beq_eq_false_iff_ne.mpr hx
   rw[(by simp only[c9,hb]:WC x ((m,k)::r)=WC x r),<-ih]
   by_cases hc:(k==dF&&env.scope.kind==.function&&env.kindOf m==some .cell)=true
   ·simp only[hc,if_true,c9,hb]
   ·simp only[hc,if_false,c9,hb,eY]
theorem Do(h:k≠ .free):xM env x k=k:=by
 unfold xM;refine(beq_eq_false_iff_ne.mpr h).symm▸?_;rfl
theorem wG:xM env x .free=.cell\/xM env x .free=.free:=by unfold xM;split<;>simp
noncomputable def xN(cx:Cx)(C:aZ)(nm:Nat->Str)(ks:List Nat)(k:Nat):Option Pl:=@bE (fun _=>Option Pl) (cx.pl k) (some (.cmp C (nm k))) (ks.contains k)
noncomputable def Cx.comp(cx:Cx)(sc:fq)(cl:List (Str×aZ))(C:aZ)(nm:Nat->Str)(ks:List Nat):Cx:=⟨compEnvC sc cl C cx.env,xN cx C nm ks,cx.pcs,C::cx.cds,cx.ro⟩
theorem uI(h:k∈ks):xN cx Cc nm ks k=some (.cmp Cc (nm k)):=by unfold xN;rw[gz.mpr h]
theorem nO(h:k∉ks):xN cx Cc nm ks k=cx.pl k:=by
 unfold xN
 induction e:ks.contains k with
 |true=>exact absurd (gz.mp e) h
 |false=>rfl
theorem kF [BEq α][LawfulBEq α]:∀{l:List α},G4 l=true->l.Nodup:=by
 intro l
 induction l with
 |nil=>
  intro _
  exact .nil
 |cons x r cz=>
  intro h
  have h1:=aP (show(!r.contains x&&G4 r)=true from h)
  refine cZ.mpr ⟨fun hm=>?_,cz (aB (show(!r.contains x&&G4 r)=true from h))⟩
  rw[gz.mpr hm]at h1
  exact(aJ h1).elim
theorem vR{q:Str->Bool}:∀{l:List (Str×β)},(l.filter fun p=>q p.1).lookup x=if q x then l.lookup x else none:=by
 intro l
 induction l with
 |nil=>
  simp
 |cons zx r cz=>
  obtain⟨y,u⟩:=zx
  have ih:=cz
  rw[dw]
  by_cases e:x=y
  ·subst e
   by_cases hq:q x=true
   ·simp only[hq,if_true,c9,beq_self_eq_true]
   ·simp only[hq,eY,if_false]at ih⊢
    exact ih
  ·have hb:(x==y)=false:=beq_eq_false_iff_ne.mpr e
   by_cases hq:q y=true
   ·simp only[hq,if_true,c9,hb];exact ih
   ·simp only[hq,eY,if_false,c9,hb];exact ih
structure Ek(J:Cn)(sc:fq)(ks:List Nat):Prop where
 kind:sc.kind=.function
 cell:∀y∈sc.names,y.2≠ .cell
 loc:∀y∈sc.names,y.2=.local->sc.names.lookup y.1=some .local
 free:∀y∈sc.names,y.2=.free->(J.sc.lookup y.1=some .cell\/J.sc.lookup y.1=some .free)/\∃k,J.G.lookup y.1=some k
 own:∀k∈ks,sc.names.lookup (J.nm k)=some .local/\okN (J.nm k)
 ndx:(ks.map J.nm).Nodup
 dis:∀x k,sc.names.lookup x=some .free->J.G.lookup x=some k->k∉ks
theorem BJ{sc:fq}(h:MT J sc (ks.map J.nm) ks=true):Ek J sc ks:=by
 unfold MT at h
 have h6:=bw.mp (aB h)
 have h3:=bw.mp (aB (aP (aP (aP h))))
 have h2:=bw.mp (aB (aP (aP (aP (aP h)))))
 have h1:=aP (aP (aP (aP (aP h))))
 refine⟨eq_of_beq h1,fun y hy e=>?_,fun y hy e=>?_,fun y hy e=>?_,fun k hk=>?_,kF (aB (aP (aP h))),fun x k q1 q2 hm=>?_⟩
 ·have:=h2 y hy
  rw[e]at this;exact(aJ this).elim
 ·have:=h2 y hy
  rw[e]at this;exact eq_of_beq this
 ·have:=h2 y hy
  replace this:=e▸this
  have h1:=aP this
  rw[nJ,beq_iff_eq,beq_iff_eq]at h1
  exact⟨h1,en.mp (aB this)⟩
 ·have:=h3 _ (dc hk)
  have h:=aB this
  unfold BX at h
  exact⟨eq_of_beq (aP this),dH _▸aP h,dH _▸aB h⟩
 ·have Cp:(x,k)∈J.G.filter fun p=>sc.names.lookup p.1==some .free:=c0.mpr ⟨lookup_mem q2,by refine q1.symm▸?_;rfl⟩
  have:=h6 _ Cp
  rw[gz.mpr hm]at this
  exact(aJ this).elim
theorem B8{nm:Nat->Str}:∀{ks:List (Nat×Pos)},(ks.map fun k=>(nm k.1,k.1)).lookup x=some k->x=nm k/\k∈pH ks:=fun{ks} h=>by
 obtain⟨p,hp,e⟩:=d6.mp (lookup_mem h)
 obtain⟨rfl,rfl⟩:=aN e
 exact⟨rfl,dc hp⟩
theorem map_inj:∀{l:List α},(l.map I).Nodup->i∈l->j∈l->I i=I j->i=j:=by
 intro l
 induction l with
 |nil=>exact fun _ h=>(bt h).elim
 |cons x l cz=>
  intro hn hi hj e
  obtain⟨h1,h2⟩:=cZ.mp (show(I x::l.map I).Nodup from hn)
  rcases(aA.mp hi)with e1|a1
  ·rcases(aA.mp hj)with e2|a2
   ·exact e1.trans e2.symm
   ·exact absurd (show I x∈l.map I from e1▸e▸dc a2) h1
  ·rcases(aA.mp hj)with e2|a2
   ·exact absurd (show I x∈l.map I from e2▸e▸dc a1) h1
   ·exact cz h2 a1 a2 e
theorem OT{sc:fq}{ks:List (Nat×Pos)}{cl:List (Str×aZ)}(C:eX f cx J)(hs:Ek J sc (pH ks))(hC:Cc∉cx.cds)
 (y2:∀x c,(x,dF)∈sc.names->cx.env.cells.lookup x=some c->cl.lookup x=some c):eX f (cx.comp sc cl Cc J.nm (pH ks)) (J.comp sc ks)/\∀k∈ks,rQ f (cx.comp sc cl Cc J.nm (pH ks)) (J.nm k.1) k.1:=by
 have kindOf:∀x,(cx.comp sc cl Cc J.nm (pH ks)).env.kindOf x=(sc.names.lookup x).map (xM cx.env x):=fun x=>uz x
 have loc:∀k∈pH ks,(cx.comp sc cl Cc J.nm (pH ks)).env.kindOf (J.nm k)=some .local:=fun k hk=>by
  rw[kindOf];refine((hs.own k hk).1).symm▸?_;exact congrArg some (Do nofun)
 have own:∀k∈pH ks,Res f (cx.comp sc cl Cc J.nm (pH ks)) (J.nm k) k:=fun k hk=>⟨(hs.own k hk).2,.inl ⟨loc k hk,.inr ⟨.head _,uI hk⟩⟩⟩
 have dec:∀k,k∈pH ks\/k∉pH ks:=fun k=>Ho _
 refine⟨⟨hs.kind,C.glob,C.blt,fun x hx=>?_,fun x k hx=>?_,fun i j q hi hj=>?_,fun x hx=>?_,fun k c x hk=>?_⟩,fun k hk=>⟨own _ (dc hk),.inr (loc _ (dc hk))⟩⟩
 ·have hx:sc.names.lookup x=some .globalImplicit:=eq_of_beq hx
  rw[kindOf,hx];exact congrArg some (Do nofun)
 ·have hx:(ks.map (fun k=>(J.nm k.1,k.1))++J.G.filter fun p=>sc.names.lookup p.1==some .free).lookup x=some k:=hx
  rw[List.lookup_append]at hx
  induction hz:(ks.map fun k=>(J.nm k.1,k.1)).lookup x with
  |some k'=>
   rw[hz]at hx
   obtain rfl:=ar hx
   obtain⟨rfl,hk⟩:=B8 hz
   exact own _ hk
  |none=>
   replace hx:=vR (q:=fun y=>sc.names.lookup y==some dF)▸Option.none_or▸hz▸hx
   split at hx
   ·rename_i Oh
    have Oh:=eq_of_beq Oh
    obtain⟨q1,q2⟩:=hs.free _ (lookup_mem Oh) rfl
    obtain⟨r1,r2⟩:=C.rs x k hx
    have Ad:=C.sck x q1
    refine⟨r1,.inr ⟨?_,?_⟩⟩
    ·rw[kindOf];refine Oh.symm▸?_
     exact wG.imp (congrArg some) (congrArg some)
    ·rcases r2 with⟨Ub,_⟩|⟨_,c,h1,h2,h3⟩
     ·replace Ad:=Ub▸Ad
      exact(Ad.elim nofun nofun:False).elim
     ·exact⟨c,y2 x c (lookup_mem Oh) h1,(nO (hs.dis x k Oh hx)).trans h2,h3⟩
   ·exact(ay _ (cN hx)).elim
 ·have hi:xN cx Cc J.nm (pH ks) i=some q:=hi
  have hj:xN cx Cc J.nm (pH ks) j=some q:=hj
  rcases dec i with h1|h1<;>rcases dec j with h2|h2
  ·rw[uI h1]at hi
   rw[uI h2,<-hi]at hj
   injection hj with hj;injection hj with _ hj;exact map_inj hs.ndx h1 h2 hj.symm
  ·rw[uI h1]at hi
   rw[nO h2,<-hi]at hj
   exact absurd (C.Sw j _ _ hj) hC
  ·rw[uI h2]at hj
   rw[nO h1,<-hj]at hi
   exact absurd (C.Sw i _ _ hi) hC
  ·rw[nO h1]at hi
   rw[nO h2]at hj
   exact C.inj i j q hi hj
 ·rw[kindOf]
  rcases hx with hx|hx
  ·exact absurd rfl (hs.cell _ (lookup_mem (v:=Hi) hx))
  ·have hx:sc.names.lookup x=some .free:=hx
   exact hx.symm▸wG.imp (congrArg some) (congrArg some)
 ·have hk:xN cx Cc J.nm (pH ks) k=some (.cmp c x):=hk
  rcases dec k with h1|h1
  ·replace hk:=uI h1▸hk;cases hk;exact .head _
  ·rw[nO h1]at hk;exact .tail _ (C.Sw k c x hk)
variable{g₀:Gh}{p r:Pos}
noncomputable abbrev tests(es:List Expr)(env:Env):Sem Bool:=forIn es true fun c r=>if r=true then do let ok<-isTrue c env (ei c env);pure (qZ ok)else pure (qZ r)
noncomputable def VH(D:dh)(P:ck)(f:Fm)(A:b9)(cl:lq)(d:Nat)(x:X):Prop:=
 ∀⦃cx J n E s g st Q K⦄,eX f cx J->wf x J=true->Rel P f cx s.heap st g->(cP cl d x).ta st Q->Kt P f cx n g s Q K->Wp D A (tests (gi J.nm x) cx.env) K E s
theorem Q9:VH D P f A cl d .nil:=fun{cx J n E s g st Q K} C w R h k=>wpAny_tests_nil (k (h':=s.heap) (tk:=s.toks) h R .refl)
theorem Q8(hx:ST D P f A cl d x):VH D P f A cl d (.cons x .nil):=fun{cx J n E s g st Q K} C w R h k=>
 wpAny_tests_one (hx (n:=n) (Q:=fun b st=>i0 b (Q true st) (Q false st)) C (aP w) R h fun b eZ g1 h1 t1 hq R1 K1=>k (by induction b<;>exact hq) R1 K1)
theorem Qj(ho:s.heap.get? I=some o)(hc:o.cls=.type nm)(hn:za nm=false)(hQ:Q () s):Wp D A (pS target (.ref I) v) Q E s:=by
 have key:∀a,Wp D A (do
  let o<-load I
  match o.cls,o.data with
  |.type n,.fields vs=>
   if ["enumerate","zip","dict_itemiterator","dict_reverseitemiterator","odict_iterator","itertools.zip_longest","itertools.pairwise"].contains n&&vs[0]?==some (rawInt a)then
    rule "for.unpacks-the-owned-tuple"
    updateField I 0 .none
  |_,_=>pure ()) Q E s:=by
  intro a
  refine au (wpAny_load ho ?_)
  refine hc.symm▸?_
  induction hd:o.data with
  |fields vs=>
   simp only
   have:["enumerate","zip","dict_itemiterator","dict_reverseitemiterator","odict_iterator","itertools.zip_longest","itertools.pairwise"].contains nm=false:=hn
   exact this▸aO hQ
  |_=>exact aO hQ
 have t:∀es i p,Wp D A (pS (.Tuple es i p) (.ref I) v) Q E s:=fun es i p=>by
  induction v with
  |ref a=>exact key a
  |_=>exact aO hQ
 cases target with
 |Tuple es i p=>exact t es i p
 |List es p=>exact t es 0 p
 |_=>exact aO hQ
theorem yA(I:Nat->aw->Prop)
 (turn:∀n s,I n s->Wp D A (pyNext it) (fun r s₁=>match r with
   |none=>R (.ok .next) s₁
   |some v=>Wp D A (pS target it v) (fun _ s₁'=>Wp D A (iI target env v) (fun _ s₂=>
     Wp D A (tests ifs env) (fun ok s₃=>
      @bE (fun _=>Prop) (∃m,m<n/\I m s₃) (Wp D A (ei elt env) (fun x s₄=>
        Wp D A (call (.builtin "list.append") [acc,x]) (fun _ s₅=>∃m,m<n/\I m s₅) (notedBy (oK D.prog D.w) A env fun e s'=>R (.error e) s') s₄) (notedBy (oK D.prog D.w) A env fun e s'=>R (.error e) s') s₃) ok)
      (notedBy (oK D.prog D.w) A env fun e s'=>R (.error e) s') s₂) (notedBy (oK D.prog D.w) A env fun e s'=>R (.error e) s') s₁') (notedBy (oK D.prog D.w) A env fun e s'=>R (.error e) s') s₁) (notedBy (oK D.prog D.w) A env fun e s'=>R (.error e) s') s)
 (n:Nat) (h:I n s):codeAny (oK D.prog D.w) A (.compLoop (.ListComp elt [⟨target,iter,ifs,0⟩] scope pos) 0 it acc env) R s:=by
 refine codeAny_loop rfl I (fun n s hI=>?_) n h
 show wpAny _ A ((compTurn (.ListComp elt [⟨target,iter,ifs,0⟩] scope pos) 0 it acc env).onRaise (fun x=>do noteFrame x env;theTreesLotGoes x)) _ _ s
 refine wpAny_noted ?_
 rw[compTurn_list]
 refine au (wpAny_standAt (au (ed (turn n s hI) (fun r s₁ h₁=>?_) fun _ _ h'=>h')))
 induction r with
 |none=>exact aO h₁
 |some v=>
  refine au (ed h₁ (fun _ s₁' h₁'=>?_) fun _ _ h'=>h')
  refine au (ed h₁' (fun _ s₂ h₂=>au (ed h₂ (fun ok s₃ h₃=>?_) fun _ _ h'=>h')) fun _ _ h'=>h')
  induction ok with
  |false=>exact aO ⟨rfl,h₃⟩
  |true=>
   exact au (au (ed h₃ (fun x s₄ h₄=>au (ed h₄ (fun _ s₅ h₅=>aO (aO ⟨rfl,h₅⟩)) fun _ _ h'=>h')) fun _ _ h'=>h'))
theorem Kp.JY{X:Ow}(K:Kp n g₀ g)(hn:∀p∈g₀.nw,p.1≠a):Kp n g₀ (g.give a X):=
 K.Ry (o':=listOf #[] 0) hn rfl rfl (fun b Y o hb h=>⟨(if_neg hb).trans h.1,h.2⟩) fun b o h=>⟨o,h⟩
theorem Kp.EM(K:Kp n g₀ g)(hn:∀p∈g₀.nw,p.1≠a):Kp n g₀ (g.set a o'):=
 K.Ry (o':=o') hn rfl rfl (fun b Y o hb h=>⟨h.1,fP h.2 hb⟩) fun b o h=>if e:b=a then⟨o',by subst e;exact ju h⟩else⟨o,fP h e⟩
noncomputable abbrev oW(cl:lq)(d:Nat)(e cs:X)(ks:List (Nat×Pos)):MV->St->(Option MV->St->Prop)->Prop:=fun m st Q=>kf ks m st fun st=>(cP cl d cs).ta st fun z st=>i0 z ((cP cl d e).ev st fun _ m st=>Q (some m) st) (Q lJ st)
theorem Wk.keep{fp:List aZ}(w:Wk D A P g ms I fp S)(hS:S i h)(hO:Ob g I .rest o)(R:Bs P f₁ h mu₁ g)(R':Bs P f₂ h' mu₂ g')(K:Kq n g g'):S i h':=by
 refine w.W.frame _ _ _ hS fun b hb ob e=>?_
 by_cases Zb:b=I
 ·subst Zb
  have e1:=(R.N _ hO.2).1
  cases e1.symm.trans e
  exact(R'.N _ (K.rest _ _ hO).2).1
 ·obtain⟨of,hof⟩:=w.fp b hb Zb
  have e1:=(R.N _ hof.2).1
  cases e1.symm.trans e
  exact(R'.N _ (K.fz _ _ hof).2).1
theorem Wk.Yz{fp:List aZ}(w:Wk D A P g ms I fp S)(hS:S i h)(hD:Ob g Dl .rest o)(Ui:I≠Dl)(w9:jh Dl h h'):S i h':=by
 refine w.W.frame _ _ _ hS fun b hb ob e=>?_
 by_cases Zb:b=I
 ·subst Zb;exact(w9.2 b Ui).trans e
 ·obtain⟨of,hof⟩:=w.fp b hb Zb
  refine(w9.2 b fun e=>?_).trans e
  subst e
  exact nomatch hof.1.symm.trans hD.1
inductive LU(D:dh)(A:b9)(P:ck)(f:Fm)(cx:Cx)(n:Nat)(g₀:Gh)(s:aw)(I Dl:aZ)(fp:List aZ)(S:Nat->eO->Prop)(items:List MV)(b:MV->St->(Option MV->St->Prop)->Prop)(Qf:List MV->St->Prop):Nat->aw->Prop
 |mk(i:Nat)(BC:St)(g₁:Gh)(h₁:eO)(EC:Nat)(ys:List aj)(nn:Nat)(done:List MV)(oI:Obj)(hi:i<=items.length)(R₁:Rel P f cx h₁ BC g₁)(K₁:Kp n g₀ g₁)(Wo:Ob g₁ I .rest oI)(Zh:Ob g₁ Dl .rest (dq ys nn))(tD:e7 P g₁ done ys)
   (w₁:Wk D A P g₁ items I fp S) (hS₁:S i h₁) (Mb:o6 b (items.drop i) BC fun ms st=>Qf (done++ms) st) (hdl:done.length<=i):LU D A P f cx n g₀ s I Dl fp S items b Qf (items.length-i) {s with heap:=h₁,toks:=EC}
theorem D1{items:List MV}(hm:items[i]?=some mv):items.drop i=mv::items.drop (i+1):=by
 obtain⟨fC,e⟩:=bb.mp hm
 rw[xA fC,e]
theorem Gr{m:Nat}{R:Result->aw->Prop}
 (M:cY D f A d) (C:eX f cx J) (hw:∀k∈ks,rQ f cx (J.nm k.1) k.1) (xb:∀k∈pH ks,∃x,cx.pl k=some (.cmp Cc x)) (JP:items.length<=b8)
 (hI:∀p∈g₀.nw,p.1≠I) (hD:∀p∈g₀.nw,p.1≠Dl) (hC:∀p∈g₀.nw,p.1≠Cc) (Ui:I≠Dl) (Za:∀C x v,g₀.pv (.cmp C x)=some v->∃o,(C,o)∈g₀.nw)
 (he:SE D P f A cl d e) (we:wf e J=true) (FM:VH D P f A cl d cs) (wc:wf cs J=true)
 (hR:∀⦃ms st' g' h' tk ys nn⦄,Qf ms st'->Rel P f cx h' st' g'->Kp n g₀ g'->Ob g' Dl .rest (dq ys nn)->e7 P g' ms ys->R (.ok .next) {s with heap:=h',toks:=tk})
 (Uh:LU D A P f cx n g₀ s I Dl fp S items (oW cl d e cs ks) Qf m s₁):Wp D A (pyNext (.ref I)) (fun r s₁=>match r with
   |none=>R (.ok .next) s₁
   |some v=>Wp D A (pS (G1 J.nm ks p) (.ref I) v) (fun _ s₁'=>Wp D A (iI (G1 J.nm ks p) cx.env v) (fun _ s₂=>
     Wp D A (tests (gi J.nm cs) cx.env) (fun ok s₃=>
      @bE (fun _=>Prop) (∃m',m'<m/\LU D A P f cx n g₀ s I Dl fp S items (oW cl d e cs ks) Qf m' s₃) (Wp D A (ei (py J.nm e) cx.env) (fun x s₄=>
        Wp D A (call (.builtin "list.append") [.ref Dl,x]) (fun _ s₅=>∃m',m'<m/\LU D A P f cx n g₀ s I Dl fp S items (oW cl d e cs ks) Qf m' s₅) E s₄) E s₃) ok) E s₂) E s₁') E s₁) E s₁:=by
 induction Uh with
 |mk i BC g₁ h₁ EC ys nn done oI hi R₁ K₁ Wo Zh tD w₁ hS₁ Mb hdl=>
 by_cases fC:i<items.length
 ·refine ie (s:={s with heap:=h₁,toks:=EC}) R₁ w₁ Wo hS₁ fC fun v mv o' h₂ PD hm T₂ R₂ O₂ Zf=>?_
  refine Gk fun zG zk=>?_
  have Zg:Ob (g₁.set I o') Dl .rest (dq ys nn):=⟨Zh.1,fP Zh.2 (bY Ui)⟩
  have G₂:GLe g₁ (g₁.set I o'):=(cH Wo.1).gZ nofun
  obtain⟨oI₂,nm,ho₂,hc₂,hn₂⟩:=w₁.obj _ _ Zf
  refine zk ?_
  refine Qj (s:={s with heap:=h₂,toks:=PD}) ho₂ hc₂ hn₂ ?_
  replace Mb:=D1 hm▸Mb
  have Mb:kf ks mv BC fun st=>(cP cl d cs).ta st fun z st=>i0 z ((cP cl d e).ev st fun _ m st=>o6 (oW cl d e cs ks) (items.drop (i+1)) st fun ms st=>Qf (done++(m::ms)) st) (o6 (oW cl d e cs ks) (items.drop (i+1)) st fun ms st=>Qf (done++ms) st):=Mb
  refine D9 (s:={s with heap:=h₂,toks:=PD}) M C R₂ hw T₂ Mb fun st₃ q₃ g₃ h₃ tk₃ R₃ S₃=>?_
  have K₃:Kp n g₀ g₃:=⟨(K₁.EM hI:Kp n g₀ (g₁.set I o')).toKq.trans (S₃.kq n) (ab _),fun q v hq=>by
   refine(S₃.pv q fun k hk e=>?_).trans ((K₁.EM hI:Kp n g₀ (g₁.set I o')).pv q v hq)
   obtain⟨x,hx⟩:=xb k hk
   cases hx.symm.trans e
   obtain⟨o,ho⟩:=Za _ _ _ hq
   exact hC _ ho rfl⟩
  refine FM (n:=n) (s:={s with heap:=h₃,toks:=tk₃}) (Q:=fun z st=>i0 z ((cP cl d e).ev st fun _ m st=>o6 (oW cl d e cs ks) (items.drop (i+1)) st fun ms st=>Qf (done++(m::ms)) st) (o6 (oW cl d e cs ks) (items.drop (i+1)) st fun ms st=>Qf (done++ms) st)) C wc R₃ q₃ fun ok st₄ g₄ h₄ tk₄ q₄ R₄ K₄=>?_
  have Ww:Kq n (g₁.set I o') g₄:=(S₃.kq n).trans K₄.toKq (ab _)
  have O₄:=Ww.rest _ _ O₂
  have G₄:GLe g₁ g₄:=G₂.trans Ww.toGLe
  induction ok with
  |false=>
   exact⟨_,(pY fC (dU i):items.length-(i+1)<items.length-i),.mk (i+1) st₄ g₄ h₄ tk₄ ys nn done _ fC R₄ (K₃.trans K₄ (ab _)) O₄ (Ww.rest _ _ Zg) (tD.mono G₄) (w₁.mono G₄) ((w₁.mono G₂).keep Zf O₂ R₂.toBs R₄.toBs Ww) q₄ (dM hdl)⟩
  |true=>
   refine he.fz n (s:={s with heap:=h₄,toks:=tk₄}) (Q:=fun m st=>o6 (oW cl d e cs ks) (items.drop (i+1)) st fun ms st=>Qf (done++(m::ms)) st) C we R₄ q₄ fun mu st₅ u g₅ h₅ tk₅ q₅ R₅ K₅ T₅=>?_
   have Cr:=K₅.rest _ _ (Ww.rest _ _ Zg)
   have G₅:GLe g₁ g₅:=G₄.trans K₅.toGLe
   refine append_at (s:={s with heap:=h₅,toks:=tk₅}) (R₅.N _ Cr.2).1 (fun h₆ w9 oQ=>?_) (by rw[aM,tD.len];exact aa hdl (aa hi (aa JP lP)))
   have JL:h₆.get? Dl=some (dq (ys++[u]) (nn+1)):=by
    rw[oQ];show some (kJ _ _)=some (kJ _ _);rw[List.push_toArray]
   have G₆:GLe g₅ (g₅.set Dl (dq (ys++[u]) (nn+1))):=(cH Cr.1).gZ nofun
   refine⟨_,(pY fC (dU i):items.length-(i+1)<items.length-i),.mk (i+1) st₅ _ h₆ tk₅ (ys++[u]) (nn+1) (done++[mu]) o' fC (R₅.Rx (.inl rfl) Cr (pK R₅.F R₅.N Cr.2 w9) (News.upd R₅.N Cr.2 w9 JL)) (((K₃.trans K₄ (ab _)).trans K₅ (ab _)).EM hD) ⟨(K₅.rest _ _ O₄).1,fP (K₅.rest _ _ O₄).2 Ui⟩ (gD Cr) (((tD.mono G₅).mono G₆).append (.one (T₅.mono G₆))) (w₁.mono (G₅.trans G₆)) ((w₁.mono G₅).Yz ((w₁.mono G₂).keep Zf O₂ R₂.toBs R₅.toBs (Ww.trans K₅.toKq (ab _))) Cr Ui w9) ?_ ?_⟩
   ·rw[show(fun ms st=>Qf ((done++[mu])++ms) st)=fun ms st=>Qf (done++(mu::ms)) st from funext fun ms=>by rw[bq];rfl]
    exact q₅
   ·rw[aF];exact bA hdl
 ·have hil:i=items.length:=oe hi (Nat.not_lt.mp fC)
  subst hil
  replace Mb:=L4▸Mb
  refine D3 (s:={s with heap:=h₁,toks:=EC}) R₁ w₁ Wo hS₁ ⟨_,Zh.2,bY Ui⟩ C fun h₂ PD R₂=>?_
  exact hR Mb R₂ (K₁.drop hI Za) (mV (bY Ui) Zh) (by rw[aT];exact tD.mono ((qA Wo.1).gZ nofun))
end
section
variable{D:dh}{P:ck}{f:Fm}{cx:Cx}{J:Cn}{A:b9}{E:aj->aw->Prop}{s:aw}{st st':St}{g g' g₀:Gh}{n d:Nat}{cl:lq}{p r:Pos}
theorem HA:∀(ks:List (Nat×Pos))(st:St),(qg ks st).mu=st.mu:=by
 intro ks
 induction ks with
 |nil=>
  intro _
  exact rfl
 |cons k ks cz=>
  intro st
  exact cz (st.put k.1 .un)
theorem Ex:∀(ks:List (Nat×Pos))(st:St)(k:Nat),k∉pH ks->(qg ks st).loc[k]?=st.loc[k]?:=by
 intro ks
 induction ks with
 |nil=>
  intro _ _ _
  exact rfl
 |cons j ks cz=>
  intro st k h
  exact(cz (st.put j.1 .un) k fun e=>h (.tail _ e)).trans (mI k fun e=>h (e▸ .head _))
theorem So:(st.put j .un).loc[j]?=none\/(st.put j .un).loc[j]?=some .un:=by
 rcases k8 j st.loc.length with hk|hk
 ·exact .inr (cq hk)
 ·exact .inl (oh (by rw[show(st.put j .un).loc=st.loc.set j .un from rfl,nI];exact hk))
theorem Hz:∀(ks:List (Nat×Pos))(st:St)(k:Nat),(st.loc[k]?=none\/st.loc[k]?=some .un)\/k∈pH ks->(qg ks st).loc[k]?=none\/(qg ks st).loc[k]?=some .un:=by
 intro ks
 induction ks with
 |nil=>
  intro st k h
  exact h.elim id nofun
 |cons j ks cz=>
  intro st k h
  refine cz (st.put j.1 .un) k ?_
  by_cases e:k=j.1
  ·subst e;exact .inl So
  ·rcases h with h|h
   ·left;rw[mI k e];exact h
   ·rcases aA.mp h with h|h
    ·exact absurd h e
    ·exact .inr h
theorem Rel.leave{sc:fq}{cl:List (Str×aZ)}(R:Rel P f (cx.comp sc cl Cc nm (pH ks)) h st g):Rel P f cx h (qg ks st) g where
 toBs:=by rw[HA];exact R.toBs
 F:=R.F
 gi:=R.gi
 cds:=fun c hc=>R.cds c (.tail _ hc)
 sl:=fun k=>by
  by_cases hk:k∈pH ks
  ·rcases Hz ks st k (.inr hk)with e|e<;>(rw[e];trivial)
  ·rw[Ex ks st k hk]
   have:=R.sl k
   rw[show(cx.comp sc cl Cc nm (pH ks)).pl k=cx.pl k from nO hk]at this
   exact this
 gY:=R.gY
theorem TQ(h:YF o=true):o=some .un:=by
 induction o with
 |none=>exact(aJ h).elim
 |some sl=>induction sl<;>first|rfl|cases h
theorem Rel.enter{sc:fq}{cl:List (Str×aZ)}(R:Rel P f cx h st g)(hu:Ei ks st=true)(hns:h'.Ns h.objs.size fun _=>none)(hs:jh h.objs.size (h.push o₀) h'):
 ∃oC,Rel P f (cx.comp sc cl h.objs.size nm (pH ks)) h' st (g.push h.objs.size oC .cd)/\Kp n g (g.push h.objs.size oC .cd):=by
 refine Gk fun zG zk=>?_
 obtain⟨oC,hoC,hN⟩:=ns_obj hns
 have R':=R.zE (X:=.cd) (fun b o e=>(hs.2 b (bO (f7 e))).trans (nD _ e):∀b o,h.get? b=some o->h'.get? b=some o) hoC
 refine zk ?_
 refine⟨oC,⟨R'.toBs,R'.F,R'.gi,fun c hc=>?_,fun k=>?_,R'.gY⟩,cU (cJ R)⟩
 ·rcases aA.mp hc with rfl|hc
  ·refine⟨oC,dk,?_⟩
   rw[show(fun x=>(g.push h.objs.size oC .cd).pv (.cmp h.objs.size x))=fun _=>none from funext fun x=>by
    show g.pv (.cmp h.objs.size x)=none
    induction hq:g.pv (.cmp h.objs.size x)with
    |none=>rfl
    |some v=>
     obtain⟨o,ho⟩:=R.gY _ _ _ hq
     exact absurd ((cJ R) _ ho) (y5 _)]
   exact hN
  ·exact R'.cds c hc
 ·show lH P _ (xN cx h.objs.size nm (pH ks) k) k st.loc[k]?
  by_cases hk:k∈pH ks
  ·obtain⟨j,hj,rfl⟩:=d6.mp hk
   rw[TQ (bw.mp hu j hj)];trivial
  ·exact(nO hk).symm▸R'.sl k
theorem Iv:Iy (py nm x)=true:=by induction x<;>exact @rfl _ true
theorem zC:Iy (FD ik (py nm x))=true:=by induction ik<;>first|exact Iv|rfl
theorem xg(h:Iy e=true):∀x,foldedSetIterable e env x=pure x:=by
 intro x
 cases e<;>first|rfl|cases h
noncomputable def Kc(D:dh)(P:ck)(f:Fm)(cx:Cx)(A:b9)(E:aj->aw->Prop)(n:Nat)(g:Gh)(s:aw)(ks:List (Nat×Pos))(use:Option (aj->Sem Unit))(Qf:List MV->St->Prop)(K:aj->aw->Prop):Prop:=
 ∀⦃ms stE g' h' tk ys nn Cc Dl oC⦄,Qf ms stE->Rel P f cx h' (qg ks stE) g'->Kp n g g'->Ob g' Dl .rest (dq ys nn)->e7 P g' ms ys->Ob g' Cc .cd oC->(∃m,NsObj oC m)->Cc∉cx.cds->(∀p∈g.nw,p.1≠Cc)->(∀p∈g.nw,p.1≠Dl)->
  compPost (oK D.prog D.w) A E use K (.ref Dl) Cc (.ok .next) {s with heap:=h',toks:=tk}
theorem Av{sc:fq}{pos pos':Pos}{K:aj->aw->Prop}
 (G:fL D P) (M:cY D f A d) (C:eX f cx J) (R:Rel P f cx s.heap st g) (hit:SE D P f A cl d it) (he:SE D P f A cl d e) (FM:VH D P f A cl d cs) (w:wf (.comp e ks r ik it cs sc p) J=true)
 (h:(cP cl d it).ev st fun _ i st=>P7 ik i fun xs=>gd (aV xs.length b8&&Ei ks st) (o6 (oW cl d e cs ks) xs st Qf)) (k:Kc D P f cx A E n g s ks use Qf K):
 Wp D A (comprehension (.ListComp (py J.nm e) [⟨G1 J.nm ks r,FD ik (py J.nm it),gi J.nm cs,0⟩] sc pos) sc cx.env pos' (newList []) false (ei (FD ik (py J.nm it)) cx.env) use) K E s:=by
 refine Gk fun zG zk=>?_
 have G6:MT J sc ((pH ks).map J.nm) (pH ks)=true:=by
  rw[show(pH ks).map J.nm=ks.map fun k=>J.nm k.1 from eQ ..]
  exact aB (aB (aB (aB (aB w))))
 have sf:=BJ G6
 obtain⟨cl',Y9,y2⟩:=vc (scope:=sc) (env:=cx.env) fun y hy e=>by
  obtain⟨q1,k,q2⟩:=sf.free y hy e
  rcases(C.rs _ _ q2).2 with⟨Ub,_⟩|⟨_,c,h1,_⟩
  ·have:=C.sck _ q1
   rw[Ub]at this
   exact(this.elim nofun nofun:False).elim
  ·exact⟨c,h1⟩
 refine zk ?_
 refine wpAny_comprehension_free (g:=⟨G1 J.nm ks r,FD ik (py J.nm it),gi J.nm cs,0⟩) (gs:=[]) rfl (xg zC) Y9 sf.kind sf.loc (HP (n:=n) G M C R hit (aP w) (aP (aB (aB (aB w)))) h fun items BC x g₁ h₁ EC hq R₁ K₁ S₁ T7=>?_)
 obtain⟨hfu,hL⟩:=km hq
 refine DP (s:={s with heap:=h₁,toks:=EC}) (n:=n) G M R₁ S₁ fun I fp S g₂ h₂ PD oI R₂ K₂ O₂ hIn w₂ Zf=>?_
 refine jT ?_
 have R₃:=de R₂ (dq [] 0) .rest
 have Oe:=cJ R₂
 have K₃:Kp n g₂ (g₂.push h₂.objs.size (dq [] 0) .rest):=cU Oe
 refine wpAny_newFunctionEnv sf.cell (fun y hy=>(bt hy).elim) (fun h₄ abc aa8=>?_) sf.kind
 refine Gk fun zG zk=>?_
 obtain⟨oC,R₄,K₄⟩:=R₃.enter (n:=n) (sc:=sc) (cl:=cl') (nm:=J.nm) (ks:=ks) (aB hfu) abc aa8
 have Ua:=cJ R₃
 have JM:(h₂.push (dq [] 0)).objs.size∉cx.cds:=fun hm=>by
  obtain⟨o,ho,_⟩:=R₃.cds _ hm
  exact absurd (Ua _ ho.2) (y5 _)
 obtain⟨C',Nm⟩:=OT (cl:=cl') C sf JM y2
 have K₁₂:=K₁.trans K₂ (ab _)
 have L₄:Le (fun _=>True) (g₂.push h₂.objs.size (dq [] 0) .rest) ((g₂.push h₂.objs.size (dq [] 0) .rest).push (h₂.push (dq [] 0)).objs.size oC .cd):=cT Ua
 have L₃:Le (fun _=>True) g₂ (g₂.push h₂.objs.size (dq [] 0) .rest):=cT Oe
 have V5:∀p∈g.nw,p.1≠I:=fun p hp e=>by
  obtain⟨o',oQ⟩:=K₁.zz _ _ hp
  obtain⟨q1,q2⟩:=hIn _ oQ e
  exact T7 I q1 q2 p hp e
 have V7:∀p∈g.nw,p.1≠h₂.objs.size:=fun p hp=>let ⟨o',oQ⟩:=K₁₂.zz _ _ hp;bO (Oe (p.1,o') oQ)
 have tJ:∀p∈g.nw,p.1≠(h₂.push (dq [] 0)).objs.size:=fun p hp=>let ⟨o',oQ⟩:=(K₁₂.trans K₃ (ab _)).zz _ _ hp;bO (Ua (p.1,o') oQ)
 have hS₄:S 0 h₄:=w₂.keep Zf O₂ R₂.toBs R₄.toBs (K₃.trans K₄ (ab _)).toKq
 have Uh:LU D A P f (cx.comp sc cl' (h₂.push (dq [] 0)).objs.size J.nm (pH ks)) n g {s with heap:=h₄,toks:=PD+0} I h₂.objs.size fp S items (oW cl d e cs ks) Qf items.length {s with heap:=h₄,toks:=PD+0}:=
  .mk 0 BC _ h₄ (PD+0) [] 0 [] _ (bC _) R₄ ((K₁₂.trans K₃ (ab _)).trans K₄ (ab _)) (L₄.ob _ _ _ trivial (L₃.ob _ _ _ trivial O₂)) (L₄.ob _ _ _ trivial (dk:Ob (g₂.push h₂.objs.size (dq [] 0) .rest) h₂.objs.size .rest (dq [] 0))) .nil (w₂.mono ((L₃.gZ trivial).trans (L₄.gZ trivial))) hS₄ hL (ab _)
 have loop:codeAny (oK D.prog D.w) A (.compLoop (.ListComp (py J.nm e) [⟨G1 J.nm ks r,FD ik (py J.nm it),gi J.nm cs,0⟩] sc pos) 0 (.ref I) (.ref h₂.objs.size) (cx.comp sc cl' (h₂.push (dq [] 0)).objs.size J.nm (pH ks)).env)
  (compPost (oK D.prog D.w) A E use K (.ref h₂.objs.size) (h₂.push (dq [] 0)).objs.size) {s with heap:=h₄,toks:=PD+0}:=
  yA _ (fun m s₁ hI=>Gr (J:=J.comp sc ks) (e:=e) (cs:=cs) M C' Nm (fun k hk=>⟨_,uI hk⟩) (ae (aP hfu)) V5 V7 tJ (bO (Oe _ O₂.2):I≠h₂.objs.size) R.gY he (aP (aB w)) FM (aP (aB (aB w))) (fun ms st' g' h' tk ys nn q R' K' O' T'=>by
   obtain⟨oC',abb,Zi⟩:=R'.cds _ (.head _)
   exact k q R'.leave K' O' T' abb ⟨_,Zi⟩ JM tJ V7) hI) _ Uh
 refine zk ?_
 exact codeAny_compStart_list loop ((w₂.mono ((L₃.gZ trivial).trans (L₄.gZ trivial))).W.self 0 _ _ _ hS₄ loop)
theorem RR{sc:fq}(G:fL D P)(M:cY D f A d)(hit:SE D P f A cl d it)(he:SE D P f A cl d e)(FM:VH D P f A cl d cs):SE D P f A cl d (.comp e ks r ik it cs sc p):=fun{cx J n E s g st Q K} C w R h k=>by
 refine(eval_ListComp (py J.nm e) [⟨G1 J.nm ks r,FD ik (py J.nm it),gi J.nm cs,0⟩] sc p)▸Av (use:=none) (n:=n) G M C R hit he FM w h fun ms stE g' h' tk ys nn Cc Dl oC q R' K' O' T' Mg⟨mm,hN⟩ Od tJ V7=>?_
 refine⟨mm,hN.ns (R'.N _ Mg.2).1,fun h'' hs=>?_⟩
 have Zk:Dl≠Cc:=fun e=>by subst e;exact nomatch O'.1.symm.trans Mg.1
 have O₂:=mV Zk O'
 exact k q ((R'.KA Mg (.inr rfl) (fun b o hb e=>(hs.2 b hb).trans e) ⟨_,O'.2,Zk⟩ Od C.Sw).JX (X:=.m8 n) O₂.1) ((K'.drop tJ R.gY).JY V7) ⟨Dl,rfl,ys,nn,iT O₂,(T'.mono ((qA Mg.1).gZ nofun)).mono ((dN O₂.1).gZ nofun)⟩
end
structure nr where
 name:Str
 qual:Str
 params:rX
 body:List pX
 scope:fq
 dV:aj
 kV:aj
 doc:aj
 pm:aj
 Az:aj
 ct:aj
 oc:aj
 an:Option aZ
 od:Option aZ
 V4:Array (Option aj)
noncomputable def nr.fd(X:nr):FuncData:=fnOf X.name X.qual X.params X.body X.scope X.dV X.kV X.doc X.pm X.an X.Az X.ct
noncomputable def nr.obj(X:nr):Obj:=⟨X.oc,X.od,.func X.fd,X.V4⟩
structure FnIn(D:dh)(a:aZ)(X:nr):Prop where
 look:D.K.lookup a=some X.obj
 code:codeIn D.K X.Az X.qual=true
 kind:X.scope.kind=.function
 co:X.scope.isCoroutine=false
 gen:X.scope.isGenerator=false
structure ClsIn(D:dh)(C:aZ)(nm:String)(fI:aZ)(X:nr):Prop where
 glob:nsIn D.K dA (af nm)=some (some (.ref C))
 keep:keepIn D.K (.ref C)=true
 make:makesIn D.K C=true
 dict:oM D.K C=true
 sa:fO D.K (.ref C) "__setattr__"=some (some (.builtin "object.__setattr__"))
 po:plainOver D.K C=true
 ini:fO D.K (.ref C) "__init__"=some (some (.ref fI))
 isf:isFn D.K (.ref fI)=true
 fn:FnIn D fI X
noncomputable def r4:Str:=af "self"
inductive abF(b:List pX):Prop
 |mk(p1 p2:Pos)(k1:Nat)(p3 p4 p5 p6:Pos)(k2:Nat)(p7 p8:Pos)(h:b=[.Assign [.Attribute (.Name r4 p1) (eA .many) p2] (.Constant (.int 0) k1 p3) p4,.Assign [.Attribute (.Name r4 p5) (eA .bB) p6] (.Constant (.bool false) k2 p7) p8])
structure Ej(D:dh)(C fI:aZ)(X:nr):Prop extends ClsIn D C "Uses" fI X where
 tkm:nA D.K C (eA .many)=some none
 tki:nA D.K C (eA .bB)=some none
 bind:∀x,mC X.fd ⟨[x],[]⟩=pure [(r4,x)]
 cells:∀x∈X.scope.names,x.2≠ .cell
 self:X.scope.names.lookup r4=some .local
 body:abF X.body
section
variable{D:dh}{P:ck}{f:Fm}{cx:Cx}{J:Cn}{A:b9}{E:aj->aw->Prop}{s:aw}{st st':St}{g g':Gh}{n d:Nat}{cl:lq}{p q:Pos}
theorem ZD{p:α->Bool}{x:α}(h:p x=false):qR p [x]=none:=by
 show(match p x with|true=>some x|false=>none)=none
 rw[h]
theorem uZ{t1:Tok}{v1:aj}(eM:(a==b)=false):(cj b [⟨h1,.str a t1,v1⟩]).isSome=true:=by
 rw[J5 (c:=b) (es:=[⟨h1,.str a t1,v1⟩]) (ZD (p:=fun e:cw=>e.key.isStr b) eM) rfl];rfl
theorem Dq(eM:(a==b)=false):(iK b h2 k2 v2 [⟨h1,.str a t1,v1⟩],iJ b [⟨h1,.str a t1,v1⟩] m)=([⟨h1,.str a t1,v1⟩,⟨h2,k2,v2⟩],m+1):=by
 have e1:gJ (.str a t1) b=false:=eM
 simp[iK,iJ,e1]
theorem BL(M:cY D f A d)(hd:1<=d):(A.under (.builtin "type.__call__" ⟨.ref Ca::args,[]⟩)).depth<jU:=by
 have:=M.depth
 show A.depth+_<jU
 rw[(by rfl:(nE "type.__call__" ⟨.ref Ca::args,[]⟩).weight=1)];exact LW (aa (ag hd _) M.depth)
noncomputable def Mr(kh:Str->Int)(t1 t2 t3:Tok)(nn:Nat):Obj:=y4 [⟨kh (eA .many),.str (eA .many) t1,.int 0 t3⟩,⟨kh (eA .bB),.str (eA .bB) t2,.bool false⟩] nn
theorem tV{K:Flow->aw->Prop}(h:b=b')(k:Wp D A (execs b' env) K E s):Wp D A (execs b env) K E s:=h▸k
theorem Q3{X:nr}(I:Ej D C fI X)(M:cY D f A d)(hd:2<=d)(R:Rel P f cx s.heap st g)
 (k:∀x dx t1 t2 t3 nn h' tk,Fr f.h₀ f.L h' (fun y=>g.pv (.loc y))->News f.h₀ f.L h' ((x,iC C dx)::(dx,Mr (bg D.w.params) t1 t2 t3 nn)::g.nw)->(∀p∈g.nw,p.1<dx)->dx<x->Q (.ref x) {s with heap:=h',toks:=tk}):
 Wp D A (call (.ref C) []) Q E s:=by
 obtain⟨p1,p2,k1,p3,p4,p5,p6,k2,p7,p8,hb⟩:=I.body
 refine call_cls R.F M.X R.N I.make I.ini I.isf fun x dx h' F' N' fC hx=>?_
 refine code_def (s:={s with heap:=h'}) M.B F' M.X N' M.T (by exact mD.symm▸M.hA) M.hf M.hk I.fn.look I.fn.code (BL M (cv hd)) (vO (I.bind (.ref x))) (fun y hy=>by cases bj.mp hy;exact I.self) (fun g₀ L' h₁ FG F₁ N₁ B₁ X₁ T₁=>?_) I.fn.co I.fn.gen I.fn.kind I.cells
 refine tV hb ?_
 have w8:(fun y=>([(r4,fj x)].reverse).lookup y) r4=some (.ref x):=by simp
 have up:∀{o o':Obj},Upd dx o o' ((x,iC C dx)::(dx,o)::g.nw) ((x,iC C dx)::(dx,o')::g.nw):=Upd.tail (nG hx) (Upd.head fun p hp=>bO (fC p hp))
 refine ba (dr (hs:=rfl) (jm (tZ (hd:=by decide+kernel) (fH I.fn.kind I.self F₁.ns w8 ?_))))
 refine set_dict F₁ X₁ N₁ (lR N₁ (.head _) (.tail _ (.head _))) rfl I.sa I.po I.tkm I.dict rfl (es':=[⟨bg D.w.params (eA .many),.str (eA .many) _,_⟩]) (n':=0+1) rfl up (by simp) fun h₂ F₂ N₂=>?_
 refine ba (dr (hs:=rfl) (wpAny_Constant_bool (tZ (hd:=by decide+kernel) (fH I.fn.kind I.self F₂.ns w8 ?_))))
 refine set_dict F₂ X₁ N₂ (lR N₂ (.head _) (.tail _ (.head _))) rfl I.sa I.po I.tki I.dict (uZ (by decide+kernel)) (es':=[⟨bg D.w.params (eA .many),.str (eA .many) _,_⟩,⟨bg D.w.params (eA .bB),.str (eA .bB) _,_⟩]) (n':=0+1+1) (Dq (by decide+kernel)) up (by simp) fun h₃ F₃ N₃=>?_
 exact jc (leaveK_ F₃ N₃ fun F₄ N₄=>⟨rfl,k x dx _ _ _ _ _ _ F₄ N₄ fC hx⟩)
theorem EP{X:nr}(G:fL D P)(I:Ej D P.cUses fI X)(M:cY D f A d):SE D P f A cl d (.oA p q):=fun{cx J n E s g st Q K} C w R h k=>by
 obtain⟨hd,hq⟩:=e5 h
 refine Call_ (lD M C R w I.glob (by decide+kernel) (callWith_K0 (M.X.keeps R.F.keep) I.keep (Q3 I M hd R fun x dx t1 t2 t3 nn h' tk F' N' fC hx=>?_)))
 obtain⟨R₂,K₂,O1,O2,L⟩:=R.Ij (n:=n) (X:=.cell st.mu.length 0) (Y:=.cell st.mu.length 1) F' N' fC hx
 exact k hq (R₂.td (a:=x) (c:=.uses 0 false) ⟨x,dx,t1,t2,t3,nn,(R₂.len▸mq),iW.ob _ _ _ trivial O1,iW.ob _ _ _ trivial (by rw[G.kh];exact O2)⟩) (K₂.trans xZ (ab _)) (VR.of (trR (R₂.len▸mq)))
end
structure Facts(D:dh)(P:ck):Prop where
 G:fL D P
 GI:wh D P
 GE:A4 D P
 GF:yT D P
 I:∀c,yU D (P.cls c) ((fieldsOf c).map eA)
 U:∃fI X,Ej D P.cUses fI X
 LO:LP P
 fr:nsIn D.K dA (af "Fresh")=some (some (.ref P.cFresh))/\keepIn D.K (.ref P.cFresh)=true
 ru:nsIn D.K dA (af "_law_rule")=some (some (.ref (P.fn 73)))/\keepIn D.K (.ref (P.fn 73))=true
noncomputable def Lv(ks:List Str):List (Str×MV):=ks.foldl (fun es k=>br es k (.bool true)) []
noncomputable def kz(D:dh)(P:ck)(d:Nat):Prop:=
 ∀⦃f cx A s st g n E K v⦄(ks:List Str),cY D f A d->Rel P f cx s.heap st g->Tr P g none (.lst (ks.map .str)) v->ks.length<=100->
  (∀v' g' h' tk,Rel P f cx h' {st with mu:=st.mu++[.fresh (Lv ks) []]} g'->Kp n g g'->Tr P g' none (.ref st.mu.length) v'->K v' {s with heap:=h',toks:=tk})->Wp D A (call (.ref P.cFresh) [v]) K E s
noncomputable def mY(D:dh)(P:ck)(d:Nat):Prop:=
 ∀⦃f cx A s st g n E K u v⦄(k i:Nat),cY D f A d->Rel P f cx s.heap st g->Tr P g none (.int k) u->Tr P g none (.ref i) v->k<8->st.mu[0]?=some (.tab 0)->
  (∀v' g' h' tk,Rel P f cx h' {st with mu:=st.mu.set 0 (.tab 1)} g'->Kp n g g'->Tr P g' none (.xj k i) v'->K v' {s with heap:=h',toks:=tk})->Wp D A (call (.ref (P.fn 73)) [u,v]) K E s
section
variable{D:dh}{P:ck}{f:Fm}{cx:Cx}{J:Cn}{A:b9}{E:aj->aw->Prop}{s:aw}{st st':St}{g g':Gh}{n d:Nat}{cl:lq}{p q:Pos}
theorem My:∀{xs:List MV}{Q:List Str->Prop},Dd xs Q->Vw xs (iw MV.str) Q:=by
 intro xs
 induction xs with
 |nil=>
  intro _ h
  exact⟨[],rfl,h⟩
 |cons x xs cz=>
  intro _ h
  obtain⟨k,rfl,h⟩:=nL h
  obtain⟨ks,e,h⟩:=cz h
  exact⟨k::ks,by rw[e];rfl,h⟩
theorem BK(Fc:Facts D P)(N:3<=d->kz D P d)(M:cY D f A d)(hx:SE D P f A cl d x):SE D P f A cl d (.l8 x p q):=fun{cx J n E s g st Q K} C w R h k=>by
 refine Call_ (lD M C R (aB w) Fc.fr.1 (by decide+kernel) ?_)
 refine mX (first:=[]) (xs:=.cons x .nil) (n:=n) (Q:=fun ms st=>match ms with|[m]=>rz m fun xs=>Dd xs fun ks=>gd (aV ks.length 100&&aV 3 d) (Q false (.ref st.mu.length) {st with mu:=st.mu++[.fresh (Lv ks) []]})|_=>False) M R Fc.fr.2 (oq hx uu) C ((qd _).trans (aP w)) h fun ms eZ vs g1 h1 t1 hq R1 K1 T1=>?_
 match ms,hq with
 |[m],hq=>
  obtain⟨xs,rfl,q1⟩:=pF hq
  obtain⟨ks,rfl,q2⟩:=My q1
  obtain⟨hb,hq⟩:=km q2
  obtain⟨v,rr,rfl,u1,u2⟩:=T1.inv
  cases(show rr=[]from u2)
  exact N (ae (aB hb)) (s:={s with heap:=h1,toks:=t1}) ks M R1 u1 (ae (aP hb)) fun v' g' h' tk R' K' T'=>k hq R' (K1.trans K' (ab _)) (VR.of T')
theorem RF(Fc:Facts D P)(N:1<=d->mY D P d)(M:cY D f A d)(hx:SE D P f A cl d x)(hy:SE D P f A cl d y):SE D P f A cl d (.rule x y p q):=fun{cx J n E s g st Q K} C w R h k=>by
 refine Call_ (lD M C R (aB (aB w)) Fc.ru.1 (by decide+kernel) ?_)
 refine mX (first:=[]) (xs:=.cons x (.cons y .nil)) (n:=n) (Q:=fun ms st=>match ms with|[a,b]=>eU a fun z=>sY z fun k=>rt b fun i=>gd (jo k 8&&aV 1 d) (cellAt st 0 fun c=>Rg c fun n=>gd (aL n 0) (Q false (.xj k i) {st with mu:=st.mu.set 0 (.tab 1)}))|_=>False) M R Fc.ru.2 (oq hx (oq hy uu)) C
  (by show(wf x J&&(wf y J&&true))=true;refine(aP w).symm▸(aP (aB w)).symm▸?_;rfl) h fun ms eZ vs g1 h1 t1 hq R1 K1 T1=>?_
 match ms,hq with
 |[a,b],hq=>
  obtain⟨z,rfl,hq⟩:=pJ hq
  obtain⟨k',rfl,hq⟩:=nR hq
  obtain⟨i,rfl,hq⟩:=mH hq
  obtain⟨hb,q5⟩:=km hq
  obtain⟨c,hm,q6⟩:=hJ q5
  obtain⟨t,rfl,q7⟩:=Rf q6
  obtain⟨ht,q8⟩:=km q7
  cases df ht
  obtain⟨v,rr,rfl,u1,u2⟩:=T1.inv
  obtain⟨v2,rr,rfl,u4,u3⟩:=u2.inv
  cases(show rr=[]from u3)
  exact N (ae (aB hb)) (s:={s with heap:=h1,toks:=t1}) k' i M R1 u1 u4 (ae (aP hb)) hm fun v' g' h' tk R' K' T'=>k q8 R' (K1.trans K' (ab _)) (VR.of T')
theorem Xm(hs:SEa D P f A cl d xs):SE D P f A cl d (.and xs p):=fun{cx J n E s g st Q K} C w R h k=>(hs C w R (Q:=fun m st=>Q false m st) fun m st' v g' h' tk q R' K' T=>k q R' K' (VR.of T)).1 h
theorem aaC(hs:SEa D P f A cl d xs):SE D P f A cl d (.or xs p):=fun{cx J n E s g st Q K} C w R h k=>(hs C w R (Q:=fun m st=>Q false m st) fun m st' v g' h' tk q R' K' T=>k q R' K' (VR.of T)).2 h
structure jD(D:dh)(P:ck)(f:Fm)(A:b9)(cl:lq)(d:Nat)(x:X):Prop where
 e:SE D P f A cl d x
 t:ST D P f A cl d x
 l:SL D P f A cl d x
 a:Ws D P f A cl d x
 b:SEa D P f A cl d x
 o:oneAt x=true->VH D P f A cl d x
theorem jD.mk'(h:cP cl d x=II (cP cl d x).ev (cP cl d x).tt)(ho:oneAt x=false)(e:SE D P f A cl d x)(t:ST D P f A cl d x):jD D P f A cl d x where
 e:=e
 t:=t
 l:=fun _ _ _ _ _ _ _ _ _ _ C w R hh k=>by rw[h]at hh;exact hh.elim
 a:=fun _ _ _ _ _ _ _ _ _ C w R k=>by exact h.symm▸⟨bR,bR⟩
 b:=fun _ _ _ _ _ _ _ _ _ _ C w R k=>by exact h.symm▸⟨bR,bR⟩
 o:=fun h=>nomatch ho.symm.trans h
theorem jD.val(h:cP cl d x=gf (cP cl d x).ev)(ho:oneAt x=false)(hp:∀nm env whole,isTrue (py nm x) env whole=(do let v<-whole;standAt (py nm x).pos;holding [v] (kI v)))(e:SE D P f A cl d x):jD D P f A cl d x:=
 .mk' (h.trans (congrArg (II (cP cl d x).ev) (congrArg Sm.tt h).symm)) ho e (WY e (fun h'=>by rw[h]at h'⊢;exact h') hp)
theorem Nn:oneAt (.cons x xs)=true->xs=.nil:=by
 induction xs with
 |nil=>exact fun _=>rfl
 |_=>exact ff
theorem LL(Fc:Facts D P)(NF:3<=d->kz D P d)(RU:1<=d->mY D P d)(H:lQ D P d cl)(M:cY D f A d):∀x,jD D P f A cl d x:=by
 intro x
 obtain⟨fI,X,hU⟩:=Fc.U
 induction x with
 |nil=>exact⟨fun _ _ _ _ _ _ _ _ _ _ _ _ h _=>h.elim,fun _ _ _ _ _ _ _ _ _ _ _ _ h _=>h.elim,uu,Rh,fun _ _ _ _ _ _ _ _ _ _ _ _ _ _=>⟨bR,bR⟩,fun _=>Q9⟩
 |cons x xs i1 i2=>exact⟨fun _ _ _ _ _ _ _ _ _ _ _ _ h _=>h.elim,fun _ _ _ _ _ _ _ _ _ _ _ _ h _=>h.elim,oq i1.e i2.l,Mv i1.t i2.a,OM i1.e i2.b,fun h=>by cases Nn h;exact Q8 i1.t⟩
 |v k p=>exact .mk' rfl rfl s_v t_v
 |int z p=>exact .val rfl rfl (fun _ _ _=>rfl) Xh
 |str z p=>exact .val rfl rfl (fun _ _ _=>rfl) W8
 |bool z p=>exact .val rfl rfl (fun _ _ _=>rfl) s_bool
 |Nv p=>exact .val rfl rfl (fun _ _ _=>rfl) Xc
 |neg z p q=>exact .val rfl rfl (fun _ _ _=>rfl) Xe
 |tup xs p i=>exact .val rfl rfl (fun _ _ _=>rfl) (W6 i.l)
 |lst xs p i=>exact .val rfl rfl (fun _ _ _=>rfl) (Xf i.l)
 |cell xs p i=>exact .val rfl rfl (fun _ _ _=>rfl) (RT i.l)
 |d0 p=>exact .val rfl rfl (fun _ _ _=>rfl) aaE
 |d1 k x p q i=>exact .val rfl rfl (fun _ _ _=>rfl) (aaD Fc.G i.e)
 |fld x fd p i=>exact .val rfl rfl (fun _ _ _=>rfl) (Xj Fc.G Fc.GF M i.e)
 |call k xs p q i=>exact .val rfl rfl (fun _ _ _=>rfl) (s_call Fc.G H M i.l)
 |new c xs p q i=>exact .val rfl rfl (fun _ _ _=>rfl) (Xd Fc.G Fc.I M i.l)
 |l8 x p q i=>exact .val rfl rfl (fun _ _ _=>rfl) (BK Fc NF M i.e)
 |oA p q=>exact .val rfl rfl (fun _ _ _=>rfl) (EP Fc.G hU M)
 |rule x y p q i j=>exact .val rfl rfl (fun _ _ _=>rfl) (RF Fc RU M i.e j.e)
 |kj x m xs p q i j=>exact .val rfl rfl (fun _ _ _=>rfl) (RG Fc.G Fc.GF H M i.e j.l)
 |xl k x p q i=>exact .val rfl rfl (fun _ _ _=>rfl) (MW Fc.G Fc.LO H M i.e)
 |lM k r p q=>exact .val rfl rfl (fun _ _ _=>rfl) (RJ Fc.G M)
 |b1 o x p q i=>exact .val rfl rfl (fun _ _ _=>rfl) (aaG Fc.G M i.e)
 |b2 o x y p q i j=>exact .val rfl rfl (fun _ _ _=>rfl) (aaF Fc.G M i.e j.e)
 |isin x cs r p q i=>exact .val rfl rfl (fun _ _ _=>rfl) (RL Fc.G Fc.GI M i.e)
 |F6 x k p q i j=>exact .val rfl rfl (fun _ _ _=>rfl) (RP Fc.G i.e j.e)
 |F5 x k z p q i j l=>exact .val rfl rfl (fun _ _ _=>rfl) (RM Fc.G i.e j.e l.e)
 |Gb x fd k z r s t p q i=>exact .val rfl rfl (fun _ _ _=>rfl) (RQ Fc.G Fc.GF M i.e)
 |fin k x fd p q i j=>exact .mk' rfl rfl (fun _ _ _ _ _ _ _ _ _ _ _ _ h _=>h.elim) (WV Fc.G Fc.GF M i.e j.e)
 |rfind x z r p q i=>exact .val rfl rfl (fun _ _ _=>rfl) (MU i.e)
 |isdigit x p q i=>exact .val rfl rfl (fun _ _ _=>rfl) (ER i.e)
 |append k x r p q i=>exact .val rfl rfl (fun _ _ _=>rfl) (H1 i.e)
 |pop k r p q=>exact .val rfl rfl (fun _ _ _=>rfl) s_pop
 |bin o x y p i j=>exact .val rfl rfl (fun _ _ _=>rfl) (Xl i.e j.e)
 |cmp o x y p i j=>exact .mk' rfl rfl (Xk Fc.G Fc.GI Fc.GE M i.e j.e) (WW Fc.G Fc.GI Fc.GE M i.e j.e)
 |isNone x r p i=>exact .mk' rfl rfl (H0 i.e) (HJ i.e)
 |and xs p i=>exact .mk' rfl rfl (Xm i.b) (WX i.a)
 |or xs p i=>exact .mk' rfl rfl (aaC i.b) (aaA i.a)
 |not x p i=>exact .mk' rfl rfl (Xb i.e) (WU i.t)
 |ite c a b p i j k=>exact .mk' rfl rfl (Xg i.t j.e k.e) (fun _ _ _ _ _ _ _ _ _ _ _ _ h _=>h.elim)
 |sub x i p i1 i2=>exact .val rfl rfl (fun _ _ _=>rfl) (W7 Fc.G i1.e i2.e)
 |dP k i r p i1=>exact .val rfl rfl (fun _ _ _=>rfl) (RC Fc.G i1.e)
 |Rw x i r p i1 i2=>exact .val rfl rfl (fun _ _ _=>rfl) (W9 i1.e i2.e)
 |ur k i r s p i1=>exact .val rfl rfl (fun _ _ _=>rfl) (RD i1.e)
 |sX k i r s p i1=>exact .val rfl rfl (fun _ _ _=>rfl) (RE i1.e)
 |comp e ks r ik it cs sc p i1 i2 i3=>exact .val rfl rfl (fun _ _ _=>rfl) (fun _ _ _ _ _ _ _ _ _ C w R h k=>RR Fc.G M i2.e i1.e (i3.o (aP (aB (aB (aB (aB w)))))) C w R h k)
variable{W:Nat}{o:Pos}
noncomputable def FlR(P:ck)(g:Gh)(n:Nat):Fl->Flow->Prop
 |.Dv,.next=>True
 |.cont,.cont=>True
 |.ret b m,.ret v=>VR P g n b m v
 |_,_=>False
noncomputable def QM(P:ck)(f:Fm)(cx:Cx)(n:Nat)(g:Gh)(s:aw)(Q:Fl->St->Prop)(K:Flow->aw->Prop):Prop:=
 ∀⦃fl st' flow g' h' tk⦄,Q fl st'->Rel P f cx h' st' g'->Kq n g g'->FlR P g' n fl flow->K flow {s with heap:=h',toks:=tk}
theorem QM.at{K:Flow->aw->Prop}(k:QM P f cx n g s Q K)(K1:Kq n g g'):QM P f cx n g' {s with heap:=h1,toks:=t1} Q K:=fun _ _ _ _ _ _ q R K2 F=>k q R (K1.trans K2 (ab _)) F
noncomputable def SS(D:dh)(P:ck)(f:Fm)(A:b9)(W:Nat)(cl:lq)(d:Nat)(b:Ss):Prop:=
 ∀⦃cx J n E s g st Q K⦄,eX f cx J->cx.ro=false->rY b J=true->Rel P f cx s.heap st g->dJ W cl d b st Q->QM P f cx n g s Q K->Wp D A (execs (iF J.nm b) cx.env) K E s
theorem Ro:SS D P f A W cl d .nil:=fun{cx J n E s g st Q K} C ro w R h k=>jc (k (flow:=.next) (h':=s.heap) (tk:=s.toks) h R .refl trivial)
theorem Sp(R:Rel P f cx h st g)(V:VR P g n b m v):∃g₁,Rel P f cx h st g₁/\Kp n g g₁/\C0 P g₁ k (lL b m) v:=by
 induction b with
 |false=>exact⟨g,R,.refl,.inl ⟨m,rfl,V⟩⟩
 |true=>
  obtain⟨a,rfl,o⟩:=V
  exact⟨g.give a (.slot k),R.JW o.ow,uT o.ow (ab _),.inr ⟨m,a,rfl,rfl,o.give nofun⟩⟩
theorem QU(C:eX f cx J)(ro:cx.ro=false)(h:ug J k=true):rQ f cx (J.nm k) k:=⟨C.rs _ k (eq_of_beq h),.inl ro⟩
theorem C8(C:eX f cx J)(ro:cx.ro=false)(h:vsb J ks=true):∀k∈ks,rQ f cx (J.nm k.1) k.1:=fun k hk=>QU C ro (bw.mp h k hk)
inductive VP(nm:Nat->Str)(x:X):Prop
 |no(h:xO (py nm x)=true)
 |co(e:X)(ks:List (Nat×Pos))(r:Pos)(ik:Ik)(it cs:X)(sc:fq)(p:Pos)(h:x=.comp e ks r ik it cs sc p)
theorem OS(x:X):VP nm x:=by
 induction x with
 |comp=>exact .co _ _ _ _ _ _ _ _ rfl
 |_=>exact .no (@rfl _ true)
theorem HL(h:xO e=true):mA e t l env=pure false:=by
 cases e<;>first|exact @rfl _ (pure false:Sem Bool)|exact ff h
theorem Mw{sc:fq}:(mA (.ListComp elt gens sc p) (some (.Name y q)) line env=pure false)\/mA (.ListComp elt gens sc p) (some (.Name y q)) line env=pure true:=by
 have e:mA (.ListComp elt gens sc p) (some (.Name y q)) line env=pure (env.blockKind==.function&&env.kindOf y==some .local&&q.line==p.line&& !(sc.names.any fun(n,k)=>n==y&&(k==.local||k==.cell))):=rfl
 refine e.symm▸?_
 cases(env.blockKind==.function&&env.kindOf y==some .local&&q.line==p.line&& !(sc.names.any fun(n,k)=>n==y&&(k==.local||k==.cell)))with
 |false=>exact .inl rfl
 |true=>exact .inr rfl
theorem xv{Q:St->Prop}{K:Flow->aw->Prop}(C:eX f cx J)(hr:rQ f cx (J.nm k) k)(hs:mA (py J.nm x) (some (iH J.nm k p)) q.line cx.env=pure false)(hx:SE D P f A cl d x)(w:wf x J=true)(R:Rel P f cx s.heap st g)
 (h:(cP cl d x).ev st fun b m st=>Q (st.put k (lL b m))) (kk:∀{st' g' h' tk},Q st'->Rel P f cx h' st' g'->Kq n g g'->K .next {s with heap:=h',toks:=tk}):Wp D A (exec (.Assign [iH J.nm k p] (py J.nm x) q) cx.env) K E s:=
 wpAny_Assign_Name (hx (n:=n) (Q:=fun b m st=>Q (st.put k (lL b m))) C w R h fun b m eZ v g1 h1 t1 hq R1 K1 V1=>by
  refine Gk fun zG zk=>?_
  obtain⟨g2,R2,K2,V2⟩:=Sp (k:=k) R1 V1
  refine zk ?_
  exact lW (s:={s with heap:=h1,toks:=t1}) C R2 hr V2 fun g3 h3 t3 R3 S3=>kk hq R3 ((K1.trans K2 (ab _)).toKq.trans (S3.kq n) (ab _))) hs
theorem Rel.Zl(R:Rel P f cx h st g){X:Ow}(hY:g.ow a=some .cd)(ha:a∉cx.cds):Rel P f cx h st (g.give a X)where
 toBs:=R.toBs.give hY (fun _ _=>by simp) (by simp)
 F:=R.F
 gi:=fun c hc=>let ⟨o',h1,h2⟩:=R.gi c hc;⟨o',(dN hY).ob _ _ _ (by simp) h1,h2⟩
 cds:=fun c hc=>let ⟨o',h1,h2⟩:=R.cds c hc;⟨o',⟨(if_neg fun(e:c=a)=>ha (e▸hc)).trans h1.1,h1.2⟩,h2⟩
 sl:=fun k=>(R.sl k).mono (dN hY) (by simp) (by simp) fun _ _=>rfl
 gY:=R.gY
theorem Lz{sc:fq}{Q:St->Prop}{K:Flow->aw->Prop}(G:fL D P)(M:cY D f A d)(C:eX f cx J)(R:Rel P f cx s.heap st g)(hr:rQ f cx (J.nm k) k)(hit:SE D P f A cl d it)(he:SE D P f A cl d e)(FM:VH D P f A cl d cs)
 (w:wf (.comp e ks r ik it cs sc pp) J=true) (hs:mA (py J.nm (.comp e ks r ik it cs sc pp)) (some (iH J.nm k p)) q.line cx.env=pure true)
 (h:(cP cl d (.comp e ks r ik it cs sc pp)).ev st fun b m st=>Q (st.put k (lL b m))) (kk:∀{st' g' h' tk},Q st'->Rel P f cx h' st' g'->Kq n g g'->K .next {s with heap:=h',toks:=tk}):Wp D A (exec (.Assign [iH J.nm k p] (py J.nm (.comp e ks r ik it cs sc pp)) q) cx.env) K E s:=by
 refine Eq.mpr (congrArg (fun t=>Wp D A t K E s) (exec_Assign_Name_used _ _ _ _ hs)) ?_
 refine au (wpAny_standAt (au ?_))
 show Wp D A (do let _<-comprehension (.ListComp (py J.nm e) [⟨G1 J.nm ks r,FD ik (py J.nm it),gi J.nm cs,0⟩] sc pp) sc cx.env (firstIterPos [⟨G1 J.nm ks r,FD ik (py J.nm it),gi J.nm cs,0⟩] pp) (newList []) false (ei (FD ik (py J.nm it)) cx.env) (some (iI (iH J.nm k p) cx.env))) _ _ s
 refine au (ed (Av (use:=some (iI (iH J.nm k p) cx.env)) (n:=n) (K:=fun _ s'=>K .next s') (Qf:=fun ms st=>Q ((qg ks st).put k (.own (.lst ms)))) G M C R hit he FM w h fun ms stE g' h' tk ys nn Cc Dl oC hq R' K' O' T' Mg⟨mm,hN⟩ Od tJ V7=>?_) (fun _ s' hq=>aO (aO hq)) fun _ _ e=>e)
 have Zk:Dl≠Cc:=fun e=>by subst e;exact nomatch O'.1.symm.trans Mg.1
 have O1:Ob (g'.give Cc .rest) Dl .rest (dq ys nn):=⟨(if_neg Zk).trans O'.1,O'.2⟩
 have O2:my P ((g'.give Cc .rest).give Dl (.slot k)) Dl (.slot k) (.lst ms):=⟨ys,nn,iT O1,(T'.mono ((dN Mg.1).gZ nofun):e7 P (g'.give Cc .rest) ms ys).mono ((dN O1.1).gZ nofun)⟩
 have OC2:Ob ((g'.give Cc .rest).give Dl (.slot k)) Cc .rest oC:=⟨(if_neg (bY Zk)).trans (iT Mg:Ob (g'.give Cc .rest) Cc .rest oC).1,(iT Mg:Ob (g'.give Cc .rest) Cc .rest oC).2⟩
 have K2:Kp n g ((g'.give Cc .rest).give Dl (.slot k)):=(K'.JY tJ).JY V7
 show Wp D A (iI (iH J.nm k p) cx.env (.ref Dl)) _ _ _
 refine wpAny_assign_Name (lW (s:={s with heap:=h',toks:=tk}) C ((R'.Zl (X:=.rest) Mg.1 Od).JX (X:=.slot k) O1.1) hr (.inr ⟨_,Dl,rfl,rfl,O2⟩) fun g3 h3 t3 R3 S3=>?_)
 refine⟨mm,hN.ns (R3.N _ ((S3.kq n).rest _ _ OC2).2).1,fun h4 hs4=>?_⟩
 refine Gk fun zG zk=>?_
 obtain⟨p,hp⟩:=R.lo.1
 obtain⟨o',oQ⟩:=K2.zz p.1 p.2 hp
 obtain⟨o'',JL⟩:=(S3.kq n).zz _ _ oQ
 refine zk ?_
 exact kk hq (R3.KA ((S3.kq n).rest _ _ OC2) (.inl rfl) (fun b o hb e=>(hs4.2 b hb).trans e) ⟨_,JL,tJ p hp⟩ Od C.Sw) ((K2.toKq.trans (S3.kq n) (ab _)).drop tJ)
theorem Rr(Fc:Facts D P)(M:cY D f A d)(hx:∀x,jD D P f A cl d x)(hr:SS D P f A W cl d r):SS D P f A W cl d (.asg k x p q r):=fun{cx J n E s g st Q K} C ro w R h kk=>by
 have w1:=aP w
 have wr:=QU C ro (aB (aB w))
 have go:∀{st' g' h' tk},dJ W cl d r st' Q->Rel P f cx h' st' g'->Kq n g g'->Wp D A (execs (iF J.nm r) cx.env) K E {s with heap:=h',toks:=tk}:=fun hq R1 K1=>hr C ro (aP (aB w)) R1 hq (kk.at K1)
 refine ba (Q:=K) ?_
 rcases OS (nm:=J.nm) x with hn|⟨e,ks,r',ik,it,cs,sc,pp,rfl⟩
 ·exact xv (n:=n) (Q:=fun st=>dJ W cl d r st Q) C wr (HL hn) (hx x).e w1 R h go
 ·rcases Mw (q:=p) (p:=pp) (elt:=py J.nm e) (gens:=[⟨G1 J.nm ks r',FD ik (py J.nm it),gi J.nm cs,0⟩]) (sc:=sc) (y:=J.nm k) (line:=q.line) (env:=cx.env)with hs|hs
  ·exact xv (n:=n) (Q:=fun st=>dJ W cl d r st Q) C wr hs (hx _).e w1 R h go
  ·exact Lz (n:=n) (Q:=fun st=>dJ W cl d r st Q) Fc.G M C R wr (hx it).e (hx e).e ((hx cs).o (aP (aB (aB (aB (aB w1)))))) w1 hs h go
theorem MK(x:X):swapsWithSole [.Tuple es 0 p] (py nm x) line env=pure false:=by induction x<;>exact @rfl _ (pure false:Sem Bool)
theorem EG(h:PR e=true):swappedStores [.Tuple es 0 p] e env=pure none:=by cases e<;>first|exact @rfl _ (pure none:Sem (Option (List Str)))|exact ff h
theorem MI(M:cY D f A d)(hx:jD D P f A cl d x)(hr:SS D P f A W cl d r):SS D P f A W cl d (.wd ks x p q r):=fun{cx J n E s g st Q K} C ro w R h kk=>by
 refine ba (Assign_Tuple (SE.fz hx.e n (Q:=fun m st=>EB m fun ms=>putAll ks ms st fun st=>dJ W cl d r st Q) C (aP w) R h fun m eZ v g1 h1 t1 hq R1 K1 T1=>?_) (MK x) (EG (aB (aB (aB (aB w))))))
 obtain⟨ms,rfl,hq⟩:=By hq
 exact vn (s:={s with heap:=h1,toks:=t1}) M C R1 (C8 C ro (aP (aB (aB w)))) T1 hq fun mF q2 g2 h2 t2 R2 S2=>hr C ro (aP (aB w)) R2 q2 (kk.at (K1.toKq.trans (S2.kq n) (ab _)))
theorem W3(hx:jD D P f A cl d x)(hr:SS D P f A W cl d r):SS D P f A W cl d (.ex x q r):=fun{cx J n E s g st Q K} C ro w R h kk=>by
 have hi:interactive cx.env=false:=by unfold interactive;refine C.kind.symm▸?_;rfl
 exact ba (wpAny_Expr_any (SE.fz hx.e n (Q:=fun _ st=>dJ W cl d r st Q) C (aP w) R h fun m eZ v g1 h1 t1 hq R1 K1 T1=>hr C ro (aP (aB w)) R1 hq (kk.at K1.toKq)) hi (HL (aB (aB w))))
theorem Rm(hx:jD D P f A cl d x):SS D P f A W cl d (.ret x q r):=fun{cx J n E s g st Q K} C ro w R h kk=>
 ba (vJ (hx.e (n:=n) (Q:=fun b m st=>Q (.ret b m) st) C (aP w) R h fun b m eZ v g1 h1 t1 hq R1 K1 V1=>kk (flow:=.ret v) hq R1 K1.toKq V1))
theorem MD:SS D P f A W cl d (.iE k p q r):=fun{cx J n E s g st Q K} C ro w R h kk=>by
 have S:=R.sl k
 refine ba (vJ ?_)
 rcases jL h with⟨m,hs,hq⟩|⟨m,hs,hq⟩
 ·rw[hs]at S
  obtain⟨qq,a,h1,h2,h3⟩:=S
  refine fB C R (aP w) (gF h1 h2) (kk (flow:=.ret _) (h':=s.heap) (tk:=s.toks) hq (g':=g.give a (.m8 n)) (R.Ql h3.ow rfl (by rw[lY hs];trivial) mI) (zT h3.ow).toKq ⟨a,rfl,h3.give nofun⟩)
 ·rw[hs]at S
  obtain⟨qq,v,h1,h2,h3⟩:=S
  exact fB C R (aP w) (gF h1 h2) (kk (flow:=.ret _) (h':=s.heap) (tk:=s.toks) hq R .refl h3)
theorem MF:SS D P f A W cl d (.cont q r):=fun{cx J n E s g st Q K} C ro w R h kk=>ba (wpAny_Continue (kk (flow:=.cont) (h':=s.heap) (tk:=s.toks) h R .refl trivial))
end
section
variable{D:dh}{P:ck}{f:Fm}{cx:Cx}{J:Cn}{A:b9}{E:aj->aw->Prop}{s:aw}{st st':St}{g g':Gh}{n d W:Nat}{cl:lq}{p q o:Pos}
theorem QM.rest{K:Flow->aw->Prop}(k:QM P f cx n g s Q K)(C:eX f cx J)(ro:cx.ro=false)(w:rY r J=true)(hr:SS D P f A W cl d r):
 QM P f cx n g s (EO (dJ W cl d r) Q) (fun f s'=>match f with|.next=>Wp D A (execs (iF J.nm r) cx.env) K E s'|f=>K f s'):=fun fl st' flow g' h' tk q R' K' F=>by
 induction fl with
 |Dv=>induction flow<;>first|exact F.elim|exact hr C ro w R' q (k.at K')
 |cont=>induction flow<;>first|exact F.elim|exact k q R' K' trivial
 |ret b m=>induction flow<;>first|exact F.elim|exact k q R' K' F
theorem Rp(hc:jD D P f A cl d c)(ha:SS D P f A W cl d a)(hb:SS D P f A W cl d b)(hr:SS D P f A W cl d r):SS D P f A W cl d (.gU c a b q r):=fun{cx J n E s g st Q K} C ro w R h k=>by
 have kr:=k.rest (A:=A) (W:=W) (d:=d) (cl:=cl) (E:=E) C ro (aB (aB (aB w))) hr
 refine ba (wpAny_If (hc.t (n:=n) (Q:=fun z st=>i0 z (dJ W cl d a st (EO (dJ W cl d r) Q)) (dJ W cl d b st (EO (dJ W cl d r) Q))) C (aP w) R h fun z eZ g1 h1 t1 hq R1 K1=>?_))
 induction z with
 |true=>exact ha (s:={s with heap:=h1,toks:=t1}) C ro (aP (aB w)) R1 hq (kr.at K1.toKq)
 |false=>exact hb (s:={s with heap:=h1,toks:=t1}) C ro (aP (aB (aB w))) R1 hq (kr.at K1.toKq)
inductive aan(P:ck)(f:Fm)(cx:Cx)(n:Nat)(g:Gh)(s:aw)(L:Nat->St->Prop):Nat->aw->Prop
 |mk(m:Nat)(BC:St)(g₁:Gh)(h₁:eO)(EC:Nat)(R₁:Rel P f cx h₁ BC g₁)(K₁:Kq n g g₁)(hl:L m BC):aan P f cx n g s L m {s with heap:=h₁,toks:=EC}
theorem Rl(hc:jD D P f A cl d c)(hb:SS D P f A W cl d b)(hr:SS D P f A W cl d r):SS D P f A W cl d (.Et c b q r):=fun{cx J n E s g st Q K} C ro w R h k=>by
 refine ba (wpAny_While (codeAny_whileLoop (aan P f cx n g s fun m st=>Ht (cP cl d c).tt (dJ W cl d b) (dJ W cl d r) m st Q) (fun m s₁ hI=>?_) W (.mk W st g s.heap s.toks R .refl h)))
 induction hI with
 |mk BC g₁ h₁ EC R₁ K₁ hl=>
 induction m with
 |zero=>exact hl.elim
 |succ m=>
  refine hc.t (n:=n) (s:={s with heap:=h₁,toks:=EC}) (Q:=fun z st=>i0 z (dJ W cl d b st (wz (fun st=>Ht (cP cl d c).tt (dJ W cl d b) (dJ W cl d r) m st Q) Q)) (dJ W cl d r st Q)) C (aP w) R₁ hl fun z mF g2 h2 t2 hq R2 K2=>?_
  induction z with
  |false=>exact jc ((k.rest (A:=A) (W:=W) (d:=d) (cl:=cl) (E:=E) C ro (aB (aB w)) hr) (fl:=.Dv) (flow:=.next) hq R2 (K₁.trans K2.toKq (ab _)) trivial)
  |true=>
   refine hb (n:=n) (s:={s with heap:=h2,toks:=t2}) C ro (aP (aB w)) R2 hq fun fl HO flow g3 h3 t3 hq R3 K3 F=>?_
   have K3':=(K₁.trans K2.toKq (ab _)).trans K3 (ab _)
   induction fl with
   |ret b m=>induction flow<;>first|exact F.elim|exact k hq R3 K3' F
   |Dv=>induction flow<;>first|exact F.elim|exact⟨m,dU m,.mk m HO g3 h3 t3 R3 K3' hq⟩
   |cont=>induction flow<;>first|exact F.elim|exact⟨m,dU m,.mk m HO g3 h3 t3 R3 K3' hq⟩
inductive VL(D:dh)(A:b9)(P:ck)(f:Fm)(cx:Cx)(n:Nat)(g:Gh)(s:aw)(I:aZ)(fp:List aZ)(S:Nat->eO->Prop)(items:List MV)(L:List MV->St->Prop):Nat->aw->Prop
 |mk(i:Nat)(BC:St)(g₁:Gh)(h₁:eO)(EC:Nat)(oI:Obj)(hi:i<=items.length)(R₁:Rel P f cx h₁ BC g₁)(K₁:Kq n g g₁)(Wo:Ob g₁ I .rest oI)(w₁:Wk D A P g₁ items I fp S)(hS₁:S i h₁)(Mb:L (items.drop i) BC):VL D A P f cx n g s I fp S items L (items.length-i) {s with heap:=h₁,toks:=EC}
theorem Kq.EM(K:Kq n g₀ g)(hn:∀p∈g₀.nw,p.1≠a):Kq n g₀ (g.set a o'):=
 ⟨⟨fun b o h=>⟨(K.fz b o h).1,fP (K.fz b o h).2 (hn _ h.2)⟩,K.ca⟩,fun b o h=>⟨(K.rest b o h).1,fP (K.rest b o h).2 (hn _ h.2)⟩,fun j b o hj h=>⟨(K.m8 j b o hj h).1,fP (K.m8 j b o hj h).2 (hn _ h.2)⟩,fun b o h=>let ⟨o2,e⟩:=K.zz b o h;⟨o2,fP e (hn _ h)⟩⟩
theorem W0(Fc:Facts D P)(M:cY D f A d)(hit:jD D P f A cl d it)(hb:SS D P f A W cl d b)(hr:SS D P f A W cl d r):SS D P f A W cl d (.fr ks p ik it b q r):=fun{cx J n E s g st Q K} C ro w R h k=>by
 refine ba (wpAny_For (HP (n:=n) Fc.G M C R hit.e (aP w) (aP (aB (aB (aB w)))) (Q:=fun xs st=>yo (fun m st Q=>kf ks m st fun st=>dJ W cl d b st Q) (dJ W cl d r) xs st Q) h fun items eZ x g1 h1 t1 hL R1 K1 S1 T7=>?_) (xg zC))
 refine DP (s:={s with heap:=h1,toks:=t1}) (n:=n) Fc.G M R1 S1 fun I fp S g2 h2 t2 oI R2 K2 O2 hIn w2' hS2=>?_
 have V5:∀p∈g.nw,p.1≠I:=fun p hp e=>by
  refine Gk fun zG zk=>?_
  obtain⟨o',oQ⟩:=K1.zz _ _ hp
  obtain⟨q1,q2⟩:=hIn _ oQ e
  refine zk ?_
  exact T7 I q1 q2 p hp e
 refine codeAny_forLoop_any (VL D A P f cx n g s I fp S items fun xs st=>yo (fun m st Q=>kf ks m st fun st=>dJ W cl d b st Q) (dJ W cl d r) xs st Q) (fun m s₁ hI=>?_) items.length (.mk 0 eZ g2 h2 t2 oI (bC _) R2 (K1.trans K2 (ab _)).toKq O2 w2' hS2 hL)
 induction hI with
 |mk i BC g3 h3 t3 oI hi R3 K3 O3 WM hS3 hL=>
 by_cases fC:i<items.length
 ·refine ie (s:={s with heap:=h3,toks:=t3}) R3 WM O3 hS3 fC fun v mv o' h4 t4 hm T4 R4 O4 hS4=>?_
  refine Gk fun zG zk=>?_
  obtain⟨oI4,nm,ho4,hc4,hn4⟩:=WM.obj _ _ hS4
  refine zk ?_
  refine Qj (s:={s with heap:=h4,toks:=t4}) ho4 hc4 hn4 ?_
  replace hL:=D1 hm▸hL
  have hL:kf ks mv BC fun st=>dJ W cl d b st (wz (fun st=>yo (fun m st Q=>kf ks m st fun st=>dJ W cl d b st Q) (dJ W cl d r) (items.drop (i+1)) st Q) Q):=hL
  refine D9 (s:={s with heap:=h4,toks:=t4}) M C R4 (C8 C ro (aB (aB (aB (aB w))))) T4 hL fun st5 q5 g5 h5 t5 R5 S5=>?_
  refine hb (n:=n) (s:={s with heap:=h5,toks:=t5}) C ro (aP (aB w)) R5 q5 fun fl st6 flow g6 h6 t6 hq R6 K6 F=>?_
  have KI:Kq n (g3.set I o') g6:=(S5.kq n).trans K6 (ab _)
  have fin:yo (fun m st Q=>kf ks m st fun st=>dJ W cl d b st Q) (dJ W cl d r) (items.drop (i+1)) st6 Q->∃m,m<items.length-i/\VL D A P f cx n g s I fp S items (fun xs st=>yo (fun m st Q=>kf ks m st fun st=>dJ W cl d b st Q) (dJ W cl d r) xs st Q) m {s with heap:=h6,toks:=t6}:=fun hq=>
   ⟨_,pY fC (dU i),.mk (i+1) st6 g6 h6 t6 o' fC R6 ((K3.EM V5:Kq n g (g3.set I o')).trans KI (ab _):Kq n g g6) (KI.rest _ _ O4) (WM.mono (((cH O3.1).gZ nofun:GLe g3 (g3.set I o')).trans KI.toGLe)) ((WM.mono ((cH O3.1).gZ nofun:GLe g3 (g3.set I o'))).keep hS4 O4 R4.toBs R6.toBs KI) hq⟩
  induction fl with
  |ret b m=>induction flow<;>first|exact F.elim|exact k hq R6 ((K3.EM V5:Kq n g (g3.set I o')).trans KI (ab _):Kq n g g6) F
  |Dv=>induction flow<;>first|exact F.elim|exact fin hq
  |cont=>induction flow<;>first|exact F.elim|exact fin hq
 ·have hil:i=items.length:=oe hi (Nat.not_lt.mp fC)
  subst hil
  rw[L4]at hL
  refine Gk fun zG zk=>?_
  obtain⟨p,hp⟩:=R.lo.1
  obtain⟨o',oQ⟩:=K3.zz p.1 p.2 hp
  refine zk ?_
  exact D3 (s:={s with heap:=h3,toks:=t3}) R3 WM O3 hS3 ⟨_,oQ,V5 p hp⟩ C fun h4 t4 R4=>jc ((k.rest (A:=A) (W:=W) (d:=d) (cl:=cl) (E:=E) C ro (aP (aB (aB w))) hr) (fl:=.Dv) (flow:=.next) hL R4 (K3.drop V5) trivial)
theorem pL{h:eO}{X:Ow}{K:Unit->aw->Prop}(G:fL D P)(B:Bs P f s.heap mu g)(F:Fr f.h₀ f.L s.heap (fun x=>g.pv (.loc x)))(ho:Ob g a X (aU ds nn))(tr:nh P g a es ds)(nd:(es.map (·.1)).Nodup)(hm:Tr P g (some a) m v)(hl:es.length<=b8)
 (kk:∀h' tk Gi wM,Fr f.h₀ f.L h' (fun x=>g.pv (.loc x))->News f.h₀ f.L h' (rg a (aU Gi wM) g.nw)->nh P g a (br es key m) Gi->((br es key m).map (·.1)).Nodup->K () {s with heap:=h',toks:=tk}):Wp D A (setItem (.ref a) (.str key t) v) K E s:=by
 refine Gk fun zG zk=>?_
 obtain⟨kvs,j1,j2,j3⟩:=tr.dictOf (D:=D) G.kh nd (B.N _ ho.2).1
 refine zk ?_
 refine wpAny_setItem_pairs (knd:=strKind D.prog D.w) (k:=key) (gA _ _ _ _) j1 (fun h' hd w9=>?_) (by exact(by rw[<-aI (f:=(·.1)),j3,aI]:kvs.length=es.length)▸aa hl lP)
 refine Gk fun zG zk=>?_
 obtain⟨Gi,wM,p1,p2,p3⟩:=DictOf.obj (D:=D) G.kh hd (Vl.set (k:=key) hm j2 (by exact j3▸nd)) (Vl.set (k:=key) hm j2 (by exact j3▸nd)).keys
 refine zk ?_
 exact kk h' _ Gi wM (pK F B.N ho.2 w9) (News.upd B.N ho.2 w9 p1) p2 p3
theorem HW{es:List (Str×MV)}{q:Pl}{K:Unit->aw->Prop}(G:fL D P)(R:Rel P f cx s.heap st g)(hs:st.loc[k]?=some (.own (.bI es)))(hq:cx.pl k=some q)(hpv:g.pv q=some (.ref a))(hm:Tr P g (some a) m v)(hl:es.length<=b8)
 (kk:∀{g' h' tk},Rel P f cx h' (st.put k (.own (.bI (br es key m)))) g'->Kq n g g'->K () {s with heap:=h',toks:=tk}):Wp D A (setItem (.ref a) (.str key t) v) K E s:=by
 obtain⟨q',a',ds,nn,h1,h2,h3,h4,h5⟩:=tI R hs
 cases h1.symm.trans hq
 cases h2.symm.trans hpv
 refine pL (h:=s.heap) G R.toBs R.F h3 h4 h5 hm hl fun h' tk Gi wM F' N' t' nd'=>kk (R.MQ h3 F' N' rfl ?_ mI) (tN h3.1).toKq
 exact lY hs▸⟨q,a,hq,hpv,Gi,wM,gD h3,t'.mono ((cH h3.1).gZ nofun),nd'⟩
theorem FA:∀{l:List aj}{k:Nat}{v:aj},k<l.length->ki_setL l k v=some (l.set k v):=by
 intro l
 induction l with
 |nil=>exact fun h=>(gw _ h).elim
 |cons x r cz=>
  intro k v h
  induction k with
  |zero=>rfl
  |succ k=>unfold ki_setL;rw[cz (Bh h)];rfl
theorem XW(h:st.mu[i]?=some c):i<st.mu.length:=(bb.mp h).1
theorem IF(h:st.mu[i]?=some c)(e:(st.mu.set i c')[i]?=some x):x=c':=by
 rw[cq (XW h)]at e;obtain rfl:=ar e;rfl
theorem Rel.setM(R:Rel P f cx s.heap st g){o o':Obj}(hm:st.mu[i]?=some c)(hD:Ob g b (.cell i j) o)(F':Fr f.h₀ f.L h' (fun x=>g.pv (.loc x)))(N':News f.h₀ f.L h' (rg b o' g.nw))(hc:lI P (g.set b o') i c'):Rel P f cx h' {st with mu:=st.mu.set i c'} (g.set b o'):=
 R.setC hD F' N' nI (fun x e=>IF hm e▸hc) fun k hk=>j7 (bY hk)
theorem HM{o i:Expr}(x:X):mA (py nm x) (some (.Subscript o i p)) line env=pure false:=by induction x<;>exact @rfl _ (pure false:Sem Bool)
theorem Mz{k:Nat}{r:Ss}(Fc:Facts D P)(M:cY D f A d)(hi:jD D P f A cl d i)(hx:jD D P f A cl d x)(hr:SS D P f A W cl d r):SS D P f A W cl d (.nk k i x p o q r):=fun{cx J n E s g st Q K} C ro w R h kk=>by
 have w2:=aP (aB w)
 have w3:=aP (aB (aB w))
 have w4:=aB (aB (aB w))
 refine ba (pb (SE.fz hx.e n (Q:=fun m st=>gd (gv st k) ((cP cl d i).ev st fun _ i st=>HX k i m st fun st=>dJ W cl d r st Q)) C (aP w) R h fun m eZ u g1 h1 t1 hq R1 K1 T1=>?_) (HM x))
 refine Gk fun zG zk=>?_
 obtain⟨hb,hq⟩:=km hq
 obtain⟨pq,v0,q1,q2⟩:=qH R1 hb
 refine zk ?_
 refine fB (s:={s with heap:=h1,toks:=t1}) C R1 w4 (gF q1 q2) ?_
 refine SE.fz hi.e n (s:={s with heap:=h1,toks:=t1}) (Q:=fun i st=>HX k i m st fun st=>dJ W cl d r st Q) C w2 R1 hq fun im mF wv g2 h2 t2 hq R2 K2 T2=>?_
 have A3:=T1.mono K2.toGLe
 have q2':=K2.pv _ _ q2
 rcases jL hq with⟨m',hs,hq⟩|⟨m',hs,hq⟩
 ·obtain⟨es,rfl,hq⟩:=pM hq
  obtain⟨key,t,rfl,hq⟩:=lK hq T2
  obtain⟨hl,hq⟩:=e5 hq
  obtain⟨q',a,ds,nn,p1,p2,_⟩:=tI R2 hs
  cases q1.symm.trans p1
  cases q2'.symm.trans p2
  exact HW (s:={s with heap:=h2,toks:=t2}) (n:=n) Fc.G R2 hs q1 p2 (Tr.nY A3) hl fun R3 K3=>hr C ro w3 R3 hq (kk.at (((K1.trans K2 (ab _)).toKq).trans K3 (ab _)))
 ·obtain⟨j,rfl,hq⟩:=mH hq
  obtain⟨z,t,rfl,hq⟩:=gT hq T2
  obtain⟨z,rfl,hq⟩:=nR hq
  obtain⟨c,hm,hq⟩:=hJ hq
  obtain⟨xs,rfl,hq⟩:=I1 hq
  obtain⟨hl,hq⟩:=km hq
  have xe:z<xs.length:=ae (aP hl)
  have YZ:=pQ (ae (aB hl))
  have S:=R2.sl k
  replace S:=hs▸S
  obtain⟨q',v',p1,p2,p3⟩:=S
  cases q1.symm.trans p1
  cases q2'.symm.trans p2
  obtain⟨a,vs,nn,c1,c2,c3⟩:=R2.mu j _ hm
  obtain⟨a',p4,rfl⟩:=p3
  cases c1.symm.trans p4
  have fC:z<vs.length:=by exact c3.len▸xe
  refine ki_set (q:=vs.set z u) R2.F (lC R2.N c2.2) (bk z) (by lia) (by exact pT▸FA fC) nK fun h3 F3 N3=>?_
  exact hr (s:={s with heap:=h3,toks:=_}) C ro w3 (R2.setM (s:={s with heap:=h2,toks:=t2}) (c':=.lst (xs.set z m)) hm c2 F3 (ox N3) ⟨a,_,nn,c1,gD c2,(c3.mono ((cH (o':=dq (vs.set z u) nn) c2.1).gZ nofun)).set (A3.mono ((cH (o':=dq (vs.set z u) nn) c2.1).gZ nofun))⟩) hq (kk.at (((K1.trans K2 (ab _)).toKq).trans (mT c2.1).toKq (ab _)))
theorem XI:isNum fd=true->fd=.dD:=by induction fd<;>first|exact fun _=>rfl|exact fun h=>(aJ h).elim
theorem aah:zV fd=true->fd=.bU:=by induction fd<;>first|exact fun _=>rfl|exact fun h=>(aJ h).elim
theorem YM:isInf fd=true->fd=.bB:=by induction fd<;>first|exact fun _=>rfl|exact fun h=>(aJ h).elim
theorem S9:Ce fd=true->fd=.many:=by induction fd<;>first|exact fun _=>rfl|exact fun h=>(aJ h).elim
noncomputable def IsV(x:X):Prop:=∃k p,x=.v k p
theorem YE:TP x=true->IsV x:=by
 induction x with
 |v k p=>exact fun _=>⟨_,_,rfl⟩
 |_=>exact ff
theorem MA{x i v:X}{r:Ss}(Fc:Facts D P)(M:cY D f A d)(hx:jD D P f A cl d x)(hv:jD D P f A cl d v)(hr:SS D P f A W cl d r):SS D P f A W cl d (.zh x fd i v p o q r):=fun{cx J n E s g st Q K} C ro w R h kk=>by
 have w2:=aP (aB w)
 have w3:=aP (aB (aB w))
 have w4:=aP (aB (aB (aB w)))
 have w5:=aP (aB (aB (aB (aB w))))
 obtain⟨ki,pi,rfl⟩:=YE (aB (aB (aB (aB (aB w)))))
 refine ba (pb (SE.fz hv.e n (Q:=fun m st=>(cP cl d x).ev st fun _ a st=>G2 st ki fun i st=>wF fd m a i st fun st=>dJ W cl d r st Q) C (aP w) R h fun m eZ u g1 h1 t1 hq R1 K1 T1=>?_) (HM v))
 refine qL w5 (SE.fz hx.e n (s:={s with heap:=h1,toks:=t1}) (Q:=fun a st=>G2 st ki fun i st=>wF fd m a i st fun st=>dJ W cl d r st Q) C w2 R1 hq fun am mF wv g2 h2 t2 hq R2 K2 T2=>?_)
 have A3:=T1.mono K2.toGLe
 have K2':=(K1.trans K2 (ab _)).toKq
 have hs:∃y t pq,wF fd m am (.str y) mF (fun st=>dJ W cl d r st Q)/\cx.pl ki=some pq/\g2.pv pq=some (.str y t):=by
  refine Ig (Q:=fun y st=>wF fd m am (.str y) st fun st=>dJ W cl d r st Q) R2 ?_
  rcases jL hq with⟨m',hs,hq⟩|⟨m',hs,hq⟩
  ·obtain⟨j,rfl,hq⟩:=mH hq
   obtain⟨y,rfl,hq⟩:=nL hq
   have S:=R2.sl ki
   rw[hs]at S
   obtain⟨_,_,_,_,h3⟩:=S
   exact h3.elim
  ·obtain⟨j,rfl,Qa⟩:=mH hq
   obtain⟨y,rfl,_⟩:=nL Qa
   unfold G2 slotAt
   exact(hs).symm▸hq
 obtain⟨key,t,pq,hq,p1,p2⟩:=hs
 obtain⟨j,rfl,hq⟩:=mH hq
 obtain⟨c,hm,hq⟩:=hJ hq
 obtain⟨av,es,rfl,hq⟩:=u6 hq
 obtain⟨x',y1,rfl⟩:=T2
 obtain⟨xa,dx,a1,a2,b1,b2,nn,d1,n1,d2,n2,x1,x2,x3,x4,x5,x6,x7,x8⟩:=R2.mu j _ hm
 cases x1.symm.trans y1
 have keep:∀{b jb ob j' o' a},g2.ow a=some (.cell j j')->jb≠j'->Ob g2 b (.cell j jb) ob->Ob (g2.set a o') b (.cell j jb) ob:=fun ha eM ho=>(cH ha).ob _ _ _ (fun e=>eM (by injection e)) ho
 have nmk:∀{K:aj->aw->Prop},K (.str key t) {s with heap:=h2,toks:=t2+1}->Wp D A (ei (iH J.nm ki pi) cx.env) K E {s with heap:=h2,toks:=t2+1}:=fB C R2 w3 (gF p1 p2)
 rcases Ju hq with⟨hn,hq⟩|⟨_,hq⟩
 ·cases XI hn
  obtain⟨hl,hq⟩:=e5 hq
  refine rS R2.F M.X (cp R2.N x2.2 x3.2) (Fc.GF.Cy _) Fc.GF.Ap Fc.GF.dD rfl (oD (by decide+kernel)) rfl (nmk ?_)
  refine pL (s:={s with heap:=h2,toks:=t2+1}) (h:=h2) Fc.G R2.toBs R2.F x6 x7 x8 (Tr.nY A3) hl fun h3 t3 Gi wM F3 N3 tr nd=>?_
  have GG:=(cH (o':=aU Gi wM) x6.1).gZ nofun
  exact hr (s:={s with heap:=h3,toks:=t3}) C ro w4 (R2.setM (s:={s with heap:=h2,toks:=t2}) (c':=.fresh av (br es key m)) hm x6 F3 N3 ⟨x',dx,a1,a2,b1,b2,nn,d1,n1,Gi,wM,x1,keep x6.1 (of_decide_eq_true rfl) x2,keep x6.1 (of_decide_eq_true rfl) x3,keep x6.1 (of_decide_eq_true rfl) x4,⟨x5.1.mono GG,x5.2⟩,gD x6,tr.mono GG,nd⟩) hq (kk.at (K2'.trans (mT x6.1).toKq (ab _)))
 ·obtain⟨hl,q9⟩:=km hq
  cases aah (aP hl)
  refine rS R2.F M.X (cp R2.N x2.2 x3.2) (Fc.GF.Cy _) Fc.GF.Ap Fc.GF.bU rfl mi rfl (nmk ?_)
  refine pL (s:={s with heap:=h2,toks:=t2+1}) (h:=h2) Fc.G R2.toBs R2.F x4 x5.1 x5.2 (Tr.nY A3) (ae (aB hl)) fun h3 t3 Gi wM F3 N3 tr nd=>?_
  have GG:=(cH (o':=aU Gi wM) x4.1).gZ nofun
  exact hr (s:={s with heap:=h3,toks:=t3}) C ro w4 (R2.setM (s:={s with heap:=h2,toks:=t2}) (c':=.fresh (br av key m) es) hm x4 F3 N3 ⟨x',dx,a1,a2,b1,b2,nn,Gi,wM,d2,n2,x1,keep x4.1 (of_decide_eq_true rfl) x2,keep x4.1 (of_decide_eq_true rfl) x3,gD x4,⟨tr.mono GG,nd⟩,keep x4.1 (of_decide_eq_true rfl) x6,x7.mono GG,x8⟩) q9 (kk.at (K2'.trans (mT x4.1).toKq (ab _)))
theorem XC(eM:(a==b)=false):(iK b h3 k3 v3 [⟨h1,.str a t1,v1⟩,⟨h2,.str b t2,v2⟩],iJ b [⟨h1,.str a t1,v1⟩,⟨h2,.str b t2,v2⟩] m)=([⟨h1,.str a t1,v1⟩,⟨h2,.str b t2,v3⟩],m):=by
 have e1:gJ (.str a t1) b=false:=eM
 simp[iK,iJ,e1,(by simp[gJ]:gJ (.str b t2) b=true)]
theorem XD:(iK a h3 k3 v3 [⟨h1,.str a t1,v1⟩,⟨h2,.str b t2,v2⟩],iJ a [⟨h1,.str a t1,v1⟩,⟨h2,.str b t2,v2⟩] m)=([⟨h1,.str a t1,v3⟩,⟨h2,.str b t2,v2⟩],m):=by
 simp[iK,iJ,(by simp[gJ]:gJ (.str a t1) a=true)]
theorem C9{K:Unit->aw->Prop}(Fc:Facts D P)(M:cY D f A d)(R:Rel P f cx s.heap st g)(hm:st.mu[i]?=some (.uses nu b))(x1:g.ca[i]?=some x)(x2:Ob g x (.cell i 0) (iC P.cUses dx))
 (x3:Ob g dx (.cell i 1) (aU [⟨P.kh (eA .many),.str (eA .many) t1,.int nu t3⟩,⟨P.kh (eA .bB),.str (eA .bB) t2,.bool b⟩] nn)) (htk:nA D.K P.cUses (eA fd)=some none)
 (hg:(cj (eA fd) [⟨P.kh (eA .many),.str (eA .many) t1,.int nu t3⟩,⟨P.kh (eA .bB),.str (eA .bB) t2,.bool b⟩]).isSome=true)
 (hp:∀h3 k3,(iK (eA fd) h3 k3 u [⟨P.kh (eA .many),.str (eA .many) t1,.int nu t3⟩,⟨P.kh (eA .bB),.str (eA .bB) t2,.bool b⟩],iJ (eA fd) [⟨P.kh (eA .many),.str (eA .many) t1,.int nu t3⟩,⟨P.kh (eA .bB),.str (eA .bB) t2,.bool b⟩] nn)=([⟨P.kh (eA .many),.str (eA .many) t1,.int nu' t4⟩,⟨P.kh (eA .bB),.str (eA .bB) t2,.bool b'⟩],nn))
 (kk:∀{g' h' tk},Rel P f cx h' {st with mu:=st.mu.set i (.uses nu' b')} g'->Kq n g g'->K () {s with heap:=h',toks:=tk}):Wp D A (setAttr (.ref x) (eA fd) u) K E s:=by
 refine set_dict R.F M.X (lC R.N x3.2) (cp (lC R.N x3.2) (.tail _ (c0.mpr ⟨x2.2,decide_eq_true (fun e=>by subst e;exact nomatch x2.1.symm.trans x3.1:x≠dx)⟩)) (.head _)) rfl Fc.GF.saU Fc.GF.poU htk Fc.GF.Ao hg (hp _ _) nK (by simp) fun h3 F3 N3=>?_
 exact kk (tk:=_) (R.setM (c':=.uses nu' b') hm x3 F3 (ox N3) ⟨x,dx,t1,t2,t4,nn,x1,(cH x3.1).ob _ _ _ nofun x2,gD x3⟩) (mT x3.1).toKq
variable{p1 p2 p3 p4 p5:Pos}
theorem MB(Fc:Facts D P)(M:cY D f A d)(hx:jD D P f A cl d x)(hv:jD D P f A cl d v)(hr:SS D P f A W cl d r):SS D P f A W cl d (.EN x fd v p q r):=fun{cx J n E s g st Q K} C ro w R h kk=>by
 refine ba (dr (SE.fz hv.e n (Q:=fun m st=>(cP cl d x).ev st fun _ a st=>gd (isInf fd) (rt a fun j=>AC m fun b=>cellAt st j fun c=>uj c fun n _=>dJ W cl d r {st with mu:=st.mu.set j (.uses n b)} Q)) C (aP w) R h fun m eZ u g1 h1 t1 hq R1 K1 T1=>?_) (HL (aB (aB (aB w)))))
 refine SE.fz hx.e n (s:={s with heap:=h1,toks:=t1}) (Q:=fun a st=>gd (isInf fd) (rt a fun j=>AC m fun b=>cellAt st j fun c=>uj c fun n _=>dJ W cl d r {st with mu:=st.mu.set j (.uses n b)} Q)) C (aP (aB w)) R1 hq fun am mF wv g2 h2 t2 hq R2 K2 T2=>?_
 obtain⟨hf,q3⟩:=km hq
 obtain⟨j,rfl,q4⟩:=mH q3
 obtain⟨b,rfl,q5⟩:=D8 q4
 obtain⟨c,hm,q6⟩:=hJ q5
 obtain⟨nu,b0,rfl,q7⟩:=xD q6
 cases YM hf
 cases(show u=.bool b from T1)
 obtain⟨x',y1,rfl⟩:=T2
 obtain⟨xa,dx,b1,b2,b3,nn,x1,x2,x3⟩:=R2.mu j _ hm
 cases x1.symm.trans y1
 exact C9 (s:={s with heap:=h2,toks:=t2}) (n:=n) (nu':=nu) (b':=b) (t4:=b3) Fc M R2 hm x1 x2 x3 Fc.GF.tkI (by rw[oD (by decide+kernel)];rfl) (fun _ _=>XC (by decide+kernel)) fun R3 K3=>hr C ro (aP (aB (aB w))) R3 q7 (kk.at ((K1.trans K2 (ab _)).toKq.trans K3 (ab _)))
noncomputable def IsI(x:X):Prop:=∃k p,x=.int k p
theorem YG:isI x=true->IsI x:=by
 induction x with
 |int k p=>exact fun _=>⟨_,_,rfl⟩
 |_=>exact ff
theorem MH(Fc:Facts D P)(M:cY D f A d)(hx:jD D P f A cl d x)(hr:SS D P f A W cl d r):SS D P f A W cl d (.GP x fd v p q r):=fun{cx J n E s g st Q K} C ro w R h kk=>by
 obtain⟨z,pz,rfl⟩:=YG (aB (aB (aB w)))
 refine ba (wpAny_AugAssign_AttributeAny (SE.fz hx.e n (Q:=fun a st=>gd (Ce fd) (rt a fun j=>cellAt st j fun c=>uj c fun n y=>dJ W cl d r {st with mu:=st.mu.set j (.uses (n+z) y)} Q)) C (aP w) R h fun am eZ wv g1 h1 t1 hq R1 K1 T1=>?_))
 obtain⟨hf,q3⟩:=km hq
 obtain⟨j,rfl,q4⟩:=mH q3
 obtain⟨c,hm,q6⟩:=hJ q4
 obtain⟨nu,b0,rfl,q7⟩:=xD q6
 cases S9 hf
 obtain⟨x',y1,rfl⟩:=T1
 obtain⟨xa,dx,b1,b2,b3,nn,x1,x2,x3⟩:=R1.mu j _ hm
 cases x1.symm.trans y1
 refine rS (s:={s with heap:=h1,toks:=t1}) R1.F M.X (cp R1.N x2.2 x3.2) (Fc.GF.J3 _) Fc.GF.Ao Fc.GF.many rfl mi rfl ?_
 refine jm (wpAny_iadd_int ?_)
 exact C9 (s:={s with heap:=h1,toks:=_}) (n:=n) (nu':=nu+z) (b':=b0) (t4:=t1+1+1) Fc M R1 hm x1 x2 x3 Fc.GF.tkM (by rw[mi];rfl) (fun _ _=>XD) fun R3 K3=>hr C ro (aP (aB (aB w))) R3 q7 (kk.at (K1.toKq.trans K3 (ab _)))
theorem MG(hx:jD D P f A cl d x)(hr:SS D P f A W cl d r):SS D P f A W cl d (.AY k x p q r):=fun{cx J n E s g st Q K} C ro w R h kk=>by
 have wr:=QU C ro (aB (aB w))
 have S:=R.sl k
 rcases jL h with⟨m,hs,hq⟩|⟨m,hs,hq⟩
 ·rw[hs]at S
  refine Gk fun zG zk=>?_
  obtain⟨_,_,_,_,h3⟩:=S
  obtain⟨a,rfl,q5⟩:=pJ hq
  refine zk ?_
  exact h3.elim
 ·rw[hs]at S
  refine Gk fun zG zk=>?_
  obtain⟨pq,v0,q1,q2,q3⟩:=S
  refine zk ?_
  refine ba (wpAny_AugAssign_Name (DC C R wr.1 (gF q1 q2) ?_))
  refine Gk fun zG zk=>?_
  obtain⟨a,t,rfl,q5⟩:=gT hq q3
  refine zk ?_
  refine SE.fz hx.e n (Q:=fun b st=>eU b fun b=>dJ W cl d r (st.put k (.fz (.int (a+b)))) Q) C (aP w) R q5 fun bm eZ u g1 h1 t1 hq R1 K1 T1=>?_
  refine Gk fun zG zk=>?_
  obtain⟨b,tu,rfl,q6⟩:=gT hq T1
  refine zk ?_
  exact wpAny_iadd_int (lW (s:={s with heap:=h1,toks:=t1+1}) C R1 wr (.inl ⟨.int (a+b),rfl,BB⟩) fun g2 h2 t2 R2 S2=>hr C ro (aP (aB w)) R2 q6 (kk.at (K1.toKq.trans (S2.kq n) (ab _))))
end
section
variable{D:dh}{P:ck}{f:Fm}{cx:Cx}{J:Cn}{A:b9}{E:aj->aw->Prop}{s:aw}{st st':St}{g g':Gh}{n d:Nat}{cl:lq}{p q o p1 p2 p3 p4 p5:Pos}
noncomputable def MR(start stop step:Int)(i:Nat):Bool:=
 if step>0 then start<=i&&i<stop&&(i-start)%step==0
 else stop<i&&i<=start&&(start-i)%(-step)==0
theorem RB{b m k:Nat}(hk:k<m):MR (b:Int) (m:Int) 1 k=decide (b<=k):=by
 unfold MR
 rw[if_pos (by decide),Int.emod_one,decide_eq_true (p:=((k:Int)<m)) (by lia)]
 by_cases h:b<=k
 ·rw[decide_eq_true h,decide_eq_true (p:=((b:Int)<=k)) (by lia)];rfl
 ·rw[decide_eq_false h,decide_eq_false (p:=((b:Int)<=k)) (by lia)];rfl
theorem HY(b m:Nat):∀(l:List aj)(k:Nat),k+l.length=m->((l.zipIdx k).filterMap fun p=>if MR (b:Int) (m:Int) 1 p.2 then none else some p.1)=l.take (b-k):=by
 intro l
 induction l with
 |nil=>
  intro k _
  simp
 |cons x r cz=>
  intro k h
  have h':(k+1)+r.length=m:=by rw[<-h,et];lia
  have ih:=cz (k+1) h'
  rw[List.zipIdx_cons,List.filterMap_cons,ih]
  dsimp only
  refine(RB (b:=b) (h▸iZ (sL _):k<m)).symm▸?_
  by_cases hk:b<=k
  ·rw[decide_eq_true hk,if_pos rfl,oN hk,oN (dM hk)];rfl
  ·rw[decide_eq_false hk,if_neg (by decide),show b-k=(b-(k+1))+1 from(bL (jn (uc hk))).symm];rfl
theorem B6{F:Array aj->Array aj}{vs us:List aj}{nn:Nat}(h:F vs.toArray=us.toArray):Obj.mapSeq F (dq vs nn)=dq us (if us.toArray.size==vs.toArray.size then nn else nn+1):=by
 show(⟨.type "list",none,.seq (F vs.toArray) (if(F vs.toArray).size==vs.toArray.size then nn else nn+1),#[]⟩:Obj)=_
 exact h.symm▸rfl
noncomputable abbrev cut(b m:Nat)(xs:Array aj):Array aj:=(xs.toList.zipIdx.filterMap fun(p:aj×Nat)=>if MR (b:Int) (m:Int) 1 p.2 then none else some p.1).toArray
theorem yy{nn b:Nat}(ho:s.heap.get? l=some (dq vs nn))(hs:s.heap.IsSliceOf sl (.int b u) .none .none)(hb:b<=vs.length)(Wi:vs.length<=sizeLine)
 (h:∀h' n',jh l s.heap h'->h'.get? l=some (dq (vs.take b) n')->Q () {s with heap:=h'}):Wp D A (delItem (.ref l) (.ref sl)) Q E s:=by
 have hl:s.heap.IsList l vs.toArray:=⟨_,ho,rfl,nn,rfl⟩
 obtain⟨os,JK,FM,Qg⟩:=id hs
 unfold delItem
 refine gP ?_
 refine au (wpAny_sequenceKey hl.typeIs (by decide) ?_)
 refine au (GU (name:=af "__delitem__") hl.typeIs vw
  (xx vw hl.typeIs PySem.F.entry_list_delitem ?_ (PySem.F.args_list_delitem_2 _ _)))
 show wpAny _ _ (qb (.ref sl)>>=_) _ _ s
 refine au ?_
 unfold qb
 refine au (wpAny_specialOf (⟨os,JK,FM⟩:s.TypeIs (.ref sl) "slice") slice_no_index ?_)
 simp only[Option.isNone_none,if_true]
 refine aO ?_
 show wpAny _ _ (typeOf (.ref sl)>>=_) _ _ s
 refine au (vI (⟨os,JK,FM⟩:s.TypeIs (.ref sl) "slice") ?_)
 rw[if_neg (by decide)]
 rw[listSliceParts_eq]
 refine au (au (nv JK Qg (x:=.none) rfl (au (wpAny_listPart .none ?_))))
 rw[if_neg (by decide)]
 refine au (nv JK Qg (x:=.int b u) rfl (au (wpAny_listPart (.int b u) ?_)))
 refine au (nv JK Qg (x:=.none) rfl (au (wpAny_listPart .none (aO ?_))))
 refine au (m:=tA (.ref l)) ?_
 unfold tA
 refine au (wpAny_seqItems ho rfl (aO ?_))
 refine au (wpAny_of_eq (sliceIndices_raw (some (b:Int)) none none vs.toArray.size (by simp)) ?_)
 rw[sliceBounds_plain]
 have e1:((some (b:Int)).elim 0 (clipAt vs.toArray.size):Nat)=b:=by
  show clipAt vs.toArray.size (b:Int)=b
  rw[clipAt_nat];refine aM.symm▸?_;lia
 refine e1.symm▸(aM:((none:Option Int).elim vs.toArray.size (clipAt vs.toArray.size):Nat)=vs.length).symm▸?_
 refine au (wpAny_rule ?_)
 have key:cut b vs.length vs.toArray=(vs.take b).toArray:=congrArg VU (HY b vs.length vs 0 (bM _))
 refine au (listUpdate_at (f:=cut b vs.length) ho rfl ?_ (by exact aM.symm▸Wi) (by refine aa (bu (congrArg Array.size key)) ?_;rw[aM,LY];exact dM (aa (Mi _ _) Wi)))
 refine au (wpAny_letGo ?_)
 obtain⟨n',e3⟩:∃n',Obj.mapSeq (cut b vs.length) (dq vs nn)=dq (vs.take b) n':=⟨_,B6 key⟩
 refine aO ⟨.none,rfl,aO (h _ n' (jh.update ..) ?_)⟩
 rw[<-e3]
 exact eO.get?_update_self _ ho (by rw[e3];rfl)
theorem Rq{W k:Nat}{lo:X}(hx:jD D P f A cl d lo)(hr:SS D P f A W cl d r):SS D P f A W cl d (.del k lo p1 p2 p3 q r):=fun{cx J n E s g st Q K} C ro w R h kk=>by
 obtain⟨hb,h⟩:=km h
 obtain⟨pq,v0,e1,e2⟩:=qH R hb
 refine ba (wpAny_Delete ?_)
 show Wp D A (do delete (.Subscript (iH J.nm k p1) (.Slice (some (py J.nm lo)) none none p2) p3) cx.env;deleteEach [] cx.env) _ _ _
 refine au (delete_Subscript (fB C R (aB (aB w)) (gF e1 e2) (wpAny_Slice ?_)))
 rw[tg]
 refine SE.fz hx.e n (Q:=fun i st=>pD st k fun xs=>eU i fun z=>sY z fun n=>gd (aV n xs.length) (dJ W cl d r (st.put k (.own (.lst (xs.take n)))) Q)) C (aP w) R h fun im eZ wv g1 h1 t1 hq R1 K1 T1=>?_
 rw[ti]
 refine aO (aO ?_)
 obtain⟨xs,hs,hl,q1⟩:=qo hq
 obtain⟨z,t,rfl,q2⟩:=gT q1 T1
 obtain⟨b,rfl,q3⟩:=nR q2
 obtain⟨hbl,q4⟩:=e5 q3
 obtain⟨q',a,vs,nn,o1,o2,o3,o4⟩:=tH R1 hs
 cases e1.symm.trans o1
 cases(K1.pv _ _ e2).symm.trans o2
 have R2:=de R1 {cls:=.type "slice",data:=.fields #[.int b t,.none,.none]} .fz
 have L2:Le (fun _=>True) g1 (g1.push h1.objs.size {cls:=.type "slice",data:=.fields #[.int b t,.none,.none]} .fz):=cT (cJ R1)
 have O2:=L2.ob _ _ _ trivial o3
 refine yy (s:={s with heap:=h1.push {cls:=.type "slice",data:=.fields #[.int b t,.none,.none]},toks:=t1}) (R2.N _ O2.2).1 (jF ..) (by exact o4.len▸hbl) (by exact o4.len▸aa hl lP) fun h' n' w9 oQ=>?_
 refine aO (hr (s:={s with heap:=h',toks:=t1}) C ro (aP (aB w)) (R2.MQ (st':=eZ.put k (.own (.lst (xs.take b)))) O2 (pK R2.F R2.N O2.2 w9) (News.upd R2.N O2.2 w9 oQ) rfl ?_ mI) q4 (kk.at ((K1.toKq.trans (cU (cJ R1)).toKq (ab _)).trans (tN O2.1).toKq (ab _))))
 exact lY hs▸⟨pq,a,e1,o2,_,n',gD O2,((o4.mono (L2.gZ trivial)).take b).mono ((cH O2.1).gZ nofun)⟩
theorem ME(Fc:Facts D P)(hi:jD D P f A cl d i)(hx:jD D P f A cl d x)(hc:jD D P f A cl d c)(hy:jD D P f A cl d y)(hr:SS D P f A W cl d r):SS D P f A W cl d (.g9 k i x c y p1 p2 p3 p4 p5 q r):=fun{cx J n E s g st Q K} C ro w R h kk=>by
 have wc:=aP (aB w)
 have wi:=aP (aB (aB w))
 have wy:=aP (aB (aB (aB w)))
 have wr:=aP (aB (aB (aB (aB w))))
 have wk:=aB (aB (aB (aB (aB w))))
 refine ba (pb ?_ rfl)
 let fin:MV->St->Prop:=fun v st=>(cP cl d i).ev st fun _ i st=>kK i fun s=>nP st k fun es=>dJ W cl d r (st.put k (.own (.bI (br es s v)))) Q
 have last:∀{v eZ u g1 h1 t1},fin v eZ->Rel P f cx h1 eZ g1->Kq n g g1->gv eZ k=true->(∀{g2 q da},cx.pl k=some q->g1.pv q=some (.ref da)->Kp n g1 g2->Tr P g2 (some da) v u)->
  Wp D A (ei (iH J.nm k p1) cx.env) (fun ov s₂=>Wp D A (ei (py J.nm i) cx.env) (fun iv s₃=>Wp D A (setItem ov iv u) (fun _ s'=>Wp D A (execs (iF J.nm r) cx.env) K E s') E s₃) E s₂) E {s with heap:=h1,toks:=t1}:=fun{v eZ u g1 h1 t1} hq R1 K1 hb T=>by
  refine Gk fun zG zk=>?_
  obtain⟨pq,v0,e1,e2⟩:=qH R1 hb
  refine zk ?_
  refine fB (s:={s with heap:=h1,toks:=t1}) C R1 wk (gF e1 e2) ?_
  refine SE.fz hi.e n (s:={s with heap:=h1,toks:=t1}) (Q:=fun i st=>kK i fun s=>nP st k fun es=>dJ W cl d r (st.put k (.own (.bI (br es s v)))) Q) C wi R1 hq fun im mF wv g2 h2 t2 hq R2 K2 T2=>?_
  obtain⟨key,t,rfl,q1⟩:=lK hq T2
  obtain⟨es,hs,hl,q2⟩:=zy q1
  obtain⟨q',da,ds,nn,o1,o2,_⟩:=tI R2 hs
  cases e1.symm.trans o1
  have e3:=(K2.pv _ _ e2).symm.trans o2
  injection e3 with e3
  subst e3
  exact HW (s:={s with heap:=h2,toks:=t2}) (n:=n) Fc.G R2 hs e1 o2 (T e1 e2 K2) hl fun R3 K3=>hr C ro wr R3 q2 (kk.at ((K1.trans K2.toKq (ab _)).trans K3 (ab _)))
 refine wpAny_Tuple (eE (he:=gR) (SE.fz hx.e n (Q:=fun m st=>(cP cl d c).tt st fun z st=>i0 z (nP st k fun _=>fin (.g9 m) st) ((cP cl d y).ev st fun _ y st=>gd (gv st k) (fin (.tup [m,y]) st))) C (aP w) R h fun m eZ u g1 h1 t1 hq R1 K1 T1=>eE (he:=rfl) (wpAny_IfExp
  (hc.t (n:=n) (s:={s with heap:=h1,toks:=t1}) (Q:=fun z st=>i0 z (nP st k fun _=>fin (.g9 m) st) ((cP cl d y).ev st fun _ y st=>gd (gv st k) (fin (.tup [m,y]) st))) C wc R1 hq fun z mF g2 h2 t2 hq R2 K2=>?_))))
 have K2':=(K1.trans K2 (ab _)).toKq
 have T2:=T1.mono K2.toGLe
 have sz2:([u]++[u]).length<=sizeLine:=by rw[fg];show 2<=_;decide
 induction z with
 |true=>
  refine Gk fun zG zk=>?_
  obtain⟨es0,Y6,_,q1⟩:=zy hq
  obtain⟨pq,da,ds,nn,d1,d2,d3,d4,d5⟩:=tI R2 Y6
  refine zk ?_
  refine fB (s:={s with heap:=h2,toks:=t2}) C R2 wk (gF d1 d2) (gI ⟨sz2,?_⟩)
  refine last q1 (de R2 (nj [u,.ref da]) .fz) (K2'.trans (cU (cJ R2)).toKq (ab _)) (by unfold gv;exact Y6▸rfl) fun{g4 q da'} e1 e2 K4=>?_
  cases d1.symm.trans e1
  cases d2.symm.trans e2
  exact⟨da,h2.objs.size,u,rfl,rfl,K4.fz _ _ dk,(T2.mono ((cT (cJ R2):Le (fun _=>True) g2 (g2.push h2.objs.size (nj [u,.ref da]) .fz)).gZ trivial)).mono K4.toGLe⟩
 |false=>
  refine SE.fz hy.e n (s:={s with heap:=h2,toks:=t2}) (Q:=fun y st=>gd (gv st k) (fin (.tup [m,y]) st)) C wy R2 hq fun ym HO uy g3 h3 t3 hq R3 K3 T3=>gI ⟨sz2,?_⟩
  obtain⟨hb,q1⟩:=km hq
  refine last q1 (de R3 (nj [u,uy]) .fz) ((K2'.trans K3.toKq (ab _)).trans (cU (cJ R3)).toKq (ab _)) hb fun{g4 q da'} e1 e2 K4=>?_
  exact Tr.nY (trT (K4.fz _ _ dk) (.cons (((T2.mono K3.toGLe).mono ((cT (cJ R3):Le (fun _=>True) g3 (g3.push h3.objs.size (nj [u,uy]) .fz)).gZ trivial)).mono K4.toGLe) (.one ((T3.mono ((cT (cJ R3):Le (fun _=>True) g3 (g3.push h3.objs.size (nj [u,uy]) .fz)).gZ trivial)).mono K4.toGLe))))
end
structure Sx where
 k:Nat
 p:Pos
 b:Bool
 m:MV
 v:aj
 j:Nat
noncomputable def Sx.run(st:St)(q:Sx):St:=st.put q.k (lL q.b q.m)
section
variable{D:dh}{P:ck}{f:Fm}{cx:Cx}{J:Cn}{A:b9}{E:aj->aw->Prop}{s:aw}{st st':St}{g g':Gh}{n d W:Nat}{cl:lq}{p q o:Pos}
theorem VR.mono(L:Le S g g')(hf:S .fz)(hj:S (.m8 j))(V:VR P g j b m v):VR P g' j b m v:=by
 induction b with
 |false=>exact Tr.mono (L.gZ hf) V
 |true=>obtain⟨a,e,o⟩:=V;exact⟨a,e,o.mono L hf hj⟩
theorem Kq.le(K:Kq m g g'):Le (fun X=>X=.fz\/X=.rest\/∃j,j<m/\X=.m8 j) g g':=
 ⟨fun a X o hX h=>by
   rcases hX with rfl|rfl|⟨j,hj,rfl⟩
   ·exact K.fz _ _ h
   ·exact K.rest _ _ h
   ·exact K.m8 _ _ _ hj h,K.ca,K.zz⟩
theorem VR.kq(K:Kq m g g')(hj:j<m)(V:VR P g j b x v):VR P g' j b x v:=V.mono K.le (.inl rfl) (.inr (.inr ⟨j,hj,rfl⟩))
noncomputable def Pq(P:ck)(g:Gh):Nat->List (Bool×MV)->List aj->Prop
 |_,[],vs=>vs=[]
 |n,r::rs,vs=>∃v us,vs=v::us/\VR P g n r.1 r.2 v/\Pq P g (n+1) rs us
theorem Pq.le(L:Le (fun _=>True) g g'):∀{n:Nat}{rs:List (Bool×MV)}{vs:List aj},Pq P g n rs vs->Pq P g' n rs vs:=by
 intro n rs
 induction rs generalizing n with
 |nil=>exact fun h=>h
 |cons x rs cz=>intro vs h;obtain⟨v,us,e,h1,h2⟩:=h;exact⟨v,us,e,h1.mono L trivial trivial,cz h2⟩
theorem Pq.len:∀{n:Nat}{rs:List (Bool×MV)}{vs:List aj},Pq P g n rs vs->vs.length=rs.length:=by
 intro n rs
 induction rs generalizing n with
 |nil=>intro vs h;cases(show vs=[]from h);rfl
 |cons x rs cz=>intro vs h;obtain⟨v,us,rfl,h1,h2⟩:=h;exact congrArg (· +1) (cz h2)
theorem Js(hx:∀x,jD D P f A cl d x)(C:eX f cx J):∀(xs:X){n:Nat}{s:aw}{g:Gh}{st:St}{Q:List (Bool×MV)->St->Prop}{K:List aj->aw->Prop},wf xs J=true->Rel P f cx s.heap st g->OD cl d xs st Q->
 (∀{rs st' vs g' h' tk},Q rs st'->Rel P f cx h' st' g'->Kp n g g'->Pq P g' n rs vs->K vs {s with heap:=h',toks:=tk})->Wp D A (spliced (gB pos (cM (gi J.nm xs) cx.env))) K E s:=by
 intro xs
 induction xs with
 |nil=>exact fun w R h k=>gI (k (h':=_) (tk:=_) h R .refl rfl)
 |cons x xs _ ih=>
  intro n s g st Q K w R h k
  refine eE (he:=gR) ((hx x).e (n:=n) (Q:=fun b m st=>OD cl d xs st fun ms st=>Q ((b,m)::ms) st) C (aP w) R h fun b m eZ v g1 h1 t1 hq R1 K1 V1=>?_)
  exact ih (n:=n+1) (s:={s with heap:=h1,toks:=t1}) (aB w) R1 hq fun q R2 K2 V2=>k q R2 (K1.trans K2 (dW n)) ⟨v,_,rfl,V1.kq K2.toKq (dU n),V2⟩
 |_=>exact fun _ _ h _=>h.elim
theorem Ni(hn:n<=j)(R:Rel P f cx h st g)(V:VR P g j b m v):∃g₁,Rel P f cx h st g₁/\Kp n g g₁/\Le (fun X=>X≠ .m8 j) g g₁/\C0 P g₁ k (lL b m) v:=by
 induction b with
 |false=>exact⟨g,R,.refl,⟨fun _ _ _ _ h=>h,fun _ _ e=>e,fun _ o h=>⟨o,h⟩⟩,.inl ⟨m,rfl,V⟩⟩
 |true=>
  obtain⟨a,rfl,o⟩:=V
  exact⟨g.give a (.slot k),R.JW o.ow,uT o.ow hn,dN o.ow,.inr ⟨m,a,rfl,rfl,o.give (by simp)⟩⟩
theorem HN(C:eX f cx J)(ht:∀{q v K s},Wp D A (storeName cx.env (J.nm q.k) v) K E s->Wp D A (t q v) K E s){Q:St->Prop}{K:Unit->aw->Prop}:∀(L:List Sx){s:aw}{st:St}{g:Gh},Rel P f cx s.heap st g->
 (∀q∈L,rQ f cx (J.nm q.k) q.k/\VR P g q.j q.b q.m q.v/\n<=q.j)->L.Pairwise (fun a b=>a.j≠b.j)->Q (L.foldl Sx.run st)->(∀{st' g' h' tk},Q st'->Rel P f cx h' st' g'->Kq n g g'->K () {s with heap:=h',toks:=tk})->Wp D A (assignInOrder (L.map t) (L.map (·.v))) K E s:=by
 intro L
 induction L with
 |nil=>
  intro s st g R _ _ hQ k
  exact aO (k (h':=s.heap) (tk:=s.toks) hQ R .refl)
 |cons q L cz=>
  intro s st g R hq hp hQ k
  refine Gk fun zG zk=>?_
  obtain⟨hp1,hp2⟩:=dS.mp hp
  obtain⟨hr,V,hn⟩:=hq q (.head _)
  obtain⟨g1,R1,K1,L1,V1⟩:=Ni (k:=q.k) hn R V
  refine zk ?_
  refine au (gP (ht (lW C R1 hr V1 fun g2 h2 t2 R2 S2=>?_)))
  exact cz (s:={s with heap:=h2,toks:=t2}) R2 (fun q' Qa=>let ⟨a,b,c⟩:=hq q' (.tail _ Qa);⟨a,VR.kq (S2.kq (q'.j+1)) (dU _) (b.mono L1 nofun (fun e=>hp1 q' Qa (by injection e with e;exact e.symm))),c⟩) hp2 hQ fun q R3 K3=>
   k q R3 ((K1.toKq.trans (S2.kq n) (ab _)).trans K3 (ab _))
theorem PW:∀{ks:List (Nat×Pos)}{rs:List (Bool×MV)}{vs:List aj}{n:Nat}{st:St},Pq P g n rs vs->Ds ks rs st Q->
 ∃L:List Sx,L.map (fun q=>(q.k,q.p))=ks/\L.map (·.v)=vs/\(∀q∈L,VR P g q.j q.b q.m q.v/\n<=q.j)/\L.Pairwise (fun a b=>a.j≠b.j)/\Q (L.foldl Sx.run st):=by
 intro ks
 induction ks with
 |nil=>
  intro rs vs n st hv hp
  cases rs with
  |nil=>exact(show vs=[]from hv).symm▸⟨[],rfl,rfl,fun _ h=>(bt h).elim,.nil,hp⟩
  |cons=>exact hp.elim
 |cons k ks ih=>
  intro rs vs n st hv hp
  cases rs with
  |nil=>exact hp.elim
  |cons r rs=>
   refine Gk fun zG zk=>?_
   obtain⟨v,us,rfl,V,Vs⟩:=hv
   obtain⟨L,l1,l2,l5,l6,l7⟩:=ih (st:=st.put k.1 (lL r.1 r.2)) Vs hp
   refine zk ?_
   refine⟨⟨k.1,k.2,r.1,r.2,v,n⟩::L,by rw[dY,l1],by rw[dY,l2],fun q hq=>?_,dS.mpr ⟨fun q hq=>bO (l5 q hq).2,l6⟩,l7⟩
   rcases aA.mp hq with rfl|hq
   ·exact⟨V,ab _⟩
   ·exact⟨(l5 q hq).1,cv (l5 q hq).2⟩
theorem Ih(h:k≠k'):(st.put k a).put k' b=(st.put k' b).put k a:=by
 show(⟨(st.loc.set k a).set k' b,st.mu⟩:St)=⟨(st.loc.set k' b).set k a,st.mu⟩
 rw[List.set_comm _ _ h]
theorem fold_push:∀(L:List Sx)(st:St),(∀q∈L,q.k≠k)->L.foldl Sx.run (st.put k a)=(L.foldl Sx.run st).put k a:=by
 intro L
 induction L with
 |nil=>
  intro _ _
  exact rfl
 |cons q L cz=>
  intro st h
  show L.foldl Sx.run ((st.put k a).put q.k _)=_
  rw[Ih (bY (h q (.head _)))]
  exact cz _ fun q' Qa=>h q' (.tail _ Qa)
theorem Ke:∀(L:List Sx)(st:St),(L.map (·.k)).Nodup->L.reverse.foldl Sx.run st=L.foldl Sx.run st:=by
 intro L
 induction L with
 |nil=>
  intro _ _
  exact rfl
 |cons q L cz=>
  intro st h
  obtain⟨h1,h2⟩:=cZ.mp (show(q.k::L.map (·.k)).Nodup from h)
  rw[rU,Hl,cz st h2]
  exact(fold_push (k:=q.k) L st fun q' Qa e=>h1 (e▸dc Qa)).symm
theorem xS(hf:∀k p x,fn (iH nm k p)=some x->x=nm k):∀{ks:List (Nat×Pos)},((ks.map fun k=>iH nm k.1 k.2).filterMap fn).length=(ks.map fun k=>iH nm k.1 k.2).length->(ks.map fun k=>iH nm k.1 k.2).filterMap fn=ks.map fun k=>nm k.1:=by
 intro ks
 induction ks with
 |nil=>
  intro _
  exact rfl
 |cons k ks cz=>
  intro hl
  rw[dY]at hl⊢
  induction he:fn (iH nm k.1 k.2)with
  |none=>
   rw[List.filterMap_cons_none he]at hl
   have:=yW fn (ks.map fun k=>iH nm k.1 k.2)
   rw[et]at hl
   lia
  |some x=>
   rw[List.filterMap_cons_some he]at hl⊢
   rw[dY,hf _ _ _ he,cz (j6 hl)]
theorem Jt(h:(if b=true then some y else none)=some x):x=y:=by
 induction b with
 |true=>exact(ar h).symm
 |false=>exact(ay _ (cN h)).elim
theorem vQ{ks:List (Nat×Pos)}(hc:(!(vs.all (constantsAlone 8))||vs.all (foldedForSure 8))=true):swappedStores [.Tuple (ks.map fun k=>iH nm k.1 k.2) 0 p] (.Tuple vs 0 q) env=pure none\/
 swappedStores [.Tuple (ks.map fun k=>iH nm k.1 k.2) 0 p] (.Tuple vs 0 q) env=pure (some (ks.map fun k=>nm k.1)):=by
 have key:∀(b1 b2 b3 b4 b5:Bool)(names:List Str)(r:Sem (Option (List Str))),(!b5||b4)=true->(b3=false->names=ks.map fun k=>nm k.1)->∀x:Sem (Option (List Str)),x=(if b1 then pure none else if b2 then pure none else if b3 then pure none else if b4 then pure none else if b5 then r else pure (some names))->x=pure none\/x=pure (some (ks.map fun k=>nm k.1)):=by
  intro b1 b2 b3 b4 b5 names r h1 h2 x e
  induction b1 with
  |true=>exact .inl e
  |false=>induction b2 with
   |true=>exact .inl e
   |false=>induction b3 with
    |true=>exact .inl e
    |false=>induction b4 with
     |true=>exact .inl e
     |false=>induction b5 with
      |true=>exact(aJ h1).elim
      |false=>rw[h2 rfl]at e;exact .inr e
 refine key _ _ _ _ _ _ _ hc (fun h3=>?_) _ rfl
 refine xS (nm:=nm) (fun k p x he=>?_) ?_
 ·exact Jt he
 ·exact bne_eq_false_iff_eq.mp (Bool.or_eq_false_iff.mp h3).1
theorem MJ{r:Ss}(M:cY D f A d)(hx:∀x,jD D P f A cl d x)(hr:SS D P f A W cl d r):SS D P f A W cl d (.n7 ks xs p o q r):=fun{cx J n E s g st Q K} C ro w R h kk=>by
 have val:∀{K:aj->aw->Prop},(∀{rs eZ ws g1 h1 t1 u},Ds ks rs eZ (fun st=>dJ W cl d r st Q)->Rel P f cx h1 eZ g1->Kp n g g1->Pq P g1 n rs ws->h1.IsTuple u ws.toArray->K (.ref u) {s with heap:=h1,toks:=t1})->Wp D A (ei (.Tuple (gi J.nm xs) 0 o) cx.env) K E s:=fun k=>
  wpAny_Tuple (Js hx C xs (aP w) R h fun{rs eZ ws g1 h1 t1} hq R1 K1 V1=>by
   obtain⟨hl,hq⟩:=e5 hq
   exact⟨by rw[V1.len,fg];lia,k hq (de R1 (nj ws) .fz) (K1.trans (cU (cJ R1)) (ab _)) (V1.le (cT (cJ R1))) (jA (de R1 (nj ws) .fz).toBs dk)⟩)
 have go:∀{st' g1 g' h' tk},dJ W cl d r st' Q->Rel P f cx h' st' g'->Kp n g g1->Kq n g1 g'->Wp D A (execs (iF J.nm r) cx.env) K E {s with heap:=h',toks:=tk}:=fun q R2 K1 K2=>hr C ro (aP (aB w)) R2 q (kk.at (K1.toKq.trans K2 (ab _)))
 refine ba ?_
 rcases vQ (ks:=ks) (nm:=J.nm) (vs:=gi J.nm xs) (p:=p) (q:=o) (env:=cx.env) (aB (aB (aB (aB (aB w)))))with hw|hw
 ·refine Assign_Tuple (val fun{rs eZ ws g1 h1 t1 u} hq R1 K1 V1 o1=>?_) rfl hw
  obtain⟨L,l1,l2,l5,l6,l7⟩:=PW V1 hq
  have e:assignEach (ks.map fun k=>iH J.nm k.1 k.2) cx.env=(L.map fun q=>iI (iH J.nm q.k q.p) cx.env).map fun t=>(false,t):=by rw[qM,<-l1,eQ,eQ];rfl
  have e2:((L.map fun q=>iI (iH J.nm q.k q.p) cx.env).map fun t=>(false,t)).map (·.2)=L.map fun q=>iI (iH J.nm q.k q.p) cx.env:=by rw[eQ];exact WB _
  refine wpAny_assign_Tuple M.hh o1 (by rw[e,aI,aI,aM,<-l2,aI]) (by rw[e];exact Kh) fun h' YS=>?_
  refine e.symm▸e2.symm▸?_
  rw[<-l2]
  exact HN (n:=n) (t:=fun q=>iI (iH J.nm q.k q.p) cx.env) C (fun h=>rT h) L (s:={s with heap:=h',toks:=t1}) (R1.grownK fun b o e=>YS b o (bO (f7 e)) e)
   (fun q hq=>⟨(C8 C ro (aP (aB (aB w)))) (q.k,q.p) (l1▸dc hq),l5 q hq⟩) l6 l7 fun q R2 K2=>go q R2 K1 K2
 ·refine Assign_Tuple_swapped (val fun{rs eZ ws g1 h1 t1 u} hq R1 K1 V1 o1=>?_) rfl hw
  obtain⟨L,l1,l2,l5,l6,l7⟩:=PW V1 hq
  have hlen:(ks.map fun k=>J.nm k.1).length=ws.toArray.size:=by rw[aI,aM,<-l1,<-l2,aI,aI]
  refine hlen.symm▸?_
  refine wpAny_unpackItems_tuple M.hh o1 fun h' YS=>?_
  have e1:(ks.map fun k=>J.nm k.1).reverse.map (fun n=>bindName cx.env n)=L.reverse.map fun q=>bindName cx.env (J.nm q.k):=by rw[<-l1,fM,fM,eQ,eQ];rfl
  refine e1.symm▸(by rw[<-l2,fM]:ws.toArray.toList.reverse=L.reverse.map (·.v)).symm▸?_
  refine HN (n:=n) (t:=fun q=>bindName cx.env (J.nm q.k)) C (fun h=>bindName_ h) L.reverse (s:={s with heap:=h',toks:=t1}) (st:=eZ) (Q:=fun st=>dJ W cl d r st Q) (R1.grownK fun b o e=>YS b o (bO (f7 e)) e)
   (fun q hq=>⟨(C8 C ro (aP (aB (aB w)))) (q.k,q.p) (l1▸dc (jS.mp hq)),l5 q (jS.mp hq)⟩) (List.pairwise_reverse.mpr (l6.imp fun h=>bY h)) ?_ fun q R2 K2=>go q R2 K1 K2
  rw[Ke L eZ (by rw[show L.map (·.k)=ks.map fun k=>k.1 by rw[<-l1,eQ];rfl];exact(kF (aP (aB (aB (aB w))))))]
  exact l7
theorem QG(Fc:Facts D P)(NF:3<=d->kz D P d)(RU:1<=d->mY D P d)(H:lQ D P d cl)(M:cY D f A d):∀b,SS D P f A W cl d b:=by
 intro b
 have ax:=LL Fc NF RU H M
 induction b with
 |nil=>exact Ro
 |asg k x p q r i=>exact Rr Fc M ax i
 |wd ks x p q r i=>exact MI M (ax x) i
 |n7 ks xs p o q r i=>exact MJ M ax i
 |nk k x y p o q r i=>exact Mz Fc M (ax x) (ax y) i
 |zh x fd y v p o q r i=>exact MA Fc M (ax x) (ax v) i
 |EN x fd v p q r i=>exact MB Fc M (ax x) (ax v) i
 |AY k x p q r i=>exact MG (ax x) i
 |GP x fd v p q r i=>exact MH Fc M (ax x) i
 |g9 k a x c y p1 p2 p3 p4 p5 q r i=>exact ME Fc (ax a) (ax x) (ax c) (ax y) i
 |ret x q r i=>exact Rm (ax x)
 |iE k p q r i=>exact MD
 |gU c a b q r i1 i2 i3=>exact Rp (ax c) i1 i2 i3
 |Et c b q r i1 i2=>exact Rl (ax c) i1 i2
 |fr ks p ik it b q r i1 i2=>exact W0 Fc M (ax it) i1 i2
 |cont q r i=>exact MF
 |del k lo p1 p2 p3 q r i=>exact Rq (ax lo) i
 |ex x q r i=>exact W3 (ax x) i
end
section
variable{D:dh}{P:ck}{f:Fm}{cx:Cx}{J:Cn}{A:b9}{E:aj->aw->Prop}{s:aw}{st st':St}{g g':Gh}{n d W:Nat}{cl:lq}
theorem KU:∀(names:List (Str×dC))(n:Nat)(acc:List (Str×aZ))(x:Str)(c:aZ),(x,c)∈fG n names acc->(x,c)∈acc\/n<=c:=by
 intro names
 induction names with
 |nil=>
  intro _ _ _ _ h
  exact .inl h
 |cons zx r cz=>
  obtain⟨y,k⟩:=zx
  intro n acc x c h
  unfold fG at h
  split at h
  ·rcases cz _ _ x c h with h|h
   ·rcases aA.mp h with e|h
    ·obtain⟨rfl,rfl⟩:=aN e;exact .inr (ab _)
    ·exact .inl h
   ·exact .inr (cv h)
  ·exact cz _ _ x c h
theorem cells_apart:∀(names:List (Str×dC))(n:Nat)(acc:List (Str×aZ)),(∀p∈acc,p.2<n)->acc.Pairwise (fun a b=>a.2≠b.2)->(fG n names acc).Pairwise (fun a b=>a.2≠b.2):=by
 intro names
 induction names with
 |nil=>
  intro _ _ _ h
  exact h
 |cons zx r cz=>
  obtain⟨y,k⟩:=zx
  intro n acc hl h
  unfold fG
  split
  ·refine cz _ _ (fun p hp=>?_) (dS.mpr ⟨fun p hp=>nG (hl p hp),h⟩)
   rcases aA.mp hp with rfl|hp
   ·exact dU _
   ·exact Nat.lt_succ_of_lt (hl p hp)
  ·exact cz _ _ hl h
theorem sj:∀{cs:List (Str×aZ)}{cells:List (aZ×Obj)},CellsAre cm cs cells->∀{x:Str}{c:aZ},(x,c)∈cs->∃o,(c,o)∈cells/\o.data=.cell (cm x):=by
 intro cs cells H
 induction H with
 |nil=>intro x c h;exact(bt h).elim
 |cons hd r ih=>
  intro x c h
  rcases aA.mp h with e|h
  ·obtain⟨rfl,rfl⟩:=aN e;exact⟨_,.head _,hd⟩
  ·obtain⟨o,h1,h2⟩:=ih h
   exact⟨o,.tail _ h1,h2⟩
theorem lF:∀{cs:List (Str×aZ)}{cells:List (aZ×Obj)},CellsAre cm cs cells->∀{c:aZ}{o:Obj},(c,o)∈cells->∃x,(x,c)∈cs/\o.data=.cell (cm x):=by
 intro cs cells H
 induction H with
 |nil=>intro c o h;exact(bt h).elim
 |cons hd r ih=>
  intro c o h
  rcases aA.mp h with e|h
  ·obtain⟨rfl,rfl⟩:=aN e;exact⟨_,.head _,hd⟩
  ·obtain⟨x,h1,h2⟩:=ih h
   exact⟨x,.tail _ h1,h2⟩
theorem wJ{cs:List (α×aZ)}(hp:cs.Pairwise fun a b=>a.2≠b.2){x y:α}(h1:(x,c)∈cs)(h2:(y,c)∈cs):x=y:=by
 induction cs with
 |nil=>exact(bt h1).elim
 |cons q cs ih=>
  obtain⟨a1,a2⟩:=dS.mp hp
  rcases aA.mp h1 with e1|h1
  ·rcases aA.mp h2 with e2|h2
   ·cases e1.trans e2.symm;rfl
   ·exact absurd (show q.2=c by rw[<-e1]) (a1 _ h2)
  ·rcases aA.mp h2 with e2|h2
   ·exact absurd (show q.2=c by rw[<-e2]) (a1 _ h1)
   ·exact ih a2 h1 h2
theorem La:∀{l:List (Str×aj)}{m:Str->Option aj}{x:Str},x∉l.map (·.1)->bindL ko l m x=m x:=by
 intro l
 induction l with
 |nil=>
  intro _ _ _
  exact rfl
 |cons zx l cz=>
  obtain⟨y,v⟩:=zx
  intro m x h
  unfold bindL
  rw[cz fun e=>h (.tail _ e)]
  split
  ·exact if_neg fun(e:x=y)=>h (by exact e.symm▸ .head _)
  ·rfl
theorem Lb:∀{l:List (Str×aj)}{m:Str->Option aj}{x:Str},x∉l.map (·.1)->bindC ko l m x=m x:=by
 intro l
 induction l with
 |nil=>
  intro _ _ _
  exact rfl
 |cons zx l cz=>
  obtain⟨y,v⟩:=zx
  intro m x h
  unfold bindC
  rw[cz fun e=>h (.tail _ e)]
  split
  ·rfl
  ·exact if_neg fun(e:x=y)=>h (by rw[e];exact .head _)
theorem AD:∀{l:List (Str×aj)}{m:Str->Option aj}{x:Str}{v:aj},(l.map (·.1)).Nodup->(x,v)∈l->ko x=some .local->bindL ko l m x=some v:=by
 intro l
 induction l with
 |nil=>
  intro _ _ _ _ h _
  exact(bt h).elim
 |cons zx l cz=>
  obtain⟨y,w⟩:=zx
  intro m x v hn h hk
  obtain⟨n1,n2⟩:=cZ.mp (show(y::l.map (·.1)).Nodup from hn)
  unfold bindL
  rcases aA.mp h with e|h
  ·obtain⟨rfl,rfl⟩:=aN e
   rw[La n1,if_pos hk];exact if_pos rfl
  ·exact cz n2 h hk
theorem Ld:∀{l:List (Str×aj)}{m:Str->Option aj}{x:Str}{v:aj},(l.map (·.1)).Nodup->(x,v)∈l->ko x≠some .local->bindC ko l m x=some v:=by
 intro l
 induction l with
 |nil=>
  intro _ _ _ _ h _
  exact(bt h).elim
 |cons zx l cz=>
  obtain⟨y,w⟩:=zx
  intro m x v hn h hk
  obtain⟨n1,n2⟩:=cZ.mp (show(y::l.map (·.1)).Nodup from hn)
  unfold bindC
  rcases aA.mp h with e|h
  ·obtain⟨rfl,rfl⟩:=aN e
   rw[Lb n1,if_neg hk];exact if_pos rfl
  ·exact cz n2 h hk
noncomputable def z0:Option Ow->Option Ow
 |some .fz=>some .fz
 |some (.cell i j)=>some (.cell i j)
 |some _=>some .rest
 |none=>none
noncomputable def U8(cells:List (aZ×Obj))(c:aZ):Option aj:=
 match cells.find? (fun p=>p.1==c)with
 |some p=>(match p.2.data with|.cell v=>v|_=>none)
 |none=>none
noncomputable def Gh.enter(g:Gh)(cells:List (aZ×Obj))(m:Str->Option aj):Gh:=
 {ow:=fun a=>@bE (fun _=>Option Ow) (z0 (g.ow a)) (some .py) (cells.any fun p=>p.1==a),ca:=g.ca,nw:=cells++g.nw,
  pv:=fun q=>match q with|.loc x=>m x|.so c=>U8 cells c|.cmp _ _=>none}
noncomputable def ve(n:Nat):Option Ow->Option Ow->Option Ow
 |some .fz,_=>some .fz
 |some (.cell i j),_=>some (.cell i j)
 |some (.m8 0),_=>some (.m8 n)
 |some .rest,some .fz=>none
 |some .rest,some (.cell _ _)=>none
 |some .rest,some X=>some X
 |_,_=>none
noncomputable def Gh.back(g' g:Gh)(n:Nat):Gh:={ow:=fun a=>ve n (g'.ow a) (g.ow a),ca:=g'.ca,nw:=g'.nw,pv:=g.pv}
noncomputable def FC(X:Ow):Prop:=X=.fz\/∃i j,X=.cell i j
theorem Kr(h:(cells.any fun p=>p.1==a)=false):(g.enter cells m).ow a=z0 (g.ow a):=by
 show @bE (fun _=>Option Ow) (z0 (g.ow a)) (some .py) (cells.any fun p=>p.1==a)=_
 rw[h]
theorem OI(h:(cells.any fun p=>p.1==a)=true):(g.enter cells m).ow a=some .py:=by
 show @bE (fun _=>Option Ow) (z0 (g.ow a)) (some .py) (cells.any fun p=>p.1==a)=_
 rw[h]
theorem Al{cells:List (aZ×Obj)}(fC:∀p∈g.nw,∀q∈cells,p.1≠q.1)(h:(a,o)∈g.nw):(cells.any fun p=>p.1==a)=false:=by
 rw[Hp]
 intro e
 obtain⟨q,h1,h2⟩:=tp.mp e
 exact fC _ h q h1 (eq_of_beq h2).symm
theorem Ak(fC:∀p∈g.nw,∀q∈cells,p.1≠q.1){a:aZ}{X:Ow}(h:Ob g a X o):(g.enter cells m).ow a=z0 (some X)/\(a,o)∈(g.enter cells m).nw:=
 ⟨(Kr (Al fC h.2)).trans (congrArg z0 h.1),bP _ h.2⟩
theorem u9(fC:∀p∈g.nw,∀q∈cells,p.1≠q.1):Le FC g (g.enter cells m):=
 ⟨fun a X o hX h=>by
   have:=Ak (m:=m) fC h
   rcases hX with rfl|⟨i,j,rfl⟩<;>exact this,fun _ _ e=>e,fun _ o h=>⟨o,bP _ h⟩⟩
theorem yG:Le FC g' (g'.back g n):=
 ⟨fun a X o hX h=>by
   refine⟨?_,h.2⟩
   show ve n (g'.ow a) (g.ow a)=some X
   refine h.1.symm▸?_
   rcases hX with rfl|⟨i,j,rfl⟩<;>rfl,fun _ _ e=>e,fun _ o h=>⟨o,h⟩⟩
theorem AJ(h:Ob g' a (.m8 0) o):Ob (g'.back g n) a (.m8 n) o:=by
 refine⟨?_,h.2⟩
 show ve n (g'.ow a) (g.ow a)=_
 refine h.1.symm▸?_;rfl
theorem Pg(V:VR P g' 0 b m v):VR P (g'.back g n) n b m v:=by
 have L:GLe g' (g'.back g n):=yG.gZ (.inl rfl)
 induction b with
 |false=>exact Tr.mono L V
 |true=>
  obtain⟨a,e,o⟩:=V
  refine⟨a,e,?_⟩
  cases m with
  |lst xs=>obtain⟨vs,k,h1,h2⟩:=o;exact⟨vs,k,AJ h1,h2.mono L⟩
  |bI es=>obtain⟨vs,k,h1,h2,h3⟩:=o;exact⟨vs,k,AJ h1,h2.mono L,h3⟩
  |_=>exact o.elim
theorem zQ(fC:∀p∈g.nw,∀q∈cells,p.1≠q.1)(R:Rel P f' cx' h' st' g')(K:Kq 0 (g.enter cells m) g')(V:VR P g' 0 b x v)
 (F:Fr f.h₀ f.L h' (fun x=>g.pv (.loc x))) (N:News f.h₀ f.L h' g'.nw):Bk P f n g (g'.back g n) st'.mu b x v h' where
 F:=F
 pv:=rfl
 B:=⟨N,fun a X e=>by
    have e:ve n (g'.ow a) (g.ow a)=some X:=e
    match h:g'.ow a with
    |some Y=>exact R.ow a Y h
    |none=>(rw[h]at e;exact(ay _ (cN e)).elim),R.len,R.lo,fun i c e=>(R.mu i c e).mono yG (.inl rfl) fun j=>.inr ⟨i,j,rfl⟩⟩
 L:=⟨fun a X o hX h=>by
    have h1:=Ak (m:=m) fC h
    by_cases hf:X=.fz
    ·subst hf
     exact yG.ob _ _ _ (.inl rfl) (K.fz _ _ h1)
    ·have h2:z0 (some X)=some .rest:=by
      induction X<;>first|rfl|exact absurd rfl hf|exact absurd rfl (hX _ _)
     refine⟨?_,(K.rest a o ⟨h1.1.trans h2,h1.2⟩).2⟩
     show ve n (g'.ow a) (g.ow a)=some X
     refine(K.rest a o ⟨h1.1.trans h2,h1.2⟩).1.symm▸h.1.symm▸?_
     induction X<;>first|rfl|exact absurd rfl hf|exact absurd rfl (hX _ _),fun i a e=>K.ca i a e,fun a o h=>K.zz a o (bP _ h)⟩
 V:=Pg V
 nw:=fun a o h=>K.zz a o (bP _ h)
noncomputable def E4(nl:List Str)(sc:fq)(L:aZ)(k:Nat):Option Pl:=match nl[k]? with
 |some x=>@bE (fun _=>Option Pl) (some (.loc x)) (((fG (L+1) sc.names []).lookup x).map .so) (sc.names.lookup x==some .cell)
 |none=>none
noncomputable def ZA(sc:fq)(nl:List Str):Bool:=G4 nl&&(G4 ((fG 0 sc.names []).map (·.1))&&nl.all fun x=>(sc.names.lookup x==some .local||sc.names.lookup x==some .cell)&&BX x)
noncomputable abbrev kT(X:nr)(a L:aZ):Env:=envOfC X.qual X.scope L a X.Az
noncomputable abbrev yq(X:nr)(nl:List Str)(a L:aZ)(cells:List (aZ×Obj)):Cx:={env:=kT X a L,pl:=E4 nl X.scope L,pcs:=cells.map (·.1),cds:=[]}
noncomputable abbrev yp(X:nr)(a:aZ)(f:Fm)(A:b9)(g₁:eO)(L:aZ):Fm:=⟨g₁,L,kT X a L,f.fenv::f.outer,f.base,A⟩
noncomputable abbrev s8(X:nr)(nl:List Str)(nm:Nat->Str):Cn:=⟨X.scope.names,nl.zipIdx,nm⟩
theorem D7{cells:List (aZ×Obj)}(Y:CellsAre cm cs cells)(hp:cs.Pairwise fun a b=>a.2≠b.2){x:Str}(h:(x,c)∈cs):U8 cells c=cm x:=by
 obtain⟨o,h1,h2⟩:=sj Y h
 unfold U8
 induction hf:cells.find? (fun p=>p.1==c)with
 |none=>exact absurd (beq_self_eq_true c) (List.find?_eq_none.mp hf _ h1)
 |some p=>
  have e0:=List.find?_some hf
  obtain⟨y,h3,h4⟩:=lF Y (c:=p.1) (o:=p.2) (List.mem_of_find?_eq_some hf)
  replace h3:=(eq_of_beq e0:p.1=c)▸h3
  cases wJ hp h h3
  dsimp only
  exact h4.symm▸rfl
theorem Du(h:BX x=true):okN x:=⟨dH _▸aP h,dH _▸aB h⟩
noncomputable def Ken(D:dh)(P:ck)(f:Fm)(A:b9)(d:Nat)(g:Gh)(s:aw)(a:aZ)(X:nr)(nl:List Str)(nm:Nat->Str)(binds:List (Str×aj))(loc:List Slot)(mu:List MC)(R:Result->aw->Prop):Prop:=
 ∀⦃g₁ L h₁ tk cells E⦄,cY D (yp X a f A g₁ L) (A.deeper (kT X a L)) d->eX (yp X a f A g₁ L) (yq X nl a L cells) (s8 X nl nm)->Rel P (yp X a f A g₁ L) (yq X nl a L cells) h₁ ⟨loc,mu⟩ (g.enter cells (bindL (kT X a L).kindOf binds fun _=>none))->
  (∀p∈g.nw,∀q∈cells,p.1≠q.1)->CellsAre (bindC (kT X a L).kindOf binds fun _=>none) (fG (L+1) X.scope.names []) cells->
  Wp D (A.deeper (kT X a L)) (execs X.body (kT X a L)) (fun fl s'=>LeaveK f.h₀ f.L (fun x=>g.pv (.loc x)) g₁ R (match fl with|.ret v=>v|_=>.none) s') E {s with heap:=h₁,toks:=tk}
noncomputable def Binds(D:dh)(X:nr)(ps:List Str):Prop:=∀vs,vs.length=ps.length->∀s:aw,D.K.In s.heap->BindsTo s X.fd ⟨vs,[]⟩ (ps.zip vs)
theorem rJ{X:nr}{mu:List MC}(I:FnIn D a X)(hb:Binds D X ps)(hB:ZA X.scope nl=true)(FK:ps<+:nl)
 (M:cY D f A (d+1)) (F:Fr f.h₀ f.L s.heap (fun x=>g.pv (.loc x))) (B:Bs P f s.heap mu g) (YT:vs.length=ps.length) (T:∀(k:Nat)(sl:Slot),loc[k]?=some sl->sl=Slot.un\/∃(m:MV)(v:aj),sl=Slot.fz m/\vs[k]?=some v/\Tr P g none m v)
 (k:Ken D P f A d g s a X nl nm (ps.zip vs) loc mu R):codeAny (oK D.prog D.w) A (.call (.ref a) ⟨vs,[]⟩) R s:=by
 have n1:=kF (aP hB)
 have hG:∀(k:Nat)(x:Str),nl[k]?=some x->(X.scope.names.lookup x=some .local\/X.scope.names.lookup x=some .cell)/\okN x:=fun k x h=>by
  have:=bw.mp (aB (aB hB)) x (cW h)
  have h1:=aP this
  rw[nJ,beq_iff_eq,beq_iff_eq]at h1
  exact⟨h1,Du (aB this)⟩
 have xb:∀(i:Nat)(x:Str),ps[i]?=some x->nl[i]?=some x:=fun i x h=>by
  obtain⟨t,e⟩:=FK
  exact e▸(fk (bb.mp h).1).symm▸h
 have hzn:((ps.zip vs).map (·.1)).Nodup:=by
  rw[List.map_fst_zip (bu YT.symm)]
  exact List.Nodup.sublist FK.sublist n1
 have Ad:((ps.zip vs).all fun y=>X.scope.names.lookup y.1==some .local||X.scope.names.lookup y.1==some .cell)=true:=by
  rw[bw]
  intro y hy
  obtain⟨i,hi,e⟩:=List.mem_iff_getElem.mp (nH (a:=y.1) (b:=y.2) hy).1
  rcases(hG i y.1 (xb i y.1 (by rw[ez hi,e]))).1 with h|h<;>refine h.symm▸?_<;>rfl
 have z8:A.depth<jU:=by
  have:=M.depth
  show A.depth<1000
  lia
 refine code_defC (K:=D.K) M.B F M.X B.N M.T M.hA M.hf M.hk I.look I.code z8 (hb vs YT s (fun b o e=>F.keep b o (M.X b o e))) Ad (kF (aP (aB hB))) (fun g₁ L' h₁ tk cells FG F' N' Y B' X' T' fC=>?_) I.co I.gen I.kind
 have y2:∀(x:Str)(c:aZ),(x,c)∈fG (L'+1) X.scope.names []->L'<c:=fun x c h=>(KU _ _ _ _ _ h).elim nofun id
 have hap:(fG (L'+1) X.scope.names []).Pairwise fun a b=>a.2≠b.2:=cells_apart _ _ _ (fun p hp=>(bt hp).elim) .nil
 have eM:∀p∈g.nw,∀q∈cells,p.1≠q.1:=fun p hp q hq=>by
  obtain⟨x,h1,_⟩:=lF Y (c:=q.1) (o:=q.2) hq
  exact bO (g0 (fC p hp) (y2 _ _ h1))
 have XF:∀k x,nl[k]?=some x->(X.scope.names.lookup x=some .local/\E4 nl X.scope L' k=some (.loc x))\/(X.scope.names.lookup x=some .cell/\∃c,(fG (L'+1) X.scope.names []).lookup x=some c/\E4 nl X.scope L' k=some (.so c)):=fun k x h=>by
  unfold E4
  refine h.symm▸?_
  dsimp only
  rcases(hG k x h).1 with e|e
  ·exact e.symm▸ .inl ⟨rfl,rfl⟩
  ·obtain⟨c,hc⟩:=en.mp (cellsFrom_some (x:=x) X.scope.names (L'+1) [] (.inl e))
   exact e.symm▸hc.symm▸ .inr ⟨rfl,c,rfl,rfl⟩
 have Im:∀k q,E4 nl X.scope L' k=some q->∃x,nl[k]?=some x:=fun k q h=>by
  induction e:nl[k]? with
  |some x=>exact⟨x,rfl⟩
  |none=>unfold E4 at h;rw[e]at h;exact(ay _ (cN h)).elim
 have C':eX (yp X a f A g₁ L') (yq X nl a L' cells) (s8 X nl nm):=by
  refine⟨I.kind,rfl,rfl,fun x hx=>eq_of_beq hx,fun x k hx=>?_,fun i j q hi hj=>?_,fun x hx=>hx,fun k Ca x hk=>?_⟩
  ·have hm:nl[k]?=some x:=sR.mp (lookup_mem hx)
   refine⟨(hG k x hm).2,?_⟩
   rcases XF k x hm with⟨e,h⟩|⟨e,c,hc,h⟩
   ·exact .inl ⟨e,.inl ⟨rfl,h⟩⟩
   ·obtain⟨o,h1,_⟩:=sj Y (lookup_mem hc)
    exact .inr ⟨.inl e,c,hc,h,dc (f:=fun p=>p.1) h1⟩
  ·obtain⟨x,hx⟩:=Im i q hi
   obtain⟨y,hy⟩:=Im j q hj
   have same:x=y:=by
    rcases XF i x hx with⟨_,h⟩|⟨_,c,hc,h⟩<;>rcases XF j y hy with⟨_,h'⟩|⟨_,c',hc',h'⟩<;>have:=(h.symm.trans hi).trans (hj.symm.trans h')<;>cases this
    ·rfl
    ·exact wJ hap (lookup_mem hc) (lookup_mem hc')
   subst same
   exact(Hk (bb.mp hx).1 n1).mp (hx.trans hy.symm)
  ·obtain⟨x',YS⟩:=Im k _ hk
   rcases XF k x' YS with⟨_,h⟩|⟨_,c,hc,h⟩<;>cases h.symm.trans hk
 have M':cY D (yp X a f A g₁ L') (A.deeper (kT X a L')) d:=by
  refine⟨oi M.hA,M.hh,B',X',T',rfl,I.kind,?_,?_⟩
  ·have:=M.depth
   show A.depth+1+d<=999
   lia
  ·have:=M.units
   show A.units+3+8*d<=9000
   lia
 have L₀:Le FC g (g.enter cells (bindL (kT X a L').kindOf (ps.zip vs) fun _=>none)):=u9 eM
 refine k M' C' ⟨⟨N',fun b Y' e=>?_,B.len,⟨?_,?_⟩,fun i c e=>(B.mu i c e).mono L₀ (.inl rfl) fun j=>.inr ⟨i,j,rfl⟩⟩,F',fun c hc=>?_,(fun Ca hC=>nomatch hC),fun j=>?_,(fun Ca x v e=>nomatch e)⟩ eM Y
 ·induction h:cells.any fun p=>p.1==b with
  |true=>
   obtain⟨q,h1,h2⟩:=tp.mp h
   exact⟨q.2,cX _ (eq_of_beq h2▸h1)⟩
  |false=>
   rw[Kr h]at e
   induction h:g.ow b with
   |none=>rw[h]at e;exact(ay _ (cN e)).elim
   |some Z=>
    obtain⟨o,ho⟩:=B.ow b Z h
    exact⟨o,bP _ ho⟩
 ·obtain⟨p,hp⟩:=B.lo.1
  exact⟨p,bP _ hp⟩
 ·intro p hp
  rcases kA.mp hp with hp|hp
  ·obtain⟨x,h1,_⟩:=lF Y (c:=p.1) (o:=p.2) hp
   obtain⟨q,hq⟩:=B.lo.1
   exact g0 (g0 (B.lo.2 q hq) (fC q hq)) (y2 _ _ h1)
  ·exact B.lo.2 p hp
 ·obtain⟨p,hp,rfl⟩:=d6.mp hc
  obtain⟨x,h1,h2⟩:=lF Y (c:=p.1) (o:=p.2) hp
  exact⟨p.2,⟨OI (tp.mpr ⟨p,hp,beq_self_eq_true p.1⟩),cX _ hp⟩,h2.trans (congrArg tw (D7 Y hap h1).symm)⟩
 ·show lH P _ _ _ loc[j]?
  induction hs:loc[j]? with
  |none=>trivial
  |some sl=>
   rcases T j sl hs with rfl|⟨m,v,rfl,hv,t⟩
   ·trivial
   ·have hj:j<ps.length:=YT▸(bb.mp hv).1
    have hp:ps[j]?=some ps[j]:=ez hj
    rcases XF _ _ (xb j _ hp)with⟨e,h⟩|⟨e,c,hc,h⟩
    ·exact⟨_,v,h,AD hzn (uf (i:=j) hp hv:(ps[j],v)∈ps.zip vs) e,(t.mono (L₀.gZ (.inl rfl)))⟩
    ·exact⟨_,v,h,(D7 Y hap (lookup_mem hc)).trans (Ld hzn (uf (i:=j) hp hv:(ps[j],v)∈ps.zip vs) (fun e'=>nomatch e.symm.trans e')),(t.mono (L₀.gZ (.inl rfl)))⟩
end
structure FnAt(D:dh)(a:aZ)(np:Nat)(b:Ss)(X:nr)(nl ps:List Str)(nm:Nat->Str):Prop extends FnIn D a X where
 bind:∀vs,vs.length=ps.length->mC X.fd ⟨vs,[]⟩=pure (ps.zip vs)
 fb:ZA X.scope nl=true
 pre:ps<+:nl
 len:ps.length=np
 body:X.body=iF nm b
 wf:rY b (s8 X nl nm)=true
inductive abQ(D:dh)(P:ck)(x:X)(c:aZ)(o:Obj)(c':aZ)(o':Obj):Prop
 |mk(name qual:Str)(params:rX)(scope:fq)(cl:List (Str×aZ))(pm D4:aj)(vs:Array aj)(t:Tok)(nm:Nat->Str)(G:List (Str×Nat))
  (h1:o=kla_obj name qual params (py nm x) scope cl pm c' D4) (h2:o'.data=.fields vs) (h3:vs[1]?=some (.str qual t)) (h4:∀v,mC (kla_fn name qual params (py nm x) scope cl pm (.ref c') D4) ⟨[v],[]⟩=pure [(nm 0,v)])
  (h5:scope.kind=.function) (h6:scope.isCoroutine=false) (h7:scope.isGenerator=false) (h8:∀x∈scope.names,x.2≠ .cell) (h9:scope.names.lookup (nm 0)=some .local) (h10:wf x ⟨scope.names,G,nm⟩=true)
  (h11:∀y j,G.lookup y=some j->okN y/\((j=0/\y=nm 0)\/(j=1/\scope.names.lookup y=some .free/\cl.lookup y=some c)))
structure LQ(D:dh)(P:ck)(k:Nat)(x:X):Prop where
 at_:∀c o c' o',P.lam k c o c' o'->abQ D P x c o c' o'
section
variable{D:dh}{P:ck}{f:Fm}{cx:Cx}{J:Cn}{A:b9}{E:aj->aw->Prop}{s:aw}{st st':St}{g g':Gh}{n d W:Nat}{cl:lq}
theorem e7.at2:∀{xs:List MV}{vs:List aj}{j:Nat}{x:MV},e7 P g xs vs->xs[j]?=some x->∃v,vs[j]?=some v/\Tr P g none x v:=by
 intro xs
 induction xs with
 |nil=>exact fun _ e=>(ay _ (cN e)).elim
 |cons x xs cz=>
  intro vs j x h e
  obtain⟨v,r,rfl,h1,h2⟩:=h.inv
  induction j with
  |zero=>obtain rfl:=ar e;exact⟨v,rfl,h1⟩
  |succ j=>exact cz (j:=j) h2 e
theorem I3(T:e7 P g ms vs)(k:Nat)(sl:Slot)(h:(ms.map Slot.fz++lu r Slot.un)[k]?=some sl):sl=Slot.un\/∃(m:MV)(v:aj),sl=Slot.fz m/\vs[k]?=some v/\Tr P g none m v:=by
 rcases k8 k (ms.map Slot.fz).length with hk|hk
 ·replace h:=jg▸fk hk▸h
  induction e:ms[k]? with
  |none=>replace h:=e▸h;exact(ay _ (cN h)).elim
  |some m=>
   rw[e]at h
   obtain rfl:=ar h
   obtain⟨v,h1,h2⟩:=T.at2 e
   exact .inr ⟨m,v,rfl,h1,h2⟩
 ·rw[ly hk]at h
  exact .inl (List.eq_of_mem_replicate (cW h))
theorem nT{X:nr}(eM:∀p∈g.nw,∀q∈cells,p.1≠q.1)(R':Rel P (yp X a f A g₁ L) cx h' st' g')(K:Kq 0 (g.enter cells m) g')
 (V:VR P g' 0 b x v) (k:Bk P f n g (g'.back g n) st'.mu b x v h'->R (.ok (.ret v)) {s with heap:=h',toks:=tk}):LeaveK f.h₀ f.L (fun x=>g.pv (.loc x)) g₁ R v {s with heap:=h',toks:=tk}:=
 leaveK_ R'.F R'.N fun F₂ N₂=>k (zQ eM R' K V F₂ N₂)
theorem Am{fn:Fn}{X:nr}(I:FnAt D a fn.np fn.body X nl ps nm)(Fc:Facts D P)(NF:3<=d->kz D P d)(RU:1<=d->mY D P d)(H:lQ D P d cl)(hl:ms.length=fn.np)
 (hr:dJ W cl d fn.body ⟨ms.map .fz++lu (fn.ns-fn.np) .un,mu⟩ (eL Q)) (M:cY D f A (d+1)) (F:Fr f.h₀ f.L s.heap (fun x=>g.pv (.loc x))) (B:Bs P f s.heap mu g) (T:e7 P g ms vs)
 (k:∀b m mu' v g' h' tk,Q b m mu'->Bk P f n g g' mu' b m v h'->R (.ok (.ret v)) {s with heap:=h',toks:=tk}):codeAny (oK D.prog D.w) A (.call (.ref a) ⟨vs,[]⟩) R s:=by
 refine rJ (nm:=nm) (loc:=ms.map .fz++lu (fn.ns-fn.np) .un) I.toFnIn (fun vs h _ _=>.of_eq (I.bind vs h)) I.fb I.pre M F B (by rw[T.len,hl,I.len]) (I3 T) fun g₁ L h₁ tk cells E M' C' R' eM Y=>?_
 refine tV I.body ?_
 refine QG (W:=W) Fc NF RU H M' fn.body (n:=0) (s:={s with heap:=h₁,toks:=tk}) C' rfl I.wf R' hr fun fl st' flow g' h' PE hq R'' K'' Ff=>?_
 induction fl with
 |ret b m=>induction flow<;>first|exact Ff.elim|exact nT eM R'' K'' Ff fun Bk=>k _ _ _ _ _ h' PE hq Bk
 |Dv=>induction flow<;>first|exact Ff.elim|exact nT eM R'' K'' (VR.of VW) fun Bk=>k _ _ _ _ _ h' PE hq Bk
 |cont=>induction flow<;>first|exact Ff.elim|exact nT eM R'' K'' (VR.of VW) fun Bk=>k _ _ _ _ _ h' PE hq Bk
noncomputable def XG(nd:Str)(c:aZ):Nat->Option Pl
 |0=>some (.loc nd)
 |1=>some (.so c)
 |_=>none
noncomputable def XB(m:Str->Option aj)(c:aZ)(u:aj):Pl->Option aj
 |.loc y=>m y
 |.so b=>@bE (fun _=>Option aj) none (some u) (b==c)
 |.cmp _ _=>none
theorem TJ{Q:Bool->MV->List MC->Prop}(X:LQ D P j x)(Fc:Facts D P)(NF:3<=d->kz D P d)(RU:1<=d->mY D P d)(H:lQ D P d cl)(Qd:jP j=some (64+j,true))(hr:(cP cl d x).ev ⟨[.fz m,.fz (.ref i)],mu⟩ fun b m st=>Q b m st.mu)
 (M:cY D f A (d+1)) (F:Fr f.h₀ f.L s.heap (fun x=>g.pv (.loc x))) (B:Bs P f s.heap mu g) (T:Tr P g none m v) (T2:tY P g j i fv)
 (k:∀b m mu' v g' h' tk,Q b m mu'->Bk P f n g g' mu' b m v h'->R (.ok (.ret v)) {s with heap:=h',toks:=tk}):codeAny (oK D.prog D.w) A (.call fv ⟨[v],[]⟩) R s:=by
 unfold tY at T2
 rw[Qd]at T2
 obtain⟨a,c,o,oc,ai,c',o',rfl,q1,q2,q6,q3,q4,q5⟩:=T2
 obtain⟨name,qual,params,scope,qE,pm,D4,vs,t,nm,G,rfl,j1,j2,i3,i5,i6,i7,i8,i9,i10,i11⟩:=X.at_ _ _ _ _ q2
 have z8:A.depth<jU:=by
  have:=M.depth
  show A.depth<1000
  lia
 refine kla_code (K:=D.K) M.B F M.X B.N M.T M.hA M.hf M.hk q1.2 ⟨c',o',vs,t,rfl,(B.N _ q6.2).1,j1,j2⟩ z8 (i3 v) (fun y hy=>by cases bj.mp hy;exact i9) (fun g₁ L' h₁ FG F' N' B' X' T'=>?_) i6 i7 i5 i8
 let yu:=envX qual scope L' a (.ref c') qE
 let cx':Cx:={env:=yu,pl:=XG (nm 0) c,pcs:=[c],cds:=[],ro:=true}
 let f':Fm:={h₀:=g₁,L:=L',fenv:=yu,outer:=f.fenv::f.outer,base:=f.base,A₀:=A}
 let m':Str->Option aj:=fun y=>[(nm 0,v)].reverse.lookup y
 let g₀:Gh:={g.enter [] m' with pv:=XB m' c (.ref ai)}
 have L₁:Le FC g (g.enter [] m'):=u9 fun _ _ _ h=>(bt h).elim
 have L₀:Le FC g g₀:=⟨L₁.ob,L₁.ca,L₁.nw⟩
 have C':eX f' cx' ⟨scope.names,G,nm⟩:=by
  refine⟨i5,rfl,rfl,fun x hx=>eq_of_beq hx,fun y j hy=>?_,fun i j q hi hj=>?_,fun x hx=>hx,fun j Ca x hk=>?_⟩
  ·obtain⟨h1,h2⟩:=i11 y j hy
   refine⟨h1,?_⟩
   rcases h2 with⟨rfl,rfl⟩|⟨rfl,h2,h3⟩
   ·exact .inl ⟨i9,.inl ⟨rfl,rfl⟩⟩
   ·exact .inr ⟨.inr h2,c,h3,rfl,.head _⟩
  ·match i,j,hi,hj with
   |0,0,_,_=>rfl
   |1,1,_,_=>rfl
   |0,1,hi,hj=>cases hi;cases hj
   |1,0,hi,hj=>cases hi;cases hj
   |i+2,_,hi,_=>exact(ay _ (cN hi)).elim
   |0,j+2,_,hj=>exact(ay _ (cN hj)).elim
   |1,j+2,_,hj=>exact(ay _ (cN hj)).elim
  ·match j,hk with
   |0,hk=>cases hk
   |1,hk=>cases hk
   |j+2,hk=>exact(ay _ (cN hk)).elim
 have M':cY D f' (A.deeper yu) d:=by
  refine⟨oi M.hA,M.hh,B',X',T',rfl,i5,?_,?_⟩
  ·have:=M.depth
   show A.depth+1+d<=999
   lia
  ·have:=M.units
   show A.units+3+8*d<=9000
   lia
 have pvc:g₀.pv (.so c)=some (.ref ai):=by
  show @bE (fun _=>Option aj) none (some (fj ai)) (c==c)=_
  rw[beq_self_eq_true]
 have R₀:Rel P f' cx' h₁ ⟨[.fz m,.fz (.ref i)],mu⟩ g₀:=by
  refine⟨⟨N',fun b Y e=>?_,B.len,B.lo,fun i c e=>(B.mu i c e).mono L₀ (.inl rfl) fun j=>.inr ⟨i,j,rfl⟩⟩,F',fun b hb=>?_,(fun Ca hC=>nomatch hC),fun j=>?_,(fun Ca x v e=>nomatch e)⟩
  ·have e:z0 (g.ow b)=some Y:=e
   induction h:g.ow b with
   |none=>rw[h]at e;exact(ay _ (cN e)).elim
   |some Z=>exact B.ow b Z h
  ·cases bj.mp hb
   exact⟨oc,L₀.ob _ _ _ (.inl rfl) q3,q4.trans (congrArg tw pvc.symm)⟩
  ·match j with
   |0=>exact⟨.loc (nm 0),v,rfl,(by show [(nm 0,v)].reverse.lookup (nm 0)=some v;simp),T.mono (L₀.gZ (.inl rfl))⟩
   |1=>exact⟨.so c,.ref ai,rfl,pvc,ai,q5,rfl⟩
   |j+2=>exact trivial
 refine(LL Fc NF RU H M' x).e (n:=0) (s:={s with heap:=h₁,toks:=s.toks+_}) C' i10 R₀ hr fun b y st' u g' h' PE hq R' K' V'=>?_
 refine leaveK_ R'.F R'.N fun F₂ N₂=>?_
 exact k _ _ _ _ _ h' PE hq (zQ (cells:=[]) (m:=m') (fun _ _ _ h=>(bt h).elim) R' ⟨⟨K'.fz,K'.ca⟩,K'.rest,K'.m8,K'.zz⟩ V' F₂ N₂)
structure Tab(D:dh)(P:ck):Prop where
 fn:∀lj fn,lj<64->F8 lj=some fn->∃X nl ps nm,FnAt D (P.fn lj) fn.np fn.body X nl ps nm
 lam:∀k fn,jP k=some (64+k,true)->F8 (64+k)=some fn->∃x p,fn=⟨2,2,.ret x p .nil⟩/\LQ D P k x
theorem U9(Fc:Facts D P)(T:Tab D P)(NF:∀d,3<=d->kz D P d)(RU:∀d,1<=d->mY D P d):∀d,lQ D P d (ah W d):=by
 intro d
 induction d with
 |zero=>exact fun lj ms mu Q h=>h.elim
 |succ d ih=>
  intro lj ms mu Q h f A s g n fv vs R M F B hc k
  obtain⟨fn,Ud,h⟩:=uL h
  obtain⟨hl,h⟩:=km h
  unfold Callee at hc
  by_cases fC:lj<64
  ·rw[if_pos fC]at hc
   obtain⟨rfl,hT⟩:=hc
   obtain⟨X,nl,ps,nm,I⟩:=T.fn lj fn fC Ud
   exact Am (n:=n) I Fc (NF d) (RU d) ih (df hl) h M F B hT k
  ·rw[if_neg fC]at hc
   obtain⟨m,v,i,rfl,rfl,hT,hC,Qd⟩:=hc
   have e:64+(lj-64)=lj:=GX (Nat.le_of_not_lt fC)
   obtain⟨x,p,rfl,X⟩:=T.lam (lj-64) fn (by rw[e];exact Qd) (by rw[e];exact Ud)
   exact TJ (n:=n) X Fc (NF d) (RU d) ih (by rw[e];exact Qd) h M F B hT hC k
end
noncomputable def avN:Str:=af "avoid"
noncomputable def FI:List Str:=[r4,eA .bU]
noncomputable def N8(k:Nat):Str:=FI.getD k ""
inductive NwB(X:nr):Prop
 |mk(p1 p2 p3 p4 p5 p6 p7 p8 p9 p10 p11 p12 p13:Pos)(h1:X.body=[.Assign [.Attribute (.Name r4 p1) (eA .bU) p2] (.Dict [] [] p3) p4,.Assign [.Attribute (.Name r4 p5) (eA .dD) p6] (.Dict [] [] p7) p8,.Expr (Fe (.Name r4 p9) avN [iH N8 1 p10] p11 p12) p13])(h2:(p11.endLine==p12.line)=true)
structure LN(D:dh)(P:ck)(Xa Xi:nr)(nl ps:List Str)(nm:Nat->Str):Prop extends ClsIn D P.cFresh "Fresh" (P.fn 72) Xi where
 tkn:nA D.K P.cFresh (eA .dD)=some none
 tka:nA D.K P.cFresh (eA .bU)=some none
 bind:Binds D Xi FI
 fb:ZA Xi.scope FI=true
 self:Xi.scope.names.lookup r4=some .local
 body:NwB Xi
 av:FnAt D (P.fn 71) 2 jJ Xa nl ps nm
 avM:fO D.K (.ref P.cFresh) avN=some (some (.ref (P.fn 71)))
 Wr:isFn D.K (.ref (P.fn 71))=true
 avK:keepIn D.K (.ref (P.fn 71))=true
section
variable{D:dh}{P:ck}{f:Fm}{cx:Cx}{J:Cn}{A:b9}{E:aj->aw->Prop}{s:aw}{st st':St}{g g':Gh}{n d W:Nat}{cl:lq}
theorem cY.less{d':Nat}(M:cY D f A d)(h:d'<=d):cY D f A d':=⟨M.hA,M.hh,M.B,M.X,M.T,M.hf,M.hk,aa (ag h _) M.depth,aa (ag (aK 8 h) _) M.units⟩
theorem cY.under{Ca:aZ}{vs:List aj}(M:cY D f A (d+1)):cY D f (A.under (.builtin "type.__call__" ⟨.ref Ca::vs,[]⟩)) d:=by
 have hu:(nE "type.__call__" ⟨.ref Ca::vs,[]⟩).cUnits<=8:=by
  show Nat.le _ 8
  exact(by decide:(1:Nat)<=8)
 refine⟨by exact mD.symm▸M.hA,M.hh,M.B,M.X,M.T,M.hf,M.hk,?_,?_⟩
 ·have:=M.depth
  show A.depth+_+d<=999
  refine(by rfl:(nE "type.__call__" ⟨.ref Ca::vs,[]⟩).weight=1).symm▸?_;rw[bh,aW 1];exact this
 ·have:=M.units
  show A.units+_+8*d<=9000
  lia
noncomputable def E7:lq:=fun _ _ _ _=>False
theorem Iz:lQ D P d E7:=fun _ _ _ _ h=>h.elim
theorem KW(h:st.mu[i]?=some c)(q:Q c):cellAt st i Q:=by unfold cellAt;rw[h];exact q
theorem Zo{X:Prop}(h:b=true)(x:X):gd b X:=by subst h;exact x
theorem dI:∀{es:List (Str×MV)},(br es k v).length<=es.length+1:=by
 intro es
 induction es with
 |nil=>
  exact ab _
 |cons zx r cz=>
  obtain⟨k',v'⟩:=zx
  show(@bE (fun _=>List (Str×MV)) _ _ (sq k' k)).length<=_
  cases sq k' k with
  |true=>exact dW _
  |false=>exact bA cz
theorem Lu(fr:List MV->St->(Fl->St->Prop)->Prop)
 (h0:∀st Q,fr [] st Q=Q .Dv st)
 (h1:∀x xs st Q,fr (x::xs) st Q=G2 (st.put 2 (.fz x)) 0 fun a st=>G2 st 2 fun y st=>wF .bU (.bool true) a y st fun st=>fr xs st Q):
 ∀(ks:List Str)(av:List (Str×MV))(sl:Slot)(mu:List MC),mu[i]?=some (.fresh av nums)->av.length+ks.length<=b8->Q false .none (mu.set i (.fresh (ks.foldl (fun es k=>br es k (.bool true)) av) nums))->fr (ks.map .str) ⟨[.fz (.ref i),.fz L,sl],mu⟩ (eL Q):=by
 intro ks
 induction ks with
 |nil=>
  intro av sl mu hm hl q
  rw[jf,h0]
  show Q false .none mu
  obtain⟨fC,e⟩:=bb.mp hm
  have q:Q false .none (mu.set i (.fresh av nums)):=q
  rw[<-e,List.set_getElem_self]at q
  exact q
 |cons k ks cz=>
  intro av sl mu hm hl q
  rw[dY,h1]
  have Y0:av.length+(ks.length+1)<=b8:=hl
  refine KW (st:=⟨[.fz (.ref i),.fz L,.fz (.str k)],mu⟩) hm ?_
  refine Zo (b:=zV .bU&&aV av.length b8) (by rw[show zV .bU=true from rfl,QS];exact bT (by lia)) ?_
  show fr (ks.map .str) ⟨[.fz (.ref i),.fz L,.fz (.str k)],mu.set i (.fresh (br av k (.bool true)) nums)⟩ (eL Q)
  refine cz (br av k (.bool true)) (.fz (.str k)) (mu.set i (.fresh (br av k (.bool true)) nums)) ?_ ?_ ?_
  ·rw[cq (bb.mp hm).1]
  ·have:=dI (k:=k) (v:=.bool true) (es:=av);lia
  ·rw[fW];exact q
theorem CR(hm:mu[i]?=some (.fresh [] []))(hl:ks.length<=100)(q:Q false .none (mu.set i (.fresh (Lv ks) []))):
 dJ W E7 0 jJ ⟨[.fz (.ref i),.fz (.lst (ks.map .str)),.un],mu⟩ (eL Q):=
 Lu (Q:=Q) (L:=.lst (ks.map .str)) (yo (fun m st Q=>kf [(2,_)] m st fun st=>dJ W E7 0 (.zh (.v 0 _) .bU (.v 2 _) (.bool true _) _ _ _ .nil) st Q) fun st Q=>Q .Dv st) (fun _ _=>rfl) (fun _ _ _ _=>rfl) ks [] .un mu hm (by unfold b8;show 0+_<=_;lia) q
theorem inD(hl:Xi.scope.names.lookup r4=some .local):bindL (kT Xi a L).kindOf (FI.zip [x,v]) (fun _=>none) r4=some x:=
 AD (by show [r4,eA .bU].Nodup;decide+kernel) (.head _) hl
theorem Iw:mA (.Dict [] [] p3) (some (.Attribute o a p)) line env=pure false:=rfl
theorem Cw:(cj b []).isSome=true:=by unfold cj;rfl
theorem qF(h:j≠k):Ow.cell i j≠Ow.cell i k:=fun e=>h (by injection e)
theorem mun{mu:List MC}(h:mu[mu.length]?=some c):False:=by rw[oh (ab _)]at h;exact(ay _ (cN h)).elim
set_option maxHeartbeats 2000000 in
theorem N6{mu:List MC}{K:Flow->aw->Prop}(I:LN D P Xa Xi nl ps nm)(Fc:Facts D P)(M:cY D f A 1)(C:eX f cx (s8 Xi FI N8))(R:Rel P f cx s.heap ⟨[.un,.fz (.lst (ks.map .str))],mu⟩ g)(hl:ks.length<=100)
 (pl0:cx.pl 0=some (.loc r4)) (hv0:g.pv (.loc r4)=some (.ref x)) (O1:Ob g x (.cell mu.length 0) (iC P.cFresh dx)) (O2:Ob g dx (.cell mu.length 1) (aU [] 0))
 (k:∀{loc g' h' tk},Rel P f cx h' ⟨loc,mu++[.fresh (Lv ks) []]⟩ g'->Kq 0 g g'->g'.ca[mu.length]?=some x->K .next {s with heap:=h',toks:=tk}):Wp D A (execs Xi.body cx.env) K E s:=by
 obtain⟨p1,p2,p3,p4,p5,p6,p7,p8,p9,p10,p11,p12,p13,hb,xb⟩:=I.body
 refine tV hb ?_
 have self:∀{E:aj->aw->Prop}{p K s' WZ vF},Rel P f cx s'.heap WZ vF->vF.pv (.loc r4)=some (.ref x)->K (.ref x) s'->Wp D A (ei (.Name r4 p) cx.env) K E s':=fun{E p K s' WZ vF} R hv h=>fB (k:=0) (pos:=p) C R (by show(FI.zipIdx.lookup (N8 0)==some 0)=true;decide+kernel:ug (s8 Xi FI N8) 0=true) (gF pl0 hv) h
 have abe:x≠dx:=fun e=>by subst e;exact nomatch O1.1.symm.trans O2.1
 have inst:∀{h3 g3 od},News f.h₀ f.L h3 g3.nw->Ob g3 x (.cell mu.length 0) (iC P.cFresh dx)->Ob g3 dx (.cell mu.length 1) od->Hg h3 x (iC P.cFresh dx) P.cFresh (some od):=fun N o1 o2=>
  lR (lC N o2.2) (.tail _ (c0.mpr ⟨o1.2,decide_eq_true abe⟩)) (.head _)
 refine ba (dr (xy ?_) Iw)
 have R1:=de R (aU [] 0) (.cell mu.length 2)
 have K1:=(cU (n:=0) (o:=aU [] 0) (X:=.cell mu.length 2) (cJ R)).toKq
 have L1:Le (fun _=>True) g (g.push s.heap.objs.size (aU [] 0) (.cell mu.length 2)):=cT (cJ R)
 have Wv:=L1.ob _ _ _ trivial O2
 refine self (s':={s with heap:=s.heap.push (aU [] 0)}) R1 hv0 ?_
 refine set_dict (s:={s with heap:=s.heap.push (aU [] 0)}) R1.F M.X (lC R1.N Wv.2) (inst R1.N (L1.ob _ _ _ trivial O1) Wv) rfl I.sa I.po I.tka I.dict Cw (es':=[⟨bg D.w.params (eA .bU),.str (eA .bU) (s.toks+1),.ref s.heap.objs.size⟩]) (n':=0+1) rfl nK (by simp) fun h2 F2 N2=>?_
 have S1:=cH (o':=aU [⟨bg D.w.params (eA .bU),.str (eA .bU) (s.toks+1),.ref s.heap.objs.size⟩] (0+1)) Wv.1
 have R2:=R1.setC (mu':=mu) Wv F2 (ox N2) rfl (fun c hc=>(mun hc).elim) fun _ _=>rfl
 have O1c:=S1.ob _ (.cell mu.length 0) _ (qF (by decide)) (L1.ob _ _ _ trivial O1)
 refine ba (dr (xy ?_) Iw)
 have R3:=de R2 (aU [] 0) (.cell mu.length 3)
 have L3:=cT (o:=aU [] 0) (X:=.cell mu.length 3) (cJ R2)
 have Wu:=L3.ob _ _ _ trivial (gD (o':=aU [⟨bg D.w.params (eA .bU),.str (eA .bU) (s.toks+1),.ref s.heap.objs.size⟩] (0+1)) Wv)
 refine self (s':={s with heap:=h2.push (aU [] 0),toks:=s.toks+2}) R3 hv0 ?_
 refine set_dict (s:={s with heap:=h2.push (aU [] 0),toks:=s.toks+2}) R3.F M.X (lC R3.N Wu.2) (inst R3.N (L3.ob _ _ _ trivial O1c) Wu) rfl I.sa I.po I.tkn I.dict (uZ (by decide+kernel)) (es':=[⟨bg D.w.params (eA .bU),.str (eA .bU) (s.toks+1),.ref s.heap.objs.size⟩,⟨bg D.w.params (eA .dD),.str (eA .dD) (s.toks+2+1),.ref h2.objs.size⟩]) (n':=0+1+1) (Dq (by decide+kernel)) nK (by simp) fun h4 F4 N4=>?_
 have S3:=cH (o':=aU [⟨bg D.w.params (eA .bU),.str (eA .bU) (s.toks+1),.ref s.heap.objs.size⟩,⟨bg D.w.params (eA .dD),.str (eA .dD) (s.toks+2+1),.ref h2.objs.size⟩] (0+1+1)) Wu.1
 have R4:=R3.setC (mu':=mu) Wu F4 (ox N4) rfl (fun c hc=>(mun hc).elim) fun _ _=>rfl
 have O1e:=S3.ob _ (.cell mu.length 0) _ (qF (by decide)) (L3.ob _ _ _ trivial O1c)
 have O2e:=gD (o':=aU [⟨bg D.w.params (eA .bU),.str (eA .bU) (s.toks+1),.ref s.heap.objs.size⟩,⟨bg D.w.params (eA .dD),.str (eA .dD) (s.toks+2+1),.ref h2.objs.size⟩] (0+1+1)) Wu
 have e:(Gh.td _ x).ca[mu.length]?=some x:=R4.len▸mq
 have R5:=R4.td (a:=x) (c:=.fresh [] []) ⟨x,dx,_,_,_,_,_,_,_,_,_,e,iW.ob _ _ _ trivial O1e,iW.ob _ _ _ trivial (by rw[Fc.G.kh];exact O2e),iW.ob _ _ _ trivial (S3.ob _ (.cell mu.length 2) _ (qF (by decide)) (L3.ob _ _ _ trivial (S1.ob _ (.cell mu.length 2) _ (qF (by decide)) (dk (g:=g) (a:=s.heap.objs.size) (o:=aU [] 0) (X:=.cell mu.length 2))))),⟨nh.nil,.nil⟩,iW.ob _ _ _ trivial (S3.ob _ (.cell mu.length 3) _ (qF (by decide)) (dk (a:=h2.objs.size) (o:=aU [] 0) (X:=.cell mu.length 3))),nh.nil,.nil⟩
 refine ba (wpAny_Expr_any (mP rfl xb (by show 1<30;decide) rfl (self (s':={s with heap:=h4,toks:=s.toks+2+2}) R5 hv0 ?_)) (by unfold interactive;refine C.kind.symm▸?_;rfl:interactive cx.env=false) rfl)
 refine method_inst R5.F M.X (lR R5.N O1e.2 O2e.2) (Fc.GF.Cy _) I.avM I.Wr (rH (by decide+kernel) (by decide+kernel)) ?_
 refine mX (xs:=.cons (.v 1 p10) .nil) (cl:=E7) (n:=0) (s:={s with heap:=h4,toks:=s.toks+2+2}) (Q:=fun ms st=>ms=[.lst (ks.map .str)]/\st=⟨[.un,.fz (.lst (ks.map .str))],mu++[.fresh [] []]⟩) M R5 I.avK (oq s_v uu) C (by rw[show wf (.cons (.v 1 p10) .nil) (s8 Xi FI N8)=(ug (s8 Xi FI N8) 1&&true)from rfl,(by show(FI.zipIdx.lookup (N8 1)==some 1)=true;decide+kernel:ug (s8 Xi FI N8) 1=true)];rfl) ⟨rfl,rfl⟩ fun ms eZ vs g6 h6 t6 hq R6 K6 T6=>?_
 obtain⟨rfl,rfl⟩:=hq
 obtain⟨v,rr,rfl,u1,u2⟩:=T6.inv
 cases(show rr=[]from u2)
 have e6:=K6.ca _ _ e
 refine wpAny_call (Am (n:=0) (W:=0) (d:=0) (cl:=E7) (s:={s with heap:=h6,toks:=t6}) (fn:=⟨2,3,jJ⟩) (ms:=[.ref mu.length,.lst (ks.map .str)]) (Q:=fun b m mu'=>mu'=mu++[.fresh (Lv ks) []]) I.av Fc (fun h=>nomatch h) (fun h=>nomatch h) Iz rfl
  (CR (by simp) hl (by rw[og _ _ (ab _),sP];rfl)) M R6.F R6.toBs (.cons (trR e6) (.one u1)) fun b m mu' w g7 h7 t7 hq B7=>?_)
 subst hq
 obtain⟨R8,K8⟩:=R6.after B7
 exact jc (k R8 ((((((K1.trans (mT (n:=0) (o':=aU [⟨bg D.w.params (eA .bU),.str (eA .bU) (s.toks+1),.ref s.heap.objs.size⟩] (0+1)) Wv.1).toKq (ab _)).trans (cU (n:=0) (o:=aU [] 0) (X:=.cell mu.length 3) (cJ R2)).toKq (ab _)).trans (mT (n:=0) (o':=aU [⟨bg D.w.params (eA .bU),.str (eA .bU) (s.toks+1),.ref s.heap.objs.size⟩,⟨bg D.w.params (eA .dD),.str (eA .dD) (s.toks+2+1),.ref h2.objs.size⟩] (0+1+1)) Wu.1).toKq (ab _)).trans (xZ (n:=0) (a:=x)).toKq (ab _)).trans K6.toKq (ab _)).trans K8.toKq (ab _)) (B7.L.ca _ _ e6))
theorem Ou{nm:Nat->Str}(I:LN D P Xa Xi nl ps nm)(Fc:Facts D P)(hd:3<=d):kz D P d:=fun{f cx A s st g n E K v} ks M₀ R T hl k=>by
 have M:=M₀.less hd
 refine call_cls R.F M.X R.N I.make I.ini I.isf fun x dx h' F' N' fC hx=>?_
 obtain⟨R2,K2,O1,O2,L2⟩:=R.Ij (n:=n) (X:=.cell st.mu.length 0) (Y:=.cell st.mu.length 1) F' N' fC hx
 refine rJ (d:=1) (nm:=N8) (loc:=[.un,.fz (.lst (ks.map .str))]) (s:={s with heap:=h'}) I.fn I.bind I.fb (List.prefix_refl _) (M.under:cY D f (A.under (.builtin "type.__call__" ⟨.ref P.cFresh::[v],[]⟩)) 2) R2.F R2.toBs rfl (fun j sl h=>?_) fun g₁ L h₁ tk cells E' M' C' R' eM Y=>?_
 ·match j,h with
  |0,h=>obtain rfl:=ar h;exact .inl rfl
  |1,h=>obtain rfl:=ar h;exact .inr ⟨_,v,rfl,rfl,(T.mono (L2.gZ trivial))⟩
  |j+2,h=>exact(ay _ (cN h)).elim
 have pl0:(yq Xi FI (P.fn 72) L cells).pl 0=some (.loc r4):=by
  show @bE (fun _=>Option Pl) (some (.loc r4)) _ (Xi.scope.names.lookup r4==some .cell)=_
  refine I.self.symm▸?_;rfl
 have L3:=u9 (m:=bindL (kT Xi (P.fn 72) L).kindOf (FI.zip [.ref x,v]) fun _=>none) eM
 refine N6 (s:={s with heap:=h₁,toks:=tk}) I Fc M' C' R' hl pl0 (inD I.self) (L3.ob _ _ _ (.inr ⟨_,_,rfl⟩) O1) (L3.ob _ _ _ (.inr ⟨_,_,rfl⟩) O2) fun{loc g' h3 t3} R3 K3 e=>?_
 refine nT (n:=n) (b:=false) (x:=.none) eM R3 K3 (VR.of VW) fun Bk=>⟨rfl,?_⟩
 obtain⟨R4,K4⟩:=R2.after Bk
 exact k _ _ h3 t3 R4 (K2.trans K4 (ab _)) (trR e)
end
noncomputable def Dm:List Str:=[af "way",af "fresh",af "rules"]
noncomputable def nM(k:Nat):Str:=Dm.getD k ""
inductive pO(m:Nat):List aj->Prop
 |nil:pO m []
 |cons{a b:Int}{t u:Tok}{c:aj}{r:List aj}(h:a<m)(hr:pO m r):pO m (.int a t:: .int b u::c::r)
theorem pO.ok(l:List aj)(h:pO m l):TriplesOk l:=by
 induction h with
 |nil=>trivial
 |cons _ _ ih=>exact ih
theorem pO.no(hp:m<=pos.line)(l:List aj)(h:pO m l):codeAmong pos l=none:=by
 induction h with
 |nil=>rfl
 | @cons a b t u c r h _ ih=>
   show(if(a==(pos.line:Int)&&b==(pos.col:Int))=true then _ else _)=_
   refine(show(a==(pos.line:Int))=false from beq_eq_false_iff_ne.mpr (Int.ne_of_lt (e9 h (bQ.mpr hp)))).symm▸?_;rw[Bool.false_and,if_neg aJ]
   exact ih
theorem pO.snoc(hm:m<=m')(ha:a<m')(l:List aj)(h:pO m l):pO m' (l++[rawInt a,rawInt b,c]):=by
 induction h with
 |nil=>exact .cons (jq.mpr ha) .nil
 |cons h _ ih=>exact .cons (e9 h (bQ.mpr hm)) ih
theorem pO.less(hm:m<=m')(l:List aj)(h:pO m l):pO m' l:=by
 induction h with
 |nil=>exact .nil
 |cons h _ ih=>exact .cons (e9 h (bQ.mpr hm)) ih
noncomputable def aat(D:dh)(P:ck)(sc:fq)(fr:Str)(k m m':Nat)(e:Expr):Prop:=
 (∃params body scope pos,e=.Lambda params body scope pos/\jP k=some (64+k,true)/\m<=pos.line/\pos.line<m'/\(∀env,defaultsOf params env=([],[]))/\(∀y∈scope.names,y.2=.free->y.1=fr)/\
   ∀name qual qE pm D4 c c' o' vs t,o'.data=.fields vs->vs[1]?=some (.str qual t)->(∀x,(x,dF)∈scope.names->qE.lookup x=some c)->P.lam k c (kla_obj name qual params body scope qE pm c' D4) c' o')\/
 ∃lj x pos,e=.Name x pos/\jP k=some (lj,false)/\m<=m'/\sc.names.lookup x=some .globalImplicit/\nsIn D.K dA x=some (some (.ref (P.fn lj)))/\(x==af "__debug__")=false
noncomputable def RIt(D:dh)(P:ck)(sc:fq)(fr:Str):Nat->Nat->List Expr->Prop
 |_,_,[]=>True
 |k,m,e::r=>∃m',aat D P sc fr k m m' e/\RIt D P sc fr (k+1) m' r
inductive aao(D:dh)(P:ck)(X:nr):Prop
 |mk(es:List Expr)(p1 p2 p3 p4 p5 p6 p7:Pos)(h1:X.body=[.Assign [iH nM 2 p1] (.List es p2) p3,.Return (some (py nM (.dP 2 (.v 0 p4) p5 p6))) p7])(h2:es.length=8)(h3:RIt D P X.scope (nM 1) 0 0 es)
structure ft(D:dh)(P:ck)(X:nr)(cR:aZ):Prop extends FnIn D (P.fn 73) X where
 bind:∀vs,vs.length=[nM 0,nM 1].length->mC X.fd ⟨vs,[]⟩=pure ([nM 0,nM 1].zip vs)
 fb:ZA X.scope Dm=true
 Az:X.Az=.ref cR
 hd:codeHdIn D.K cR P.tab=true
 k0:X.scope.names.lookup (nM 0)=some .local
 k1:X.scope.names.lookup (nM 1)=some .cell
 k2:X.scope.names.lookup (nM 2)=some .local
 one:∀n,fG n X.scope.names []=[(nM 1,n)]
 body:aao D P X
noncomputable def CJ(i:Nat):Nat->List Expr->List MV
 |_,[]=>[]
 |k,_::r=>.xj k i::CJ i (k+1) r
section
variable{D:dh}{P:ck}{f:Fm}{cx:Cx}{J:Cn}{A:b9}{E:aj->aw->Prop}{s:aw}{st st':St}{g g':Gh}{n d W:Nat}{cl:lq}
theorem NS{sc:fq}(M:cY D f A d)(C:eX f cx J)(hE:cx.env=envX cn sc f.L a (.ref cR) cls)(hΓ:J.sc=sc.names)(CH:CodeHd f.h₀ cR P.tab)
 (Oh:cls.lookup fr=some c) (hoc:oc.data=.cell (some (.ref ai))):∀(es:List Expr)(k m:Nat){s:aw}{g:Gh}{st:St}{ps:Array aj}{K:List aj->aw->Prop},RIt D P sc fr k m es->Rel P f cx s.heap st g->st.mu[0]?=some (.tab 1)->Ob g P.tab (.cell 0 0) (qS ps)->pO m ps.toList->Fz g c oc->g.ca[i]?=some ai->
 (∀{g' h' tk vs},Rel P f cx h' st g'->Kq 0 g g'->e7 P g' (CJ i k es) vs->K vs {s with heap:=h',toks:=tk})->Wp D A (spliced (gB pos (cM es cx.env))) K E s:=by
 intro es
 induction es with
 |nil=>
  intro k m s g st ps K _ R hm O tb Oc ci kk
  exact gI (kk (h':=s.heap) (tk:=s.toks) R .refl .nil)
 |cons e es cz=>
  rintro k m s g st ps K ⟨m',hi,hr⟩ R hm O tb Oc ci kk
  rcases hi with⟨params,body,scope,p,rfl,Qd,h1,h2,h3,h4,h5⟩|⟨lj,x,p,rfl,Qd,hmm,hx,e,hd⟩
  ·obtain⟨qE,q1,q2⟩:=vc (scope:=scope) (env:=envX cn sc f.L a (.ref cR) cls) fun y hy ey=>⟨c,by exact(h4 y hy ey).symm▸Oh⟩
   have U:UpdF P.tab (qS ps) (wH P.tab (qS ps) g.nw) fun o'=>wH P.tab o' g.nw:=UpdF.head fun p hp=>of_decide_eq_true (c0.mp hp).2
   refine eE (he:=rfl) (kla_eval (h3 _) ?_)
   refine hE.symm▸?_
   refine kla_nest R.F (lC R.N O.2) M.T CH rfl U (tb.ok) (tb.no h1) q1 fun fA c' L9 vs t D4 h' tk F' N' Oi hv fC Za=>?_
   let o':Obj:=qS (ps++#[rawInt p.line,rawInt p.col,.ref c'])
   let ob:Obj:=kla_obj "<lambda>" ((envX cn sc f.L a (.ref cR) cls).qual++ "<lambda>") params body scope qE ((D.mg "__name__").getD .none) c' D4
   have N1:News f.h₀ f.L h' (rg P.tab o' g.nw):=ox fun q hq=>N' q (.tail _ (.tail _ hq))
   obtain⟨ps0,t1,t2,t3⟩:=R.mu 0 _ hm
   have R1:Rel P f cx h' st (g.set P.tab o'):=R.setC (mu':=st.mu) O F' N1 rfl (fun x hx=>by
    cases hm.symm.trans hx
    exact⟨_,t1,gD O,fun h=>nomatch h⟩) fun _ _=>rfl
   have Of:∀q∈(g.set P.tab o').nw,q.1<c':=fun q hq=>by
    obtain⟨r,hr,rfl⟩:=d6.mp hq
    by_cases er:r.1=P.tab
    ·rw[if_pos er];exact fC (P.tab,qS ps) (.head _)
    ·rw[if_neg er];exact fC r (.tail _ (c0.mpr ⟨hr,decide_eq_true er⟩))
   have N2:News f.h₀ f.L h' ((c',L9)::(g.set P.tab o').nw):=fun q hq=>by
    rcases aA.mp hq with rfl|hq
    ·exact N' _ (.tail _ (.head _))
    ·exact N1 q hq
   have Cq:∀q∈((g.set P.tab o').push c' L9 .fz).nw,q.1<fA:=fun q hq=>by
    rcases aA.mp hq with rfl|hq
    ·exact Za
    ·exact g0 (Of q hq) Za
   have N3:News f.h₀ f.L h' ((fA,ob)::((g.set P.tab o').push c' L9 .fz).nw):=fun q hq=>by
    rcases aA.mp hq with rfl|hq
    ·exact N' _ (.head _)
    ·exact N2 q hq
   have L1:=cH (o':=o') O.1
   have L2:Le (fun _=>True) (g.set P.tab o') ((g.set P.tab o').push c' L9 .fz):=cT Of
   have L3:Le (fun _=>True) ((g.set P.tab o').push c' L9 .fz) (((g.set P.tab o').push c' L9 .fz).push fA ob .fz):=cT Cq
   have Oc3:=L3.ob _ _ _ trivial (L2.ob _ _ _ trivial (L1.ob c .fz oc (by simp) Oc))
   have abi:tY P (((g.set P.tab o').push c' L9 .fz).push fA ob .fz) k i (.ref fA):=by
    unfold tY
    exact Qd.symm▸⟨fA,c,ob,oc,ai,c',L9,rfl,dk,h5 _ _ _ _ _ _ _ _ _ _ Oi hv fun x hx=>q2 x c hx (by exact(show x=fr from h4 _ hx rfl).symm▸Oh),L3.ob _ _ _ trivial dk,Oc3,hoc,(L3.ca _ _ (L2.ca _ _ (L1.ca _ _ ci)))⟩
   refine hE▸?_
   refine cz (k+1) m' (s:={s with heap:=h',toks:=tk}) hr ((R1.push (X:=.fz) F' N2 Of).push (X:=.fz) F' N3 Cq) hm (L3.ob _ _ _ trivial (L2.ob _ _ _ trivial (gD (o':=o') O))) (by show pO m' (ps++#[rawInt p.line,rawInt p.col,.ref c']).toList;rw[C7];exact tb.snoc (aa h1 (cF h2)) h2) Oc3 (L3.ca _ _ (L2.ca _ _ (L1.ca _ _ ci))) fun R4 K4 T4=>kk R4 ((((mT O.1).toKq.trans (cU Of).toKq (ab _)).trans (cU Cq).toKq (ab _):Kq 0 g (((g.set P.tab o').push c' L9 .fz).push fA ob .fz)).trans K4 (ab _)) (.cons (tY.mono K4.toGLe abi) T4)
  ·refine eE (he:=rfl) (lD M C R (by unfold nV;refine hΓ.symm▸hx.symm▸?_;rfl) e hd ?_)
   refine cz (k+1) m' hr R hm O (tb.less hmm) Oc ci fun R4 K4 T4=>kk R4 K4 (.cons (by show tY P _ k i _;unfold tY;exact Qd.symm▸rfl) T4)
theorem Rel.lock(R:Rel P f cx h st g)(ro:cx.ro=false)(hc:cx.pcs=[c]):Rel P f {cx with ro:=true} h st (g.give c .fz)/\Kq 0 g (g.give c .fz)/\∃oc,Fz (g.give c .fz) c oc/\oc.data=.cell (g.pv (.so c)):=by
 have vG:cx.vG=.py:=by unfold Cx.vG;refine ro.symm▸?_;rfl
 obtain⟨oc,h1,h2⟩:=R.gi c (by exact hc.symm▸ .head _)
 replace h1:=vG▸h1
 have L:=dN (X:=.fz) h1.1
 have abq:({cx with ro:=true}:Cx).vG=.fz:=rfl
 refine⟨⟨R.toBs.give h1.1 (fun _ _=>by simp) (by simp),R.F,fun b hb=>?_,fun b hb=>?_,fun k=>?_,R.gY⟩,L.kq (by simp) (by simp) (fun _ _=>by simp),oc,iT h1,h2⟩
 ·have hb:b∈cx.pcs:=hb
  replace hb:=hc▸hb
  cases bj.mp hb
  exact⟨oc,abq▸iT h1,h2⟩
 ·obtain⟨o',q1,q2⟩:=R.cds b hb
  exact⟨o',L.ob _ _ _ (by simp) q1,q2⟩
 ·exact(R.sl k).mono L (by simp) (by simp) fun _ _=>rfl
theorem J2:∀{es:List Expr}{j k:Nat},k<es.length->Q (.xj (j+k) i)->Cv (CJ i j es) k Q:=by
 intro es
 induction es with
 |nil=>exact fun h _=>(gw _ h).elim
 |cons e es cz=>
  intro j k hk h
  induction k with
  |zero=>exact h
  |succ k=>exact cz (j:=j+1) (Bh hk) (by rw[bh,aW 1 k];exact h)
theorem Ax:∀{es:List Expr}{j:Nat},(CJ i j es).length=es.length:=by
 intro es
 induction es with
 |nil=>
  intro _
  exact rfl
 |cons e es cz=>
  intro j
  exact congrArg (· +1) (cz)
theorem Rel.aaz(R:Rel P f cx h st g)(hm:st.mu[0]?=some (.tab k)):Rel P f cx h {st with mu:=st.mu.set 0 (.tab 1)} g:=
 ⟨⟨R.N,R.ow,by exact R.len▸nI,R.lo,fun i c e=>by
   rcases Nat.decEq i 0 with hi|rfl
   ·exact R.mu i c ((j7 (bY hi)).symm.trans e)
   ·cases IF hm e
    obtain⟨ps,h1,h2,_⟩:=R.mu 0 _ hm
    exact⟨ps,h1,h2,fun h=>nomatch h⟩⟩,R.F,R.gi,R.cds,R.sl,R.gY⟩
set_option maxHeartbeats 1000000 in
theorem Ir(Y:CellsAre cm [(x,n)] cells):∃oc,cells=[(n,oc)]:=by
 cases Y with
 |cons hd r=>cases r;exact⟨_,rfl⟩
theorem RX{X:nr}(I:ft D P X cR)(Fc:Facts D P)(hd:1<=d):mY D P d:=fun{f cx A s st g n E K u v} k i M₀ R Tu Tv hk hm kk=>by
 obtain⟨es,p1,p2,p3,p4,p5,p6,p7,hb,hl8,hri⟩:=I.body
 refine wpAny_call (rJ (d:=0) (nm:=nM) (nl:=Dm) (ps:=[nM 0,nM 1]) (loc:=[.fz (.int k),.fz (.ref i),.un]) I.toFnIn (fun vs h _ _=>.of_eq (I.bind vs h)) I.fb ⟨[nM 2],rfl⟩ (M₀.less hd) R.F R.toBs rfl (fun j sl h=>?_) fun g₁ L h₁ tk cells E' M' C' R' eM Y=>?_)
 ·match j,h with
  |0,h=>obtain rfl:=ar h;exact .inr ⟨_,u,rfl,rfl,Tu⟩
  |1,h=>obtain rfl:=ar h;exact .inr ⟨_,v,rfl,rfl,Tv⟩
  |2,h=>obtain rfl:=ar h;exact .inl rfl
  |j+3,h=>exact(ay _ (cN h)).elim
 refine tV hb ?_
 rw[I.one (L+1)]at Y
 refine Gk fun zG zk=>?_
 obtain⟨SF,rfl⟩:=Ir Y
 have pl1:(yq X Dm (P.fn 73) L [(L+1,SF)]).pl 1=some (.so (L+1)):=by
  show @bE (fun _=>Option Pl) (some (.loc (nM 1))) (((fG (L+1) X.scope.names []).lookup (nM 1)).map .so) (X.scope.names.lookup (nM 1)==some .cell)=_
  refine I.k1.symm▸?_;rw[I.one]
  show(([(nM 1,L+1)]:List (Str×aZ)).lookup (nM 1)).map Pl.so=_
  rw[c9,beq_self_eq_true];rfl
 obtain⟨ai,hpc,hca⟩:∃ai,(g.enter [(L+1,SF)] (bindL (kT X (P.fn 73) L).kindOf ([nM 0,nM 1].zip [u,v]) fun _=>none)).pv (.so (L+1))=some (.ref ai)/\(g.enter [(L+1,SF)] (bindL (kT X (P.fn 73) L).kindOf ([nM 0,nM 1].zip [u,v]) fun _=>none)).ca[i]?=some ai:=by
  have S:=R'.sl 1
  rw[pl1]at S
  obtain⟨q,v1,e1,e2,e3⟩:=S
  obtain rfl:=ar e1
  obtain⟨ai,e4,rfl⟩:=e3
  exact⟨ai,e2,e4⟩
 obtain⟨R1,K1,oc,Oc,hoc⟩:=R'.lock rfl rfl
 rw[hpc]at hoc
 have C1:eX (yp X (P.fn 73) f A g₁ L) {yq X Dm (P.fn 73) L [(L+1,SF)]with ro:=true} (s8 X Dm nM):=⟨C'.kind,C'.glob,C'.blt,C'.gl,C'.rs,C'.inj,C'.sck,C'.Sw⟩
 obtain⟨ps,t1,t2,t3⟩:=R1.mu 0 _ hm
 have FK:=t3 rfl
 subst FK
 refine zk ?_
 have w2:rQ (yp X (P.fn 73) f A g₁ L) {yq X Dm (P.fn 73) L [(L+1,SF)]with ro:=true} (nM 2) 2:=⟨C'.rs (nM 2) 2 (by show Dm.zipIdx.lookup (nM 2)=some 2;decide+kernel),.inr I.k2⟩
 refine ba (wpAny_Assign_Name (wpAny_List (NS (d:=0) (f:=yp X (P.fn 73) f A g₁ L) (cx:={yq X Dm (P.fn 73) L [(L+1,SF)]with ro:=true}) (J:=s8 X Dm nM) (cn:=X.qual) (a:=P.fn 73) (cR:=cR) (sc:=X.scope) (cls:=fG (L+1) X.scope.names []) (s:={s with heap:=h₁,toks:=tk}) M' C1 (by show kT X (P.fn 73) L=_;unfold kT;refine I.Az.symm▸?_;rfl) rfl (codeHd_of_K M'.X I.hd:CodeHd g₁ cR P.tab) (by rw[I.one,c9,beq_self_eq_true]:(fG (L+1) X.scope.names []).lookup (nM 1)=some (L+1)) hoc es 0 0 hri (R1.aaz hm) (cq (bb.mp hm).1:(st.mu.set 0 (.tab 1))[0]?=some (.tab 1)) t2 .nil Oc hca
  fun{g3 h3 t3 vs} R3 K3 T3=>?_)) rfl)
 refine⟨by refine(by rw[T3.len,Ax,hl8]:vs.length=8).symm▸fg.symm▸?_;decide,?_⟩
 refine lW (sl:=.own (.lst (CJ i 0 es))) C1 (de R3 (dq vs 0) (.slot 2)) w2 (.inr ⟨_,_,rfl,rfl,vs,0,dk,T3.mono ((cT (cJ R3):Le (fun _=>True) g3 (g3.push h3.objs.size (dq vs 0) (.slot 2))).gZ trivial)⟩) fun g5 h5 t5 R5 S5=>?_
 have hw:wf (.dP 2 (.v 0 p4) p5 p6) (s8 X Dm nM)=true:=by
  show((Dm.zipIdx.lookup (nM 0)==some 0)&&(Dm.zipIdx.lookup (nM 2)==some 2))=true
  decide+kernel
 refine ba (vJ ((LL (d:=0) (cl:=E7) Fc (fun h=>nomatch h) (fun h=>nomatch h) Iz M' (.dP 2 (.v 0 p4) p5 p6)).e (n:=0) (s:={s with heap:=h5,toks:=t5}) (Q:=fun b m st'=>b=false/\m=.xj k i/\st'.mu=st.mu.set 0 (.tab 1)) C1 hw R5 ?_ fun b m st6 w g6 h6 t6 hq R6 K6 V6=>?_))
 ·show gd (aV (CJ i 0 es).length b8) (Cv (CJ i 0 es) k _)
  refine Zo (by refine Ax.symm▸hl8.symm▸?_;rfl) (J2 (hl8▸hk) ?_)
  rw[bM]
  exact⟨rfl,rfl,rfl⟩
 ·obtain⟨rfl,rfl,e6⟩:=hq
  refine nT (n:=n) eM (cx:={yq X Dm (P.fn 73) L [(L+1,SF)]with ro:=true}) R6 (((K1.trans K3 (ab _)).trans (cU (cJ R3)).toKq (ab _)).trans ((S5.kq 0).trans K6.toKq (ab _)) (ab _)) V6 fun Bk=>?_
  replace Bk:=e6▸Bk
  obtain⟨R7,K7⟩:=R.after Bk
  exact kk _ _ h6 t6 R7 K7 Bk.V
end
noncomputable def vC(i:Nat)(k:Nat):Str:=af ((nms i).1.getD k "")
noncomputable def sZ:List Str:=[af "script",af "source",af "rule",af "expr",af "due",af "once"]
noncomputable def Ys(sc:fq):Bool:=sZ.all fun x=>sc.names.lookup x==some .local&&BX x
noncomputable def Io(k:Nat):Option Pl:=(sZ[k]?).map Pl.loc
noncomputable def DG(env:Env):Cx:={env:=env,pl:=Io,pcs:=[],cds:=[]}
noncomputable def DF(h0:eO)(L:aZ)(env:Env):Fm:={h₀:=h0,L:=L,fenv:=env,outer:=[],base:=h0,A₀:=callerA}
noncomputable def PS(K:Frag):Bool:=K.all fun p=>match p.2.data with|.seq _ _=>(match p.2.cls with|.type n=> !(n== "list")|_=>true)|_=>true
section
variable{D:dh}{P:ck}{E:aj->aw->Prop}{s:aw}{W:Nat}
theorem TI{sc:fq}(hk:sc.kind=.function)(hB:Ys sc=true):eX (DF h0 L (envOf name sc L fa cd)) (DG (envOf name sc L fa cd)) ⟨sc.names,sZ.zipIdx,vC 63⟩:=by
 have hL:∀(k:Nat)(x:Str),sZ[k]?=some x->sc.names.lookup x=some .local/\okN x:=fun k x h=>by
  have:=bw.mp hB x (cW h)
  exact⟨eq_of_beq (aP this),Du (aB this)⟩
 refine⟨hk,rfl,rfl,fun x hx=>eq_of_beq hx,fun x k hx=>?_,fun i j q hi hj=>?_,fun x hx=>hx,fun k C x h=>?_⟩
 ·have hm:sZ[k]?=some x:=sR.mp (lookup_mem hx)
  refine⟨(hL k x hm).2,.inl ⟨(hL k x hm).1,.inl ⟨rfl,?_⟩⟩⟩
  show Io k=_
  unfold Io;refine hm.symm▸?_;rfl
 ·obtain⟨x,h1,h2⟩:=eN.mp (show(sZ[i]?).map Pl.loc=some q from hi)
  obtain⟨y,h3,h4⟩:=eN.mp (show(sZ[j]?).map Pl.loc=some q from hj)
  cases h2.trans h4.symm
  exact(Hk (bb.mp h1).1 (by unfold sZ;decide+kernel:sZ.Nodup)).mp (h1.trans h3.symm)
 ·obtain⟨y,_,e⟩:=eN.mp (show(sZ[k]?).map Pl.loc=some _ from h)
  simp at e
theorem law_fm{sc:fq}(hk:sc.kind=.function)(X:D.K.In h0)(T:Top D.p D.loose D.jy D.mg D.mb h0):cY D (DF h0 L (envOf name sc L fa cd)) (callerA.deeper (envOf name sc L fa cd)) 690:=by
 refine⟨oi rfl,rfl,below_caller h0,X,T,rfl,hk,?_,?_⟩
 ·show 1+claimMargin+1+690<=999
  decide+kernel
 ·show 4+3+8*690<=9000
  decide
theorem hide_ne(e:h.get? b=some o)(hb:b≠a):(lU h [a]).get? b=some o:=hideAll_get _ e fun m=>hb (bj.mp m)
theorem tO(ho:h.get? a=some (listOf vs nn))(x:h.Ns b m):(lU h [a]).Ns b m:=by
 obtain⟨o,es,ep,e,hd,r⟩:=x
 refine⟨o,es,ep,hide_ne e fun q=>?_,hd,r⟩
 subst q
 cases ho.symm.trans e
 simp at hd
theorem JO(ho:h.get? a=some (listOf vs nn))(T:Top topProg loose jy mg mb h):Top topProg loose jy mg mb (lU h [a])where
 g:=tO ho T.g
 b:=tO ho T.b
 nolimit:=by obtain⟨mc,a,r⟩:=T.nolimit;exact⟨mc,tO ho a,r⟩
 nodigits:=by obtain⟨mc,a,r⟩:=T.nodigits;exact⟨mc,tO ho a,r⟩
 fn:=fun d hd=>absurd (show d∈([]:List DefRec)from hd) bt
 own:=fun o ho=>absurd (show o∈([]:List OwnSpec)from ho) bt
 const:=fun x d e=>by cases(show(none:Option ef)=some d from e)
 free:=T.free
 builtins:=T.builtins
 tab:=fun d hd=>absurd (show d∈([]:List DefRec)from hd) bt
 bmain:=by obtain⟨bm,ob,a1,a2,a3,a4,r⟩:=T.bmain;exact⟨bm,ob,a1,a2,hide_ne a3 (fun q=>by subst q;cases ho.symm.trans a3;exact absurd (Wy.inj a4) (by decide)),a4,r⟩
 seer:=fun e=>absurd (show false=true from e) aJ
theorem Uc{K:Frag}(ho:h.get? a=some (listOf vs nn))(X:K.In h)(hK:PS K=true):K.In (lU h [a]):=fun b o e=>by
 refine hide_ne (X b o e) fun q=>?_
 subst q
 have:=bw.mp hK (b,o) (mem_of_lookupK e)
 cases ho.symm.trans (X b o e)
 exact(aJ this).elim
noncomputable def uS(sa ta:aZ)(b:aZ):Option Ow:=@bE (fun _=>Option Ow) (@bE (fun _=>Option Ow) none (some (.cell 0 0)) (b==ta)) (some .fz) (b==sa)
noncomputable def Yr(m:Str->Option aj):Pl->Option aj
 |.loc y=>m y
 |_=>none
noncomputable def Jl(sa ta:aZ)(o:Obj)(m:Str->Option aj):Gh:={ow:=uS sa ta,ca:=[ta],nw:=[(sa,o),(ta,qS #[])],pv:=Yr m}
set_option maxHeartbeats 1000000 in
theorem Ft(hd:d<=690){sc:fq}{nn tk:Nat}(Fc:Facts D P)(Tb:Tab D P)(NF:∀d,3<=d->kz D P d)(RU:∀d,1<=d->mY D P d)(hp:D.p=topProg)
 (X:D.K.In h0) (T:Top D.p D.loose D.jy D.mg D.mb h0) (F:Fr h0 L h1 m) (N:News h0 L h1 [(P.tab,qS #[])]) (hK:PS D.K=true) (ho:h0.get? sa=some (dq vs nn)) (h2:2<sa/\2<P.tab)
 (G6:sc.kind=.function) (hB:Ys sc=true) (hw:rY k5 ⟨sc.names,sZ.zipIdx,vC 63⟩=true) (hm:m (af "script")=some (.ref sa)) (hms:∀g:Gh,e7 P g ms vs)
 (spec:dJ W (ah W d) d k5 ⟨[.fz (.lst ms),.un,.un,.un,.un,.un],[.tab 0]⟩ fun fl st=>fl=.ret false (.bool true)/\∃k,st.mu[0]?=some (.tab k))
 (k:∀h' tk ps,h'.get? P.tab=some (qS ps)->(∃m',Fr h0 L h' m')->Q (.ret (.bool true)) {s with heap:=h',toks:=tk}):
 Wp D (callerA.deeper (envOf name sc L fa cd)) (execs (iF (vC 63) k5) (envOf name sc L fa cd)) Q E {s with heap:=h1,toks:=tk}:=by
 have eM:sa≠P.tab:=fun e=>by
  have:=(N _ (.head _)).2.2
  subst e
  exact nomatch this.symm.trans ho
 have C:=TI (h0:=lU h0 [sa]) (L:=L) (fa:=fa) (name:=name) (cd:=cd) G6 hB
 have os:(Jl sa P.tab (dq vs nn) m).ow sa=some .fz:=by show uS sa P.tab sa=_;unfold uS;rw[beq_self_eq_true]
 have R:Rel P (DF (lU h0 [sa]) L (envOf name sc L fa cd)) (DG (envOf name sc L fa cd)) h1 ⟨[.fz (.lst ms),.un,.un,.un,.un,.un],[.tab 0]⟩ (Jl sa P.tab (dq vs nn) m):=by
  refine⟨⟨fun p hp=>?_,fun b Y e=>?_,rfl,⟨⟨_,.head _⟩,fun p hp=>?_⟩,fun i c e=>?_⟩,(⟨F.ns,fun b o e=>F.keep b o (of_hideAll _ e),aa (bu (hideAll_size _ _)) F.above⟩:Fr (lU h0 [sa]) L h1 m),(fun c hc=>nomatch hc),(fun c hc=>nomatch hc),fun j=>?_,fun C x v e=>nomatch e⟩
  ·rcases aA.mp hp with rfl|hp
   ·exact⟨F.keep _ _ ho,(bO (eu (f7 ho) F.above):sa≠L),hideAll_none _ (.head _)⟩
   ·cases bj.mp hp
    obtain⟨n1,n2,n3⟩:=N _ (.head _)
    refine⟨n1,n2,?_⟩
    show(lU h0 [sa]).get? P.tab=none
    induction q:(lU h0 [sa]).get? P.tab with
    |none=>rfl
    |some o=>exact nomatch n3.symm.trans (of_hideAll _ q)
  ·have e:uS sa P.tab b=some Y:=e
   unfold uS at e
   induction h1:b==sa with
   |true=>exact⟨dq vs nn,by rw[eq_of_beq h1];exact Hm _⟩
   |false=>
    rw[h1]at e
    induction h2:b==P.tab with
    |true=>exact⟨qS #[],by rw[eq_of_beq h2];exact Pz.tail _ (Hm _)⟩
    |false=>rw[h2]at e;exact(ay _ (cN e)).elim
  ·rcases aA.mp hp with rfl|hp
   ·exact h2.1
   ·cases bj.mp hp;exact h2.2
  ·match i,e with
   |0,e=>obtain rfl:=ar e;exact⟨#[],rfl,⟨(by show uS sa P.tab P.tab=_;unfold uS;rw[beq_eq_false_iff_ne.mpr (bY eM),beq_self_eq_true]:(Jl sa P.tab (dq vs nn) m).ow P.tab=some (.cell 0 0)),.tail _ (.head _)⟩,fun _=>rfl⟩
   |i+1,e=>exact(ay _ (cN e)).elim
  ·match j with
   |0=>exact⟨.loc (af "script"),.ref sa,rfl,hm,trL ⟨os,.head _⟩ (hms _)⟩
   |1=>exact trivial
   |2=>exact trivial
   |3=>exact trivial
   |4=>exact trivial
   |5=>exact trivial
   |j+6=>exact trivial
 have S:=@QG D P _ _ d W _ Fc (NF d) (RU d) (U9 (W:=W) Fc Tb NF RU d) ((law_fm (D:=D) (L:=L) (fa:=fa) (name:=name) (cd:=cd) G6 (Uc ho X hK) (by rw[hp]at T⊢;exact JO ho T:Top D.p D.loose D.jy D.mg D.mb (lU h0 [sa]))).less hd) k5
 have kk:QM P (DF (lU h0 [sa]) L (envOf name sc L fa cd)) (DG (envOf name sc L fa cd)) 0 (Jl sa P.tab (dq vs nn) m) {s with heap:=h1,toks:=tk} (fun fl st=>fl=.ret false (.bool true)/\∃k,st.mu[0]?=some (.tab k)) Q:=fun fl st' flow g' h' PE hq R' K' Ff=>?kk
 exact @S (DG (envOf name sc L fa cd)) ⟨sc.names,sZ.zipIdx,vC 63⟩ 0 E {s with heap:=h1,toks:=tk} _ _ _ Q C rfl hw R spec kk
 case kk=>
 obtain⟨rfl,j,hj⟩:=hq
 induction flow with
 |ret v=>
  cases(show v=.bool true from Ff)
  obtain⟨ps,_,o2,_⟩:=R'.mu 0 _ hj
  have os':=K'.fz _ _ (show Ob (Jl sa P.tab (dq vs nn) m) sa .fz (dq vs nn)from⟨os,.head _⟩)
  refine k h' PE ps (R'.N _ o2.2).1 ⟨_,⟨R'.F.ns,fun b o e=>?_,F.above⟩⟩
  by_cases hb:b=sa
  ·subst hb
   cases ho.symm.trans e
   exact(R'.N _ os'.2).1
  ·exact R'.F.keep b o (hide_ne e hb)
 |_=>exact Ff.elim
end
end Mine
set_option maxHeartbeats 2000000
namespace Mine
open PySem PySem.W PySem.Calls PyProof.Rows PyProof.Rows.LCg
noncomputable def sO(x:String)(t:Nat):aj:=.str (af x) t
noncomputable def rO:Nat->aj
 |0=>.none
 |n=>.ref n
noncomputable def iO(n:Nat):aj:=.int n 0
noncomputable def cO(n q:String)(t l np fl k:Nat)(r:List Nat)(z:Nat)(_:Nat):Obj:=⟨.type "code",none,.fields ⟨[sO n t,sO q (t+1),sO "/claim/cut.py" (t+2),iO l,iO np,iO 0,iO 0,iO fl,rO (r.getD 0 0),.bool true,iO k,rO (r.getD 1 0),.none,rO (r.getD 2 0),rO (r.getD 3 0),rO (r.getD 4 0),iO z,iO l,sO "/claim/cut.py" (z+1)]⟩,⟨[]⟩⟩
noncomputable def dO(P:Params)(n:Nat)(es:List (String×Nat×aj)):Obj:=⟨.type "dict",none,.dict ⟨es.map fun e=>⟨bg P (af e.1),sO e.1 e.2.1,e.2.2⟩⟩ n,⟨[]⟩⟩
noncomputable def kO(a:Nat)(n:String)(ns t1 t2:Nat):Obj:=⟨.type "type",none,.cls {name:=af n,bases:=[.type "object"],mro:=[.ref a,.type "object"],ns:=ns,qualname:=af n},⟨[none,none,some (sO n t1),some (sO n t2),some (.builtin "object.__new__"),some (.bool true)]⟩⟩
noncomputable def abt(s:pX):List pX:=by
 cases s with
 |ClassDef _ _ _ b=>exact b
 |_=>exact []
noncomputable def fD(i j:Nat):pX:=(abt (iL.main.body.getD i (.Pass default))).getD j (iL.main.body.getD i (.Pass default))
noncomputable def fnP(s:pX):Str×rX×List pX×fq:=by
 cases s with
 |FunctionDef n ps b _ _ _ sc=>exact(n,ps,b,sc)
 |_=>exact(af "",default,[],default)
noncomputable def fX(s:pX)(q:String)(dV:aj)(pm:String)(pt cd:Nat):nr:=⟨(fnP s).1,af q,(fnP s).2.1,(fnP s).2.2.1,(fnP s).2.2.2,dV,.none,.none,sO pm pt,.ref cd,.none,.type "function",none,none,⟨[]⟩⟩
noncomputable def fY(s:pX)(q:String)(cd:Nat):nr:=fX s q .none "lazycore.core" 187 cd
noncomputable def fZ(s:pX)(q:String)(cd:Nat):nr:=fX s q .none "law_np0240_01" 993 cd
noncomputable def fU(s:pX)(q:String)(cd:Nat):nr:=fX s q .none "lazycore.core_names" 653 cd
noncomputable def KK(P:Params):Frag:=[
 (3,dO P 56 [("__name__",165,(sO "law_np0240_01" 993)),("__doc__",166,.none),("__package__",167,.none),("__loader__",168,(.builtin "__main__.__loader__#opaque")),("__spec__",169,.none),("__annotations__",170,(.ref 6)),("__builtins__",171,(.ref 4)),("__file__",173,(sO "/claim/cut.py" 172)),("__cached__",174,.none),("Var",240,(.ref 52)),("Lit",294,(.ref 94)),("App",347,(.ref 134)),("Lam",401,(.ref 176)),("Let",452,(.ref 212)),("Alt",485,(.ref 233)),("Case",546,(.ref 273)),("Con",599,(.ref 313)),("Prim",652,(.ref 353)),("scoped",666,(.ref 364)),("free_names",680,(.ref 371)),("is_free",688,(.ref 378)),("Renamer",768,(.ref 421)),("renamed",776,(.ref 432)),("substituted",785,(.ref 439)),("flat",794,(.ref 446)),("beta",800,(.ref 451)),("nested",806,(.ref 456)),("call_of_let",815,(.ref 463)),("eta",821,(.ref 468)),("mapped",840,(.ref 475)),("size_of",853,(.ref 482)),("base_of",863,(.ref 489)),("Fresh",912,(.ref 522)),("Uses",951,(.ref 550)),("uses_of",966,(.ref 561)),("is_atom",973,(.ref 568)),("is_taken",986,(.ref 575)),("inlined",992,(.ref 580)),("_law_pool",1005,(.ref 587)),("_law_take",1014,(.ref 594)),("_law_one",1022,(.ref 601)),("_law_known",1028,(.ref 606)),("_law_with",1039,(.ref 613)),("_law_leaf",1049,(.ref 620)),("_law_down",1058,(.ref 627)),("_law_let",1074,(.ref 634)),("_law_case",1091,(.ref 641)),("_law_expr",1103,(.ref 648)),("_law_asked",1111,(.ref 655)),("_law_bound",1122,(.ref 662)),("_law_called",1136,(.ref 669)),("_law_chosen",1148,(.ref 676)),("_law_value",1154,(.ref 681)),("_law_shown",1164,(.ref 688)),("_law_rule",1174,(.ref 695)),("law",1186,(.ref 702))]),
 (27,cO "__init__" "Var.__init__" 201 4 2 3 181 [22,23,24,25,26] 206 0),
 (28,(fY (fD 1 0) "Var.__init__" 27).obj),
 (34,cO "groups" "Var.groups" 209 7 1 3 181 [29,30,31,32,33] 213 0),
 (35,(fY (fD 1 1) "Var.groups" 34).obj),
 (41,cO "parts" "Var.parts" 216 10 1 3 181 [36,37,38,39,40] 220 0),
 (42,(fY (fD 1 2) "Var.parts" 41).obj),
 (48,cO "rebuilt" "Var.rebuilt" 223 13 3 3 181 [43,44,45,46,47] 229 0),
 (49,(fY (fD 1 3) "Var.rebuilt" 48).obj),
 (51,dO P 4 [("__module__",196,(sO "lazycore.core" 187)),("__firstlineno__",200,(.int 2 199)),("__init__",208,(.ref 28)),("groups",215,(.ref 35)),("parts",222,(.ref 42)),("rebuilt",231,(.ref 49)),("__static_attributes__",233,(.ref 50)),("__dict__",235,(.ref 53)),("__weakref__",237,(.ref 54)),("__doc__",238,.none)]),
 (52,kO 52 "Var" 51 189 197),
 (69,cO "__init__" "Lit.__init__" 253 17 3 3 181 [64,65,66,67,68] 259 0),
 (70,(fY (fD 2 0) "Lit.__init__" 69).obj),
 (76,cO "groups" "Lit.groups" 262 21 1 3 181 [71,72,73,74,75] 266 0),
 (77,(fY (fD 2 1) "Lit.groups" 76).obj),
 (83,cO "parts" "Lit.parts" 269 24 1 3 181 [78,79,80,81,82] 273 0),
 (84,(fY (fD 2 2) "Lit.parts" 83).obj),
 (90,cO "rebuilt" "Lit.rebuilt" 276 27 3 3 181 [85,86,87,88,89] 282 0),
 (91,(fY (fD 2 3) "Lit.rebuilt" 90).obj),
 (93,dO P 4 [("__module__",248,(sO "lazycore.core" 187)),("__firstlineno__",252,(.int 15 251)),("__init__",261,(.ref 70)),("groups",268,(.ref 77)),("parts",275,(.ref 84)),("rebuilt",284,(.ref 91)),("__static_attributes__",287,(.ref 92)),("__dict__",289,(.ref 95)),("__weakref__",291,(.ref 96)),("__doc__",292,.none)]),
 (94,kO 94 "Lit" 93 241 249),
 (111,cO "__init__" "App.__init__" 307 31 3 3 181 [106,107,108,109,110] 313 0),
 (112,(fY (fD 3 0) "App.__init__" 111).obj),
 (118,cO "groups" "App.groups" 316 35 1 3 181 [113,114,115,116,117] 320 0),
 (119,(fY (fD 3 1) "App.groups" 118).obj),
 (123,cO "parts" "App.parts" 323 38 1 3 181 [120,121,0,0,122] 326 0),
 (124,(fY (fD 3 2) "App.parts" 123).obj),
 (130,cO "rebuilt" "App.rebuilt" 329 41 3 3 181 [125,126,127,128,129] 335 0),
 (131,(fY (fD 3 3) "App.rebuilt" 130).obj),
 (133,dO P 4 [("__module__",302,(sO "lazycore.core" 187)),("__firstlineno__",306,(.int 29 305)),("__init__",315,(.ref 112)),("groups",322,(.ref 119)),("parts",328,(.ref 124)),("rebuilt",337,(.ref 131)),("__static_attributes__",340,(.ref 132)),("__dict__",342,(.ref 135)),("__weakref__",344,(.ref 136)),("__doc__",345,.none)]),
 (134,kO 134 "App" 133 295 303),
 (151,cO "__init__" "Lam.__init__" 360 45 3 3 181 [146,147,148,149,150] 366 0),
 (152,(fY (fD 4 0) "Lam.__init__" 151).obj),
 (158,cO "groups" "Lam.groups" 369 49 1 3 181 [153,154,155,156,157] 373 0),
 (159,(fY (fD 4 1) "Lam.groups" 158).obj),
 (165,cO "parts" "Lam.parts" 376 52 1 3 181 [160,161,162,163,164] 380 0),
 (166,(fY (fD 4 2) "Lam.parts" 165).obj),
 (172,cO "rebuilt" "Lam.rebuilt" 383 55 3 3 181 [167,168,169,170,171] 389 0),
 (173,(fY (fD 4 3) "Lam.rebuilt" 172).obj),
 (175,dO P 4 [("__module__",355,(sO "lazycore.core" 187)),("__firstlineno__",359,(.int 43 358)),("__init__",368,(.ref 152)),("groups",375,(.ref 159)),("parts",382,(.ref 166)),("rebuilt",391,(.ref 173)),("__static_attributes__",394,(.ref 174)),("__dict__",396,(.ref 177)),("__weakref__",398,(.ref 178)),("__doc__",399,.none)]),
 (176,kO 176 "Lam" 175 348 356),
 (193,cO "__init__" "Let.__init__" 414 59 4 3 181 [188,189,190,191,192] 421 0),
 (194,(fY (fD 5 0) "Let.__init__" 193).obj),
 (198,cO "groups" "Let.groups" 424 64 1 3 181 [195,196,0,0,197] 427 0),
 (199,(fY (fD 5 1) "Let.groups" 198).obj),
 (203,cO "parts" "Let.parts" 430 67 1 3 181 [200,201,0,0,202] 433 0),
 (204,(fY (fD 5 2) "Let.parts" 203).obj),
 (208,cO "rebuilt" "Let.rebuilt" 436 71 3 3 181 [205,206,0,0,207] 439 0),
 (209,(fY (fD 5 3) "Let.rebuilt" 208).obj),
 (211,dO P 4 [("__module__",409,(sO "lazycore.core" 187)),("__firstlineno__",413,(.int 57 412)),("__init__",423,(.ref 194)),("groups",429,(.ref 199)),("parts",435,(.ref 204)),("rebuilt",441,(.ref 209)),("__static_attributes__",445,(.ref 210)),("__dict__",447,(.ref 213)),("__weakref__",449,(.ref 214)),("__doc__",450,.none)]),
 (212,kO 212 "Let" 211 402 410),
 (229,cO "__init__" "Alt.__init__" 465 76 4 3 181 [224,225,226,227,228] 472 0),
 (230,(fY (fD 6 0) "Alt.__init__" 229).obj),
 (232,dO P 4 [("__module__",460,(sO "lazycore.core" 187)),("__firstlineno__",464,(.int 74 463)),("__init__",474,(.ref 230)),("__static_attributes__",478,(.ref 231)),("__dict__",480,(.ref 234)),("__weakref__",482,(.ref 235)),("__doc__",483,.none)]),
 (233,kO 233 "Alt" 232 453 461),
 (250,cO "__init__" "Case.__init__" 498 82 5 3 181 [245,246,247,248,249] 506 0),
 (251,(fY (fD 7 0) "Case.__init__" 250).obj),
 (255,cO "groups" "Case.groups" 509 88 1 3 181 [252,253,0,0,254] 512 0),
 (256,(fY (fD 7 1) "Case.groups" 255).obj),
 (262,cO "parts" "Case.parts" 515 91 1 3 181 [257,258,259,260,261] 521 0),
 (263,(fY (fD 7 2) "Case.parts" 262).obj),
 (269,cO "rebuilt" "Case.rebuilt" 524 97 3 3 181 [264,265,266,267,268] 532 0),
 (270,(fY (fD 7 3) "Case.rebuilt" 269).obj),
 (272,dO P 4 [("__module__",493,(sO "lazycore.core" 187)),("__firstlineno__",497,(.int 80 496)),("__init__",508,(.ref 251)),("groups",514,(.ref 256)),("parts",523,(.ref 263)),("rebuilt",534,(.ref 270)),("__static_attributes__",539,(.ref 271)),("__dict__",541,(.ref 274)),("__weakref__",543,(.ref 275)),("__doc__",544,.none)]),
 (273,kO 273 "Case" 272 486 494),
 (290,cO "__init__" "Con.__init__" 559 104 3 3 181 [285,286,287,288,289] 565 0),
 (291,(fY (fD 8 0) "Con.__init__" 290).obj),
 (297,cO "groups" "Con.groups" 568 108 1 3 181 [292,293,294,295,296] 572 0),
 (298,(fY (fD 8 1) "Con.groups" 297).obj),
 (302,cO "parts" "Con.parts" 575 111 1 3 181 [299,300,0,0,301] 578 0),
 (303,(fY (fD 8 2) "Con.parts" 302).obj),
 (309,cO "rebuilt" "Con.rebuilt" 581 114 3 3 181 [304,305,306,307,308] 587 0),
 (310,(fY (fD 8 3) "Con.rebuilt" 309).obj),
 (312,dO P 4 [("__module__",554,(sO "lazycore.core" 187)),("__firstlineno__",558,(.int 102 557)),("__init__",567,(.ref 291)),("groups",574,(.ref 298)),("parts",580,(.ref 303)),("rebuilt",589,(.ref 310)),("__static_attributes__",592,(.ref 311)),("__dict__",594,(.ref 314)),("__weakref__",596,(.ref 315)),("__doc__",597,.none)]),
 (313,kO 313 "Con" 312 547 555),
 (330,cO "__init__" "Prim.__init__" 612 118 3 3 181 [325,326,327,328,329] 618 0),
 (331,(fY (fD 9 0) "Prim.__init__" 330).obj),
 (337,cO "groups" "Prim.groups" 621 122 1 3 181 [332,333,334,335,336] 625 0),
 (338,(fY (fD 9 1) "Prim.groups" 337).obj),
 (342,cO "parts" "Prim.parts" 628 125 1 3 181 [339,340,0,0,341] 631 0),
 (343,(fY (fD 9 2) "Prim.parts" 342).obj),
 (349,cO "rebuilt" "Prim.rebuilt" 634 128 3 3 181 [344,345,346,347,348] 640 0),
 (350,(fY (fD 9 3) "Prim.rebuilt" 349).obj),
 (352,dO P 4 [("__module__",607,(sO "lazycore.core" 187)),("__firstlineno__",611,(.int 116 610)),("__init__",620,(.ref 331)),("groups",627,(.ref 338)),("parts",633,(.ref 343)),("rebuilt",642,(.ref 350)),("__static_attributes__",645,(.ref 351)),("__dict__",647,(.ref 354)),("__weakref__",649,(.ref 355)),("__doc__",650,.none)]),
 (353,kO 353 "Prim" 352 600 608),
 (363,cO "scoped" "scoped" 655 131 3 3 181 [358,359,360,361,362] 664 0),
 (364,(fU (fD 11 0) "scoped" 363).obj),
 (370,cO "free_names" "free_names" 667 139 1 3 181 [365,366,367,368,369] 678 0),
 (371,(fU (fD 12 0) "free_names" 370).obj),
 (377,cO "is_free" "is_free" 681 151 2 3 181 [372,373,374,375,376] 686 0),
 (378,(fU (fD 13 0) "is_free" 377).obj),
 (391,cO "__init__" "Renamer.__init__" 701 155 3 3 181 [386,387,388,389,390] 707 0),
 (392,(fU (fD 14 0) "Renamer.__init__" 391).obj),
 (396,cO "new_groups" "Renamer.new_groups" 710 159 2 3 181 [393,394,0,0,395] 713 0),
 (397,(fU (fD 14 1) "Renamer.new_groups" 396).obj),
 (403,cO "inner" "Renamer.inner" 716 162 5 3 181 [398,399,400,401,402] 727 0),
 (404,(fU (fD 14 2) "Renamer.inner" 403).obj),
 (410,cO "leaf" "Renamer.leaf" 730 171 3 3 181 [405,406,407,408,409] 737 0),
 (411,(fU (fD 14 3) "Renamer.leaf" 410).obj),
 (417,cO "run" "Renamer.run" 740 179 2 3 181 [412,413,414,415,416] 756 0),
 (418,(fU (fD 14 4) "Renamer.run" 417).obj),
 (420,dO P 4 [("__module__",696,(sO "lazycore.core_names" 653)),("__firstlineno__",700,(.int 153 699)),("__init__",709,(.ref 392)),("new_groups",715,(.ref 397)),("inner",729,(.ref 404)),("leaf",739,(.ref 411)),("run",758,(.ref 418)),("__static_attributes__",761,(.ref 419)),("__dict__",763,(.ref 422)),("__weakref__",765,(.ref 423)),("__doc__",766,.none)]),
 (421,kO 421 "Renamer" 420 689 697),
 (431,cO "renamed" "renamed" 769 198 2 3 181 [426,427,428,429,430] 774 0),
 (432,(fU (fD 15 0) "renamed" 431).obj),
 (438,cO "substituted" "substituted" 777 200 3 3 181 [433,434,435,436,437] 783 0),
 (439,(fU (fD 16 0) "substituted" 438).obj),
 (445,cO "flat" "flat" 788 203 1 3 181 [440,441,442,443,444] 792 0),
 (446,(fX (fD 18 0) "flat" .none "lazycore.simplify_beta" 786 445).obj),
 (450,cO "beta" "beta" 795 207 2 3 181 [447,448,0,0,449] 798 0),
 (451,(fX (fD 19 0) "beta" .none "lazycore.simplify_beta" 786 450).obj),
 (455,cO "nested" "nested" 801 219 1 3 181 [452,453,0,0,454] 804 0),
 (456,(fX (fD 20 0) "nested" .none "lazycore.simplify_beta" 786 455).obj),
 (462,cO "call_of_let" "call_of_let" 807 225 2 3 181 [457,458,459,460,461] 813 0),
 (463,(fX (fD 21 0) "call_of_let" .none "lazycore.simplify_beta" 786 462).obj),
 (467,cO "eta" "eta" 816 230 2 3 181 [464,465,0,0,466] 819 0),
 (468,(fX (fD 22 0) "eta" .none "lazycore.simplify_beta" 786 467).obj),
 (474,cO "mapped" "mapped" 824 247 2 3 181 [469,470,471,472,473] 838 0),
 (475,(fX (fD 24 0) "mapped" .none "lazycore.core_walk" 822 474).obj),
 (481,cO "size_of" "size_of" 841 264 2 3 181 [476,477,478,479,480] 851 0),
 (482,(fX (fD 25 0) "size_of" .none "lazycore.core_walk" 822 481).obj),
 (488,cO "base_of" "base_of" 856 273 1 3 181 [483,484,485,486,487] 861 0),
 (489,(fX (fD 27 0) "base_of" .none "lazycore.fresh" 854 488).obj),
 (498,⟨.type "tuple",none,.seq ⟨[.ref 497]⟩ 0,⟨[]⟩⟩),
 (504,cO "__init__" "Fresh.__init__" 876 278 2 3 181 [499,500,501,502,503] 881 0),
 (505,(fX (fD 28 0) "Fresh.__init__" (.ref 498) "lazycore.fresh" 854 504).obj),
 (511,cO "avoid" "Fresh.avoid" 884 283 2 3 181 [506,507,508,509,510] 890 0),
 (512,(fX (fD 28 1) "Fresh.avoid" .none "lazycore.fresh" 854 511).obj),
 (518,cO "next" "Fresh.next" 893 287 2 3 181 [513,514,515,516,517] 900 0),
 (519,(fX (fD 28 2) "Fresh.next" .none "lazycore.fresh" 854 518).obj),
 (521,dO P 4 [("__module__",871,(sO "lazycore.fresh" 854)),("__firstlineno__",875,(.int 276 874)),("__init__",883,(.ref 505)),("avoid",892,(.ref 512)),("next",902,(.ref 519)),("__static_attributes__",905,(.ref 520)),("__dict__",907,(.ref 523)),("__weakref__",909,(.ref 524)),("__doc__",910,.none)]),
 (522,kO 522 "Fresh" 521 864 872),
 (539,cO "__init__" "Uses.__init__" 927 297 1 3 181 [534,535,536,537,538] 931 0),
 (540,(fX (fD 30 0) "Uses.__init__" .none "lazycore.occurrences" 913 539).obj),
 (546,cO "note" "Uses.note" 934 301 2 3 181 [541,542,543,544,545] 939 0),
 (547,(fX (fD 30 1) "Uses.note" .none "lazycore.occurrences" 913 546).obj),
 (549,dO P 4 [("__module__",922,(sO "lazycore.occurrences" 913)),("__firstlineno__",926,(.int 295 925)),("__init__",933,(.ref 540)),("note",941,(.ref 547)),("__static_attributes__",944,(.ref 548)),("__dict__",946,(.ref 551)),("__weakref__",948,(.ref 552)),("__doc__",949,.none)]),
 (550,kO 550 "Uses" 549 915 923),
 (560,cO "uses_of" "uses_of" 952 304 2 3 181 [555,556,557,558,559] 964 0),
 (561,(fX (fD 31 0) "uses_of" .none "lazycore.occurrences" 913 560).obj),
 (567,cO "is_atom" "is_atom" 967 314 1 3 181 [562,563,564,565,566] 971 0),
 (568,(fX (fD 32 0) "is_atom" .none "lazycore.occurrences" 913 567).obj),
 (574,cO "is_taken" "is_taken" 976 317 4 3 181 [569,570,571,572,573] 984 0),
 (575,(fX (fD 34 0) "is_taken" .none "lazycore.simplify_inline" 974 574).obj),
 (579,cO "inlined" "inlined" 987 324 3 3 181 [576,577,0,0,578] 990 0),
 (580,(fX (fD 35 0) "inlined" .none "lazycore.simplify_inline" 974 579).obj),
 (586,cO "_law_pool" "_law_pool" 995 345 2 3 181 [581,582,583,584,585] 1003 0),
 (587,(fZ (fD 37 0) "_law_pool" 586).obj),
 (593,cO "_law_take" "_law_take" 1006 352 2 3 181 [588,589,590,591,592] 1012 0),
 (594,(fZ (fD 38 0) "_law_take" 593).obj),
 (600,cO "_law_one" "_law_one" 1015 359 2 3 181 [595,596,597,598,599] 1020 0),
 (601,(fZ (fD 39 0) "_law_one" 600).obj),
 (605,cO "_law_known" "_law_known" 1023 361 2 3 181 [602,603,0,0,604] 1026 0),
 (606,(fZ (fD 40 0) "_law_known" 605).obj),
 (612,cO "_law_with" "_law_with" 1029 363 2 3 181 [607,608,609,610,611] 1037 0),
 (613,(fZ (fD 41 0) "_law_with" 612).obj),
 (619,cO "_law_leaf" "_law_leaf" 1040 368 3 3 181 [614,615,616,617,618] 1047 0),
 (620,(fZ (fD 42 0) "_law_leaf" 619).obj),
 (626,cO "_law_down" "_law_down" 1050 379 2 3 181 [621,622,623,624,625] 1056 0),
 (627,(fZ (fD 43 0) "_law_down" 626).obj),
 (633,cO "_law_let" "_law_let" 1059 382 4 3 181 [628,629,630,631,632] 1072 0),
 (634,(fZ (fD 44 0) "_law_let" 633).obj),
 (640,cO "_law_case" "_law_case" 1075 394 4 3 181 [635,636,637,638,639] 1089 0),
 (641,(fZ (fD 45 0) "_law_case" 640).obj),
 (647,cO "_law_expr" "_law_expr" 1092 408 4 3 181 [642,643,644,645,646] 1101 0),
 (648,(fZ (fD 46 0) "_law_expr" 647).obj),
 (654,cO "_law_asked" "_law_asked" 1104 424 2 3 181 [649,650,651,652,653] 1109 0),
 (655,(fZ (fD 47 0) "_law_asked" 654).obj),
 (661,cO "_law_bound" "_law_bound" 1112 426 3 3 181 [656,657,658,659,660] 1120 0),
 (662,(fZ (fD 48 0) "_law_bound" 661).obj),
 (668,cO "_law_called" "_law_called" 1123 431 3 3 181 [663,664,665,666,667] 1134 0),
 (669,(fZ (fD 49 0) "_law_called" 668).obj),
 (675,cO "_law_chosen" "_law_chosen" 1137 441 3 3 181 [670,671,672,673,674] 1146 0),
 (676,(fZ (fD 50 0) "_law_chosen" 675).obj),
 (680,cO "_law_value" "_law_value" 1149 452 3 3 181 [677,678,0,0,679] 1152 0),
 (681,(fZ (fD 51 0) "_law_value" 680).obj),
 (687,cO "_law_shown" "_law_shown" 1155 482 2 3 181 [682,683,684,685,686] 1162 0),
 (688,(fZ (fD 52 0) "_law_shown" 687).obj),
 (694,cO "_law_rule" "_law_rule" 1165 486 2 3 181 [689,690,691,692,693] 1172 0),
 (695,(fZ (fD 53 0) "_law_rule" 694).obj),
 (701,cO "law" "law" 1175 495 1 3 181 [696,697,698,699,700] 1184 0),
 (702,(fZ (fD 54 0) "law" 701).obj)]
noncomputable def Us:List Nat:=[35,42,49,77,84,91,119,124,131,159,166,173,199,204,209,256,263,270,298,303,310,338,343,350,364,371,378,397,404,411,418,432,439,446,451,456,463,468,475,482,489,519,547,561,568,575,580,587,594,601,606,613,620,627,634,641,648,655,662,669,676,681,688,702,0,0,0,0,0,0,0,512,505,695]
noncomputable def y3:List Nat:=[52,94,134,176,212,233,273,313,353,421]
noncomputable def PI(w:nB)(lam:Nat->aZ->Obj->aZ->Obj->Prop):ck:={kh:=bg w.params,cls:=fun c=>y3.getD c.n 0,cFresh:=522,cUses:=550,tab:=690,fn:=fun i=>Us.getD i 0,lam:=lam}
noncomputable def DI(prog:je)(w:nB)(p:je)(loose:List Str)(jy:ExcName->Option aj)(mg mb:Str->Option aj):dh:=⟨prog,w,KK w.params,p,loose,jy,mg,mb⟩
end Mine
set_option maxHeartbeats 4000000
namespace Mine
open PySem PySem.W PySem.Calls PyProof.Rows PyProof.Rows.LCg
noncomputable def FXL:List nr:=[fY (fD 1 1) "Var.groups" 34,
 fY (fD 1 2) "Var.parts" 41,
 fY (fD 1 3) "Var.rebuilt" 48,
 fY (fD 2 1) "Lit.groups" 76,
 fY (fD 2 2) "Lit.parts" 83,
 fY (fD 2 3) "Lit.rebuilt" 90,
 fY (fD 3 1) "App.groups" 118,
 fY (fD 3 2) "App.parts" 123,
 fY (fD 3 3) "App.rebuilt" 130,
 fY (fD 4 1) "Lam.groups" 158,
 fY (fD 4 2) "Lam.parts" 165,
 fY (fD 4 3) "Lam.rebuilt" 172,
 fY (fD 5 1) "Let.groups" 198,
 fY (fD 5 2) "Let.parts" 203,
 fY (fD 5 3) "Let.rebuilt" 208,
 fY (fD 7 1) "Case.groups" 255,
 fY (fD 7 2) "Case.parts" 262,
 fY (fD 7 3) "Case.rebuilt" 269,
 fY (fD 8 1) "Con.groups" 297,
 fY (fD 8 2) "Con.parts" 302,
 fY (fD 8 3) "Con.rebuilt" 309,
 fY (fD 9 1) "Prim.groups" 337,
 fY (fD 9 2) "Prim.parts" 342,
 fY (fD 9 3) "Prim.rebuilt" 349,
 fU (fD 11 0) "scoped" 363,
 fU (fD 12 0) "free_names" 370,
 fU (fD 13 0) "is_free" 377,
 fU (fD 14 1) "Renamer.new_groups" 396,
 fU (fD 14 2) "Renamer.inner" 403,
 fU (fD 14 3) "Renamer.leaf" 410,
 fU (fD 14 4) "Renamer.run" 417,
 fU (fD 15 0) "renamed" 431,
 fU (fD 16 0) "substituted" 438,
 fX (fD 18 0) "flat" .none "lazycore.simplify_beta" 786 445,
 fX (fD 19 0) "beta" .none "lazycore.simplify_beta" 786 450,
 fX (fD 20 0) "nested" .none "lazycore.simplify_beta" 786 455,
 fX (fD 21 0) "call_of_let" .none "lazycore.simplify_beta" 786 462,
 fX (fD 22 0) "eta" .none "lazycore.simplify_beta" 786 467,
 fX (fD 24 0) "mapped" .none "lazycore.core_walk" 822 474,
 fX (fD 25 0) "size_of" .none "lazycore.core_walk" 822 481,
 fX (fD 27 0) "base_of" .none "lazycore.fresh" 854 488,
 fX (fD 28 2) "Fresh.next" .none "lazycore.fresh" 854 518,
 fX (fD 30 1) "Uses.note" .none "lazycore.occurrences" 913 546,
 fX (fD 31 0) "uses_of" .none "lazycore.occurrences" 913 560,
 fX (fD 32 0) "is_atom" .none "lazycore.occurrences" 913 567,
 fX (fD 34 0) "is_taken" .none "lazycore.simplify_inline" 974 574,
 fX (fD 35 0) "inlined" .none "lazycore.simplify_inline" 974 579,
 fZ (fD 37 0) "_law_pool" 586,
 fZ (fD 38 0) "_law_take" 593,
 fZ (fD 39 0) "_law_one" 600,
 fZ (fD 40 0) "_law_known" 605,
 fZ (fD 41 0) "_law_with" 612,
 fZ (fD 42 0) "_law_leaf" 619,
 fZ (fD 43 0) "_law_down" 626,
 fZ (fD 44 0) "_law_let" 633,
 fZ (fD 45 0) "_law_case" 640,
 fZ (fD 46 0) "_law_expr" 647,
 fZ (fD 47 0) "_law_asked" 654,
 fZ (fD 48 0) "_law_bound" 661,
 fZ (fD 49 0) "_law_called" 668,
 fZ (fD 50 0) "_law_chosen" 675,
 fZ (fD 51 0) "_law_value" 680,
 fZ (fD 52 0) "_law_shown" 687,
 fZ (fD 54 0) "law" 701]
noncomputable def yS:nr:=fX (fD 28 1) "Fresh.avoid" .none "lazycore.fresh" 854 511
noncomputable def QK:nr:=fX (fD 28 0) "Fresh.__init__" (.ref 498) "lazycore.fresh" 854 504
noncomputable def QJ:nr:=fZ (fD 53 0) "_law_rule" 694
noncomputable def QI:nr:=fX (fD 30 0) "Uses.__init__" .none "lazycore.occurrences" 913 539
noncomputable def IXL:List nr:=[fY (fD 1 0) "Var.__init__" 27,fY (fD 2 0) "Lit.__init__" 69,fY (fD 3 0) "App.__init__" 111,fY (fD 4 0) "Lam.__init__" 151,fY (fD 5 0) "Let.__init__" 193,fY (fD 6 0) "Alt.__init__" 229,fY (fD 7 0) "Case.__init__" 250,fY (fD 8 0) "Con.__init__" 290,fY (fD 9 0) "Prim.__init__" 330,fU (fD 14 0) "Renamer.__init__" 391]
noncomputable def iaL:List Nat:=[28,70,112,152,194,230,251,291,331,392]
noncomputable def uIa:Nat:=540
noncomputable def FX(i:Nat):nr:=@bE (fun _=>nr) (FXL.getD i yS) yS (aL i 71)
noncomputable def fns(i:Nat):Fn:=@bE (fun _=>Fn) ((F8 i).getD ⟨0,0,.nil⟩) ⟨2,3,jJ⟩ (aL i 71)
noncomputable def XM(i:Nat):List Str:=((nms i).1.take (nms i).2).map af
noncomputable def Sq(i:Nat):List Str:=((nms i).1.take (fns i).np).map af
noncomputable def ids:List Nat:=jR 63++[71]
noncomputable def hH:List Cl:=[.Var,.Lit,.App,.iu,.Let,.Alt,.Case,.o9,.Prim,.il]
noncomputable def Dy:List Me:=[.groups,.inner,.leaf,.kQ,.next,.note,.parts,.gr,.run]
theorem Yj(h:l.length=2):∃a b,l=[a,b]:=by
 induction l with
 |nil=>exact(jV _ h.symm).elim
 |cons a r=>induction r with
  |nil=>exact(jV _ (j6 h).symm).elim
  |cons b r=>exact⟨a,b,by rw[eB (j6 (j6 h))]⟩
theorem Z4(c:Cl):hH[c.n]?=some c:=by induction c<;>rfl
noncomputable def meI:Me->Nat|.groups=>0|.inner=>1|.leaf=>2|.kQ=>3|.next=>4|.note=>5|.parts=>6|.gr=>7|.run=>8
theorem XY(m:Me):Dy[meI m]?=some m:=by induction m<;>rfl
theorem KQ(c:Cl):c∈hH:=cW (Z4 c)
theorem S8(m:Me):m∈Dy:=cW (XY m)
theorem map_eq{l:List α}{f g:α->β}(h:l.map f=l.map g):∀x∈l,f x=g x:=Hj.mp h
theorem gG{β:Type}{f g:Cl->β}(h:hH.map f=hH.map g)(c:Cl):f c=g c:=map_eq h c (KQ c)
noncomputable def Ur(i:Nat):Bool:=(FX i).scope.kind==.function&& !(FX i).scope.isCoroutine&& !(FX i).scope.isGenerator&&ZA (FX i).scope (XM i)&&(Sq i).isPrefixOf (XM i)&&aL (Sq i).length (fns i).np&&rY (fns i).body (s8 (FX i) (XM i) (vC i))&&aV (fns i).np 5
theorem abn:ids.all Ur=true:=by kernel_rfl
theorem abm:ids.map (fun i=>(FX i).body)=ids.map (fun i=>iF (vC i) (fns i).body):=by kernel_rfl
theorem abl:ids.map (fun i=>fun(a b c d e:aj)=>mC (FX i).fd ⟨[a,b,c,d,e].take (Sq i).length,[]⟩)=ids.map (fun i=>fun(a b c d e:aj)=>(pure ((Sq i).zip ([a,b,c,d,e].take (Sq i).length)):Sem _)):=by kernel_rfl
theorem PJ{vs:List aj}(h:vs.length=n)(hn:n<=5):∃a b c d e,vs=[a,b,c,d,e].take n:=by
 subst h
 match vs,hn with
 |[],_=>exact⟨.none,.none,.none,.none,.none,rfl⟩
 |[a],_=>exact⟨a,.none,.none,.none,.none,rfl⟩
 |[a,b],_=>exact⟨a,b,.none,.none,.none,rfl⟩
 |[a,b,c],_=>exact⟨a,b,c,.none,.none,rfl⟩
 |[a,b,c,d],_=>exact⟨a,b,c,d,.none,rfl⟩
 |[a,b,c,d,e],_=>exact⟨a,b,c,d,e,rfl⟩
 |_::_::_::_::_::_::r,h=>exact absurd h (by simp only[et];lia)
noncomputable abbrev Ps4:=Pos×Pos×Pos×Pos
noncomputable def nmP(e:Expr):Pos:=by
 cases e with
 |Name _ p=>exact p
 |_=>exact default
noncomputable def atP(e:Expr):Pos×Pos:=by
 cases e with
 |Attribute o _ p=>exact(nmP o,p)
 |_=>exact default
noncomputable def posOf(s:pX):Ps4:=by
 cases s with
 |Assign ts v p=>exact((atP (ts.headD v)).1,(atP (ts.headD v)).2,nmP v,p)
 |_=>exact default
noncomputable def abB(f y:Str)(q:Ps4):pX:=.Assign [.Attribute (.Name r4 q.1) f q.2.1] (.Name y q.2.2.1) q.2.2.2
noncomputable def mkB:List Str->List Str->List Ps4->List pX
 |[],_,_=>[]
 |f::fs,ps,qs=>abB f (ps.headD r4) (qs.headD default)::mkB fs ps.tail qs.tail
theorem JD:∀(fs ps:List Str)(qs:List Ps4),ps.length=fs.length->(ps.all fun y=> !(y==af "__debug__"))=true->A6 fs ps (mkB fs ps qs):=by
 intro fs
 induction fs with
 |nil=>
  intro ps qs h _
  refine(eB h).symm▸?_;rfl
 |cons f fs ih=>
  intro ps qs h hd
  cases ps with
  |nil=>exact(jV _ h.symm).elim
  |cons y ps=>exact⟨_,_,_,_,_,rfl,(dH _).mp (aP hd),ih ps qs.tail (j6 h) (aB hd)⟩
section
variable{prog:je}{w:nB}{p:je}{loose:List Str}{jy:ExcName->Option aj}{mg mb:Str->Option aj}{lam:Nat->aZ->Obj->aZ->Obj->Prop}
theorem kFn:ids.map (fun i=>((KK w.params).lookup (Us.getD i 0),codeIn (KK w.params) (FX i).Az (FX i).qual))=ids.map (fun i=>(some (FX i).obj,true)):=by kernel_rfl
theorem Qq{i:Nat}(hi:i∈ids):FnAt (DI prog w p loose jy mg mb) (Us.getD i 0) (fns i).np (fns i).body (FX i) (XM i) (Sq i) (vC i):=by
 have h1:Ur i=true:=bw.mp abn i hi
 obtain⟨h4,h5⟩:=aN (map_eq (kFn (w:=w)) i hi)
 unfold Ur at h1
 simp only[fN,dH,beq_iff_eq]at h1
 obtain⟨⟨⟨⟨⟨⟨⟨a1,a2⟩,a3⟩,a4⟩,a5⟩,a6⟩,a7⟩,a8⟩:=h1
 have a6:=df a6
 refine⟨⟨h4,h5,a1,a2,a3⟩,fun vs hv=>?_,a4,List.isPrefixOf_iff_prefix.mp a5,a6,(map_eq abm i hi),a7⟩
 obtain⟨a,b,c,d,e,rfl⟩:=PJ hv (a6▸ae a8)
 exact congrFun (congrFun (congrFun (congrFun (congrFun (map_eq abl i hi) a) b) c) d) e
theorem YC:hH.map (fun c=>(nsIn (KK w.params) dA (Ha c),keepIn (KK w.params) (.ref (y3.getD c.n 0)),plainGet (KK w.params) (y3.getD c.n 0) (af ""),oM (KK w.params) (y3.getD c.n 0),makesIn (KK w.params) (y3.getD c.n 0),fO (KK w.params) (.ref (y3.getD c.n 0)) (af "__setattr__"),plainOver (KK w.params) (y3.getD c.n 0)))=
 hH.map (fun c=>(some (some (.ref (y3.getD c.n 0))),true,true,true,true,some (some (.builtin "object.__setattr__")),true)):=by kernel_rfl
theorem Jq:hH.map (fun c=>(fO (KK w.params) (.ref (y3.getD c.n 0)) (af "__class__"),mroIn (KK w.params) (y3.getD c.n 0) (.type "object"),fO (KK w.params) (.ref (y3.getD c.n 0)) (af "__eq__"),subIn (KK w.params) (.type "str") (.ref (y3.getD c.n 0)),hH.map fun c'=>kitOne (KK w.params) (.ref (y3.getD c.n 0)) (.ref (y3.getD c'.n 0))))=
 hH.map (fun c=>(some (some (.builtin "object.__class__")),some true,some (some (.builtin "object.__eq__")),some false,hH.map fun c'=>some (aL c'.n c.n))):=by kernel_rfl
theorem YB:hH.map (fun c=>(fieldsOf c).map fun f=>(fO (KK w.params) (.ref (y3.getD c.n 0)) (eA f),nA (KK w.params) (y3.getD c.n 0) (eA f)))=hH.map (fun c=>(fieldsOf c).map fun _=>(some none,some none)):=by kernel_rfl
theorem aaX:hH.map (fun c=>Dy.map fun m=>(fE c m).map fun i=>(jo i 64,fO (KK w.params) (.ref (y3.getD c.n 0)) (PX m),isFn (KK w.params) (.ref (Us.getD i 0)),((fieldsOf c).map eA).all fun f=> !(f==PX m)))=
 hH.map (fun c=>Dy.map fun m=>(fE c m).map fun i=>(true,some (some (.ref (Us.getD i 0))),true,true)):=by kernel_rfl
theorem kBi:(jR 13).map (fun i=>(nsIn (KK w.params) dA (af (Hc i)),bootBuiltins (af (Hc i))))=(jR 13).map (fun i=>(some none,some (biV i))):=by kernel_rfl
theorem aaY:Qp.map (fun x=>nsIn (KK w.params) dA (af x.2))=Qp.map (fun x=>some (some (.ref (Us.getD x.1 0)))):=by kernel_rfl
theorem YA:(jR 64).all (fun i=>keepIn (KK w.params) (.ref (Us.getD i 0)))=true:=by kernel_rfl
theorem lookup_some{α β:Type}[BEq α][LawfulBEq α]{l:List (α×β)}{a:α}(h:(l.lookup a).isSome=true):∃b,l.lookup a=some b/\(a,b)∈l:=by
 obtain⟨b,hb⟩:=en.mp h
 exact⟨b,hb,lookup_mem hb⟩
theorem aaL:fL (DI prog w p loose jy mg mb) (PI w lam)where
 kh:=rfl
 bi:=fun i h=>aN (map_eq (kBi (w:=w)) i (wm.mpr h))
 fnG:=fun i h=>by
  obtain⟨b,h1,h2⟩:=lookup_some h
  have:=map_eq (aaY (w:=w)) _ h2
  show nsIn _ _ (af ((Qp.lookup i).getD ""))=_
  exact h1.symm▸this
 clG:=fun c=>(aN (gG (YC (w:=w)) c)).1
 DO:=fun i h=>bw.mp (YA (w:=w)) i (wm.mpr h)
 P4:=fun c=>(aN (aN (gG (YC (w:=w)) c)).2).1
 get:=fun c nm=>(aN (aN (aN (gG (YC (w:=w)) c)).2).2).1
 dict:=fun c=>(aN (aN (aN (aN (gG (YC (w:=w)) c)).2).2).2).1
 fld:=fun c f hf=>(aN (map_eq (gG (YB (w:=w)) c) f hf)).1
 Fe:=fun c m i h=>by
  have e:=map_eq (gG (aaX (w:=w)) c) m (S8 m)
  rw[h]at e
  obtain⟨e1,e⟩:=aN (ar e)
  obtain⟨e2,e⟩:=aN e
  obtain⟨e3,e4⟩:=aN e
  exact⟨ae e1,e2,e3,fun f hf=>dH _▸bw.mp e4 f hf⟩
theorem aaM:wh (DI prog w p loose jy mg mb) (PI w lam)where
 cl:=fun c=>(aN (gG (Jq (w:=w)) c)).1
 mro:=fun c=>(aN (aN (gG (Jq (w:=w)) c)).2).1
 gg:=by kernel_rfl
 ts:=by kernel_rfl
 one:=fun c c'=>gG (aN (aN (aN (aN (gG (Jq (w:=w)) c)).2).2).2).2 c'
theorem aaO:A4 (DI prog w p loose jy mg mb) (PI w lam)where
 eqm:=fun c=>(aN (aN (aN (gG (Jq (w:=w)) c)).2).2).1
 sub:=fun c=>(aN (aN (aN (aN (gG (Jq (w:=w)) c)).2).2).2).1
theorem aaN:yT (DI prog w p loose jy mg mb) (PI w lam)where
 Cy:=fun nm=>by kernel_rfl
 J3:=fun nm=>by kernel_rfl
 Ap:=by kernel_rfl
 Ao:=by kernel_rfl
 dD:=by kernel_rfl
 bU:=by kernel_rfl
 many:=by kernel_rfl
 inf:=by kernel_rfl
 next:=⟨by kernel_rfl,by kernel_rfl⟩
 note:=⟨by kernel_rfl,by kernel_rfl⟩
 saU:=by kernel_rfl
 poU:=by kernel_rfl
 tkM:=by kernel_rfl
 tkI:=by kernel_rfl
noncomputable def IX(c:Cl):nr:=IXL.getD c.n yS
noncomputable def ia(c:Cl):Nat:=iaL.getD c.n 0
noncomputable def Jw:Cl->List Str
 |.il=>[af "fresh",af "instead"]
 |c=>(fieldsOf c).map eA
noncomputable def TS(c:Cl):Bool:=aL (Jw c).length (fieldsOf c).length&&((Jw c).all fun y=> !(y==af "__debug__"))&&(IX c).scope.kind==.function&& !(IX c).scope.isCoroutine&& !(IX c).scope.isGenerator&&((IX c).scope.names.all fun x=> !(x.2==.cell))&&(IX c).scope.names.lookup r4==some .local&&((Jw c).all fun y=>(IX c).scope.names.lookup y==some .local)&&G4 (r4::Jw c)&&G4 ((fieldsOf c).map eA)&&aV (Jw c).length 5
theorem aa7:hH.all TS=true:=by kernel_rfl
theorem aa6:hH.map (fun c=>(IX c).body)=hH.map (fun c=>mkB ((fieldsOf c).map eA) (Jw c) ((IX c).body.map posOf)):=by kernel_rfl
theorem aa5:hH.map (fun i=>fun(x a b c d e:aj)=>mC (IX i).fd ⟨x::[a,b,c,d,e].take (Jw i).length,[]⟩)=hH.map (fun i=>fun(x a b c d e:aj)=>(pure ((r4,x)::(Jw i).zip ([a,b,c,d,e].take (Jw i).length)):Sem _)):=by kernel_rfl
theorem aa4:hH.map (fun c=>(fO (KK w.params) (.ref (y3.getD c.n 0)) (af "__init__"),isFn (KK w.params) (.ref (ia c)),(KK w.params).lookup (ia c),codeIn (KK w.params) (IX c).Az (IX c).qual))=hH.map (fun c=>(some (some (.ref (ia c))),true,some (IX c).obj,true)):=by kernel_rfl
theorem N7(c:Cl):yU (DI prog w p loose jy mg mb) ((PI w lam).cls c) ((fieldsOf c).map eA):=by
 have h1:TS c=true:=bw.mp aa7 c (KQ c)
 have h2:=gG aa6 c
 obtain⟨b1,b2⟩:=aN (gG (aa4 (w:=w)) c)
 obtain⟨b2,b3⟩:=aN b2
 obtain⟨b3,b4⟩:=aN b3
 have k:=gG (YC (w:=w)) c
 simp only[LV]at k
 unfold TS at h1
 simp only[fN,dH,beq_iff_eq]at h1
 obtain⟨⟨⟨⟨⟨⟨⟨⟨⟨⟨a1,a2⟩,a3⟩,a4⟩,a5⟩,a6⟩,a7⟩,a8⟩,a9⟩,a10⟩,a11⟩:=h1
 have l5:(Jw c).length<=5:=ae a11
 refine⟨k.2.2.2.2.1,k.2.2.2.1,k.2.2.2.2.2.1,k.2.2.2.2.2.2,fun x hx=>?_,kF a10,by rw[aI];refine(df a1)▸?_;lia,ia c,(IX c).name,(IX c).qual,(IX c).params,(IX c).body,(IX c).scope,(IX c).dV,(IX c).kV,(IX c).doc,(IX c).pm,(IX c).Az,(IX c).ct,(IX c).oc,(IX c).an,(IX c).od,(IX c).V4,Jw c,b1,b2,b3,b4,fun x vs hv=>?_,?_,a3,a4,a5,fun x hx=>?_,a7,fun y hy=>eq_of_beq (bw.mp a8 y hy),kF a9⟩
 ·obtain⟨f,hf,rfl⟩:=d6.mp hx
  exact(aN (map_eq (gG (YB (w:=w)) c) f hf)).2
 ·obtain⟨a,b,c',d,e,rfl⟩:=PJ hv l5
  exact congrFun (congrFun (congrFun (congrFun (congrFun (congrFun (gG aa5 c) x) a) b) c') d) e
 ·rw[h2];exact JD _ _ _ (by rw[aI];exact(df a1)) a2
 ·have:=bw.mp a6 x hx
  exact fun e=>by rw[e]at this;cases this
theorem OY:ClsIn (DI prog w p loose jy mg mb) (PI w lam).cUses "Uses" uIa QI:=⟨by kernel_rfl,by kernel_rfl,by kernel_rfl,by kernel_rfl,by kernel_rfl,by kernel_rfl,by kernel_rfl,by kernel_rfl,by kernel_rfl,by kernel_rfl,by kernel_rfl,by kernel_rfl,by kernel_rfl⟩
theorem BY{l:List (Str×dC)}(h:(l.all fun x=> !(x.2==.cell))=true):∀x∈l,x.2≠ .cell:=fun x hx e=>by
 have:=bw.mp h x hx
 rw[e]at this;cases this
theorem WQ:Ej (DI prog w p loose jy mg mb) (PI w lam).cUses uIa QI where
 toClsIn:=OY (lam:=lam)
 tkm:=by kernel_rfl
 tki:=by kernel_rfl
 bind:=fun x=>by kernel_rfl
 cells:=BY (by kernel_rfl)
 self:=by kernel_rfl
 body:=⟨_,_,_,_,_,_,_,_,_,_,rfl⟩
theorem KL:ClsIn (DI prog w p loose jy mg mb) (PI w lam).cFresh "Fresh" ((PI w lam).fn 72) QK:=⟨by kernel_rfl,by kernel_rfl,by kernel_rfl,by kernel_rfl,by kernel_rfl,by kernel_rfl,by kernel_rfl,by kernel_rfl,by kernel_rfl,by kernel_rfl,by kernel_rfl,by kernel_rfl,by kernel_rfl⟩
theorem zE:LN (DI prog w p loose jy mg mb) (PI w lam) yS QK (XM 71) (Sq 71) (vC 71)where
 toClsIn:=KL (lam:=lam)
 tkn:=by kernel_rfl
 tka:=by kernel_rfl
 bind:=fun vs h s hK=>by
  obtain⟨a,b,rfl⟩:=Yj h
  exact BindsTo.of_defaults (T:=498) rfl (hK 498 _ rfl) rfl rfl rfl
 fb:=by kernel_rfl
 self:=by kernel_rfl
 body:=⟨_,_,_,_,_,_,_,_,_,_,_,_,_,rfl,by kernel_rfl⟩
 av:=Qq (bP _ (.head _))
 avM:=by kernel_rfl
 Wr:=by kernel_rfl
 avK:=by kernel_rfl
end
noncomputable def abA(s:pX):Expr:=by
 cases s with
 |Assign _ v=>exact v
 |_=>exact default
noncomputable def elts(e:Expr):List Expr:=by
 cases e with
 |List es=>exact es
 |_=>exact []
noncomputable def DJ(e:Expr):rX×Expr×fq×Pos:=by
 cases e with
 |Lambda p b c d=>exact(p,b,c,d)
 |_=>exact default
noncomputable def R0:List Expr:=elts (abA (QJ.body.headD (.Pass default)))
noncomputable def zS(k:Nat):rX:=(DJ (R0.getD k default)).1
noncomputable def gy(k:Nat):Expr:=(DJ (R0.getD k default)).2.1
noncomputable def nU(k:Nat):fq:=(DJ (R0.getD k default)).2.2.1
noncomputable def NU(k:Nat):Pos:=(DJ (R0.getD k default)).2.2.2
noncomputable def xW(k:Nat)(c:aZ)(o:Obj)(c':aZ)(o':Obj):Prop:=
 ∃(name qual:Str)(qE:List (Str×aZ))(pm D4:aj)(vs:Array aj)(t:Tok),
  o=kla_obj name qual (zS k) (gy k) (nU k) qE pm c' D4/\o'.data=.fields vs/\vs[1]?=some (.str qual t)/\∀x,(x,dF)∈(nU k).names->qE.lookup x=some c
theorem Yt:LP (PI w xW):=⟨fun k c o c' o' h=>by
 refine Gk fun zG zk=>?_
 obtain⟨_,_,_,_,_,_,_,h2,_⟩:=h
 refine zk ?_
 exact⟨_,congrArg Obj.data h2⟩⟩
noncomputable def aaI(s:Ss):X:=(sd s).2.2.2.1
noncomputable def lx(k:Nat):X:=aaI (fns (64+k)).body
noncomputable def lG(k:Nat):List (Str×Nat):=(vC (64+k) 0,0):: @bE (fun _=>List (Str×Nat)) [] [(vC (64+k) 1,1)] ((nU k).names.contains (vC (64+k) 1,.free))
noncomputable def vS:List Nat:=[0,1,2,3,4,6]
noncomputable def TK(k:Nat):Bool:=(nU k).kind==.function&& !(nU k).isCoroutine&& !(nU k).isGenerator&&((nU k).names.all fun x=> !(x.2==.cell))&&(nU k).names.lookup (vC (64+k) 0)==some .local&&wf (lx k) ⟨(nU k).names,lG k,vC (64+k)⟩&&BX (vC (64+k) 0)&&BX (vC (64+k) 1)&&((nU k).names.lookup (vC (64+k) 1)==some .free|| !((nU k).names.contains (vC (64+k) 1,.free)))&&aL (fns (64+k)).np 2&&aL (fns (64+k)).ns 2
theorem Yw:vS.all TK=true:=by kernel_rfl
theorem Yv:vS.map gy=vS.map (fun k=>py (vC (64+k)) (lx k)):=by kernel_rfl
theorem Yu:vS.map (fun k=>fun(name qual:Str)(body:Expr)(scope:fq)(cl:List (Str×aZ))(pm cd ct v:aj)=>mC (kla_fn name qual (zS k) body scope cl pm cd ct) ⟨[v],[]⟩)=vS.map (fun k=>fun(name qual:Str)(body:Expr)(scope:fq)(cl:List (Str×aZ))(pm cd ct v:aj)=>(pure [(vC (64+k) 0,v)]:Sem _)):=by kernel_rfl
section
variable{prog:je}{w:nB}{p:je}{loose:List Str}{jy:ExcName->Option aj}{mg mb:Str->Option aj}
theorem Yx(hk:k∈vS):LQ (DI prog w p loose jy mg mb) (PI w xW) k (lx k):=by
 have h1:TK k=true:=bw.mp Yw k hk
 unfold TK at h1
 simp only[fN,dH,beq_iff_eq,nJ]at h1
 refine Gk fun zG zk=>?_
 obtain⟨⟨⟨⟨⟨⟨⟨⟨⟨⟨a1,a2⟩,a3⟩,a4⟩,a5⟩,a6⟩,a7⟩,a8⟩,a9⟩,a10⟩,a11⟩:=h1
 refine zk ?_
 refine⟨fun c o c' o' h=>?_⟩
 refine Gk fun zG zk=>?_
 obtain⟨name,qual,qE,pm,D4,vs,t,h4,h5,h6,h7⟩:=h
 refine zk ?_
 refine⟨name,qual,zS k,nU k,qE,pm,D4,vs,t,vC (64+k),lG k,by rw[h4,(map_eq Yv k hk)],h5,h6,fun v=>congrFun (congrFun (congrFun (congrFun (congrFun (congrFun (congrFun (congrFun (congrFun (map_eq Yu k hk) name) qual) _) (nU k)) qE) pm) _) D4) v,a1,a2,a3,BY a4,a5,a6,fun y j hy=>?_⟩
 have hm:=lookup_mem hy
 unfold lG at hm
 rcases aA.mp hm with e|hm
 ·cases e;exact⟨Du a7,.inl ⟨rfl,rfl⟩⟩
 ·induction hc:(nU k).names.contains (vC (64+k) 1,.free)with
  |false=>replace hm:=hc▸hm;cases hm
  |true=>
   replace hm:=hc▸hm
   cases bj.mp hm
   refine⟨Du a8,.inr ⟨rfl,?_,h7 _ (gz.mp hc)⟩⟩
   rcases a9 with h|h
   ·exact h
   ·replace h:=hc▸h;cases h
noncomputable def aaJ(s:Ss):Pos:=by
 cases s with
 |ret _ p=>exact p
 |_=>exact default
theorem Ye:∀k,k<8->jP k=some (64+k,true)->k∈vS:=by decide
theorem Yd:vS.map (fun k=>F8 (64+k))=vS.map fun k=>some ⟨2,2,.ret (lx k) (aaJ (fns (64+k)).body) .nil⟩:=by kernel_rfl
theorem tab:Tab (DI prog w p loose jy mg mb) (PI w xW)where
 fn:=fun lj fn h e=>by
  have fC:lj<63:=by
   rcases k8 lj 63 with h|h
   ·exact h
   ·cases oe (LX (by assumption)) h;cases e
  have e2:fns lj=fn:=by
   unfold fns
   induction h:aL lj 71 with
   |false=>refine e.symm▸?_;rfl
   |true=>have:=df h;lia
  subst e2
  exact⟨_,_,_,_,Qq (cX _ (wm.mpr fC))⟩
 lam:=fun k fn hk hf=>by
  have hm:k∈vS:=by
   rcases k8 k 8 with h|h
   ·exact Ye k h hk
   ·obtain⟨j,rfl⟩:=Nat.exists_eq_add_of_le' h
    exact(ay _ (cN hk)).elim
  cases ar (hf.symm.trans (Hj.mp Yd k hm))
  exact⟨lx k,_,rfl,Yx hm⟩
theorem facts:Facts (DI prog w p loose jy mg mb) (PI w xW):=⟨aaL,aaM,aaO,aaN,N7,⟨_,_,WQ⟩,Yt,⟨by kernel_rfl,by kernel_rfl⟩,⟨by kernel_rfl,by kernel_rfl⟩⟩
theorem wV{sc:fq}(hc:jP k=some (64+k,true))(h1:aV m (NU k).line=true)(h2:jo (NU k).line m'=true)(h3:(zS k).defaults=[]/\(zS k).kw_defaults=[])(h4:((nU k).names.all fun y=> !(y.2==.free)||y.1==nM 1)=true):
 aat (DI prog w p loose jy mg mb) (PI w xW) sc (nM 1) k m m' (.Lambda (zS k) (gy k) (nU k) (NU k)):=by
 refine .inl ⟨_,_,_,_,rfl,hc,ae h1,ae h2,fun env=>?_,fun y hy hf=>?_,fun name qual qE pm D4 c c' o' vs t h5 h6 h7=>⟨name,qual,qE,pm,D4,vs,t,rfl,h5,h6,h7⟩⟩
 ·cases hp:zS k with
  |mk a1 a2 a3 a4 a5 a6 a7=>
   rw[hp]at h3
   obtain⟨rfl,rfl⟩:=h3
   rfl
 ·have:=bw.mp h4 y hy
  rw[hf]at this
  exact eq_of_beq this
noncomputable def Fx(k:Nat):Expr:=.Lambda (zS k) (gy k) (nU k) (NU k)
noncomputable def nmQ(k:Nat):Pos:=nmP (R0.getD k default)
theorem RZ:ft (DI prog w p loose jy mg mb) (PI w xW) QJ 694 where
 look:=by kernel_rfl
 code:=by kernel_rfl
 kind:=by kernel_rfl
 co:=by kernel_rfl
 gen:=by kernel_rfl
 bind:=fun vs h=>by
  obtain⟨a,b,rfl⟩:=Yj h
  kernel_rfl
 fb:=by kernel_rfl
 Az:=rfl
 hd:=by kernel_rfl
 k0:=by kernel_rfl
 k1:=by kernel_rfl
 k2:=by kernel_rfl
 one:=fun n=>by kernel_rfl
 body:=by
  refine⟨R0,_,_,_,_,_,_,_,rfl,by kernel_rfl,?_⟩
  rw[(by kernel_rfl:R0=[Fx 0,Fx 1,Fx 2,Fx 3,Fx 4,.Name (af "nested") (nmQ 5),Fx 6,.Name (af "flat") (nmQ 7)])]
  exact⟨489,wV rfl (by kernel_rfl) (by kernel_rfl) ⟨by kernel_rfl,by kernel_rfl⟩ (by kernel_rfl),
   490,wV rfl (by kernel_rfl) (by kernel_rfl) ⟨by kernel_rfl,by kernel_rfl⟩ (by kernel_rfl),
   491,wV rfl (by kernel_rfl) (by kernel_rfl) ⟨by kernel_rfl,by kernel_rfl⟩ (by kernel_rfl),
   492,wV rfl (by kernel_rfl) (by kernel_rfl) ⟨by kernel_rfl,by kernel_rfl⟩ (by kernel_rfl),
   493,wV rfl (by kernel_rfl) (by kernel_rfl) ⟨by kernel_rfl,by kernel_rfl⟩ (by kernel_rfl),
   493,.inr ⟨35,_,_,rfl,rfl,ab _,by kernel_rfl,by kernel_rfl,by kernel_rfl⟩,
   494,wV rfl (by kernel_rfl) (by kernel_rfl) ⟨by kernel_rfl,by kernel_rfl⟩ (by kernel_rfl),
   494,.inr ⟨33,_,_,rfl,rfl,ab _,by kernel_rfl,by kernel_rfl,by kernel_rfl⟩,trivial⟩
theorem XU(d:Nat)(h:3<=d):kz (DI prog w p loose jy mg mb) (PI w xW) d:=Ou zE facts h
theorem RY(d:Nat)(h:1<=d):mY (DI prog w p loose jy mg mb) (PI w xW) d:=RX RZ facts h
end
noncomputable def pw:je:=iL
noncomputable def qV:je:={pw with main:={pw.main with body:=[fD 54 0]}}
noncomputable def loS:List String:=["Var","Lit","App","Lam","Let","Alt","Case","Con","Prim","scoped","free_names","is_free","Renamer","renamed","substituted","flat","beta","nested","call_of_let","eta","mapped","size_of","base_of","Fresh","Uses","uses_of","is_atom","is_taken","inlined","_law_pool","_law_take","_law_one","_law_known","_law_with","_law_leaf","_law_down","_law_let","_law_case","_law_expr","_law_asked","_law_bound","_law_called","_law_chosen","_law_value","_law_shown","_law_rule"]
noncomputable def PZ:List Str:=loS.map af
noncomputable def HK:Hook:=kmHook KK [3,27,28,34,35,41,42,48,49,51,52,69,70,76,77,83,84,90,91,93,94,111,112,118,119,123,124,130,131,133,134,151,152,158,159,165,166,172,173,175,176,193,194,198,199,203,204,208,209,211,212,229,230,232,233,250,251,255,256,262,263,269,270,272,273,290,291,297,298,302,303,309,310,312,313,330,331,337,338,342,343,349,350,352,353,363,364,370,371,377,378,391,392,396,397,403,404,410,411,417,418,420,421,431,432,438,439,445,446,450,451,455,456,462,463,467,468,474,475,481,482,488,489,498,504,505,511,512,518,519,521,522,539,540,546,547,549,550,560,561,567,568,574,575,579,580,586,587,593,594,600,601,605,606,612,613,619,620,626,627,633,634,640,641,647,648,654,655,661,662,668,669,675,676,680,681,687,688,694,695,701,702] (fun _=>by kernel_rfl) [690]
noncomputable def xV:DefRec:=match fD 54 0 with
 |.FunctionDef n ps b _ _ _ sc _ _ p=>⟨n,ps,b,sc,p⟩
 |_=>⟨default,default,[],default,default⟩
theorem head(left:LeftO pw qV PZ (fun s=>xlAt qV [] s&&recOk [] s) HK.obs HK.val 20000)
 (call:WalkO qV PZ (XL qV []) HK.says cc.row.toRowW xV [] fun f vs=>En f vs):cc.Holds:=by
 have hws:OpenLaw.wellSaid cc=true:=by rw[PySem.W.Fast.te9446332074065402090];kernel_rfl
 refine holds_law hws fun aaB=>?_
 refine holds_open (q:=qV) (loose:=PZ) (Xt:=fun s=>xlAt qV [] s&&recOk [] s) (XP:=XL qV []) (Yf:=HK.obs) (Ya:=HK.val) (YP:=HK.says) (N:=20000) (d:=xV) (kwd:=[]) left HK.of HK.keeps (fun s e=>xl_of s (j8.mp e).1) XL.keeps ?_ ?_ ?_ (fun s e=>recFacts_of (j8.mp e).2) rfl aaB ?_ ⟨rfl,rfl,rfl,rfl,rfl,?_⟩ ?_ call
 ·kernel_rfl
 ·kernel_rfl
 ·kernel_rfl
 ·kernel_rfl
 ·decide+kernel
 ·exact⟨[.list []],by decide+kernel,by decide+kernel⟩
end Mine
set_option maxHeartbeats 0
namespace Mine
open PySem PySem.W PySem.Calls PyProof.Rows PyProof.Rows.LCg
noncomputable def Rb(th ok:Thread->Bool)(st:lV->Thread->Option (lV×Thread)):Nat->lV->Thread->Option lV:=
 @Nat.rec (fun _=>lV->Thread->Option lV) (fun _ _=>none) (fun _ ih s t=>match th t with
   |true=>some s
   |false=>match ok t with
    |false=>none
    |true=>match st s t with
     |some (s',t')=>ih s' t'
     |none=>none)
theorem wA{tb:String->Option cy}{p:je}{w:nB}{n₀:Nat}{ann:Option aj}:∀{n:Nat}{s s':lV}{t:Thread},Rb through (stepOk n₀ ann) (stepT (denote tb) p w) n s t=some s'->topRun tb p w n₀ ann n s.abs t=some s'.abs
 |0,_,_,_,h=>nomatch h
 |n+1,s,s',t,h=>by
  unfold topRun
  have h:(match through t with
   |true=>some s
   |false=>match stepOk n₀ ann t with
    |false=>none
    |true=>match stepT (denote tb) p w s t with
     |some (s',t')=>Rb through (stepOk n₀ ann) (stepT (denote tb) p w) n s' t'
     |none=>none)=some s':=h
  cases ht:through t with
  |true=>rw[ht]at h;exact congrArg (fun o=>o.map lV.abs) h
  |false=>
   rw[ht]at h
   cases hk:stepOk n₀ ann t with
   |false=>rw[hk]at h;cases h
   |true=>
    rw[hk]at h
    cases hs:stepT (denote tb) p w s t with
    |none=>rw[hs]at h;cases h
    |some r=>obtain⟨s₂,t₂⟩:=r;rw[hs]at h;rw[stepT_spec hs];exact wA h
noncomputable def Jz:List Obj->Nat->BT->BT
 |[],_,t=>t
 |o::r,n,t=>Jz r (n+1) (t.ins n o)
noncomputable def T0(P:Params):BT:=Jz (iD P).objs.toList 0 .nil
noncomputable def S0(w:nB)(os:OsState):lV:=⟨T0 w.params,11,(iD w.params).life,⟨[]⟩,ua,boot_toks,os⟩
theorem RV(w:nB)(os:OsState):(S0 w os).abs=⟨iD w.params,⟨[]⟩,ua,boot_toks,os⟩:=by kernel_rfl
noncomputable def XT(s:aw):Bool:=xlAt qV [] s&&recOk [] s
noncomputable def H3(w:nB)(os:OsState):Option lV:=Rb through (PySem.W.Fast.tw6613529449190102663 11 (some (.ref 6))) (PySem.W.Fast.tw10156331382660048174 (PySem.W.Fast.tw11892475500146522536 PySem.W.Fast.tw14364793385576792824) pw w) 6000 (S0 w os) (topStub pw)
theorem see(w:nB)(os:OsState):(H3 w os).map (fun s=>(staticsOk (jd pw.main.body) (iD w.params) s.abs.heap&&namesBound pw s.abs.heap&&gensDone s.abs&&laidKept (iD w.params) s.abs.heap,PySem.W.Fast.tw4187177175401517315 qV PZ (jd pw.main.body) XT true s.abs,HK.obs s.abs))=some (true,openGood qV PZ,HK.val w):=by kernel_rfl
theorem O7(w:nB):((iD w.params).isNs dA&&(Array.mk ([]:List GenState)).size==0,(iD w.params).objs.size,(iD w.params).nsMap dA "__annotations__")=(true,11,some (.ref 6)):=by kernel_rfl
theorem RW{w:nB}{os:OsState}{s':lV}(h:H3 w os=some s'):topRun kH pw w 11 (some (.ref 6)) 6000 ⟨iD w.params,⟨[]⟩,ua,boot_toks,os⟩ (topStub pw)=some s'.abs:=by
 unfold H3 at h
 rw[<-PySem.W.Fast.te6613529449190102663,<-PySem.W.Fast.te10156331382660048174,<-PySem.W.Fast.te11892475500146522536,<-PySem.W.Fast.te14364793385576792824]at h
 rw[<-RV]
 exact wA h
theorem Ve:opening pw=plainProg pw.main.scope.names:=by kernel_rfl
theorem Vd(s:aw):fenceModules? pw s=some s:=by kernel_rfl
theorem OJ{p:je}{w:nB}{N n₀:Nat}{ann:Option aj}{s₀ s₁:aw}(e:fencedOpening kH p w N=some s₀)(z1:(s₀.heap.isNs dA&&s₀.gens.size==0)=true)(z2:s₀.heap.objs.size=n₀)(z3:s₀.heap.nsMap dA "__annotations__"=ann)
 (r:topRun kH p w n₀ ann N s₀ (topStub p)=some s₁) (l1:(staticsOk (jd p.main.body) s₀.heap s₁.heap&&namesBound p s₁.heap&&gensDone s₁&&laidKept s₀.heap s₁.heap)=true):openEnds kH p w N=some s₁:=by
 have t:topFrom kH p w N s₀=some s₁:=by
  unfold topFrom
  rw[z1,z2,z3,r]
  show(match staticsOk (jd p.main.body) s₀.heap s₁.heap&&namesBound p s₁.heap&&gensDone s₁&&laidKept s₀.heap s₁.heap with|true=>_|false=>_)=_
  rw[l1]
 unfold openEnds
 rw[e]
 exact t
theorem NO{p q:je}{loose:List Str}{Xt:aw->Bool}{α:Type}{Yf:aw->α}{Ya:α}{w:nB}{N:Nat}{s₁:aw}(h:openEnds kH p w N=some s₁)(l2:openSeen q loose (jd p.main.body) Xt true s₁=openGood q loose)(l3:Yf s₁=Ya):
 (openEnds kH p w N).map (fun s=>(openSeen q loose (jd p.main.body) Xt true s,Yf s))=some (openGood q loose,Ya):=by
 rw[h,<-l2,<-l3];rfl
theorem Vc{p:je}{w:nB}{N:Nat}(h:(fencedOpening kH p w N).map (fun s=>(s.heap,s.gens,s.drawn,s.toks))=some (iD w.params,Array.mk [],ua,boot_toks)):∃os,fencedOpening kH p w N=some ⟨iD w.params,⟨[]⟩,ua,boot_toks,os⟩:=by
 obtain⟨⟨h,gs,d,k,os⟩,e,e'⟩:=eN.mp h
 simp only[LV]at e'
 obtain⟨rfl,rfl,rfl,rfl⟩:=e'
 exact⟨os,e⟩
theorem left:LeftO pw qV PZ XT HK.obs HK.val 20000:=fun w=>by
 obtain⟨os,e⟩:=Vc (boot_open (p:=pw) (N:=20000) Ve rfl Vd w)
 obtain⟨s',hs,hF⟩:=eN.mp (see w os)
 obtain⟨l1,hF⟩:=aN hF
 obtain⟨l2,l3⟩:=aN hF
 rw[<-PySem.W.Fast.te4187177175401517315]at l2
 obtain⟨z1,z2⟩:=aN (O7 w)
 obtain⟨z2,z3⟩:=aN z2
 exact NO (OJ e z1 z2 z3 (topRun_mono 14000 _ _ _ _ (RW hs)) l1) l2 l3
theorem XJ(call:WalkO qV PZ (XL qV []) HK.says cc.row.toRowW xV [] fun f vs=>En f vs):cc.Holds:=head left call
end Mine
set_option maxHeartbeats 4000000
namespace Mine
open PySem PySem.W PySem.Calls PyProof.Rows PyProof.Rows.LCg
theorem Jh{w:nB}:∀{zs:List Int}{vs:List aj},WellAll w.params h vs (ofPys (zs.map C5))->∀g:Gh,e7 P g (zs.map .int) vs:=by
 intro zs
 induction zs with
 |nil=>
  intro vs h g
  cases h;exact .nil
 |cons z zs cz=>
  intro vs h g
  cases h with
  |cons h1 h2=>cases h1;exact .cons BB (cz h2 g)
theorem BO(r:Reads h (.ref a) (.list xs) as):a∈as:=by
 cases r
 exact .head _
theorem Q5:∀{n:Nat},n≠0->n≠1->n≠2->2<n
 |0,h,_,_=>absurd rfl h
 |1,_,h,_=>absurd rfl h
 |2,_,_,h=>absurd rfl h
 |n+3,_,_,_=>aq 3 n
noncomputable def P3(ms:List Int):St:=⟨[.fz (.lst (ms.map .int)),.un,.un,.un,.un,.un],[.tab 0]⟩
noncomputable def Yq(fl:Fl)(st:St):Prop:=fl=.ret false (.bool true)/\∃k,st.mu[0]?=some (.tab k)
theorem Jj:xV.body=iF (vC 63) k5:=by kernel_rfl
theorem Jk(pm cd doc kV v:aj):mC {docDef xV.name xV.params xV.body xV.scope pm cd doc with defaults:=.none,kwdefaults:=kV} ⟨[v],[]⟩=pure [(af "script",v)]:=by kernel_rfl
theorem walk(spec:∀ms:List Int,ms.length<=63->∃W,dJ W (ah W 690) 690 k5 (P3 ms) Yq):WalkO qV PZ (XL qV []) HK.says cc.row.toRowW xV [] fun f vs=>En f vs:=by
 intro w s₀ s₁ mg mb G Y a o pm cd doc dV kV ho hd hcd hD hmg hg args vals as aa9 abh hrd hwl hlo
 refine Ground.open G ?_
 intro T B D TE TW
 clear D
 have he:=Dflts.none hD (by kernel_rfl)
 subst he
 have abf:=hlo
 refine Gk fun zG zk=>?_
 wrow_args aa9 abh hrd hwl hlo
 rename_i zs _ _ _ _ _ _ _ la vs _ _ _ hw r0 _ _ hlen _
 have Wn:TabsAt [(694,690)] s₁.heap:=fun q hq=>by
  cases bj.mp hq
  exact⟨codeHd_of_K (km_in_of (K:=KK) Y) (by kernel_rfl),(km_tabs_of Y) 690 (.head _)⟩
 obtain⟨W,hs⟩:=spec zs (bQ.mp (qW.mp (by assumption)):zs.length<=63)
 refine zk (enter_call ?_)
 refine kn_post Wn (fun _ _=>rfl) ?_
 refine call_fullW (by decide) ho hd (Top.nolimit T) hcd (vO (Jk pm cd doc kV _)) (fun x hx=>by cases bj.mp hx;kernel_rfl) (fun h₁ F=>?_) (by kernel_rfl) (by kernel_rfl) (by kernel_rfl) (BY (by kernel_rfl))
 obtain⟨Q1,e1,e2⟩:∃Q1,s₁.heap.get? la=some (dq Q1 0)/\WellAll w.params s₁.heap Q1 (ofPys (zs.map C5)):=by
  cases(hw:Well w.params s₁.heap (.ref la) (.list (ofPys (zs.map C5))))with
  |list h1 h2=>exact⟨_,h1,h2⟩
 refine Jj.symm▸?_
 have n1:la≠1:=fun q=>by
  have:=abf _ (cX _ (BO r0))
  rw[q]at this
  exact absurd this (by decide)
 have nn:∀{b:aZ}{mm:Str->Option aj},s₁.heap.Ns b mm->la≠b:=fun⟨o,es,ep,e,hd,r⟩ q=>by
  subst q
  cases e1.symm.trans e
  cases hd
 have hla:2<la:=by
  exact Q5 (nn T.b) n1 (by obtain⟨mc,h,_⟩:=T.nolimit;exact nn h:la≠2)
 refine Ft (D:=DI cc.row.prog w topProg _ _ mg mb) (P:=PI w xW) (sa:=la) (ms:=zs.map .int) (vs:=Q1) (nn:=0) (s:=s₁) (W:=W) (ab _) facts tab XU RY rfl (ghost_K Wn (km_in_of (K:=KK) Y) (by kernel_rfl)) (ghost_top Wn T) (ghost_fr Wn F) (ghost_news Wn F ((News.nil:News _ _ _ []).at F)) (by kernel_rfl) (ghost_get Wn e1 (fun q=>nomatch congrArg Obj.cls q)) ⟨hla,show 2<690 by decide⟩ (by kernel_rfl) (by kernel_rfl) (by kernel_rfl) rfl (fun g=>Jh e2 g) hs fun h' tk ps p1 p2=>?_
 obtain⟨m',p2⟩:=p2
 exact⟨goodW_bool p2 hg (fun _=>rfl) (by kernel_rfl),⟨_,p1⟩,trivial⟩
end Mine
set_option backward.match.sparseCases false
namespace Pu
set_option genCtorIdx true in
set_option genInjectivity true in
inductive K|i|f|c
 deriving DecidableEq
set_option genCtorIdx true in
set_option genInjectivity true in
structure Nm where
 b:Nat
 k:Nat
 deriving DecidableEq
inductive T:K->Type
 |var(k:K)(x:Nm):T k
 |err(k:K):T k
 |lit(z:Nat):T .i
 |add(a b:T .i):T .i
 |app(f:T .f)(a:T .i):T .i
 |gap2(a b:T .i):T .i
 |eg(a:T .i):T .f
 |lam(x:Nm)(b:T .i):T .f
 |cD:T .c
 |cC(a:T .i):T .c
 |let1{k j:K}(x:Nm)(a:T k)(b:T j):T j
 |bW{k j:K}(x:Nm)(a:T k)(y:Nm)(c:T .i)(b:T j):T j
 |dQ{j:K}(x:Nm)(a:T .f)(b:T j):T j
 |dR{j:K}(x n v:Nm)(z:Nat)(b:T j):T j
 |bG{j:K}(s:T .i)(x:Nm)(z:Int)(a o:T j):T j
 |cE{j:K}(s:T .f)(x:Nm)(o:T j):T j
 |bK{j:K}(s:T .c)(x y:Nm)(a o:T j):T j
 |bD{j:K}(s:T .c)(x y:Nm)(a o:T j):T j
structure R(α:Type)where
 c:Nat
 d:Nat
 v:Option α
noncomputable abbrev Di:=R Int
noncomputable abbrev Df:=R (Di->Di)
noncomputable abbrev Dc:=R (Option Di)
noncomputable abbrev Dn:K->Type
 |.i=>Di
 |.f=>Df
 |.c=>Dc
noncomputable def wW{α:Type}:R α:=⟨0,0,none⟩
noncomputable def Jr:(k:K)->Dn k
 |.i=>(wW:Di)
 |.f=>(wW:Df)
 |.c=>(wW:Dc)
noncomputable def R.tick{α:Type}(r:R α):R α:=⟨r.c+1,r.d+2,r.v⟩
noncomputable def R.known{α:Type}(r:R α):R α:=⟨2,3,r.v⟩
noncomputable def tick:{k:K}->Dn k->Dn k
 |.i,r=>R.tick (α:=Int) r
 |.f,r=>R.tick (α:=Di->Di) r
 |.c,r=>R.tick (α:=Option Di) r
noncomputable abbrev Env:=Nm->(k:K)->Dn k
noncomputable def upd(C:Env)(x:Nm)(k:K)(d:Dn k):Env:=fun y k'=>if y=x then(if h:k=k' then h▸d else Jr k')else C y k'
structure Wt where
 ad:Nat
 lc:Nat
 ld:Nat
noncomputable def oR(a b:Di):Di:=⟨1+a.c+(if a.v.isSome then b.c else 0),1+max a.d b.d,a.v.bind fun x=>b.v.map fun y=>x+y⟩
noncomputable def jC(w:Wt)(f:Df)(a:Di):Di:=
 match f.v with
 |none=>⟨1+f.c,1+f.d,none⟩
 |some I=>⟨1+f.c+(I a).c,max (1+f.d) (w.ad+(I a).d),(I a).v⟩
noncomputable def jO(a b:Di):Di:=oR a.tick b.tick
noncomputable def qx(w:Wt)(a b:Di):Di:=⟨3+(jO a b).c,max 4 (w.ad+(jO a b).d),(jO a b).v⟩
noncomputable def ql{α:Type}(k m:Nat)(r:R α):R α:=⟨k+r.c,m+r.d,r.v⟩
noncomputable def kL(k m:Nat):{j:K}->Dn j->Dn j
 |.i,r=>ql (α:=Int) k m r
 |.f,r=>ql (α:=Di->Di) k m r
 |.c,r=>ql (α:=Option Di) k m r
noncomputable def kX{α β:Type}(s:R α)(g:α->R β):R β:=
 match s.v with
 |none=>⟨1+s.c,2+s.d,none⟩
 |some x=>⟨1+s.c+(g x).c,2+max s.d (g x).d,(g x).v⟩
noncomputable def kY{α:Type}(s:R α):{j:K}->(α->Dn j)->Dn j
 |.i,g=>kX (β:=Int) s g
 |.f,g=>kX (β:=Di->Di) s g
 |.c,g=>kX (β:=Option Di) s g
noncomputable def gW(w:Wt)(z:Int)(r:Di->Di)(a:Di):Di:=
 match a.v with
 |none=>⟨1+(a.c+1),2+(a.d+2),none⟩
 |some m=>
  if m=0 then⟨1+(a.c+1)+1,2+max (a.d+2) 1,some z⟩
  else
   let q:=r ⟨1+(a.c+1)+1,1+max (a.d+2) 1,some (m-1)⟩
   ⟨1+(a.c+1)+(1+(1+w.lc)+q.c),2+max (a.d+2) (max (1+(2+w.ld)) (w.ad+q.d)),q.v⟩
noncomputable def dn(w:Wt)(z:Int):Nat->Di->Di
 |0,_=>wW
 |n+1,a=>gW w z (dn w z n) a
noncomputable def down(w:Wt)(z:Int)(a:Di):Di:=dn w z ((a.v.getD 0).toNat+1) a
noncomputable def abp:(k:K)->Dn k
 |.i=>(⟨1,1,none⟩:Di)
 |.f=>(⟨1,1,none⟩:Df)
 |.c=>(⟨1,1,none⟩:Dc)
noncomputable def den(w:Wt):{k:K}->T k->Env->Dn k
 |_,.var k x=>fun C=>C x k
 |_,.err k=>fun _=>abp k
 |_,.lit z=>fun _=>(⟨1,1,some (z:Int)⟩:Di)
 |_,.add a b=>fun C=>oR (den w a C) (den w b C)
 |_,.app f a=>fun C=>jC w (den w f C) (den w a C)
 |_,.gap2 a b=>fun C=>qx w (den w a C) (den w b C)
 |_,.eg a=>fun C=>(⟨3,4,some fun b=>jO (den w a C) b⟩:Df)
 |_,.lam x b=>fun C=>(⟨w.lc,w.ld,some fun a=>den w b (upd C x .i (R.tick (α:=Int) a))⟩:Df)
 |_,.cD=>fun _=>(⟨1,1,some none⟩:Dc)
 |_,.cC a=>fun C=>(⟨1,1,some (some (den w a C))⟩:Dc)
 |_,.let1 (k:=k) x a b=>fun C=>kL 1 1 (den w b (upd C x k (tick (den w a C))))
 |_,.bW (k:=k) x a y c b=>fun C=>kL 1 1 (den w b (upd (upd C x k (tick (den w a C))) y .i (tick (k:=.i) (den w c C))))
 |_,.dQ x a b=>fun C=>kL 1 1 (den w b (upd C x .f (tick (k:=.f) (den w a C))))
 |_,.dR x z1 z2 z b=>fun C=>kL 1 1 (den w b (upd C x .f (R.tick (α:=Di->Di) ⟨w.lc,w.ld,some (down w z)⟩)))
 |_,.bG s x z a o=>fun C=>
  let S:Di:=den w s C
  kY S fun n=>if n=z then den w a (upd C x .i (R.known S))else den w o (upd C x .i (R.known S))
 |_,.cE s x o=>fun C=>
  let S:Df:=den w s C
  kY S fun _=>den w o (upd C x .f (R.known S))
 |_,.bK s x y a o=>fun C=>
  let S:Dc:=den w s C
  kY S fun n=>match n with
   |some t=>den w a (upd (upd C x .c (R.known S)) y .i (R.tick t))
   |none=>den w o (upd C x .c (R.known S))
 |_,.bD s x y a o=>fun C=>
  let S:Dc:=den w s C
  kY S fun n=>match n with
   |some t=>den w a (upd (upd C x .c (R.known S)) y .i (R.tick t))
   |none=>den w o (upd C x .c (R.known S))
noncomputable def vr{α:Type}(V:α->α->Prop):Option α->Option α->Prop
 |none,none=>True
 |some a,some b=>V a b
 |_,_=>False
noncomputable def mr(r q:Nat){α:Type}(V:α->α->Prop)(x y:R α):Prop:=x.c<=r*y.c/\x.d<=q*y.d/\vr V x.v y.v
noncomputable def fi(r q:Nat)(x y:Di):Prop:=mr r q Eq x y
noncomputable def Pr(r q:Nat)(x y:Df):Prop:=mr r q (fun I ψ=>∀a b,fi r q a b->fi r q (I a) (ψ b)) x y
noncomputable def abJ(r q:Nat)(x y:Dc):Prop:=mr r q (vr (fi r q)) x y
noncomputable def Rel(r q:Nat):(k:K)->Dn k->Dn k->Prop
 |.i=>fi r q
 |.f=>Pr r q
 |.c=>abJ r q
noncomputable def iG(r q:Nat)(C C':Env):Prop:=∀x k,Rel r q k (C x k) (C' x k)
section
variable{r q:Nat}
theorem ot{V:α->α->Prop}:mr r q V (wW:R α) wW:=⟨bC _,bC _,trivial⟩
theorem uA:∀k,Rel r q k (Jr k) (Jr k)
 |.i=>ot
 |.f=>ot
 |.c=>ot
theorem bH(h:iG r q C C')(hd:Rel r q k d d'):iG r q (upd C x k d) (upd C' x k d'):=by
 intro y k'
 unfold upd
 split
 ·split
  ·rename_i e;subst e;exact hd
  ·exact uA k'
 ·exact h y k'
theorem mN:∀{a b:Option α},vr Eq a b->a=b
 |none,none,_=>rfl
 |some _,some _,h=>congrArg some h
theorem uN:∀(a:Option α),vr Eq a a
 |none=>trivial
 |some _=>rfl
theorem mx(h:a<=q*a')(h':b<=q*b'):max a b<=q*max a' b':=
 bV.mpr ⟨aa h (aK _ (aC ..)),aa h' (aK _ (az ..))⟩
theorem fR(h:a<=q*a')(g:b<=q*b'):a+b<=q*(a'+b'):=by rw[d9];exact aG h g
theorem fK(h:1<=q):k<=q*k:=eR k h
theorem Iq:∀{a b:Option α},vr V a b->(a=none/\b=none)\/∃x y,a=some x/\b=some y/\V x y
 |none,none,_=>.inl ⟨rfl,rfl⟩
 |some x,some y,h=>.inr ⟨x,y,rfl,rfl,h⟩
theorem dG(hr:1<=r)(hq:1<=q)(h:mr r q V x y):mr r q V x.tick y.tick:=⟨fR h.1 (fK hr),fR h.2.1 (fK hq),h.2.2⟩
theorem eS(hr:1<=r)(hq:1<=q):∀{k:K}{x y:Dn k},Rel r q k x y->Rel r q k (tick x) (tick y)
 |.i,_,_,h=>dG hr hq h
 |.f,_,_,h=>dG hr hq h
 |.c,_,_,h=>dG hr hq h
theorem jw(hr:1<=r)(hq:1<=q)(h:mr r q V x y):mr r q V x.known y.known:=⟨fK hr,fK hq,h.2.2⟩
theorem uB(hr:1<=r)(hq:1<=q)(h:mr r q V x y):mr r q V (ql 1 1 x) (ql 1 1 y):=⟨fR (fK hr) h.1,fR (fK hq) h.2.1,h.2.2⟩
theorem jH(hr:1<=r)(hq:1<=q):∀{k:K}{x y:Dn k},Rel r q k x y->Rel r q k (kL 1 1 x) (kL 1 1 y)
 |.i,_,_,h=>uB hr hq h
 |.f,_,_,h=>uB hr hq h
 |.c,_,_,h=>uB hr hq h
theorem ifq{c:Bool}(h:x<=r*y):(if c then x else 0)<=r*(if c then y else 0):=by
 cases c
 ·exact bC _
 ·exact h
theorem xK(hr:1<=r)(hq:1<=q)(ha:fi r q a a')(hb:fi r q b b'):fi r q (oR a b) (oR a' b'):=by
 refine⟨fR (fR (fK hr) ha.1) ?_,fR (fK hq) (mx ha.2.1 hb.2.1),?_⟩
 ·exact(mN ha.2.2).symm▸ifq hb.1
 ·show vr Eq (a.v.bind fun x=>b.v.map fun y=>x+y) (a'.v.bind fun x=>b'.v.map fun y=>x+y)
  exact(mN ha.2.2).symm▸(mN hb.2.2).symm▸uN _
theorem CU(e:f.v=none):jC w f a=⟨1+f.c,1+f.d,none⟩:=by unfold jC;rw[e]
theorem CT(e:f.v=some I):jC w f a=⟨1+f.c+(I a).c,max (1+f.d) (w.ad+(I a).d),(I a).v⟩:=by unfold jC;rw[e]
theorem xJ(hr:1<=r)(hq:1<=q)(h1:w.ad<=q*w'.ad)(hf:Pr r q f f')(ha:fi r q a a'):fi r q (jC w f a) (jC w' f' a'):=by
 rcases Iq hf.2.2 with⟨e,e'⟩|⟨I,ψ,e,e',h⟩
 ·rw[CU e,CU e'];exact⟨fR (fK hr) hf.1,fR (fK hq) hf.2.1,trivial⟩
 ·rw[CT e,CT e']
  have g:=h a a' ha
  exact⟨fR (fR (fK hr) hf.1) g.1,mx (fR (fK hq) hf.2.1) (fR h1 g.2.1),g.2.2⟩
theorem lX(hr:1<=r)(hq:1<=q)(ha:fi r q a a')(hb:fi r q b b'):fi r q (jO a b) (jO a' b'):=xK hr hq (dG hr hq ha) (dG hr hq hb)
theorem zr(hr:1<=r)(hq:1<=q)(h1:w.ad<=q*w'.ad)(ha:fi r q a a')(hb:fi r q b b'):fi r q (qx w a b) (qx w' a' b'):=
 have g:=lX hr hq ha hb
 ⟨fR (fK hr) g.1,mx (fK hq) (fR h1 g.2.1),g.2.2⟩
section
variable{α β:Type}{s:R α}{g:α->R β}
theorem qG(e:s.v=none):kX s g=⟨1+s.c,2+s.d,none⟩:=by unfold kX;exact e.symm▸rfl
theorem oF(e:s.v=some x):kX s g=⟨1+s.c+(g x).c,2+max s.d (g x).d,(g x).v⟩:=by unfold kX;rw[e]
end
theorem rp(hr:1<=r)(hq:1<=q)(hs:mr r q V s s')(hg:∀x y,V x y->mr r q U (g x) (g' y)):mr r q U (kX s g) (kX s' g'):=by
 rcases Iq hs.2.2 with⟨e,e'⟩|⟨x,y,e,e',h⟩
 ·rw[qG e,qG e'];exact⟨fR (fK hr) hs.1,fR (fK hq) hs.2.1,trivial⟩
 ·rw[oF e,oF e']
  have k:=hg x y h
  exact⟨fR (fR (fK hr) hs.1) k.1,fR (fK hq) (mx hs.2.1 k.2.1),k.2.2⟩
theorem kC(hr:1<=r)(hq:1<=q){V:α->α->Prop}{s s':R α}(hs:mr r q V s s'):∀{j:K}{g g':α->Dn j},(∀x y,V x y->Rel r q j (g x) (g' y))->Rel r q j (kY s g) (kY s' g')
 |.i,_,_,hg=>rp hr hq hs hg
 |.f,_,_,hg=>rp hr hq hs hg
 |.c,_,_,hg=>rp hr hq hs hg
theorem Qy(e:a.v=none):gW w z f a=⟨1+(a.c+1),2+(a.d+2),none⟩:=by unfold gW;rw[e]
theorem Qz(e:a.v=some 0):gW w z f a=⟨1+(a.c+1)+1,2+max (a.d+2) 1,some z⟩:=by unfold gW;rw[e];rfl
noncomputable def ZS(a:Di)(m:Int):Di:=⟨1+(a.c+1)+1,1+max (a.d+2) 1,some (m-1)⟩
theorem Qx(e:a.v=some m)(h:m≠0):gW w z f a=⟨1+(a.c+1)+(1+(1+w.lc)+(f (ZS a m)).c),2+max (a.d+2) (max (1+(2+w.ld)) (w.ad+(f (ZS a m)).d)),(f (ZS a m)).v⟩:=by unfold gW;exact e.symm▸if_neg h
theorem BN(hr:1<=r)(hq:1<=q)(h1:w.ad<=q*w'.ad)(h2:w.lc<=r*w'.lc)(h3:w.ld<=q*w'.ld)(hf:∀a b,fi r q a b->fi r q (f a) (f' b))(ha:fi r q a a'):
 fi r q (gW w z f a) (gW w' z f' a'):=by
 have c1:a.c+1<=r*(a'.c+1):=fR ha.1 (fK hr)
 have d1:a.d+2<=q*(a'.d+2):=fR ha.2.1 (fK hq)
 have e:=mN ha.2.2
 induction hv:a.v with
 |none=>rw[Qy hv,Qy (e▸hv)];exact⟨fR (fK hr) c1,fR (fK hq) d1,trivial⟩
 |some m=>
  by_cases h:m=0
  ·subst h
   rw[Qz hv,Qz (e▸hv)];exact⟨fR (fR (fK hr) c1) (fK hr),fR (fK hq) (mx d1 (fK hq)),rfl⟩
  ·rw[Qx hv h,Qx (e▸hv) h]
   have g:=hf (ZS a m) (ZS a' m) ⟨fR (fR (fK hr) c1) (fK hr),fR (fK hq) (mx d1 (fK hq)),rfl⟩
   exact⟨fR (fR (fK hr) c1) (fR (fR (fK hr) (fR (fK hr) h2)) g.1),fR (fK hq) (mx d1 (mx (fR (fK hq) (fR (fK hq) h3)) (fR h1 g.2.1))),g.2.2⟩
theorem Sn(hr:1<=r)(hq:1<=q)(h1:w.ad<=q*w'.ad)(h2:w.lc<=r*w'.lc)(h3:w.ld<=q*w'.ld){z:Int}:
 ∀n a b,fi r q a b->fi r q (dn w z n a) (dn w' z n b):=by
 intro n
 induction n with
 |zero=>
  intro _ _ _
  exact ot
 |succ n cz=>
  intro _ _ h
  exact BN hr hq h1 h2 h3 (cz) h
theorem zt(hr:1<=r)(hq:1<=q)(h1:w.ad<=q*w'.ad)(h2:w.lc<=r*w'.lc)(h3:w.ld<=q*w'.ld)(h:fi r q a b):fi r q (down w z a) (down w' z b):=by
 unfold down
 exact(mN h.2.2).symm▸Sn hr hq h1 h2 h3 _ _ _ h
theorem tR{w w':Wt}(hr:1<=r)(hq:1<=q)(h1:w.ad<=q*w'.ad)(h2:w.lc<=r*w'.lc)(h3:w.ld<=q*w'.ld):
 ∀{k:K}(t:T k){C C':Env},iG r q C C'->Rel r q k (den w t C) (den w' t C'):=by
 intro k t
 have one:1<=r*1:=fK hr
 have Np:1<=q*1:=fK hq
 induction t with
 |var k x=>intro C C' h;exact h x k
 |err k=>intro C C' h;induction k<;>exact⟨one,Np,trivial⟩
 |lit z=>intro C C' h;exact⟨one,Np,rfl⟩
 |add a b bZ dE=>intro C C' h;exact xK hr hq (bZ h) (dE h)
 |app f a ihf bZ=>intro C C' h;exact xJ hr hq h1 (ihf h) (bZ h)
 |gap2 a b bZ dE=>intro C C' h;exact zr hr hq h1 (bZ h) (dE h)
 |eg a bZ=>intro C C' h;exact⟨fK hr,fK hq,fun x y uW=>lX hr hq (bZ h) uW⟩
 |lam x b ih=>intro C C' h;exact⟨h2,h3,fun a a' ha=>ih (bH h (dG hr hq ha))⟩
 |cD=>intro C C' h;exact⟨one,Np,trivial⟩
 |cC a bZ=>intro C C' h;exact⟨one,Np,bZ h⟩
 |let1 x a b bZ dE=>intro C C' h;exact jH hr hq (dE (bH h (eS hr hq (bZ h))))
 |bW x a y c b bZ yg dE=>intro C C' h;exact jH hr hq (dE (bH (bH h (eS hr hq (bZ h))) (eS hr hq (yg h))))
 |dQ x a b bZ dE=>intro C C' h;exact jH hr hq (dE (bH h (eS hr hq (bZ h))))
 |dR x n v z b dE=>intro C C' h;exact jH hr hq (dE (bH h (dG hr hq (x:=(⟨w.lc,w.ld,some (down w z)⟩:Df)) ⟨h2,h3,fun a a' ha=>zt hr hq h1 h2 h3 ha⟩)))
 |bG s x z a o gj bZ gn=>
  intro C C' h
  refine kC hr hq (gj h) fun m m' hm=>?_
  cases hm
  have hk:=bH (x:=x) (k:=.i) h (jw hr hq (gj h))
  by_cases e:m=z
  ·show Rel r q _ (if m=z then den w a _ else den w o _) (if m=z then den w' a _ else den w' o _)
   rw[if_pos e,if_pos e];exact bZ hk
  ·show Rel r q _ (if m=z then den w a _ else den w o _) (if m=z then den w' a _ else den w' o _)
   rw[if_neg e,if_neg e];exact gn hk
 |cE s x o gj gn=>
  intro C C' h
  exact kC hr hq (gj h) fun _ _ _=>gn (bH (x:=x) (k:=.f) h (jw hr hq (gj h)))
 |bK s x y a o gj bZ gn|bD s x y a o gj bZ gn=>
  intro C C' h
  refine kC hr hq (gj h) fun m m' hm=>?_
  have hk:=bH (x:=x) (k:=.c) h (jw hr hq (gj h))
  induction m with
  |none=>induction m' with
   |none=>exact gn hk
   |some _=>exact hm.elim
  |some t=>induction m' with
   |none=>exact hm.elim
   |some t'=>exact bZ (bH hk (dG hr hq hm))
end
noncomputable def fv:{k:K}->T k->K->Nm->Prop
 |_,.var k x=>fun k' y=>k'=k/\y=x
 |_,.err z1=>fun _ _=>False
 |_,.lit z1=>fun _ _=>False
 |_,.add a b=>fun k' y=>fv a k' y\/fv b k' y
 |_,.app a b=>fun k' y=>fv a k' y\/fv b k' y
 |_,.gap2 a b=>fun k' y=>fv a k' y\/fv b k' y
 |_,.eg a=>fun k' y=>fv a k' y
 |_,.lam x b=>fun k' y=>fv b k' y/\y≠x
 |_,.cD=>fun _ _=>False
 |_,.cC a=>fun k' y=>fv a k' y
 |_,.let1 (k:=k) x a b=>fun k' y=>fv a k' y\/(fv b k' y/\y≠x)
 |_,.bW (k:=k) x a z c b=>fun k' y=>fv a k' y\/fv c k' y\/((fv b k' y/\y≠z)/\y≠x)
 |_,.dQ x a b=>fun k' y=>fv a k' y\/(fv b k' y/\y≠x)
 |_,.dR x z1 z2 z3 b=>fun k' y=>fv b k' y/\y≠x
 |_,.bG s x z1 a o=>fun k' y=>fv s k' y\/((fv a k' y\/fv o k' y)/\y≠x)
 |_,.cE s x o=>fun k' y=>fv s k' y\/(fv o k' y/\y≠x)
 |_,.bK s x z a o=>fun k' y=>fv s k' y\/(((fv a k' y/\y≠z)\/fv o k' y)/\y≠x)
 |_,.bD s x z a o=>fun k' y=>fv s k' y\/(((fv a k' y/\y≠z)\/fv o k' y)/\y≠x)
theorem iy{F:K->Nm->Prop}{d d':Dn k}(h:∀k' y,F k' y/\y≠x->C y k'=C' y k')(hd:d=d'):∀k' y,F k' y->upd C x k d y k'=upd C' x k d' y k':=by
 subst hd
 intro k' y hy
 unfold upd
 by_cases e:y=x
 ·rw[if_pos e,if_pos e]
 ·rw[if_neg e,if_neg e];exact h k' y ⟨hy,e⟩
theorem D6{a a':α}{b b':β}{f:α->β->γ}(h:a=a')(g:b=b'):f a b=f a' b':=by rw[h,g]
theorem oE{j k:K}{o:T j}{S S':R α}{f:R α->Dn k}(e:S=S')(h:∀k' y,fv o k' y/\y≠x->C y k'=C' y k')(ih:∀{C C':Env},(∀k' y,fv o k' y->C y k'=C' y k')->den w o C=den w o C'):
 den w o (upd C x k (f S))=den w o (upd C' x k (f S')):=ih (iy h (congrArg f e))
theorem Gq{o:T j}{α:Type}{S S':R α}{f:R α->Dn k}{t:Di}(e:S=S')(h:∀k' y,(fv o k' y/\y≠z)/\y≠x->C y k'=C' y k')(ih:∀{C C':Env},(∀k' y,fv o k' y->C y k'=C' y k')->den w o C=den w o C'):
 den w o (upd (upd C x k (f S)) z .i t)=den w o (upd (upd C' x k (f S')) z .i t):=ih (iy (F:=fv o) (iy (F:=fun k y=>fv o k y/\y≠z) h (congrArg f e)) rfl)
theorem iB{w:Wt}:∀{k:K}(t:T k){C C':Env},(∀k' y,fv t k' y->C y k'=C' y k')->den w t C=den w t C':=by
 intro k t
 induction t with
 |var k x=>exact fun h=>h k x ⟨rfl,rfl⟩
 |err k=>exact fun _=>by induction k<;>rfl
 |lit z|cD=>exact fun _=>rfl
 |add a b p q=>exact fun h=>D6 (f:=oR) (p fun k y e=>h k y (.inl e)) (q fun k y e=>h k y (.inr e))
 |app a b p q=>exact fun h=>D6 (f:=jC w) (p fun k y e=>h k y (.inl e)) (q fun k y e=>h k y (.inr e))
 |gap2 a b p q=>exact fun h=>D6 (f:=qx w) (p fun k y e=>h k y (.inl e)) (q fun k y e=>h k y (.inr e))
 |eg a p=>exact fun h=>congrArg (fun a:Di=>(⟨3,4,some fun b=>jO a b⟩:Df)) (p h)
 |lam x b p=>exact fun h=>congrArg (fun I=>(⟨w.lc,w.ld,some I⟩:Df)) (funext fun a=>p (iy h rfl))
 |cC a p=>exact fun h=>congrArg (fun a:Di=>(⟨1,1,some (some a)⟩:Dc)) (p h)
 |let1 x a b p q|dQ x a b p q=>exact fun h=>congrArg (kL 1 1) (q (iy (fun k y e=>h k y (.inr e)) (congrArg tick (p fun k y e=>h k y (.inl e)))))
 |bW x a y c b p r q=>exact fun h=>congrArg (kL 1 1) (q (iy (F:=fv b) (iy (F:=fun k z=>fv b k z/\z≠y) (fun k y e=>h k y (.inr (.inr e))) (congrArg tick (p fun k y e=>h k y (.inl e)))) (congrArg tick (r fun k y e=>h k y (.inr (.inl e))))))
 |dR x n v z b p=>exact fun h=>congrArg (kL 1 1) (p (iy h rfl))
 |bG s x z a o p q r=>
   intro C C' h
   have e:=p fun k y e=>h k y (.inl e)
   exact D6 (f:=fun(S:R (Int))(g:(Int)->Dn _)=>kY S g) e (funext fun n=>D6 (f:=fun A B=>if n=z then A else B) (oE (k:=.i) (f:=R.known (α:=Int)) e (fun k y e=>h k y (.inr ⟨.inl e.1,e.2⟩)) q) (oE (k:=.i) (f:=R.known (α:=Int)) e (fun k y e=>h k y (.inr ⟨.inr e.1,e.2⟩)) r))
 |cE s x o p r=>
   intro C C' h
   have e:=p fun k y e=>h k y (.inl e)
   exact D6 (f:=fun(S:R (Di->Di))(g:(Di->Di)->Dn _)=>kY S g) e (funext fun n=>oE (k:=.f) (f:=R.known (α:=Di->Di)) e (fun k y e=>h k y (.inr e)) r)
 |bK s x z a o p q r|bD s x z a o p q r=>
   intro C C' h
   have e:=p fun k y e=>h k y (.inl e)
   exact D6 (f:=fun(S:R (Option Di))(g:(Option Di)->Dn _)=>kY S g) e (funext fun n=>by
    induction n with
    |none=>exact oE (k:=.c) (f:=R.known (α:=Option Di)) e (fun k y e=>h k y (.inr ⟨.inr e.1,e.2⟩)) r
    |some t=>exact Gq (k:=.c) (f:=R.known (α:=Option Di)) e (fun k y e=>h k y (.inr ⟨.inl e.1,e.2⟩)) q)
noncomputable abbrev Fr:=Nat->Nat
noncomputable def bases:List Nat:=[120,121,122,119,118,110]
noncomputable def Ok(I:Fr)(x:Nm):Prop:=x.k<=I x.b/\x.b∈bases
noncomputable def nw(I:Fr)(x:Nm):Nm:=⟨x.b,I x.b+1⟩
noncomputable def nx(I:Fr)(x:Nm):Fr:=fun b=>if b=x.b then I b+1 else I b
noncomputable def qz(I ψ:Fr):Prop:=∀b,I b<=ψ b
theorem ej:qz I I:=fun _=>ab _
theorem qz.trans(h:qz I ψ)(h':qz ψ χ):qz I χ:=fun b=>aa (h b) (h' b)
theorem bF:qz I (nx I x):=fun b=>by unfold nx;split<;>lia
theorem Ok.mono(h:Ok I x)(hl:qz I ψ):Ok ψ x:=⟨aa h.1 (hl _),h.2⟩
theorem iP(hb:x.b∈bases):Ok (nx I x) (nw I x):=⟨by show I x.b+1<=nx I x x.b;unfold nx;rw[if_pos rfl];lia,hb⟩
theorem eP:¬Ok I (nw I x):=fun h=>by have:=h.1;simp only[nw]at this;lia
theorem qr(h:Ok I y):y≠nw I x:=fun e=>eP (e▸h)
noncomputable def dj(I:Fr):{k:K}->T k->Prop
 |_,.var z1 x=>Ok I x
 |_,.err z1=>True
 |_,.lit z1=>True
 |_,.add a b=>dj I a/\dj I b
 |_,.app a b=>dj I a/\dj I b
 |_,.gap2 a b=>dj I a/\dj I b
 |_,.eg a=>dj I a
 |_,.lam x b=>Ok I x/\dj I b
 |_,.cD=>True
 |_,.cC a=>dj I a
 |_,.let1 (k:=k) x a b=>Ok I x/\dj I a/\dj I b
 |_,.bW (k:=k) x a y c b=>Ok I x/\Ok I y/\dj I a/\dj I c/\dj I b
 |_,.dQ x a b=>Ok I x/\dj I a/\dj I b
 |_,.dR x n v z1 b=>Ok I x/\Ok I n/\Ok I v/\dj I b
 |_,.bG s x z1 a o=>dj I s/\Ok I x/\dj I a/\dj I o
 |_,.cE s x o=>dj I s/\Ok I x/\dj I o
 |_,.bK s x y a o=>dj I s/\Ok I x/\Ok I y/\dj I a/\dj I o
 |_,.bD s x y a o=>dj I s/\Ok I x/\Ok I y/\dj I a/\dj I o
theorem dj.mono(hl:qz I ψ):∀{k:K}{t:T k},dj I t->dj ψ t:=by
 intro k t
 induction t with
 |var k x=>exact fun h=>Ok.mono h hl
 |err k=>exact id
 |lit z=>exact id
 |add a b bZ dE=>exact fun h=>⟨bZ h.1,dE h.2⟩
 |app a b bZ dE=>exact fun h=>⟨bZ h.1,dE h.2⟩
 |gap2 a b bZ dE=>exact fun h=>⟨bZ h.1,dE h.2⟩
 |eg a bZ=>exact fun h=>bZ h
 |lam x b ih=>exact fun h=>⟨h.1.mono hl,ih h.2⟩
 |cD=>exact id
 |cC a bZ=>exact fun h=>bZ h
 |let1 x a b bZ dE=>exact fun h=>⟨h.1.mono hl,bZ h.2.1,dE h.2.2⟩
 |bW x a y c b bZ yg dE=>exact fun h=>⟨h.1.mono hl,h.2.1.mono hl,bZ h.2.2.1,yg h.2.2.2.1,dE h.2.2.2.2⟩
 |dQ x a b bZ dE=>exact fun h=>⟨h.1.mono hl,bZ h.2.1,dE h.2.2⟩
 |dR x n v z b dE=>exact fun h=>⟨h.1.mono hl,h.2.1.mono hl,h.2.2.1.mono hl,dE h.2.2.2⟩
 |bG s x z a o gj bZ gn=>exact fun h=>⟨gj h.1,h.2.1.mono hl,bZ h.2.2.1,gn h.2.2.2⟩
 |cE s x o gj gn=>exact fun h=>⟨gj h.1,h.2.1.mono hl,gn h.2.2⟩
 |bK s x y a o gj bZ gn|bD s x y a o gj bZ gn=>exact fun h=>⟨gj h.1,h.2.1.mono hl,h.2.2.1.mono hl,bZ h.2.2.2.1,gn h.2.2.2.2⟩
theorem dj.fv:∀{k:K}{t:T k},dj I t->∀k' y,Pu.fv t k' y->Ok I y:=by
 intro k t
 induction t with
 |var k x=>rintro h k' y ⟨_,rfl⟩;exact h
 |err k=>exact fun _ _ _ h=>h.elim
 |lit z=>exact fun _ _ _ h=>h.elim
 |add a b bZ dE=>exact fun h k y e=>e.elim (bZ h.1 k y) (dE h.2 k y)
 |app a b bZ dE=>exact fun h k y e=>e.elim (bZ h.1 k y) (dE h.2 k y)
 |gap2 a b bZ dE=>exact fun h k y e=>e.elim (bZ h.1 k y) (dE h.2 k y)
 |eg a bZ=>exact fun h=>bZ h
 |lam x b ih=>exact fun h k y e=>ih h.2 k y e.1
 |cD=>exact fun _ _ _ h=>h.elim
 |cC a bZ=>exact fun h=>bZ h
 |let1 x a b bZ dE=>exact fun h k y e=>e.elim (bZ h.2.1 k y) fun e=>dE h.2.2 k y e.1
 |bW x a y c b bZ yg dE=>exact fun h k y e=>e.elim (bZ h.2.2.1 k y) fun e=>e.elim (yg h.2.2.2.1 k y) fun e=>dE h.2.2.2.2 k y e.1.1
 |dQ x a b bZ dE=>exact fun h k y e=>e.elim (bZ h.2.1 k y) fun e=>dE h.2.2 k y e.1
 |dR x n v z b dE=>exact fun h k y e=>dE h.2.2.2 k y e.1
 |bG s x z a o gj bZ gn=>exact fun h k y e=>e.elim (gj h.1 k y) fun e=>e.1.elim (bZ h.2.2.1 k y) (gn h.2.2.2 k y)
 |cE s x o gj gn=>exact fun h k y e=>e.elim (gj h.1 k y) fun e=>gn h.2.2 k y e.1
 |bK s x z a o gj bZ gn|bD s x z a o gj bZ gn=>exact fun h k y e=>e.elim (gj h.1 k y) fun e=>e.1.elim (fun e=>bZ h.2.2.2.1 k y e.1) (gn h.2.2.2.2 k y)
noncomputable def Kc{j:K}(b:T j)(x:Nm)(k:K):Prop:=∀k',fv b k' x->k'=k
noncomputable def WF:{k:K}->T k->Prop
 |_,.var z1 z2=>True
 |_,.err z1=>True
 |_,.lit z1=>True
 |_,.add a b=>WF a/\WF b
 |_,.app a b=>WF a/\WF b
 |_,.gap2 a b=>WF a/\WF b
 |_,.eg a=>WF a
 |_,.lam x b=>WF b/\Kc b x .i
 |_,.cD=>True
 |_,.cC a=>WF a
 |_,.let1 (k:=k) x a b=>WF a/\WF b/\Kc b x k
 |_,.bW (k:=k) x a y c b=>x≠y/\WF a/\WF c/\WF b/\Kc b x k/\Kc b y .i
 |_,.dQ x a b=>WF a/\(∀k,¬fv a k x)/\WF b/\Kc b x .f
 |_,.dR x n v z1 b=>(n≠x/\v≠x/\v≠n)/\WF b/\Kc b x .f
 |_,.bG s x z1 a o=>WF s/\(WF a/\Kc a x .i)/\WF o/\Kc o x .i
 |_,.cE s x o=>WF s/\WF o/\Kc o x .f
 |_,.bK s x y a o=>WF s/\(WF a/\(y≠x->Kc a x .c)/\Kc a y .i)/\WF o/\Kc o x .c
 |_,.bD s x y a o=>WF s/\(WF a/\(y≠x->Kc a x .c)/\Kc a y .i)/\WF o/\Kc o x .c
noncomputable abbrev Sg:=Nm->Option Nm
noncomputable def su(U:Sg)(x y:Nm):Sg:=fun z=>if z=x then some y else U z
noncomputable abbrev Lf:=(k:K)->Nm->Fr->T k×Fr
noncomputable def di(lf:Lf):{k:K}->T k->Sg->Fr->T k×Fr
 |_,.var k x=>fun U I=>match U x with
  |some y=>(.var k y,I)
  |none=>lf k x I
 |_,.err k=>fun _ I=>(.err k,I)
 |_,.lit z=>fun _ I=>(.lit z,I)
 |_,.add a b=>fun U I=>let r:=di lf a U I;let s:=di lf b U r.2;(.add r.1 s.1,s.2)
 |_,.app a b=>fun U I=>let r:=di lf a U I;let s:=di lf b U r.2;(.app r.1 s.1,s.2)
 |_,.gap2 a b=>fun U I=>let r:=di lf a U I;let s:=di lf b U r.2;(.gap2 r.1 s.1,s.2)
 |_,.eg a=>fun U I=>let r:=di lf a U I;(.eg r.1,r.2)
 |_,.lam x b=>fun U I=>let r:=di lf b (su U x (nw I x)) (nx I x);(.lam (nw I x) r.1,r.2)
 |_,.cD=>fun _ I=>(.cD,I)
 |_,.cC a=>fun U I=>let r:=di lf a U I;(.cC r.1,r.2)
 |_,.let1 (k:=k) x a b=>fun U I=>let r:=di lf a U (nx I x);let s:=di lf b (su U x (nw I x)) r.2;(.let1 (nw I x) r.1 s.1,s.2)
 |_,.bW (k:=k) x a y c b=>fun U I=>
  let ψ:=nx I x
  let r:=di lf a U (nx ψ y);let q:=di lf c U r.2;let s:=di lf b (su (su U x (nw I x)) y (nw ψ y)) q.2
  (.bW (nw I x) r.1 (nw ψ y) q.1 s.1,s.2)
 |_,.dQ x a b=>fun U I=>let r:=di lf a (su U x (nw I x)) (nx I x);let s:=di lf b (su U x (nw I x)) r.2;(.dQ (nw I x) r.1 s.1,s.2)
 |_,.dR x n v z b=>fun U I=>
  let φ₁:=nx I x;let φ₂:=nx φ₁ n;let φ₃:=nx φ₂ v
  let s:=di lf b (su U x (nw I x)) φ₃
  (.dR (nw I x) (nw φ₁ n) (nw φ₂ v) z s.1,s.2)
 |_,.bG s x z a o=>fun U I=>
  let q:=di lf s U (nx I x)
  let r:=di lf a (su U x (nw I x)) q.2;let p:=di lf o (su U x (nw I x)) r.2
  (.bG q.1 (nw I x) z r.1 p.1,p.2)
 |_,.cE s x o=>fun U I=>
  let q:=di lf s U (nx I x)
  let p:=di lf o (su U x (nw I x)) q.2
  (.cE q.1 (nw I x) p.1,p.2)
 |_,.bK s x y a o=>fun U I=>
  let ψ:=nx I x
  let q:=di lf s U (nx ψ y)
  let r:=di lf a (su (su U x (nw I x)) y (nw ψ y)) q.2;let p:=di lf o (su U x (nw I x)) r.2
  (.bK q.1 (nw I x) (nw ψ y) r.1 p.1,p.2)
 |_,.bD s x y a o=>fun U I=>
  let ψ:=nx I x
  let q:=di lf s U (nx ψ y)
  let r:=di lf a (su (su U x (nw I x)) y (nw ψ y)) q.2;let p:=di lf o (su U x (nw I x)) r.2
  (.bD q.1 (nw I x) (nw ψ y) r.1 p.1,p.2)
theorem rk(h:U x=some y):di lf (.var k x) U I=(.var k y,I):=by
 have e:di lf (.var k x) U I=(match U x with|some y=>(.var k y,I)|none=>lf k x I):=rfl
 rw[e,h]
theorem rl(h:U x=none):di lf (.var k x) U I=lf k x I:=by
 have e:di lf (.var k x) U I=(match U x with|some y=>(.var k y,I)|none=>lf k x I):=rfl
 rw[e,h]
noncomputable abbrev Tt:=(k:K)->Nm->T k
noncomputable def Lk(w:Wt)(U:Sg)(eG:Tt)(C':Env)(k:K)(x:Nm):Dn k:=
 match U x with
 |some y=>C' y k
 |none=>den w (eG k x) C'
structure Pv(lf:Lf)(eG:Tt):Prop where
 le:∀k x I,dj I (eG k x)->WF (eG k x)->qz I (lf k x I).2
 ok:∀k x I,dj I (eG k x)->WF (eG k x)->dj (lf k x I).2 (lf k x I).1
 den:∀k x I,dj I (eG k x)->WF (eG k x)->∀w C,den w (lf k x I).1 C=den w (eG k x) C
 fv:∀k x I,dj I (eG k x)->WF (eG k x)->∀k' y,fv (lf k x I).1 k' y->fv (eG k x) k' y
 wf:∀k x I,dj I (eG k x)->WF (eG k x)->WF (lf k x I).1
noncomputable def Hy(I:Fr)(U:Sg)(eG:Tt)(F:K->Nm->Prop):Prop:=∀k x,F k x->(∀y,U x=some y->Ok I y)/\(U x=none->dj I (eG k x)/\WF (eG k x))
noncomputable def Tg(U:Sg)(eG:Tt)(k:K)(x:Nm)(k':K)(y:Nm):Prop:=(U x=some y/\k'=k)\/(U x=none/\fv (eG k x) k' y)
structure Res(U:Sg)(eG:Tt){k:K}(t r:T k)(I ψ:Fr):Prop where
 le:qz I ψ
 ok:dj ψ r
 den:∀w C C',(∀k x,fv t k x->C x k=Lk w U eG C' k x)->den w r C'=den w t C
 fv:∀k' y,fv r k' y->∃k x,fv t k x/\Tg U eG k x k' y
 wf:WF r
section
variable{U:Sg}{eG:Tt}{I ψ:Fr}{F G:K->Nm->Prop}{x:Nm}
theorem mE:su U x y x=some y:=if_pos rfl
theorem uq(h:z≠x):su U x y z=U z:=if_neg h
theorem Hy.sub(h:Hy I U eG F)(hs:∀k x,G k x->F k x):Hy I U eG G:=fun k x g=>h k x (hs k x g)
theorem Hy.mono(h:Hy I U eG F)(hl:qz I ψ):Hy ψ U eG F:=fun k x g=>⟨fun y e=>((h k x g).1 y e).mono hl,fun e=>⟨((h k x g).2 e).1.mono hl,((h k x g).2 e).2⟩⟩
theorem Hy.bind(h:Hy I U eG fun k z=>F k z/\z≠x)(hb:x.b∈bases):Hy (nx I x) (su U x (nw I x)) eG F:=by
 intro k z hz
 by_cases e:z=x
 ·subst e;exact mE.symm▸⟨fun y e=>by cases e;exact iP hb,fun e=>nomatch e⟩
 ·refine(uq e).symm▸?_
  have:=h k z ⟨hz,e⟩
  exact⟨fun y e=>(this.1 y e).mono bF,fun e=>⟨(this.2 e).1.mono bF,(this.2 e).2⟩⟩
theorem PG(h:Hy I U eG F)(hz:F k z)(ht:Tg U eG k z k' y):Ok I y:=by
 rcases ht with⟨e,_⟩|⟨e,hf⟩
 ·exact(h k z hz).1 y e
 ·exact((h k z hz).2 e).1.fv k' y hf
theorem eC(h:∃k z,F k z/\Tg (su U x y') eG k z k' y)(hn:y≠y'):∃k z,(F k z/\z≠x)/\Tg U eG k z k' y:=by
 obtain⟨k,z,hz,ht⟩:=h
 by_cases e:z=x
 ·subst e
  rcases ht with⟨e,_⟩|⟨e,_⟩
  ·rw[mE]at e;cases e;exact(hn rfl).elim
  ·rw[mE]at e;cases e
 ·refine⟨k,z,⟨hz,e⟩,?_⟩
  unfold Tg at ht
  rw[uq e]at ht
  exact ht
theorem m9(hk:∀k,F k x->k=kk)(h:Hy I U eG fun k z=>F k z/\z≠x)(ht:∃k z,F k z/\Tg (su U x (nw I x)) eG k z k' (nw I x)):k'=kk:=by
 obtain⟨k,z,hz,ht⟩:=ht
 by_cases e:z=x
 ·subst e
  rcases ht with⟨_,e⟩|⟨e,_⟩
  ·exact e.symm▸hk k hz
  ·replace e:=mE▸e;cases e
 ·refine absurd ?_ (eP (I:=I) (x:=x))
  unfold Tg at ht
  rw[uq e]at ht
  exact PG h (k:=k) ⟨hz,e⟩ ht
theorem Hw(k':K):upd C x k d x k'=upd C' y k d y k':=by unfold upd;rw[if_pos rfl,if_pos rfl]
theorem gh(h:y≠x)(k':K):upd C x k d y k'=C y k':=by unfold upd;rw[if_neg h]
theorem ij(h:∀k z,F k z/\z≠x->C z k=Lk w U eG C' k z)(hy:Hy I U eG fun k z=>F k z/\z≠x):
 ∀k z,F k z->upd C x kk d z k=Lk w (su U x (nw I x)) eG (upd C' (nw I x) kk d) k z:=by
 intro k z hz
 by_cases e:z=x
 ·subst e
  unfold Lk
  exact mE.symm▸Hw k
 ·rw[gh e,h k z ⟨hz,e⟩]
  unfold Lk
  refine(uq e).symm▸?_
  have:=hy k z ⟨hz,e⟩
  induction hs:U z with
  |some y=>exact(gh (qr (this.1 y hs)) k).symm
  |none=>exact(iB _ fun k' y hf=>gh (qr ((this.2 hs).1.fv k' y hf)) k').symm
end
theorem zA(hl:qz (nx I x) ψ)(hb:x.b∈bases):nw ψ y≠nw I x:=fun e=>eP (e▸(iP hb).mono hl)
theorem fm{F G:K->Nm->Prop}{k':K}{y:Nm}(h:∃k x,F k x/\Tg U eG k x k' y)(hs:∀k x,F k x->G k x):∃k x,G k x/\Tg U eG k x k' y:=
 h.imp fun k=>VV fun x q=>⟨hs k x q.1,q.2⟩
noncomputable def RK(lf:Lf)(eG:Tt){k:K}(t:T k):Prop:=∀(U:Sg)(I:Fr),dj I t->WF t->Hy I U eG (fv t)->Res U eG t (di lf t U I).1 I (di lf t U I).2
section
variable{lf:Lf}{eG:Tt}
theorem Si(L:Pv lf eG):RK lf eG (.var k x):=fun U I _ _ hy=>by
 have q:=hy k x ⟨rfl,rfl⟩
 induction hs:U x with
 |some y=>
  rw[rk hs]
  exact⟨ej,q.1 y hs,fun w C C' h=>by have h:=h k x ⟨rfl,rfl⟩;unfold Lk at h;rw[hs]at h;exact h.symm,fun k' z e=>⟨k,x,⟨rfl,rfl⟩,.inl ⟨by rw[hs,e.2],e.1⟩⟩,trivial⟩
 |none=>
  refine(rl hs).symm▸?_
  have A:=(q.2 hs).1
  have W:=(q.2 hs).2
  exact⟨L.le k x I A W,L.ok k x I A W,fun w C C' h=>by have h:=h k x ⟨rfl,rfl⟩;unfold Lk at h;rw[hs]at h;exact(L.den k x I A W w C').trans h.symm,fun k' z e=>⟨k,x,⟨rfl,rfl⟩,.inr ⟨hs,L.fv k x I A W k' z e⟩⟩,L.wf k x I A W⟩
section
variable{U:Sg}{I ψ ψ':Fr}{i j:K}{a a':T i}{b b':T j}
theorem nN{Fa Fb G:K->Nm->Prop}{k':K}{y:Nm}{p q:Prop}(h:p\/q)(ha:p->∃k x,Fa k x/\Tg U eG k x k' y)(hb:q->∃k x,Fb k x/\Tg U eG k x k' y)(sa:∀k x,Fa k x->G k x)(sb:∀k x,Fb k x->G k x):∃k x,G k x/\Tg U eG k x k' y:=
 h.elim (fun e=>fm (ha e) sa) fun e=>fm (hb e) sb
end
theorem Sl{a b:T .i}(ha:RK lf eG a)(hb:RK lf eG b):RK lf eG (.add a b):=fun U I A W hy=>
 have ra:=ha U I A.1 W.1 (hy.sub fun _ _=>.inl)
 have rb:=hb U _ (A.2.mono ra.le) W.2 ((hy.sub fun _ _=>.inr).mono ra.le)
 ⟨ra.le.trans rb.le,⟨ra.ok.mono rb.le,rb.ok⟩,fun w C C' h=>D6 (f:=oR) (ra.den w C C' fun k x e=>h k x (.inl e)) (rb.den w C C' fun k x e=>h k x (.inr e)),fun k' y e=>nN e (ra.fv k' y) (rb.fv k' y) (fun _ _=>.inl) (fun _ _=>.inr),⟨ra.wf,rb.wf⟩⟩
theorem Sk{a:T .f}{b:T .i}(ha:RK lf eG a)(hb:RK lf eG b):RK lf eG (.app a b):=fun U I A W hy=>
 have ra:=ha U I A.1 W.1 (hy.sub fun _ _=>.inl)
 have rb:=hb U _ (A.2.mono ra.le) W.2 ((hy.sub fun _ _=>.inr).mono ra.le)
 ⟨ra.le.trans rb.le,⟨ra.ok.mono rb.le,rb.ok⟩,fun w C C' h=>D6 (f:=jC w) (ra.den w C C' fun k x e=>h k x (.inl e)) (rb.den w C C' fun k x e=>h k x (.inr e)),fun k' y e=>nN e (ra.fv k' y) (rb.fv k' y) (fun _ _=>.inl) (fun _ _=>.inr),⟨ra.wf,rb.wf⟩⟩
theorem Nh{a b:T .i}(ha:RK lf eG a)(hb:RK lf eG b):RK lf eG (.gap2 a b):=fun U I A W hy=>
 have ra:=ha U I A.1 W.1 (hy.sub fun _ _=>.inl)
 have rb:=hb U _ (A.2.mono ra.le) W.2 ((hy.sub fun _ _=>.inr).mono ra.le)
 ⟨ra.le.trans rb.le,⟨ra.ok.mono rb.le,rb.ok⟩,fun w C C' h=>D6 (f:=qx w) (ra.den w C C' fun k x e=>h k x (.inl e)) (rb.den w C C' fun k x e=>h k x (.inr e)),fun k' y e=>nN e (ra.fv k' y) (rb.fv k' y) (fun _ _=>.inl) (fun _ _=>.inr),⟨ra.wf,rb.wf⟩⟩
theorem Sj(hb:RK lf eG b):RK lf eG (.lam x b):=fun U I A W hy=>
 have rb:=hb (su U x (nw I x)) (nx I x) (A.2.mono bF) W.1 (hy.bind A.1.2)
 ⟨bF.trans rb.le,⟨(iP A.1.2).mono rb.le,rb.ok⟩,fun w C C' h=>congrArg (fun I=>(⟨w.lc,w.ld,some I⟩:Df)) (funext fun a=>rb.den w _ _ (ij h hy)),fun k' y e=>eC (rb.fv k' y e.1) e.2,⟨rb.wf,fun k' e=>m9 W.2 hy (rb.fv k' _ e)⟩⟩
theorem Ng{k j:K}{x:Nm}{a:T k}{b:T j}(ha:RK lf eG a)(hb:RK lf eG b):RK lf eG (.let1 x a b):=fun U I A W hy=>
 have hx:=A.1.2
 have ra:=ha U (nx I x) (A.2.1.mono bF) W.1 ((hy.sub fun _ _=>.inl).mono bF)
 have z7:Hy I U eG fun k z=>fv b k z/\z≠x:=hy.sub fun _ _=>.inr
 have rb:=hb (su U x (nw I x)) _ (A.2.2.mono (bF.trans ra.le)) W.2.1 ((z7.bind hx).mono ra.le)
 ⟨bF.trans (ra.le.trans rb.le),⟨(iP hx).mono (ra.le.trans rb.le),ra.ok.mono rb.le,rb.ok⟩,fun w C C' h=>congrArg (kL 1 1) (by rw[ra.den w C C' fun k x e=>h k x (.inl e)];exact rb.den w _ _ (ij (fun k z e=>h k z (.inr e)) z7)),
   fun k' y e=>nN e (ra.fv k' y) (fun e=>eC (rb.fv k' y e.1) e.2) (fun _ _=>.inl) (fun _ _=>.inr),⟨ra.wf,rb.wf,fun k' e=>m9 W.2.2 z7 (rb.fv k' _ e)⟩⟩
theorem Nf{x y:Nm}{a:T k}{c:T .i}{b:T j}(ha:RK lf eG a)(hc:RK lf eG c)(hb:RK lf eG b):RK lf eG (.bW x a y c b):=fun U I A W hy=>
 have hx:=A.1.2
 have hv:=A.2.1.2
 have l1:qz I (nx (nx I x) y):=bF.trans bF
 have ra:=ha U (nx (nx I x) y) (A.2.2.1.mono l1) W.2.1 ((hy.sub fun _ _=>.inl).mono l1)
 have rc:=hc U _ (A.2.2.2.1.mono (l1.trans ra.le)) W.2.2.1 ((hy.sub fun _ _ e=>.inr (.inl e)).mono (l1.trans ra.le))
 have TY:Hy I U eG fun k z=>(fv b k z/\z≠y)/\z≠x:=hy.sub fun _ _ e=>.inr (.inr e)
 have z7:=TY.bind hx
 have rb:=hb (su (su U x (nw I x)) y (nw (nx I x) y)) _ (A.2.2.2.2.mono (l1.trans (ra.le.trans rc.le))) W.2.2.2.1 ((z7.bind hv).mono (ra.le.trans rc.le))
 have l5:=ra.le.trans (rc.le.trans rb.le)
 ⟨l1.trans l5,⟨(iP hx).mono (bF.trans l5),(iP hv).mono l5,ra.ok.mono (rc.le.trans rb.le),rc.ok.mono rb.le,rb.ok⟩,
   fun w C C' h=>congrArg (kL 1 1) (by rw[ra.den w C C' fun k x e=>h k x (.inl e),rc.den w C C' fun k x e=>h k x (.inr (.inl e))];exact rb.den w _ _ (ij (ij (F:=fun k z=>fv b k z/\z≠y) (fun k z e=>h k z (.inr (.inr e))) TY) z7)),
   fun k' z e=>e.elim (fun e=>fm (ra.fv k' z e) fun _ _=>.inl) fun e=>nN e (rc.fv k' z) (fun e=>eC (F:=fun k z=>fv b k z/\z≠y) (eC (rb.fv k' z e.1.1) e.1.2) e.2) (fun _ _ e=>.inr (.inl e)) (fun _ _ e=>.inr (.inr e)),
   ⟨(bY (zA ej hx):nw I x≠nw (nx I x) y),ra.wf,rc.wf,rb.wf,fun k' e=>m9 (F:=fun k z=>fv b k z/\z≠y) (fun k e=>W.2.2.2.2.1 k e.1) TY (eC (rb.fv k' _ e) (bY (zA ej hx):nw I x≠nw (nx I x) y)),fun k' e=>m9 W.2.2.2.2.2 z7 (rb.fv k' _ e)⟩⟩
theorem PH{F:K->Nm->Prop}{x y':Nm}{k':K}{y:Nm}(eM:∀k z,F k z->z≠x)(h:∃k z,F k z/\Tg (su U x y') eG k z k' y):∃k z,F k z/\Tg U eG k z k' y:=
 h.imp fun k=>VV fun z q=>⟨q.1,by have t:=q.2;unfold Tg at t;rw[uq (eM k z q.1)]at t;exact t⟩
theorem X9(h:z≠x):Lk w (su U x y') eG C k z=Lk w U eG C k z:=by
 unfold Lk
 rw[uq h]
theorem Nb{j:K}{x:Nm}{a:T .f}{b:T j}(ha:RK lf eG a)(hb:RK lf eG b):RK lf eG (.dQ x a b):=fun U I A W hy=>
 have hx:=A.1.2
 have ra:=ha (su U x (nw I x)) (nx I x) (A.2.1.mono bF) W.1 (((hy.sub fun _ _=>.inl:Hy I U eG (fv a)).sub fun _ _ e=>e.1).bind hx)
 have z7:Hy I U eG fun k z=>fv b k z/\z≠x:=hy.sub fun _ _=>.inr
 have rb:=hb (su U x (nw I x)) _ (A.2.2.mono (bF.trans ra.le)) W.2.2.1 ((z7.bind hx).mono ra.le)
 have eM:∀k z,fv a k z->z≠x:=fun k z e h=>W.2.1 k (h▸e)
 ⟨bF.trans (ra.le.trans rb.le),⟨(iP hx).mono (ra.le.trans rb.le),ra.ok.mono rb.le,rb.ok⟩,fun w C C' h=>congrArg (kL 1 1) (by rw[ra.den w C C' fun k z e=>(h k z (.inl e)).trans (X9 (eM k z e)).symm];exact rb.den w _ _ (ij (fun k z e=>h k z (.inr e)) z7)),
   fun k' y e=>nN e (fun e=>PH eM (ra.fv k' y e)) (fun e=>eC (rb.fv k' y e.1) e.2) (fun _ _=>.inl) (fun _ _=>.inr),
   ⟨ra.wf,fun k' e=>(PH eM (ra.fv k' _ e)).elim fun k h=>h.elim fun z q=>eP (PG (hy.sub fun _ _=>.inl:Hy I U eG (fv a)) q.1 q.2),rb.wf,fun k' e=>m9 W.2.2.2 z7 (rb.fv k' _ e)⟩⟩
theorem Nc(hb:RK lf eG b):RK lf eG (.dR x n v z b):=fun U I A W hy=>
 have hx:=A.1.2
 have l1:qz (nx I x) (nx (nx (nx I x) n) v):=bF.trans bF
 have rb:=hb (su U x (nw I x)) _ (A.2.2.2.mono (bF.trans l1)) W.2.1 ((hy.bind hx).mono l1)
 ⟨bF.trans (l1.trans rb.le),⟨(iP hx).mono (l1.trans rb.le),(iP A.2.1.2).mono (bF.trans rb.le),(iP A.2.2.1.2).mono rb.le,rb.ok⟩,fun w C C' h=>congrArg (kL 1 1) (rb.den w _ _ (ij h hy)),fun k' y e=>eC (rb.fv k' y e.1) e.2,
   ⟨⟨zA ej hx,zA bF hx,zA ej A.2.1.2⟩,rb.wf,fun k' e=>m9 W.2.2 hy (rb.fv k' _ e)⟩⟩
theorem H9{s:T .i}{x:Nm}{z:Int}{a o:T j}(hs:RK lf eG s)(ha:RK lf eG a)(ho:RK lf eG o):RK lf eG (.bG s x z a o):=fun U I A W hy=>
 have hx:=A.2.1.2
 have rs:=hs U (nx I x) (A.1.mono bF) W.1 ((hy.sub fun _ _=>.inl).mono bF)
 have TZ:Hy I U eG fun k z=>fv a k z/\z≠x:=hy.sub fun _ _ e=>.inr ⟨.inl e.1,e.2⟩
 have JH:Hy I U eG fun k z=>fv o k z/\z≠x:=hy.sub fun _ _ e=>.inr ⟨.inr e.1,e.2⟩
 have ra:=ha (su U x (nw I x)) _ (A.2.2.1.mono (bF.trans rs.le)) W.2.1.1 ((TZ.bind hx).mono rs.le)
 have l2:=rs.le.trans ra.le
 have ro:=ho (su U x (nw I x)) _ (A.2.2.2.mono (bF.trans l2)) W.2.2.1 ((JH.bind hx).mono l2)
 have l3:=ra.le.trans ro.le
 have l4:=rs.le.trans l3
 ⟨bF.trans l4,⟨rs.ok.mono l3,(iP hx).mono l4,ra.ok.mono ro.le,ro.ok⟩,
   fun w C C' h=>D6 (f:=fun(S:R Int)(g:Int->Dn _)=>kY S g) (rs.den w C C' fun k x e=>h k x (.inl e)) (funext fun m=>by
    exact(rs.den w C C' fun k x e=>h k x (.inl e)).symm▸D6 (f:=fun A B=>if m=z then A else B) (ra.den w _ _ (ij (kk:=.i) (fun k z e=>h k z (.inr ⟨.inl e.1,e.2⟩)) TZ)) (ro.den w _ _ (ij (kk:=.i) (fun k z e=>h k z (.inr ⟨.inr e.1,e.2⟩)) JH))),
   fun k' y e=>nN e (rs.fv k' y) (fun e=>nN (G:=fun k z=>(fv a k z\/fv o k z)/\z≠x) e.1 (fun q=>eC (ra.fv k' y q) e.2) (fun q=>eC (ro.fv k' y q) e.2) (fun _ _ e=>⟨.inl e.1,e.2⟩) (fun _ _ e=>⟨.inr e.1,e.2⟩)) (fun _ _=>.inl) (fun _ _=>.inr),
   ⟨rs.wf,⟨ra.wf,fun k' e=>m9 W.2.1.2 TZ (ra.fv k' _ e)⟩,ro.wf,fun k' e=>m9 W.2.2.2 JH (ro.fv k' _ e)⟩⟩
theorem Ia{j:K}{s:T .f}{x:Nm}{o:T j}(hs:RK lf eG s)(ho:RK lf eG o):RK lf eG (.cE s x o):=fun U I A W hy=>
 have hx:=A.2.1.2
 have rs:=hs U (nx I x) (A.1.mono bF) W.1 ((hy.sub fun _ _=>.inl).mono bF)
 have JH:Hy I U eG fun k z=>fv o k z/\z≠x:=hy.sub fun _ _=>.inr
 have ro:=ho (su U x (nw I x)) _ (A.2.2.mono (bF.trans rs.le)) W.2.1 ((JH.bind hx).mono rs.le)
 ⟨bF.trans (rs.le.trans ro.le),⟨rs.ok.mono ro.le,(iP hx).mono (rs.le.trans ro.le),ro.ok⟩,
   fun w C C' h=>D6 (f:=fun(S:R (Di->Di))(g:(Di->Di)->Dn _)=>kY S g) (rs.den w C C' fun k x e=>h k x (.inl e)) (funext fun m=>by
    rw[rs.den w C C' fun k x e=>h k x (.inl e)]
    exact ro.den w _ _ (ij (kk:=.f) (fun k z e=>h k z (.inr e)) JH)),
   fun k' y e=>nN e (rs.fv k' y) (fun e=>eC (ro.fv k' y e.1) e.2) (fun _ _=>.inl) (fun _ _=>.inr),⟨rs.wf,ro.wf,fun k' e=>m9 W.2.2 JH (ro.fv k' _ e)⟩⟩
theorem zm{j:K}{s:T .c}{x y:Nm}{a o:T j}(hs:RK lf eG s)(ha:RK lf eG a)(ho:RK lf eG o):RK lf eG (.bD s x y a o):=fun U I A W hy=>
 have hx:=A.2.1.2
 have l1:qz I (nx (nx I x) y):=bF.trans bF
 have rs:=hs U (nx (nx I x) y) (A.1.mono l1) W.1 ((hy.sub fun _ _=>.inl).mono l1)
 have TY:Hy I U eG fun k z=>(fv a k z/\z≠y)/\z≠x:=hy.sub fun _ _ e=>.inr ⟨.inl e.1,e.2⟩
 have TZ:=TY.bind hx
 have JH:Hy I U eG fun k z=>fv o k z/\z≠x:=hy.sub fun _ _ e=>.inr ⟨.inr e.1,e.2⟩
 have ra:=ha (su (su U x (nw I x)) y (nw (nx I x) y)) _ (A.2.2.2.1.mono (l1.trans rs.le)) W.2.1.1 ((TZ.bind A.2.2.1.2).mono rs.le)
 have ro:=ho (su U x (nw I x)) _ (A.2.2.2.2.mono (l1.trans (rs.le.trans ra.le))) W.2.2.1 ((JH.bind hx).mono (bF.trans (rs.le.trans ra.le)))
 have l4:=rs.le.trans (ra.le.trans ro.le)
 ⟨l1.trans l4,⟨rs.ok.mono (ra.le.trans ro.le),(iP hx).mono (bF.trans l4),(iP A.2.2.1.2).mono l4,ra.ok.mono ro.le,ro.ok⟩,
   fun w C C' h=>D6 (f:=fun(S:R (Option Di))(g:Option Di->Dn _)=>kY S g) (rs.den w C C' fun k x e=>h k x (.inl e)) (funext fun m=>by
    rw[rs.den w C C' fun k x e=>h k x (.inl e)]
    induction m with
    |none=>exact ro.den w _ _ (ij (kk:=.c) (fun k z e=>h k z (.inr ⟨.inr e.1,e.2⟩)) JH)
    |some t=>exact ra.den w _ _ (ij (kk:=.i) (ij (kk:=.c) (F:=fun k z=>fv a k z/\z≠y) (fun k z e=>h k z (.inr ⟨.inl e.1,e.2⟩)) TY) TZ)),
   fun k' u e=>nN e (rs.fv k' u) (fun e=>nN (G:=fun k z=>((fv a k z/\z≠y)\/fv o k z)/\z≠x) e.1 (fun q=>eC (F:=fun k z=>fv a k z/\z≠y) (eC (ra.fv k' u q.1) q.2) e.2) (fun q=>eC (ro.fv k' u q) e.2) (fun _ _ e=>⟨.inl e.1,e.2⟩) (fun _ _ e=>⟨.inr e.1,e.2⟩)) (fun _ _=>.inl) (fun _ _=>.inr),
   ⟨rs.wf,⟨ra.wf,fun eM k' e=>m9 (F:=fun k z=>fv a k z/\z≠y) (fun k e=>W.2.1.2.1 (bY e.2) k e.1) TY (eC (ra.fv k' _ e) (bY eM)),fun k' e=>m9 W.2.1.2.2 TZ (ra.fv k' _ e)⟩,ro.wf,fun k' e=>m9 W.2.2.2 JH (ro.fv k' _ e)⟩⟩
theorem Ib(hs:RK lf eG s)(ha:RK lf eG a)(ho:RK lf eG o):RK lf eG (.bK s x y a o):=fun U I A W hy=>
 have h:=zm (x:=x) (y:=y) hs ha ho U I A W hy
 ⟨h.le,h.ok,h.den,h.fv,h.wf⟩
end
theorem BM(L:Pv lf eG):∀{k:K}(t:T k),RK lf eG t:=by
 intro k t
 induction t with
 |var k x=>exact Si L
 |err k=>exact fun U I _ _ _=>⟨ej,trivial,fun w C C' _=>by induction k<;>rfl,fun _ _ e=>e.elim,trivial⟩
 |lit z|cD=>exact fun U I _ _ _=>⟨ej,trivial,fun w C C' _=>rfl,fun _ _ e=>e.elim,trivial⟩
 |add a b p q=>exact Sl p q
 |app a b p q=>exact Sk p q
 |gap2 a b p q=>exact Nh p q
 |eg a p=>exact fun U I A W hy=>have r:=p U I A W hy;⟨r.le,r.ok,fun w C C' h=>congrArg (fun a:Di=>(⟨3,4,some fun b=>jO a b⟩:Df)) (r.den w C C' h),r.fv,r.wf⟩
 |cC a p=>exact fun U I A W hy=>have r:=p U I A W hy;⟨r.le,r.ok,fun w C C' h=>congrArg (fun a:Di=>(⟨1,1,some (some a)⟩:Dc)) (r.den w C C' h),r.fv,r.wf⟩
 |lam x b p=>exact Sj p
 |let1 x a b p q=>exact Ng p q
 |dQ x a b p q=>exact Nb p q
 |bW x a y c b p q r=>exact Nf p q r
 |dR x n v z b p=>exact Nc p
 |bG s x z a o p q r=>exact H9 p q r
 |cE s x o p q=>exact Ia p q
 |bD s x y a o p q r=>exact zm p q r
 |bK s x y a o p q r=>exact Ib p q r
noncomputable def σ0:Sg:=fun _=>none
noncomputable def qt:Lf:=fun k x I=>(.var k x,I)
noncomputable def WS:Tt:=fun k x=>.var k x
theorem Tj:Pv qt WS:=⟨fun _ _ _ _ _=>ej,fun _ _ _ A _=>A,fun _ _ _ _ _ _ _=>rfl,fun _ _ _ _ _ _ _ e=>e,fun _ _ _ _ _=>trivial⟩
noncomputable def nq{k:K}(t:T k)(I:Fr):T k×Fr:=di qt t σ0 I
theorem hy0(A:dj I t):Hy I σ0 WS (fv t):=fun k x e=>⟨fun _ h=>(nomatch h),fun _=>⟨A.fv k x e,trivial⟩⟩
theorem jG(A:dj I t)(W:WF t):qz I (nq t I).2/\dj (nq t I).2 (nq t I).1/\(∀w C,den w (nq t I).1 C=den w t C)/\(∀k' y,fv (nq t I).1 k' y->fv t k' y)/\WF (nq t I).1:=by
 have r:=BM Tj t σ0 I A W (hy0 A)
 refine⟨r.le,r.ok,fun w C=>r.den w C C fun _ _ _=>rfl,fun k' y e=>?_,r.wf⟩
 obtain⟨k,x,h,t⟩:=r.fv k' y e
 rcases t with⟨e,_⟩|⟨_,e⟩
 ·cases e
 ·obtain⟨rfl,rfl⟩:=e;exact h
noncomputable abbrev wj:=Nm->Option ((k:K)×T k)
noncomputable def gQ(ins:wj):Tt:=fun k x=>match ins x with
 |none=>.var k x
 |some ⟨k',s⟩=>if h:k'=k then h▸s else .var k x
noncomputable def I8(ins:wj):Lf:=fun k x I=>nq (gQ ins k x) I
theorem I7(ins:wj):Pv (I8 ins) (gQ ins):=
 ⟨fun _ _ _ A W=>(jG A W).1,fun _ _ _ A W=>(jG A W).2.1,fun _ _ _ A W=>(jG A W).2.2.1,fun _ _ _ A W=>(jG A W).2.2.2.1,fun _ _ _ A W=>(jG A W).2.2.2.2⟩
noncomputable def dT(ins:wj){k:K}(t:T k)(I:Fr):T k×Fr:=di (I8 ins) t σ0 I
theorem uM{V:α->α->Prop}(hV:∀a b c,V a b->V b c->V a c):∀{a b c:Option α},vr V a b->vr V b c->vr V a c
 |none,none,none,_,_=>trivial
 |some _,some _,some _,h,h'=>hV _ _ _ h h'
theorem pB{V:α->α->Prop}(hV:∀a b c,V a b->V b c->V a c){x y z:R α}(h:mr 1 1 V x y)(h':mr 1 1 V y z):mr 1 1 V x z:=by
 obtain⟨h1,h2,h3⟩:=h
 obtain⟨g1,g2,g3⟩:=h'
 exact⟨by lia,by lia,uM hV h3 g3⟩
theorem pC(h:fi 1 1 x y)(h':fi 1 1 y z):fi 1 1 x z:=pB (fun _ _ _ e e'=>e.trans e') h h'
theorem iN:fi 1 1 x x:=⟨by lia,by lia,uN _⟩
theorem rel_trans:∀{k:K}{x y z:Dn k},Rel 1 1 k x y->Rel 1 1 k y z->Rel 1 1 k x z
 |.i,_,_,_,h,h'=>pC h h'
 |.f,_,_,_,h,h'=>pB (fun _ _ _ e e' a b hab=>pC (e a b hab) (e' b b iN)) h h'
 |.c,_,_,_,h,h'=>pB (V:=vr (fi 1 1)) (fun _ _ _ e e'=>uM (V:=fi 1 1) (fun _ _ _ e e'=>pC e e') e e') h h'
noncomputable def wt(ad:Nat):Wt:=⟨ad,3,4⟩
noncomputable def va(ad:Nat){k:K}(t:T k)(C:Env):Dn k:=
 T.casesOn (motive:=fun k _=>Dn k->Dn k) t (fun _ _ d=>d) (fun _ d=>d) (fun _ d=>d) (fun _ _ d=>d) (fun f a _=>jC (wt (ad+1)) (den (wt ad) f C) (den (wt ad) a C)) (fun _ _ d=>d) (fun _ d=>d) (fun _ _ d=>d) (fun d=>d) (fun _ d=>d) (fun _ _ _ d=>d) (fun _ _ _ _ _ d=>d) (fun _ _ _ d=>d) (fun _ _ _ _ _ d=>d) (fun _ _ _ _ _ d=>d) (fun _ _ _ d=>d) (fun _ _ _ _ _ d=>d) (fun _ _ _ _ _ d=>d) (den (wt ad) t C)
theorem yx(t:T k)(h:iG 1 1 C C'):Rel 1 1 k (den (wt ad) t C) (den (wt (ad+1)) t C'):=tR (ab 1) (ab 1) (by show ad<=1*(ad+1);lia) (ab 3) (ab 4) t h
theorem cB(t:T k)(h:iG 1 1 C C'):Rel 1 1 k (den (wt ad) t C) (den (wt ad) t C'):=tR (ab 1) (ab 1) (by show ad<=1*ad;lia) (ab 3) (ab 4) t h
theorem EU(hf:Pr 1 1 f f):fi 1 1 (jC (wt ad) f a) (jC (wt (ad+1)) f a):=
 xJ (ab 1) (ab 1) (by show ad<=1*(ad+1);lia) hf iN
theorem CE(t:T k)(h:iG 1 1 C C):Rel 1 1 k (den (wt ad) t C) (va ad t C):=by
 cases t
 case app f a=>exact EU (cB f h)
 all_goals exact cB _ h
structure Good{k:K}(t:T k)(I:Fr)(t':T k)(ψ:Fr):Prop where
 le:qz I ψ
 ok:dj ψ t'
 wf:WF t'
 fv:∀k y,fv t' k y->fv t k y
 den:∀ad C,2<=ad->iG 1 1 C C->Rel 1 1 k (den (wt ad) t' C) (va ad t C)
theorem Good.same(A:dj I t)(W:WF t):Good t I t I:=⟨ej,A,W,fun _ _ e=>e,fun _ _ _ h=>CE t h⟩
theorem lA(h:mr 1 1 V x y):mr 1 1 V x y.tick:=⟨by have:=h.1;show x.c<=1*(y.c+1);lia,by have:=h.2.1;show x.d<=1*(y.d+2);lia,h.2.2⟩
theorem kN:∀{k:K}{x y:Dn k},Rel 1 1 k x y->Rel 1 1 k x (tick y)
 |.i,_,_,h=>lA h
 |.f,_,_,h=>lA h
 |.c,_,_,h=>lA h
theorem rq(h:vr V x.v x.v):mr 1 1 V x (ql 1 1 x):=⟨by show x.c<=1*(1+x.c);lia,by show x.d<=1*(1+x.d);lia,h⟩
theorem zq:∀{k:K}{x:Dn k},Rel 1 1 k x x->Rel 1 1 k x (kL 1 1 x)
 |.i,_,h=>rq h.2.2
 |.f,_,h=>rq h.2.2
 |.c,_,h=>rq h.2.2
theorem iM:upd C x k d x k=d:=by unfold upd;rw[if_pos rfl,dif_pos rfl]
theorem FY(A:dj I (.app (.lam x b) a))(W:WF (.app (.lam x b) a)):
 Good (.app (.lam x b) a) I (.let1 (nw I x) a (di qt b (su σ0 x (nw I x)) (nx I x)).1) (di qt b (su σ0 x (nw I x)) (nx I x)).2:=by
 obtain⟨l,⟨o1,o2⟩,d,f,w1,w2⟩:=jG A.1 W.1
 refine⟨l,⟨o1,A.2.mono l,o2⟩,⟨W.2,w1,w2⟩,fun k y e=>?_,fun ad C gV hη=>?_⟩
 ·rcases e with e|e
  ·exact .inr e
  ·exact .inl (f k y e)
 ·have hd:(⟨(wt ad).lc,(wt ad).ld,some fun a=>den (wt ad) (di qt b (su σ0 x (nw I x)) (nx I x)).1 (upd C (nw I x) .i (R.tick (α:=Int) a))⟩:Df)=⟨(wt ad).lc,(wt ad).ld,some fun a=>den (wt ad) b (upd C x .i (R.tick (α:=Int) a))⟩:=d (wt ad) C
  have e:∀a,den (wt ad) (di qt b (su σ0 x (nw I x)) (nx I x)).1 (upd C (nw I x) .i (R.tick (α:=Int) a))=den (wt ad) b (upd C x .i (R.tick (α:=Int) a)):=fun a=>
   congrFun (ar (congrArg R.v hd)) a
  have hs:iG 1 1 (upd C x .i (R.tick (α:=Int) (den (wt ad) a C))) (upd C x .i (R.tick (α:=Int) (den (wt ad) a C))):=bH hη (dG (ab 1) (ab 1) iN)
  have hb:=cB (ad:=ad) b hs
  show fi 1 1 (ql 1 1 (den (wt ad) (di qt b (su σ0 x (nw I x)) (nx I x)).1 (upd C (nw I x) .i (R.tick (α:=Int) (den (wt ad) a C))))) _
  rw[e]
  change fi 1 1 _ (⟨1+3+(den (wt ad) b (upd C x .i (R.tick (α:=Int) (den (wt ad) a C)))).c,max (1+4) (ad+1+(den (wt ad) b (upd C x .i (R.tick (α:=Int) (den (wt ad) a C)))).d),(den (wt ad) b (upd C x .i (R.tick (α:=Int) (den (wt ad) a C)))).v⟩:Di)
  generalize den (wt ad) b (upd C x .i (R.tick (α:=Int) (den (wt ad) a C)))=D at hb⊢
  refine⟨?_,?_,hb.2.2⟩
  ·show 1+D.c<=1*(1+3+D.c)
   lia
  ·show 1+D.d<=1*max (1+4) (ad+1+D.d)
   lia
theorem FO{a:T k}(A:dj I (.let1 x a b))(W:WF (.let1 x a b))(hi:∀z,ins z=if z=x then some ⟨k,a⟩else none):
 Good (.let1 x a b) I (dT ins b I).1 (dT ins b I).2:=by
 have tx:gQ ins k x=a:=by unfold gQ;exact(hi x).symm▸(if_pos rfl).symm▸dif_pos rfl
 have tn:∀k z,z≠x->gQ ins k z=.var k z:=fun k z h=>by unfold gQ;rw[hi z,if_neg h]
 have hk:∀k' z,fv b k' z->z=x->k'=k:=fun k' z e h=>W.2.2 k' (h▸e)
 have r:=BM (I7 ins) b σ0 I A.2.2 W.2.1 (fun k' z e=>⟨fun _ h=>(nomatch h),fun _=>by
  by_cases h:z=x
  ·have:=hk k' z e h
   subst this;subst h;exact tx.symm▸⟨A.2.1,W.1⟩
  ·exact(tn k' z h).symm▸⟨A.2.2.fv k' z e,trivial⟩⟩)
 refine⟨r.le,r.ok,r.wf,fun k' y e=>?_,fun ad C gV hη=>?_⟩
 ·obtain⟨k₀,z,e,t⟩:=r.fv k' y e
  rcases t with⟨t,_⟩|⟨_,t⟩
  ·cases t
  ·by_cases h:z=x
   ·have:=hk k₀ z e h
    subst this;subst h;rw[tx]at t;exact .inl t
   ·rw[tn k₀ z h]at t;obtain⟨rfl,rfl⟩:=t;exact .inr ⟨e,h⟩
 ·have e:den (wt ad) (dT ins b I).1 C=den (wt ad) b (upd C x k (den (wt ad) a C)):=r.den (wt ad) (upd C x k (den (wt ad) a C)) C fun k' z e=>by
   show upd C x k (den (wt ad) a C) z k'=den (wt ad) (gQ ins k' z) C
   by_cases h:z=x
   ·have:=hk k' z e h
    subst this;subst h;exact tx.symm▸iM
   ·exact(tn k' z h).symm▸gh h k'
  rw[e]
  exact rel_trans (cB b (bH hη (kN (cB a hη)))) (zq (cB b (bH hη (eS (ab 1) (ab 1) (cB (ad:=ad) a hη)))))
theorem uo(A:dj I b)(W:WF b)(H:∀k z,fv b k z->dj I (gQ ins k z)/\WF (gQ ins k z)):
 qz I (dT ins b I).2/\dj (dT ins b I).2 (dT ins b I).1/\WF (dT ins b I).1/\
 (∀w C C',(∀k z,fv b k z->C z k=den w (gQ ins k z) C')->den w (dT ins b I).1 C'=den w b C)/\
 (∀k' y,fv (dT ins b I).1 k' y->∃k z,fv b k z/\fv (gQ ins k z) k' y):=by
 have r:=BM (I7 ins) b σ0 I A W (fun k' z e=>⟨fun _ h=>(nomatch h),fun _=>H k' z e⟩)
 refine⟨r.le,r.ok,r.wf,fun w C C' h=>r.den w C C' h,fun k' y e=>?_⟩
 obtain⟨k₀,z,e,t⟩:=r.fv k' y e
 rcases t with⟨t,_⟩|⟨_,t⟩
 ·cases t
 ·exact⟨k₀,z,e,t⟩
section
variable{k j:K}{x y:Nm}{a:T k}{c:T .i}{b:T j}{I:Fr}
theorem DD(W:WF (.bW x a y c b)):(∀k' z,fv b k' z->z=x->k'=k)/\(∀k' z,fv b k' z->z=y->k'=.i):=
 ⟨fun k' _ e h=>W.2.2.2.2.1 k' (h▸e),fun k' _ e h=>W.2.2.2.2.2 k' (h▸e)⟩
theorem el2{F P:K->Nm->Prop}(uW:x≠y)(Y3:∀k',F k' x->k'=k)(Y2:∀k',F k' y->k'=.i)(px:P k x)(py:P .i y)(pn:∀k' z,F k' z->z≠x->z≠y->P k' z)(k':K)(z:Nm)(e:F k' z):P k' z:=by
 by_cases h:z=x
 ·subst h;obtain rfl:=Y3 k' e;exact px
 ·by_cases h':z=y
  ·subst h';obtain rfl:=Y2 k' e;exact py
  ·exact pn k' z e h h'
theorem Mu(h:ins x=some ⟨k,t⟩):gQ ins k x=t:=by unfold gQ;exact h.symm▸dif_pos rfl
theorem WT(h:ins x=none):gQ ins k x=.var k x:=by unfold gQ;rw[h]
structure Two(ins:wj)(x y:Nm){k:K}(tx:T k)(ty:T .i):Prop where
 hx:gQ ins k x=tx
 hy:gQ ins .i y=ty
 n:∀k z,z≠x->z≠y->gQ ins k z=.var k z
theorem HC(uW:x≠y)(hi:∀z,ins z=if z=x then some ⟨k,tx⟩else if z=y then some ⟨.i,ty⟩else none):Two ins x y tx ty:=
 ⟨Mu (by rw[hi x,if_pos rfl]),Mu (by rw[hi y,if_neg (bY uW),if_pos rfl]),fun k z h h'=>WT (by rw[hi z,if_neg h,if_neg h'])⟩
theorem Ms(uW:x≠y)(hi:∀z,ins z=if z=y then some ⟨.i,ty⟩else if z=x then some ⟨k,tx⟩else none):Two ins x y tx ty:=
 ⟨Mu (by rw[hi x,if_neg uW,if_pos rfl]),Mu (by rw[hi y,if_pos rfl]),fun k z h h'=>WT (by rw[hi z,if_neg h',if_neg h])⟩
theorem Rj{tx:T k}(H:Two ins x y tx ty)(A:dj I (.bW x a y c b))(W:WF (.bW x a y c b))(l:qz I ψ)(px:dj ψ tx/\WF tx)(py:dj ψ ty/\WF ty):
 ∀k' z,fv b k' z->dj ψ (gQ ins k' z)/\WF (gQ ins k' z):=
 el2 (P:=fun k' z=>dj ψ (gQ ins k' z)/\WF (gQ ins k' z)) W.1 W.2.2.2.2.1 W.2.2.2.2.2 (by exact H.hx.symm▸px) (by rw[H.hy];exact py) fun k' z e h h'=>by rw[H.n k' z h h'];exact⟨(A.2.2.2.2.fv k' z e).mono l,trivial⟩
theorem Zs{tx:T k}(H:Two ins x y tx ty)(W:WF (.bW x a y c b)){P:Prop}(h:∃k z,fv b k z/\fv (gQ ins k z) k' u)(px:fv tx k' u->P)(py:fv ty k' u->P)(pn:fv b k' u->u≠x->u≠y->P):P:=by
 obtain⟨k₀,z,e,t⟩:=h
 exact el2 (P:=fun k₀ z=>fv (gQ ins k₀ z) k' u->P) W.1 W.2.2.2.2.1 W.2.2.2.2.2 (by exact H.hx.symm▸px) (by exact H.hy.symm▸py) (fun k₀ z e h h' t=>by rw[H.n k₀ z h h']at t;obtain⟨rfl,rfl⟩:=t;exact pn e h h') k₀ z e t
theorem UM(H:Two ins x y tx ty)(W:WF (.bW x a y c b))(px:dx=den w tx C')(py:dy=den w ty C')(pn:∀k' z,fv b k' z->C z k'=C' z k'):
 ∀k' z,fv b k' z->upd (upd C x k dx) y .i dy z k'=den w (gQ ins k' z) C':=
 el2 (P:=fun k' z=>upd (upd C x k dx) y .i dy z k'=den w (gQ ins k' z) C') W.1 W.2.2.2.2.1 W.2.2.2.2.2 (by rw[H.hx,gh W.1];exact iM.trans px) (by rw[H.hy];exact iM.trans py) fun k' z e h h'=>by rw[H.n k' z h h',gh h',gh h];exact pn k' z e
theorem FN(A:dj I (.bW x a y c b))(W:WF (.bW x a y c b)){ins:wj}(hi:∀z,ins z=if z=x then some ⟨k,a⟩else if z=y then some ⟨.i,c⟩else none):
 Good (.bW x a y c b) I (dT ins b I).1 (dT ins b I).2:=by
 have H:=HC W.1 hi
 have S:=uo (ins:=ins) A.2.2.2.2 W.2.2.2.1 (Rj H A W ej ⟨A.2.2.1,W.2.1⟩ ⟨A.2.2.2.1,W.2.2.1⟩)
 refine⟨S.1,S.2.1,S.2.2.1,fun k' u e=>Zs H W (S.2.2.2.2 k' u e) .inl (fun h=>.inr (.inl h)) fun h n n'=>.inr (.inr ⟨⟨h,n'⟩,n⟩),fun ad C gV hη=>?_⟩
 rw[S.2.2.2.1 (wt ad) (upd (upd C x k (den (wt ad) a C)) y .i (den (wt ad) c C)) C (UM H W rfl rfl fun _ _ _=>rfl)]
 exact rel_trans (cB b (bH (bH hη (kN (cB (ad:=ad) a hη))) (kN (cB (ad:=ad) c hη))))
  (zq (cB b (bH (bH hη (eS (ab 1) (ab 1) (cB (ad:=ad) a hη))) (eS (ab 1) (ab 1) (cB (ad:=ad) c hη)))))
theorem Ct(A:dj I (.bW x a y c b))(W:WF (.bW x a y c b)){ins:wj}(hi:∀z,ins z=if z=x then some ⟨k,a⟩else if z=y then some ⟨.i,.var .i (nw I y)⟩else none):
 Good (.bW x a y c b) I (.let1 (nw I y) c (dT ins b (nx I y)).1) (dT ins b (nx I y)).2:=by
 have H:=HC W.1 hi
 have z7:y.b∈bases:=A.2.1.2
 have S:=uo (I:=nx I y) (ins:=ins) (A.2.2.2.2.mono bF) W.2.2.2.1 (Rj H A W bF ⟨A.2.2.1.mono bF,W.2.1⟩ ⟨iP z7,trivial⟩)
 refine⟨bF.trans S.1,⟨(iP z7).mono S.1,A.2.2.2.1.mono (bF.trans S.1),S.2.1⟩,⟨W.2.2.1,S.2.2.1,fun k' e=>Zs H W (S.2.2.2.2 k' _ e) (fun t=>(eP (A.2.2.1.fv k' _ t)).elim) (fun t=>t.1) fun t _ _=>(eP (A.2.2.2.2.fv _ _ t)).elim⟩,
  fun k' u e=>e.elim (fun e=>.inr (.inl e)) fun e=>Zs H W (S.2.2.2.2 k' u e.1) .inl (fun t=>(e.2 t.2).elim) fun t n n'=>.inr (.inr ⟨⟨t,n'⟩,n⟩),fun ad C gV hη=>?_⟩
 have ha:=cB (ad:=ad) a hη
 have hc:=eS (ab 1) (ab 1) (cB (ad:=ad) c hη)
 have ea:den (wt ad) a (upd C (nw I y) .i (tick (k:=.i) (den (wt ad) c C)))=den (wt ad) a C:=iB a fun k' z e=>gh (qr (A.2.2.1.fv k' z e)) k'
 show Rel 1 1 j (kL 1 1 (den (wt ad) (dT ins b (nx I y)).1 (upd C (nw I y) .i (tick (k:=.i) (den (wt ad) c C))))) _
 rw[S.2.2.2.1 (wt ad) (upd (upd C x k (den (wt ad) a C)) y .i (tick (k:=.i) (den (wt ad) c C))) _ (UM H W ea.symm iM.symm fun k' z e=>(gh (qr (A.2.2.2.2.fv k' z e)) k').symm)]
 exact jH (ab 1) (ab 1) (cB b (bH (bH hη (kN ha)) hc))
theorem Cs(A:dj I (.bW x a y c b))(W:WF (.bW x a y c b)){ins:wj}(hi:∀z,ins z=if z=y then some ⟨.i,c⟩else if z=x then some ⟨k,.var k (nw I x)⟩else none):
 Good (.bW x a y c b) I (.let1 (nw I x) a (dT ins b (nx I x)).1) (dT ins b (nx I x)).2:=by
 have H:=Ms W.1 hi
 have z7:x.b∈bases:=A.1.2
 have S:=uo (I:=nx I x) (ins:=ins) (A.2.2.2.2.mono bF) W.2.2.2.1 (Rj H A W bF ⟨iP z7,trivial⟩ ⟨A.2.2.2.1.mono bF,W.2.2.1⟩)
 refine⟨bF.trans S.1,⟨(iP z7).mono S.1,A.2.2.1.mono (bF.trans S.1),S.2.1⟩,⟨W.2.1,S.2.2.1,fun k' e=>Zs H W (S.2.2.2.2 k' _ e) (fun t=>t.1) (fun t=>(eP (A.2.2.2.1.fv k' _ t)).elim) fun t _ _=>(eP (A.2.2.2.2.fv _ _ t)).elim⟩,
  fun k' u e=>e.elim .inl fun e=>Zs H W (S.2.2.2.2 k' u e.1) (fun t=>(e.2 t.2).elim) (fun t=>.inr (.inl t)) fun t n n'=>.inr (.inr ⟨⟨t,n'⟩,n⟩),fun ad C gV hη=>?_⟩
 have ha:=eS (ab 1) (ab 1) (cB (ad:=ad) a hη)
 have hc:=cB (ad:=ad) c hη
 have ec:den (wt ad) c (upd C (nw I x) k (tick (den (wt ad) a C)))=den (wt ad) c C:=iB c fun k' z e=>gh (qr (A.2.2.2.1.fv k' z e)) k'
 show Rel 1 1 j (kL 1 1 (den (wt ad) (dT ins b (nx I x)).1 (upd C (nw I x) k (tick (den (wt ad) a C))))) _
 rw[S.2.2.2.1 (wt ad) (upd (upd C x k (tick (den (wt ad) a C))) y .i (den (wt ad) c C)) _ (UM H W iM.symm ec.symm fun k' z e=>(gh (qr (A.2.2.2.2.fv k' z e)) k').symm)]
 exact jH (ab 1) (ab 1) (cB b (bH (bH hη ha) (kN hc)))
end
theorem qN:fi 1 1 (ql 1 1 (jC (wt ad) B C)) (jC (wt (ad+1)) (ql 1 1 B) C):=by
 obtain⟨bc,bd,bv⟩:=B
 induction bv with
 |none=>exact⟨by show 1+(1+bc)<=1*(1+(1+bc));lia,by show 1+(1+bd)<=1*(1+(1+bd));lia,trivial⟩
 |some I=>
  refine⟨?_,?_,uN _⟩
  ·show 1+(1+bc+(I C).c)<=1*(1+(1+bc)+(I C).c);lia
  ·show 1+max (1+bd) (ad+(I C).d)<=1*max (1+(1+bd)) (ad+1+(I C).d)
   rw[iY,<-Nat.add_max_add_left];exact bV.mpr ⟨aC _ _,aa (bu (by rw[Nat.add_left_comm,bh,aW 1 (I C).d])) (az _ _)⟩
section
variable{x y:Nm}{b:T .f}{c:T .i}{I:Fr}
theorem FW{a:T k}(A:dj I (.app (.let1 x a b) c))(W:WF (.app (.let1 x a b) c)):
 let r:=di qt a σ0 (nx I x);let s:=di qt b (su σ0 x (nw I x)) r.2
 Good (.app (.let1 x a b) c) I (.let1 (nw I x) r.1 (.app s.1 c)) s.2:=by
 obtain⟨l,⟨o1,o2,o3⟩,d,f,w1,w2,w3⟩:=jG A.1 W.1
 intro r s
 refine⟨l,⟨o1,o2,o3,A.2.mono l⟩,⟨w1,⟨w2,W.2⟩,fun k' e=>?_⟩,fun k y e=>?_,fun ad C gV hη=>?_⟩
 ·rcases e with e|e
  ·exact w3 k' e
  ·exact(eP (A.2.fv k' _ e)).elim
 ·rcases e with e|⟨e|e,n⟩
  ·exact .inl (f k y (.inl e))
  ·exact .inl (f k y (.inr ⟨e,n⟩))
  ·exact .inr e
 ·have hd:kL 1 1 (den (wt ad) s.1 (upd C (nw I x) k (tick (den (wt ad) r.1 C))))=den (wt ad) (.let1 x a b) C:=d (wt ad) C
  show fi 1 1 (ql 1 1 (jC (wt ad) (den (wt ad) s.1 _) (den (wt ad) c _))) (jC (wt (ad+1)) (den (wt ad) (.let1 x a b) C) (den (wt ad) c C))
  exact(iB c fun k' z e=>gh (qr (A.2.fv k' z e)) k':den (wt ad) c (upd C (nw I x) k (tick (den (wt ad) r.1 C)))=den (wt ad) c C).symm▸hd▸qN
theorem FU{a:T k}(A:dj I (.app (.bW x a y e b) c))(W:WF (.app (.bW x a y e b) c)):
 let ψ:=nx I x
 let r:=di qt a σ0 (nx ψ y);let q:=di qt e σ0 r.2;let s:=di qt b (su (su σ0 x (nw I x)) y (nw ψ y)) q.2
 Good (.app (.bW x a y e b) c) I (.bW (nw I x) r.1 (nw ψ y) q.1 (.app s.1 c)) s.2:=by
 intro ψ r q s
 have R:=jG A.1 W.1
 have o:=R.2.1
 have f:=R.2.2.2.1
 have w:=R.2.2.2.2
 have ny:∀{k'},fv c k' (nw ψ y)->False:=fun e=>eP ((A.2.fv _ _ e).mono bF)
 have nx':∀{k'},fv c k' (nw I x)->False:=fun e=>eP (A.2.fv _ _ e)
 refine⟨R.1,⟨o.1,o.2.1,o.2.2.1,o.2.2.2.1,o.2.2.2.2,A.2.mono R.1⟩,⟨w.1,w.2.1,w.2.2.1,⟨w.2.2.2.1,W.2⟩,fun k' e=>e.elim (w.2.2.2.2.1 k') fun e=>(nx' e).elim,fun k' e=>e.elim (w.2.2.2.2.2 k') fun e=>(ny e).elim⟩,fun k y e=>?_,fun ad C gV hη=>?_⟩
 ·rcases e with e|e|⟨⟨e|e,n⟩,n'⟩
  ·exact .inl (f k y (.inl e))
  ·exact .inl (f k y (.inr (.inl e)))
  ·exact .inl (f k y (.inr (.inr ⟨⟨e,n⟩,n'⟩)))
  ·exact .inr e
 ·have hd:kL 1 1 (den (wt ad) s.1 (upd (upd C (nw I x) k (tick (den (wt ad) r.1 C))) (nw ψ y) .i (tick (k:=.i) (den (wt ad) q.1 C))))=den (wt ad) (.bW x a y e b) C:=R.2.2.1 (wt ad) C
  have ec:den (wt ad) c (upd (upd C (nw I x) k (tick (den (wt ad) r.1 C))) (nw ψ y) .i (tick (k:=.i) (den (wt ad) q.1 C)))=den (wt ad) c C:=
   iB c fun k' z e=>(gh (fun h=>ny (h▸e)) k').trans (gh (fun h=>nx' (h▸e)) k')
  show fi 1 1 (ql 1 1 (jC (wt ad) (den (wt ad) s.1 _) (den (wt ad) c _))) (jC (wt (ad+1)) (den (wt ad) (.bW x a y e b) C) (den (wt ad) c C))
  exact ec.symm▸hd▸qN
theorem FP(A:dj I (.app (.dQ x a b) c))(W:WF (.app (.dQ x a b) c)):
 let r:=di qt a (su σ0 x (nw I x)) (nx I x);let s:=di qt b (su σ0 x (nw I x)) r.2
 Good (.app (.dQ x a b) c) I (.dQ (nw I x) r.1 (.app s.1 c)) s.2:=by
 obtain⟨l,⟨o1,o2,o3⟩,d,f,w1,w4,w2,w3⟩:=jG A.1 W.1
 intro r s
 refine⟨l,⟨o1,o2,o3,A.2.mono l⟩,⟨w1,w4,⟨w2,W.2⟩,fun k' e=>?_⟩,fun k y e=>?_,fun ad C gV hη=>?_⟩
 ·rcases e with e|e
  ·exact w3 k' e
  ·exact(eP (A.2.fv k' _ e)).elim
 ·rcases e with e|⟨e|e,n⟩
  ·exact .inl (f k y (.inl e))
  ·exact .inl (f k y (.inr ⟨e,n⟩))
  ·exact .inr e
 ·have hd:kL 1 1 (den (wt ad) s.1 (upd C (nw I x) .f (tick (k:=.f) (den (wt ad) r.1 C))))=den (wt ad) (.dQ x a b) C:=d (wt ad) C
  have ec:den (wt ad) c (upd C (nw I x) .f (tick (k:=.f) (den (wt ad) r.1 C)))=den (wt ad) c C:=iB c fun k' z e=>gh (qr (A.2.fv k' z e)) k'
  show fi 1 1 (ql 1 1 (jC (wt ad) (den (wt ad) s.1 _) (den (wt ad) c _))) (jC (wt (ad+1)) (den (wt ad) (.dQ x a b) C) (den (wt ad) c C))
  exact ec.symm▸hd▸qN
theorem FQ(A:dj I (.app (.dR x n v z b) c))(W:WF (.app (.dR x n v z b) c)):
 let φ₁:=nx I x;let φ₂:=nx φ₁ n;let φ₃:=nx φ₂ v
 let s:=di qt b (su σ0 x (nw I x)) φ₃
 Good (.app (.dR x n v z b) c) I (.dR (nw I x) (nw φ₁ n) (nw φ₂ v) z (.app s.1 c)) s.2:=by
 obtain⟨l,⟨o1,o2,o3,o4⟩,d,f,w1,w2,w3⟩:=jG A.1 W.1
 intro φ₁ φ₂ φ₃ s
 refine⟨l,⟨o1,o2,o3,o4,A.2.mono l⟩,⟨w1,⟨w2,W.2⟩,fun k' e=>?_⟩,fun k y e=>?_,fun ad C gV hη=>?_⟩
 ·rcases e with e|e
  ·exact w3 k' e
  ·exact(eP (A.2.fv k' _ e)).elim
 ·rcases e with⟨e|e,n⟩
  ·exact .inl (f k y ⟨e,n⟩)
  ·exact .inr e
 ·have hd:kL 1 1 (den (wt ad) s.1 (upd C (nw I x) .f (R.tick (α:=Di->Di) ⟨(wt ad).lc,(wt ad).ld,some (down (wt ad) z)⟩)))=den (wt ad) (.dR x n v z b) C:=d (wt ad) C
  have ec:den (wt ad) c (upd C (nw I x) .f (R.tick (α:=Di->Di) ⟨(wt ad).lc,(wt ad).ld,some (down (wt ad) z)⟩))=den (wt ad) c C:=iB c fun k' z e=>gh (qr (A.2.fv k' z e)) k'
  show fi 1 1 (ql 1 1 (jC (wt ad) (den (wt ad) s.1 _) (den (wt ad) c _))) (jC (wt (ad+1)) (den (wt ad) (.dR x n v z b) C) (den (wt ad) c C))
  exact ec.symm▸hd▸qN
end
theorem JT(A:dj I (.lam x (.gap2 a (.var .i x))))(W:WF (.lam x (.gap2 a (.var .i x))))(hx:∀k,¬fv a k x):
 Good (.lam x (.gap2 a (.var .i x))) I (.eg a) I:=by
 refine⟨ej,A.2.1,W.1.1,fun k y e=>⟨.inl e,fun h=>hx k (by subst h;exact e)⟩,fun ad C gV hη=>?_⟩
 refine⟨ab _,ab _,fun p q T8=>?_⟩
 have ea:den (wt ad) a (upd C x .i (R.tick (α:=Int) q))=den (wt ad) a C:=iB a fun k z e=>gh (fun h=>hx k (by subst h;exact e)) k
 have ex:den (wt ad) (.var .i x) (upd C x .i (R.tick (α:=Int) q))=R.tick (α:=Int) q:=iM
 have hg:=lX (ab 1) (ab 1) (iN (x:=den (wt ad) a C)) (lA T8)
 show fi 1 1 (jO (den (wt ad) a C) p) (qx (wt ad) (den (wt ad) a (upd C x .i (R.tick (α:=Int) q))) (den (wt ad) (.var .i x) (upd C x .i (R.tick (α:=Int) q))))
 rw[ea,ex]
 refine⟨?_,?_,hg.2.2⟩
 ·have:=hg.1;show _<=1*(3+_);lia
 ·have:=hg.2.1;show _<=1*max 4 (ad+_)
  have h2:=az 4 (ad+(jO (den (wt ad) a C) (R.tick (α:=Int) q)).d)
  lia
structure dK{k:K}(t:T k)(I:Fr)(t':T k)(ψ:Fr):Prop where
 le:qz I ψ
 ok:dj ψ t'
 wf:WF t'
 fv:∀k y,fv t' k y->fv t k y
 imp:∀ad C C',2<=ad->iG 1 1 C C->iG 1 1 C' C'->iG 1 1 C C'->Rel 1 1 k (den (wt ad) t' C) (den (wt (ad+1)) t C')
structure tX{k:K}(t:T k)(I:Fr)(n:T k)(ψ:Fr):Prop where
 le:qz I ψ
 ok:dj ψ n
 wf:WF n
 fv:∀k y,fv n k y->fv t k y
 top:∀ad C C',2<=ad->iG 1 1 C C->iG 1 1 C' C'->iG 1 1 C C'->Rel 1 1 k (va ad n C) (den (wt (ad+1)) t C')
theorem dK.of(m:tX t I n ψ)(g:Good n ψ t' χ):dK t I t' χ:=
 ⟨m.le.trans g.le,g.ok,g.wf,fun k y e=>m.fv k y (g.fv k y e),fun ad C C' gV h h' hh=>rel_trans (g.den ad C gV h) (m.top ad C C' gV h h' hh)⟩
section
variable{I φ₁ φ₂ φ₃:Fr}{j k:K}{x y:Nm}
theorem l1:1<=1:=ab 1
noncomputable def known:{k:K}->Dn k->Dn k
 |.i,r=>R.known (α:=Int) r
 |.f,r=>R.known (α:=Di->Di) r
 |.c,r=>R.known (α:=Option Di) r
theorem rn:∀{k:K}{x y:Dn k},Rel 1 1 k x y->Rel 1 1 k (known x) (known y)
 |.i,_,_,h=>jw l1 l1 h
 |.f,_,_,h=>jw l1 l1 h
 |.c,_,_,h=>jw l1 l1 h
theorem aak:(wt ad).ad<=1*(wt (ad+1)).ad:=by show ad<=1*(ad+1);lia
theorem NC(A:dj I (.var k x)):tX (.var k x) I (.var k x) I:=⟨ej,A,trivial,fun _ _ e=>e,fun ad _ _ _ _ _ hh=>yx (ad:=ad) (.var k x) hh⟩
theorem NH:tX (.err k) I (.err k) I:=⟨ej,trivial,trivial,fun _ _ e=>e,fun ad _ _ _ _ _ hh=>yx (ad:=ad) (.err k) hh⟩
theorem ND:tX (.lit z) I (.lit z) I:=⟨ej,trivial,trivial,fun _ _ e=>e,fun ad _ _ _ _ _ hh=>yx (ad:=ad) (.lit z) hh⟩
theorem S4:tX .cD I .cD I:=⟨ej,trivial,trivial,fun _ _ e=>e,fun ad _ _ _ _ _ hh=>yx (ad:=ad) .cD hh⟩
theorem NJ(ga:dK a I a' φ₁)(gb:dK b φ₁ b' φ₂):tX (.add a b) I (.add a' b') φ₂:=
 ⟨ga.le.trans gb.le,⟨ga.ok.mono gb.le,gb.ok⟩,⟨ga.wf,gb.wf⟩,fun k y e=>e.imp (ga.fv k y) (gb.fv k y),
   fun ad C C' gV h h' hh=>xK l1 l1 (ga.imp ad C C' gV h h' hh) (gb.imp ad C C' gV h h' hh)⟩
theorem NI(ga:dK a I a' φ₁)(gb:dK b φ₁ b' φ₂):tX (.app a b) I (.app a' b') φ₂:=
 ⟨ga.le.trans gb.le,⟨ga.ok.mono gb.le,gb.ok⟩,⟨ga.wf,gb.wf⟩,fun k y e=>e.imp (ga.fv k y) (gb.fv k y),
   fun ad C C' gV h h' hh=>xJ l1 l1 (by show ad+1<=1*(ad+1);lia) (ga.imp ad C C' gV h h' hh) (gb.imp ad C C' gV h h' hh)⟩
theorem IP(ga:dK a I a' φ₁)(gb:dK b φ₁ b' φ₂):tX (.gap2 a b) I (.gap2 a' b') φ₂:=
 ⟨ga.le.trans gb.le,⟨ga.ok.mono gb.le,gb.ok⟩,⟨ga.wf,gb.wf⟩,fun k y e=>e.imp (ga.fv k y) (gb.fv k y),
   fun ad C C' gV h h' hh=>zr l1 l1 aak (ga.imp ad C C' gV h h' hh) (gb.imp ad C C' gV h h' hh)⟩
theorem IQ(ga:dK a I a' φ₁):tX (.eg a) I (.eg a') φ₁:=
 ⟨ga.le,ga.ok,ga.wf,ga.fv,fun ad C C' gV h h' hh=>⟨by show 3<=1*3;lia,by show 4<=1*4;lia,fun _ _ T8=>lX l1 l1 (ga.imp ad C C' gV h h' hh) T8⟩⟩
theorem S6(ga:dK a I a' φ₁):tX (.cC a) I (.cC a') φ₁:=
 ⟨ga.le,ga.ok,ga.wf,ga.fv,fun ad C C' gV h h' hh=>⟨by show 1<=1*1;lia,by show 1<=1*1;lia,ga.imp ad C C' gV h h' hh⟩⟩
theorem NG(A:dj I (.lam x b))(W:WF (.lam x b))(gb:dK b I b' φ₁):tX (.lam x b) I (.lam x b') φ₁:=
 ⟨gb.le,⟨A.1.mono gb.le,gb.ok⟩,⟨gb.wf,fun k e=>W.2 k (gb.fv k x e)⟩,fun k y e=>⟨gb.fv k y e.1,e.2⟩,
   fun ad C C' gV h h' hh=>⟨by show 3<=1*3;lia,by show 4<=1*4;lia,fun _ _ T8=>
    gb.imp ad _ _ gV (bH h (dG l1 l1 iN)) (bH h' (dG l1 l1 iN)) (bH hh (dG l1 l1 T8))⟩⟩
section
variable{a a':T k}{b b':T j}
theorem yf(ga:dK a I a' φ₁)(gV:2<=ad)(h:iG 1 1 C C)(h':iG 1 1 C' C')(hh:iG 1 1 C C'):
 iG 1 1 (upd C x k (tick (den (wt ad) a' C))) (upd C x k (tick (den (wt ad) a' C)))/\iG 1 1 (upd C' x k (tick (den (wt (ad+1)) a C'))) (upd C' x k (tick (den (wt (ad+1)) a C')))/\
 iG 1 1 (upd C x k (tick (den (wt ad) a' C))) (upd C' x k (tick (den (wt (ad+1)) a C'))):=
 ⟨bH h (eS l1 l1 (cB a' h)),bH h' (eS l1 l1 (cB a h')),bH hh (eS l1 l1 (ga.imp ad C C' gV h h' hh))⟩
theorem IM(A:dj I (.let1 x a b))(W:WF (.let1 x a b))(ga:dK a I a' φ₁)(gb:dK b φ₁ b' φ₂):tX (.let1 x a b) I (.let1 x a' b') φ₂:=
 ⟨ga.le.trans gb.le,⟨A.1.mono (ga.le.trans gb.le),ga.ok.mono gb.le,gb.ok⟩,⟨ga.wf,gb.wf,fun k e=>W.2.2 k (gb.fv k x e)⟩,fun k y e=>e.imp (ga.fv k y) fun e=>⟨gb.fv k y e.1,e.2⟩,
   fun ad C C' gV h h' hh=>by
    obtain⟨e1,e2,e3⟩:=yf (x:=x) ga gV h h' hh
    exact jH l1 l1 (gb.imp ad _ _ gV e1 e2 e3)⟩
theorem IL(A:dj I (.bW x a y c b))(W:WF (.bW x a y c b))(ga:dK a I a' φ₁)(gc:dK c φ₁ c' φ₂)(gb:dK b φ₂ b' φ₃):tX (.bW x a y c b) I (.bW x a' y c' b') φ₃:=
 ⟨ga.le.trans (gc.le.trans gb.le),⟨A.1.mono (ga.le.trans (gc.le.trans gb.le)),A.2.1.mono (ga.le.trans (gc.le.trans gb.le)),ga.ok.mono (gc.le.trans gb.le),gc.ok.mono gb.le,gb.ok⟩,
   ⟨W.1,ga.wf,gc.wf,gb.wf,fun k e=>W.2.2.2.2.1 k (gb.fv k x e),fun k e=>W.2.2.2.2.2 k (gb.fv k y e)⟩,
   fun k y e=>e.imp (ga.fv k y) fun e=>e.imp (gc.fv k y) fun e=>⟨⟨gb.fv k y e.1.1,e.1.2⟩,e.2⟩,
   fun ad C C' gV h h' hh=>by
    obtain⟨e1,e2,e3⟩:=yf (x:=x) ga gV h h' hh
    exact jH l1 l1 (gb.imp ad _ _ gV (bH e1 (eS l1 l1 (cB (ad:=ad) c' h))) (bH e2 (eS l1 l1 (cB (ad:=ad+1) c h'))) (bH e3 (eS l1 l1 (gc.imp ad C C' gV h h' hh))))⟩
theorem IJ{a a':T .f}(A:dj I (.dQ x a b))(W:WF (.dQ x a b))(ga:dK a I a' φ₁)(gb:dK b φ₁ b' φ₂):tX (.dQ x a b) I (.dQ x a' b') φ₂:=
 ⟨ga.le.trans gb.le,⟨A.1.mono (ga.le.trans gb.le),ga.ok.mono gb.le,gb.ok⟩,⟨ga.wf,fun k e=>W.2.1 k (ga.fv k x e),gb.wf,fun k e=>W.2.2.2 k (gb.fv k x e)⟩,fun k y e=>e.imp (ga.fv k y) fun e=>⟨gb.fv k y e.1,e.2⟩,
   fun ad C C' gV h h' hh=>by
    obtain⟨e1,e2,e3⟩:=yf (x:=x) ga gV h h' hh
    exact jH l1 l1 (gb.imp ad _ _ gV e1 e2 e3)⟩
theorem IK(A:dj I (.dR x n v z b))(W:WF (.dR x n v z b))(gb:dK b I b' φ₁):tX (.dR x n v z b) I (.dR x n v z b') φ₁:=
 ⟨gb.le,⟨A.1.mono gb.le,A.2.1.mono gb.le,A.2.2.1.mono gb.le,gb.ok⟩,⟨W.1,gb.wf,fun k e=>W.2.2 k (gb.fv k x e)⟩,fun k y e=>⟨gb.fv k y e.1,e.2⟩,
   fun ad C C' gV h h' hh=>by
    have dd:∀m p:Nat,(wt m).ad<=1*(wt p).ad->Pr 1 1 ⟨3,4,some (down (wt m) z)⟩ ⟨3,4,some (down (wt p) z)⟩:=fun m p hm=>
     ⟨by show 3<=1*3;lia,by show 4<=1*4;lia,fun _ _ T8=>zt l1 l1 hm (ab 3) (ab 4) T8⟩
    exact jH l1 l1 (gb.imp ad _ _ gV (bH h (dG l1 l1 (dd ad ad (by show ad<=1*ad;lia)))) (bH h' (dG l1 l1 (dd (ad+1) (ad+1) (by show ad+1<=1*(ad+1);lia)))) (bH hh (dG l1 l1 (dd ad (ad+1) aak))))⟩
end
section
variable{a a' o o':T j}
theorem rE(gs:dK s I s' φ₁)(gV:2<=ad)(h:iG 1 1 C C)(h':iG 1 1 C' C')(hh:iG 1 1 C C'):
 iG 1 1 (upd C x k (known (den (wt ad) s' C))) (upd C x k (known (den (wt ad) s' C)))/\iG 1 1 (upd C' x k (known (den (wt (ad+1)) s C'))) (upd C' x k (known (den (wt (ad+1)) s C')))/\
 iG 1 1 (upd C x k (known (den (wt ad) s' C))) (upd C' x k (known (den (wt (ad+1)) s C'))):=
 ⟨bH h (rn (cB s' h)),bH h' (rn (cB s h')),bH hh (rn (gs.imp ad C C' gV h h' hh))⟩
theorem Fg(A:dj I (.bG s x z a o))(W:WF (.bG s x z a o))(gs:dK s I s' φ₁)(ga:dK a φ₁ a' φ₂)(go:dK o φ₂ o' φ₃):tX (.bG s x z a o) I (.bG s' x z a' o') φ₃:=
 ⟨gs.le.trans (ga.le.trans go.le),⟨gs.ok.mono (ga.le.trans go.le),A.2.1.mono (gs.le.trans (ga.le.trans go.le)),ga.ok.mono go.le,go.ok⟩,
   ⟨gs.wf,⟨ga.wf,fun k e=>W.2.1.2 k (ga.fv k x e)⟩,go.wf,fun k e=>W.2.2.2 k (go.fv k x e)⟩,
   fun k y e=>e.imp (gs.fv k y) fun e=>⟨e.1.imp (ga.fv k y) (go.fv k y),e.2⟩,
   fun ad C C' gV h h' hh=>by
    obtain⟨e1,e2,e3⟩:=rE (x:=x) gs gV h h' hh
    refine kC l1 l1 (gs.imp ad C C' gV h h' hh) fun m m' hm=>?_
    cases hm
    by_cases e:m=z
    ·show Rel 1 1 j (if m=z then den _ a' _ else den _ o' _) (if m=z then den _ a _ else den _ o _)
     rw[if_pos e,if_pos e];exact ga.imp ad _ _ gV e1 e2 e3
    ·show Rel 1 1 j (if m=z then den _ a' _ else den _ o' _) (if m=z then den _ a _ else den _ o _)
     rw[if_neg e,if_neg e];exact go.imp ad _ _ gV e1 e2 e3⟩
theorem Fh(A:dj I (.cE s x o))(W:WF (.cE s x o))(gs:dK s I s' φ₁)(go:dK o φ₁ o' φ₂):tX (.cE s x o) I (.cE s' x o') φ₂:=
 ⟨gs.le.trans go.le,⟨gs.ok.mono go.le,A.2.1.mono (gs.le.trans go.le),go.ok⟩,⟨gs.wf,go.wf,fun k e=>W.2.2 k (go.fv k x e)⟩,fun k y e=>e.imp (gs.fv k y) fun e=>⟨go.fv k y e.1,e.2⟩,
   fun ad C C' gV h h' hh=>by
    obtain⟨e1,e2,e3⟩:=rE (x:=x) gs gV h h' hh
    exact kC l1 l1 (gs.imp ad C C' gV h h' hh) fun _ _ _=>go.imp ad _ _ gV e1 e2 e3⟩
theorem w7(gs:dK s I s' φ₁)(ga:dK a φ₁ a' φ₂)(go:dK o φ₂ o' φ₃)(gV:2<=ad)(h:iG 1 1 C C)(h':iG 1 1 C' C')(hh:iG 1 1 C C'):
 Rel 1 1 j (den (wt ad) (.bD s' x y a' o') C) (den (wt (ad+1)) (.bD s x y a o) C'):=by
 obtain⟨e1,e2,e3⟩:=rE (x:=x) gs gV h h' hh
 refine kC l1 l1 (gs.imp ad C C' gV h h' hh) fun m m' hm=>?_
 induction m with
 |none=>induction m' with
  |none=>exact go.imp ad _ _ gV e1 e2 e3
  |some _=>exact hm.elim
 |some t=>induction m' with
  |none=>exact hm.elim
  |some t'=>exact ga.imp ad _ _ gV (bH e1 (dG l1 l1 iN)) (bH e2 (dG l1 l1 iN)) (bH e3 (dG l1 l1 hm))
theorem Fj(A:dj I (.bD s x y a o))(W:WF (.bD s x y a o))(gs:dK s I s' φ₁)(ga:dK a φ₁ a' φ₂)(go:dK o φ₂ o' φ₃):tX (.bD s x y a o) I (.bD s' x y a' o') φ₃:=
 ⟨gs.le.trans (ga.le.trans go.le),⟨gs.ok.mono (ga.le.trans go.le),A.2.1.mono (gs.le.trans (ga.le.trans go.le)),A.2.2.1.mono (gs.le.trans (ga.le.trans go.le)),ga.ok.mono go.le,go.ok⟩,
   ⟨gs.wf,⟨ga.wf,fun n k e=>W.2.1.2.1 n k (ga.fv k x e),fun k e=>W.2.1.2.2 k (ga.fv k y e)⟩,go.wf,fun k e=>W.2.2.2 k (go.fv k x e)⟩,
   fun k y e=>e.imp (gs.fv k y) fun e=>⟨e.1.imp (fun e=>⟨ga.fv k y e.1,e.2⟩) (go.fv k y),e.2⟩,fun _ _ _ gV h h' hh=>w7 gs ga go gV h h' hh⟩
theorem Fi(A:dj I (.bK s x y a o))(W:WF (.bK s x y a o))(gs:dK s I s' φ₁)(ga:dK a φ₁ a' φ₂)(go:dK o φ₂ o' φ₃):tX (.bK s x y a o) I (.bK s' x y a' o') φ₃:=
 ⟨gs.le.trans (ga.le.trans go.le),⟨gs.ok.mono (ga.le.trans go.le),A.2.1.mono (gs.le.trans (ga.le.trans go.le)),A.2.2.1.mono (gs.le.trans (ga.le.trans go.le)),ga.ok.mono go.le,go.ok⟩,
   ⟨gs.wf,⟨ga.wf,fun n k e=>W.2.1.2.1 n k (ga.fv k x e),fun k e=>W.2.1.2.2 k (ga.fv k y e)⟩,go.wf,fun k e=>W.2.2.2 k (go.fv k x e)⟩,
   fun k y e=>e.imp (gs.fv k y) fun e=>⟨e.1.imp (fun e=>⟨ga.fv k y e.1,e.2⟩) (go.fv k y),e.2⟩,fun ad C C' gV h h' hh=>(w7 (x:=x) (y:=y) gs ga go gV h h' hh:Rel 1 1 j (den (wt ad) (.bD s' x y a' o') C) (den (wt (ad+1)) (.bD s x y a o) C'))⟩
end
end
end Pu
namespace Pu
open PySem Mine
noncomputable abbrev oS:=Bool->MV->List MC->Prop
noncomputable def Ev(c:oS->Prop)(r:(Bool×MV)×List MC):Prop:=∀Q:oS,Q r.1.1 r.1.2 r.2->c Q
noncomputable def Lc(c c':oS->Prop):Prop:=∀Q,c' Q->c Q
theorem Lc.trans(h:Lc c c')(e:Ev c' r):Ev c r:=fun Q hq=>h Q (e Q hq)
theorem aY(h:b=true)(a:A):i0 b A B:=by rw[h];exact a
theorem bp(h:b=false)(a:B):i0 b A B:=by rw[h];exact a
theorem mj(h:b=true)(a:A):gd b A:=by rw[h];exact a
theorem eh(h:o=some x)(a:A x):mM o A B:=by rw[h];exact a
theorem Ip(h:o=none)(a:B):mM o A B:=by rw[h];exact a
theorem cI(h:mu[i]?=some c)(a:Q c):cellAt ⟨loc,mu⟩ i Q:=eh h a
theorem aD(h:a<=b)(k:A):gd (aV a b) A:=mj (bT h) k
theorem k9:sq a a=true:=decide_eq_true rfl
theorem jX(h:a≠b):sq a b=false:=decide_eq_false h
theorem ao(hf:F8 f=some fn)(hl:aL as.length fn.np=true)(h:dJ W (ah W d) d fn.body ⟨as.map .fz++lu (fn.ns-fn.np) .un,mu⟩ (eL Q)):ah W (d+1) f as mu Q:=eh hf (mj hl h)
theorem ZX{c:oS->Prop}(k:c Q)(h:∀b m mu,Q b m mu=Q' b m mu):c Q':=by
 have:Q=Q':=funext fun b=>funext fun m=>funext fun mu=>h b m mu
 exact this▸k
theorem Dw(h:Ev (ah W 0 f as mu) r):False:=h (fun _ _ _=>True) trivial
noncomputable def aX(x:Nm):Str:=if x.k=0 then⟨#[x.b]⟩else⟨#[x.b]⟩++af "."++af (toString (x.k:Int))
noncomputable def gS:Str:=af "g"
noncomputable abbrev sM(s:String):MV:=.str (af s)
noncomputable abbrev vN(x:Nm):MV:=.str (aX x)
noncomputable abbrev bJ(s:Str):MV:=.inst .Var [.str s]
noncomputable abbrev fF(z:Int):MV:=.inst .Lit [sM "int",.int z]
noncomputable abbrev iQ(a b:MV):MV:=.inst .Prim [sM "intAdd",.lst [a,b]]
noncomputable abbrev IW:MV:=.inst .Prim [sM "error",.lst []]
noncomputable def ji(x n v:Nm)(z:Int):MV:=
 .inst .iu [.lst [vN n],.inst .Case [bJ (aX n),vN v,.lst [.inst .Alt [.tup [sM "lit",sM "int",.int 0],.lst [],fF z]],
   .inst .App [bJ (aX x),.lst [iQ (bJ (aX n)) (fF (-1))]]]]
noncomputable def enc:{k:K}->T k->MV
 |_,.var z1 x=>bJ (aX x)
 |_,.err z1=>IW
 |_,.lit z=>fF (z:Int)
 |_,.add a b=>iQ (enc a) (enc b)
 |_,.app f a=>.inst .App [enc f,.lst [enc a]]
 |_,.gap2 a b=>.inst .App [bJ gS,.lst [enc a,enc b]]
 |_,.eg a=>.inst .App [bJ gS,.lst [enc a]]
 |_,.lam x b=>.inst .iu [.lst [vN x],enc b]
 |_,.cD=>.inst .o9 [sM "D",.lst []]
 |_,.cC a=>.inst .o9 [sM "C",.lst [enc a]]
 |_,.let1 (k:=k) x a b=>.inst .Let [.lst [.tup [vN x,enc a]],enc b,.bool false]
 |_,.bW (k:=k) x a y c b=>.inst .Let [.lst [.tup [vN x,enc a],.tup [vN y,enc c]],enc b,.bool false]
 |_,.dQ x a b=>.inst .Let [.lst [.tup [vN x,enc a]],enc b,.bool true]
 |_,.dR x n v z b=>.inst .Let [.lst [.tup [vN x,ji x n v (z:Int)]],enc b,.bool true]
 |_,.bG s x z a o=>.inst .Case [enc s,vN x,.lst [.inst .Alt [.tup [sM "lit",sM "int",.int z],.lst [],enc a]],enc o]
 |_,.cE s x o=>.inst .Case [enc s,vN x,.lst [],enc o]
 |_,.bK s x y a o=>.inst .Case [enc s,vN x,.lst [.inst .Alt [.tup [sM "con",sM "C"],.lst [vN y],enc a],.inst .Alt [.tup [sM "con",sM "D"],.lst [],enc o]],.none]
 |_,.bD s x y a o=>.inst .Case [enc s,vN x,.lst [.inst .Alt [.tup [sM "con",sM "C"],.lst [vN y],enc a]],enc o]
noncomputable def ht:{k:K}->T k->Nat
 |_,.var z1 z2=>4
 |_,.err z1=>4
 |_,.lit z1=>4
 |_,.add a b=>4+max (ht a) (ht b)
 |_,.app f a=>4+max (ht f) (ht a)
 |_,.gap2 a b=>4+max (ht a) (ht b)
 |_,.eg a=>4+ht a
 |_,.lam z1 b=>4+ht b
 |_,.cD=>4
 |_,.cC a=>4+ht a
 |_,.let1 (k:=k) z1 a b=>4+max (ht a) (ht b)
 |_,.bW (k:=k) z1 a z2 c b=>4+max (ht a) (max (ht c) (ht b))
 |_,.dQ z1 a b=>4+max (ht a) (ht b)
 |_,.dR z1 z2 z3 z4 b=>24+ht b
 |_,.bG s z1 z2 a o=>4+max (ht s) (max (ht a) (ht o))
 |_,.cE s z1 o=>4+max (ht s) (ht o)
 |_,.bK s z1 z2 a o=>4+max (ht s) (max (ht a) (ht o))
 |_,.bD s z1 z2 a o=>4+max (ht s) (max (ht a) (ht o))
noncomputable abbrev dX(mu:List MC)(i:Nat)(F:Int):Prop:=mu[i]?=some (.lst [.int F])
theorem u5(h:dX mu i F):dX (mu.set i (.lst [.int G])) i G:=by
 obtain⟨hl,_⟩:=bb.mp h
 exact cq hl
noncomputable abbrev cV(mu:List MC)(i:Nat)(F:Int):List MC:=mu.set i (.lst [.int F])
variable{W:Nat}
theorem Bn(h:dX mu i F)(hF:F<1):
 Ev (ah W (d+1) 61 [x,e,.ref i] mu) ((false,.tup [sM "long"]),cV mu i (F-1)):=fun Q hQ=>
 ao rfl rfl (cI h (cI h (cI (u5 h) (aY (decide_eq_true (by omega:F-1<0)) hQ))))
noncomputable def Q2:Ss:=(sd (sd sx).1).1
theorem eH(h:dX mu i F)(hF:1<=F)(k:dJ W (ah W d) d Q2 ⟨[.fz x,.fz e,.fz (.ref i),.un,.un,.un,.un,.un,.un,.un,.un],cV mu i (F-1)⟩ (eL Q)):ah W (d+1) 61 [x,e,.ref i] mu Q:=
 ao rfl rfl (cI h (cI h (cI (u5 h) (bp (decide_eq_false (by omega:¬F-1<0)) k))))
section
variable{d i:Nat}{mu mu' gH:List MC}{F:Int}{e env b v o:MV}{es:List (Str×MV)}
theorem wq(h:dX mu i F)(hF:1<=F):Ev (ah W (d+1) 61 [fF z,e,.ref i] mu) ((false,.tup [sM "int",.int z]),cV mu i (F-1)):=fun Q hQ=>eH h hF hQ
theorem Ly:Lc (ah W (d+1) 57 [.tup [e,env],.ref i] mu) (ah W d 61 [e,env,.ref i] mu):=fun Q h=>ao rfl rfl h
theorem Bm(h:dX mu i F)(hF:1<=F)(hl:cf es s=some v):Lc (ah W (d+1) 61 [bJ s,.bI es,.ref i] mu) (ah W d 57 [fT es v,.ref i] (cV mu i (F-1))):=fun Q k=>eH h hF (eh hl k)
theorem Eu(h:dX mu i F)(hF:1<=F)(hl:(cf es x).map (fT es)=some (.tup [e,env])):
 Lc (ah W (d+2) 61 [bJ x,.bI es,.ref i] mu) (ah W d 61 [e,env,.ref i] (cV mu i (F-1))):=fun Q k=>by
 obtain⟨v,h1,h2⟩:=eN.mp hl
 refine Bm h hF h1 Q ?_
 exact h2.symm▸Ly Q k
theorem y8(h:dX mu i F)(hF:1<=F):Ev (ah W (d+1) 61 [sM "known",v,.ref i] mu) ((false,v),cV mu i (F-1)):=fun Q k=>eH h hF k
theorem wu(h:dX mu i F)(hF:1<=F):Ev (ah W (d+1) 61 [.inst .iu [ps,b],e,.ref i] mu) ((false,.tup [sM "fun",ps,b,e]),cV mu i (F-1)):=fun Q k=>eH h hF k
theorem Bt(h:dX mu i F)(hF:1<=F):Ev (ah W (d+1) 61 [.inst .o9 [n,.lst []],e,.ref i] mu) ((false,.tup [sM "con",n,.lst []]),cV mu i (F-1)):=fun Q k=>eH h hF k
theorem Br(h:dX mu i F)(hF:1<=F):Ev (ah W (d+1) 61 [.inst .o9 [n,.lst [a]],e,.ref i] mu) ((false,.tup [sM "con",n,.lst [.tup [a,e]]]),cV mu i (F-1)):=fun Q k=>eH h hF k
theorem Ew(h:dX mu i F)(hF:1<=F):Ev (ah W (d+1) 61 [IW,e,.ref i] mu) ((false,.tup [sM "error"]),cV mu i (F-1)):=fun Q k=>eH h hF k
theorem pA(h:dX mu i F)(hF:1<=F)(h1:Ev (ah W d 61 [f,e,.ref i] (cV mu i (F-1))) ((fl,o),gH)):
 Lc (ah W (d+1) 61 [.inst .App [f,.lst [a]],e,.ref i] mu) (ah W d 59 [o,.lst [.tup [a,e]],.ref i] gH):=fun Q k=>eH h hF (h1 _ k)
theorem Bu(h:dX mu i F)(hF:1<=F)(h1:Ev (ah W d 61 [f,e,.ref i] (cV mu i (F-1))) ((fl,o),gH)):
 Lc (ah W (d+1) 61 [.inst .App [f,.lst [a,c]],e,.ref i] mu) (ah W d 59 [o,.lst [.tup [a,e],.tup [c,e]],.ref i] gH):=fun Q k=>eH h hF (h1 _ k)
theorem ui(h:dX mu i F)(hF:1<=F):Lc (ah W (d+1) 61 [.inst .Case fs,e,.ref i] mu) (ah W d 60 [.inst .Case fs,e,.ref i] (cV mu i (F-1))):=fun Q k=>eH h hF k
theorem f9:(bX es).length=es.length:=by unfold bX;rw[aI]
theorem dI:∀{es:List (Str×MV)},(br es k v).length<=es.length+1:=by
 intro es
 induction es with
 |nil=>
  exact ab _
 |cons zx r cz=>
  obtain⟨k',v'⟩:=zx
  show(@bE (fun _=>List (Str×MV)) ((k',v')::br r k v) ((k',v)::r) (sq k' k)).length<=_
  cases sq k' k
  ·exact bA cz
  ·exact dW _
theorem Bq(h:dX mu i F)(hF:1<=F)(hl:es.length<b8):Lc (ah W (d+1) 61 [.inst .Let [.lst [.tup [.str x,a]],b,.bool false],.bI es,.ref i] mu) (ah W d 61 [b,.bI (br (bX es) x (.tup [a,.bI es])),.ref i] (cV mu i (F-1))):=fun Q k=>
 eH h hF (aD (cF hl) (aD (aa (bu f9) (cF hl)) k))
theorem o7(hl:es.length<b8):(bX es).length<=b8:=aa (bu f9) (cF hl)
theorem Dg(hl:es.length<b8):(br (bX es) x v).length<=b8:=aa dI (by rw[f9];exact hl)
theorem uh(h:dX mu i F)(hF:1<=F)(hl:es.length<b8):Lc (ah W (d+1) 61 [.inst .Let [.lst [.tup [.str x,a]],b,.bool true],.bI es,.ref i] mu) (ah W d 61 [b,.bI (br (bX es) x (.g9 a)),.ref i] (cV mu i (F-1))):=fun Q k=>
 eH h hF (aD (cF hl) (aD (o7 hl) (aD (o7 hl) k)))
theorem Bp(h:dX mu i F)(hF:1<=F)(hl:es.length<b8):Lc (ah W (d+1) 61 [.inst .Let [.lst [.tup [.str x,a],.tup [.str y,c]],b,.bool false],.bI es,.ref i] mu)
 (ah W d 61 [b,.bI (br (br (bX es) x (.tup [a,.bI es])) y (.tup [c,.bI es])),.ref i] (cV mu i (F-1))):=fun Q k=>
 eH h hF (aD (cF hl) (aD (o7 hl) (aD (Dg hl) k)))
noncomputable abbrev sI:Str:=af "int"
theorem y9(h:dX mu i F)(hF:1<=F)(h1:Ev (ah W d 61 [a,e,.ref i] (cV mu i (F-1))) ((f1,.tup [sM "int",.int z1]),gH))
 (h2:Ev (ah W d 61 [c,e,.ref i] gH) ((f2,.tup [sM "int",.int z2]),r6)):Ev (ah W (d+1) 61 [iQ a c,e,.ref i] mu) ((false,.tup [sM "int",.int (z1+z2)]),r6):=fun Q k=>
 eH h hF (h1 _ (h2 _ k))
theorem rZ(h:dX mu i F)(hF:1<=F)(h1:Ev (ah W d 61 [a,e,.ref i] (cV mu i (F-1))) ((f1,.tup (.str s1::t1)),gH))
 (h2:Ev (ah W d 61 [c,e,.ref i] gH) ((f2,o),r6)) (l1:t1.length<b8) (hs:s1≠af "int"):Ev (ah W (d+1) 61 [iQ a c,e,.ref i] mu) ((false,.tup (.str s1::t1)),r6):=fun Q k=>
 eH h hF (h1 _ (h2 _ (aD (a:=(MV.str s1::t1).length) l1 (aY (b:= !sq s1 sI) (by rw[jX hs];rfl) k))))
theorem qf(h:dX mu i F)(hF:1<=F)(h1:Ev (ah W d 61 [a,e,.ref i] (cV mu i (F-1))) ((f1,.tup [sM "int",.int z1]),gH))
 (h2:Ev (ah W d 61 [c,e,.ref i] gH) ((f2,.tup (.str s2::t2)),r6)) (l2:t2.length<b8) (hs:s2≠af "int"):Ev (ah W (d+1) 61 [iQ a c,e,.ref i] mu) ((false,.tup (.str s2::t2)),r6):=fun Q k=>
 eH h hF (h1 _ (h2 _ (aD (a:=(MV.str s2::t2).length) l2 (aY (b:= !sq s2 sI) (by rw[jX hs];rfl) k))))
theorem Vb(hl:es.length<b8):Ev (ah W (d+1) 58 [.bI es,.lst [],.lst ts] mu) ((true,.bI (bX es)),mu):=fun Q k=>ao rfl rfl (aD (cF hl) k)
theorem mW(hl:es.length<b8):Ev (ah W (d+1) 58 [.bI es,.lst [.str x],.lst [t]] mu) ((true,.bI (br (bX es) x t)),mu):=fun Q k=>ao rfl rfl (aD (cF hl) (aD (o7 hl) k))
theorem Va(hl:es.length<b8):Ev (ah W (d+1) 58 [.bI es,.lst [.str x,.str y],.lst [t,u]] mu) ((true,.bI (br (br (bX es) x t) y u)),mu):=fun Q k=>ao rfl rfl (aD (cF hl) (aD (o7 hl) (aD (Dg hl) k)))
noncomputable abbrev GZ(es:List (Str×MV))(x:Str)(v:MV):List (Str×MV):=br (bX es) x (.tup [sM "known",v])
theorem si(h1:Ev (ah W d 61 [s,.bI es,.ref i] mu) ((false,.tup (.str k::t)),gH))(l:t.length<b8)(hk:k=af "error" \/k=af "stuck" \/k=af "long"):
 Ev (ah W (d+1) 60 [.inst .Case [s,x,as,o],.bI es,.ref i] mu) ((false,.tup (.str k::t)),gH):=fun Q q=>
 ao rfl rfl (h1 _ (aD (a:=(MV.str k::t).length) l (aY (b:=sq (af "error") k||(sq (af "stuck") k||(sq (af "long") k||false))) (by
  rcases hk with rfl|rfl|rfl
  ·refine k9.symm▸?_;rfl
  ·refine k9.symm▸?_;rw[rW,nF]
  ·refine k9.symm▸?_;rw[rW,nF,nF]) q)))
end
variable{W w:Nat}
section
variable{d i:Nat}{mu mu' gH:List MC}{F:Int}{e env b v o:MV}{es:List (Str×MV)}
theorem KS(hl:es.length<b8)(h1:Ev (ah W (d+1) 61 [s,.bI es,.ref i] mu) ((false,.tup [sM "fun",ps,b,e1]),gH)):
 Lc (ah W (d+2) 60 [.inst .Case [s,.str x,.lst [],.inst c fs],.bI es,.ref i] mu) (ah W (d+1) 61 [.inst c fs,.bI (GZ es x (.tup [sM "fun",ps,b,e1])),.ref i] gH):=fun Q k=>
 ao rfl rfl (h1 _ (mW hl _ k))
theorem Ay(hl:es.length<b8)(h1:Ev (ah W (d+1) 61 [s,.bI es,.ref i] mu) ((false,.tup [sM "int",.int n]),gH)):
 Lc (ah W (d+2) 60 [.inst .Case [s,.str x,.lst [.inst .Alt [.tup [sM "lit",sM "int",.int z],.lst [],a]],.inst c fs],.bI es,.ref i] mu)
 (ah W (d+1) 61 [if n=z then a else .inst c fs,.bI (GZ es x (.tup [sM "int",.int n])),.ref i] gH):=fun Q k=>by
 by_cases hz:n=z
 ·subst hz
  rw[if_pos rfl]at k
  refine ao rfl rfl (h1 _ (mW hl _ (aY (A:=ah W (d+1) 61 [a,.bI (GZ es x (.tup [sM "int",.int n])),.ref i] gH Q) ?_ k)))
  show(decide (n=n)&&true)=true
  simp
 ·replace k:=if_neg hz▸k
  refine ao rfl rfl (h1 _ (mW hl _ (bp ?_ k)))
  show(decide (z=n)&&true)=false
  simp[bY hz]
section
variable{s:MV}{x y:Str}{a t:MV}(hl:es.length+1<b8)
include hl
theorem PB:(GZ es x v).length<b8:=aQ dI (by rw[f9];exact hl)
theorem xk(h1:Ev (ah W (d+1) 61 [s,.bI es,.ref i] mu) ((false,.tup [sM "con",sM "C",.lst [t]]),gH)):
 Lc (ah W (d+2) 60 [.inst .Case [s,.str x,.lst (.inst .Alt [.tup [sM "con",sM "C"],.lst [.str y],a]::as),o],.bI es,.ref i] mu)
 (ah W (d+1) 61 [a,.bI (br (bX (GZ es x (.tup [sM "con",sM "C",.lst [t]]))) y t),.ref i] gH):=fun Q k=>
 ao rfl rfl (h1 _ (mW (cu hl) _ (mW (PB hl) _ k)))
theorem Gw(h1:Ev (ah W (d+1) 61 [s,.bI es,.ref i] mu) ((false,.tup [sM "con",sM "D",.lst []]),gH)):
 Lc (ah W (d+2) 60 [.inst .Case [s,.str x,.lst [.inst .Alt [.tup [sM "con",sM "C"],ys,a],.inst .Alt [.tup [sM "con",sM "D"],.lst [],b]],o],.bI es,.ref i] mu)
 (ah W (d+1) 61 [b,.bI (bX (GZ es x (.tup [sM "con",sM "D",.lst []]))),.ref i] gH):=fun Q k=>
 ao rfl rfl (h1 _ (mW (cu hl) _ (Vb (PB hl) _ k)))
theorem Gx(h1:Ev (ah W (d+1) 61 [s,.bI es,.ref i] mu) ((false,.tup [sM "con",sM "D",.lst []]),gH)):
 Lc (ah W (d+2) 60 [.inst .Case [s,.str x,.lst [.inst .Alt [.tup [sM "con",sM "C"],ys,a]],.inst c fs],.bI es,.ref i] mu)
 (ah W (d+1) 61 [.inst c fs,.bI (GZ es x (.tup [sM "con",sM "D",.lst []])),.ref i] gH):=fun Q k=>
 ao rfl rfl (h1 _ (mW (cu hl) _ k))
end
theorem n5(l:t.length<b8)(hk:k=af "error" \/k=af "long"):
 Ev (ah (w+2) (d+1) 59 [.tup (.str k::t),.lst (a::as),.ref i] mu) ((false,.tup (.str k::t)),mu):=fun Q q=>by
 rcases hk with rfl|rfl
 ·exact ao rfl rfl (aD (a:=(MV.str _::t).length) l (aD (a:=(MV.str _::t).length) l q))
 ·exact ao rfl rfl (aD (a:=(MV.str _::t).length) l (aD (a:=(MV.str _::t).length) l q))
theorem KX(hl:es.length<b8):Lc (ah (w+2) (d+2) 59 [.tup [sM "fun",.lst [.str p],b,.bI es],.lst [t],.ref i] mu) (ah (w+2) (d+1) 61 [b,.bI (br (bX es) p t),.ref i] mu):=fun Q k=>
 ao rfl rfl (mW hl _ (ZX (c:=ah (w+2) (d+1) 61 [b,.bI (br (bX es) p t),.ref i] mu) k fun b m mu=>by induction b<;>rfl))
theorem Gy{p q:Str}(hl:es.length<b8):Lc (ah (w+2) (d+2) 59 [.tup [sM "fun",.lst [.str p,.str q],b,.bI es],.lst [t,u],.ref i] mu) (ah (w+2) (d+1) 61 [b,.bI (br (br (bX es) p t) q u),.ref i] mu):=fun Q k=>
 ao rfl rfl (Va hl _ (ZX (c:=ah (w+2) (d+1) 61 [b,.bI (br (br (bX es) p t) q u),.ref i] mu) k fun b m mu=>by induction b<;>rfl))
theorem Gz{p q:Str}(hl:es.length<b8):Ev (ah (w+2) (d+2) 59 [.tup [sM "fun",.lst [.str p,.str q],b,.bI es],.lst [t],.ref i] mu) ((false,.tup [sM "fun",.lst [.str q],b,.bI (br (bX es) p t)]),mu):=fun Q k=>
 ao rfl rfl (mW hl _ k)
end
noncomputable abbrev sV:MV:=.tup [sM "error"]
noncomputable abbrev oX:MV:=.tup [sM "long"]
noncomputable abbrev Run:=Nat->Nat->List MC->oS->Prop
noncomputable def Out{α:Type}(V:MV->α->Prop)(r:R α)(F:Int)(o:MV)(F':Int):Prop:=
 F'<=F/\((r.c<=F/\((r.v=none/\o=sV)\/∃x,r.v=some x/\V o x/\F'=F-r.c))\/(F<r.c/\F'<0/\o=oX))
noncomputable def ja{α:Type}(V:MV->α->Prop)(s:Nat)(r:R α)(run:Run):Prop:=
 ∀dep i mu(F:Int),dX mu i F->(r.d+s<=dep\/2*F.toNat+3+s<=dep)->∃o F',Ev (run dep i mu) ((false,o),cV mu i F')/\Out V r F o F'
section
variable{w:Nat}
noncomputable def dZ(w:Nat)(e env:MV):Run:=fun dep i mu=>ah (w+2) dep 61 [e,env,.ref i] mu
noncomputable def runC(w:Nat)(m:MV)(as:List MV):Run:=fun dep i mu=>ah (w+2) dep 59 [m,.lst as,.ref i] mu
noncomputable def VI(m:MV)(z:Int):Prop:=m=.tup [sM "int",.int z]/\0<=z
noncomputable def Hd(w:Nat)(a:Di)(x:MV):Prop:=∃e env,x=.tup [e,env]/\ja VI 0 a (dZ w e env)
noncomputable def VF(w:Nat)(m:MV)(I:Di->Di):Prop:=(∃ps b env,m=.tup [sM "fun",ps,b,env])/\∀x a,Hd w a x->ja VI 1 (I a) (runC w m [x])
noncomputable def VC(w:Nat)(m:MV):Option Di->Prop
 |none=>m=.tup [sM "con",sM "D",.lst []]
 |some t=>∃x,m=.tup [sM "con",sM "C",.lst [x]]/\Hd w t x
noncomputable def pR(w:Nat):(k:K)->Dn k->Run->Prop
 |.i,r,run=>ja (α:=Int) VI 0 r run
 |.f,r,run=>ja (α:=Di->Di) (VF w) 0 r run
 |.c,r,run=>ja (α:=Option Di) (VC w) 0 r run
theorem J7:cV (cV mu i F) i G=cV mu i G:=fW ..
section
variable{α β:Type}{V:MV->α->Prop}{r r':R α}{run:Run}{dep i:Nat}{mu:List MC}{F F' F1 F2 G:Int}{o:MV}
noncomputable def Done(V:MV->α->Prop)(r:R α)(F:Int)(mu:List MC)(i:Nat)(c:oS->Prop):Prop:=∃o F',Ev c ((false,o),cV mu i F')/\Out V r F o F'
theorem Done.mk(h:Ev c ((false,o),cV mu i F'))(O:Out V r F o F'):Done V r F mu i c:=⟨o,F',h,O⟩
theorem Done.elim{p:Prop}(h:Done V r F mu i c)(k:∀o F',Ev c ((false,o),cV mu i F')->Out V r F o F'->p):p:=
 let ⟨o,F',a,b⟩:=h
 k o F' a b
theorem ja.on(h:ja V s r run)(hf:dX mu i G)(hd:r.d+s<=dep\/2*F.toNat+3+s<=dep):Done V r F mu i (run dep i (cV mu i F)):=by
 obtain⟨o,F',h1,h2⟩:=h dep i (cV mu i F) F (u5 hf) hd
 rw[J7]at h1
 exact⟨o,F',h1,h2⟩
theorem Out.err(hv:r.v=none)(hc:(r.c:Int)<=F)(h:F'<=F):Out V r F sV F':=⟨h,.inl ⟨hc,.inl ⟨hv,rfl⟩⟩⟩
theorem Out.val{x:α}(hv:r.v=some x)(ho:V o x)(hc:(r.c:Int)<=F)(e:F'=F-r.c):Out V r F o F':=⟨by rw[e];exact vM _ (bk _),.inl ⟨hc,.inr ⟨x,hv,ho,e⟩⟩⟩
theorem Out.long(hc:F<r.c)(h:F'<0)(h':F'<=F):Out V r F oX F':=⟨h',.inr ⟨hc,h,rfl⟩⟩
theorem Out.elim{p:Prop}(h:Out V r F o F')(ke:r.v=none->(r.c:Int)<=F->o=sV->p)(kv:∀x,r.v=some x->V o x->(r.c:Int)<=F->F'=F-r.c->p)(kl:F<r.c->F'<0->o=oX->p):p:=
 h.2.elim (fun a=>a.2.elim (fun b=>ke b.1 a.1 b.2) fun⟨x,e1,e2,e3⟩=>kv x e1 e2 a.1 e3) fun a=>kl a.1 a.2.1 a.2.2
theorem c1{n a b:Nat}{F F1:Int}(h:F1=F-n)(e:a=n+b)(g:(b:Int)<=F1):(a:Int)<=F:=by
 subst e;subst h;rw[gx,Bl];exact Int.add_le_of_le_sub_right g
theorem c2{n a b:Nat}{F F1 F2:Int}(h:F1=F-n)(e:a=n+b)(g:F2=F1-b):F2=F-a:=by
 subst e;subst h;rw[g,gx,Int.sub_sub]
theorem c3{n a b:Nat}{F F1:Int}(h:F1=F-n)(e:a=n+b)(g:F1<b):F<a:=by
 subst e;subst h;rw[gx];exact Int.lt_add_of_sub_left_lt g
theorem c4{n:Nat}{F F1 F2:Int}(h:F1=F-n)(g:F2<=F1):F2<=F:=by lia
theorem c5{F F1 F2:Int}(h:F1<=F-1)(g:F2<=F1):F2<=F:=by lia
theorem c6{a b:Nat}{F:Int}(e:a=1+b)(g:(b:Int)<=F-1):(a:Int)<=F:=c1 rfl e g
theorem c7{a b n:Nat}{F:Int}(e:a=1+b+n)(g:F-1<b):F<a:=e9 (xB g) (bQ.mpr (e▸aa (bu (aW b 1)) (ak _ n)))
theorem c8{a:Nat}{F F1:Int}(e:F1=F-1-a):F1=F-((1+a:Nat):Int):=by
 rw[e,gx,Int.sub_sub];rfl
theorem Out.more{n:Nat}(h:Out V r F1 o F2)(hF:F1=F-n)(hv:r'.v=r.v)(hc:r'.c=n+r.c):Out V r' F o F2:=
 h.elim (fun e1 e2 e3=>by rw[e3];exact .err (hv.trans e1) (c1 hF hc e2) (c4 hF h.1)) (fun x e1 e2 e3 e4=>.val (hv.trans e1) e2 (c1 hF hc e3) (c2 hF hc e4))
   fun e1 e2 e3=>by rw[e3];exact .long (c3 hF hc e1) e2 (c4 hF h.1)
theorem Out.bind{p:Prop}{r1:R β}{g:β->R α}(O:Out V0 r1 (F-1) o F1)(hn:r1.v=none->r'.v=none/\r'.c=1+r1.c)(hs:∀x,r1.v=some x->r'.v=(g x).v/\r'.c=1+r1.c+(g x).c)
 (kx:(o=sV\/o=oX)->(∀F2,F2<=F1->Out V r' F o F2)->p) (kv:∀x,r1.v=some x->V0 o x->(∀o2 F2,Out V (g x) F1 o2 F2->Out V r' F o2 F2)->p):p:=
 O.elim (fun e1 e2 e3=>kx (.inl e3) fun F2 h2=>by rw[e3];exact .err (hn e1).1 (c6 (hn e1).2 e2) (c5 O.1 h2))
   (fun x e1 e2 e3 e4=>kv x e1 e2 fun o2 F2 O2=>O2.more (c8 e4) (hs x e1).1 (hs x e1).2)
   fun e1 e2 e3=>kx (.inr e3) fun F2 h2=>by
    rw[e3]
    refine .long ?_ (Hn h2 e2) (c5 O.1 h2)
    induction hv:r1.v with
    |none=>exact c7 (n:=0) (hn hv).2 e1
    |some x=>exact c7 (hs x hv).2 e1
theorem jQ(hc:1<=r.c)(hd:1<=r.d)
 (h:∀dep i mu(F:Int),dX mu i F->1<=F->(r.d<=dep+1\/2*F.toNat+3<=dep+1)->Done V r F mu i (ah (w+2) (dep+1) 61 [e,env,.ref i] mu)):ja V 0 r (dZ w e env):=by
 intro dep i mu F hF hp
 match dep with
 |0=>exact(hp.elim (fun q=>eF 0 (aa hd q)) fun q=>eF _ (aa (aq 3 _) q)).elim
 |dep+1=>
  by_cases h1:F<1
  ·exact⟨_,F-1,Bn hF h1,.long (e9 h1 (bQ.mpr hc)) (Int.sub_neg_of_lt h1) (vM _ (by decide))⟩
  ·exact h dep i mu F hF (qW.mp h1) hp
theorem k4(hv:∀d i mu F,dX mu i F->1<=F->Ev (ah (w+2) (d+1) 61 [e,env,.ref i] mu) ((false,m),cV mu i (F-1)))(h:V m x):ja V 0 (⟨1,1,some x⟩:R α) (dZ w e env):=
 jQ (ab 1) (ab 1) fun dep i mu F hF h1 _=>.mk (hv dep i mu F hF h1) (.val rfl h h1 rfl)
end
noncomputable def look(es:List (Str×MV))(s:Str):Option MV:=(cf es s).map (fT es)
theorem fr{m n s D dep:Nat}{F F1:Int}(h:m<=D\/2*F.toNat+3<=D)(h1:1<=F)(hF:F1<=F-1)(hm:m<=D->n+s<=dep)(hd:D+s<=dep+2):n+s<=dep\/2*F1.toNat+3+s<=dep:=by
 refine h.imp hm fun q=>?_
 have h3:F1.toNat+1<=F.toNat:=Nat.succ_le_of_lt ((Int.toNat_lt_toNat (e9 Int.zero_lt_one h1)).mpr (Int.lt_of_le_sub_one hF))
 refine Nat.le_of_add_le_add_right (b:=2) (aa ?_ hd)
 rw[ew]
 exact aE (aa (aE (aK 2 h3) 3) q) s
theorem fr2{m D:Nat}{F:Int}(h:m+2<=D+1\/2*F.toNat+3<=D+1):∃d,D=d+1:=by
 induction D with
 |zero=>exact(h.elim (fun h=>eF _ (aR h)) fun h=>eF _ (aR h)).elim
 |succ d=>exact⟨d,rfl⟩
theorem Iu(h:Ev (ah W dep f as mu) r):∃d,dep=d+1:=
 match dep,h with
 |0,h=>(Dw h).elim
 |d+1,_=>⟨d,rfl⟩
section
variable{e env ea eb b:MV}{es:List (Str×MV)}
theorem Ea(hz:0<=z):ja VI 0 (⟨1,1,some z⟩:Di) (dZ w (fF z) env):=k4 (fun d i mu F hF h1=>wq hF h1) ⟨rfl,hz⟩
theorem Pe{α:Type}{V:MV->α->Prop}:ja V 0 (⟨1,1,none⟩:R α) (dZ w IW env):=
 jQ (ab 1) (ab 1) fun dep i mu F hF h1 _=>.mk (Ew hF h1) (.err rfl h1 (vM _ (by decide)))
theorem GA{V:MV->α->Prop}{m:MV}{x:α}(h:V m x):ja V 0 (⟨1,1,some x⟩:R α) (dZ w (sM "known") m):=k4 (fun d i mu F hF h1=>y8 hF h1) h
theorem tW(hd:1<=r.d)(hl:look es s=some (.tup [e,env]))(h:ja V 0 r (dZ w e env)):ja V 0 r.tick (dZ w (bJ s) (.bI es)):=
 jQ (aq 1 _) (aq 1 (r.d+1)) fun dep i mu F hF h1 hp=>by
  obtain⟨d,rfl⟩:=fr2 hp
  exact(h.on (F:=F-1) (dep:=d) hF (fr hp h1 (f6 _) (fun q=>aR (aR q)) (ab _))).elim fun o F' h2 O=>.mk ((Eu hF h1 hl).trans h2) (O.more (n:=1) rfl rfl (aW _ _))
theorem PU:af "error" ≠af "int" :=by decide
theorem PT:af "long" ≠af "int" :=by decide
theorem aal(hF:dX mu i F)(h1:1<=F)(e1:Ev (ah (w+2) d 61 [ea,env,.ref i] (cV mu i (F-1))) ((false,o1),cV mu i F1))(e2:Ev (ah (w+2) d 61 [eb,env,.ref i] (cV mu i F1)) ((false,o2),cV mu i F2))(ho:o1=sV\/o1=oX):
 Ev (ah (w+2) (d+1) 61 [iQ ea eb,env,.ref i] mu) ((false,o1),cV mu i F2):=by
 rcases ho with rfl|rfl
 ·exact rZ hF h1 e1 e2 (ae rfl) PU
 ·exact rZ hF h1 e1 e2 (ae rfl) PT
theorem ad1{a b c D:Nat}(h:1+max a b<=D+1)(g:c<=max a b):c+0<=D:=aR (aa (by rw[aW 1];exact bA g) h)
theorem AH{V2:MV->Int->Prop}{a c:Di}(ha:ja VI 0 a (dZ w ea env))(hb:ja V2 0 c (dZ w eb env))(h2:∀m y,V2 m y->m=.tup [sM "int",.int y]/\∀x,a.v=some x->0<=x->0<=x+y):ja VI 0 (oR a c) (dZ w (iQ ea eb) env):=
 jQ (aa (ak 1 a.c) (ak _ _)) (ak 1 _) fun dep i mu F hF h1 hp=>
  (ha.on (F:=F-1) (dep:=dep) hF (fr hp h1 (f6 _) (fun q=>ad1 q (aC _ _)) (dW _))).elim fun o1 F1 e1 O1=>
  (hb.on (F:=F1) (dep:=dep) hF (fr hp h1 O1.1 (fun q=>ad1 q (az _ _)) (dW _))).elim fun o2 F2 e2 O2=>
  O1.bind (r':=oR a c) (V:=VI) (g:=fun x=>⟨c.c,0,c.v.map fun y=>x+y⟩) (fun e=>⟨by unfold oR;rw[e];rfl,by unfold oR;rw[e];rfl⟩) (fun x e=>⟨by unfold oR;rw[e];rfl,by unfold oR;rw[e];rfl⟩)
    (fun ho k=>.mk (aal hF h1 e1 e2 ho) (k F2 O2.1)) fun x ex hv k=>by
      obtain⟨rfl,hx⟩:=hv
      exact O2.elim (fun q1 q2 q3=>.mk (qf hF h1 e1 (q3▸e2) (ae rfl) PU) (k _ _ (.err (congrArg (VT _) q1) q2 O2.1)))
       (fun y q1 q2 q3 q4=>.mk (y9 hF h1 e1 ((h2 _ _ q2).1▸e2)) (k _ _ (.val (congrArg (VT _) q1) ⟨rfl,(h2 _ _ q2).2 x ex hx⟩ q3 q4)))
       fun q1 q2 q3=>.mk (qf hF h1 e1 (q3▸e2) (ae rfl) PT) (k _ _ (.long q1 q2 O2.1))
theorem Ed(ha:ja VI 0 a (dZ w ea env))(hb:ja VI 0 c (dZ w eb env)):ja VI 0 (oR a c) (dZ w (iQ ea eb) env):=
 AH ha hb fun _ _ h=>⟨h.1,fun x _ hx=>xC hx h.2⟩
noncomputable def wR:Wt:=⟨2,1,1⟩
noncomputable def wg{β:Type}(f:R β)(r2:β->Di):Di:=
 ⟨1+f.c+(f.v.elim 0 fun I=>(r2 I).c),f.v.elim (1+f.d) fun I=>max (1+f.d) (2+(r2 I).d),f.v.bind fun I=>(r2 I).v⟩
theorem LJ(f:R β)(r2:β->Di):1+f.d<=(wg f r2).d:=by
 unfold wg
 cases f.v with
 |none=>exact ab _
 |some x=>exact aC _ _
theorem ap1(h:1+m<=n)(g:n<=D+1):m+0<=D:=aR (aa (aa (bu (aW m 1)) h) g)
theorem ap2(h:n=max a (2+m))(g:n<=D+1+1):m+1<=D+1:=aR (aa (by rw[h,aW 2];exact az a (m+2)) g)
theorem Rk(ho:o=sV\/o=oX):Ev (ah (w+2) (d+1) 59 [o,.lst (a::as),.ref i] mu) ((false,o),mu):=by
 rcases ho with rfl|rfl
 ·exact n5 (ae rfl) (.inl rfl)
 ·exact n5 (ae rfl) (.inr rfl)
theorem AG{V0:MV->β->Prop}{f:R β}{r2:β->Di}{x a0:MV}{as:List MV}
 (o5:∀d i mu gH(F:Int) fl o,dX mu i F->1<=F->Ev (ah (w+2) d 61 [ea,env,.ref i] (cV mu i (F-1))) ((fl,o),gH)->Lc (ah (w+2) (d+1) 61 [x,env,.ref i] mu) (ah (w+2) d 59 [o,.lst (a0::as),.ref i] gH))
 (hf:ja V0 0 f (dZ w ea env)) (hc:∀m I,f.v=some I->V0 m I->ja VI 1 (r2 I) (runC w m (a0::as))):
 ja VI 0 (wg f r2) (dZ w x env):=
 jQ (aa (ak 1 f.c) (ak _ _)) (aa (ak 1 _) (LJ f r2)) fun dep i mu F hF h1 hp=>
  (hf.on (F:=F-1) (dep:=dep) hF (fr hp h1 (f6 _) (fun q=>ap1 (LJ f r2) q) (dW _))).elim fun o1 F1 e1 O1=>by
    obtain⟨d,rfl⟩:=Iu e1
    exact O1.bind (r':=wg f r2) (V:=VI) (g:=r2) (fun e=>⟨by unfold wg;rw[e];rfl,by unfold wg;rw[e];rfl⟩) (fun x e=>⟨by unfold wg;rw[e];rfl,by unfold wg;rw[e];rfl⟩)
     (fun ho k=>.mk ((o5 _ _ _ _ _ _ _ hF h1 e1).trans (Rk ho)) (k F1 (f6 _))) fun I ex hv k=>
       ((hc _ _ ex hv).on (F:=F1) (dep:=d+1) hF (fr hp h1 O1.1 (fun q=>ap2 (a:=1+f.d) (by unfold wg;refine ex.symm▸?_;rfl) q) (ab _))).elim fun o2 F2 e2 O2=>.mk ((o5 _ _ _ _ _ _ _ hF h1 e1).trans e2) (k _ _ O2)
theorem Ec(hf:ja V0 0 f (dZ w ea env))(hc:∀m I,f.v=some I->V0 m I->ja VI 1 (I a) (runC w m [.tup [eb,env]])):
 ja VI 0 (jC wR f a) (dZ w (.inst .App [ea,.lst [eb]]) env):=by
 have e:jC wR f a=wg f fun I=>I a:=by
  obtain⟨fc,fd,_|fv⟩:=f<;>rfl
 rw[e]
 exact AG (fun d i mu gH F fl o h h1 h2=>pA h h1 h2) hf hc
theorem dn1{m D:Nat}{F:Int}(h:m+1<=D\/2*F.toNat+3+1<=D):∃d,D=d+1/\(m+0<=d\/2*F.toNat+3+0<=d):=by
 induction D with
 |zero=>exact(h.elim (eF _) (eF _)).elim
 |succ d=>exact⟨d,rfl,h.imp aR aR⟩
theorem rM(hl:es.length<b8)(h:ja VI 0 r (dZ w b (.bI (br (bX es) p x)))):ja VI 1 r (runC w (.tup [sM "fun",.lst [.str p],b,.bI es]) [x]):=fun dep i mu F hF hp=>by
 obtain⟨d,rfl,hq⟩:=dn1 hp
 obtain⟨o,F',e1,O1⟩:=h d i mu F hF hq
 obtain⟨d,rfl⟩:=Iu e1
 exact⟨o,F',(KX hl).trans e1,O1⟩
theorem vd(h:V0 (.tup [sM "fun",ps,b,env]) I):ja V0 0 (⟨1,1,some I⟩:Df) (dZ w (.inst .iu [ps,b]) env):=k4 (fun d i mu F hF h1=>wu hF h1) h
theorem Pd(hl:es.length<b8)(h:∀x a,Hd w a x->ja VI 0 (I a) (dZ w b (.bI (br (bX es) p x)))):ja (VF w) 0 (⟨1,1,some I⟩:Df) (dZ w (.inst .iu [.lst [.str p],b]) (.bI es)):=
 vd ⟨⟨_,_,_,rfl⟩,fun x a hx=>rM hl (h x a hx)⟩
theorem Lq:ja (VC w) 0 (⟨1,1,some none⟩:Dc) (dZ w (.inst .o9 [sM "D",.lst []]) env):=k4 (V:=VC w) (fun d i mu F hF h1=>Bt hF h1) rfl
theorem Lp(ha:ja VI 0 a (dZ w ea env)):ja (VC w) 0 (⟨1,1,some (some a)⟩:Dc) (dZ w (.inst .o9 [sM "C",.lst [ea]]) env):=k4 (V:=VC w) (fun d i mu F hF h1=>Br hF h1) ⟨_,rfl,_,_,rfl,ha⟩
theorem Pc(o5:∀d i mu(F:Int),dX mu i F->1<=F->Lc (ah (w+2) (d+1) 61 [x,env,.ref i] mu) (ah (w+2) d 61 [b,yu,.ref i] (cV mu i (F-1))))
 (h:ja V 0 r (dZ w b yu)):ja V 0 (ql 1 1 r) (dZ w x env):=
 jQ (ak 1 _) (ak 1 _) fun dep i mu F hF h1 hp=>
  (h.on (F:=F-1) (dep:=dep) hF (fr hp h1 (f6 _) (fun q=>ap1 (ab _) q) (dW _))).elim fun o F' h2 O=>.mk ((o5 dep i mu F hF h1).trans h2) (O.more (n:=1) rfl rfl rfl)
section
variable{α β:Type}{s:R α}{g:α->R β}
theorem O5:1<=(kX s g).c:=by
 induction e:s.v with
 |none=>rw[qG e];exact ak 1 _
 |some x=>rw[oF e];exact aa (ak 1 s.c) (ak _ _)
theorem yC:s.d+2<=(kX s g).d:=by
 induction e:s.v with
 |none=>rw[qG e];exact bu (aW _ _)
 |some x=>rw[oF e];exact aa (bu (aW _ _)) (ag (aC _ _) _)
end
theorem KR(h:Ev (ah (w+2) d 61 [se,.bI es,.ref i] mu) ((false,o),gH))(ho:o=sV\/o=oX):Ev (ah (w+2) (d+1) 60 [.inst .Case [se,xn,as,oo],.bI es,.ref i] mu) ((false,o),gH):=by
 rcases ho with rfl|rfl
 ·exact si h (ae rfl) (.inl rfl)
 ·exact si h (ae rfl) (.inr (.inr rfl))
theorem cs1(h:m+2<=n)(g:n<=D+1+1):m+0<=D:=aR (aR (aa h g))
theorem cs2(h:n=2+max a m)(g:n<=D+1+1):m+0<=D:=aR (aR (aa (by rw[h,aW 2];exact aE (az a m) 2) g))
theorem AF(hs:ja V0 0 s (dZ w se (.bI es)))
 (o5:∀x m,s.v=some x->V0 m x->∃bx ex,ja V 0 (g x) (dZ w bx ex)/\∀d i mu gH,Ev (ah (w+2) (d+1) 61 [se,.bI es,.ref i] mu) ((false,m),gH)->
   Lc (ah (w+2) (d+2) 60 [.inst .Case [se,xn,as,o],.bI es,.ref i] mu) (ah (w+2) (d+1) 61 [bx,ex,.ref i] gH)):
 ja V 0 (kX s g) (dZ w (.inst .Case [se,xn,as,o]) (.bI es)):=
 jQ O5 (aa (aq 1 _) yC) fun dep i mu F hF h1 hp=>by
  obtain⟨d,rfl⟩:=fr2 (hp.imp_left (aa yC))
  exact(hs.on (F:=F-1) (dep:=d) hF (fr hp h1 (f6 _) (fun q=>cs1 yC q) (ab _))).elim fun o1 F1 e1 O1=>by
   obtain⟨d,rfl⟩:=Iu e1
   exact O1.bind (r':=kX s g) (V:=V) (g:=g) (fun e=>by exact(qG e).symm▸⟨rfl,rfl⟩) (fun x e=>by rw[oF e];exact⟨rfl,rfl⟩)
    (fun ho k=>.mk ((ui hF h1).trans (KR e1 ho)) (k F1 (f6 _))) fun x ex hv k=>
      let ⟨bx,ex',hb,hst⟩:=o5 x _ ex hv
      (hb.on (F:=F1) (dep:=d+1) hF (fr hp h1 O1.1 (fun q=>cs2 (a:=s.d) (by rw[oF ex]) q) (ab _))).elim fun o2 F2 e2 O2=>.mk ((ui hF h1).trans ((hst d i _ _ e1).trans e2)) (k _ _ O2)
end
end
end Pu
namespace Pu
open PySem Mine PySem.W PySem.W.KIN PySem.NumText PyProof.Rows
section
variable{es:List (Str×MV)}{k k':Str}{v:MV}
theorem gX:cf ((a,b)::r) k'=if a=k' then some b else cf r k':=by
 show @bE (fun _=>Option MV) (cf r k') (some b) (sq a k')=_
 by_cases h:a=k'
 ·rw[if_pos h,show sq a k'=true from decide_eq_true h]
 ·rw[if_neg h,show sq a k'=false from decide_eq_false h]
theorem BI:br ((a,b)::r) k v=if a=k then(a,v)::r else(a,b)::br r k v:=by
 show @bE (fun _=>List (Str×MV)) ((a,b)::br r k v) ((a,v)::r) (sq a k)=_
 by_cases h:a=k
 ·rw[if_pos h,show sq a k=true from decide_eq_true h]
 ·rw[if_neg h,show sq a k=false from decide_eq_false h]
theorem eD:∀{es:List (Str×MV)},cf (br es k v) k'=if k'=k then some v else cf es k':=by
 intro es
 induction es with
 |nil=>
  show cf [(k,v)] k'=_
  rw[gX]
  by_cases h:k=k'
  ·rw[if_pos h,if_pos h.symm]
  ·rw[if_neg h,if_neg (fun e=>h e.symm)]
 |cons zx r cz=>
  obtain⟨a,b⟩:=zx
  rw[BI,gX]
  by_cases h:a=k
  ·rw[if_pos h,gX]
   subst h
   by_cases h2:a=k'
   ·rw[if_pos h2,if_pos h2.symm]
   ·rw[if_neg h2,if_neg (fun e=>h2 e.symm),if_neg h2]
  ·rw[if_neg h,gX]
   rw[cz]
   by_cases h2:a=k'
   ·rw[if_pos h2,if_pos h2,if_neg (fun e=>h (h2.trans e))]
   ·rw[if_neg h2,if_neg h2]
theorem kW:cf (bX es) k=look es k:=by
 unfold look bX
 suffices h:∀f:MV->MV,∀l:List (Str×MV),cf (l.map fun p=>(p.1,f p.2)) k=(cf l k).map f from h (fT es) es
 intro f l
 induction l with
 |nil=>rfl
 |cons p r ih=>
  obtain⟨a,b⟩:=p
  rw[gX]
  show cf ((a,f b)::r.map fun p=>(p.1,f p.2)) k=_
  rw[gX]
  by_cases h:a=k
  ·rw[if_pos h,if_pos h];rfl
  ·rw[if_neg h,if_neg h];exact ih
theorem Bw:fT a (fT b v)=fT b v:=by cases v<;>rfl
noncomputable def NK(es:List (Str×MV)):Prop:=∀k l,(cf es k).map (fT l)=cf es k
theorem jI:NK (bX es):=by
 intro k l
 rw[kW]
 unfold look
 rw[Option.map_map]
 congr 1
 funext x
 exact Bw
theorem xQ(h:NK es):NK (br es k (.tup t)):=by
 intro k' l
 rw[eD]
 by_cases e:k'=k
 ·rw[if_pos e];rfl
 ·rw[if_neg e];exact h k' l
theorem tL(h:NK es):look es k=cf es k:=h k es
theorem iR(h:NK es):look (br es k (.tup t)) k'=if k'=k then some (.tup t)else look es k':=by
 rw[tL (xQ h),eD,tL h]
theorem jz:look (bX es) k=look es k:=by rw[tL jI,kW]
theorem Fp(h:NK es):look (br es k (.g9 a)) k'=if k'=k then some (.tup [a,.bI (br es k (.g9 a))])else look es k':=by
 show(cf (br es k (.g9 a)) k').map _=_
 rw[eD]
 by_cases e:k'=k
 ·rw[if_pos e,if_pos e];rfl
 ·rw[if_neg e,if_neg e,tL h];exact h k' _
end
theorem yz(a b:Str):(a++b).cps.toList=a.cps.toList++b.cps.toList:=C7
noncomputable def dg(k:Nat):List Nat:=(Nat.toDigits 10 k).map Char.toNat
theorem oz(x:Nm):(aX x).cps.toList=x.b::(if x.k=0 then []else 46::dg x.k):=by
 unfold aX
 by_cases h:x.k=0
 ·rw[if_pos h,if_pos h]
 ·rw[if_neg h,if_neg h,yz,yz,signs_num]
  rfl
theorem UK(h:dg a=dg b):a=b:=by
 have:=congrArg Wz h
 unfold dg at this
 rwa [val_back,val_back]at this
theorem oy(h:aX x=aX y):x=y:=by
 have e:=congrArg (fun s=>s.cps.toList) h
 simp only[oz]at e
 obtain⟨b,k⟩:=x
 obtain⟨b',k'⟩:=y
 simp only[L5.injEq]at e
 obtain⟨rfl,e⟩:=e
 by_cases h1:k=0<;>by_cases h2:k'=0<;>simp[h1,h2]at e⊢
 exact UK e
theorem j0(h:x≠y):aX x≠aX y:=fun e=>h (oy e)
theorem jM(h:x.b∈bases):aX x≠gS:=by
 intro e
 have e:=congrArg (fun s=>s.cps.toList) e
 simp only[oz]at e
 rw[(by decide:gS.cps.toList=[103])]at e
 have:=(L5.inj e).1
 rw[this]at h
 exact absurd h (by decide)
end Pu
namespace Pu
open PySem Mine
section
variable{w:Nat}{ea eb b env:MV}{es:List (Str×MV)}
noncomputable abbrev aS:Str:=af "a"
noncomputable abbrev bS:Str:=af "b"
noncomputable abbrev adB:MV:=iQ (bJ aS) (bJ bS)
noncomputable def adE:MV:=.inst .iu [.lst [.str aS,.str bS],adB]
noncomputable def He(es:List (Str×MV)):Prop:=look es gS=some (.tup [adE,.bI []])
noncomputable abbrev abj:MV:=.tup [sM "fun",.lst [.str aS,.str bS],adB,.bI []]
theorem QD(hg:He es):ja (fun m(_:Unit)=>m=abj) 0 (⟨2,3,some ()⟩:R Unit) (dZ w (bJ gS) (.bI es)):=
 tW (r:=⟨1,1,some ()⟩) (ab 1) hg (k4 (fun d i mu F hF h1=>wu hF h1) rfl)
theorem oH(hx:Hd w a x)(hd:1<=a.d)(hl:look es s=some x):ja VI 0 a.tick (dZ w (bJ s) (.bI es)):=by
 obtain⟨e,env,rfl,h⟩:=hx
 exact tW hd hl h
theorem Eb(h:ja V 0 r (dZ w e env)):1<=r.d:=by
 rcases Hh r.d with h0|h0
 ·obtain⟨o,F',e1,_⟩:=h 0 0 [.lst [.int 0]] 0 rfl (.inl (by lia))
  exact(Dw e1).elim
 ·exact h0
theorem PF(h:Hd w a x):1<=a.d:=by
 obtain⟨e,env,rfl,h⟩:=h
 exact Eb h
theorem aam:bS≠aS:=by decide
theorem xo(hx:Hd w a x)(hy:Hd w c y)(hn:NK es):ja VI 0 (jO a c) (dZ w adB (.bI (br (br es aS x) bS y))):=by
 have dx:=PF hx
 have dy:=PF hy
 obtain⟨e,env,rfl,h⟩:=hx
 obtain⟨e',yu,rfl,h'⟩:=hy
 refine Ed (oH ⟨e,env,rfl,h⟩ dx ?_) (oH ⟨e',yu,rfl,h'⟩ dy ?_)
 ·rw[iR (xQ hn),if_neg (bY aam),iR hn,if_pos rfl]
 ·rw[iR (xQ hn),if_pos rfl]
theorem Ll(hg:He es)(ha:ja VI 0 a (dZ w ea (.bI es)))(hc:ja VI 0 c (dZ w eb (.bI es))):
 ja VI 0 (qx wR a c) (dZ w (.inst .App [bJ gS,.lst [ea,eb]]) (.bI es)):=by
 refine AG (f:=(⟨2,3,some ()⟩:R Unit)) (r2:=fun _=>jO a c) (fun d i mu gH F fl o h h1 h2=>Bu h h1 h2) (QD hg) fun m I _ hm=>?_
 subst hm
 intro dep i mu F hF hp
 obtain⟨d,rfl,hq⟩:=dn1 hp
 obtain⟨o,F',e1,O1⟩:=(xo (es:=bX []) (w:=w) ⟨_,_,rfl,ha⟩ ⟨_,_,rfl,hc⟩ jI) d i mu F hF hq
 obtain⟨d,rfl⟩:=Iu e1
 exact⟨o,F',(Gy (by decide)).trans e1,O1⟩
theorem gp1{F:Int}(h:4<=D+1\/2*F.toNat+3<=D+1)(h1:1<=F):3+0<=D\/2*(F-1).toNat+3+0<=D:=fr h h1 (f6 _) aR (dW _)
theorem gp2{F:Int}(h:(2:Nat)<=F-1):((3:Nat):Int)<=F:=by lia
theorem gp3{F:Int}(h:F-1<(2:Nat)):F<((3:Nat):Int):=xB h
theorem gp4{F F1:Int}(h:F1=F-1-(2:Nat)):F1=F-((3:Nat):Int):=by lia
theorem gp5{F:Int}(h:4<=d+1+1\/2*F.toNat+3<=d+1+1)(h1:1<=F):∃e,d=e+1:=by
 induction d with
 |zero=>lia
 |succ e=>exact⟨e,rfl⟩
theorem Lm{a:Di}(hg:He es)(ha:ja VI 0 a (dZ w ea (.bI es))):
 ja (VF w) 0 (⟨3,4,some fun c=>jO a c⟩:Df) (dZ w (.inst .App [bJ gS,.lst [ea]]) (.bI es)):=by
 refine jQ (aq 1 2) (aq 1 3) fun dep i mu F hF h1 hp=>?_
 refine((QD (w:=w) hg).on (F:=F-1) (dep:=dep) hF (gp1 hp h1)).elim fun o1 F1 e1 O1=>?_
 obtain⟨d,rfl⟩:=Iu e1
 obtain⟨d,rfl⟩:=gp5 hp h1
 refine O1.elim (fun h=>(ay _ h).elim) (fun _ _ e2 hc hF1=>?_) fun hc hF1 e2=>?_
 ·cases e2
  refine .mk ((pA hF h1 e1).trans (Gz (by decide))) (.val rfl ⟨⟨_,_,_,rfl⟩,fun x c hx=>rM (aQ dI (by decide)) ?_⟩ (gp2 hc) (gp4 hF1))
  exact xo (es:=bX []) (w:=w) ⟨_,_,rfl,ha⟩ hx jI
 ·cases e2
  exact .mk ((pA hF h1 e1).trans (n5 (by decide) (.inr rfl))) (.long (gp3 hc) hF1 (c5 O1.1 (f6 _)))
noncomputable abbrev KC(xs ns vs:Str)(z:Int):MV:=.inst .Case [bJ ns,.str vs,.lst [.inst .Alt [.tup [sM "lit",sM "int",.int 0],.lst [],fF z]],.inst .App [bJ xs,.lst [iQ (bJ ns) (fF (-1))]]]
noncomputable abbrev D2(xs ns vs:Str)(z:Int)(es:List (Str×MV)):MV:=.tup [sM "fun",.lst [.str ns],KC xs ns vs z,.bI es]
theorem Gm:gW wR z r a=kX a.tick fun m=>if m=0 then(⟨1,1,some z⟩:Di)else jC wR (R.tick (⟨1,1,some r⟩:Df)) ⟨1+(a.c+1)+1,1+max (a.d+2) 1,some (m-1)⟩:=by
 obtain⟨c,d,_|m⟩:=a
 ·rfl
 ·unfold gW kX
  by_cases h:m=0
  ·subst h;rfl
  ·simp only[R.tick,if_neg h,jC,wR]
theorem Pf(ha:ja VI 0 a (dZ w ea env))(hm:a.v=some m)(h1:1<=m):ja VI 0 ⟨1+a.c+1,1+max a.d 1,some (m-1)⟩ (dZ w (iQ ea (fF (-1))) env):=by
 have h:=AH (w:=w) (env:=env) (eb:=fF (-1)) (V2:=fun o y=>o=.tup [sM "int",.int y]/\y= -1) (c:=⟨1,1,some (-1)⟩) ha
  (k4 (fun d i mu F hF h1=>wq hF h1) ⟨rfl,rfl⟩)
  (fun o y e=>⟨e.1,fun x hx h0=>by cases ar (hm.symm.trans hx);exact e.2.symm▸Int.sub_nonneg.mpr h1⟩)
 have e:oR a ⟨1,1,some (-1)⟩=⟨1+a.c+1,1+max a.d 1,some (m-1)⟩:=by
  unfold oR;refine hm.symm▸?_;rfl
 rwa [e]at h
section
variable{xs ns vs:Str}{z:Int}
theorem dz{m:Int}(h:m.toNat<=0)(h1:1<=m):False:=by lia
theorem ds{m:Int}(h:m.toNat<=k+1):(m-1).toNat<=k:=by
 rw[Int.toNat_le]at*;exact Int.sub_right_le_of_le_add h
theorem xh(hz:0<=z)(Qc:xs≠ns)(Wg:xs≠vs)(Wh:ns≠vs)(hl:es.length+2<b8)(hx:look es xs=some (.tup [.inst .iu [.lst [.str ns],KC xs ns vs z],.bI es]))
 (hT:Hd w a x) (ih:∀m c d x,a.v=some m->1<=m->Hd w ⟨c,d,some (m-1)⟩ x->ja VI 1 (r ⟨c,d,some (m-1)⟩) (runC w (D2 xs ns vs z es) [x])):ja VI 1 (gW wR z r a) (runC w (D2 xs ns vs z es) [x]):=by
 refine rM (aQ (ak _ 2) hl) ?_
 rw[Gm]
 have hT0:=hT
 obtain⟨e,env,rfl,ha⟩:=hT0
 have lk:look (br (bX es) ns (.tup [e,env])) ns=some (.tup [e,env]):=by rw[iR jI,if_pos rfl]
 refine AF (oH hT (Eb ha) lk) fun m o hm hv=>?_
 obtain⟨rfl,h0⟩:=hv
 refine⟨_,_,?_,fun d i mu gH h=>Ay (aQ dI (by exact f9.symm▸cu hl):(br (bX es) ns (.tup [e,env])).length<b8) h⟩
 by_cases Cm:m=0
 ·rw[if_pos Cm,if_pos Cm]
  exact Ea hz
 ·rw[if_neg Cm,if_neg Cm]
  refine Ec (V0:=fun o I=>o=D2 xs ns vs z es/\I=r) (tW (r:=(⟨1,1,some r⟩:Df)) (ab 1) ((iR jI).trans ((if_neg Wg).trans (by rw[jz,iR jI,if_neg Qc,jz,hx]))) (vd ⟨rfl,rfl⟩)) fun o I _ hv=>?_
  obtain⟨rfl,rfl⟩:=hv
  exact ih m _ _ _ hm (Es.mpr ⟨h0,bY Cm⟩:1<=m) ⟨_,_,rfl,Pf (a:=a.tick) (oH hT (Eb ha) ((iR jI).trans ((if_neg Wh).trans (by rw[jz,lk])))) hm (Es.mpr ⟨h0,bY Cm⟩:1<=m)⟩
theorem Ln(hz:0<=z)(Qc:xs≠ns)(Wg:xs≠vs)(Wh:ns≠vs)(hl:es.length+2<b8)(hx:look es xs=some (.tup [.inst .iu [.lst [.str ns],KC xs ns vs z],.bI es])):
 ∀(k:Nat)(a:Di)(x:MV),(∀m,a.v=some m->m.toNat<=k)->Hd w a x->ja VI 1 (dn wR z (k+1) a) (runC w (D2 xs ns vs z es) [x]):=by
 intro k
 induction k with
 |zero=>exact fun a x hk hT=>xh hz Qc Wg Wh hl hx hT fun m c d y hm h0 hy=>(dz (hk m hm) h0).elim
 |succ k ih=>exact fun a x hk hT=>xh hz Qc Wg Wh hl hx hT fun m c d y hm h0 hy=>ih _ _ (fun m' e=>by cases ar e;exact ds (hk m hm)) hy
end
variable{es':List (Str×MV)}
theorem GD(h:pR w k d (dZ w e env))(hl:look es s=some (.tup [e,env])):pR w k (tick d) (dZ w (bJ s) (.bI es)):=by
 induction k<;>exact tW (Eb h) hl h
theorem qI(o5:∀d i mu(F:Int),dX mu i F->1<=F->Lc (ah (w+2) (d+1) 61 [x,env,.ref i] mu) (ah (w+2) d 61 [b,yu,.ref i] (cV mu i (F-1))))
 (h:pR w j r (dZ w b yu)):pR w j (kL 1 1 r) (dZ w x env):=by
 induction j<;>exact Pc o5 h
theorem oJ(hs:ja V0 0 s (dZ w se (.bI es)))
 (o5:∀x m,s.v=some x->V0 m x->∃bx ex,pR w j (g x) (dZ w bx ex)/\∀d i mu gH,Ev (ah (w+2) (d+1) 61 [se,.bI es,.ref i] mu) ((false,m),gH)->
   Lc (ah (w+2) (d+2) 60 [.inst .Case [se,xn,as,o],.bI es,.ref i] mu) (ah (w+2) (d+1) 61 [bx,ex,.ref i] gH)):
 pR w j (kY s g) (dZ w (.inst .Case [se,xn,as,o]) (.bI es)):=by
 induction j<;>exact AF hs o5
noncomputable def Bound(w:Nat)(es:List (Str×MV))(k:K)(x:Nm)(d:Dn k):Prop:=∃e env,look es (aX x)=some (.tup [e,env])/\∃r:Dn k,d=tick r/\pR w k r (dZ w e env)
theorem Bound.congr(hl:look es' (aX x)=look es (aX x))(h:Bound w es k x d):Bound w es' k x d:=by unfold Bound at h⊢;exact hl.symm▸h
noncomputable def n8(w:Nat)(es:List (Str×MV))(C:Env)(F:K->Nm->Prop):Prop:=∀k x,F k x->Bound w es k x (C x k)
theorem n8.sub(h:n8 w es C F)(hs:∀k x,G k x->F k x):n8 w es C G:=fun k x g=>h k x (hs k x g)
theorem fh(h:n8 w es C fun k y=>F k y/\y≠x)(hk:∀k',F k' x->k'=k)(hl:∀s,look es' s=if s=aX x then some (.tup [e,env])else look es s)
 (hd:∃r:Dn k,d=tick r/\pR w k r (dZ w e env)):n8 w es' (upd C x k d) F:=by
 intro k' y hy
 by_cases e:y=x
 ·subst e
  have:=hk k' hy
  subst this
  rw[iM]
  exact⟨_,_,by rw[hl,if_pos rfl],hd⟩
 ·rw[gh e]
  exact(h k' y ⟨hy,e⟩).congr (by rw[hl,if_neg (j0 e)])
theorem gL(hb:x.b∈bases)(hg:He es)(hl:∀s,look es' s=if s=aX x then some v else look es s):He es':=by
 unfold He
 rw[hl,if_neg (bY (jM hb))]
 exact hg
theorem fQ:(br (bX es) x v).length<=es.length+1:=aa dI (by rw[f9];exact ab _)
theorem d7(s:Str):look (br (bX es) x (.tup t)) s=if s=x then some (.tup t)else look es s:=by rw[iR jI,jz]
theorem wU(s:Str):look (br (br (bX es) x (.tup t)) y (.tup u)) s=if s=y then some (.tup u)else look (br (bX es) x (.tup t)) s:=by rw[iR (xQ jI)]
theorem kR(s:Str):look (br (bX es) x (.g9 a)) s=if s=x then some (.tup [a,.bI (br (bX es) x (.g9 a))])else look es s:=by rw[Fp jI,jz]
noncomputable def CK{k:K}(t:T k):Cl:=T.casesOn (motive:=fun _ _=>Cl) t (fun _ _=>.Var) (fun _=>.Prim) (fun _=>.Lit) (fun _ _=>.Prim) (fun _ _=>.App) (fun _ _=>.App) (fun _=>.App) (fun _ _=>.iu) .o9 (fun _=>.o9) (fun _ _ _=>.Let) (fun _ _ _ _ _=>.Let) (fun _ _ _=>.Let) (fun _ _ _ _ _=>.Let) (fun _ _ _ _ _=>.Case) (fun _ _ _=>.Case) (fun _ _ _ _ _=>.Case) (fun _ _ _ _ _=>.Case)
noncomputable def tc{α:Type}(d:α){k:K}(t:T k)(var:Nm->α:=fun _=>d)(lit:α:=d)(app:T .f->T .i->α:=fun _ _=>d)(gap2:T .i->T .i->α:=fun _ _=>d)(lam:Nm->T .i->α:=fun _ _=>d)(cD:α:=d)(lt:α:=d):α:=
 T.casesOn (motive:=fun _ _=>α) t (fun _=>var) (fun _=>d) (fun _=>lit) (fun _ _=>d) app gap2 (fun _=>d) lam cD (fun _=>d) (fun _ _ _=>lt) (fun _ _ _ _ _=>lt) (fun _ _ _=>d) (fun _ _ _ _ _=>d) (fun _ _ _ _ _=>d) (fun _ _ _=>d) (fun _ _ _ _ _=>d) (fun _ _ _ _ _=>d)
theorem An:∀{k:K}(t:T k),∃fs,enc t=.inst (CK t) fs:=by
 intro k t
 induction t<;>exact⟨_,rfl⟩
theorem d8(t:T k):∃c fs,enc t=.inst c fs:=⟨_,An t⟩
theorem nX(t:T k):4<=ht t:=by
 induction t<;>first|exact ab 4|exact ak 4 _|exact aa (ae rfl) (ak 24 _)
theorem Ma{c a b:Nat}(hc:c<=4)(h:4<=a):max c (max a b)+4<=4+max a b:=by
 rw[Mk (aa hc (aa h (aC a b))),aW];exact ab _
theorem JN{c a:Nat}(hc:c<=4)(h:4<=a):max c a+4<=4+a:=by
 rw[Mk (aa hc h),aW];exact ab _
theorem hm3{c a:Nat}(hc:c<=20):max c a+4<=24+a:=aa (aE (bV.mpr ⟨aa hc (ak 20 a),aq a 20⟩) 4) (bu (ew 20 a 4))
theorem l0{n a L:Nat}(h:n+(4+a)<=L):n+a<=L:=by lia
theorem wQ{m n a L:Nat}(h:m<=n+1)(g:n+(4+a)<=L):m+a<=L:=by lia
theorem l2{m n a L:Nat}(h:m<=n+2)(g:n+(4+a)<=L):m+a<=L:=by lia
theorem l4{n a L:Nat}(h:n+(4+a)<=L):n+2<=L:=by lia
theorem l7{n a L:Nat}(h:n+(4+a)<=L):n<L:=cu (l4 h)
theorem l24{n a L:Nat}(h:n+(24+a)<=L):n+(4+a)<=L:=by lia
theorem l25{m n a L:Nat}(h:m<=n+1)(g:n+(24+a)<=L):m+4<=L:=by lia
theorem lx{n a b L:Nat}(h:a<=b)(g:n+(4+b)<=L):n+(4+a)<=L:=by lia
theorem oP{a b:Nat}:a<=max a b:=aC a b
theorem vD{a b:Nat}:b<=max a b:=az a b
theorem IZ{a b c:Nat}:b<=max a (max b c):=aa oP vD
theorem IY{a b c:Nat}:c<=max a (max b c):=aa vD vD
theorem x9{V0:MV->α->Prop}{S:R α}{m:MV}{x:α}(hS:S.v=some x)(hv:V0 m x):∃r:R α,R.known S=R.tick r/\ja V0 0 r (dZ w (sM "known") m):=
 ⟨⟨1,1,some x⟩,by unfold R.known R.tick;exact hS.symm▸rfl,GA hv⟩
structure AI(w:Nat){k:K}(t:T k)(es:List (Str×MV))(C:Env)(I:Fr):Prop where
 A:dj I t
 W:WF t
 G:He es
 H:n8 w es C (fv t)
 L:es.length+ht t<=b8
noncomputable def AR(w:Nat){k:K}(t:T k):Prop:=∀es C I,AI w t es C I->pR w k (den wR t C) (dZ w (enc t) (.bI es))
theorem Vx:AR w (.var k x):=fun es C I h=>by
 obtain⟨e,env,l,r,hr,hb⟩:=h.H k x ⟨rfl,rfl⟩
 show pR w k (C x k) _
 rw[hr];exact GD hb l
theorem VD{a b:T .i}(ha:AR w a)(hb:AR w b):AR w (.add a b):=fun es C I h=>
 Ed (ha es C I ⟨h.A.1,h.W.1,h.G,h.H.sub fun _ _=>.inl,l0 (lx oP h.L)⟩) (hb es C I ⟨h.A.2,h.W.2,h.G,h.H.sub fun _ _=>.inr,l0 (lx vD h.L)⟩)
theorem VA{a:T .f}{b:T .i}(ha:AR w a)(hb:AR w b):AR w (.app a b):=fun es C I h=>
 Ec (V0:=VF w) (ha es C I ⟨h.A.1,h.W.1,h.G,h.H.sub fun _ _=>.inl,l0 (lx oP h.L)⟩) fun m _ _ hv=>hv.2 _ _ ⟨_,_,rfl,hb es C I ⟨h.A.2,h.W.2,h.G,h.H.sub fun _ _=>.inr,l0 (lx vD h.L)⟩⟩
theorem Po{a b:T .i}(ha:AR w a)(hb:AR w b):AR w (.gap2 a b):=fun es C I h=>
 Ll h.G (ha es C I ⟨h.A.1,h.W.1,h.G,h.H.sub fun _ _=>.inl,l0 (lx oP h.L)⟩) (hb es C I ⟨h.A.2,h.W.2,h.G,h.H.sub fun _ _=>.inr,l0 (lx vD h.L)⟩)
theorem Vy{x:Nm}{b:T .i}(hb:AR w b):AR w (.lam x b):=fun es C I h=>
 Pd (l7 h.L) fun xt a hx=>by
  obtain⟨e,env,rfl,ha⟩:=hx
  exact hb _ _ I ⟨h.A.2,h.W.1,gL h.A.1.2 h.G d7,fh h.H h.W.2 d7 ⟨_,rfl,ha⟩,wQ fQ h.L⟩
theorem Pn{x:Nm}{a:T k}{b:T j}(ha:AR w a)(hb:AR w b):AR w (.let1 x a b):=fun es C I h=>
 qI (fun d i mu F hF h1=>Bq hF h1 (l7 h.L)) (hb _ _ I ⟨h.A.2.2,h.W.2.1,gL h.A.1.2 h.G d7,fh (h.H.sub fun _ _=>.inr) h.W.2.2 d7 ⟨_,rfl,ha es C I ⟨h.A.2.1,h.W.1,h.G,h.H.sub fun _ _=>.inl,l0 (lx oP h.L)⟩⟩,wQ fQ (lx vD h.L)⟩)
theorem HU:(br (br (bX es) x u) y v).length<=es.length+2:=aa dI (bA fQ)
theorem Pm{a:T k}{c:T .i}{b:T j}(ha:AR w a)(hc:AR w c)(hb:AR w b):AR w (.bW x a y c b):=fun es C I h=>
 have h1:n8 w (br (bX es) (aX x) (.tup [enc a,.bI es])) _ (fun k z=>fv b k z/\z≠y):=fh (h.H.sub fun _ _ e=>.inr (.inr e)) (fun k' e=>h.W.2.2.2.2.1 k' e.1) d7 ⟨_,rfl,ha es C I ⟨h.A.2.2.1,h.W.2.1,h.G,h.H.sub fun _ _=>.inl,l0 (lx oP h.L)⟩⟩
 qI (fun d i mu F hF h1=>Bp hF h1 (l7 h.L)) (hb _ _ I ⟨h.A.2.2.2.2,h.W.2.2.2.1,gL h.A.2.1.2 (gL h.A.1.2 h.G d7) wU,fh h1 h.W.2.2.2.2.2 wU ⟨_,rfl,hc es C I ⟨h.A.2.2.2.1,h.W.2.2.1,h.G,h.H.sub fun _ _ e=>.inr (.inl e),l0 (lx IZ h.L)⟩⟩,l2 HU (lx IY h.L)⟩)
theorem Pj{x:Nm}{a:T .f}{b:T j}(ha:AR w a)(hb:AR w b):AR w (.dQ x a b):=fun es C I h=>
 qI (fun d i mu F hF h1=>uh hF h1 (l7 h.L)) (hb _ _ I ⟨h.A.2.2,h.W.2.2.1,(gL h.A.1.2 h.G kR),fh (h.H.sub fun _ _=>.inr) h.W.2.2.2 kR ⟨_,rfl,ha (br (bX es) (aX x) (.g9 (enc a))) C I ⟨h.A.2.1,h.W.1,(gL h.A.1.2 h.G kR),fun k y e=>(h.H k y (.inl e)).congr (by rw[kR,if_neg (j0 fun q=>h.W.2.1 k (by rw[<-q];exact e))]),wQ fQ (lx oP h.L)⟩⟩,wQ fQ (lx vD h.L)⟩)
theorem l9{m n a L:Nat}(h:m<=n+1)(g:n+(24+a)<=L):m+2<L:=eu (aQ (aE h 2) (Nat.add_lt_add_left (eu (by decide:3<24) (ak 24 a)) n)) g
theorem Pk{j:K}{x n v:Nm}{z:Nat}{b:T j}(hb:AR w b):AR w (.dR x n v z b):=fun es C I h=>by
 have hx:look (br (bX es) (aX x) (.g9 (ji x n v z))) (aX x)=some (.tup [ji x n v z,.bI (br (bX es) (aX x) (.g9 (ji x n v z)))]):=by rw[kR,if_pos rfl]
 have hd:ja (VF w) 0 (⟨1,1,some (down wR z)⟩:Df) (dZ w (ji x n v z) (.bI (br (bX es) (aX x) (.g9 (ji x n v z))))):=
  vd ⟨⟨_,_,_,rfl⟩,fun xt a hT=>Ln (bk z) (j0 h.W.1.1.symm) (j0 h.W.1.2.1.symm) (j0 h.W.1.2.2.symm) (l9 fQ h.L) hx _ a xt (fun m e=>by exact e.symm▸ab _) hT⟩
 exact qI (fun d i mu F hF h1=>uh hF h1 (l7 (l24 h.L))) (hb _ _ I ⟨h.A.2.2.2,h.W.2.1,gL h.A.1.2 h.G kR,fh h.H h.W.2.2 kR ⟨_,rfl,hd⟩,wQ fQ (l24 h.L)⟩)
theorem LC{s:T .i}{x:Nm}{z:Int}{a o:T j}(hs:AR w s)(ha:AR w a)(ho:AR w o):AR w (.bG s x z a o):=fun es C I h=>
 oJ (V0:=VI) (hs es C I ⟨h.A.1,h.W.1,h.G,h.H.sub fun _ _=>.inl,l0 (lx oP h.L)⟩) fun n m hn hv=>by
  obtain⟨c,fs,hc⟩:=d8 o
  have hk:=x9 (w:=w) hn hv
  obtain⟨rfl,h0⟩:=hv
  refine⟨if n=z then enc a else .inst c fs,.bI (GZ es (aX x) (.tup [sM "int",.int n])),?_,fun d i mu gH q=>by rw[hc];exact Ay (l7 h.L) q⟩
  show pR w _ (if n=z then den wR a _ else den wR o _) _
  by_cases e:n=z
  ·rw[if_pos e,if_pos e]
   exact ha _ _ I ⟨h.A.2.2.1,h.W.2.1.1,gL h.A.2.1.2 h.G d7,fh (h.H.sub fun _ _ e=>.inr ⟨.inl e.1,e.2⟩) h.W.2.1.2 d7 hk,wQ fQ (lx IZ h.L)⟩
  ·rw[if_neg e,if_neg e,<-hc]
   exact ho _ _ I ⟨h.A.2.2.2,h.W.2.2.1,gL h.A.2.1.2 h.G d7,fh (h.H.sub fun _ _ e=>.inr ⟨.inr e.1,e.2⟩) h.W.2.2.2 d7 hk,wQ fQ (lx IY h.L)⟩
theorem LD{j:K}{s:T .f}{x:Nm}{o:T j}(hs:AR w s)(ho:AR w o):AR w (.cE s x o):=fun es C I h=>
 oJ (V0:=VF w) (hs es C I ⟨h.A.1,h.W.1,h.G,h.H.sub fun _ _=>.inl,l0 (lx oP h.L)⟩) fun n m hn hv=>by
  obtain⟨c,fs,hc⟩:=d8 o
  have hk:=x9 (w:=w) hn hv
  obtain⟨⟨ps,b,env,rfl⟩,_⟩:=hv
  exact⟨enc o,.bI (GZ es (aX x) (.tup [sM "fun",ps,b,env])),ho _ _ I ⟨h.A.2.2,h.W.2.1,gL h.A.2.1.2 h.G d7,fh (h.H.sub fun _ _=>.inr) h.W.2.2 d7 hk,wQ fQ (lx vD h.L)⟩,fun d i mu gH q=>by exact hc.symm▸KS (l7 h.L) q⟩
section
variable{j:K}{s:T .c}{x y:Nm}{a o:T j}{C:Env}{I:Fr}{v:MV}{d:Dc}
theorem Zp(h:He es):He (bX es):=jz.trans h
theorem aaa(t:List MV)(l:es.length+(4+max (ht s) (max (ht a) (ht o)))<=b8)(A:dj I (.bD s x y a o))(W:WF (.bD s x y a o))(G:He es)(H:n8 w es C (fv (.bD s x y a o)))
 (hk:∃r:Dn .c,cb=tick r/\pR w .c r (dZ w (sM "known") (.tup t))):AI w o (GZ es (aX x) (.tup t)) (upd C x .c cb) I:=
 ⟨A.2.2.2.2,W.2.2.1,gL A.2.1.2 G d7,fh (H.sub fun _ _ e=>.inr ⟨.inr e.1,e.2⟩) W.2.2.2 d7 hk,wQ fQ (lx IY l)⟩
theorem aab(t:List MV)(l:es.length+(4+max (ht s) (max (ht a) (ht o)))<=b8)(A:dj I (.bD s x y a o))(W:WF (.bD s x y a o))(G:He es)(H:n8 w es C (fv (.bD s x y a o)))
 (hk:∃r:Dn .c,cb=tick r/\pR w .c r (dZ w (sM "known") (.tup t))) (hd:∃r:Dn .i,ce=tick r/\pR w .i r (dZ w e env)):AI w a (br (bX (GZ es (aX x) (.tup t))) (aX y) (.tup [e,env])) (upd (upd C x .c cb) y .i ce) I:=
 ⟨A.2.2.2.1,W.2.1.1,gL A.2.2.1.2 (gL A.2.1.2 G d7) d7,fh (fh (H.sub fun _ _ e=>.inr ⟨.inl e.1,e.2⟩) (fun k' e=>W.2.1.2.1 (bY e.2) k' e.1) d7 hk:n8 w (GZ es (aX x) (.tup t)) _ (fun k z=>fv a k z/\z≠y)) W.2.1.2.2 d7 hd,l2 (aa fQ (bA fQ)) (lx IZ l)⟩
end
theorem LH{j:K}{s:T .c}{x y:Nm}{a o:T j}(hs:AR w s)(ha:AR w a)(ho:AR w o):AR w (.bD s x y a o):=fun es C I h=>
 oJ (V0:=VC w) (hs es C I ⟨h.A.1,h.W.1,h.G,h.H.sub fun _ _=>.inl,l0 (lx oP h.L)⟩) fun n m hn hv=>by
  obtain⟨c,fs,hc⟩:=d8 o
  have hk:=x9 (w:=w) hn hv
  induction n with
  |none=>
   have hv:m=.tup [sM "con",sM "D",.lst []]:=hv
   subst hv
   exact⟨enc o,_,ho _ _ I (aaa _ h.L h.A h.W h.G h.H hk),fun d i mu gH q=>by exact hc.symm▸Gx (l4 h.L) q⟩
  |some t=>
   obtain⟨xt,rfl,e,env,rfl,ht⟩:∃xt,m=.tup [sM "con",sM "C",.lst [xt]]/\Hd w t xt:=hv
   exact⟨enc a,_,ha _ _ I (aab _ h.L h.A h.W h.G h.H hk ⟨_,rfl,ht⟩),fun d i mu gH q=>xk (l4 h.L) q⟩
theorem LF{j:K}{s:T .c}{x y:Nm}{a o:T j}(hs:AR w s)(ha:AR w a)(ho:AR w o):AR w (.bK s x y a o):=fun es C I h=>
 oJ (V0:=VC w) (hs es C I ⟨h.A.1,h.W.1,h.G,h.H.sub fun _ _=>.inl,l0 (lx oP h.L)⟩) fun n m hn hv=>by
  have hk:=x9 (w:=w) hn hv
  induction n with
  |none=>
   subst (hv:m=.tup [sM "con",sM "D",.lst []])
   have b:=aaa (s:=s) (x:=x) (y:=y) _ h.L h.A h.W h.G h.H hk
   exact⟨enc o,_,ho _ _ I ⟨b.A,b.W,Zp b.G,fun k y e=>(b.H k y e).congr jz,aa (bu (congrArg (· +ht o) f9)) b.L⟩,fun d i mu gH q=>Gw (l4 h.L) q⟩
  |some t=>
   obtain⟨xt,rfl,e,env,rfl,ht⟩:∃xt,m=.tup [sM "con",sM "C",.lst [xt]]/\Hd w t xt:=hv
   exact⟨enc a,_,ha _ _ I (aab (s:=s) (x:=x) (o:=o) _ h.L h.A h.W h.G h.H hk ⟨_,rfl,ht⟩),fun d i mu gH q=>xk (l4 h.L) q⟩
theorem Vz:AR w (.err k):=fun es C I h=>by induction k<;>exact Pe
theorem VB:∀{k:K}(t:T k),AR w t:=by
 intro k t
 induction t with
 |var k x=>exact Vx
 |err k=>exact Vz
 |lit z=>exact fun es C I h=>Ea (bk z)
 |cD=>exact fun es C I h=>Lq
 |add a b p q=>exact VD p q
 |app a b p q=>exact VA p q
 |gap2 a b p q=>exact Po p q
 |eg a p=>exact fun es C I h=>Lm h.G (p es C I ⟨h.A,h.W,h.G,h.H,l0 h.L⟩)
 |cC a p=>exact fun es C I h=>Lp (p es C I ⟨h.A,h.W,h.G,h.H,l0 h.L⟩)
 |lam x b p=>exact Vy p
 |let1 x a b p q=>exact Pn p q
 |dQ x a b p q=>exact Pj p q
 |bW x a y c b p q r=>exact Pm p q r
 |dR x n v z b p=>exact Pk p
 |bG s x z a o p q r=>exact LC p q r
 |cE s x o p q=>exact LD p q
 |bD s x y a o p q r=>exact LH p q r
 |bK s x y a o p q r=>exact LF p q r
theorem abD(t:T k)(A:dj I t)(W:WF t)(G:He es)(H:n8 w es C (fv t))(L:es.length+ht t<=b8):pR w k (den wR t C) (dZ w (enc t) (.bI es)):=VB t es C I ⟨A,W,G,H,L⟩
end
section
variable{w:Nat}
noncomputable def jY(F:Int)(r:Di):MV:=if F<r.c then oX else match r.v with
 |none=>sV
 |some z=>.tup [sM "int",.int z]
noncomputable abbrev es0:List (Str×MV):=[(gS,.tup [adE,.bI []])]
theorem uv{t:T .i}(A:dj I t)(W:WF t)(hf:∀k x,¬fv t k x)(L:1+ht t<=b8)(hd:(den wR t C:Di).d+1<=d\/2*F.toNat+4<=d)(h3:3<=d):
 ∃mu',Ev (ah (w+2) d 62 [enc t,.int F] mu) ((false,jY F (den wR t C)),mu++mu'):=by
 match d,h3 with
 |d+3,_=>
  obtain⟨o,F',e1,q1,O1⟩:=(abD t A W rfl (fun k x e=>(hf k x e).elim) L:ja VI 0 (den wR t C:Di) (dZ w (enc t) (.bI es0))) (d+2) mu.length (mu++[.lst [.int F]]) F (by simp:(mu++[MC.lst [MV.int F]])[mu.length]?=some (.lst [.int F])) (by lia)
  have e2:Ev (ah (w+2) (d+2) 61 [enc t,.bI es0,.ref mu.length] (mu++[.lst [.int F]])) ((false,o),mu++[.lst [.int F']]):=by
   have e3:cV (mu++[MC.lst [MV.int F]]) mu.length F'=mu++[.lst [.int F']]:=by
    unfold cV
    rw[og _ _ (ab _),sP];rfl
   exact e3▸e1
  refine⟨[.lst [.int F']],?_⟩
  unfold jY
  rcases O1 with⟨k1,⟨h5,rfl⟩|⟨z,h5,⟨rfl,_⟩,_⟩⟩|⟨k1,k2,rfl⟩
  ·rw[if_neg (by lia),h5]
   exact fun Q q=>ao rfl rfl (e2 _ q)
  ·rw[if_neg (by lia),h5]
   exact fun Q q=>ao rfl rfl (e2 _ q)
  ·rw[if_pos k1]
   exact fun Q q=>ao rfl rfl (e2 _ q)
end
inductive Sh
 |ll(f a:MV)|qO(f a b:MV)|lam(x:Str)(b:MV)|let1(x:Str)(a b:MV)(r:Bool)|bW(x:Str)(a:MV)(y:Str)(c b:MV)
 |jk(s:MV)(x:Str)(o:MV)|bG(s:MV)(x:Str)(z:Int)(a o:MV)|bD(s:MV)(x y:Str)(a o:MV)|bK(s:MV)(x y:Str)(a o:MV)
 |qD(a:MV)|add(a b:MV)
noncomputable abbrev LK(z:Int)(a:MV):MV:=.inst .Alt [.tup [sM "lit",sM "int",.int z],.lst [],a]
noncomputable abbrev GQ(y:Str)(a:MV):MV:=.inst .Alt [.tup [sM "con",sM "C"],.lst [.str y],a]
noncomputable abbrev Pp(o:MV):MV:=.inst .Alt [.tup [sM "con",sM "D"],.lst [],o]
noncomputable def Sh.mv:Sh->MV
 |.ll f a=>.inst .App [f,.lst [a]]
 |.qO f a b=>.inst .App [f,.lst [a,b]]
 |.lam x b=>.inst .iu [.lst [.str x],b]
 |.let1 x a b r=>.inst .Let [.lst [.tup [.str x,a]],b,.bool r]
 |.bW x a y c b=>.inst .Let [.lst [.tup [.str x,a],.tup [.str y,c]],b,.bool false]
 |.jk s x o=>.inst .Case [s,.str x,.lst [],o]
 |.bG s x z a o=>.inst .Case [s,.str x,.lst [LK z a],o]
 |.bD s x y a o=>.inst .Case [s,.str x,.lst [GQ y a],o]
 |.bK s x y a o=>.inst .Case [s,.str x,.lst [GQ y a,Pp o],.none]
 |.qD a=>.inst .o9 [sM "C",.lst [a]]
 |.add a b=>iQ a b
noncomputable def Sh.cl:Sh->Cl
 |.ll _ _|.qO _ _ _=>.App
 |.lam _ _=>.iu
 |.let1 _ _ _ _|.bW _ _ _ _ _=>.Let
 |.jk _ _ _|.bG _ _ _ _ _|.bD _ _ _ _ _|.bK _ _ _ _ _=>.Case
 |.qD _=>.o9
 |.add _ _=>.Prim
noncomputable def Sh.ok:Sh->Prop
 |.jk _ _ o|.bG _ _ _ _ o|.bD _ _ _ _ o=>∃c fs,o=.inst c fs
 |_=>True
noncomputable def Sh.groups:Sh->List (List Str)
 |.lam x _=>[[x]]
 |.let1 x _ _ _=>[[x]]
 |.bW x _ y _ _=>[[x,y]]
 |.jk _ x _=>[[x]]
 |.bG _ x _ _ _=>[[x],[]]
 |.bD _ x y _ _=>[[x],[y]]
 |.bK _ x y _ _=>[[x],[y],[]]
 |_=>[]
noncomputable def Sh.parts:Sh->List (MV×List Int)
 |.ll f a=>[(f,[]),(a,[])]
 |.qO f a b=>[(f,[]),(a,[]),(b,[])]
 |.lam _ b=>[(b,[0])]
 |.let1 _ a b r=>[(a,if r then [0]else []),(b,[0])]
 |.bW _ a _ c b=>[(a,[]),(c,[]),(b,[0])]
 |.jk s _ o=>[(s,[]),(o,[0])]
 |.bG s _ _ a o=>[(s,[]),(a,[0,1]),(o,[0])]
 |.bD s _ _ a o=>[(s,[]),(a,[0,1]),(o,[0])]
 |.bK s _ _ a o=>[(s,[]),(a,[0,1]),(o,[0,2])]
 |.qD a=>[(a,[])]
 |.add a b=>[(a,[]),(b,[])]
noncomputable def Sh.pf:Sh->Bool
 |.bK _ _ _ _ _=>false
 |_=>true
inductive Re:Sh->List (List Str)->List MV->Sh->Prop
 |ll{f a gs f' a'}:Re (.ll f' a') gs [f,a] (.ll f a)
 |qO{f a b gs f' a' b'}:Re (.qO f' a' b') gs [f,a,b] (.qO f a b)
 |lam{x b x' b'}:Re (.lam x' b') [[x]] [b] (.lam x b)
 |let1{x a b r x' a' b'}:Re (.let1 x' a' b' r) [[x]] [a,b] (.let1 x a b r)
 |bW{x a y c b x' a' y' c' b'}:Re (.bW x' a' y' c' b') [[x,y]] [a,c,b] (.bW x a y c b)
 |jk{s x o s' x' o'}:Re (.jk s' x' o') [[x]] [s,o] (.jk s x o)
 |bG{s x z a o s' x' a' o'}:Re (.bG s' x' z a' o') [[x],[]] [s,a,o] (.bG s x z a o)
 |bD{s x y a o s' x' y' a' o'}:Re (.bD s' x' y' a' o') [[x],[y]] [s,a,o] (.bD s x y a o)
 |bK{s x y a o s' x' y' a' o'}:Re (.bK s' x' y' a' o') [[x],[y],[]] [s,a,o] (.bK s x y a o)
 |qD{a gs a'}:Re (.qD a') gs [a] (.qD a)
 |add{a b gs a' b'}:Re (.add a' b') gs [a,b] (.add a b)
noncomputable def bf(gs:List (List Str)):MV:=.lst (gs.map fun g=>.lst (g.map .str))
noncomputable def gE(ps:List (MV×List Int)):MV:=.lst (ps.map fun p=>.tup [p.1,.tup (p.2.map .int)])
noncomputable def j9:Cl->Nat
 |.App=>7|.iu=>10|.Let=>13|.Case=>16|.o9=>19|.Prim=>22|.Var=>1|_=>4
theorem ir(sh:Sh):fE sh.cl .parts=some (j9 sh.cl)/\fE sh.cl .groups=some (j9 sh.cl-1)/\fE sh.cl .gr=some (j9 sh.cl+1):=by
 induction sh<;>exact⟨rfl,rfl,rfl⟩
theorem mO(sh:Sh):∃fs,sh.mv=.inst sh.cl fs:=by induction sh<;>exact⟨_,rfl⟩
section
variable{W d:Nat}{mu:List MC}
theorem kP{sh:Sh}(h:sh.ok):Ev (ah W (d+1) (j9 sh.cl) [sh.mv] mu) ((sh.pf,gE sh.parts),mu):=fun Q k=>by
 cases sh
 case let1 x a b r=>induction r<;>exact ao rfl rfl k
 case jk=>obtain⟨c,fs,rfl⟩:=h;exact ao rfl rfl k
 case bG=>obtain⟨c,fs,rfl⟩:=h;exact ao rfl rfl k
 case bD=>obtain⟨c,fs,rfl⟩:=h;exact ao rfl rfl k
 all_goals exact ao rfl rfl k
theorem rG{sh:Sh}:Ev (ah W (d+1) (j9 sh.cl-1) [sh.mv] mu) ((true,bf sh.groups),mu):=fun Q k=>by
 induction sh<;>exact ao rfl rfl k
theorem uD(hk:sh.ok)(h:Re sh gs ps sh'):Ev (ah W (d+3) (j9 sh.cl+1) [sh.mv,bf gs,.lst ps] mu) ((false,sh'.mv),mu):=fun Q k=>by
 cases h
 case jk=>obtain⟨c,fs,rfl⟩:=hk;exact ao rfl rfl k
 case bG=>obtain⟨c,fs,rfl⟩:=hk;exact ao rfl rfl k
 case bD=>obtain⟨c,fs,rfl⟩:=hk;exact ao rfl rfl k
 all_goals exact ao rfl rfl k
end
noncomputable def bN(b:Nat):Nm:=⟨b,0⟩
noncomputable abbrev dot:Str:=af "."
theorem Aq(h:c∈dg k):48<=c/\c<=57:=by
 unfold dg at h
 obtain⟨ch,hch,rfl⟩:=d6.mp h
 exact PyProof.Rows.digit_range (Nat.isDigit_of_mem_toDigits (by decide) (by decide) hch)
theorem Lx:QQ x dot x.length i↔x.cps.toList[i]?=some 46:=by
 unfold QQ cy.Str.subAt
 refine(by decide:dot.cps=#[46]).symm▸?_;rw[(by decide:dot.length=1),beq_iff_eq,<-Hq,Array.toList_extract,(by simp[qU]:x.length=x.cps.toList.length)]
 show _/\mZ (i+1-i) (pk i x.cps.toList)=[46]↔_
 generalize x.cps.toList=L
 refine(show i+1-i=1 by lia).symm▸?_
 constructor
 ·rintro⟨h1,h2⟩
  have:=congrArg (·[0]?) h2
  simpa [List.getElem?_take,List.getElem?_drop]using this
 ·intro h
  obtain⟨hi,h2⟩:=bb.mp h
  refine⟨by lia,?_⟩
  rw[xA hi,h2]
  rfl
theorem xp(h:b∈bases):b≠46:=fun e=>absurd (e▸h) (by decide)
theorem Ic(hb:x.b∈bases):lr (aX x) dot=if x.k=0 then-1 else 1:=by
 unfold lr
 rcases StrLaws.last_spec (aX x) dot with⟨h1,h2⟩|⟨i,h1,h2,h3⟩
 ·refine h1.symm▸?_
  by_cases hk:x.k=0
  ·exact(if_pos hk).symm▸rfl
  ·have:=(not_congr Lx).mp (h2 1)
   replace this:=if_neg hk▸(oz x)▸this
   exact(this rfl).elim
 ·refine h1.symm▸?_
  have h4:=Lx.mp h2
  rw[(oz x)]at h4
  by_cases hk:x.k=0
  ·rw[if_pos hk]at h4
   match i,h4 with
   |0,h4=>exact(xp hb (ar h4)).elim
   |i+1,h4=>cases h4
  ·rw[if_neg hk]at h4⊢
   match i,h4 with
   |0,h4=>exact(xp hb (ar h4)).elim
   |1,_=>rfl
   |i+2,h4=>
    have:=Aq (cW (show(dg x.k)[i]?=some 46 from h4))
    lia
theorem Gp(hn:l≠[])(h:∀c∈l,48<=c/\c<=57):pg ⟨l.toArray⟩=true:=by
 unfold pg
 have h1:0<(⟨l.toArray⟩:Str).length:=by
  show 0<l.toArray.size
  rw[aM]
  exact Er.mpr hn
 have h2:(⟨l.toArray⟩:Str).cps.all sJ=true:=by
  rw[<-Array.all_toList,bw]
  intro c hc
  have hr:=h c hc
  have:∀c,48<=c/\c<=57->sJ c=true:=by
   intro c ⟨a,b⟩
   have:∀c,c<58->48<=c->sJ c=true:=by decide+kernel
   exact this c (by lia) a
  exact this c hr
 rw[h2,qd]
 exact decide_eq_true h1
theorem ZT:dg k≠[]:=by
 unfold dg
 intro e
 have h:=PySem.W.KIN.val_back k
 rw[e]at h
 have:=Nat.length_toDigits_pos (b:=10) (n:=k)
 rw[(List.map_eq_nil_iff.mp e)]at this
 exact absurd this (by decide)
theorem KD(h:k<10^18):(dg k).length<=18:=by
 have:=PyProof.Rows.toString_length_le (v:=(k:Int)) (bk k) (k:=18) (by decide) (by lia)
 rw[qU,<-eK,PySem.W.KIN.signs_num]at this
 exact this
section
variable{W d:Nat}{mu:List MC}
theorem nQ{z:Int}{n:Nat}(h:z=n)(k:Q n):sY z Q:=by subst h;exact k
theorem CM(hb:x.b∈bases)(hk:x.k<10^18):Ev (ah W (d+1) 40 [vN x] mu) ((false,vN (bN x.b)),mu):=fun Q k=>by
 have hr:=Ic hb
 have hc:=oz x
 by_cases h0:x.k=0
 ·rw[if_pos h0]at hr
  refine ao rfl rfl (bp (decide_eq_false (show¬lr (aX x) (af ".")>((0:Nat):Int) by rw[show lr (aX x) (af ".")= -1 from hr];decide)) ?_)
  show Q false (.str (aX x)) mu
  rw[(by unfold aX bN;rw[if_pos h0,if_pos rfl]:aX x=aX (bN x.b))];exact k
 ·rw[if_neg h0]at hr hc
  have hr:lr (aX x) (af ".")=1:=hr
  have hlen:(aX x).cps.toList.length=2+(dg x.k).length:=by rw[hc];simp;lia
  have hl:=KD hk
  have YZ:(aX x).length<=1000:=by rw[qU,<-eK,hlen];lia
  refine ao rfl rfl (aY (decide_eq_true (show lr (aX x) (af ".")>((0:Nat):Int) by rw[hr];decide)) (aD YZ (nQ (n:=2) (by rw[hr];rfl) (aD (show 2<=(aX x).cps.toList.length by lia) (aY (by rw[hc];exact(Gp ZT (fun c h=>Aq (k:=x.k) h)):pg ⟨(pk 2 (aX x).cps.toList).toArray⟩=true) (aD YZ (nQ (n:=1) hr (aD (show 1<=(aX x).cps.toList.length by lia) ?_))))))))
  show Q false (.str ⟨(mZ 1 (aX x).cps.toList).toArray⟩) mu
  rw[(by rw[hc];rfl:(⟨(mZ 1 (aX x).cps.toList).toArray⟩:Str)=aX (bN x.b))];exact k
end
noncomputable def Ef:List (Str×MV):=[120,121,122,119,118,103].map fun b=>(aX (bN b),.bool true)
theorem Vt(h:y.k≠0):gp Ef (aX y)=false:=by
 have hn:∀b,aX (bN b)≠aX y:=fun b e=>h (by refine oy e▸?_;rfl)
 unfold gp Ef
 simp only[iw,gX,hn,if_false]
 rfl
noncomputable def cnt(es:List (Str×MV)):Nat:=(bases.filter fun b=>(cf es (aX (bN b))).isSome).length
structure cG(es:List (Str×MV))(I:Fr):Prop where
 at':∀b∈bases,cf es (aX (bN b))=if I b=0 then none else some (.int (I b))
 len:es.length<=cnt es
theorem Vr(h:aX (bN a)=aX (bN b)):a=b:=congrArg Nm.b (oy h)
theorem wL(h:cG es I):es.length<=6:=by
 have h1:=h.len
 have h2:cnt es<=bases.length:=Bi _ _
 have h3:bases.length=6:=rfl
 lia
theorem wD:∀{es:List (Str×MV)},(cf es k).isSome=true->(br es k v).length=es.length:=by
 intro es
 induction es with
 |nil=>
  intro h
  cases h
 |cons zx r cz=>
  obtain⟨a,b⟩:=zx
  intro h
  rw[BI]
  rw[gX]at h
  by_cases e:a=k
  ·rw[if_pos e];rfl
  ·rw[if_neg e]at h⊢
   exact congrArg (· +1) (cz h)
theorem OW(hb:b∈bases)(hn:cf es (aX (bN b))=none):cnt es+1<=cnt (br es (aX (bN b)) v):=by
 unfold cnt
 have key:∀l:List Nat,b∈l->(l.filter fun c=>(cf es (aX (bN c))).isSome).length+1<=(l.filter fun c=>(cf (br es (aX (bN b)) v) (aX (bN c))).isSome).length:=by
  have mono:∀l:List Nat,(l.filter fun c=>(cf es (aX (bN c))).isSome).length<=(l.filter fun c=>(cf (br es (aX (bN b)) v) (aX (bN c))).isSome).length:=by
   intro l
   induction l with
   |nil=>exact ab _
   |cons c l ih=>
    refine dw.symm▸?_;rw[dw,eD]
    by_cases e:aX (bN c)=aX (bN b)
    ·rw[if_pos e,e,hn];simp;lia
    ·rw[if_neg e]
     split<;>(try simp)<;>lia
  intro l hl
  induction l with
  |nil=>cases hl
  |cons c l ih=>
   refine dw.symm▸?_;rw[dw,eD]
   by_cases e:aX (bN c)=aX (bN b)
   ·rw[if_pos e,e,hn]
    have:=mono l
    simp;lia
   ·rw[if_neg e]
    have Y0:b∈l:=by
     rcases aA.mp hl with h|h
     ·exact(e (by rw[h])).elim
     ·exact h
    have:=ih Y0
    split<;>(try simp)<;>lia
 exact key bases hb
noncomputable def oO(es:List (Str×MV))(I:Fr)(x:Nm):List (Str×MV):=br es (aX (bN x.b)) (.int ((I x.b:Int)+1))
theorem cA(h:cG es I)(hb:x.b∈bases):cG (oO es I x) (nx I x):=by
 unfold oO
 refine⟨fun b vU=>?_,?_⟩
 ·refine eD.symm▸?_
  unfold nx
  by_cases e:b=x.b
  ·subst e
   refine(if_pos rfl).symm▸?_;rw[if_pos rfl,if_neg (by lia)]
   rfl
  ·exact(if_neg (fun h=>e (Vr h))).symm▸(if_neg e).symm▸h.at' b vU
 ·rcases hd:cf es (aX (bN x.b))with _|v
  ·have h1:=OW (v:=.int ((I x.b:Int)+1)) hb hd
   have h2:=dI (es:=es) (k:=aX (bN x.b)) (v:=.int ((I x.b:Int)+1))
   have h3:=h.len
   lia
  ·rw[wD (by rw[hd];rfl)]
   refine aa h.len ?_
   unfold cnt
   have:∀l:List Nat,(l.filter fun c=>(cf es (aX (bN c))).isSome).length<=(l.filter fun c=>(cf (br es (aX (bN x.b)) (.int ((I x.b:Int)+1))) (aX (bN c))).isSome).length:=by
    intro l
    induction l with
    |nil=>exact ab _
    |cons c l ih=>
     rw[dw,dw,eD]
     by_cases e:aX (bN c)=aX (bN x.b)
     ·rw[if_pos e,e,hd];simp;lia
     ·rw[if_neg e]
      split<;>(try simp)<;>lia
   exact this bases
noncomputable abbrev mf(mu:List MC)(i:Nat)(es:List (Str×MV)):List MC:=mu.set i (.fresh Ef es)
section
variable{W d i:Nat}{mu:List MC}{es:List (Str×MV)}{I:Fr}{x:Nm}
theorem nS(hi:i<mu.length):(mf mu i es)[i]?=some (.fresh Ef es):=by
 unfold mf
 rw[cq hi]
theorem S7:(mf mu i es).set i (.fresh Ef es')=mf mu i es':=by unfold mf;rw[fW]
theorem IA(h:y.k<10^18):(aX y).length<=20:=by
 rw[qU,<-eK,oz]
 have:=KD h
 split<;>(try simp)<;>lia
noncomputable def nextT:Ss:=(sd (sd qK).1).1
theorem wN{z:Int}{m:Nat}(hm:(mf mu i es)[i]?=some (.fresh Ef es))(hz:z=m)(l1:tb.length+(af ".").length<=1000)(h1:jo m (10^18)=true)(l2:(tb++af ".").length+(af (toString z)).length<=1000)
 (hs:tb++af "."++af (toString z)=r) (ha:gp Ef r=false) (abg:es.length<=b8) (k:Q false (.str r) (mf mu i (br es tb (.int z)))):dJ (W+1) cl d nextT ⟨[.fz (.ref i),.fz v,.fz (.str tb),.fz (.int z)],mf mu i es⟩ (eL Q):=by
 refine aD l1 (nQ hz (mj h1 (aD l2 (cI hm (bp (b:=gp Ef (tb++af "."++af (toString z))) (hs▸ha) (cI hm (aD abg (aD l1 (nQ hz (mj h1 (aD l2 ?_)))))))))))
 show Q false (.str (tb++af "."++af (toString z))) ((mf mu i es).set i (.fresh Ef (br es tb (.int z))))
 exact hs.symm▸S7.symm▸k
theorem ie(hi:i<mu.length)(hN:cG es I)(hb:x.b∈bases)(hk:x.k<10^18)(hφ:I x.b+1<10^18):
 Ev (ah (W+1) (d+2) 41 [.ref i,vN x] (mf mu i es)) ((false,vN (nw I x)),mf mu i (oO es I x)):=fun Q k=>by
 have hm:=nS (es:=es) hi
 have hbo:Ev (ah (W+1) (d+1) 40 [vN x] (mf mu i es)) ((false,.str (aX (bN x.b))),mf mu i es):=CM hb hk
 have k:Q false (.str (aX (nw I x))) (mf mu i (oO es I x)):=k
 have hs:aX (bN x.b)++af "."++af (toString ((I x.b:Int)+((1:Nat):Int)))=aX (nw I x):=by
  unfold aX nw bN
  rw[if_pos rfl,if_neg (by simp)]
  rfl
 have ha:gp Ef (aX (nw I x))=false:=Vt (by simp[nw])
 have l1:(aX (bN x.b)).length+(af ".").length<=1000:=by
  have h1:(aX (bN x.b)).length<=20:=IA (aQ (bC _) hk)
  have h2:(af ".").length=1:=by decide
  lia
 have l2:(aX (bN x.b)++af ".").length+(af (toString ((I x.b:Int)+((1:Nat):Int)))).length<=1000:=by
  have h1:(aX (nw I x)).length<=20:=IA (by show I x.b+1<_;exact hφ)
  rw[<-hs,qU,<-eK,yz]at h1
  rw[aF,eK,eK]at h1
  exact aa h1 (by decide)
 have h1:jo (I x.b+1) (10^18)=true:=bT hφ
 have hg:=hN.at' _ hb
 have hz:∀{A:MV->Prop}{B:Prop},(I x.b=0->B)->(I x.b≠0->A (.int (I x.b)))->mM (cf es (aX (bN x.b))) A B:=fun{A B} h1 h2=>by
  by_cases e:I x.b=0
  ·rw[if_pos e]at hg
   exact Ip hg (h1 e)
  ·rw[if_neg e]at hg
   exact eh hg (h2 e)
 unfold oO at k
 generalize aX (bN x.b)=tb at*
 generalize aX (nw I x)=r at*
 refine ao rfl rfl (hbo _ (cI hm (hz (fun e=>?_) (fun e=>?_))))
 ·rw[e]at h1 l2 hs k
  exact wN (z:=((0:Nat):Int)+((1:Nat):Int)) (m:=0+1) hm rfl l1 h1 l2 hs ha (aa (wL hN) (by decide):es.length<=b8) k
 ·exact wN (z:=(I x.b:Int)+((1:Nat):Int)) (m:=I x.b+1) hm rfl l1 h1 l2 hs ha (aa (wL hN) (by decide):es.length<=b8) k
end
noncomputable def gu(s:Ss):Ss:=(sd s).1
noncomputable def thS(s:Ss):Ss:=(sd s).2.1
noncomputable def elS(s:Ss):Ss:=(sd s).2.2.1
noncomputable def whC(s:Ss):X:=(sd s).2.2.2.1
noncomputable def O8(s:Ss):Ss:=(sd s).2.1
noncomputable def frK(s:Ss):List (Nat×Pos):=(sd s).2.2.2.2
noncomputable def PY(s:Ss)(W d N:Nat)(st:St)(Q:Fl->St->Prop):Prop:=Ht (cP (ah W d) d (whC s)).tt (dJ W (ah W d) d (O8 s)) (dJ W (ah W d) d (gu s)) N st Q
theorem eW:∀{xs:List MV}{x:MV}{Q:List MV->MV->Prop},Q xs x->DH (xs++[x]) Q:=by
 intro xs
 induction xs with
 |nil=>exact fun k=>k
 |cons y zs cz=>
  intro x Q k
  induction zs with
  |nil=>exact k
  |cons z zs=>exact cz (Q:=fun r w=>Q (y::r) w) k
noncomputable def Xn:Ss:=gu o8
noncomputable def aaH:Ss:=O8 Xn
noncomputable def H3:Ss:=gu (gu (gu (thS (elS (gu (gu aaH))))))
noncomputable abbrev PO(W d N:Nat)(st:St)(Q:Fl->St->Prop):Prop:=PY Xn W d N st Q
noncomputable def rst(self p0:MV)(ts dn:List MV)(J:List Slot)(mu:List MC):St:=⟨.fz self:: .fz p0:: .own (.lst ts):: .own (.lst dn)::J,mu⟩
noncomputable def alN:Nat->(List Slot->Prop)->Prop
 |0,P=>P []
 |n+1,P=>∀a,alN n fun r=>P (a::r)
noncomputable def Rn(L:Nat->St->(Fl->St->Prop)->Prop)(l:Nat)(A B:List Slot->St)(n:Nat):Prop:=∀N Q,(∀J:List Slot,J.length=l->L N (B J) Q)->∀J:List Slot,J.length=l->L (N+n) (A J) Q
theorem Rn.trans(h:Rn L l A B n)(g:Rn L l B C m):Rn L l A C (m+n):=fun N Q k=>by rw[<-bh];exact h _ Q (g N Q k)
theorem aaj:∀(n:Nat){P:List Slot->Prop}{J:List Slot},J.length=n->alN n P->P J:=by
 intro n
 induction n with
 |zero=>intro P J h k;rw[eB h];exact k
 |succ n ih=>
  intro P J h k
  induction J with
  |nil=>exact(jV n h.symm).elim
  |cons a r=>exact ih (P:=fun r=>P (a::r)) (j6 h) (k a)
theorem ng{P:List Slot->Prop}(n:Nat)(k:alN n P):∀J:List Slot,J.length=n->P J:=fun _ h=>aaj n h k
noncomputable abbrev eI(i:Nat)(ins:List (Str×MV)):MV:=.inst .il [.ref i,.bI ins]
noncomputable abbrev BA(p:MV)(nm:List (Str×MV))(k:MV):MV:=.tup [p,.bI nm,k]
section
variable{W d i:Nat}{mu mu':List MC}{es es':List (Str×MV)}{nm ins:List (Str×MV)}{self p0:MV}{ts dn:List MV}{J:List Slot}{N:Nat}
theorem cg{x:MV}(h:ts.length<b8):(ts++[x]).length<=b8:=by rw[aF];exact h
theorem eV{x:MV}:(!(ts++[x]).isEmpty)=true:=by simp
noncomputable def RS(self p0:MV)(ts dn:List MV)(mu:List MC)(J:List Slot):St:=rst self p0 ts dn J mu
theorem Ez(hv:v=.inst c fs)(hm:fE c .parts=some pid)(hp:Ev (ah W d pid [v] mu) ((f,.lst []),mu))(hl:Ev (ah W d 29 [eI i ins,v,.bI nm] mu) ((g,r),mu'))
 (h1:ts.length<b8) (h2:dn.length<b8):Rn (PO W d) 9 (RS (eI i ins) p0 (ts++[BA v nm .none]) dn mu) (RS (eI i ins) p0 ts (dn++[r]) mu') 1:=fun N Q k=>by
 subst hv
 refine ng 9 ?_;intro a b c' d' e f' g' i' j
 induction f<;>exact aD (cg h1) (aY eV (aD (cg h1) (eW (eh hm (hp _ (aD (cF h2) (hl _ (aD (cF h2) (k [.fz (.inst c fs),.fz (.bI nm),.fz .none,.fz (.lst []),e,f',g',i',j] rfl)))))))))
noncomputable def pst(self p0 v news parts groups:MV)(nm:List (Str×MV))(ts dn:List MV)(a b c d:Slot)(mu:List MC):St:=
 ⟨[.fz self,.fz p0,.own (.lst ts),.own (.lst dn),.fz v,.fz (.bI nm),.fz news,.fz parts,.fz groups,a,b,c,d],mu⟩
noncomputable abbrev fV(p:MV×List Int):MV:=.tup [p.1,.tup (p.2.map .int)]
noncomputable def Uq(s:Ss)(W d:Nat)(r:St->(Fl->St->Prop)->Prop)(xs:List MV)(st:St)(Q:Fl->St->Prop):Prop:=yo (fun m st Q=>kf (frK s) m st fun st=>dJ W (ah W d) d (O8 s) st Q) r xs st Q
theorem BQ{inn:MV×List Int->List (Str×MV)}{v parts:MV}:∀(ps:List (MV×List Int))(ts:List MV)(a b:Slot),
 (∀p∈ps,∃f,Ev (ah W d 28 [(eI i ins),.bI nm,.tup (p.2.map .int),bf gs,bf ns] mu) ((f,.bI (inn p)),mu))->ts.length+ps.length<=b8->
 ∃a' b',∀r Q,r (pst (eI i ins) p0 v (bf ns) parts (bf gs) nm (ts++ps.map fun p=>BA p.1 (inn p) .none) dn a' b' x y mu) Q->
  Uq H3 W d r (ps.map fV) (pst (eI i ins) p0 v (bf ns) parts (bf gs) nm ts dn a b x y mu) Q:=by
 intro ps
 induction ps with
 |nil=>
  intro ts a b _ _
  exact⟨a,b,fun r Q k=>by rw[jf,aT]at k;exact k⟩
 |cons p ps cz=>
  intro ts a b Wl hl
  obtain⟨f,hf⟩:=Wl p (.head _)
  replace hl:=et▸hl
  obtain⟨a',b',ih⟩:=cz (ts++[BA p.1 (inn p) .none]) (.fz p.1) (.fz (.tup (p.2.map .int))) (fun q hq=>Wl q (.tail _ hq)) (by rw[aF];show ts.length+1+_<=_;lia)
  refine⟨a',b',fun r Q k=>?_⟩
  refine aD (by lia:ts.length<=b8) (hf _ (aD (by lia:ts.length<=b8) (ih r Q ?_)))
  rw[bq]
  exact k
theorem Nx{sh:Sh}(h:sh.parts≠[]):(sh.parts.map fV).isEmpty=false:=by
 induction e:sh.parts with
 |nil=>exact absurd e h
 |cons x r=>rfl
theorem lt1(h:n+1+m<=L):n<L:=by lia
theorem Ey{sh:Sh}{ns:List (List Str)}{inn:MV×List Int->List (Str×MV)}(hp:Ev (ah W d (j9 sh.cl) [sh.mv] mu) ((sh.pf,gE sh.parts),mu))(hg:Ev (ah W d (j9 sh.cl-1) [sh.mv] mu) ((true,bf sh.groups),mu))
 (hn:Ev (ah W d 27 [eI i ins,bf sh.groups] mu) ((true,bf ns),mu'))
 (Wl:∀p∈sh.parts,∃f,Ev (ah W d 28 [eI i ins,.bI nm,.tup (p.2.map .int),bf sh.groups,bf ns] mu') ((f,.bI (inn p)),mu')) (eM:sh.parts≠[])
 (h1:ts.length+1+sh.parts.length<=b8):
 Rn (PO W d) 9 (RS (eI i ins) p0 (ts++[BA sh.mv nm .none]) dn mu) (RS (eI i ins) p0 (ts++[BA sh.mv nm (bf ns)]++sh.parts.reverse.map fun p=>BA p.1 (inn p) .none) dn mu') 1:=fun N Q k=>by
 obtain⟨fs,FL⟩:=mO sh
 obtain⟨m1,m2,m3⟩:=ir sh
 refine ng 9 ?_;intro a b c' d' e f' g' i' j
 obtain⟨a',b',Bc⟩:=BQ (p0:=p0) (dn:=dn) (v:=sh.mv) (parts:=gE sh.parts) (x:=i') (y:=j) (i:=i) (ins:=ins) sh.parts.reverse (ts++[BA sh.mv nm (bf ns)]) f' g' (fun p hp=>Wl p (jS.mp hp)) (by refine aF.symm▸?_;rw[ib];exact h1)
 have k:=k [.fz sh.mv,.fz (.bI nm),.fz (bf ns),.fz (gE sh.parts),.fz (bf sh.groups),a',b',i',j] rfl
 have Qb:=Nx eM
 have l1:=lt1 h1
 have l2:=cF l1
 have er:iw fV sh.parts.reverse=(iw fV sh.parts).reverse:=fM
 rw[er]at Bc
 show PO W d (N+1) (rst (eI i ins) p0 (ts++[BA sh.mv nm .none]) dn _ mu) Q
 rw[FL]at hp hg Bc k⊢
 induction hf:sh.pf<;>rw[hf]at hp
 ·exact aD (cg l1) (aY eV (aD (cg l1) (eW (eh m1 (hp _ (bp Qb (eh m2 (hg _ (hn _ (aD l2 (aD l2 (Bc _ _ k))))))))))))
 ·exact aD (cg l1) (aY eV (aD (cg l1) (eW (eh m1 (hp _ (bp Qb (eh m2 (hg _ (hn _ (aD l2 (aD l2 (Bc _ _ k))))))))))))
theorem zd{rs:List MV}(hk:rs.length=m):pk (clamp (dn++rs).length (((dn++rs).length:Int)-(m:Int))) (dn++rs)=rs:=by
 subst hk
 rw[(by rw[aF];lia:(((dn++rs).length:Nat):Int)-(rs.length:Int)=(dn.length:Int))]
 show pk (min dn.length (dn++rs).length) (dn++rs)=rs
 rw[aF,vL (ak _ _),List.drop_left]
theorem EA{sh sh':Sh}{ns:List (List Str)}(hp:Ev (ah W d (j9 sh.cl) [sh.mv] mu) ((sh.pf,gE sh.parts),mu))
 (hr:Ev (ah W d (j9 sh.cl+1) [sh.mv,bf ns,.lst rs] mu) ((false,sh'.mv),mu)) (eM:sh.parts≠[]) (hlen:rs.length=sh.parts.length)
 (h1:ts.length<b8) (h2:dn.length+sh.parts.length<=b8):Rn (PO W d) 9 (RS self p0 (ts++[BA sh.mv nm (bf ns)]) (dn++rs) mu) (RS self p0 ts (dn++[sh'.mv]) mu) 1:=fun N Q k=>by
 obtain⟨fs,FL⟩:=mO sh
 obtain⟨m1,m2,m3⟩:=ir sh
 have z9:rs.length=(sh.parts.map fV).length:=by rw[hlen,aI]
 refine ng 9 ?_;intro a b c' d' e f' g' i' j
 have lp:(sh.parts.map fV).length<=b8:=by rw[aI];exact aa (aq _ _) h2
 have ld:(dn++rs).length<=b8:=by rw[aF,hlen];exact h2
 have hz:(((dn++rs).length:Nat):Int)-((sh.parts.map fV).length:Int)=(dn.length:Int):=by rw[<-z9,aF,gx];exact qY _ _
 have hr:Ev (ah W d (j9 sh.cl+1) [sh.mv,bf ns,.lst (pk (clamp (dn++rs).length (((dn++rs).length:Int)-((sh.parts.map fV).length:Int))) (dn++rs))] mu) ((false,sh'.mv),mu):=by exact(zd z9).symm▸hr
 have k:=k [.fz sh.mv,.fz (.bI nm),.fz (bf ns),.fz (gE sh.parts),e,f',g',.fz (.int (sh.parts.map fV).length),.fz sh'.mv] rfl
 have lt:(mZ dn.length (dn++rs)).length<=b8:=by rw[oT];exact(dB h2)
 have k:PO W d N (rst self p0 ts (mZ dn.length (dn++rs)++[sh'.mv]) [.fz sh.mv,.fz (.bI nm),.fz (bf ns),.fz (gE sh.parts),e,f',g',.fz (.int (sh.parts.map fV).length),.fz sh'.mv] mu) Q:=by rw[oT];exact k
 have Y5:(aV (dn++rs).length b8&&aV ((((dn++rs).length:Nat):Int)-((sh.parts.map fV).length:Int)).natAbs b8)=true:=by
  rw[hz,bT ld]
  exact bT (dB h2)
 have ln:dn.length<=(dn++rs).length:=by rw[aF];exact ak _ _
 show PO W d (N+1) (rst self p0 (ts++[BA sh.mv nm (bf ns)]) (dn++rs) _ mu) Q
 rw[FL]at hp hr k⊢
 induction hf:sh.pf<;>rw[hf]at hp
 ·exact aD (cg h1) (aY eV (aD (cg h1) (eW (eh m1 (hp _ (bp (Nx eM) (aD lp (eh m3 (aD ld (mj Y5 (hr _ (aD ld (aD ld (nQ hz (aD ln (aD lt (aD lt k)))))))))))))))))
 ·exact aD (cg h1) (aY eV (aD (cg h1) (eW (eh m1 (hp _ (bp (Nx eM) (aD lp (eh m3 (aD ld (mj Y5 (hr _ (aD ld (aD ld (nQ hz (aD ln (aD lt (aD lt k)))))))))))))))))
noncomputable def Proc(d i:Nat)(ins:List (Str×MV))(p:MV)(nm es es':List (Str×MV))(r:MV)(B:Nat):Prop:=
 ∃n w0,∀W,w0<=W->∀mu p0 ts dn,i<mu.length->ts.length+B<=b8->dn.length+B<=b8->
  Rn (PO W d) 9 (RS (eI i ins) p0 (ts++[BA p nm .none]) dn (mf mu i es)) (RS (eI i ins) p0 ts (dn++[r]) (mf mu i es')) n
inductive sG(d i:Nat)(ins:List (Str×MV))(B:Nat):List (MV×List (Str×MV))->List (Str×MV)->List (Str×MV)->List MV->Prop
 |nil{es:List (Str×MV)}:sG d i ins B [] es es []
 |cons{p:MV}{nm:List (Str×MV)}{ps:List (MV×List (Str×MV))}{es es1 es':List (Str×MV)}{r:MV}{rs:List MV}:Proc d i ins p nm es es1 r B->sG d i ins B ps es1 es' rs->sG d i ins B ((p,nm)::ps) es es' (r::rs)
theorem sG.len(h:sG d i ins B ps es es' rs):rs.length=ps.length:=by
 induction h with
 |nil=>rfl
 |cons _ _ ih=>exact congrArg (· +1) ih
theorem pr1{n l B L:Nat}(h:n+(l+1)+B<=L):n+l+B<=L:=aa (aE (dW _) B) h
theorem pr2{n l B L:Nat}(h:n+(l+1)+B<=L):n+1+l+B<=L:=by rw[ew n 1 l];exact h
theorem pr3{n l B L:Nat}(h:n+(l+1)+B<=L):n+B<=L:=aa (aE (ak n _) B) h
noncomputable abbrev Bz(ps:List (MV×List (Str×MV))):List MV:=ps.reverse.map fun p=>BA p.1 p.2 .none
theorem Q7:ts++Bz ((p,nm)::ps)=ts++Bz ps++[BA p nm .none]:=by
 show ts++iw _ ((p,nm)::ps).reverse=_
 rw[rU,vA,<-bq];rfl
theorem Q6:(ts++Bz ps).length=ts.length+ps.length:=by rw[aF,aI,ib]
theorem snl:(dn++[x]).length=dn.length+1:=aF
theorem EV(h:sG d i ins B ps es es' rs):
 ∃n w0,∀W,w0<=W->∀mu p0 ts dn,i<mu.length->ts.length+ps.length+B<=b8->dn.length+ps.length+B<=b8->
  Rn (PO W d) 9 (RS (eI i ins) p0 (ts++Bz ps) dn (mf mu i es)) (RS (eI i ins) p0 ts (dn++rs) (mf mu i es')) n:=by
 induction h with
 |nil=>exact⟨0,0,fun W _ mu p0 ts dn _ _ _=>by rw[aT,show ts++Bz []=ts from aT _];exact fun _ _ k=>k⟩
 | @cons p nm ps es es1 es' r rs hp _ ih=>
   obtain⟨n1,w1,h1⟩:=hp
   obtain⟨n2,w2,h2⟩:=ih
   refine⟨n2+n1,max w1 w2,fun W hW mu p0 ts dn hi l1 l2=>?_⟩
   rw[Q7,show dn++r::rs=dn++[r]++rs from(bq dn [r] rs).symm]
   exact(h1 W (aa (aC _ _) hW) mu p0 (ts++Bz ps) dn hi (by exact Q6.symm▸pr1 l1) (pr3 l2)).trans (h2 W (aa (az _ _) hW) mu p0 ts (dn++[r]) hi (pr1 l1) (by exact snl.symm▸pr2 l2))
theorem P0{n L:Nat}(h:n+4<=L):n<L:=eu (iZ (by decide)) h
theorem VZ{n B B' L:Nat}(h:n+B'<=L)(g:B+4<=B'):n+4<=L:=aa (ag (aa (aq 4 B) g) n) h
theorem pn2{n p B B' L:Nat}(h:n+B'<=L)(g:B+4<=B')(q:p<=3):n+p+B<=L:=by rw[bh,aW p B];exact aa (ag (aa (ag (dM q) B) g) n) h
theorem pn3{n p B B' L:Nat}(h:n+B'<=L)(g:B+4<=B')(q:p<=3):n+1+p+B<=L:=by
 rw[show n+1+p+B=n+(B+(p+1)) by rw[aW B,<-bh n,aW p 1,<-bh n]];exact aa (ag (aa (ag (bA q) B) g) n) h
theorem pn4{n p L:Nat}(h:n+4<=L)(q:p<=3):n+1+p<=L:=aa (bu (ew n 1 p)) (aa (bA (ag q n)) h)
theorem pn5{n p L:Nat}(h:n+4<=L)(q:p<=3):n+p<=L:=aa (ag (dM q) n) h
theorem iz{sh sh':Sh}{ns:List (List Str)}{inn:MV×List Int->List (Str×MV)}{es1:List (Str×MV)}{rs:List MV}{B B' w0:Nat}(hk:sh.ok)(eM:sh.parts≠[])(xb:sh.parts.length<=3)
 (hn:∀W,w0<=W->∀mu,i<mu.length->Ev (ah W (d+3) 27 [eI i ins,bf sh.groups] (mf mu i es)) ((true,bf ns),mf mu i es1))
 (Wl:∀W mu,∀p∈sh.parts,∃f,Ev (ah W (d+3) 28 [eI i ins,.bI nm,.tup (p.2.map .int),bf sh.groups,bf ns] mu) ((f,.bI (inn p)),mu))
 (FK:sG (d+3) i ins B (sh.parts.map fun p=>(p.1,inn p)) es1 es' rs) (JJ:Re sh ns rs sh') (hB:B+4<=B'):Proc (d+3) i ins sh.mv nm es es' sh'.mv B':=by
 obtain⟨n,w1,hr⟩:=EV FK
 have hlen:=FK.len
 rw[aI]at hlen
 refine⟨1+(n+1),max w0 w1,fun W hW mu p0 ts dn hi l1 l2=>?_⟩
 have t2:=hr W (aa (az _ _) hW) mu p0 (ts++[BA sh.mv nm (bf ns)]) dn hi (by refine snl.symm▸?_;rw[aI];exact pn3 l1 hB xb) (by rw[aI];exact pn2 l2 hB xb)
 have e4:Bz (sh.parts.map fun p=>(p.1,inn p))=sh.parts.reverse.map fun p=>BA p.1 (inn p) .none:=by
  show iw _ (iw _ sh.parts).reverse=_
  rw[<-fM,eQ];rfl
 rw[e4]at t2
 exact((Ey (W:=W) (d:=d+3) (p0:=p0) (ts:=ts) (dn:=dn) (inn:=inn) (nm:=nm) (ns:=ns) (sh:=sh) (kP hk) rG (hn W (aa (aC _ _) hW) mu hi) (Wl W _) eM (pn4 (VZ l1 hB) xb)).trans t2).trans (EA (W:=W) (d:=d+3) (p0:=p0) (self:=eI i ins) (ts:=ts) (dn:=dn) (nm:=nm) (ns:=ns) (sh:=sh) (mu:=mf mu i es') (kP hk) (uD hk JJ) eM hlen (P0 (VZ l1 hB)) (pn5 (VZ l2 hB) xb))
theorem kD(hv:v=.inst c fs)(hm:fE c .parts=some pid)(hp:∀W mu,Ev (ah W d pid [v] mu) ((f,.lst []),mu))
 (hl:∀W,w0<=W->∀mu,i<mu.length->∃g,Ev (ah W d 29 [eI i ins,v,.bI nm] (mf mu i es)) ((g,r),mf mu i es')) (hB:1<=B):Proc d i ins v nm es es' r B:=
 ⟨1,w0,fun W hW mu p0 ts dn hi l1 l2=>(hl W hW mu hi).elim fun g hl=>Ez hv hm (hp W _) hl (aa (ag hB _) l1) (aa (ag hB _) l2)⟩
theorem H2(h:Proc d i ins p [] es es' r B)(hB:B<=b8):∃w0,∀W,w0<=W->∀mu,i<mu.length->Ev (ah W (d+1) 30 [eI i ins,p] (mf mu i es)) ((false,r),mf mu i es'):=by
 obtain⟨n,w0,h⟩:=h
 refine⟨max w0 (n+1),fun W hW mu hi Q k=>?_⟩
 have hW2:=aa (az w0 (n+1)) hW
 have e:=h W (aa (aC _ _) hW) mu p [] [] hi ((bM B).symm▸hB) ((bM B).symm▸hB) (W-n) (eL Q)
 rw[bL (cv hW2)]at e
 refine ao rfl rfl (e (fun J hj=>?_) [.un,.un,.un,.un,.un,.un,.un,.un,.un] rfl)
 obtain⟨m,hm⟩:∃m,W-n=m+1:=⟨_,(bL (jn (aa (az _ _) hW))).symm⟩
 rw[hm]
 exact k
end
section
variable{W d i:Nat}{mu mu':List MC}{es es':List (Str×MV)}{nm ins:List (Str×MV)}
section
variable{x y x' y':Str}{self:MV}
theorem zY:Ev (ah W (d+1) 28 [self,.bI nm,.tup [],bf gs,bf ns] mu) ((false,.bI nm),mu):=fun Q k=>ao rfl rfl k
theorem r9{g:List (List Str)}(h:g.length+n<=b8):(g.map fun g=>MV.lst (g.map .str)).length+n<=b8:=by rw[aI];exact h
variable{g n:List (List Str)}(hl:nm.length+2<=b8)(hg:g.length+2<=b8)(hn:n.length+2<=b8)
include hl hg hn
theorem FE:Ev (ah W (d+1) 28 [self,.bI nm,.tup [.int 0],bf ([x]::g),bf ([x']::n)] mu) ((true,.bI (br (bX nm) x (.str x'))),mu):=fun Q k=>
 have g1:=r9 (n:=1) (cv hg)
 have n1:=r9 (n:=1) (cv hn)
 ao rfl rfl (aD (dB hl) (aD g1 (aD n1 (aD g1 (aD (o7 (cu hl)) k)))))
theorem aa2:Ev (ah W (d+1) 28 [self,.bI nm,.tup [.int 0],bf ([x,y]::g),bf ([x',y']::n)] mu) ((true,.bI (br (br (bX nm) x (.str x')) y (.str y'))),mu):=fun Q k=>
 have g1:=r9 (n:=1) (cv hg)
 have n1:=r9 (n:=1) (cv hn)
 ao rfl rfl (aD (dB hl) (aD g1 (aD n1 (aD g1 (aD (o7 (cu hl)) (aD n1 (aD g1 (aD (Dg (cu hl)) k))))))))
theorem aa1:Ev (ah W (d+1) 28 [self,.bI nm,.tup [.int 0,.int 1],bf ([x]::[]::g),bf ([x']::[]::n)] mu) ((true,.bI (br (bX nm) x (.str x'))),mu):=fun Q k=>
 have g1:=r9 hg
 have n1:=r9 hn
 ao rfl rfl (aD (dB hl) (aD g1 (aD n1 (aD g1 (aD (o7 (cu hl)) (aD g1 k))))))
theorem YH:Ev (ah W (d+1) 28 [self,.bI nm,.tup [.int 0,.int 1],bf ([x]::[y]::g),bf ([x']::[y']::n)] mu) ((true,.bI (br (br (bX nm) x (.str x')) y (.str y'))),mu):=fun Q k=>
 have g1:=r9 hg
 have n1:=r9 hn
 ao rfl rfl (aD (dB hl) (aD g1 (aD n1 (aD g1 (aD (o7 (cu hl)) (aD g1 (aD n1 (aD g1 (aD (Dg (cu hl)) k)))))))))
omit hg hn in
theorem aa0:Ev (ah W (d+1) 28 [self,.bI nm,.tup [.int 0,.int 2],bf [[x],[y],[]],bf [[x'],[y'],[]]] mu) ((true,.bI (br (bX nm) x (.str x'))),mu):=fun Q k=>
 ao rfl rfl (aD (dB hl) (aD (o7 (cu hl)) k))
end
theorem Nw:Ev (ah W (d+3) 27 [eI i ins,bf []] mu) ((true,bf []),mu):=fun Q k=>ao rfl rfl k
variable{I:Fr}{x y:Nm}
section
variable(hi:i<mu.length)(hN:cG es I)(hb:x.b∈bases)(hk:x.k<10^18)(hφ:I x.b+1<10^18)
include hi hN hb hk hφ
theorem SP:Ev (ah (W+1) (d+3) 27 [eI i ins,bf [[aX x]]] (mf mu i es)) ((true,bf [[aX (nw I x)]]),mf mu i (oO es I x)):=fun Q k=>
 ao rfl rfl (cI (nS hi) (ie hi hN hb hk hφ _ k))
theorem XR:Ev (ah (W+1) (d+3) 27 [eI i ins,bf [[aX x],[]]] (mf mu i es)) ((true,bf [[aX (nw I x)],[]]),mf mu i (oO es I x)):=fun Q k=>
 ao rfl rfl (cI (nS hi) (ie hi hN hb hk hφ _ k))
variable(vU:y.b∈bases)(G7:y.k<10^18)(Oa:nx I x y.b+1<10^18)
include vU G7 Oa
theorem aaQ:Ev (ah (W+1) (d+3) 27 [eI i ins,bf [[aX x,aX y]]] (mf mu i es)) ((true,bf [[aX (nw I x),aX (nw (nx I x) y)]]),mf mu i (oO (oO es I x) (nx I x) y)):=fun Q k=>
 ao rfl rfl (cI (nS hi) (ie hi hN hb hk hφ _ (cI (nS hi) (ie hi (cA hN hb) vU G7 Oa _ k))))
theorem XS:Ev (ah (W+1) (d+3) 27 [eI i ins,bf [[aX x],[aX y]]] (mf mu i es)) ((true,bf [[aX (nw I x)],[aX (nw (nx I x) y)]]),mf mu i (oO (oO es I x) (nx I x) y)):=fun Q k=>
 ao rfl rfl (cI (nS hi) (ie hi hN hb hk hφ _ (cI (nS hi) (ie hi (cA hN hb) vU G7 Oa _ k))))
theorem SO:Ev (ah (W+1) (d+3) 27 [eI i ins,bf [[aX x],[aX y],[]]] (mf mu i es)) ((true,bf [[aX (nw I x)],[aX (nw (nx I x) y)],[]]),mf mu i (oO (oO es I x) (nx I x) y)):=fun Q k=>
 ao rfl rfl (cI (nS hi) (ie hi hN hb hk hφ _ (cI (nS hi) (ie hi (cA hN hb) vU G7 Oa _ k))))
end
section
variable{s s':Str}
theorem Ze(h:cf es s=some v):gp es s=true:=by show(cf es s).isSome=true;rw[h];rfl
theorem Qh(h:cf es s=none):gp es s=false:=by show(cf es s).isSome=false;rw[h];rfl
theorem Jc(h:cf nm s=some (.str s')):Ev (ah W (d+3) 29 [eI i ins,bJ s,.bI nm] mu) ((false,bJ s'),mu):=fun Q k=>
 ao rfl rfl (aY (Ze h) (eh h k))
theorem rC(h:cf nm s=none)(h2:cf ins s=none):Ev (ah W (d+3) 29 [eI i ins,bJ s,.bI nm] mu) ((false,bJ s),mu):=fun Q k=>
 ao rfl rfl (bp (Qh h) (Ip h2 k))
theorem Jb(h:cf nm s=none)(h2:cf ins s=some (.inst c fs)):Lc (ah W (d+3) 29 [eI i ins,bJ s,.bI nm] mu) (ah W (d+2) 30 [eI i [],.inst c fs] mu):=fun Q k=>
 ao rfl rfl (bp (Qh h) (eh h2 k))
theorem pG(hc:aL 0 c.n=false):Ev (ah W (d+3) 29 [eI i ins,.inst c fs,.bI nm] mu) ((false,.inst c fs),mu):=fun Q k=>
 ao rfl rfl (aY (b:= !(aL 0 c.n||false)) (by rw[hc];rfl) k)
end
theorem kE:Ev (ah W (d+1) 1 [.inst .Var [s]] mu) ((true,.lst []),mu):=fun Q k=>ao rfl rfl k
theorem lZ:Ev (ah W (d+1) 4 [.inst .Lit [a,b]] mu) ((true,.lst []),mu):=fun Q k=>ao rfl rfl k
theorem mK:Ev (ah W (d+1) 19 [.inst .o9 [a,.lst []]] mu) ((true,.lst []),mu):=fun Q k=>ao rfl rfl k
theorem lB:Ev (ah W (d+1) 22 [.inst .Prim [a,.lst []]] mu) ((true,.lst []),mu):=fun Q k=>ao rfl rfl k
end
section
variable{d i:Nat}{es es':List (Str×MV)}{nm ins:List (Str×MV)}
noncomputable def vq(nm:List (Str×MV))(U:Sg):Prop:=(∀x,cf nm (aX x)=(U x).map fun y=>.str (aX y))/\cf nm gS=none
theorem EK(h:vq nm U):vq (bX nm) U:=by
 refine⟨fun x=>?_,?_⟩
 ·rw[kW];unfold look;refine(h.1 x).symm▸?_
  cases U x<;>rfl
 ·rw[kW];unfold look;refine h.2.symm▸?_;rfl
theorem qk(h:vq nm U)(hb:x.b∈bases):vq (br nm (aX x) (.str (aX y))) (su U x y):=by
 refine⟨fun z=>?_,?_⟩
 ·rw[eD]
  unfold su
  by_cases e:z=x
  ·subst e;rw[if_pos rfl,if_pos rfl];rfl
  ·rw[if_neg (j0 e),if_neg e];exact h.1 z
 ·rw[eD,if_neg (bY (jM hb))];exact h.2
theorem Nq:nx I x x.b=I x.b+1:=by unfold nx;rw[if_pos rfl]
theorem cQ(hle:∀k x I,qz I (lf k x I).2):∀{k:K}(t:T k)(U:Sg)(I:Fr),qz I (di lf t U I).2:=by
 intro k t
 induction t with
 |var k x=>
  intro U I
  induction h:U x with
  |some y=>rw[rk h];exact ej
  |none=>rw[rl h];exact hle k x I
 |err k=>exact fun _ _=>ej
 |lit z=>exact fun _ _=>ej
 |cD=>exact fun _ _=>ej
 |add a b bZ dE|app a b bZ dE|gap2 a b bZ dE=>exact fun U I=>(bZ U I).trans (dE U _)
 |eg a bZ|cC a bZ=>exact fun U I=>bZ U I
 |lam x b ih=>exact fun U I=>bF.trans (ih _ _)
 |let1 x a b bZ dE|dQ x a b bZ dE=>exact fun U I=>bF.trans ((bZ _ _).trans (dE _ _))
 |bW x a y c b bZ yg dE=>exact fun U I=>bF.trans (bF.trans ((bZ _ _).trans ((yg _ _).trans (dE _ _))))
 |dR x n v z b dE=>exact fun U I=>bF.trans (bF.trans (bF.trans (dE _ _)))
 |bG s x z a o gj bZ gn=>exact fun U I=>bF.trans ((gj _ _).trans ((bZ _ _).trans (gn _ _)))
 |cE s x o gj gn=>exact fun U I=>bF.trans ((gj _ _).trans (gn _ _))
 |bK s x y a o gj bZ gn|bD s x y a o gj bZ gn=>exact fun U I=>bF.trans (bF.trans ((gj _ _).trans ((bZ _ _).trans (gn _ _))))
noncomputable def Bd(I:Fr):Prop:=∀b,I b<10^18
theorem Bd.le(h:Bd ψ)(hl:qz I ψ):Bd I:=fun b=>aQ (hl b) (h b)
theorem Bd.at(h:Bd (nx I x)):I x.b+1<10^18:=by rw[<-Nq];exact h x.b
noncomputable def jv:Fr:=fun _=>10^18-1
theorem Ok.lt(h:Ok jv x):x.k<10^18:=aQ h.1 (by unfold jv;lia)
theorem Bd.top(h:Bd I):qz I jv:=fun b=>by have:=h b;unfold jv;lia
theorem qn(h:cf nm s=some (.str s'))(hB:1<=B):Proc (d+3) i ins (bJ s) nm es es (bJ s') B:=
 kD (w0:=0) rfl rfl (fun _ _=>kE) (fun W _ mu _=>⟨_,Jc h⟩) hB
theorem wI(h:cf nm s=none)(h2:cf ins s=none)(hB:1<=B):Proc (d+3) i ins (bJ s) nm es es (bJ s) B:=
 kD (w0:=0) rfl rfl (fun _ _=>kE) (fun W _ mu _=>⟨_,rC h h2⟩) hB
theorem uF(hB:1<=B):Proc (d+3) i ins (.inst .Lit [a,b]) nm es es (.inst .Lit [a,b]) B:=
 kD (w0:=0) rfl rfl (fun _ _=>lZ) (fun W _ mu _=>⟨_,pG rfl⟩) hB
theorem EZ(hB:1<=B):Proc (d+3) i ins (.inst .o9 [a,.lst []]) nm es es (.inst .o9 [a,.lst []]) B:=
 kD (w0:=0) rfl rfl (fun _ _=>mK) (fun W _ mu _=>⟨_,pG rfl⟩) hB
theorem BR(hB:1<=B):Proc (d+3) i ins (.inst .Prim [a,.lst []]) nm es es (.inst .Prim [a,.lst []]) B:=
 kD (w0:=0) rfl rfl (fun _ _=>lB) (fun W _ mu _=>⟨_,pG rfl⟩) hB
theorem Proc.mono(h:Proc d i ins p nm es es' r B)(hB:B<=B'):Proc d i ins p nm es es' r B':=by
 obtain⟨n,w0,h⟩:=h
 exact⟨n,w0,fun W hW mu p0 ts dn hi l1 l2=>h W hW mu p0 ts dn hi (aa (ag hB _) l1) (aa (ag hB _) l2)⟩
theorem all1{P:α->Prop}{a:α}(h:P a):∀p∈[a],P p:=fun p hp=>by cases bj.mp hp;exact h
theorem all2{P:α->Prop}{a b:α}(h:P a)(h2:P b):∀p∈[a,b],P p:=fun p hp=>by
 rcases aA.mp hp with rfl|hp
 ·exact h
 ·exact all1 h2 p hp
theorem vp{P:α->Prop}{a b c:α}(h:P a)(h2:P b)(h3:P c):∀p∈[a,b,c],P p:=fun p hp=>by
 rcases aA.mp hp with rfl|hp
 ·exact h
 ·exact all2 h2 h3 p hp
theorem w1{P:Nat->Prop}(h:∀W,P (W+1)):∀W,1<=W->P W
 |W+1,_=>h W
theorem mJ(hk:sh.ok)(eM:sh.parts≠[])(xb:sh.parts.length<=3)(hg:sh.groups=[])(hp:∀p∈sh.parts,p.2=[])
 (FK:sG (d+3) i ins B (sh.parts.map fun p=>(p.1,nm)) es es' rs) (JJ:Re sh [] rs sh') (hB:B+4<=B'):Proc (d+3) i ins sh.mv nm es es' sh'.mv B':=
 iz (w0:=0) (inn:=fun _=>nm) hk eM xb (fun W _ mu _=>by exact hg.symm▸Nw) (fun W mu p h=>by exact(hp p h).symm▸⟨_,zY⟩) FK JJ hB
theorem uH(h1:Proc (d+3) i ins f nm es es1 f' B)(h2:Proc (d+3) i ins a nm es1 es' a' B)(hB:B+4<=B'):Proc (d+3) i ins (.inst .App [f,.lst [a]]) nm es es' (.inst .App [f',.lst [a']]) B':=
 mJ (sh:=.ll f a) (sh':=.ll f' a') trivial (bl _ _) (ae rfl) rfl (all2 rfl rfl) (.cons h1 (.cons h2 .nil)) .ll hB
theorem zw(h1:Proc (d+3) i ins f nm es es1 f' B)(h2:Proc (d+3) i ins a nm es1 es' a' B)(hB:B+4<=B'):Proc (d+3) i ins (iQ f a) nm es es' (iQ f' a') B':=
 mJ (sh:=.add f a) (sh':=.add f' a') trivial (bl _ _) (ae rfl) rfl (all2 rfl rfl) (.cons h1 (.cons h2 .nil)) .add hB
theorem E0(h1:Proc (d+3) i ins f nm es es1 f' B)(h2:Proc (d+3) i ins a nm es1 es2 a' B)(h3:Proc (d+3) i ins b nm es2 es' b' B)(hB:B+4<=B'):
 Proc (d+3) i ins (.inst .App [f,.lst [a,b]]) nm es es' (.inst .App [f',.lst [a',b']]) B':=
 mJ (sh:=.qO f a b) (sh':=.qO f' a' b') trivial (bl _ _) (ae rfl) rfl (vp rfl rfl rfl) (.cons h1 (.cons h2 (.cons h3 .nil))) .qO hB
theorem EY(h1:Proc (d+3) i ins a nm es es' a' B)(hB:B+4<=B'):Proc (d+3) i ins (.inst .o9 [sM "C",.lst [a]]) nm es es' (.inst .o9 [sM "C",.lst [a']]) B':=
 mJ (sh:=.qD a) (sh':=.qD a') trivial (bl _ _) (ae rfl) rfl (all1 rfl) (.cons h1 .nil) .qD hB
section
variable{I:Fr}{x:Nm}(hN:cG es I)(ho:Ok jv x)(hφ:Bd (nx I x))(hl:nm.length+2<=b8)
include hN ho hφ hl
noncomputable abbrev uO(nm:List (Str×MV))(I:Fr)(x:Nm):List (Str×MV):=br (bX nm) (aX x) (.str (aX (nw I x)))
theorem zu{B B':Nat}(hb:Proc (d+3) i ins b (uO nm I x) (oO es I x) es' b' B)(hB:B+4<=B'):Proc (d+3) i ins (.inst .iu [.lst [vN x],b]) nm es es' (.inst .iu [.lst [vN (nw I x)],b']) B':=
 iz (sh:=.lam (aX x) b) (sh':=.lam (aX (nw I x)) b') (ns:=[[aX (nw I x)]]) (w0:=1) (inn:=fun _=>uO nm I x) trivial (bl _ _) (ae rfl)
  (w1 fun W mu hi=>SP hi hN ho.2 ho.lt hφ.at) (fun W mu=>all1 ⟨_,FE hl (ae rfl) (ae rfl)⟩) (.cons hb .nil) .lam hB
theorem rv{B B':Nat}(ha:Proc (d+3) i ins a (if r then uO nm I x else nm) (oO es I x) es1 a' B)(hb:Proc (d+3) i ins b (uO nm I x) es1 es' b' B)(hB:B+4<=B'):
 Proc (d+3) i ins (.inst .Let [.lst [.tup [vN x,a]],b,.bool r]) nm es es' (.inst .Let [.lst [.tup [vN (nw I x),a']],b',.bool r]) B':=by
 refine iz (sh:=.let1 (aX x) a b r) (sh':=.let1 (aX (nw I x)) a' b' r) (ns:=[[aX (nw I x)]]) (w0:=1) (inn:=fun p=>if p.2=[]then nm else uO nm I x) trivial (bl _ _) (ae rfl)
  (w1 fun W mu hi=>SP hi hN ho.2 ho.lt hφ.at) (fun W mu=>all2 ?_ ⟨_,FE hl (ae rfl) (ae rfl)⟩) ?_ .let1 hB (rs:=[a',b'])
 ·cases r
  ·exact⟨_,zY⟩
  ·exact⟨_,FE hl (ae rfl) (ae rfl)⟩
 ·cases r
  ·exact .cons ha (.cons hb .nil)
  ·exact .cons ha (.cons hb .nil)
theorem BW{B B':Nat}(hs:Proc (d+3) i ins s nm (oO es I x) es1 s' B)(T9:Proc (d+3) i ins o (uO nm I x) es1 es' o' B)(hi:∃c fs,o=.inst c fs)(hB:B+4<=B'):
 Proc (d+3) i ins (.inst .Case [s,vN x,.lst [],o]) nm es es' (.inst .Case [s',vN (nw I x),.lst [],o']) B':=
 iz (sh:=.jk s (aX x) o) (sh':=.jk s' (aX (nw I x)) o') (ns:=[[aX (nw I x)]]) (w0:=1) (inn:=fun p=>if p.2=[]then nm else uO nm I x) hi (bl _ _) (ae rfl)
  (w1 fun W mu hi=>SP hi hN ho.2 ho.lt hφ.at) (fun W mu=>all2 ⟨_,zY⟩ ⟨_,FE hl (ae rfl) (ae rfl)⟩) (.cons hs (.cons T9 .nil)) .jk hB
theorem uG{B B':Nat}(hs:Proc (d+3) i ins s nm (oO es I x) es1 s' B)(ha:Proc (d+3) i ins a (uO nm I x) es1 es2 a' B)(T9:Proc (d+3) i ins o (uO nm I x) es2 es' o' B)(hi:∃c fs,o=.inst c fs)(hB:B+4<=B'):
 Proc (d+3) i ins (.inst .Case [s,vN x,.lst [LK z a],o]) nm es es' (.inst .Case [s',vN (nw I x),.lst [LK z a'],o']) B':=
 iz (sh:=.bG s (aX x) z a o) (sh':=.bG s' (aX (nw I x)) z a' o') (ns:=[[aX (nw I x)],[]]) (w0:=1) (inn:=fun p=>if p.2=[]then nm else uO nm I x) hi (bl _ _) (ae rfl)
  (w1 fun W mu hi=>XR hi hN ho.2 ho.lt hφ.at) (fun W mu=>vp ⟨_,zY⟩ ⟨_,aa1 hl (ae rfl) (ae rfl)⟩ ⟨_,FE hl (ae rfl) (ae rfl)⟩) (.cons hs (.cons ha (.cons T9 .nil))) .bG hB
variable{y:Nm}(oQ:Ok jv y)(Oa:Bd (nx (nx I x) y))
include oQ Oa
noncomputable abbrev SJ(nm:List (Str×MV))(I:Fr)(x y:Nm):List (Str×MV):=br (uO nm I x) (aX y) (.str (aX (nw (nx I x) y)))
theorem EW{B B':Nat}(ha:Proc (d+3) i ins a nm (oO (oO es I x) (nx I x) y) es1 a' B)(hc:Proc (d+3) i ins c nm es1 es2 c' B)(hb:Proc (d+3) i ins b (SJ nm I x y) es2 es' b' B)(hB:B+4<=B'):
 Proc (d+3) i ins (.inst .Let [.lst [.tup [vN x,a],.tup [vN y,c]],b,.bool false]) nm es es' (.inst .Let [.lst [.tup [vN (nw I x),a'],.tup [vN (nw (nx I x) y),c']],b',.bool false]) B':=
 iz (sh:=.bW (aX x) a (aX y) c b) (sh':=.bW (aX (nw I x)) a' (aX (nw (nx I x) y)) c' b') (ns:=[[aX (nw I x),aX (nw (nx I x) y)]]) (w0:=1) (inn:=fun p=>if p.2=[]then nm else SJ nm I x y) trivial (bl _ _) (ae rfl)
  (w1 fun W mu hi=>aaQ hi hN ho.2 ho.lt hφ.at oQ.2 oQ.lt Oa.at) (fun W mu=>vp ⟨_,zY⟩ ⟨_,zY⟩ ⟨_,aa2 hl (ae rfl) (ae rfl)⟩) (.cons ha (.cons hc (.cons hb .nil))) .bW hB
theorem BU{B B':Nat}(hs:Proc (d+3) i ins s nm (oO (oO es I x) (nx I x) y) es1 s' B)(ha:Proc (d+3) i ins a (SJ nm I x y) es1 es2 a' B)(T9:Proc (d+3) i ins o (uO nm I x) es2 es' o' B)(hi:∃c fs,o=.inst c fs)(hB:B+4<=B'):
 Proc (d+3) i ins (.inst .Case [s,vN x,.lst [GQ (aX y) a],o]) nm es es' (.inst .Case [s',vN (nw I x),.lst [GQ (aX (nw (nx I x) y)) a'],o']) B':=
 iz (sh:=.bD s (aX x) (aX y) a o) (sh':=.bD s' (aX (nw I x)) (aX (nw (nx I x) y)) a' o') (ns:=[[aX (nw I x)],[aX (nw (nx I x) y)]]) (w0:=1) (inn:=fun p=>if p.2=[]then nm else if p.2=[0]then uO nm I x else SJ nm I x y) hi (bl _ _) (ae rfl)
  (w1 fun W mu hi=>XS hi hN ho.2 ho.lt hφ.at oQ.2 oQ.lt Oa.at) (fun W mu=>vp ⟨_,zY⟩ ⟨_,YH hl (ae rfl) (ae rfl)⟩ ⟨_,FE hl (ae rfl) (ae rfl)⟩) (.cons hs (.cons ha (.cons T9 .nil))) .bD hB
theorem BS{B B':Nat}(hs:Proc (d+3) i ins s nm (oO (oO es I x) (nx I x) y) es1 s' B)(ha:Proc (d+3) i ins a (SJ nm I x y) es1 es2 a' B)(T9:Proc (d+3) i ins o (uO nm I x) es2 es' o' B)(hB:B+4<=B'):
 Proc (d+3) i ins (.inst .Case [s,vN x,.lst [GQ (aX y) a,Pp o],.none]) nm es es' (.inst .Case [s',vN (nw I x),.lst [GQ (aX (nw (nx I x) y)) a',Pp o'],.none]) B':=
 iz (sh:=.bK s (aX x) (aX y) a o) (sh':=.bK s' (aX (nw I x)) (aX (nw (nx I x) y)) a' o') (ns:=[[aX (nw I x)],[aX (nw (nx I x) y)],[]]) (w0:=1) (inn:=fun p=>if p.2=[]then nm else if p.2=[0,2]then uO nm I x else SJ nm I x y) trivial (bl _ _) (ae rfl)
  (w1 fun W mu hi=>SO hi hN ho.2 ho.lt hφ.at oQ.2 oQ.lt Oa.at) (fun W mu=>vp ⟨_,zY⟩ ⟨_,YH hl (ae rfl) (ae rfl)⟩ ⟨_,aa0 hl⟩) (.cons hs (.cons ha (.cons T9 .nil))) .bK hB
end
end
section
variable{d i:Nat}{ins:List (Str×MV)}
theorem qC:ji x n v z=.inst .iu [.lst [vN n],.inst .Case [bJ (aX n),vN v,.lst [LK 0 (fF z)],.inst .App [bJ (aX x),.lst [iQ (bJ (aX n)) (fF (-1))]]]]:=rfl
theorem Ba(h:vq nm U)(ho:Ok jv x):vq (uO nm I x) (su U x (nw I x)):=qk (EK h) ho.2
theorem ic:(uO nm I x).length<=nm.length+1:=fQ
theorem xP:(SJ nm I x y).length<=nm.length+2:=aa dI (bA fQ)
theorem EX(hN:cG es I)(hs:vq nm U)(hx:U x=some x')(hn:Ok jv n)(hv:Ok jv v)(hB:Bd (nx (nx I n) v))(Qc:n≠x)(Wg:v≠x)(Wh:v≠n)(hl:nm.length+4<=b8)(hb:18<=B):
 Proc (d+3) i ins (ji x n v z) nm es (oO (oO es I n) (nx I n) v) (ji x' (nw I n) (nw (nx I n) v) z) B:=by
 have wQ:(uO nm I n).length<=nm.length+1:=ic
 have s1:=Ba (I:=I) hs hn
 rw[qC,qC]
 refine zu hN hn (hB.le bF) (by lia) (B:=14) ?_ hb
 refine uG (cA hN hn.2) hv hB (by lia) (B:=10) (es1:=oO (oO es I n) (nx I n) v) (es2:=oO (oO es I n) (nx I n) v) ?_ ?_ ?_ ⟨_,_,rfl⟩ (ab _)
 ·exact qn (by rw[s1.1];unfold su;rw[if_pos rfl];rfl:cf (uO nm I n) (aX n)=some (.str (aX (nw I n)))) (by decide)
 ·exact uF (by decide)
 ·exact uH (B:=6) (qn (by rw[(Ba (I:=nx I n) s1 hv).1];unfold su;rw[if_neg (bY Wg),if_neg (bY Qc),hx];rfl:cf (uO (uO nm I n) (nx I n) v) (aX x)=some (.str (aX x'))) (by decide)) (zw (B:=1) (es1:=oO (oO es I n) (nx I n) v) (B':=6) (qn (by rw[(Ba (I:=nx I n) s1 hv).1];unfold su;rw[if_neg (bY Wh),if_pos rfl];rfl:cf (uO (uO nm I n) (nx I n) v) (aX n)=some (.str (aX (nw I n)))) (by decide)) (uF (by decide)) (by decide)) (by decide)
noncomputable abbrev vu(d i:Nat)(ins:List (Str×MV))(lf:Lf)(P:K->Nm->Prop):Prop:=∀k x I es nm,P k x->cG es I->Ok jv x->Bd (lf k x I).2->cf nm (aX x)=none->
 ∃es',cG es' (lf k x I).2/\∃w0,∀W,w0<=W->∀mu,i<mu.length->∃g,Ev (ah W (d+3) 29 [eI i ins,bJ (aX x),.bI nm] (mf mu i es)) ((g,enc (lf k x I).1),mf mu i es')
structure RI(lf:Lf)(P:K->Nm->Prop){k:K}(t:T k)(U:Sg)(I:Fr)(es nm:List (Str×MV)):Prop where
 N:cG es I
 A:dj jv t
 W:WF t
 B:Bd (di lf t U I).2
 s:vq nm U
 l:nm.length+ht t<=b8
 P:∀k x,fv t k x->U x=none->P k x
noncomputable def RO(d i:Nat)(ins:List (Str×MV))(lf:Lf){k:K}(t:T k)(U:Sg)(I:Fr)(es nm:List (Str×MV)):Prop:=
 ∃es',cG es' (di lf t U I).2/\Proc (d+3) i ins (enc t) nm es es' (enc (di lf t U I).1) (ht t)
noncomputable def RH(d i:Nat)(ins:List (Str×MV))(lf:Lf)(P:K->Nm->Prop){k:K}(t:T k):Prop:=∀U I es nm,RI lf P t U I es nm->RO d i ins lf t U I es nm
theorem l26{a:Nat}:max 18 a+4<=24+a:=hm3 (by decide)
theorem l5{a:Nat}:a+4<=4+a:=bu (aW _ _)
theorem Be{F:K->Nm->Prop}{P:K->Nm->Prop}{U:Sg}{x y:Nm}(h:∀k z,F k z/\z≠x->U z=none->P k z):∀k z,F k z->su U x y z=none->P k z:=fun k z e hz=>
 (Ho (z=x)).elim (fun q=>by replace hz:=mE▸q▸hz;cases hz) fun q=>h k z ⟨e,q⟩ ((uq q).symm.trans hz)
section
variable{lf:Lf}{P:K->Nm->Prop}
theorem ro(h:cG es' (di lf t U I).2)(p:Proc (d+3) i ins (enc t) nm es es' (enc (di lf t U I).1) (ht t)):RO d i ins lf t U I es nm:=⟨es',h,p⟩
theorem RH.go{G:Prop}{t:T k}(H:RH d i ins lf P t){U:Sg}{I:Fr}{es nm:List (Str×MV)}(N:cG es I)(A:dj jv t)(W:WF t)(B:Bd (di lf t U I).2)(s:vq nm U)(l:nm.length+ht t<=b8)(p:∀k x,fv t k x->U x=none->P k x)
 (K:∀es',cG es' (di lf t U I).2->Proc (d+3) i ins (enc t) nm es es' (enc (di lf t U I).1) (ht t)->G):G:=
 let ⟨es',a,b⟩:=H U I es nm ⟨N,A,W,B,s,l,p⟩
 K es' a b
theorem R9(DU:vu d i ins lf P):RH d i ins lf P (.var k x):=fun U I es nm h=>by
 have h0:=h.s.1 x
 have B:=h.B
 unfold RO
 induction hσ:U x with
 |some y=>rw[hσ]at h0;rw[rk hσ];exact⟨es,h.N,qn h0 (ae rfl)⟩
 |none=>
  replace h0:=hσ▸h0;rw[rl hσ]at B⊢
  obtain⟨es',Zi,w0,q⟩:=DU k x I es nm (h.P k x ⟨rfl,rfl⟩ hσ) h.N h.A B h0
  exact⟨es',Zi,kD rfl rfl (fun _ _=>kE) q (ae rfl)⟩
variable(hle:∀k x I,qz I (lf k x I).2)
include hle
theorem Se{a b:T .i}(ha:RH d i ins lf P a)(hb:RH d i ins lf P b):RH d i ins lf P (.add a b):=fun U I es nm h=>
 ha.go h.N h.A.1 h.W.1 (h.B.le (cQ hle b U _)) h.s (l0 (lx oP h.l)) (fun k x e=>h.P k x (.inl e)) fun es1 N1 p1=>
 hb.go N1 h.A.2 h.W.2 h.B h.s (l0 (lx vD h.l)) (fun k x e=>h.P k x (.inr e)) fun es2 N2 p2=>
 ro N2 (zw (p1.mono oP) (p2.mono vD) l5)
theorem Sb{a:T .f}{b:T .i}(ha:RH d i ins lf P a)(hb:RH d i ins lf P b):RH d i ins lf P (.app a b):=fun U I es nm h=>
 ha.go h.N h.A.1 h.W.1 (h.B.le (cQ hle b U _)) h.s (l0 (lx oP h.l)) (fun k x e=>h.P k x (.inl e)) fun es1 N1 p1=>
 hb.go N1 h.A.2 h.W.2 h.B h.s (l0 (lx vD h.l)) (fun k x e=>h.P k x (.inr e)) fun es2 N2 p2=>
 ro N2 (uH (p1.mono oP) (p2.mono vD) l5)
theorem M6{a b:T .i}(hg:cf ins gS=none)(ha:RH d i ins lf P a)(hb:RH d i ins lf P b):RH d i ins lf P (.gap2 a b):=fun U I es nm h=>
 ha.go h.N h.A.1 h.W.1 (h.B.le (cQ hle b U _)) h.s (l0 (lx oP h.l)) (fun k x e=>h.P k x (.inl e)) fun es1 N1 p1=>
 hb.go N1 h.A.2 h.W.2 h.B h.s (l0 (lx vD h.l)) (fun k x e=>h.P k x (.inr e)) fun es2 N2 p2=>
 ro N2 (E0 (wI h.s.2 hg (aa (ae rfl) (aa (nX a) oP))) (p1.mono oP) (p2.mono vD) l5)
omit hle in
theorem M7{a:T .i}(hg:cf ins gS=none)(ha:RH d i ins lf P a):RH d i ins lf P (.eg a):=fun U I es nm h=>
 ha.go h.N h.A h.W h.B h.s (l0 h.l) h.P fun es1 N1 p1=>
 ro N1 (uH (wI h.s.2 hg (aa (ae rfl) (nX a))) p1 l5)
omit hle in
theorem Xy{a:T .i}(ha:RH d i ins lf P a):RH d i ins lf P (.cC a):=fun U I es nm h=>
 ha.go h.N h.A h.W h.B h.s (l0 h.l) h.P fun es1 N1 p1=>ro N1 (EY p1 l5)
theorem Sa{x:Nm}{b:T .i}(hb:RH d i ins lf P b):RH d i ins lf P (.lam x b):=fun U I es nm h=>
 hb.go (cA h.N h.A.1.2) h.A.2 h.W.1 h.B (Ba h.s h.A.1) (wQ ic h.l) (Be h.P) fun es1 N1 p1=>
 ro N1 (zu h.N h.A.1 (h.B.le (cQ hle b _ _)) (l4 h.l) p1 l5)
theorem M5{k j:K}{x:Nm}{a:T k}{b:T j}(ha:RH d i ins lf P a)(hb:RH d i ins lf P b):RH d i ins lf P (.let1 x a b):=fun U I es nm h=>
 ha.go (cA h.N h.A.1.2) h.A.2.1 h.W.1 (h.B.le (cQ hle b _ _)) h.s (l0 (lx oP h.l)) (fun k z e=>h.P k z (.inl e)) fun es1 N1 p1=>
 hb.go N1 h.A.2.2 h.W.2.1 h.B (Ba h.s h.A.1) (wQ ic (lx vD h.l)) (Be fun k z e=>h.P k z (.inr e)) fun es2 N2 p2=>
 ro N2 (rv h.N h.A.1 (h.B.le ((cQ hle a _ _).trans (cQ hle b _ _))) (l4 h.l) (r:=false) (p1.mono oP) (p2.mono vD) l5)
theorem M0{j:K}{x:Nm}{a:T .f}{b:T j}(ha:RH d i ins lf P a)(hb:RH d i ins lf P b):RH d i ins lf P (.dQ x a b):=fun U I es nm h=>
 ha.go (cA h.N h.A.1.2) h.A.2.1 h.W.1 (h.B.le (cQ hle b _ _)) (Ba h.s h.A.1) (wQ ic (lx oP h.l)) (Be fun k z e=>h.P k z (.inl e.1)) fun es1 N1 p1=>
 hb.go N1 h.A.2.2 h.W.2.2.1 h.B (Ba h.s h.A.1) (wQ ic (lx vD h.l)) (Be fun k z e=>h.P k z (.inr e)) fun es2 N2 p2=>
 ro N2 (rv h.N h.A.1 (h.B.le ((cQ hle a _ _).trans (cQ hle b _ _))) (l4 h.l) (r:=true) (p1.mono oP) (p2.mono vD) l5)
theorem M4{x y:Nm}{a:T k}{c:T .i}{b:T j}(ha:RH d i ins lf P a)(hc:RH d i ins lf P c)(hb:RH d i ins lf P b):RH d i ins lf P (.bW x a y c b):=fun U I es nm h=>
 ha.go (cA (cA h.N h.A.1.2) h.A.2.1.2) h.A.2.2.1 h.W.2.1 (h.B.le ((cQ hle c _ _).trans (cQ hle b _ _))) h.s (l0 (lx oP h.l)) (fun k z e=>h.P k z (.inl e)) fun es1 N1 p1=>
 hc.go N1 h.A.2.2.2.1 h.W.2.2.1 (h.B.le (cQ hle b _ _)) h.s (l0 (lx IZ h.l)) (fun k z e=>h.P k z (.inr (.inl e))) fun es2 N2 p2=>
 hb.go N2 h.A.2.2.2.2 h.W.2.2.2.1 h.B (qk (Ba h.s h.A.1) h.A.2.1.2) (l2 xP (lx IY h.l)) (Be (Be fun k z e=>h.P k z (.inr (.inr e)))) fun G9 N3 p3=>
 let hy:=h.B.le ((cQ hle a _ _).trans ((cQ hle c _ _).trans (cQ hle b _ _)))
 ro N3 (EW h.N h.A.1 (hy.le bF) (l4 h.l) h.A.2.1 hy (p1.mono oP) (p2.mono IZ) (p3.mono IY) l5)
theorem M3{j:K}{x n v:Nm}{z:Nat}{b:T j}(hb:RH d i ins lf P b):RH d i ins lf P (.dR x n v z b):=fun U I es nm h=>
 let hv:=h.B.le (cQ hle b _ _)
 let N1:=cA h.N h.A.1.2
 let s1:=Ba h.s h.A.1
 let p1:=EX (d:=d) (i:=i) (ins:=ins) (z:=z) (B:=18) N1 s1 mE h.A.2.1 h.A.2.2.1 hv h.W.1.1 h.W.1.2.1 h.W.1.2.2 (l25 ic h.l) (ab _)
 hb.go (cA (cA N1 h.A.2.1.2) h.A.2.2.1.2) h.A.2.2.2 h.W.2.1 h.B s1 (wQ ic (l24 h.l)) (Be h.P) fun es2 N2 p2=>
 ro N2 (rv h.N h.A.1 (hv.le (bF.trans bF)) (l4 (l24 h.l)) (r:=true) (p1.mono oP) (p2.mono vD) l26)
theorem H4{s:T .i}{x:Nm}{z:Int}{a o:T j}(hs:RH d i ins lf P s)(ha:RH d i ins lf P a)(ho:RH d i ins lf P o):RH d i ins lf P (.bG s x z a o):=fun U I es nm h=>
 hs.go (cA h.N h.A.2.1.2) h.A.1 h.W.1 (h.B.le ((cQ hle a _ _).trans (cQ hle o _ _))) h.s (l0 (lx oP h.l)) (fun k z e=>h.P k z (.inl e)) fun es1 N1 p1=>
 ha.go N1 h.A.2.2.1 h.W.2.1.1 (h.B.le (cQ hle o _ _)) (Ba h.s h.A.2.1) (wQ ic (lx IZ h.l)) (Be fun k z e=>h.P k z (.inr ⟨.inl e.1,e.2⟩)) fun es2 N2 p2=>
 ho.go N2 h.A.2.2.2 h.W.2.2.1 h.B (Ba h.s h.A.2.1) (wQ ic (lx IY h.l)) (Be fun k z e=>h.P k z (.inr ⟨.inr e.1,e.2⟩)) fun G9 N3 p3=>
 ro N3 (uG h.N h.A.2.1 (h.B.le ((cQ hle s _ _).trans ((cQ hle a _ _).trans (cQ hle o _ _)))) (l4 h.l) (p1.mono oP) (p2.mono IZ) (p3.mono IY) (d8 o) l5)
theorem H5{j:K}{s:T .f}{x:Nm}{o:T j}(hs:RH d i ins lf P s)(ho:RH d i ins lf P o):RH d i ins lf P (.cE s x o):=fun U I es nm h=>
 hs.go (cA h.N h.A.2.1.2) h.A.1 h.W.1 (h.B.le (cQ hle o _ _)) h.s (l0 (lx oP h.l)) (fun k z e=>h.P k z (.inl e)) fun es1 N1 p1=>
 ho.go N1 h.A.2.2 h.W.2.1 h.B (Ba h.s h.A.2.1) (wQ ic (lx vD h.l)) (Be fun k z e=>h.P k z (.inr e)) fun G9 N3 p3=>
 ro N3 (BW h.N h.A.2.1 (h.B.le ((cQ hle s _ _).trans (cQ hle o _ _))) (l4 h.l) (p1.mono oP) (p3.mono vD) (d8 o) l5)
theorem H7{j:K}{s:T .c}{x y:Nm}{a o:T j}(hs:RH d i ins lf P s)(ha:RH d i ins lf P a)(ho:RH d i ins lf P o):RH d i ins lf P (.bD s x y a o):=fun U I es nm h=>
 hs.go (cA (cA h.N h.A.2.1.2) h.A.2.2.1.2) h.A.1 h.W.1 (h.B.le ((cQ hle a _ _).trans (cQ hle o _ _))) h.s (l0 (lx oP h.l)) (fun k z e=>h.P k z (.inl e)) fun es1 N1 p1=>
 ha.go N1 h.A.2.2.2.1 h.W.2.1.1 (h.B.le (cQ hle o _ _)) (qk (Ba h.s h.A.2.1) h.A.2.2.1.2) (l2 xP (lx IZ h.l)) (Be (Be fun k z e=>h.P k z (.inr ⟨.inl e.1,e.2⟩))) fun es2 N2 p2=>
 ho.go N2 h.A.2.2.2.2 h.W.2.2.1 h.B (Ba h.s h.A.2.1) (wQ ic (lx IY h.l)) (Be fun k z e=>h.P k z (.inr ⟨.inr e.1,e.2⟩)) fun G9 N3 p3=>
 let hy:=h.B.le ((cQ hle s _ _).trans ((cQ hle a _ _).trans (cQ hle o _ _)))
 ro N3 (BU h.N h.A.2.1 (hy.le bF) (l4 h.l) h.A.2.2.1 hy (p1.mono oP) (p2.mono IZ) (p3.mono IY) (d8 o) l5)
theorem H6{j:K}{s:T .c}{x y:Nm}{a o:T j}(hs:RH d i ins lf P s)(ha:RH d i ins lf P a)(ho:RH d i ins lf P o):RH d i ins lf P (.bK s x y a o):=fun U I es nm h=>
 hs.go (cA (cA h.N h.A.2.1.2) h.A.2.2.1.2) h.A.1 h.W.1 (h.B.le ((cQ hle a _ _).trans (cQ hle o _ _))) h.s (l0 (lx oP h.l)) (fun k z e=>h.P k z (.inl e)) fun es1 N1 p1=>
 ha.go N1 h.A.2.2.2.1 h.W.2.1.1 (h.B.le (cQ hle o _ _)) (qk (Ba h.s h.A.2.1) h.A.2.2.1.2) (l2 xP (lx IZ h.l)) (Be (Be fun k z e=>h.P k z (.inr ⟨.inl e.1,e.2⟩))) fun es2 N2 p2=>
 ho.go N2 h.A.2.2.2.2 h.W.2.2.1 h.B (Ba h.s h.A.2.1) (wQ ic (lx IY h.l)) (Be fun k z e=>h.P k z (.inr ⟨.inr e.1,e.2⟩)) fun G9 N3 p3=>
 let hy:=h.B.le ((cQ hle s _ _).trans ((cQ hle a _ _).trans (cQ hle o _ _)))
 ro N3 (BS h.N h.A.2.1 (hy.le bF) (l4 h.l) h.A.2.2.1 hy (p1.mono oP) (p2.mono IZ) (p3.mono IY) l5)
theorem Sd(DU:vu d i ins lf P)(hg:cf ins gS=none):∀{k:K}(t:T k),RH d i ins lf P t:=by
 intro k t
 induction t with
 |var k x=>exact R9 DU
 |err k=>exact fun U I es nm h=>ro h.N (BR (ae rfl))
 |lit z=>exact fun U I es nm h=>ro h.N (uF (ae rfl))
 |cD=>exact fun U I es nm h=>ro h.N (EZ (ae rfl))
 |add a b p q=>exact Se hle p q
 |app a b p q=>exact Sb hle p q
 |gap2 a b p q=>exact M6 hle hg p q
 |eg a p=>exact M7 hg p
 |cC a p=>exact Xy p
 |lam x b p=>exact Sa hle p
 |let1 x a b p q=>exact M5 hle p q
 |dQ x a b p q=>exact M0 hle p q
 |bW x a y c b p q r=>exact M4 hle p q r
 |dR x n v z b p=>exact M3 hle p
 |bG s x z a o p q r=>exact H4 hle p q r
 |cE s x o p q=>exact H5 hle p q
 |bD s x y a o p q r=>exact H7 hle p q r
 |bK s x y a o p q r=>exact H6 hle p q r
end
theorem zo(hle:∀k x I,qz I (lf k x I).2)(DU:vu d i ins lf P)(hg:cf ins gS=none)(t:T k)(U:Sg)(I:Fr)(es nm:List (Str×MV))(N:cG es I)(A:dj jv t)(W:WF t)(B:Bd (di lf t U I).2)(s:vq nm U)(l:nm.length+ht t<=b8)(p:∀k x,fv t k x->U x=none->P k x):
 ∃es',cG es' (di lf t U I).2/\Proc (d+3) i ins (enc t) nm es es' (enc (di lf t U I).1) (ht t):=Sd hle DU hg t U I es nm ⟨N,A,W,B,s,l,p⟩
end
section
variable{d i:Nat}{es:List (Str×MV)}{I:Fr}
theorem I9:vu d i [] qt (fun _ _=>True):=fun k x I es nm _ hN _ _ hn=>⟨es,hN,0,fun W _ mu _=>⟨_,rC hn rfl⟩⟩
theorem zg:vq [] σ0:=⟨fun _=>rfl,rfl⟩
theorem Ja:∀k x I,qz I (qt k x I).2:=fun _ _ _=>ej
theorem zp(hN:cG es I)(A:dj jv t)(Wf:WF t)(hB:Bd (nq t I).2)(hl:ht t<=b8):
 ∃es',cG es' (nq t I).2/\∃w0,∀W,w0<=W->∀mu,i<mu.length->Ev (ah W (d+4) 30 [eI i [],enc t] (mf mu i es)) ((false,enc (nq t I).1),mf mu i es'):=by
 obtain⟨es',N',p⟩:=zo (d:=d) (i:=i) (ins:=[]) Ja I9 rfl t σ0 I es [] hN A Wf hB zg (by simpa using hl) (fun _ _ _ _=>trivial)
 exact⟨es',N',H2 p hl⟩
theorem ux(hN:cG es I)(A:dj jv t)(Wf:WF t)(hB:Bd (nq t I).2)(hl:ht t<=b8):
 ∃es',cG es' (nq t I).2/\∃w0,∀W,w0<=W->∀mu,i<mu.length->Ev (ah W (d+5) 31 [enc t,.ref i] (mf mu i es)) ((false,enc (nq t I).1),mf mu i es'):=by
 obtain⟨es',N',w0,h⟩:=zp (d:=d) (i:=i) hN A Wf hB hl
 exact⟨es',N',w0,fun W hW mu hi Q k=>ao rfl rfl (h W hW mu hi _ k)⟩
noncomputable def El(zX:List (Str×MV))(ins:wj):Prop:=(∀x,cf zX (aX x)=(ins x).map fun s=>enc s.2)/\cf zX gS=none
theorem Ti(ins:wj):∀k x I,qz I (I8 ins k x I).2:=fun k x I=>cQ Ja _ _ _
theorem I6(h:El zX ins):vu (d+2) i zX (I8 ins) (fun k x=>∀k' s,ins x=some ⟨k',s⟩->k'=k/\dj jv s/\WF s/\ht s<=b8):=by
 intro k x I es nm hP hN ho hB hn
 have h0:=h.1 x
 induction hi:ins x with
 |none=>
  rw[hi]at h0
  have e:I8 ins k x I=(.var k x,I):=by unfold I8 gQ;refine hi.symm▸?_;rfl
  exact e.symm▸⟨es,hN,0,fun W _ mu _=>⟨_,rC hn h0⟩⟩
 |some p=>
  obtain⟨k',s⟩:=p
  rw[hi]at h0
  obtain⟨rfl,A,Wf,hl⟩:=hP k' s hi
  rw[(by unfold I8 gQ;rw[hi];simp:I8 ins k' x I=nq s I)]at hB⊢
  obtain⟨es',N',w0,hr⟩:=zp (d:=d) (i:=i) hN A Wf hB hl
  obtain⟨c,fs,hc⟩:=d8 s
  have h0:cf zX (aX x)=some (enc s):=h0
  rw[hc]at h0 hr
  exact⟨es',N',w0,fun W hW mu hm=>⟨false,(Jb hn h0).trans (hr W hW mu hm)⟩⟩
theorem om(h:El zX ins)(hN:cG es I)(A:dj jv b)(Wf:WF b)(hB:Bd (dT ins b I).2)(hl:ht b<=b8)
 (hP:∀k x,fv b k x->∀k' s,ins x=some ⟨k',s⟩->k'=k/\dj jv s/\WF s/\ht s<=b8):
 ∃es',cG es' (dT ins b I).2/\∃w0,∀W,w0<=W->∀mu,i<mu.length->Ev (ah W (d+7) 32 [enc b,.bI zX,.ref i] (mf mu i es)) ((false,enc (dT ins b I).1),mf mu i es'):=by
 obtain⟨es',N',p⟩:=zo (d:=d+2) (i:=i) (ins:=zX) (Ti ins) (I6 h) h.2 b σ0 I es [] hN A Wf hB zg (by simpa using hl) (fun k x e _=>hP k x e)
 obtain⟨w0,hr⟩:=H2 p hl
 exact⟨es',N',w0,fun W hW mu hi Q k=>ao rfl rfl (hr W hW mu hi _ k)⟩
end
theorem uE{S:List MV->Slot->Slot->St}
 (step:∀p ts a b(K:St->Prop)(Q:Fl->St->Prop),ts.length<=b8->K (S (ts++[g p]) (.fz p.1) (.fz (.tup (p.2.map .int))))->kf (frK s) (fV p) (S ts a b) fun st=>dJ W (ah W d) d (O8 s) st (wz K Q)):
 ∀(ps:List (MV×List Int))(ts:List MV)(a b:Slot),ts.length+ps.length<=b8->∃a' b',∀r Q,r (S (ts++ps.map g) a' b') Q->Uq s W d r (ps.map fV) (S ts a b) Q:=by
 intro ps
 induction ps with
 |nil=>
  intro ts a b _
  exact⟨a,b,fun r Q k=>by rw[jf,aT]at k;exact k⟩
 |cons p ps cz=>
  intro ts a b hl
  rw[et]at hl
  obtain⟨a',b',ih⟩:=cz (ts++[g p]) (.fz p.1) (.fz (.tup (p.2.map .int))) (by rw[aF];show ts.length+1+_<=_;lia)
  refine⟨a',b',fun r Q k=>?_⟩
  refine step p ts a b _ Q (by lia) (ih r Q ?_)
  rw[bq]
  exact k
inductive Nd(f:MV->Nat)(c:Nat):MV->Nat->Nat->Prop
 |r7(s:Str){h:Nat}(hh:4<=h):Nd f c (bJ s) (f (bJ s)) h
 |zR{k:Cl}{fs:List MV}{pid h:Nat}(hk:aL 0 k.n=false)(hm:fE k .parts=some pid)(hp:∀W d mu,Ev (ah W (d+1) pid [.inst k fs] mu) ((true,.lst []),mu))(hh:4<=h):Nd f c (.inst k fs) (f (.inst k fs)) h
 |one{sh:Sh}{p:MV}{s:List Int}{m h1 h:Nat}(hk:sh.ok)(he:sh.parts=[(p,s)])(hp:Nd f c p m h1)(hh:h1+4<=h):Nd f c sh.mv (c+m) h
 |two{sh:Sh}{p q:MV}{s t:List Int}{m n h1 h2 h:Nat}(hk:sh.ok)(he:sh.parts=[(p,s),(q,t)])(hp:Nd f c p m h1)(hq:Nd f c q n h2)(hh:max h1 h2+4<=h):Nd f c sh.mv (c+(m+n)) h
 |three{sh:Sh}{p q r:MV}{s t u:List Int}{m n l h1 h2 h3 h:Nat}(hk:sh.ok)(he:sh.parts=[(p,s),(q,t),(r,u)])(hp:Nd f c p m h1)(hq:Nd f c q n h2)(hr:Nd f c r l h3)(hh:max h1 (max h2 h3)+4<=h):Nd f c sh.mv (c+(m+(n+l))) h
section
variable{f:MV->Nat}{c:Nat}
noncomputable def ip(f:MV->Nat)(c:Nat):{k:K}->T k->Nat
 |_,.var z1 x=>f (bJ (aX x))
 |_,.err z1=>f IW
 |_,.lit z=>f (fF (z:Int))
 |_,.add a b=>c+(ip f c a+ip f c b)
 |_,.app a b=>c+(ip f c a+ip f c b)
 |_,.gap2 a b=>c+(f (bJ gS)+(ip f c a+ip f c b))
 |_,.eg a=>c+(f (bJ gS)+ip f c a)
 |_,.lam z1 b=>c+ip f c b
 |_,.cD=>f (.inst .o9 [sM "D",.lst []])
 |_,.cC a=>c+ip f c a
 |_,.let1 (k:=k) z1 a b=>c+(ip f c a+ip f c b)
 |_,.bW (k:=k) z1 a z2 d b=>c+(ip f c a+(ip f c d+ip f c b))
 |_,.dQ z1 a b=>c+(ip f c a+ip f c b)
 |_,.dR x n z1 z b=>c+((c+(c+(f (bJ (aX n))+(f (fF (z:Int))+(c+(f (bJ (aX x))+(c+(f (bJ (aX n))+f (fF (-1))))))))))+ip f c b)
 |_,.bG s z1 z2 a o=>c+(ip f c s+(ip f c a+ip f c o))
 |_,.cE s z1 o=>c+(ip f c s+ip f c o)
 |_,.bK s z1 z2 a o=>c+(ip f c s+(ip f c a+ip f c o))
 |_,.bD s z1 z2 a o=>c+(ip f c s+(ip f c a+ip f c o))
theorem B0(hh:4<=h):Nd f c (.inst .Lit [a,b]) (f (.inst .Lit [a,b])) h:=.zR rfl rfl (fun _ _ _=>lZ) hh
theorem xR(p:Nd f c a m h1)(q:Nd f c b n h2)(hh:max h1 h2+4<=h):Nd f c (.inst .App [a,.lst [b]]) (c+(m+n)) h:=.two (sh:=.ll a b) trivial rfl p q hh
theorem ID(p:Nd f c a m h1)(q:Nd f c b n h2)(hh:max h1 h2+4<=h):Nd f c (iQ a b) (c+(m+n)) h:=.two (sh:=.add a b) trivial rfl p q hh
theorem NA:Nd f c (ji x n v z) (c+(c+(f (bJ (aX n))+(f (fF z)+(c+(f (bJ (aX x))+(c+(f (bJ (aX n))+f (fF (-1)))))))))) 20:=by
 rw[qC]
 exact .one (sh:=.lam (aX n) _) (h1:=16) trivial rfl (.three (sh:=.bG (bJ (aX n)) (aX v) 0 (fF z) _) (h1:=4) (h2:=4) (h3:=12) ⟨_,_,rfl⟩ rfl (.r7 _ (by decide)) (B0 (by decide)) (xR (h1:=4) (h2:=8) (.r7 _ (by decide)) (ID (h1:=4) (h2:=4) (.r7 _ (by decide)) (B0 (by decide)) (by decide)) (by decide)) (by decide)) (by decide)
theorem dm(e:h=4+max a b):max a b+4<=h:=by rw[e,aW];exact ab _
theorem IC:∀{k:K}(t:T k),Nd f c (enc t) (ip f c t) (ht t):=by
 intro k t
 induction t with
 |var k x=>exact .r7 _ (ab 4)
 |err k=>exact .zR rfl rfl (fun _ _ _=>lB) (ab 4)
 |lit z=>exact B0 (ab 4)
 |cD=>exact .zR rfl rfl (fun _ _ _=>mK) (ab 4)
 |add a b bZ dE=>exact ID bZ dE (dm rfl)
 |app a b bZ dE=>exact xR bZ dE (dm rfl)
 |gap2 a b bZ dE=>exact .three (sh:=.qO (bJ gS) (enc a) (enc b)) (h1:=4) trivial rfl (.r7 _ (by decide)) bZ dE (Ma (by decide) (nX a))
 |eg a bZ=>exact xR (h1:=4) (.r7 _ (by decide)) bZ (JN (by decide) (nX a))
 |lam x b ih=>exact .one (sh:=.lam (aX x) (enc b)) trivial rfl ih (bu (aW _ _))
 |cC a ih=>exact .one (sh:=.qD (enc a)) trivial rfl ih (bu (aW _ _))
 |let1 x a b bZ dE=>exact .two (sh:=.let1 (aX x) (enc a) (enc b) false) trivial rfl bZ dE (dm rfl)
 |dQ x a b bZ dE=>exact .two (sh:=.let1 (aX x) (enc a) (enc b) true) trivial rfl bZ dE (dm rfl)
 |bW x a y d b bZ ihd dE=>exact .three (sh:=.bW (aX x) (enc a) (aX y) (enc d) (enc b)) trivial rfl bZ ihd dE (dm rfl)
 |dR x n v z b dE=>exact .two (sh:=.let1 (aX x) (ji x n v z) (enc b) true) trivial rfl NA dE (hm3 (by decide))
 |bG s x z a o gj bZ gn=>exact .three (sh:=.bG (enc s) (aX x) z (enc a) (enc o)) (d8 o) rfl gj bZ gn (dm rfl)
 |cE s x o gj gn=>exact .two (sh:=.jk (enc s) (aX x) (enc o)) (d8 o) rfl gj gn (dm rfl)
 |bK s x y a o gj bZ gn=>exact .three (sh:=.bK (enc s) (aX x) (aX y) (enc a) (enc o)) trivial rfl gj bZ gn (dm rfl)
 |bD s x y a o gj bZ gn=>exact .three (sh:=.bD (enc s) (aX x) (aX y) (enc a) (enc o)) (d8 o) rfl gj bZ gn (dm rfl)
end
noncomputable def zf:Ss:=gu xr
noncomputable def W5:Ss:=gu (gu (O8 zf))
noncomputable def sst(e:MV)(most k:Int)(ts:List MV)(J:List Slot)(mu:List MC):St:=⟨.fz e:: .fz (.int most):: .fz (.int k):: .own (.lst ts)::J,mu⟩
section
variable{W d N:Nat}{mu:List MC}{e:MV}{most k:Int}{ts:List MV}{J:List Slot}
theorem EI(hl:ts.length<=b8)(hk:most<k\/ts=[])(q:Q false (.int (if ts=[]then k else most+1)) mu):PY zf W d (N+1) (sst e most k ts J mu) (eL Q):=by
 by_cases hn:ts=[]
 ·subst hn
  exact q
 ·have G7:¬k<=most:=by rcases hk with h|h;lia;exact(hn h).elim
  have eM:(!ts.isEmpty)=true:=by induction ts with|nil=>exact absurd rfl hn|cons x r=>rfl
  rw[if_neg hn]at q
  exact aD hl (aY eM (bp (decide_eq_false G7) (aD hl (bp (b:= !(!ts.isEmpty)) (by rw[eM];rfl) q))))
theorem sz4{n L:Nat}(h:n+4<=L):n<L:=eu (iZ (by decide)) h
theorem sz5{n p L:Nat}(h:n+4<=L)(q:p<=3):n+p<=L:=aa (ag (dM q) n) h
theorem EH{v:MV}{c:Cl}{fs:List MV}{pid:Nat}{f:Bool}{ps:List (MV×List Int)}(hv:v=.inst c fs)(hm:fE c .parts=some pid)(hp:Ev (ah W d pid [v] mu) ((f,gE ps),mu))(h3:ps.length<=3)
 (hl:ts.length+4<=b8) (hk:k<=most) {Q:Fl->St->Prop} (q:∀J:List Slot,J.length=3->PY zf W d N (sst e most (k+1) (ts++ps.map (·.1)) J mu) Q):∀J:List Slot,J.length=3->PY zf W d (N+1) (sst e most k (ts++[v]) J mu) Q:=by
 refine ng 3 ?_;intro a b c'
 subst hv
 obtain⟨a',b',Bc⟩:=uE (s:=W5) (W:=W) (d:=d) (S:=fun ts a b=>⟨[.fz e,.fz (.int most),.fz (.int (k+1)),.own (.lst ts),.fz (.inst c fs),a,b],mu⟩) (g:=fun p=>p.1)
  (fun p ts a b K Q hl k=>aD hl (aD hl k)) ps ts b c' (sz5 hl h3)
 exact aD (cg (sz4 hl)) (aY eV (aY (decide_eq_true hk) (aD (cg (sz4 hl)) (eW (eh hm (hp _ (Bc _ _ (q [.fz (.inst c fs),a',b'] rfl))))))))
end
noncomputable abbrev g8:MV->Nat:=fun _=>1
inductive C3:List MV->Nat->Prop
 |nil:C3 [] 0
 |snoc{ts:List MV}{M:Nat}{v:MV}{m h:Nat}(hs:C3 ts M)(hv:Nd g8 1 v m h):C3 (ts++[v]) (M+m)
structure NdI(v:MV)(m:Nat):Prop where
 h:∃(c:Cl)(fs:List MV)(pid:Nat)(f:Bool)(ps:List (MV×List Int)),v=.inst c fs/\fE c .parts=some pid/\(∀W d mu,Ev (ah W (d+1) pid [v] mu) ((f,gE ps),mu))/\ps.length<=3/\
  ∀ts M,C3 ts M->∃M',C3 (ts++ps.map (·.1)) M'/\M+m=M'+1
theorem zF(hm:fE c .parts=some pid)(hp:∀W d mu,Ev (ah W (d+1) pid [.inst c fs] mu) ((true,.lst []),mu)):NdI (.inst c fs) 1:=
 ⟨c,fs,pid,true,[],rfl,hm,hp,bC _,fun ts M h=>⟨M,(aT ts).symm▸h,rfl⟩⟩
theorem BZ{sh:Sh}(hk:sh.ok)(he:sh.parts=ps)(h3:ps.length<=3)(h:∀ts M,C3 ts M->C3 (ts++ps.map (·.1)) (M+m)):NdI sh.mv (1+m):=by
 subst he
 obtain⟨fs,FL⟩:=mO sh
 exact⟨_,fs,_,sh.pf,sh.parts,FL,(ir sh).1,fun _ _ _=>kP hk,h3,fun ts M q=>⟨M+m,h ts M q,by rw[aW 1,bh]⟩⟩
theorem SU(hv:Nd g8 1 v m h):NdI v m:=by
 induction hv with
 |r7 s=>exact zF rfl fun _ _ _=>kE
 |zR hk hm hp=>exact zF hm hp
 |one hk he hp=>exact BZ hk he (ae rfl) fun ts M h=>.snoc h hp
 |two hk he hp hq=>exact BZ hk he (ae rfl) fun ts M h=>by have r:=C3.snoc (C3.snoc h hp) hq;rw[bq,bh]at r;exact r
 |three hk he hp hq hr=>exact BZ hk he (ae rfl) fun ts M h=>by have r:=C3.snoc (C3.snoc (C3.snoc h hp) hq) hr;rw[bq,bq,bh,bh]at r;exact r
theorem Nz(h:C3 ts M)(e:ts=[]):M=0:=by
 induction h with
 |nil=>rfl
 |snoc _ _=>exact absurd e (by simp)
section
variable{d:Nat}{e:MV}{most:Nat}
noncomputable def SzR(d:Nat)(e:MV)(most g k:Nat)(ts:List MV)(M:Nat):Prop:=
 ∃r:Int,(r<=most->k+M<=most)/\∀(W N:Nat)(mu:List MC)(Q:oS),g+1<=N->Q false (.int r) mu->∀J:List Slot,J.length=3->PY zf W (d+1) N (sst e most k ts J mu) (eL Q)
theorem n1(h:g+1<=N):∃n,N=n+1/\g<=n:=by
 induction N with
 |zero=>exact(eF _ h).elim
 |succ n=>exact⟨n,rfl,aR h⟩
theorem z1_{most:Nat}:¬((most:Int)+1<=most):=fun h=>Int.lt_irrefl _ (Int.lt_of_add_one_le h)
theorem xE{g k:Nat}{ts:List MV}{M:Nat}(hs:C3 ts M)(hl:ts.length<=b8)(Wj:most<k\/ts=[]):SzR d e most g k ts M:=by
 refine⟨if ts=[]then(k:Int)else most+1,fun h=>?_,fun W N mu Q hN q J hj=>?_⟩
 ·by_cases hn:ts=[]
  ·rw[if_pos hn]at h;rw[Nz hs hn];exact bQ.mp h
  ·rw[if_neg hn]at h;exact(z1_ h).elim
 ·obtain⟨N,rfl,_⟩:=n1 hN
  exact EI hl (Wj.imp_left fun h=>jq.mpr h) q
theorem sl1{n k most:Nat}(hm:most<=100)(h:n<=2*k+1)(hk:k<=most+1):n<=b8:=aa h (aa (bA (aK 2 (aa hk (bA hm)))) (ae rfl))
theorem sl2{n k most:Nat}(hm:most<=100)(h:n+1<=2*k+1)(hk:k<=most):n+4<=b8:=aa (aE (aa (aR h) (aK 2 (aa hk hm))) 4) (ae rfl)
theorem sl3{g k most:Nat}(h:most+1-k<=g+1):most+1-(k+1)<=g:=Nat.pred_le_pred h
theorem sl4{n p k:Nat}(h:n+1<=2*k+1)(q:p<=3):n+p<=2*(k+1)+1:=(aG (aR h) q:n+p<=2*k+3)
theorem sl5{k most:Nat}(h:most+1-k<=0)(hk:k<=most+1):most<k:=C6 (Nat.le_zero.mp h)
theorem sl6{k M M' m most:Nat}(e:M+m=M'+1)(h:k+1+M'<=most):k+(M+m)<=most:=by rw[e,<-bh,ew];exact h
theorem EJ(hm:most<=100):∀(g k:Nat)(ts:List MV)(M:Nat),C3 ts M->most+1-k<=g->ts.length<=2*k+1->k<=most+1->SzR d e most g k ts M:=by
 intro g
 induction g with
 |zero=>exact fun k ts M hs hg hl hk=>xE hs (sl1 hm hl hk) (.inl (sl5 hg hk))
 |succ g ih=>
  intro k ts M hs hg hl hk
  by_cases Wj:k<=most
  ·induction hs with
   |nil=>exact xE .nil (bC _) (.inr rfl)
   | @snoc ts M v m h hs hv=>
     obtain⟨⟨c,fs,pid,f,ps,hv1,Ma,hp1,h3,Qc⟩⟩:=SU hv
     obtain⟨M',hs',hM⟩:=Qc ts M hs
     have hl:ts.length+1<=2*k+1:=by rw[aF]at hl;exact hl
     obtain⟨r,hM2,hw⟩:=ih (k+1) (ts++ps.map (·.1)) M' hs' (sl3 hg) (by rw[aF,aI];exact sl4 hl h3) (bA Wj)
     refine⟨r,fun h=>sl6 hM (hM2 h),fun W N mu Q hN q=>?_⟩
     obtain⟨N,rfl,Zi⟩:=n1 hN
     exact EH hv1 Ma (hp1 W d mu) h3 (sl2 hm hl Wj) (bQ.mpr Wj) (hw W N mu Q Zi q)
  ·exact xE hs (sl1 hm hl hk) (.inl (uc Wj))
theorem MN(hm:most<=100)(hv:Nd g8 1 v m h):∃r:Int,(r<=most->m<=most)/\∀W mu,most+3<=W->Ev (ah W (d+2) 39 [v,.int most] mu) ((false,.int r),mu):=by
 obtain⟨r,hM,hw⟩:=EJ (d:=d) (e:=v) hm (most+1) 0 [v] (0+m) (.snoc .nil hv) (ab _) (ab _) (bC _)
 refine⟨r,fun h=>?_,fun W mu hW Q q=>ao rfl rfl (hw W W mu Q (cv hW) q [.un,.un,.un] rfl)⟩
 have q:=hM h
 rw[bM,bM]at q
 exact q
end
noncomputable def fU(s:Str):MV->Nat
 |.inst .Var [.str t]=>if t=s then 1 else 0
 |_=>0
noncomputable def PC:Ss:=gu xq
noncomputable def WO:Ss:=gu (gu (gu (O8 PC)))
noncomputable def ust(nmv e:MV)(j:Nat)(ts:List MV)(J:List Slot)(mu:List MC):St:=⟨.fz nmv:: .fz e:: .fz (.ref j):: .own (.lst ts)::J,mu⟩
noncomputable def gy(c:Cl):Bool:=aL 3 c.n||false
section
variable{W d N j:Nat}{mu:List MC}{e:MV}{ts:List MV}{J:List Slot}{s:Str}{k:Int}{inf b:Bool}
noncomputable abbrev um(mu:List MC)(j:Nat)(k:Int)(inf:Bool):List MC:=mu.set j (.uses k inf)
theorem HB(hj:j<mu.length):(um mu j k inf)[j]?=some (.uses k inf):=by unfold um;rw[cq hj]
theorem Q4:(um mu j k inf).set j (.uses k' aa3)=um mu j k' aa3:=by unfold um;rw[fW]
theorem Nr(hj:j<mu.length):Ev (ah W (d+1) 42 [.ref j,.bool b] (um mu j k inf)) ((false,.none),um mu j (k+1) (inf||b)):=fun Q q=>by
 have h:=HB (k:=k) (inf:=inf) hj
 have h2:((um mu j k inf).set j (.uses (k+1) inf))[j]?=some (.uses (k+1) inf):=by rw[Q4];exact HB hj
 have q:Q false .none (((um mu j k inf).set j (.uses (k+1) inf)).set j (.uses (k+1) (inf||b))):=by unfold um;rw[fW,fW];exact q
 induction inf<;>exact ao rfl rfl (cI h (cI h2 (cI h2 q)))
noncomputable def US(s:Str)(e:MV)(j:Nat)(ts:List MV)(mu:List MC)(J:List Slot):St:=ust (.str s) e j ts J mu
noncomputable abbrev UR(W d:Nat)(s:Str)(e:MV)(j:Nat)(ts ts':List MV)(mu mu':List MC)(n:Nat):Prop:=Rn (PY PC W (d+1)) 5 (US s e j ts mu) (US s e j ts' mu') n
theorem Hv(hm:j<mu.length)(hl:ts.length<b8):UR W d s e j (ts++[.tup [bJ t,.bool b]]) ts (um mu j k inf) (um mu j (k+(fU s (bJ t):Nat)) (if t=s then inf||b else inf)) 1:=fun N Q q=>by
 refine ng 5 ?_;intro a b1 c' d' e'
 have hc:=HB (k:=k) (inf:=inf) hm
 have q:=q [.fz (bJ t),.fz (.bool b),.fz (.bool b),d',e'] rfl
 by_cases ht:t=s
 ·subst ht
  have hf:fU t (bJ t)=1:=if_pos rfl
  rw[if_pos rfl,hf]at q
  induction b<;>exact aD (cg hl) (aY eV (aD (cg hl) (eW (aY k9 (cI hc (Nr hm _ q))))))
 ·have hf:fU s (bJ t)=0:=if_neg ht
  rw[if_neg ht,hf,show k+((0:Nat):Int)=k from sS k]at q
  induction b<;>exact aD (cg hl) (aY eV (aD (cg hl) (eW (bp (jX ht) q))))
theorem NM(h:n+4<=L):n<L:=by lia
theorem Yc(h:n+4<=L)(g:m<=3):n+m<=L:=by lia
theorem wx(hv:v=.inst c fs)(hcv:aL 0 c.n=false)(hm:fE c .parts=some pid)(hp:Ev (ah W (d+1) pid [v] mu) ((f,gE ps),mu))(h3:ps.length<=3)
 (hl:ts.length+4<=b8):UR W d s e j (ts++[.tup [v,.bool b]]) (ts++ps.map fun p=>.tup [p.1,.bool (b||gy c)]) mu mu 1:=fun N Q q=>by
 refine ng 5 ?_;intro a b1 c' d' e'
 subst hv
 obtain⟨a',b',Bc⟩:=uE (s:=WO) (W:=W) (d:=d+1) (S:=fun ts x y=>⟨[.fz (.str s),.fz e,.fz (.ref j),.own (.lst ts),.fz (.inst c fs),.fz (.bool b),.fz (.bool (b||gy c)),x,y],mu⟩) (g:=fun p=>.tup [p.1,.bool (b||gy c)])
  (fun p ts a b K Q hl k=>aD hl (aD hl k)) ps ts d' e' (Yc hl h3)
 have q:=q [.fz (.inst c fs),.fz (.bool b),.fz (.bool (b||gy c)),a',b'] rfl
 induction b<;>exact aD (cg (NM hl)) (aY eV (aD (cg (NM hl)) (eW (bp (by rw[hcv];rfl:(aL 0 c.n||false)=false) (eh hm (hp _ (Bc _ _ q)))))))
theorem Kl(h:aL 0 c.n=false):fU s (.inst c fs)=0:=by
 induction c<;>first|rfl|cases h
noncomputable def UV(s:Str)(v:MV)(m h:Nat):Prop:=∃(n:Nat)(g:Bool->Bool->Bool),∀W d mu j e ts(k:Int) inf b,j<mu.length->ts.length+h<=b8->
 UR W d s e j (ts++[.tup [v,.bool b]]) ts (um mu j k inf) (um mu j (k+m) (g b inf)) n
theorem PM(sh:Sh):aL 0 sh.cl.n=false:=by induction sh<;>rfl
theorem us1(q:h1+4<=h)(l:n+h<=L):n+h1<=L:=by lia
theorem us4(q:h1+4<=h)(l:n+h<=L):n+4<=L:=by lia
theorem us2(q:h1+4<=h)(l:n+h<=L):n+1+h1<=L:=by lia
theorem us3(q:h1+4<=h)(l:n+h<=L):n+1+1+h1<=L:=by lia
theorem mxa{a b h:Nat}(q:max a b+4<=h):a+4<=h:=aa (aE (aC _ _) 4) q
theorem mxb{a b h:Nat}(q:max a b+4<=h):b+4<=h:=aa (aE (az _ _) 4) q
theorem sn1:(ts++[x]).length=ts.length+1:=aF
theorem kk2:k+((0+(m+n):Nat):Int)=k+(n:Int)+(m:Int):=by lia
theorem kk3:k+((0+(m+(n+l)):Nat):Int)=k+(l:Int)+(n:Int)+(m:Int):=by lia
theorem rd{sh:Sh}(hk:sh.ok)(he:sh.parts=ps)(h3:ps.length<=3)(hl:ts.length+4<=b8):UR W d s e j (ts++[.tup [sh.mv,.bool b]]) (ts++ps.map fun p=>.tup [p.1,.bool (b||gy sh.cl)]) mu mu 1:=by
 obtain⟨fs,FL⟩:=mO sh
 subst he
 exact wx FL (PM sh) (ir sh).1 (kP hk) h3 hl
theorem WN(hv:Nd (fU s) 0 v m h):UV s v m h:=by
 induction hv with
 |r7 t hh=>exact⟨1,fun b inf=>if t=s then inf||b else inf,fun W d mu j e ts k inf b hm hl=>Hv hm (NM (aa (ag hh _) hl))⟩
 | @zR c fs pid h hk hmi hp hh=>
   refine⟨1,fun b inf=>inf,fun W d mu j e ts k inf b hm hl=>?_⟩
   have r:=wx (W:=W) (d:=d) (j:=j) (e:=e) (s:=s) (b:=b) (ps:=[]) rfl hk hmi (hp W d (um mu j k inf)) (bC _) (ts:=ts) (aa (ag hh _) hl)
   rw[jf,aT]at r
   rw[Kl hk,show k+((0:Nat):Int)=k from sS k]
   exact r
 | @one sh p t m h1 h hk he hp hh ih=>
   obtain⟨n,g,ih⟩:=ih
   refine⟨n+1,fun b inf=>g (b||gy sh.cl) inf,fun W d mu j e ts k inf b hm hl=>?_⟩
   rw[bM]
   exact(rd hk he (ae rfl) (us4 hh hl)).trans (ih W d mu j e ts k inf (b||gy sh.cl) hm (us1 hh hl))
 | @two sh p q t u m m2 h1 h2 h hk he hp hq hh TU TT=>
   obtain⟨n1,g1,TU⟩:=TU
   obtain⟨n2,g2,TT⟩:=TT
   refine⟨n1+(n2+1),fun b inf=>g1 (b||gy sh.cl) (g2 (b||gy sh.cl) inf),fun W d mu j e ts k inf b hm hl=>?_⟩
   refine kk2.symm▸?_
   have i2:=TT W d mu j e (ts++[.tup [p,.bool (b||gy sh.cl)]]) k inf (b||gy sh.cl) hm (by exact sn1.symm▸us2 (mxb hh) hl)
   rw[bq]at i2
   exact((rd hk he (ae rfl) (us4 hh hl)).trans i2).trans (TU W d mu j e ts (k+m2) _ (b||gy sh.cl) hm (us1 (mxa hh) hl))
 | @three sh p q r t u v m m2 m3 h1 h2 h3 h hk he hp hq hr hh TU TT ih3=>
   obtain⟨n1,g1,TU⟩:=TU
   obtain⟨n2,g2,TT⟩:=TT
   obtain⟨n3,g3,ih3⟩:=ih3
   refine⟨n1+(n2+(n3+1)),fun b inf=>g1 (b||gy sh.cl) (g2 (b||gy sh.cl) (g3 (b||gy sh.cl) inf)),fun W d mu j e ts k inf b hm hl=>?_⟩
   refine kk3.symm▸?_
   have i3:=ih3 W d mu j e (ts++[.tup [p,.bool (b||gy sh.cl)]]++[.tup [q,.bool (b||gy sh.cl)]]) k inf (b||gy sh.cl) hm (by exact sn1.symm▸sn1.symm▸us3 (mxb (mxb hh)) hl)
   rw[bq,bq]at i3
   exact(((rd hk he (ae rfl) (us4 hh hl)).trans i3).trans (TT W d mu j e (ts++[.tup [p,.bool (b||gy sh.cl)]]) (k+m3) _ (b||gy sh.cl) hm (by exact sn1.symm▸us2 (mxa (mxb hh)) hl))).trans (TU W d mu j e ts (k+m3+m2) _ (b||gy sh.cl) hm (us1 (mxa hh) hl))
theorem Mq(hv:Nd (fU s) 0 v m h)(hl:h<=b8):∃(w0:Nat)(inf:Bool),∀W d mu,w0<=W->Ev (ah W (d+3) 43 [.str s,v] mu) ((false,.ref mu.length),mu++[.uses m inf]):=by
 obtain⟨n,g,hu⟩:=WN hv
 refine⟨n+1,g false false,fun W d mu hW Q q=>?_⟩
 have hu0:∀k inf,um (mu++[.uses 0 false]) mu.length k inf=mu++[.uses k inf]:=fun k inf=>by
  unfold um
  rw[og _ _ (ab _),sP];rfl
 have e:=hu W (d+1) (mu++[.uses 0 false]) mu.length v [] 0 false false (by rw[aF];exact dU _) ((bM h).symm▸hl)
 rw[hu0,hu0,WD]at e
 have e:=e (W-n) (eL Q)
 rw[bL (cv hW)]at e
 refine ao rfl rfl (e (fun J hj=>?_) [.un,.un,.un,.un,.un] rfl)
 obtain⟨N,hN⟩:∃N,W-n=N+1:=⟨_,(bL (jn hW)).symm⟩
 exact hN.symm▸q
end
noncomputable def isAtom{k:K}(t:T k):Bool:=tc false t (var:=fun _=>true) (lit:=true) (cD:=true)
noncomputable def uU{k:K}(t:T k):Bool:=aL 3 (CK t).n
noncomputable abbrev yZ(s:Str){k:K}(t:T k):Nat:=ip (fU s) 0 t
noncomputable abbrev mh{k:K}(t:T k):Nat:=ip g8 1 t
section
variable{d:Nat}
theorem Eg(t:T k):Ev (ah W (d+1) 44 [enc t] mu) ((false,.bool (isAtom t)),mu):=fun Q q=>by
 induction t<;>exact ao rfl rfl q
theorem OK(t:T k):∃c fs,enc t=.inst c fs/\gy c=uU t:=(An t).elim fun fs e=>⟨_,fs,e,yX _⟩
theorem HF(hm:most<=100)(hl:ht b<=b8):∃(r:Bool)(w0:Nat)(ext:List MC),(r=true->isAtom a=true\/yZ (aX x) b=1\/(uU a=true/\mh a<=most))/\
 ∀W mu,w0<=W->Ev (ah W (d+4) 45 [vN x,enc a,enc b,.int most] mu) ((false,.bool r),mu++ext):=by
 cases Wm:isAtom a
 ·obtain⟨w1,inf,hu⟩:=Mq (IC (f:=fU (aX x)) (c:=0) b) hl
  obtain⟨sr,hsr,hs⟩:=MN (d:=d+1) hm (IC (f:=g8) (c:=1) a)
  obtain⟨c,fs,hc,y2⟩:=OK a
  have hz:∀mu:List MC,(mu++[MC.uses ((yZ (aX x) b:Nat):Int) inf])[mu.length]?=some (.uses (yZ (aX x) b) inf):=fun mu=>by
   rw[ly (ab _),sP];rfl
  have ha:∀{W mu},Ev (ah W (d+3) 44 [.inst c fs] mu) ((false,.bool false),mu):=fun{W mu}=>by
   have h:=Eg (W:=W) (d:=d+2) (mu:=mu) a
   rw[Wm,hc]at h;exact h
  have sz:∀{W mu},most+3<=W->Ev (ah W (d+3) 39 [.inst c fs,.int most] mu) ((false,.int sr),mu):=fun{W mu} h=>by
   have h:=hs W mu h
   rw[hc]at h;exact h
  refine hc.symm▸?_
  by_cases h1:yZ (aX x) b=1
  ·cases inf
   ·refine⟨true,w1,[.uses (yZ (aX x) b:Nat) false],fun _=>.inr (.inl h1),fun W mu hW Q q=>?_⟩
    exact ao rfl rfl (ha _ (hu W d mu hW _ (cI (hz mu) (aY (decide_eq_true (by rw[h1])) (cI (hz mu) q)))))
   ·cases Og:gy c
    ·refine⟨false,w1,[.uses (yZ (aX x) b:Nat) true],fun h=>absurd h aJ,fun W mu hW Q q=>?_⟩
     exact ao rfl rfl (ha _ (hu W d mu hW _ (cI (hz mu) (aY (decide_eq_true (by rw[h1])) (cI (hz mu) (bp (b:=gy c) Og (bp (b:=gy c) Og (by rw[Og];exact q:Q false (.bool (gy c)) (mu++[.uses (yZ (aX x) b:Nat) true])))))))))
    ·refine⟨true,w1,[.uses (yZ (aX x) b:Nat) true],fun _=>.inr (.inl h1),fun W mu hW Q q=>?_⟩
     exact ao rfl rfl (ha _ (hu W d mu hW _ (cI (hz mu) (aY (decide_eq_true (by rw[h1])) (cI (hz mu) (aY (b:=gy c) Og q))))))
  ·have eM:¬(((yZ (aX x) b:Nat):Int)=((1:Nat):Int)):=fun e=>h1 (Int.ofNat.inj e)
   cases Og:gy c
   ·refine⟨false,w1,[.uses (yZ (aX x) b:Nat) inf],fun h=>absurd h aJ,fun W mu hW Q q=>?_⟩
    exact ao rfl rfl (ha _ (hu W d mu hW _ (cI (hz mu) (bp (decide_eq_false eM) (bp (b:=gy c) Og (by rw[Og];exact q:Q false (.bool (gy c)) (mu++[.uses (yZ (aX x) b:Nat) inf])))))))
   ·refine⟨decide (sr<=most),max w1 (most+3),[.uses (yZ (aX x) b:Nat) inf],fun h=>.inr (.inr ⟨y2▸Og,hsr (of_decide_eq_true h)⟩),fun W mu hW Q q=>?_⟩
    exact ao rfl rfl (ha _ (hu W d mu (aa (aC _ _) hW) _ (cI (hz mu) (bp (decide_eq_false eM) (aY (b:=gy c) Og (sz (aa (az _ _) hW) _ q))))))
 ·refine⟨true,0,[],fun _=>.inl rfl,fun W mu _ Q q=>?_⟩
  have h1:=Eg (W:=W) (d:=d+2) (mu:=mu) a
  rw[Wm]at h1
  rw[aT]at q
  exact ao rfl rfl (h1 _ q)
end
noncomputable def ld:{k:K}->T k->Nat
 |_,.var z1 z2=>0
 |_,.err z1=>0
 |_,.lit z1=>0
 |_,.add a b=>max (ld a) (ld b)
 |_,.app a b=>max (ld a) (ld b)
 |_,.gap2 a b=>max (ld a) (ld b)
 |_,.eg a=>ld a
 |_,.lam z1 b=>ld b
 |_,.cD=>0
 |_,.cC a=>ld a
 |_,.let1 (k:=k) z1 a b=>1+max (ld a) (ld b)
 |_,.bW (k:=k) z1 a z2 c b=>1+max (ld a) (max (ld c) (ld b))
 |_,.dQ z1 a b=>1+max (ld a) (ld b)
 |_,.dR z1 z2 z3 z4 b=>1+ld b
 |_,.bG s z1 z2 a o=>max (ld s) (max (ld a) (ld o))
 |_,.cE s z1 o=>max (ld s) (ld o)
 |_,.bK s z1 z2 a o=>max (ld s) (max (ld a) (ld o))
 |_,.bD s z1 z2 a o=>max (ld s) (max (ld a) (ld o))
section
variable{u v w x y z c k p q r m n α β L:Nat}{u' x' y' z':Nat}
theorem Hu(h:u<=x):c+u<=c+x:=ag h c
theorem w2_(h:u<=x)(g:v<=y):c+(u+v)<=c+(x+y):=Hu (aG h g)
theorem w3_(h:u<=x)(g:v<=y)(f:w<=z):c+(u+(v+w))<=c+(x+(y+z)):=Hu (aG h (aG g f))
theorem h1_(h:u<=4*x):4+u<=4*(1+x):=by rw[d9];exact Hu h
theorem hm_(h:u<=4*x)(g:v<=4*y):max u v<=4*(x+y):=by rw[d9];exact bV.mpr ⟨aa h (ak _ _),aa g (aq _ _)⟩
theorem h2_(h:u<=4*x)(g:v<=4*y):4+max u v<=4*(1+(x+y)):=h1_ (hm_ h g)
theorem hd_(h:u<=4*x):24+u<=4*(1+(9+x)):=by lia
theorem up1(h:u<=4*x):u<=4*(1+x):=aa h (aK 4 (aq _ _))
theorem wp1(h:1<=u):1<=c+u:=aa h (aq _ _)
theorem wp2(h:1<=u):1<=c+(u+v):=wp1 (aa h (ak _ _))
theorem wp3(h:1<=v):1<=c+(u+v):=wp1 (wp1 h)
theorem n0(h:u<=x+α*y+β*z)(g:u'<=x'+α*y'+β*z'):u+u'<=x+x'+α*(y+y')+β*(z+z'):=by rw[d9,d9,<-Ep x,<-Ep (x+α*y)];exact aG h g
theorem Md(h:u<=x+α*y+β*z):c+u<=c+x+α*(0+y)+β*(0+z):=by rw[bM,bM,bh,bh,<-bh x];exact Hu h
theorem Wd(h:u<=x+L)(g:v<=y+L):max u v<=max x y+L:=bV.mpr ⟨aa h (aE (aC _ _) L),aa g (aE (az _ _) L)⟩
theorem l1_(h:u<=x+L):1+u<=1+x+L:=by rw[bh];exact Hu h
theorem nc(h:q<=p+2*m)(g:r<=q+2*n):r<=p+2*(m+n):=by rw[d9,<-bh];exact aa g (aE h _)
theorem HZ(h:p<=k+2*c)(g:q<=p+2*m):q<=k+2*(c+m):=nc h g
theorem VY(g:q<=p+2*m):q<=p+2*(1+m):=nc (ak _ _) g
theorem j1_(h:u+3<=4*x):1+u+2<=4*(0+x):=by lia
theorem j2_(h:u+p<=4*x)(g:v+q<=4*y)(hp:2<=p)(hq:2<=q)(hk:k<=3):1+(u+v)+k<=4*(0+(x+y)):=by
 rw[bM,d9]
 exact aa (aa (ag hk _) (by simp+arith)) (aG (aa (ag hp _) h) (aa (ag hq _) g))
theorem j3_(h:u+p<=4*x)(g:v+q<=4*y)(f:w+r<=4*z)(hp:2<=p)(hq:2<=q)(hr:2<=r)(hk:k<=3):1+(u+(v+w))+k<=4*(0+(x+(y+z))):=by
 rw[bM,d9,d9]
 exact aa (aa (ag hk _) (by simp+arith)) (aG (aa (ag hp _) h) (aG (aa (ag hq _) g) (aa (ag hr _) f)))
theorem jd_(h:u+p<=4*x)(hk:k<=3):1+(9+u)+k<=4*(0+(5+x)):=by lia
theorem t3_(h:3*x<=2*u+1)(g:3*y<=2*v+1):3*(0+(x+y))<=2*(1+(u+v))+1:=by
 rw[bM,d9]
 exact aa (aG h g) (by simp+arith)
theorem t3a(h:3*x<=2*u+1)(g:3*y<=2*v+1)(f:3*z<=2*w+1):3*(0+(x+(y+z)))<=2*(1+(u+(v+w)))+1:=by
 rw[bM,d9,d9]
 exact aa (aG h (aG g f)) (by simp+arith)
theorem t31(h:3*x<=2*u+1):3*(0+x)<=2*(1+u)+1:=by lia
theorem t3d(h:3*x<=2*u+1):3*(0+(5+x))<=2*(1+(9+u))+1:=by lia
end
section
variable{x y z u v w x' y' z' a b c a' b':Nat}
theorem QH(h1:x<=y):0+x<=y:=by rw[bM];exact h1
theorem VE(h1:x<=x')(h2:y<=y'):0+(x+y)<=x'+y':=QH (aG h1 h2)
theorem md(h1:x<=x')(h2:y<=y'):max x y<=max x' y':=bV.mpr ⟨aa h1 (aC _ _),aa h2 (az _ _)⟩
theorem X3:a+b<=2*b+a:=by lia
theorem X2:a+(c+b)<=2*b+a+c:=by lia
theorem Yg(h1:a'<=a)(h2:b'<=b):2*b'+a'<=2*b+a:=aG (aK 2 h2) h1
theorem g1m(h1:a'<=a)(h2:b'<=b):max (1+max a' b') (a'+b')<=max (1+max a b) (a+b):=md (ag (md h1 h2) 1) (aG h1 h2)
end
theorem oZ(t:T k):ht t<=4*mh t:=by
 induction t with
 |var k x|err k|lit z|cD=>exact ab 4
 |add a b h g|app a b h g|let1 x a b h g|dQ x a b h g|cE a x b h g=>exact h2_ h g
 |gap2 a b h g=>exact h1_ (up1 (hm_ h g))
 |eg a h=>exact h1_ (up1 h)
 |lam x b h|cC b h=>exact h1_ h
 |dR x n v z b h=>exact hd_ h
 |bW x a y c b h g f|bG a x z c b h g f|bK a x y c b h g f|bD a x y c b h g f=>exact h2_ h (hm_ g f)
theorem Mp(t:T k):1<=ip g8 c t:=by
 induction t with
 |var k x|err k|lit z|cD=>exact ab 1
 |add a b h _|app a b h _|let1 x a b h _|dQ x a b h _|cE a x b h _|bW x a y c b h _ _|bG a x z c b h _ _|bK a x y c b h _ _|bD a x y c b h _ _=>exact wp2 h
 |gap2 a b|eg a=>exact wp2 (ab 1)
 |lam x b h|cC b h=>exact wp1 h
 |dR x n v z b h=>exact wp3 h
theorem Dx(t:T k):1<=mh t:=Mp t
theorem Q0{f g p q:MV->Nat}(h:∀v,f v<=g v+α*p v+β*q v)(t:T k):ip f c t<=ip g c t+α*ip p 0 t+β*ip q 0 t:=by
 induction t with
 |var k x|err k|lit z|cD=>exact h _
 |add a b i j|app a b i j|let1 x a b i j|dQ x a b i j|cE a x b i j=>exact Md (n0 i j)
 |gap2 a b i j=>exact Md (n0 (h _) (n0 i j))
 |eg a i=>exact Md (n0 (h _) i)
 |lam x b i|cC b i=>exact Md i
 |dR x n v z b i=>exact Md (n0 (Md (Md (n0 (h _) (n0 (h _) (Md (n0 (h _) (Md (n0 (h _) (h _))))))))) i)
 |bW x a y c b i j l|bG a x z c b i j l|bK a x y c b i j l|bD a x y c b i j l=>exact Md (n0 i (n0 j l))
theorem tB(hf:∀v,1<=f v)(hl:∀k x I,ip g8 c (lf k x I).1<=f (bJ (aX x)))(t:T k):∀(U:Sg)(I:Fr),ip g8 c (di lf t U I).1<=ip f c t:=by
 induction t with
 |var k x=>
  intro U I
  induction h:U x with
  |some y=>rw[rk h];exact hf _
  |none=>rw[rl h];exact hl k x I
 |err k|lit z|cD=>exact fun _ _=>hf _
 |add a b h g|app a b h g=>exact fun U I=>w2_ (h U I) (g U _)
 |gap2 a b h g=>exact fun U I=>w3_ (hf _) (h U I) (g U _)
 |eg a h=>exact fun U I=>w2_ (hf _) (h U I)
 |cC a h=>exact fun U I=>Hu (h U I)
 |lam x b h=>exact fun U I=>Hu (h _ _)
 |let1 x a b h g|dQ x a b h g|cE a x b h g=>exact fun U I=>w2_ (h _ _) (g _ _)
 |bW x a y e b h g i|bG a x z e b h g i|bK a x y e b h g i|bD a x y e b h g i=>exact fun U I=>w3_ (h _ _) (g _ _) (i _ _)
 |dR x n v z b h=>exact fun U I=>w2_ (Hu (Hu (aG (hf _) (aG (hf _) (Hu (aG (hf _) (Hu (aG (hf _) (hf _))))))))) (h _ _)
theorem Je(hl:∀k x I,ld (lf k x I).1<=L)(t:T k):∀(U:Sg)(I:Fr),ld (di lf t U I).1<=ld t+L:=by
 induction t with
 |var k x=>
  intro U I
  induction h:U x with
  |some y=>rw[rk h];exact bC _
  |none=>rw[rl h];exact aa (hl k x I) (aq _ _)
 |err k|lit z|cD=>exact fun _ _=>bC _
 |add a b h g|app a b h g|gap2 a b h g|cE a x b h g=>exact fun U I=>Wd (h _ _) (g _ _)
 |eg a h|cC a h|lam x a h=>exact fun U I=>h _ _
 |let1 x a b h g|dQ x a b h g=>exact fun U I=>l1_ (Wd (h _ _) (g _ _))
 |bW x a y c b h g i=>exact fun U I=>l1_ (Wd (h _ _) (Wd (g _ _) (i _ _)))
 |dR x n v z b h=>exact fun U I=>l1_ (h _ _)
 |bG a x z c b h g i|bK a x y c b h g i|bD a x y c b h g i=>exact fun U I=>Wd (h _ _) (Wd (g _ _) (i _ _))
theorem qp:nx I x b<=I b+1:=by
 unfold nx
 split
 ·exact ab _
 ·exact dW _
theorem SH:nx I x b<=I b+2*1:=dM qp
theorem SG:nx (nx I x) y b<=I b+2*1:=aa qp (bA qp)
theorem aaP:nx (nx (nx I x) y) z b<=I b+2*(1+9):=aa qp (aa (bA SG) (ag (by decide:3<=20) (I b)))
theorem s_d{k p q m:Nat}(h:p<=k+2*(1+9))(g:q<=p+2*m):q<=k+2*(1+(9+m)):=by rw[<-bh 1];exact nc h g
theorem Dt(hl:∀k x I,(lf k x I).2 b<=I b+2*mh (lf k x I).1)(t:T k):∀(U:Sg)(I:Fr),(di lf t U I).2 b<=I b+2*mh (di lf t U I).1:=by
 induction t with
 |var k x=>
  intro U I
  induction h:U x with
  |some y=>rw[rk h];exact ak _ _
  |none=>rw[rl h];exact hl k x I
 |err k|lit z|cD=>exact fun _ _=>ak _ _
 |add a c h g|app a c h g=>exact fun U I=>VY (nc (h _ _) (g _ _))
 |gap2 a c h g=>exact fun U I=>VY (VY (nc (h _ _) (g _ _)))
 |eg a h=>exact fun U I=>VY (VY (h _ _))
 |cC a h=>exact fun U I=>VY (h _ _)
 |lam x c h=>exact fun U I=>HZ SH (h _ _)
 |let1 x a c h g|dQ x a c h g|cE a x c h g=>exact fun U I=>HZ SH (nc (h _ _) (g _ _))
 |bW x a y c b' h g i=>exact fun U I=>HZ SG (nc (h _ _) (nc (g _ _) (i _ _)))
 |dR x n v z b' h=>exact fun U I=>s_d aaP (h _ _)
 |bG a x z c o h g i=>exact fun U I=>HZ SH (nc (h _ _) (nc (g _ _) (i _ _)))
 |bK a x y c o h g i|bD a x y c o h g i=>exact fun U I=>HZ SG (nc (h _ _) (nc (g _ _) (i _ _)))
theorem zH(t:T k)(U:Sg)(I:Fr):mh (di qt t U I).1<=mh t:=tB (lf:=qt) (c:=1) (f:=g8) (fun _=>ab 1) (fun _ _ _=>ab 1) t U I
noncomputable abbrev kG{k:K}(t:T k):Nat:=ip g8 0 t
theorem zN(t:T k)(U:Sg)(I:Fr):kG (di qt t U I).1<=kG t:=tB (lf:=qt) (c:=0) (f:=g8) (fun _=>ab 1) (fun _ _ _=>ab 1) t U I
theorem Fq(t:T k):3*kG t<=2*mh t+1:=by
 induction t with
 |var k x|err k|lit z|cD=>exact ab 3
 |add a b h g|app a b h g|let1 x a b h g|dQ x a b h g|cE a x b h g=>exact t3_ h g
 |gap2 a b h g=>exact t3a (ab 3) h g
 |eg a h=>exact t3_ (ab 3) h
 |lam x b h|cC b h=>exact t31 h
 |dR x n v z b h=>exact t3d h
 |bW x a y c b h g f|bG a x z c b h g f|bK a x y c b h g f|bD a x y c b h g f=>exact t3a h g f
noncomputable def kd:K->Nat
 |.i=>3
 |_=>2
theorem P6(k:K):2<=kd k:=by induction k<;>decide+kernel
theorem We(k:K):kd k<=3:=by induction k<;>decide+kernel
theorem IG(t:T k):mh t+kd k<=4*kG t:=by
 induction t with
 |var k x|err k=>exact ag (We k) 1
 |lit z=>exact ab 4
 |cD=>exact dW 3
 |add a b h g|app a b h g|let1 x a b h g|dQ x a b h g|cE a x b h g=>exact j2_ h g (P6 _) (P6 _) (We _)
 |gap2 a b h g=>exact j3_ (p:=3) (ab 4) h g (by decide) (P6 _) (P6 _) (We _)
 |eg a h=>exact j2_ (p:=3) (ab 4) h (by decide) (P6 _) (We _)
 |lam x b h|cC b h=>exact j1_ h
 |dR x n v z b h=>exact jd_ h (We _)
 |bW x a y c b h g f|bG a x z c b h g f|bK a x y c b h g f|bD a x y c b h g f=>exact j3_ h g f (P6 _) (P6 _) (P6 _) (We _)
theorem gK(t:T k):mh t<=4*kG t:=aa (ak _ _) (IG t)
theorem tM(t:T k)(U:Sg)(I:Fr):ld (di qt t U I).1<=ld t:=Je (lf:=qt) (L:=0) (fun _ _ _=>ab 0) t U I
theorem uJ(t:T k)(U:Sg)(I:Fr)(b:Nat):(di qt t U I).2 b<=I b+2*mh (di qt t U I).1:=Dt (lf:=qt) (fun _ _ _=>ak _ _) t U I
theorem tG(t:T k)(I:Fr)(b:Nat):(dT ins t I).2 b<=I b+2*mh (dT ins t I).1:=Dt (lf:=I8 ins) (fun _ _ _=>uJ _ _ _ b) t σ0 I
noncomputable def Y7{k:K}(t:T k):Cl:=tc .Var t (app:=fun f _=>CK f)
noncomputable def ya{k:K}(n:T k):Bool:=aL 2 (CK n).n&&aL 3 (Y7 n).n
noncomputable def P9{k:K}(n:T k):Bool:=aL 2 (CK n).n&&aL 4 (Y7 n).n
noncomputable def Cf{k:K}(n:T k):Bool:=aL 2 (CK n).n&&aL 2 (Y7 n).n
theorem yr{P:T .f->Prop}(f:T .f)(hl:∀x b,P (.lam x b))(hg:∀a,P (.eg a))(h1:∀{k:K} x(a:T k) b,P (.let1 x a b))(h2:∀{k:K} x(a:T k) y c b,P (.bW x a y c b))(h3:∀x a b,P (.dQ x a b))(h4:∀x n v z b,P (.dR x n v z b))
 (ho:∀f:T .f,aL 3 (CK f).n=false->aL 4 (CK f).n=false->aL 2 (CK f).n=false->P f):P f:=by
 cases f<;>first|exact hl _ _|exact hg _|exact h1 _ _ _|exact h2 _ _ _ _ _|exact h3 _ _ _|exact h4 _ _ _ _ _|exact ho _ rfl rfl rfl
theorem OL:aL 2 (CK n).n=true->∃fs l,enc n=.inst .App [.inst (Y7 n) fs,l]:=by
 induction n with
 |app f a=>exact fun _=>(An f).elim fun fs e=>⟨fs,_,congrArg (fun z=>MV.inst .App [z,.lst [enc a]]) e⟩
 |_=>first|exact fun h=>(aJ h).elim|exact fun _=>⟨_,_,rfl⟩
theorem vo{n:T k}{P:MV->Prop}(h:(aL 2 (CK n).n&&aL i (Y7 n).n)=false)(ka:∀c fs,aL 2 c.n=false->P (.inst c fs))(kb:∀c fs l,aL i c.n=false->P (.inst .App [.inst c fs,l])):P (enc n):=by
 induction e2:aL 2 (CK n).n with
 |false=>
  obtain⟨fs,e⟩:=An n
  rw[e];exact ka _ _ e2
 |true=>
  obtain⟨fs,l,e⟩:=OL e2
  rw[e2]at h
  rw[e];exact kb _ _ _ h
noncomputable def isLet{k:K}(t:T k):Bool:=tc false t (lt:=true)
section
variable{W d:Nat}{mu mu':List MC}{r:MV}
section
variable{c:Cl}{fs:List MV}{l:MV}
theorem Vh(h:aL 2 c.n=false):Ev (ah W (d+1) 34 [.inst c fs,r] mu) ((false,.inst c fs),mu):=fun Q k=>ao rfl rfl (aY (b:= !(aL 2 c.n||false)) (by rw[h];rfl) k)
theorem Vg(h:aL 3 c.n=false):Ev (ah W (d+1) 34 [.inst .App [.inst c fs,l],r] mu) ((false,.inst .App [.inst c fs,l]),mu):=fun Q k=>ao rfl rfl (aY (b:= !(aL 3 c.n||false)) (by rw[h];rfl) k)
theorem ZZ(h:aL 2 c.n=false):Ev (ah W (d+1) 36 [.inst c fs,r] mu) ((false,.inst c fs),mu):=fun Q k=>ao rfl rfl (aY (b:= !(aL 2 c.n||false)) (by rw[h];rfl) k)
theorem ZY(h:aL 4 c.n=false):Ev (ah W (d+1) 36 [.inst .App [.inst c fs,l],r] mu) ((false,.inst .App [.inst c fs,l]),mu):=fun Q k=>ao rfl rfl (aY (b:= !(aL 4 c.n||false)) (by rw[h];rfl) k)
theorem Uv(h:aL 2 c.n=false):Ev (ah W (d+1) 33 [.inst c fs] mu) ((false,.inst c fs),mu):=fun Q k=>ao rfl rfl (bp (b:=aL 2 c.n||false) (by rw[h];rfl) k)
theorem Uu(h:aL 2 c.n=false):Ev (ah W (d+1) 33 [.inst .App [.inst c fs,l]] mu) ((false,.inst .App [.inst c fs,l]),mu):=fun Q k=>ao rfl rfl (bp (b:=aL 2 c.n||false) (by rw[h];rfl) k)
theorem SR(h:aL 3 c.n=false):Ev (ah W (d+1) 35 [.inst c fs] mu) ((false,.inst c fs),mu):=fun Q k=>ao rfl rfl (bp (b:=aL 3 c.n||false) (by rw[h];rfl) k)
theorem SQ(h:aL 3 c.n=false):Ev (ah W (d+1) 35 [.inst .iu [l,.inst c fs]] mu) ((false,.inst .iu [l,.inst c fs]),mu):=fun Q k=>ao rfl rfl (bp (b:=aL 3 c.n||false) (by rw[h];rfl) k)
theorem nl(b:T k):k=.i->aL 3 (CK b).n=false:=by induction b<;>first|exact fun _=>rfl|exact fun e=>nomatch e
end
theorem pN{n:T k}(h:ya n=false):Ev (ah W (d+1) 34 [enc n,r] mu) ((false,enc n),mu):=vo (P:=fun z=>Ev (ah W (d+1) 34 [z,r] mu) ((false,z),mu)) h (fun _ _ h=>Vh h) fun _ _ _ h=>Vg h
theorem Li(hf:f=.inst .iu fs)(h:Ev (ah W (d+2) 31 [f,r] mu) ((false,.inst .iu [.lst [x'],b']),mu')):
 Ev (ah W (d+3) 34 [.inst .App [f,.lst [a]],r] mu) ((false,.inst .Let [.lst [.tup [x',a]],b',.bool false]),mu'):=fun Q q=>by
 subst hf
 exact ao rfl rfl (h _ q)
theorem Gs{n:T k}(h:P9 n=false):Ev (ah W (d+1) 36 [enc n,r] mu) ((false,enc n),mu):=vo (P:=fun z=>Ev (ah W (d+1) 36 [z,r] mu) ((false,z),mu)) h (fun _ _ h=>ZZ h) fun _ _ _ h=>ZY h
theorem OU{f a b' Z9 q:MV}(hf:f=.inst .Let fs)(h:Ev (ah W (d+2) 31 [f,r] mu) ((false,.inst .Let [Z9,b',q]),mu')):
 Ev (ah W (d+3) 36 [.inst .App [f,.lst [a]],r] mu) ((false,.inst .Let [Z9,.inst .App [b',.lst [a]],q]),mu'):=fun Q k=>by
 subst hf
 exact ao rfl rfl (h _ k)
theorem DZ{n:T k}(h:Cf n=false):Ev (ah W (d+1) 33 [enc n] mu) ((false,enc n),mu):=vo (P:=fun z=>Ev (ah W (d+1) 33 [z] mu) ((false,z),mu)) h (fun _ _ h=>Uv h) fun _ _ _ h=>Uu h
theorem E8:Ev (ah W (d+1) 35 [enc n] mu) ((false,enc n),mu):=by
 induction n with
 |lam x b=>
  show Ev (ah W (d+1) 35 [.inst .iu [.lst [vN x],enc b]] mu) ((false,.inst .iu [.lst [vN x],enc b]),mu)
  obtain⟨fs,e⟩:=An b
  exact e.symm▸SQ (nl b rfl)
 |_=>exact SR rfl
noncomputable abbrev CS:MV:=.bI [(gS,.int 2)]
noncomputable def isLit{k:K}(t:T k):Bool:=tc false t (lit:=true)
noncomputable def TP(x:Nm){k:K}(t:T k):Bool:=tc false t (var:=fun y=>decide (y=x))
noncomputable def etB(x:Nm){k:K}(t:T k):Bool:=tc false t (gap2:=fun a c=>isLit a&&TP x c)
noncomputable def P8{k:K}(t:T k):Bool:=tc false t (lam:=fun x b=>etB x b)
noncomputable def ltB{k:K}(t:T k):Bool:=tc true t (gap2:=fun a _=>isLit a)
noncomputable def Yb{k:K}(t:T k):Bool:=tc true t (lam:=fun _ b=>ltB b)
theorem OE(hb:x.b∈bases):Ev (ah (W+2) (d+3) 37 [enc (.lam x (.gap2 (.lit z) (.var .i x))),CS] mu) ((false,enc (.eg (.lit z))),mu):=fun Q q=>by
 have hg:=jX (jM hb)
 have q:Q false (.inst .App [bJ gS,.lst [fF (z:Int)]]) mu:=q
 show ah (W+2) (d+3) 37 [.inst .iu [.lst [.str (aX x)],.inst .App [bJ gS,.lst [fF (z:Int),bJ (aX x)]]],CS] mu Q
 generalize aX x=s at*
 exact ao rfl rfl (bp (b:=sq s gS||false) (by rw[hg];rfl) (bp (b:= !sq s s) (by rw[k9];rfl) q))
section
variable{c:Cl}{fs:List MV}{q:MV}
theorem Ko(h:aL 3 c.n=false):Ev (ah (W+2) (d+3) 37 [.inst c fs,CS] mu) ((false,.inst c fs),mu):=fun Q k=>
 ao rfl rfl (aY (b:= !(aL 3 c.n||false)) (by rw[h];rfl) k)
theorem Qt(h:aL 2 c.n=false):Ev (ah (W+2) (d+3) 37 [.inst .iu [q,.inst c fs],CS] mu) ((false,.inst .iu [q,.inst c fs]),mu):=fun Q k=>
 ao rfl rfl (aY (b:= !(aL 2 c.n||false)) (by rw[h];rfl) k)
theorem ZL(h:aL 0 c.n=false):Ev (ah (W+2) (d+3) 37 [.inst .iu [q,.inst .App [.inst c fs,q2]],CS] mu) ((false,.inst .iu [q,.inst .App [.inst c fs,q2]]),mu):=fun Q k=>
 ao rfl rfl (aY (b:= !(aL 0 c.n||false)) (by rw[h];rfl) k)
theorem ZK(h:gS≠s):Ev (ah (W+2) (d+3) 37 [.inst .iu [.lst [.str x],.inst .App [bJ s,.lst [a]]],CS] mu) ((false,.inst .iu [.lst [.str x],.inst .App [bJ s,.lst [a]]]),mu):=fun Q k=>
 ao rfl rfl (Ip (o:=cf [(gS,MV.int 2)] s) (show cf [(gS,MV.int 2)] s=none by rw[gX,if_neg h];rfl) k)
theorem ZJ(hx:x≠gS)(h:aL 0 c.n=false):Ev (ah (W+2) (d+3) 37 [.inst .iu [.lst [.str x],.inst .App [bJ gS,.lst [a,.inst c fs]]],CS] mu) ((false,.inst .iu [.lst [.str x],.inst .App [bJ gS,.lst [a,.inst c fs]]]),mu):=fun Q k=>
 ao rfl rfl (bp (b:=sq x gS||false) (by rw[jX hx];rfl) (aY (b:= !(aL 0 c.n||false)) (by rw[h];rfl) k))
theorem ZI(hx:x≠gS)(h:¬y=x):Ev (ah (W+2) (d+3) 37 [.inst .iu [.lst [.str x],.inst .App [bJ gS,.lst [a,bJ y]]],CS] mu) ((false,.inst .iu [.lst [.str x],.inst .App [bJ gS,.lst [a,bJ y]]]),mu):=fun Q k=>
 ao rfl rfl (bp (b:=sq x gS||false) (by rw[jX hx];rfl) (aY (b:= !sq y x) (by rw[jX h];rfl) k))
end
section
variable{l:MV}{x:Nm}
theorem OG{k:K}(h:k≠ .i)(A:dj I f):Ev (ah (W+2) (d+3) 37 [.inst .iu [.lst [.str (aX x)],.inst .App [enc f,.lst [a]]],CS] mu) ((false,.inst .iu [.lst [.str (aX x)],.inst .App [enc f,.lst [a]]]),mu):=by
 induction f<;>first|exact ZL rfl|exact absurd rfl h|exact ZK (bY (jM A.2))
theorem OF(hx:aX x≠gS)(h:TP x c=false):Ev (ah (W+2) (d+3) 37 [.inst .iu [.lst [.str (aX x)],.inst .App [bJ gS,.lst [a,enc c]]],CS] mu) ((false,.inst .iu [.lst [.str (aX x)],.inst .App [bJ gS,.lst [a,enc c]]]),mu):=by
 induction c<;>first|exact ZJ hx rfl|exact ZI hx (j0 (of_decide_eq_false h))
theorem UD{b:T k}(hx:aX x≠gS)(h:etB x b=false)(hl:ltB b=true)(hk:k=.i)(A:dj I b):Ev (ah (W+2) (d+3) 37 [.inst .iu [.lst [.str (aX x)],enc b],CS] mu) ((false,.inst .iu [.lst [.str (aX x)],enc b]),mu):=by
 induction b with
 |app f a=>exact OG (k:=.f) (fun e=>nomatch e) A.1
 |gap2 a c=>exact OF hx (by rw[show etB x (.gap2 a c)=(isLit a&&TP x c)from rfl,show isLit a=true from hl,QS]at h;exact h)
 |_=>first|exact Qt rfl|exact nomatch hk
end
theorem Gf{k:K}{n:T k}{I:Fr}(h:P8 n=false)(hl:Yb n=true)(A:dj I n):Ev (ah (W+2) (d+3) 37 [enc n,CS] mu) ((false,enc n),mu):=by
 induction n<;>first|exact UD (jM A.1.2) h hl rfl A.2|exact Ko rfl
noncomputable def inF:Ss:=gu (gu xu)
noncomputable def inT:Ss:=gu inF
noncomputable def inG:Ss:=gu (gu (gu inT))
noncomputable def inH:Ss:=gu (gu inG)
theorem FH(h:isLet n=false):Ev (ah W (d+1) 46 [enc n,r,.int z] mu) ((false,enc n),mu):=fun Q q=>by
 induction n<;>first|(cases h;done)|exact ao rfl rfl q
section
variable{x y:Str}{a b c:MV}{z:Int}{i:Nat}{vE gH:List MC}{b':MV}
theorem N5(h1:Ev (ah W (d+1) 45 [.str x,a,b,.int z] mu) ((false,.bool false),vE)):Ev (ah W (d+2) 46 [.inst .Let [.lst [.tup [.str x,a]],b,.bool false],r,.int z] mu) ((false,.inst .Let [.lst [.tup [.str x,a]],b,.bool false]),vE):=fun Q q=>
 ao rfl rfl (h1 _ q)
theorem JA(h1:Ev (ah W (d+1) 45 [.str x,a,b,.int z] mu) ((false,.bool true),vE))(h2:Ev (ah W (d+1) 32 [b,.bI [(x,a)],r] vE) ((false,b'),gH)):
 Ev (ah W (d+2) 46 [.inst .Let [.lst [.tup [.str x,a]],b,.bool false],r,.int z] mu) ((false,b'),gH):=fun Q q=>
 ao rfl rfl (h1 _ (h2 _ q))
noncomputable abbrev NV(x y:Str)(a c b:MV):MV:=.inst .Let [.lst [.tup [.str x,a],.tup [.str y,c]],b,.bool false]
theorem N0(h1:Ev (ah W (d+1) 45 [.str x,a,b,.int z] mu) ((false,.bool false),vE))(h2:Ev (ah W (d+1) 45 [.str y,c,b,.int z] vE) ((false,.bool false),gH)):
 Ev (ah W (d+2) 46 [NV x y a c b,r,.int z] mu) ((false,NV x y a c b),gH):=fun Q q=>
 ao rfl rfl (h1 _ (h2 _ q))
theorem uw(h:x≠y):br [(x,u)] y v=[(x,u),(y,v)]:=by rw[BI,if_neg h];rfl
theorem KF:cf [(x,v)] x=some v:=by rw[gX,if_pos rfl]
variable(uW:x≠y)
include uW
theorem NX(h1:Ev (ah W (d+1) 45 [.str x,a,b,.int z] mu) ((false,.bool true),vE))(h2:Ev (ah W (d+1) 45 [.str y,c,b,.int z] vE) ((false,.bool true),gH))(h3:Ev (ah W (d+1) 32 [b,.bI [(x,a),(y,c)],r] gH) ((false,b'),r6)):
 Ev (ah W (d+2) 46 [NV x y a c b,r,.int z] mu) ((false,b'),r6):=fun Q q=>by
 rw[<-uw uW]at h3
 have l:(br [(x,a)] y c).length<=b8:=by rw[uw uW];exact ae rfl
 exact ao rfl rfl (h1 _ (h2 _ (bp (by rw[uw uW];rfl:(br [(x,a)] y c).isEmpty=false) (h3 _ q))))
omit uW in
theorem YJ{s5 s6:Slot}{K:Fl->St->Prop}{r:St->(Fl->St->Prop)->Prop}(hc:gH[i]?=some (.fresh av es))(h3:Ev (ah W (d+2) 41 [.ref i,.str v] gH) ((false,.str x'),r6))
 (k:r ⟨[.fz lt,.fz (.ref i),.fz (.int z),.fz (.bI [(u,s)]),.fz (.lst [.tup [.str v,t]]),.fz (.str v),.fz t,.own (.bI [(v,.str x')]),.un,.un,.un],r6⟩ K):
 Uq inG W (d+2) r [.tup [.str v,t]] ⟨[.fz lt,.fz (.ref i),.fz (.int z),.fz (.bI [(u,s)]),.fz (.lst [.tup [.str v,t]]),s5,s6,.own (.bI []),.un,.un,.un],gH⟩ K:=cI hc (h3 _ k)
omit uW in
theorem YI{r6:List MC}{K:Fl->St->Prop}{r:St->(Fl->St->Prop)->Prop}
 (k:r ⟨[.fz lt,.fz (.ref i),.fz (.int z),.fz (.bI [(u,s)]),.fz (.lst [.tup [.str v,t]]),.fz (.str v),.fz t,.fz (.bI [(v,.str x')]),.own (.bI (br [(u,fT [(u,s)] s)] v (bJ x'))),.un,.un],r6⟩ K):
 Uq inH W (d+2) r [.str v] ⟨[.fz lt,.fz (.ref i),.fz (.int z),.fz (.bI [(u,s)]),.fz (.lst [.tup [.str v,t]]),.fz (.str v),.fz t,.fz (.bI [(v,.str x')]),.own (.bI [(u,fT [(u,s)] s)]),.un,.un],r6⟩ K:=eh (o:=cf [(v,MV.str x')] v) KF k
omit uW in
theorem zZ{r6 E9:List MC}{s5 s6:Slot}{Q:oS}(hc:gH[i]?=some (.fresh av es))(h3:Ev (ah W (d+2) 41 [.ref i,.str v] gH) ((false,.str x'),r6))
 (h4:Ev (ah W (d+2) 32 [b,.bI (br [(u,fT [(u,s)] s)] v (bJ x')),.ref i] r6) ((false,b'),E9)) (q:Q false (.inst .Let [.lst [.tup [.str x',t]],b',.bool false]) E9):
 dJ W (ah W (d+2)) (d+2) inT ⟨[.fz (.inst .Let [bs,b,.bool false]),.fz (.ref i),.fz (.int z),.own (.bI [(u,s)]),.own (.lst [.tup [.str v,t]]),s5,s6,.un,.un,.un,.un],gH⟩ (eL Q):=by
 refine YJ hc h3 ?_
 refine YI ?_
 exact eh (o:=cf [(v,MV.str x')] v) KF (h4 _ q)
theorem NY(hc:gH[i]?=some (.fresh av es))(h1:Ev (ah W (d+2) 45 [.str x,a,b,.int z] mu) ((false,.bool true),vE))(h2:Ev (ah W (d+2) 45 [.str y,c,b,.int z] vE) ((false,.bool false),gH))
 (h3:Ev (ah W (d+2) 41 [.ref i,.str y] gH) ((false,.str x'),r6)) (h4:Ev (ah W (d+2) 32 [b,.bI [(x,a),(y,bJ x')],.ref i] r6) ((false,b'),E9)) (ha:fT [(x,a)] a=a):
 Ev (ah W (d+3) 46 [NV x y a c b,.ref i,.int z] mu) ((false,.inst .Let [.lst [.tup [.str x',c]],b',.bool false]),E9):=fun Q q=>by
 have h4:Ev (ah W (d+2) 32 [b,.bI (br [(x,fT [(x,a)] a)] y (bJ x')),.ref i] r6) ((false,b'),E9):=by rw[ha,uw uW];exact h4
 have hd:∀r K,r ⟨[.fz (NV x y a c b),.fz (.ref i),.fz (.int z),.own (.bI [(x,a)]),.own (.lst [.tup [.str y,c]]),.fz (.str y),.fz c,.un,.un,.un,.un],gH⟩ K->Uq inF W (d+2) r [.tup [.str x,a],.tup [.str y,c]] ⟨[.fz (NV x y a c b),.fz (.ref i),.fz (.int z),.own (.bI []),.own (.lst []),.un,.un,.un,.un,.un,.un],mu⟩ K:=fun r K k=>h1 _ (h2 _ k)
 exact ao rfl rfl (hd _ _ (zZ hc h3 h4 q))
theorem NZ(hc:gH[i]?=some (.fresh av es))(h1:Ev (ah W (d+2) 45 [.str x,a,b,.int z] mu) ((false,.bool false),vE))(h2:Ev (ah W (d+2) 45 [.str y,c,b,.int z] vE) ((false,.bool true),gH))
 (h3:Ev (ah W (d+2) 41 [.ref i,.str x] gH) ((false,.str x'),r6)) (h4:Ev (ah W (d+2) 32 [b,.bI [(y,c),(x,bJ x')],.ref i] r6) ((false,b'),E9)) (ha:fT [(y,c)] c=c):
 Ev (ah W (d+3) 46 [NV x y a c b,.ref i,.int z] mu) ((false,.inst .Let [.lst [.tup [.str x',a]],b',.bool false]),E9):=fun Q q=>by
 have h4:Ev (ah W (d+2) 32 [b,.bI (br [(y,fT [(y,c)] c)] x (bJ x')),.ref i] r6) ((false,b'),E9):=by rw[ha,uw (bY uW)];exact h4
 have hd:∀r K,r ⟨[.fz (NV x y a c b),.fz (.ref i),.fz (.int z),.own (.bI [(y,c)]),.own (.lst [.tup [.str x,a]]),.fz (.str y),.fz c,.un,.un,.un,.un],gH⟩ K->Uq inF W (d+2) r [.tup [.str x,a],.tup [.str y,c]] ⟨[.fz (NV x y a c b),.fz (.ref i),.fz (.int z),.own (.bI []),.own (.lst []),.un,.un,.un,.un,.un,.un],mu⟩ K:=fun r K k=>h1 _ (h2 _ k)
 exact ao rfl rfl (hd _ _ (zZ hc h3 h4 q))
end
end
theorem good_flat(A:dj I (.app (.eg a) b))(W:WF (.app (.eg a) b)):Good (.app (.eg a) b) I (.gap2 a b) I:=by
 refine⟨ej,A,W,fun _ _ e=>e,fun ad C gV hη=>?_⟩
 show fi 1 1 (qx (wt ad) (den (wt ad) a C) (den (wt ad) b C)) (⟨1+3+(jO (den (wt ad) a C) (den (wt ad) b C)).c,max (1+4) (ad+1+(jO (den (wt ad) a C) (den (wt ad) b C)).d),(jO (den (wt ad) a C) (den (wt ad) b C)).v⟩:Di)
 refine⟨?_,?_,(lX (ab 1) (ab 1) (cB (ad:=ad) a hη) (cB (ad:=ad) b hη)).2.2⟩
 ·rw[iY];exact aE (by decide:3<=4) _
 ·rw[iY];exact md (by decide) (aE (dW ad) _)
theorem Ah:Ev (ah W (d+3) 33 [enc (.app (.eg a) b)] mu) ((false,enc (.gap2 a b)),mu):=fun Q q=>ao rfl rfl q
noncomputable def tq{α:Type}{k:K}(t:T k)(d:α)(lit:Nat->α)(app:T .f->T .i->α)(l1:{k j:K}->T k->T j->α)(l2:{k j:K}->T k->T .i->T j->α):α:=
 T.casesOn (motive:=fun _ _=>α) t (fun _ _=>d) (fun _=>d) lit (fun _ _=>d) app (fun _ _=>d) (fun _=>d) (fun _ _=>d) d (fun _=>d) (fun _ a b=>l1 a b) (fun _ a _ c b=>l2 a c b) (fun _ _ _=>d) (fun _ _ _ _ _=>d) (fun _ _ _ _ _=>d) (fun _ _ _=>d) (fun _ _ _ _ _=>d) (fun _ _ _ _ _=>d)
noncomputable def Fn{k:K}(t:T k):Nat:=tq t (kG t) (fun _=>kG t) (fun _ _=>kG t) (fun a b=>2*kG b+kG a) fun a c b=>2*kG b+kG a+kG c
noncomputable def Gn{k:K}(t:T k):Nat:=tq t (ld t) (fun _=>ld t) (fun f a=>max (1+max (ld f) (ld a)) (ld f+ld a)) (fun a b=>max (1+max (ld a) (ld b)) (ld a+ld b)) fun a c b=>1+ld b+max (ld a) (ld c)
theorem Ag(n:T k):kG n<=Fn n:=by
 induction n with
 |let1 x a b=>exact QH X3
 |bW x a y c b=>exact QH X2
 |_=>exact ab _
theorem gn2:1+max x (max y z)<=1+z+max x y:=by rw[bh,<-qQ];exact ag (bV.mpr ⟨aq _ _,ak _ _⟩) 1
theorem JU(n:T k):ld n<=Gn n:=by
 induction n with
 |let1 x a b=>exact aC _ _
 |bW x a y c b=>exact gn2
 |app f a=>exact aa (aq _ 1) (aC _ _)
 |_=>exact ab _
noncomputable def litOf{k:K}(t:T k):Option Nat:=tq t none some (fun _ _=>none) (fun _ _=>none) fun _ _ _=>none
noncomputable def LG:{k:K}->T k->Prop
 |_,.var z1 z2=>True
 |_,.err z1=>True
 |_,.lit z1=>True
 |_,.add a b=>LG a/\LG b
 |_,.app a b=>LG a/\LG b
 |_,.gap2 a b=>(litOf a).isSome=true/\LG a/\LG b
 |_,.eg a=>LG a
 |_,.lam z1 b=>LG b
 |_,.cD=>True
 |_,.cC a=>LG a
 |_,.let1 (k:=k) z1 a b=>LG a/\LG b
 |_,.bW (k:=k) z1 a z2 c b=>LG a/\LG c/\LG b
 |_,.dQ z1 a b=>LG a/\LG b
 |_,.dR z1 z2 z3 z4 b=>LG b
 |_,.bG s z1 z2 a o=>LG s/\LG a/\LG o
 |_,.cE s z1 o=>LG s/\LG o
 |_,.bK s z1 z2 a o=>LG s/\LG a/\LG o
 |_,.bD s z1 z2 a o=>LG s/\LG a/\LG o
structure Step{k:K}(n:T k)(I:Fr)(t':T k)(ψ:Fr):Prop extends Good n I t' ψ where
 hm:kG t'<=Fn n
 hd:ld t'<=Gn n
 hp:∀b,ψ b<=I b+64*kG n
 hk:∀z,litOf n=some z->litOf t'=some z
theorem Step.same(A:dj I t)(W:WF t):Step t I t I:={Good.same A W with hm:=Ag t,hd:=JU t,hp:=fun _=>ak _ _,hk:=fun _ h=>h}
noncomputable def gM(W d way i:Nat)(v:MV)(mu:List MC)(Q:oS):Prop:=mM (jP way) (fun p=>ah W d p.1 (@bE (fun _=>List MV) [v] [v,.ref i] p.2) mu Q) False
noncomputable def lO{k:K}(n:T k)(I:Fr):Prop:=64*kG n<=b8/\∀b,I b+64*kG n<10^18
theorem rm1{m l L:Nat}(h:m<=4*l)(g:64*l<=L):16*m<=L:=by lia
theorem rm2{p m l L:Nat}(h:m<=4*l)(g:p+64*l<L):p+16*m<L:=aQ (ag (aa (aK 16 h) (by simp+arith)) p) g
theorem rj{k:K}{n:T k}{I:Fr}(h:lO n I):16*mh n<=b8/\∀b,I b+16*mh n<10^18:=⟨rm1 (gK n) h.1,fun b=>rm2 (gK n) (h.2 b)⟩
noncomputable def Runs(d i:Nat)(es es':List (Str×MV))(f:Nat)(as:List MV)(r:MV):Prop:=∃w0,∀W,w0<=W->∀mu,i<mu.length->∃ext,Ev (ah W d f as (mf mu i es)) ((false,r),mf (mu++ext) i es')
theorem xT(hi:i<mu.length):mf mu i es++ext=mf (mu++ext) i es:=by
 unfold mf
 rw[List.set_append_left _ _ hi]
theorem qm(h:lO n I):Bd I:=fun b=>aQ (ak _ _) (h.2 b)
section
variable{d i:Nat}{I:Fr}{es:List (Str×MV)}
theorem xI(w0:Nat)(h:∀W mu,w0<=W->Ev (ah W d f as mu) ((false,r),mu)):Runs d i es es f as r:=⟨w0,fun W hW mu _=>⟨[],by rw[aT];exact h W _ hW⟩⟩
theorem xe(e:h<=4*m)(hm:m<=n)(hL:16*n<=L):h<=L:=by lia
structure VS{k:K}(n:T k)(I:Fr)(t':T k)(ψ:Fr):Prop extends Good n I t' ψ where
 l:kG t'<=kG n
 d:ld t'<=Gn n
 p:∀b,ψ b<=I b+2*mh n
 k:∀z,litOf n=some z->litOf t'=some z
 g:Gn t'<=Gn n
 t:ya n=true->∀ad C,va ad t' C=Pu.den (wt ad) t' C
inductive BEx(d i:Nat)(I:Fr)(es:List (Str×MV)){k:K}(n:T k):Prop
 |mk(t':T k)(ψ:Fr)(es':List (Str×MV))(g:VS n I t' ψ)(N:cG es' ψ)(h:Runs (d+9) i es es' 34 [enc n,.ref i] (enc t'))
section
variable{p q f m mb ma lb la TH N:Nat}
theorem be1(h1:p<=q+2*m)(h2:q<=f+1)(h3:m<=mb):p<=f+2*(1+(1+mb+ma)):=aa h1 (aa (aG h2 (aK 2 h3)) (by simp+arith))
theorem be2(h1:p<=f+2*m)(h4:f+16*m<N):p<N:=aQ (aa h1 (ag (kg m (by decide)) f)) h4
theorem be3(h:TH<=lb):0+(la+TH)<=0+(0+lb+la):=by lia
theorem be4(h:TH<=lb):1+max la TH<=max (1+max lb la) (lb+la):=by rw[sQ lb];exact aa (ag (md (ab _) h) 1) (aC _ _)
theorem be5(h:TH<=lb):max (1+max la TH) (la+TH)<=max (1+max lb la) (lb+la):=by rw[sQ lb,aW lb];exact g1m (ab _) h
theorem be6:1+mb<=1+(1+mb+ma):=by lia
theorem fl1:0+(1+(la+lb))<=0+(0+(1+la)+lb):=by lia
end
theorem kZ(h:ya n=false)(hN:cG es I)(A:dj I n)(Wf:WF n)(_:lO n I):BEx d i I es n:=
 ⟨n,I,es,{Good.same A Wf with l:=ab _,d:=JU n,p:=fun _=>ak _ _,k:=fun _ h=>h,g:=ab _,t:=fun e=>by replace e:=h▸e;cases e},hN,xI 0 fun W mu _=>pN h⟩
theorem Lj(hN:cG es I)(A:dj I (.app (.lam x b) a))(Wf:WF (.app (.lam x b) a))(hR0:lO (.app (.lam x b) a) I):BEx d i I es (.app (.lam x b) a):=by
 have p2:=fun c=>be1 (ma:=mh a) (uJ b (su σ0 x (nw I x)) (nx I x) c) qp (zH b (su σ0 x (nw I x)) (nx I x))
 obtain⟨es',N',w0,uX⟩:=ux (d:=d+3) (i:=i) hN (A.1.mono (qm hR0).top) Wf.1 (fun c=>be2 (p2 c) ((rj hR0).2 c)) (xe (oZ (.lam x b)) be6 (rj hR0).1)
 exact⟨.let1 (nw I x) a (di qt b (su σ0 x (nw I x)) (nx I x)).1,_,es',{FY A Wf with l:=be3 (zN b (su σ0 x (nw I x)) (nx I x)),d:=be4 (tM b _ _),p:=p2,k:=fun _ h=>(by cases h),g:=be5 (tM b _ _),t:=fun _ _ _=>rfl},N',w0,fun W hW mu hi=>⟨[],by
  rw[aT]
  exact Li (x':=vN (nw I x)) (b':=enc (di qt b (su σ0 x (nw I x)) (nx I x)).1) rfl (uX W hW mu hi)⟩⟩
theorem rL(n:T k):cG es I->dj I n->WF n->lO n I->BEx d i I es n:=by
 induction n with
 |app f a=>exact yr (P:=fun f=>cG es I->dj I (.app f a)->WF (.app f a)->lO (.app f a) I->BEx d i I es (.app f a)) f (fun _ _=>Lj) (fun _=>kZ rfl) (fun _ _ _=>kZ rfl) (fun _ _ _ _ _=>kZ rfl) (fun _ _ _=>kZ rfl) (fun _ _ _ _ _=>kZ rfl) fun _ h _ _=>kZ h
 |_=>exact kZ rfl
theorem Ae(A:dj I (.app (.eg b) a))(Wf:WF (.app (.eg b) a)):Step (.app (.eg b) a) I (.gap2 b a) I:=
 {good_flat A Wf with hm:=fl1,hd:=aa (aq _ 1) (aC _ _),hp:=fun _=>ak _ _,hk:=fun _ h=>by cases h}
noncomputable def FEx(d:Nat)(I:Fr){k:K}(n:T k):Prop:=∃t',Step n I t' I/\∀W mu,Ev (ah W (d+3) 33 [enc n] mu) ((false,enc t'),mu)
theorem kU(h:Cf n=false)(A:dj I n)(Wf:WF n):FEx d I n:=⟨_,Step.same A Wf,fun W mu=>DZ h⟩
theorem F9(n:T k):dj I n->WF n->FEx d I n:=by
 induction n with
 |app f a=>exact yr (P:=fun f=>dj I (.app f a)->WF (.app f a)->FEx d I (.app f a)) f (fun _ _=>kU rfl) (fun b A Wf=>⟨.gap2 b a,Ae A Wf,fun W mu=>Ah⟩) (fun _ _ _=>kU rfl) (fun _ _ _ _ _=>kU rfl) (fun _ _ _=>kU rfl) (fun _ _ _ _ _=>kU rfl) fun _ _ _ h=>kU h
 |_=>exact kU rfl
inductive CEx(d i:Nat)(I:Fr)(es:List (Str×MV)){k:K}(n:T k):Prop
 |mk(t':T k)(ψ:Fr)(es':List (Str×MV))(g:Step n I t' ψ)(N:cG es' ψ)(h:Runs (d+9) i es es' 36 [enc n,.ref i] (enc t'))
section
variable{p f m m' l l' la ma u v w x y z N:Nat}
theorem co1(h1:p<=f+2*m)(h2:m<=m'):p<=f+2*(1+(m'+ma)):=aa h1 (ag (aK 2 (aa h2 (aa (ak _ _) (aq _ 1)))) f)
theorem co2(h1:p<=f+2*m)(h2:m<=4*l):p<=f+64*l:=aa h1 (ag (aa (aK 2 h2) (by simp+arith)) f)
theorem co3(h:l<=l'):l+la<=0+(l'+la):=by lia
theorem co4(h:u<=1+max v w)(g:v<=x):u<=max (1+max x w) (x+w):=aa h (aa (ag (md g (ab _)) 1) (aC _ _))
theorem co5:m'<=1+(m'+ma):=by lia
theorem co6:0+(x+(0+(y+z)))=0+(x+y)+z:=by lia
theorem co7:1+max x (max y z)<=1+max (1+max x y) z:=by rw[<-qQ];exact ag (md (aq _ _) (ab _)) 1
theorem co8:0+(u+(x+(0+(y+z))))=0+(u+(x+y))+z:=by lia
theorem co9:1+max u (max x (max y z))<=1+max (1+max u (max x y)) z:=by rw[<-qQ x,<-qQ u];exact ag (md (aq _ _) (ab _)) 1
theorem abr:1+max y z<=1+max (1+y) z:=ag (md (aq _ _) (ab _)) 1
end
theorem yB(f:T .f)(a:T .i)(t':T .i)(Z9 b' q:MV)(fs:List MV)(hN:cG es I)(Af:dj jv f)(Wff:WF f)(hR9:lO (.app f a) I)(hf:enc f=.inst .Let fs)(hr:enc (nq f I).1=.inst .Let [Z9,b',q])(he:enc t'=.inst .Let [Z9,.inst .App [b',.lst [enc a]],q])(hg:Good (.app f a) I t' (nq f I).2)
 (hms:kG t'=kG (nq f I).1+kG a) (hld:ld t'<=1+max (ld (nq f I).1) (ld a)):CEx d i I es (.app f a):=by
 have p1:=fun c=>co1 (ma:=mh a) (uJ f σ0 I c) (zH f σ0 I)
 obtain⟨es',N',w0,uX⟩:=ux (d:=d+3) (i:=i) hN Af Wff (fun c=>be2 (p1 c) ((rj hR9).2 c)) (xe (oZ f) co5 (rj hR9).1)
 exact⟨t',_,es',{hg with hm:=by rw[hms];exact co3 (zN f σ0 I),hd:=co4 hld (tM f σ0 I),hp:=fun c=>co2 (p1 c) (gK (.app f a)),hk:=fun _ h=>by cases h},N',w0,fun W hW mu hi=>⟨[],by
  rw[aT,he]
  have:=uX W hW mu hi
  rw[hr]at this
  exact OU hf this⟩⟩
theorem tS(h:P9 n=false)(hN:cG es I)(A:dj I n)(Wf:WF n)(_:lO n I):CEx d i I es n:=⟨n,I,es,Step.same A Wf,hN,xI 0 fun W mu _=>Gs h⟩
theorem KH(n:T k):cG es I->dj I n->WF n->lO n I->CEx d i I es n:=by
 induction n with
 |app f a=>
  exact yr (P:=fun f=>cG es I->dj I (.app f a)->WF (.app f a)->lO (.app f a) I->CEx d i I es (.app f a)) f (fun _ _=>tS rfl) (fun _=>tS rfl)
   (fun _ _ _ hN A Wf hR=>yB _ a _ _ _ _ _ hN (A.1.mono (qm hR).top) Wf.1 hR rfl rfl rfl (FW A Wf) co6 co7) (fun _ _ _ _ _ hN A Wf hR=>yB _ a _ _ _ _ _ hN (A.1.mono (qm hR).top) Wf.1 hR rfl rfl rfl (FU A Wf) co8 co9)
   (fun _ _ _ hN A Wf hR=>yB _ a _ _ _ _ _ hN (A.1.mono (qm hR).top) Wf.1 hR rfl rfl rfl (FP A Wf) co6 co7) (fun _ _ _ _ _ hN A Wf hR=>yB _ a _ _ _ _ _ hN (A.1.mono (qm hR).top) Wf.1 hR rfl rfl rfl (FQ A Wf) co6 abr) fun _ _ h _=>tS h
 |_=>exact tS rfl
theorem Mo(hf:∀v,1<=f v)(hl:∀k z,ip g8 c (gQ ins k z)<=f (bJ (aX z))):ip g8 c (dT ins b I).1<=ip f c b:=
 tB (lf:=I8 ins) hf (fun k x ψ=>aa (tB (lf:=qt) (f:=g8) (fun _=>ab 1) (fun _ _ _=>ab 1) _ σ0 ψ) (hl k x)) b σ0 I
theorem TG(hl:∀k z,ld (gQ ins k z)<=L):ld (dT ins b I).1<=ld b+L:=
 Je (lf:=I8 ins) (fun k x ψ=>aa (tM _ σ0 ψ) (hl k x)) b σ0 I
theorem wB:(∃s,ins z=some ⟨k,s⟩/\gQ ins k z=s)\/gQ ins k z=.var k z:=by
 unfold gQ
 induction h:ins z with
 |none=>exact .inr rfl
 |some p=>
  obtain⟨k',s⟩:=p
  by_cases e:k'=k
  ·subst e;exact .inl ⟨s,rfl,by simp⟩
  ·exact .inr (by simp[e])
noncomputable def LS(x:Nm){k j:K}(a:T k)(b:T j)(most:Nat):Prop:=isAtom a=true\/yZ (aX x) b=1\/(uU a=true/\mh a<=most)
theorem Lw:isAtom a=true->ip g8 c a=1:=by induction a<;>first|exact fun _=>rfl|exact fun h=>absurd h aJ
theorem Kk:fU s (bJ t)=if t=s then 1 else 0:=rfl
structure A5(ins:wj)(x y:Nm){k:K}(a:T k){k':K}(c:T k'):Prop where
 ne:x≠y
 at':∀k₀ z s,ins z=some ⟨k₀,s⟩->(z=x/\(⟨k₀,s⟩:(k:K)×T k)=⟨k,a⟩)\/(z=y/\(⟨k₀,s⟩:(k:K)×T k)=⟨k',c⟩)
section
variable{u v w x y z g α β A B G m o:Nat}
theorem iz1(h:u<=g+α):u<=g+α*1+β*x:=by rw[vy];exact aa h (ak _ _)
theorem iz2(h:u<=g+β):u<=g+α*x+β*1:=by rw[vy];exact aa h (aE (ak _ _) _)
theorem iz3(h:u<=g):u<=g+x+y:=aa h (aa (ak _ _) (ak _ _))
theorem gm(hg:g<=G)(h:u<=g*x):u<=G*x:=aa h (kg _ hg)
theorem pa(h1:u<=G*x)(h2:v<=G*y):u+v<=G*(x+y):=by rw[d9];exact aG h1 h2
end
theorem Mn(hi:A5 ins x y a e)(hg:1<=g)(h1:ip g8 c a<=g+α)(h2:ip g8 c e<=g+β):
 ip g8 c (dT ins b I).1<=ip (fun _=>g) c b+α*yZ (aX x) b+β*yZ (aX y) b:=by
 refine aa (Mo (f:=fun v=>g+α*fU (aX x) v+β*fU (aX y) v) (fun v=>iz3 hg) fun k₀ z=>?_) (Q0 (fun v=>ab _) b)
 rcases wB (ins:=ins) (k:=k₀) (z:=z)with⟨s,h3,h4⟩|h4
 ·refine h4.symm▸?_
  rcases hi.at' k₀ z s h3 with⟨rfl,h⟩|⟨rfl,h⟩
  ·cases h;rw[Kk,if_pos rfl];exact iz1 h1
  ·cases h;rw[Kk (s:=aX z),if_pos rfl];exact iz2 h2
 ·rw[h4];exact iz3 hg
theorem Jd(hi:A5 ins x y a e):ld (dT ins b I).1<=ld b+max (ld a) (ld e):=TG fun k₀ z=>by
 rcases wB (ins:=ins) (k:=k₀) (z:=z)with⟨s,h1,h2⟩|h2
 ·refine h2.symm▸?_
  rcases hi.at' k₀ z s h1 with⟨rfl,h⟩|⟨rfl,h⟩
  ·cases h;exact aC _ _
  ·cases h;exact az _ _
 ·rw[h2];exact bC _
theorem WK(h1:1<=G)(t:T k):ip (fun _=>G) c t<=G*ip g8 c t:=by
 have hc:c<=G*c:=eR c h1
 have hg:G<=G*1:=bu (vy G).symm
 induction t with
 |var k x|err k|lit z|cD=>exact hg
 |add a b i j|app a b i j|let1 x a b i j|dQ x a b i j|cE a x b i j=>exact pa hc (pa i j)
 |gap2 a b i j=>exact pa hc (pa hg (pa i j))
 |eg a i=>exact pa hc (pa hg i)
 |lam x b i|cC b i=>exact pa hc i
 |dR x n v z b i=>exact pa hc (pa (pa hc (pa hc (pa hg (pa hg (pa hc (pa hg (pa hc (pa hg hg)))))))) i)
 |bW x a y c b i j l|bG a x z c b i j l|bK a x y c b i j l|bD a x y c b i j l=>exact pa hc (pa i (pa j l))
noncomputable def CG(w G o A most:Nat):Prop:=∃g α,1<=g/\g<=G/\w<=g+α/\α*o<=A/\(most=0->g=1)
theorem NT:uU a=true->mh a<=4->kG a<=2:=by
 cases a<;>first|exact fun h=>absurd h aJ|skip
 rename_i x' b'
 have h:=Fq b'
 intro _ (hm:1+mh b'<=4)
 show 0+kG b'<=2
 lia
theorem rK(hc:LS x a b most)(h1:1<=G)(hG:uU a=true->mh a<=most->ip g8 c a<=G):CG (ip g8 c a) G (yZ (aX x) b) (ip g8 c a) most:=by
 rcases hc with h|h|⟨hl,h⟩
 ·exact⟨1,0,ab 1,h1,bu (Lw h),by rw[Bg];exact bC _,fun _=>rfl⟩
 ·exact⟨1,ip g8 c a,ab 1,h1,aq _ _,by rw[h,vy];exact ab _,fun _=>rfl⟩
 ·exact⟨G,0,h1,ab _,hG hl h,by rw[Bg];exact bC _,fun e=>absurd (aa (Dx a) (aa h (bu e))) (by decide)⟩
theorem KG(h1:1<=G):CG (ip g8 c (.var k' v:T k')) G o 0 most:=⟨1,0,ab 1,h1,ab 1,by rw[Bg];exact bC _,fun _=>rfl⟩
theorem nu1{u w p q A E:Nat}(h:u<=w+p+q)(hp:p<=A)(hq:q<=E):u<=w+(A+E):=by rw[bh]at h;exact aa h (ag (aG hp hq) w)
theorem tC{b:T j}{a:T k}{e:T k'}{c G A E most:Nat}(hi:A5 ins x y a e)(p:CG (ip g8 c a) G (yZ (aX x) b) A most)(q:CG (ip g8 c e) G (yZ (aX y) b) E most):
 ip g8 c (dT ins b I).1<=G*ip g8 c b+(A+E)/\(most=0->ip g8 c (dT ins b I).1<=ip g8 c b+(A+E)):=by
 obtain⟨g,α,p1,p2,p3,p4,p5⟩:=p
 obtain⟨h,β,q1,q2,q3,q4,q5⟩:=q
 have w1:=nu1 (Mn (I:=I) (b:=b) (c:=c) (g:=max g h) hi (aa p1 (aC _ _)) (aa p3 (aE (aC _ _) _)) (aa q3 (aE (az _ _) _))) p4 q4
 refine⟨aa w1 (aE (gm (bV.mpr ⟨p2,q2⟩) (WK (c:=c) (G:=max g h) (aa p1 (aC _ _)) b)) _),fun e0=>?_⟩
 replace w1:=q5 e0▸p5 e0▸w1
 exact w1
structure SN{j:K}(b:T j){k:K}(s:T j)(A E A' E' D most:Nat):Prop where
 m:mh s<=4*mh b+(A+E)
 l:kG s<=2*kG b+(A'+E')
 o:most=0->kG s<=kG b+(A'+E')
 d:ld s<=ld b+D
section
variable{ins:wj}{j k k':K}{b:T j}{x y:Nm}{a:T k}{e:T k'}{most:Nat}
theorem TL(hm:most<=4):uU a=true->mh a<=most->ip g8 1 a<=4:=fun _ h=>aa h hm
theorem TM(hm:most<=4):uU a=true->mh a<=most->ip g8 0 a<=2:=fun h1 h=>NT h1 (aa h hm)
theorem BG(hi:A5 ins x y a (.var k' v:T k'))(hc:LS x a b most)(hm:most<=4):SN (k:=k) b (dT ins b I).1 (mh a) 0 (kG a) 0 (max (ld a) 0) most:=
 have h:=tC (I:=I) hi (rK (c:=0) hc (by decide) (TM hm)) (KG (by decide))
 ⟨(tC (I:=I) hi (rK (c:=1) hc (by decide) (TL hm)) (KG (by decide))).1,h.1,h.2,Jd hi⟩
theorem Ru(hi:A5 ins x y a e)(hc:LS x a b most)(hc2:LS y e b most)(hm:most<=4):SN (k:=k) b (dT ins b I).1 (mh a) (mh e) (kG a) (kG e) (max (ld a) (ld e)) most:=
 have h:=tC (I:=I) hi (rK (c:=0) hc (by decide) (TM hm)) (rK hc2 (by decide) (TM hm))
 ⟨(tC (I:=I) hi (rK (c:=1) hc (by decide) (TL hm)) (rK hc2 (by decide) (TL hm))).1,h.1,h.2,Jd hi⟩
end
structure VK(most:Nat){k:K}(n:T k)(I:Fr)(t':T k)(ψ:Fr):Prop extends Good n I t' ψ where
 f:kG t'<=Fn n
 o:most=0->kG t'<=kG n
 d:ld t'<=Gn n
 p:∀b,ψ b<=I b+11*mh n
 k:∀z,litOf n=some z->litOf t'=some z
inductive IEx(most d i:Nat)(I:Fr)(es:List (Str×MV)){k:K}(n:T k):Prop
 |mk(t':T k)(ψ:Fr)(es':List (Str×MV))(g:VK most n I t' ψ)(N:cG es' ψ)(h:Runs (d+9) i es es' 46 [enc n,.ref i,.int most] (enc t'))
theorem uk(hm:most<=4)(hl:ht b<=b8):∃(r:Bool)(w0:Nat)(ext:List MC),(r=true->LS x a b most)/\
 ∀W mu,w0<=W->i<mu.length->Ev (ah W (d+8) 45 [vN x,enc a,enc b,.int most] (mf mu i es)) ((false,.bool r),mf (mu++ext) i es):=by
 obtain⟨r,w0,ext,hr,h⟩:=HF (d:=d+4) (x:=x) (a:=a) (b:=b) (aa hm (by decide)) hl
 exact⟨r,w0,ext,hr,fun W mu hW hi=>by have h:=h W (mf mu i es) hW;rwa [xT hi]at h⟩
theorem in_dict{ins:wj}{ku kv:K}{su:T ku}{sv:T kv}(hu:u.b∈bases)(hv:v.b∈bases)(jN:∀z,ins z=if z=u then some ⟨ku,su⟩else if z=v then some ⟨kv,sv⟩else none):El [(aX u,enc su),(aX v,enc sv)] ins:=by
 refine⟨fun z=>?_,?_⟩
 ·rw[gX,gX,jN]
  by_cases e:z=u
  ·subst e;rw[if_pos rfl,if_pos rfl];rfl
  ·rw[if_neg e,if_neg (fun h=>e (oy h).symm)]
   by_cases e':z=v
   ·subst e';rw[if_pos rfl,if_pos rfl];rfl
   ·rw[if_neg e',if_neg (fun h=>e' (oy h).symm)];rfl
 ·rw[gX,gX,if_neg (jM hu),if_neg (jM hv)];rfl
theorem Cg{ins:wj}{ku kv:K}{su:T ku}{sv:T kv}(huv:u≠v)(jN:∀z,ins z=if z=u then some ⟨ku,su⟩else if z=v then some ⟨kv,sv⟩else none):A5 ins u v su sv:=by
 refine⟨huv,fun k₀ z s h=>?_⟩
 rw[jN]at h
 by_cases e:z=u
 ·rw[if_pos e]at h;cases h;exact .inl ⟨e,rfl⟩
 ·rw[if_neg e]at h
  by_cases e':z=v
  ·rw[if_pos e']at h;cases h;exact .inr ⟨e',rfl⟩
  ·rw[if_neg e']at h;cases h
theorem uV{b:T j}{ku kv:K}{su:T ku}{sv:T kv}(hi:A5 ins u v su sv)(h1:∀k',fv b k' u->k'=ku)(h2:∀k',fv b k' v->k'=kv)(ou:dj jv su/\WF su/\ht su<=b8)(ov:dj jv sv/\WF sv/\ht sv<=b8):
 ∀k x,fv b k x->∀k' s,ins x=some ⟨k',s⟩->k'=k/\dj jv s/\WF s/\ht s<=b8:=fun k x hf k' s h=>by
 rcases hi.at' k' x s h with⟨rfl,e⟩|⟨rfl,e⟩
 ·cases e;exact⟨(h1 _ hf).symm,ou⟩
 ·cases e;exact⟨(h2 _ hf).symm,ov⟩
section
variable{p f f' m ma mb mc la lb lc u v N n L h l:Nat}
theorem ip1(h:p<=f+2*m)(hm:m<=4*mb+(ma+0)):p<=f+11*(1+(ma+mb)):=aa h (ag (aa (aK 2 hm) (by simp+arith)) f)
theorem ip2(h:p<=f'+2*m)(hf:f'<=f+1)(hm:m<=4*mb+(mc+0)):p<=f+11*(1+(ma+(mc+mb))):=aa h (aa (aG hf (aK 2 hm)) (by simp+arith))
theorem ip3(h:p<=f'+2*m)(hf:f'<=f+1)(hm:m<=4*mb+(ma+0)):p<=f+11*(1+(ma+(mc+mb))):=aa h (aa (aG hf (aK 2 hm)) (by simp+arith))
theorem ip4(h:p<=f+2*m)(hm:m<=4*mb+(ma+mc)):p<=f+11*(1+(ma+(mc+mb))):=aa h (ag (aa (aK 2 hm) (by simp+arith)) f)
theorem ibd(h:p<=f+11*n)(g:f+12*n<N):p<N:=by lia
theorem ibx(h:p<=f+1)(g:f+12*(1+n)<N):p<N:=aQ (aa h (ag (by simp+arith) f)) g
theorem il1(h:l<=lb+(la+0)):l<=0+(la+lb):=by lia
theorem il2(h:l<=2*lb+(lc+0)):0+(la+l)<=2*lb+la+lc:=by
 rw[bM,aW,ew (2*lb)];exact aE h la
theorem il3(h:l<=lb+(lc+0)):0+(la+l)<=0+(la+(lc+lb)):=by lia
theorem il4(h:l<=2*lb+(la+0)):0+(lc+l)<=2*lb+la+lc:=by lia
theorem il5(h:l<=lb+(la+0)):0+(lc+l)<=0+(la+(lc+lb)):=by lia
theorem il6(h:l<=2*lb+(la+lc)):l<=2*lb+la+lc:=by rw[bh];exact h
theorem il7(h:l<=lb+(la+lc)):l<=0+(la+(lc+lb)):=by lia
theorem id1(h:l<=lb+max la 0):l<=max (1+max la lb) (la+lb):=by rw[n9 (bC la),aW]at h;exact aa h (az _ _)
theorem id2(h:l<=lb+max lc 0):1+max la l<=1+lb+max la lc:=by
 rw[n9 (bC lc)]at h
 rw[bh]
 exact ag (bV.mpr ⟨aa (aC la lc) (aq _ _),aa h (ag (az la lc) _)⟩) 1
theorem id3(h:l<=lb+max la 0):1+max lc l<=1+lb+max la lc:=by rw[sQ la lc];exact id2 h
theorem id4(h:l<=lb+max la lc):l<=1+lb+max la lc:=by rw[bh];exact aa h (aq _ _)
theorem vT(h:max u v<=W):u<=W/\v<=W:=bV.mp h
theorem m1a:ma<=1+(ma+mb):=by lia
theorem m1b:mb<=1+(ma+mb):=by lia
theorem m2b:mc<=1+(ma+(mc+mb)):=by lia
theorem m2c:mb<=1+(ma+(mc+mb)):=by lia
end
theorem lN{mu ext:List MC}(h:i<mu.length):i<(mu++ext).length:=by rw[aF];exact eu h (ak _ _)
theorem yd{most:Nat}{k:K}{n:T k}(hN:cG es I)(A:dj I n)(Wf:WF n)(h:Runs (d+9) i es es 46 [enc n,.ref i,.int most] (enc n)):IEx most d i I es n:=
 ⟨n,I,es,{Good.same A Wf with f:=Ag n,o:=fun _=>ab _,d:=JU n,p:=fun _=>ak _ _,k:=fun _ h=>h},hN,h⟩
theorem TR{x:Nm}{a:T k}{ins:wj}(hx:x.b∈bases)(jN:∀z,ins z=if z=x then some ⟨k,a⟩else none):El [(aX x,enc a)] ins:=by
 refine⟨fun z=>?_,by rw[gX,if_neg (jM hx)];rfl⟩
 rw[gX,jN]
 by_cases e:z=x
 ·subst e;rw[if_pos rfl,if_pos rfl];rfl
 ·rw[if_neg e,if_neg (fun h=>e (oy h).symm)];rfl
theorem DQ{x:Nm}{a:T k}{ins:wj}(jN:∀z,ins z=if z=x then some ⟨k,a⟩else none)(k₀:K)(z:Nm)(s:T k₀)(h:ins z=some ⟨k₀,s⟩):z=x/\(⟨k₀,s⟩:(k:K)×T k)=⟨k,a⟩:=by
 rw[jN]at h
 by_cases e:z=x
 ·rw[if_pos e]at h;exact⟨e,(ar h).symm⟩
 ·rw[if_neg e]at h;exact(ay _ h.symm).elim
theorem JE{k j:K}{a:T k}{b:T j}{ins:wj}(jN:∀z,ins z=if z=x then some ⟨k,a⟩else none)(hk:∀k',fv b k' x->k'=k)(oa:dj jv a/\WF a/\ht a<=b8)(k':K)(z:Nm)(e:fv b k' z)(k'':K)(s:T k'')(h:ins z=some ⟨k'',s⟩):k''=k'/\dj jv s/\WF s/\ht s<=b8:=by
 obtain⟨rfl,q⟩:=DQ jN k'' z s h
 cases q
 exact⟨(hk k' e).symm,oa⟩
section
variable{most:Nat}(hm:most<=4)
include hm
theorem YL{x:Nm}{a:T k}{b:T j}(hN:cG es I)(A:dj I (.let1 x a b))(Wf:WF (.let1 x a b))(hR:16*mh (.let1 x a b)<=b8)(Ol:∀c,I c+12*mh (.let1 x a b)<10^18):IEx most d i I es (.let1 x a b):=by
 have hB:Bd I:=fun c=>aQ (ak _ _) (Ol c)
 obtain⟨r,w1,ext,hr,T5⟩:=uk (d:=d) (i:=i) (es:=es) (x:=x) (a:=a) (b:=b) hm (xe (oZ b) m1b hR)
 cases r
 ·exact yd hN A Wf ⟨w1,fun W hW mu hi=>⟨ext,N5 (T5 W mu hW hi)⟩⟩
 ·obtain⟨ins,jN⟩:∃ins:wj,∀z,ins z=if z=x then some ⟨k,a⟩else none:=⟨_,fun _=>rfl⟩
  have S:=BG (I:=I) (⟨fun e=>absurd (congrArg Nm.k e) (bO (dU _)),fun k₀ z s h=>.inl (DQ jN k₀ z s h)⟩:A5 ins x ⟨x.b,x.k+1⟩ a (.var .i x)) (hr rfl) hm
  have hp:=fun c=>ip1 (tG (ins:=ins) b I c) S.m
  obtain⟨es',N',w0,uX⟩:=om (d:=d+1) (i:=i) (TR A.1.2 jN) hN (A.2.2.mono hB.top) Wf.2.1 (fun c=>ibd (hp c) (Ol c)) (xe (oZ b) m1b hR) (JE jN Wf.2.2 ⟨A.2.1.mono hB.top,Wf.1,xe (oZ a) m1a hR⟩)
  exact⟨_,_,es',{FO A Wf jN with f:=S.l,o:=fun e=>il1 (S.o e),d:=id1 S.d,p:=hp,k:=fun _ h=>(by cases h)},N',max w0 w1,fun W hW mu hi=>⟨ext,JA (T5 W mu (vT hW).2 hi) (uX W (vT hW).1 (mu++ext) (lN hi))⟩⟩
theorem YK{k j:K}{a:T k}{c:T .i}{b:T j}(hN:cG es I)(A:dj I (.bW x a y c b))(Wf:WF (.bW x a y c b))(hR:16*mh (.bW x a y c b)<=b8)(Ol:∀e,I e+12*mh (.bW x a y c b)<10^18):IEx most d i I es (.bW x a y c b):=by
 have hB:Bd I:=fun c=>aQ (ak _ _) (Ol c)
 have uW:x≠y:=Wf.1
 have Y3:∀k',fv b k' x->k'=k:=fun k' e=>(DD Wf).1 k' x e rfl
 have Y2:∀k',fv b k' y->k'=.i:=fun k' e=>(DD Wf).2 k' y e rfl
 have lb:=xe (oZ b) m2c hR
 have oa:dj jv a/\WF a/\ht a<=b8:=⟨A.2.2.1.mono hB.top,Wf.2.1,xe (oZ a) m1a hR⟩
 have oc:dj jv c/\WF c/\ht c<=b8:=⟨A.2.2.2.1.mono hB.top,Wf.2.2.1,xe (oZ c) m2b hR⟩
 have ov:∀{k'}{z:Nm},Ok I z->dj jv (.var k' (nw I z):T k')/\WF (.var k' (nw I z):T k')/\ht (.var k' (nw I z):T k')<=b8:=fun{k' z} hz=>
  have hBx:Bd (nx I z):=fun e=>ibx qp (Ol e)
  ⟨(iP hz.2).mono hBx.top,trivial,(ae rfl:4<=b8)⟩
 obtain⟨r1,w1,nZ,hr1,T5⟩:=uk (d:=d) (i:=i) (es:=es) (x:=x) (a:=a) (b:=b) hm lb
 obtain⟨r2,w2,ext2,hr2,YU⟩:=uk (d:=d) (i:=i) (es:=es) (x:=y) (a:=c) (b:=b) hm lb
 have t2:∀W mu,w2<=W->i<mu.length->Ev (ah W (d+8) 45 [vN y,enc c,enc b,.int most] (mf (mu++nZ) i es)) ((false,.bool r2),mf (mu++(nZ++ext2)) i es):=fun W mu hW hi=>by
  rw[<-bq];exact YU W (mu++nZ) hW (lN hi)
 have Dv:∀{z:Nm},Ok I z->∀W mu,1<=W->i<mu.length->Ev (ah W (d+8) 41 [.ref i,vN z] (mf mu i es)) ((false,vN (nw I z)),mf mu i (oO es I z)):=fun{z} hz W mu hW hi=>
  Pu.w1 (P:=fun W=>Ev (ah W (d+8) 41 [.ref i,vN z] (mf mu i es)) ((false,vN (nw I z)),mf mu i (oO es I z))) (fun W=>ie hi hN hz.2 ((hz.mono hB.top).lt) (Bd.at fun e=>ibx qp (Ol e))) W hW
 induction r1<;>cases r2
 ·exact yd hN A Wf ⟨max w1 w2,fun W hW mu hi=>⟨nZ++ext2,N0 (T5 W mu (vT hW).1 hi) (t2 W mu (vT hW).2 hi)⟩⟩
 ·obtain⟨ins,jN⟩:∃ins:wj,∀z,ins z=if z=y then some ⟨.i,c⟩else if z=x then some ⟨k,.var k (nw I x)⟩else none:=⟨_,fun _=>rfl⟩
  have hI:=Cg (bY uW) jN
  have S:=BG (I:=nx I x) hI (hr2 rfl) hm
  have hp:=fun e=>ip2 (ma:=mh a) (tG (ins:=ins) b (nx I x) e) qp S.m
  obtain⟨es',N',w0,uX⟩:=om (d:=d+1) (i:=i) (in_dict A.2.1.2 A.1.2 jN) (cA hN A.1.2) (A.2.2.2.2.mono hB.top) Wf.2.2.2.1 (fun e=>ibd (hp e) (Ol e)) lb (uV hI Y2 Y3 oc (ov A.1))
  exact⟨_,_,es',{Cs A Wf jN with f:=il2 S.l,o:=fun e=>il3 (S.o e),d:=id2 S.d,p:=hp,k:=fun _ h=>(by cases h)},N',max w0 (max w1 (max w2 1)),fun W hW mu hi=>⟨nZ++ext2,
   have H:=vT (vT hW).2
   NZ (j0 uW) (nS (lN hi)) (T5 W mu H.1 hi) (t2 W mu (vT H.2).1 hi) (Dv A.1 W _ (vT H.2).2 (lN hi)) (uX W (vT hW).1 _ (lN hi)) (by obtain⟨q,fs,hq⟩:=d8 c;refine hq.symm▸?_;rfl)⟩⟩
 ·obtain⟨ins,jN⟩:∃ins:wj,∀z,ins z=if z=x then some ⟨k,a⟩else if z=y then some ⟨.i,.var .i (nw I y)⟩else none:=⟨_,fun _=>rfl⟩
  have hI:=Cg uW jN
  have S:=BG (I:=nx I y) hI (hr1 rfl) hm
  have hp:=fun e=>ip3 (mc:=mh c) (tG (ins:=ins) b (nx I y) e) qp S.m
  obtain⟨es',N',w0,uX⟩:=om (d:=d+1) (i:=i) (in_dict A.1.2 A.2.1.2 jN) (cA hN A.2.1.2) (A.2.2.2.2.mono hB.top) Wf.2.2.2.1 (fun e=>ibd (hp e) (Ol e)) lb (uV hI Y3 Y2 oa (ov A.2.1))
  exact⟨_,_,es',{Ct A Wf jN with f:=il4 S.l,o:=fun e=>il5 (S.o e),d:=id3 S.d,p:=hp,k:=fun _ h=>(by cases h)},N',max w0 (max w1 (max w2 1)),fun W hW mu hi=>⟨nZ++ext2,
   have H:=vT (vT hW).2
   NY (j0 uW) (nS (lN hi)) (T5 W mu H.1 hi) (t2 W mu (vT H.2).1 hi) (Dv A.2.1 W _ (vT H.2).2 (lN hi)) (uX W (vT hW).1 _ (lN hi)) (by obtain⟨q,fs,hq⟩:=d8 a;refine hq.symm▸?_;rfl)⟩⟩
 ·obtain⟨ins,jN⟩:∃ins:wj,∀z,ins z=if z=x then some ⟨k,a⟩else if z=y then some ⟨.i,c⟩else none:=⟨_,fun _=>rfl⟩
  have hI:=Cg uW jN
  have S:=Ru (I:=I) hI (hr1 rfl) (hr2 rfl) hm
  have hp:=fun e=>ip4 (tG (ins:=ins) b I e) S.m
  obtain⟨es',N',w0,uX⟩:=om (d:=d+1) (i:=i) (in_dict A.1.2 A.2.1.2 jN) hN (A.2.2.2.2.mono hB.top) Wf.2.2.2.1 (fun e=>ibd (hp e) (Ol e)) lb (uV hI Y3 Y2 oa oc)
  exact⟨_,_,es',{FN A Wf jN with f:=il6 S.l,o:=fun e=>il7 (S.o e),d:=id4 S.d,p:=hp,k:=fun _ h=>(by cases h)},N',max w0 (max w1 w2),fun W hW mu hi=>⟨nZ++ext2,
   NX (j0 uW) (T5 W mu (vT (vT hW).2).1 hi) (t2 W mu (vT (vT hW).2).2 hi) (uX W (vT hW).1 _ (lN hi))⟩⟩
theorem nW(n:T k):cG es I->dj I n->WF n->16*mh n<=b8->(∀b,I b+12*mh n<10^18)->IEx most d i I es n:=by
 cases n
 case let1=>exact YL hm
 case bW=>exact YK hm
 all_goals exact fun hN A Wf _ _=>yd hN A Wf (xI 0 fun W mu _=>FH rfl)
end
end
theorem Ck{P:T .i->Prop}(b:T .i)(hg:∀a c,P (.gap2 a c))(hl:∀z,P (.lit z))(hv:∀y,P (.var .i y))(ho:∀b:T .i,((litOf b).isSome=false/\∀x,TP x b=false)/\ltB b=true/\(∀x,etB x b=false)->P b):P b:=by
 cases b<;>first|exact hg _ _|exact hl _|exact hv _|exact ho _ ⟨⟨rfl,fun _=>rfl⟩,rfl,fun _=>rfl⟩
section
variable{d i:Nat}{I:Fr}{es:List (Str×MV)}
theorem FZ(g:Good n I t ψ)(h:Good t ψ t' χ)(e:∀ad C,va ad t C=den (wt ad) t C):Good n I t' χ:=
 ⟨g.le.trans h.le,h.ok,h.wf,fun k y z=>g.fv k y (h.fv k y z),fun ad C gV hη=>by
   have h1:=h.den ad C gV hη
   rw[e]at h1
   exact rel_trans h1 (g.den ad C gV hη)⟩
inductive ft(d i way:Nat){k:K}(n:T k)(I:Fr)(es:List (Str×MV)):Prop
 |mk(t':T k)(ψ:Fr)(es':List (Str×MV))(g:Step n I t' ψ)(N:cG es' ψ)(hl:way=6->LG t')(h:∃w0,∀W,w0<=W->∀mu,i<mu.length->∃ext,Ev (gM W (d+10) way i (enc n) (mf mu i es)) ((false,enc t'),mf (mu++ext) i es'))
theorem iU(h:jP way=some (f,true))(k:ah W (d+10) f [v,.ref i] mu Q):gM W (d+10) way i v mu Q:=eh h k
theorem tU(h:jP way=some (f,false))(k:ah W (d+10) f [v] mu Q):gM W (d+10) way i v mu Q:=eh h k
section
variable{W:Nat}{v v':MV}{mu vE:List MC}{r:(Bool×MV)×List MC}
theorem DN(h:Ev (ah W (d+9) 34 [v,.ref i] mu) r):Ev (ah W (d+10) 64 [v,.ref i] mu) r:=fun Q q=>ao rfl rfl (h _ q)
theorem xY(h1:Ev (ah W (d+9) 33 [v] mu) ((false,v'),vE))(h:Ev (ah W (d+9) 34 [v',.ref i] vE) r):Ev (ah W (d+10) 65 [v,.ref i] mu) r:=fun Q q=>ao rfl rfl (h1 _ (h _ q))
theorem DM(h:Ev (ah W (d+9) 36 [v,.ref i] mu) r):Ev (ah W (d+10) 66 [v,.ref i] mu) r:=fun Q q=>ao rfl rfl (h _ q)
theorem DL(h:Ev (ah W (d+9) 46 [v,.ref i,.int 4] mu) r):Ev (ah W (d+10) 67 [v,.ref i] mu) r:=fun Q q=>ao rfl rfl (h _ q)
theorem xX(h1:Ev (ah W (d+9) 34 [v,.ref i] mu) ((false,v'),vE))(h:Ev (ah W (d+9) 46 [v',.ref i,.int 0] vE) r):Ev (ah W (d+10) 68 [v,.ref i] mu) r:=fun Q q=>ao rfl rfl (h1 _ (h _ q))
theorem DK(h:Ev (ah W (d+9) 37 [v,CS] mu) r):Ev (ah W (d+10) 70 [v,.ref i] mu) r:=fun Q q=>ao rfl rfl (h _ q)
end
theorem ru1{p f m l:Nat}(h:p<=f+2*m)(e:m<=4*l):p<=f+64*l:=by lia
theorem ru2{p f m l:Nat}(h:p<=f+11*m)(e:m<=4*l):p<=f+64*l:=by lia
theorem ru3{f m N:Nat}(h:f+16*m<N):f+12*m<N:=aQ (ag (kg m (by decide)) f) h
theorem ru4{q p f m l l' N:Nat}(h:p<=f+2*m)(e:m<=4*l)(e':q<=4*l')(el:l'<=l)(g:f+64*l<N):p+12*q<N:=
 aQ (aa (aG (aa h (ag (aK 2 e) f)) (aK 12 (aa e' (aK 4 el)))) (by simp+arith)) g
theorem ru5{q r p f m l l':Nat}(h:p<=f+2*m)(e:m<=4*l)(e':q<=4*l')(el:l'<=l)(g:r<=p+11*q):r<=f+64*l:=
 aa g (aa (aG (aa h (ag (aK 2 e) f)) (aK 11 (aa e' (aK 4 el)))) (by simp+arith))
theorem ru6{q l l' L:Nat}(e':q<=4*l')(el:l'<=l)(g:64*l<=L):16*q<=L:=aa (aK 16 (aa e' (aK 4 el))) (aa (by simp+arith) g)
theorem VS.step{k:K}{n t':T k}{I ψ:Fr}(g:VS n I t' ψ):Step n I t' ψ:={g.toGood with hm:=aa g.l (Ag n),hd:=g.d,hp:=fun b=>ru1 (g.p b) (gK n),hk:=g.k}
theorem VK.step{k:K}{n t':T k}{I ψ:Fr}{most:Nat}(g:VK most n I t' ψ):Step n I t' ψ:={g.toGood with hm:=g.f,hd:=g.d,hp:=fun b=>ru2 (g.p b) (gK n),hk:=g.k}
variable{k:K}(n:T k)(hN:cG es I)(A:dj I n)(Wf:WF n)(hR:lO n I)
include hN A Wf hR
theorem Xx:ft d i 0 n I es:=by
 obtain⟨t',ψ,es',g,N',w0,h⟩:=rL (d:=d) (i:=i) n hN A Wf hR
 exact⟨t',ψ,es',g.step,N',(fun e=>by cases e),w0,fun W hW mu hi=>(h W hW mu hi).imp fun ext h Q q=>iU (f:=64) rfl (DN h _ q)⟩
theorem Xv:ft d i 2 n I es:=by
 obtain⟨t',ψ,es',g,N',w0,h⟩:=KH (d:=d) (i:=i) n hN A Wf hR
 exact⟨t',ψ,es',g,N',(fun e=>by cases e),w0,fun W hW mu hi=>(h W hW mu hi).imp fun ext h Q q=>iU (f:=66) rfl (DM h _ q)⟩
theorem Xu:ft d i 3 n I es:=by
 obtain⟨r1,r2⟩:=rj hR
 obtain⟨t',ψ,es',g,N',w0,h⟩:=nW (d:=d) (i:=i) (most:=4) (ab 4) n hN A Wf r1 (fun b=>ru3 (r2 b))
 exact⟨t',ψ,es',g.step,N',(fun e=>by cases e),w0,fun W hW mu hi=>(h W hW mu hi).imp fun ext h Q q=>iU (f:=67) rfl (DL h _ q)⟩
theorem Xs:ft d i 4 n I es:=by
 obtain⟨r1,r2⟩:=rj hR
 induction hb:ya n
 ·obtain⟨t',ψ,es',g,N',w0,h⟩:=nW (d:=d) (i:=i) (most:=0) (by decide) n hN A Wf r1 (fun b=>ru3 (r2 b))
  exact⟨t',ψ,es',g.step,N',(fun e=>by cases e),w0,fun W hW mu hi=>(h W hW mu hi).imp fun ext h Q q=>iU (f:=68) rfl (xX (pN (W:=W) (d:=d+8) (mu:=mf mu i es) (r:=.ref i) hb) h _ q)⟩
 ·obtain⟨t1,φ1,es1,g1,N1,w1,h1⟩:=rL (d:=d) (i:=i) n hN A Wf hR
  obtain⟨t',ψ,es',g,N',w0,h⟩:=nW (d:=d) (i:=i) (most:=0) (by decide) t1 N1 g1.ok g1.wf (ru6 (gK t1) g1.l hR.1) (fun b=>ru4 (g1.p b) (gK n) (gK t1) g1.l (hR.2 b))
  refine⟨t',ψ,es',{FZ g1.toGood g.toGood (g1.t hb)with hm:=aa (g.o rfl) (aa g1.l (Ag n)),hd:=aa g.d g1.g,hp:=fun b=>ru5 (g1.p b) (gK n) (gK t1) g1.l (g.p b),hk:=fun z e=>g.k z (g1.k z e)},N',(fun e=>by cases e),max w0 w1,fun W hW mu hi=>?_⟩
  obtain⟨nZ,h1⟩:=h1 W (vT hW).2 mu hi
  obtain⟨ext2,h2⟩:=h W (vT hW).1 (mu++nZ) (lN hi)
  refine⟨nZ++ext2,?_⟩
  rw[bq]at h2
  exact fun Q q=>iU (f:=68) rfl (xX h1 (r:=((false,enc t'),mf (mu++(nZ++ext2)) i es')) h2 _ q)
theorem Xr:ft d i 5 n I es:=
 ⟨n,I,es,Step.same A Wf,hN,(fun e=>by cases e),0,fun W _ mu _=>⟨[],by rw[aT];exact fun Q q=>tU (f:=35) rfl (E8 (W:=W) (d:=d+9) _ q)⟩⟩
theorem Xp:ft d i 7 n I es:=by
 obtain⟨t',g,h⟩:=F9 (d:=d+7) n A Wf
 exact⟨t',I,es,g,hN,(fun e=>by cases e),0,fun W _ mu _=>⟨[],by rw[aT];exact fun Q q=>tU (f:=33) rfl (h W _ _ q)⟩⟩
omit hN A Wf hR in
theorem mG{n:T k}(hf:Cf n=false)(hN:cG es I)(A:dj I n)(Wf:WF n)(hR:lO n I):ft d i 1 n I es:=by
 obtain⟨t',ψ,es',g,N',w0,h⟩:=rL (d:=d) (i:=i) n hN A Wf hR
 exact⟨t',ψ,es',g.step,N',(fun e=>by cases e),w0,fun W hW mu hi=>(h W hW mu hi).imp fun ext h Q q=>iU (f:=65) rfl (xY (DZ (W:=W) (d:=d+8) (mu:=mf mu i es) hf) h _ q)⟩
omit hN A Wf hR in
theorem MZ{a b:T .i}(hN:cG es I)(A:dj I (.app (.eg b) a))(Wf:WF (.app (.eg b) a)):ft d i 1 (.app (.eg b) a) I es:=
 ⟨.gap2 b a,I,es,Ae A Wf,hN,(fun e=>by cases e),0,fun W _ mu _=>⟨[],by
   rw[aT]
   exact fun Q q=>iU (f:=65) rfl (xY (Ah (W:=W) (d:=d+6) (mu:=mf mu i es) (a:=b) (b:=a)) (pN (W:=W) (d:=d+8) (mu:=mf mu i es) (r:=.ref i) (n:=.gap2 b a) rfl) _ q)⟩⟩
omit hN A Wf hR in
theorem Xw{k:K}(n:T k):cG es I->dj I n->WF n->lO n I->ft d i 1 n I es:=by
 induction n with
 |app f a=>exact yr (P:=fun f=>cG es I->dj I (.app f a)->WF (.app f a)->lO (.app f a) I->ft d i 1 (.app f a) I es) f (fun _ _=>mG rfl) (fun _ hN A Wf _=>MZ hN A Wf) (fun _ _ _=>mG rfl) (fun _ _ _ _ _=>mG rfl) (fun _ _ _=>mG rfl) (fun _ _ _ _ _=>mG rfl) fun _ _ _ h=>mG h
 |_=>exact mG rfl
omit hN A Wf hR in
theorem Xo{n:T k}(t':T k)(h:∀W mu,Ev (ah (W+2) (d+9) 37 [enc n,CS] mu) ((false,enc t'),mu)):∃w0,∀W,w0<=W->∀mu,i<mu.length->∃ext,Ev (gM W (d+10) 6 i (enc n) (mf mu i es)) ((false,enc t'),mf (mu++ext) i es):=by
 refine⟨2,fun W hW mu hi=>⟨[],?_⟩⟩
 obtain⟨W,rfl⟩:∃w,W=w+2:=⟨W-2,(bL hW).symm⟩
 rw[aT]
 exact fun Q q=>iU (f:=70) rfl (DK (h W (mf mu i es)) _ q)
omit hN A Wf hR in
theorem lz{n:T k}(he:P8 n=false)(hl:Yb n=true)(hN:cG es I)(A:dj I n)(Wf:WF n)(hR:lO n I)(hG:LG n):ft d i 6 n I es:=
 ⟨n,I,es,Step.same A Wf,hN,fun _=>hG,Xo _ fun W mu=>Gf (d:=d+6) he hl A⟩
omit hN A Wf hR in
theorem MY{z:Nat}(hN:cG es I)(A:dj I (.lam x (.gap2 (.lit z) (.var .i y))))(Wf:WF (.lam x (.gap2 (.lit z) (.var .i y))))(hR:lO (.lam x (.gap2 (.lit z) (.var .i y))) I)(hG:LG (.lam x (.gap2 (.lit z) (.var .i y)))):ft d i 6 (.lam x (.gap2 (.lit z) (.var .i y))) I es:=by
 by_cases hy:y=x
 ·subst hy
  exact⟨.eg (.lit z),I,es,{JT A Wf (fun _ h=>h)with hm:=(by decide:2<=3),hd:=bC _,hp:=fun _=>ak _ _,hk:=fun _ h=>by cases h},hN,fun _=>trivial,Xo _ fun W mu=>OE (d:=d+6) A.1.2⟩
 ·exact lz (decide_eq_false hy) rfl hN A Wf hR hG
omit hN A Wf hR in
theorem Xq{k:K}(n:T k):cG es I->dj I n->WF n->lO n I->LG n->ft d i 6 n I es:=by
 induction n with
 |lam x b=>
  refine Ck (P:=fun b=>cG es I->dj I (.lam x b)->WF (.lam x b)->lO (.lam x b) I->LG (.lam x b)->ft d i 6 (.lam x b) I es) b (fun a c=>?_) (fun _=>lz rfl rfl) (fun _=>lz rfl rfl) fun b h=>lz (h.2.2 x) h.2.1
  refine Ck (P:=fun a=>cG es I->dj I (.lam x (.gap2 a c))->WF (.lam x (.gap2 a c))->lO (.lam x (.gap2 a c)) I->LG (.lam x (.gap2 a c))->ft d i 6 (.lam x (.gap2 a c)) I es) a (fun _ _ _ _ _ _ h=>absurd h.1 aJ) (fun z=>?_) (fun _ _ _ _ _ h=>absurd h.1 aJ) fun a h _ _ _ _ g=>absurd g.1 (by rw[h.1.1];exact aJ)
  exact Ck (P:=fun c=>cG es I->dj I (.lam x (.gap2 (.lit z) c))->WF (.lam x (.gap2 (.lit z) c))->lO (.lam x (.gap2 (.lit z) c)) I->LG (.lam x (.gap2 (.lit z) c))->ft d i 6 (.lam x (.gap2 (.lit z) c)) I es) c (fun _ _=>lz rfl rfl) (fun _=>lz rfl rfl) (fun y=>MY) fun c h=>lz (h.1.2 x) rfl
 |_=>exact lz rfl rfl
omit hN A Wf hR in
theorem mQ{P:Nat->Prop}{n:Nat}(h0:∀m,m<n->P m)(h1:P n):∀m,m<n+1->P m:=fun m h=>(Nat.lt_or_eq_of_le (LX h)).elim (h0 m) fun e=>e▸h1
omit hN A Wf hR in
theorem WL{P:Nat->Prop}{w:Nat}(hw:w<8)(h0:P 0)(h1:P 1)(h2:P 2)(h3:P 3)(h4:P 4)(h5:P 5)(h6:P 6)(h7:P 7):P w:=
 mQ (mQ (mQ (mQ (mQ (mQ (mQ (mQ (fun m h=>(gw m h).elim) h0) h1) h2) h3) h4) h5) h6) h7 w hw
theorem MX(hw:way<8)(hG:way=6->LG n):ft d i way n I es:=
 WL (P:=fun way=>(way=6->LG n)->ft d i way n I es) hw (fun _=>Xx n hN A Wf hR) (fun _=>Xw n hN A Wf hR) (fun _=>Xv n hN A Wf hR) (fun _=>Xu n hN A Wf hR) (fun _=>Xs n hN A Wf hR) (fun _=>Xr n hN A Wf hR) (fun h=>Xq n hN A Wf hR (h rfl)) (fun _=>Xp n hN A Wf hR) hG
end
noncomputable def XZ:Ss:=gu AK
noncomputable def aaS:Ss:=gu (thS (gu (gu (O8 XZ))))
noncomputable def mst(e:MV)(way i:Nat)(ts dn:List MV)(J:List Slot)(mu:List MC):St:=⟨.fz e:: .fz (.xj way i):: .own (.lst ts):: .own (.lst dn)::J,mu⟩
section
variable{W d i way N:Nat}{mu mu':List MC}{es es':List (Str×MV)}{e:MV}{ts dn:List MV}{J:List Slot}
noncomputable abbrev mw(W d N:Nat)(st:St)(Q:Fl->St->Prop):Prop:=PY XZ W d N st Q
noncomputable def MS(e:MV)(way i:Nat)(ts dn:List MV)(mu:List MC)(J:List Slot):St:=mst e way i ts dn J mu
theorem Tc(hv:v=.inst c fs)(hm:fE c .parts=some pid)(hp:Ev (ah W d pid [v] mu) ((f,.lst []),mu))(hl:Ev (gM W d way i v mu) ((false,r),mu'))
 (h1:ts.length<b8) (h2:dn.length<b8):Rn (mw W d) 7 (MS e way i (ts++[.tup [v,.bool false]]) dn mu) (MS e way i ts (dn++[r]) mu') 1:=fun N Q k=>by
 subst hv
 refine ng 7 ?_;intro a b c' d' e' f' g'
 have k:=k [.fz (.inst c fs),.fz (.bool false),.fz (.lst []),d',e',.fz (.inst c fs),g'] rfl
 have h2':=cF h2
 induction f<;>exact aD (cg h1) (aY eV (aD (cg h1) (eW (eh hm (hp _ (aD h2' (hl _ (aD h2' k))))))))
theorem XK{sh:Sh}(h:sh.parts≠[]):(!(sh.parts.map fV).isEmpty)=true:=by rw[Nx h];rfl
theorem Ta{sh:Sh}(hp:Ev (ah W d (j9 sh.cl) [sh.mv] mu) ((sh.pf,gE sh.parts),mu))(eM:sh.parts≠[])(h1:ts.length+1+sh.parts.length<=b8):
 Rn (mw W d) 7 (MS e way i (ts++[.tup [sh.mv,.bool false]]) dn mu) (MS e way i (ts++[.tup [sh.mv,.bool true]]++sh.parts.reverse.map fun p=>.tup [p.1,.bool false]) dn mu) 1:=fun N Q k=>by
 obtain⟨fs,FL⟩:=mO sh
 obtain⟨m1,m2,m3⟩:=ir sh
 refine ng 7 ?_;intro a b c' d' e' f' g'
 have l1:=lt1 h1
 have l2:=cF l1
 obtain⟨a',b',Bc⟩:=uE (s:=aaS) (W:=W) (d:=d) (S:=fun ts a b=>⟨[.fz e,.fz (.xj way i),.own (.lst ts),.own (.lst dn),.fz sh.mv,.fz (.bool false),.fz (gE sh.parts),a,b,f',g'],mu⟩) (g:=fun p=>.tup [p.1,.bool false])
  (fun p ts a b K Q hl k=>aD hl (aD hl k)) sh.parts.reverse (ts++[.tup [sh.mv,.bool true]]) d' e' (by rw[aF,ib];exact h1)
 have k:=k [.fz sh.mv,.fz (.bool false),.fz (gE sh.parts),a',b',f',g'] rfl
 have Qb:=XK eM
 have er:iw fV sh.parts.reverse=(iw fV sh.parts).reverse:=fM
 rw[er]at Bc
 show mw W d (N+1) (mst e way i (ts++[.tup [sh.mv,.bool false]]) dn _ mu) Q
 rw[FL]at hp Bc k⊢
 induction hf:sh.pf<;>rw[hf]at hp
 ·exact aD (cg l1) (aY eV (aD (cg l1) (eW (eh m1 (hp _ (aY Qb (aD l2 (aD l2 (Bc _ _ k)))))))))
 ·exact aD (cg l1) (aY eV (aD (cg l1) (eW (eh m1 (hp _ (aY Qb (aD l2 (aD l2 (Bc _ _ k)))))))))
theorem Td{sh sh':Sh}(hp:Ev (ah W d (j9 sh.cl) [sh.mv] mu) ((sh.pf,gE sh.parts),mu))(hg:Ev (ah W d (j9 sh.cl-1) [sh.mv] mu) ((true,bf sh.groups),mu))
 (hr:Ev (ah W d (j9 sh.cl+1) [sh.mv,bf sh.groups,.lst rs] mu) ((false,sh'.mv),mu)) (hl:Ev (gM W d way i sh'.mv mu) ((false,r),mu')) (eM:sh.parts≠[]) (hlen:rs.length=sh.parts.length)
 (h1:ts.length<b8) (h2:dn.length+sh.parts.length<=b8):Rn (mw W d) 7 (MS e way i (ts++[.tup [sh.mv,.bool true]]) (dn++rs) mu) (MS e way i ts (dn++[r]) mu') 1:=fun N Q k=>by
 obtain⟨fs,FL⟩:=mO sh
 obtain⟨m1,m2,m3⟩:=ir sh
 have z9:rs.length=(sh.parts.map fV).length:=by rw[hlen,aI]
 refine ng 7 ?_;intro a b c' d' e' f' g'
 have Qb:=XK eM
 have ld0:=dB h2
 have lp:(sh.parts.map fV).length<=b8:=by rw[aI];exact aa (aq _ _) h2
 have ld:(dn++rs).length<=b8:=by rw[aF,hlen];exact h2
 have hz:(((dn++rs).length:Nat):Int)-((sh.parts.map fV).length:Int)=(dn.length:Int):=by rw[<-z9,aF,gx];exact qY _ _
 have hr:Ev (ah W d (j9 sh.cl+1) [sh.mv,bf sh.groups,.lst (pk (clamp (dn++rs).length (((dn++rs).length:Int)-((sh.parts.map fV).length:Int))) (dn++rs))] mu) ((false,sh'.mv),mu):=by rw[zd z9];exact hr
 have k:=k [.fz sh.mv,.fz (.bool true),.fz (gE sh.parts),d',e',.fz sh'.mv,.fz (.int (sh.parts.map fV).length)] rfl
 have k:mw W d N (mst e way i ts (mZ dn.length (dn++rs)++[r]) [.fz sh.mv,.fz (.bool true),.fz (gE sh.parts),d',e',.fz sh'.mv,.fz (.int (sh.parts.map fV).length)] mu') Q:=by rw[oT];exact k
 have lt:(mZ dn.length (dn++rs)).length<=b8:=by rw[oT];exact ld0
 have Y5:(aV (dn++rs).length b8&&aV ((((dn++rs).length:Nat):Int)-((sh.parts.map fV).length:Int)).natAbs b8)=true:=by
  rw[hz,bT ld]
  exact bT ld0
 have ln:dn.length<=(dn++rs).length:=by rw[aF];exact ak _ _
 show mw W d (N+1) (mst e way i (ts++[.tup [sh.mv,.bool true]]) (dn++rs) _ mu) Q
 rw[FL]at hp hr hg k⊢
 induction hf:sh.pf<;>rw[hf]at hp
 ·exact aD (cg h1) (aY eV (aD (cg h1) (eW (eh m1 (hp _ (aY Qb (aD lp (eh m3 (eh m2 (hg _ (aD ld (mj Y5 (hr _ (aD ld (aD ld (nQ hz (aD ln (aD lt (hl _ (aD lt k))))))))))))))))))))
 ·exact aD (cg h1) (aY eV (aD (cg h1) (eW (eh m1 (hp _ (aY Qb (aD lp (eh m3 (eh m2 (hg _ (aD ld (mj Y5 (hr _ (aD ld (aD ld (nQ hz (aD ln (aD lt (hl _ (aD lt k))))))))))))))))))))
noncomputable def fw(d way i:Nat)(p:MV)(es es':List (Str×MV))(r:MV)(B:Nat):Prop:=
 ∃n w0,∀W,w0<=W->∀mu e ts dn,i<mu.length->ts.length+B<=b8->dn.length+B<=b8->
  ∃ext,Rn (mw W d) 7 (MS e way i (ts++[.tup [p,.bool false]]) dn (mf mu i es)) (MS e way i ts (dn++[r]) (mf (mu++ext) i es')) n
inductive pP(d way i:Nat)(B:Nat):List MV->List (Str×MV)->List (Str×MV)->List MV->Prop
 |nil{es:List (Str×MV)}:pP d way i B [] es es []
 |cons{p:MV}{ps:List MV}{es es1 es':List (Str×MV)}{r:MV}{rs:List MV}:fw d way i p es es1 r B->pP d way i B ps es1 es' rs->pP d way i B (p::ps) es es' (r::rs)
theorem pP.len(h:pP d way i B ps es es' rs):rs.length=ps.length:=by
 induction h with
 |nil=>rfl
 |cons _ _ ih=>exact congrArg (· +1) ih
theorem j5(h:i<mu.length):i<(mu++ext).length:=by rw[aF];exact eu h (ak _ _)
noncomputable abbrev B4(ps:List MV):List MV:=ps.reverse.map fun p=>.tup [p,.bool false]
theorem SY:ts++B4 (p::ps)=ts++B4 ps++[.tup [p,.bool false]]:=by
 show ts++iw _ (p::ps).reverse=_
 rw[rU,vA,<-bq];rfl
theorem SX:(ts++B4 ps).length=ts.length+ps.length:=by rw[aF,aI,ib]
theorem B5(h:pP d way i B ps es es' rs):
 ∃n w0,∀W,w0<=W->∀mu e ts dn,i<mu.length->ts.length+ps.length+B<=b8->dn.length+ps.length+B<=b8->
  ∃ext,Rn (mw W d) 7 (MS e way i (ts++B4 ps) dn (mf mu i es)) (MS e way i ts (dn++rs) (mf (mu++ext) i es')) n:=by
 induction h with
 |nil=>exact⟨0,0,fun W _ mu p0 ts dn _ _ _=>⟨[],by rw[aT,aT,show ts++B4 []=ts from aT _];exact fun _ _ k=>k⟩⟩
 | @cons p ps es es1 es' r rs hp _ ih=>
   obtain⟨n1,w1,h1⟩:=hp
   obtain⟨n2,w2,h2⟩:=ih
   refine⟨n2+n1,max w1 w2,fun W hW mu e ts dn hi l1 l2=>?_⟩
   obtain⟨nZ,e1⟩:=h1 W (aa (aC _ _) hW) mu e (ts++B4 ps) dn hi (by rw[SX];exact pr1 l1) (pr3 l2)
   obtain⟨ext2,e2⟩:=h2 W (aa (az _ _) hW) (mu++nZ) e ts (dn++[r]) (j5 hi) (pr1 l1) (by rw[snl];exact pr2 l2)
   refine⟨nZ++ext2,?_⟩
   rw[SY,show dn++r::rs=dn++[r]++rs from(bq dn [r] rs).symm,<-bq]
   exact e1.trans e2
theorem iq{rs:List MV}(hk:sh.ok)(eM:sh.parts≠[])(xb:sh.parts.length<=3)
 (FK:pP (d+3) way i B (sh.parts.map (·.1)) es es1 rs) (JJ:Re sh sh.groups rs sh')
 (y2:∀W,w0<=W->∀mu,i<mu.length->∃ext,Ev (gM W (d+3) way i sh'.mv (mf mu i es1)) ((false,r),mf (mu++ext) i es')) (hB:B+4<=B'):fw (d+3) way i sh.mv es es' r B':=by
 obtain⟨n,w1,hr⟩:=B5 FK
 have hlen:=FK.len
 rw[aI]at hlen
 refine⟨1+(n+1),max w0 w1,fun W hW mu e ts dn hi l1 l2=>?_⟩
 have a1:=VZ l1 hB
 have a2:=VZ l2 hB
 have t1:=Ta (W:=W) (d:=d+3) (e:=e) (way:=way) (i:=i) (mu:=mf mu i es) (ts:=ts) (dn:=dn) (sh:=sh) (kP hk) eM (pn4 a1 xb)
 obtain⟨nZ,t2⟩:=hr W (aa (az _ _) hW) mu e (ts++[.tup [sh.mv,.bool true]]) dn hi (by rw[snl,aI];exact pn3 l1 hB xb) (by rw[aI];exact pn2 l2 hB xb)
 obtain⟨ext2,hc⟩:=y2 W (aa (aC _ _) hW) (mu++nZ) (j5 hi)
 have t3:=Td (W:=W) (d:=d+3) (e:=e) (ts:=ts) (dn:=dn) (sh:=sh) (kP hk) rG (uD hk JJ) hc eM hlen (P0 a1) (pn5 a2 xb)
 have e4:B4 (sh.parts.map (·.1))=sh.parts.reverse.map fun p=>.tup [p.1,.bool false]:=by
  show iw _ (iw _ sh.parts).reverse=_
  rw[<-fM,eQ];rfl
 rw[e4]at t2
 refine⟨nZ++ext2,?_⟩
 rw[<-bq]
 exact(t1.trans t2).trans t3
theorem jx(hv:v=.inst c fs)(hm:fE c .parts=some pid)(hp:∀W mu,Ev (ah W d pid [v] mu) ((f,.lst []),mu))
 (hl:∀W,w0<=W->∀mu,i<mu.length->∃ext,Ev (gM W d way i v (mf mu i es)) ((false,r),mf (mu++ext) i es')) (hB:1<=B):fw d way i v es es' r B:=
 ⟨1,w0,fun W hW mu e ts dn hi l1 l2=>(hl W hW mu hi).imp fun ext hl=>Tc hv hm (hp W _) hl (aa (ag hB _) l1) (aa (ag hB _) l2)⟩
theorem fw.mono(h:fw d way i p es es' r B)(hB:B<=B'):fw d way i p es es' r B':=by
 obtain⟨n,w0,h⟩:=h
 exact⟨n,w0,fun W hW mu e ts dn hi l1 l2=>h W hW mu e ts dn hi (aa (ag hB _) l1) (aa (ag hB _) l2)⟩
theorem uQ(h:fw d way i p es es' r B)(hB:B<=b8):Runs (d+1) i es es' 38 [p,.xj way i] r:=by
 obtain⟨n,w0,h⟩:=h
 refine⟨max w0 (n+1),fun W hW mu hi=>?_⟩
 have hW2:=aa (az w0 (n+1)) hW
 obtain⟨ext,e⟩:=h W (aa (aC _ _) hW) mu p [] [] hi ((bM B).symm▸hB) ((bM B).symm▸hB)
 refine⟨ext,fun Q k=>?_⟩
 have e:=e (W-n) (eL Q)
 rw[bL (cv hW2)]at e
 refine ao rfl rfl (e (fun J hj=>?_) [.un,.un,.un,.un,.un,.un,.un] rfl)
 obtain⟨m,hm⟩:∃m,W-n=m+1:=⟨_,(bL (jn (aa (az _ _) hW))).symm⟩
 rw[hm]
 exact k
end
noncomputable def QO(v:MV):Prop:=(∃c fs,v=.inst c fs/\aL 2 c.n=false/\aL 3 c.n=false/\aL 4 c.n=false)\/(∃s as,v=.inst .App [bJ s,as])\/(∃ps fs,v=.inst .iu [ps,.inst .Case fs])
section
variable{W d i:Nat}{mu:List MC}{v r:MV}
theorem yh(h:QO v):Ev (ah W (d+1) 34 [v,r] mu) ((false,v),mu):=fun Q k=>by
 rcases h with⟨c,fs,rfl,h1,h2,h3⟩|⟨s,as,rfl⟩|⟨ps,fs,rfl⟩
 ·exact ao rfl rfl (aY (b:= !(aL 2 c.n||false)) (by rw[h1];rfl) k)
 ·exact ao rfl rfl k
 ·exact ao rfl rfl k
theorem TX(h:QO v):Ev (ah W (d+1) 36 [v,r] mu) ((false,v),mu):=fun Q k=>by
 rcases h with⟨c,fs,rfl,h1,h2,h3⟩|⟨s,as,rfl⟩|⟨ps,fs,rfl⟩
 ·exact ao rfl rfl (aY (b:= !(aL 2 c.n||false)) (by rw[h1];rfl) k)
 ·exact ao rfl rfl k
 ·exact ao rfl rfl k
theorem DR(h:QO v):Ev (ah W (d+1) 33 [v] mu) ((false,v),mu):=fun Q k=>by
 rcases h with⟨c,fs,rfl,h1,h2,h3⟩|⟨s,as,rfl⟩|⟨ps,fs,rfl⟩
 ·exact ao rfl rfl (bp (b:=aL 2 c.n||false) (by rw[h1];rfl) k)
 ·exact ao rfl rfl k
 ·exact ao rfl rfl k
theorem FJ(h:QO v):Ev (ah W (d+1) 35 [v] mu) ((false,v),mu):=fun Q k=>by
 rcases h with⟨c,fs,rfl,h1,h2,h3⟩|⟨s,as,rfl⟩|⟨ps,fs,rfl⟩
 ·exact ao rfl rfl (bp (b:=aL 3 c.n||false) (by rw[h2];rfl) k)
 ·exact ao rfl rfl k
 ·exact ao rfl rfl k
theorem JG(h:QO v):Ev (ah W (d+1) 46 [v,r,.int z] mu) ((false,v),mu):=fun Q k=>by
 rcases h with⟨c,fs,rfl,h1,h2,h3⟩|⟨s,as,rfl⟩|⟨ps,fs,rfl⟩
 ·exact ao rfl rfl (aY (b:= !(aL 4 c.n||false)) (by rw[h3];rfl) k)
 ·exact ao rfl rfl k
 ·exact ao rfl rfl k
theorem TV(h:QO v):Ev (ah (W+2) (d+3) 37 [v,CS] mu) ((false,v),mu):=by
 rcases h with⟨c,fs,rfl,h1,h2,h3⟩|⟨s,as,rfl⟩|⟨ps,fs,rfl⟩
 ·exact Ko h2
 ·exact Ko rfl
 ·exact Qt rfl
theorem UY(hw:way<8)(h:QO v)(hW:2<=W):Ev (gM W (d+10) way i v mu) ((false,v),mu):=by
 obtain⟨W,rfl⟩:∃w,W=w+2:=⟨_,(bL hW).symm⟩
 exact WL (P:=fun way=>Ev (gM (W+2) (d+10) way i v mu) ((false,v),mu)) hw (fun Q k=>iU (f:=64) rfl (DN (yh h) _ k)) (fun Q k=>iU (f:=65) rfl (xY (DR h) (yh h) _ k)) (fun Q k=>iU (f:=66) rfl (DM (TX h) _ k)) (fun Q k=>iU (f:=67) rfl (DL (JG h) _ k))
  (fun Q k=>iU (f:=68) rfl (xX (yh h) (JG h) _ k)) (fun Q k=>tU (f:=35) rfl (FJ (d:=d+9) h _ k)) (fun Q k=>iU (f:=70) rfl (DK (TV (d:=d+6) h) _ k)) fun Q k=>tU (f:=33) rfl (DR (d:=d+9) h _ k)
end
section
variable{d i way:Nat}{es:List (Str×MV)}
theorem rF(hw:way<8)(h:QO v):∀W,2<=W->∀mu:List MC,i<mu.length->∃ext,Ev (gM W (d+10) way i v (mf mu i es)) ((false,v),mf (mu++ext) i es):=
 fun W hW mu _=>⟨[],by rw[aT];exact UY hw h hW⟩
theorem uP(hw:way<8)(hB:1<=B):fw (d+10) way i (bJ s) es es (bJ s) B:=
 jx rfl rfl (fun _ _=>kE) (rF hw (.inl ⟨_,_,rfl,rfl,rfl,rfl⟩)) hB
theorem IH(hw:way<8)(hB:1<=B):fw (d+10) way i (.inst .Lit [a,b]) es es (.inst .Lit [a,b]) B:=
 jx rfl rfl (fun _ _=>lZ) (rF hw (.inl ⟨_,_,rfl,rfl,rfl,rfl⟩)) hB
theorem NB(hw:way<8):fw (d+10) way i (ji x n v z) es es (ji x n v z) 18:=by
 rw[qC]
 have h1:fw (d+10) way i (iQ (bJ (aX n)) (fF (-1))) es es (iQ (bJ (aX n)) (fF (-1))) 6:=
  iq (d:=d+7) (sh:=.add (bJ (aX n)) (fF (-1))) (sh':=.add (bJ (aX n)) (fF (-1))) (B:=2) trivial (bl _ _) (ae rfl) (.cons (uP hw (by decide)) (.cons (IH hw (by decide)) .nil)) .add (rF hw (.inl ⟨_,_,rfl,rfl,rfl,rfl⟩)) (by decide)
 have h2:fw (d+10) way i (.inst .App [bJ (aX x),.lst [iQ (bJ (aX n)) (fF (-1))]]) es es (.inst .App [bJ (aX x),.lst [iQ (bJ (aX n)) (fF (-1))]]) 10:=
  iq (d:=d+7) (sh:=.ll (bJ (aX x)) (iQ (bJ (aX n)) (fF (-1)))) (sh':=.ll (bJ (aX x)) (iQ (bJ (aX n)) (fF (-1)))) (B:=6) trivial (bl _ _) (ae rfl) (.cons (uP hw (by decide)) (.cons h1 .nil)) .ll (rF hw (.inr (.inl ⟨_,_,rfl⟩))) (by decide)
 have h3:=iq (d:=d+7) (way:=way) (i:=i) (es:=es) (es1:=es) (es':=es) (sh:=.bG (bJ (aX n)) (aX v) 0 (fF z) (.inst .App [bJ (aX x),.lst [iQ (bJ (aX n)) (fF (-1))]])) (sh':=.bG (bJ (aX n)) (aX v) 0 (fF z) (.inst .App [bJ (aX x),.lst [iQ (bJ (aX n)) (fF (-1))]]))
  (r:=(Sh.bG (bJ (aX n)) (aX v) 0 (fF z) (.inst .App [bJ (aX x),.lst [iQ (bJ (aX n)) (fF (-1))]])).mv) (B:=10) (B':=14) ⟨_,_,rfl⟩ (bl _ _) (ae rfl) (.cons (uP hw (by decide)) (.cons (IH hw (by decide)) (.cons h2 .nil))) .bG (rF hw (.inl ⟨_,_,rfl,rfl,rfl,rfl⟩)) (by decide)
 exact iq (d:=d+7) (sh:=.lam (aX n) _) (sh':=.lam (aX n) _) (B:=14) trivial (bl _ _) (ae rfl) (.cons h3 .nil) .lam (rF hw (.inr (.inr ⟨_,_,rfl⟩))) (by decide)
end
noncomputable def FF:{k:K}->T k->Nat
 |_,.var z1 z2=>1
 |_,.err z1=>1
 |_,.lit z1=>1
 |_,.add a b=>FF a+FF b
 |_,.app a b=>FF a+FF b
 |_,.gap2 a b=>1+(FF a+FF b)
 |_,.eg a=>1+FF a
 |_,.lam z1 b=>FF b
 |_,.cD=>1
 |_,.cC a=>FF a
 |_,.let1 (k:=k) z1 a b=>2*FF b+FF a
 |_,.bW (k:=k) z1 a z2 c b=>2*FF b+FF a+FF c
 |_,.dQ z1 a b=>FF a+FF b
 |_,.dR z1 z2 z3 z4 b=>5+FF b
 |_,.bG s z1 z2 a o=>FF s+(FF a+FF o)
 |_,.cE s z1 o=>FF s+FF o
 |_,.bK s z1 z2 a o=>FF s+(FF a+FF o)
 |_,.bD s z1 z2 a o=>FF s+(FF a+FF o)
noncomputable def GG:{k:K}->T k->Nat
 |_,.var z1 z2=>0
 |_,.err z1=>0
 |_,.lit z1=>0
 |_,.add a b=>max (GG a) (GG b)
 |_,.app f a=>max (1+max (GG f) (GG a)) (GG f+GG a)
 |_,.gap2 a b=>max (GG a) (GG b)
 |_,.eg a=>GG a
 |_,.lam z1 b=>GG b
 |_,.cD=>0
 |_,.cC a=>GG a
 |_,.let1 (k:=k) z1 a b=>max (1+max (GG a) (GG b)) (GG a+GG b)
 |_,.bW (k:=k) z1 a z2 c b=>1+GG b+max (GG a) (GG c)
 |_,.dQ z1 a b=>1+max (GG a) (GG b)
 |_,.dR z1 z2 z3 z4 b=>1+GG b
 |_,.bG s z1 z2 a o=>max (GG s) (max (GG a) (GG o))
 |_,.cE s z1 o=>max (GG s) (GG o)
 |_,.bK s z1 z2 a o=>max (GG s) (max (GG a) (GG o))
 |_,.bD s z1 z2 a o=>max (GG s) (max (GG a) (GG o))
noncomputable def NN:{k:K}->T k->Nat
 |_,.var z1 z2=>1
 |_,.err z1=>1
 |_,.lit z1=>1
 |_,.add a b=>1+(NN a+NN b)
 |_,.app a b=>1+(NN a+NN b)
 |_,.gap2 a b=>1+(NN a+NN b)
 |_,.eg a=>1+NN a
 |_,.lam z1 b=>1+NN b
 |_,.cD=>1
 |_,.cC a=>1+NN a
 |_,.let1 (k:=k) z1 a b=>1+(NN a+NN b)
 |_,.bW (k:=k) z1 a z2 c b=>1+(NN a+(NN c+NN b))
 |_,.dQ z1 a b=>1+(NN a+NN b)
 |_,.dR z1 z2 z3 z4 b=>1+NN b
 |_,.bG s z1 z2 a o=>1+(NN s+(NN a+NN o))
 |_,.cE s z1 o=>1+(NN s+NN o)
 |_,.bK s z1 z2 a o=>1+(NN s+(NN a+NN o))
 |_,.bD s z1 z2 a o=>1+(NN s+(NN a+NN o))
structure rR(d i way Q:Nat){k:K}(t:T k)(I:Fr)(es:List (Str×MV))(t':T k)(ψ:Fr)(es':List (Str×MV)):Prop where
 g:dK t I t' ψ
 n:cG es' ψ
 lg:way=6->LG t'
 lf:kG t'<=FF t
 ld:Pu.ld t'<=GG t
 p:∀b,ψ b<=I b+NN t*Q
 lit:∀z,litOf t=some z->litOf t'=some z
 run:fw (d+10) way i (enc t) es es' (enc t') (ht t)
section
variable{d i way Q C:Nat}{es es1:List (Str×MV)}{I ψ:Fr}
theorem mf3(hQ:64*C<=Q)(hC:l<=C)(h:c<=p+64*l)(h':p+Q<=b):c<=b:=aa h (aa (ag (aa (aK 64 hC) hQ) p) h')
theorem tK(hw:way<8)(hC:64*C<=b8)(hQ:64*C<=Q)(m:tX t I n ψ)(hN:cG es1 ψ)(DU:Fn n<=FF t)(hld:Gn n<=GG t)(hF:FF t<=C)(hψ:∀b,ψ b+Q<=I b+NN t*Q)(hb:∀b,I b+NN t*Q<10^18)
 (hG:way=6->LG n) (hk:∀z,litOf t=some z->litOf n=some z)
 (proc:∀w0 es' r,(∀W,w0<=W->∀mu:List MC,i<mu.length->∃ext,Ev (gM W (d+10) way i (enc n) (mf mu i es1)) ((false,r),mf (mu++ext) i es'))->fw (d+10) way i (enc t) es es' r (ht t)):
 ∃t' χ es',rR d i way Q t I es t' χ es':=by
 have hn:=Ag n
 obtain⟨t',χ,es',st,N',lg,w0,h⟩:=MX (d:=d) (i:=i) n hN m.ok m.wf (⟨aa (aK 64 (aa hn (aa DU hF))) hC,fun b=>aQ (mf3 hQ (aa hn (aa DU hF)) (ab _) (hψ b)) (hb b)⟩:lO n ψ) hw hG
 exact⟨t',χ,es',dK.of m st.toGood,N',lg,aa st.hm DU,aa st.hd hld,fun b=>mf3 hQ (aa hn (aa DU hF)) (st.hp b) (hψ b),fun z e=>st.hk z (hk z e),proc w0 es' _ h⟩
end
section
variable{d i way Q C:Nat}
theorem uK(sh:Sh):sh.parts.length<=3:=by induction sh<;>exact ae rfl
section
variable{p q r x y z w Q N:Nat}
theorem nq1(h:x+(1+p)*Q<N):x+p*Q<N:=by rw[pj,iY]at h;exact aQ (ag (aq _ _) x) h
theorem nq2(h:x+(1+p)*Q<N)(hy:y<=x+p*Q):y+Q<=x+(1+p)*Q:=by rw[pj,iY,aW Q,<-bh];exact aE hy Q
theorem nq3(h:x+(p+q)*Q<N):x+p*Q<N:=by rw[pj]at h;exact aQ (ag (ak _ _) x) h
theorem nq4(h:x+(p+q)*Q<N)(hy:y<=x+p*Q):y+q*Q<N:=by rw[pj,<-bh]at h;exact aQ (aE hy _) h
theorem nq5(hy:y<=x+p*Q)(hz:z<=y+q*Q):z<=x+(p+q)*Q:=by rw[pj,<-bh];exact aa hz (aE hy _)
end
noncomputable def vt(d i way Q C:Nat){k:K}(t:T k):Prop:=∀(I:Fr)(es:List (Str×MV)),cG es I->dj I t->WF t->FF t<=C->(∀b,I b+NN t*Q<10^18)->(way=6->LG t)->∃t' χ es',rR d i way Q t I es t' χ es'
noncomputable abbrev MP(d i way:Nat){k:K}(a a':T k)(es es1:List (Str×MV))(h:Nat):Prop:=fw (d+10) way i (enc a) es es1 (enc a') h
noncomputable abbrev VQ(d i way:Nat)(n:MV)(es1 es':List (Str×MV))(w0:Nat)(r:MV):Prop:=∀W,w0<=W->∀mu:List MC,i<mu.length->∃ext,Ev (gM W (d+10) way i n (mf mu i es1)) ((false,r),mf (mu++ext) i es')
noncomputable abbrev abP{k:K}(a a':T k):Prop:=∀z,litOf a=some z->litOf a'=some z
section
variable(hw:way<8)(hC:64*C<=b8)(hQ:64*C<=Q){I:Fr}{es:List (Str×MV)}(hN:cG es I)
include hw hC hQ hN
theorem DB(m:tX t I t I)(hf:Fn t<=FF t)(hg:Gn t<=GG t)(hn:NN t=1)(hF:FF t<=C)(hb:∀b,I b+NN t*Q<10^18)(hG:way=6->LG t)
 (R:∀es' w0 r,VQ d i way (enc t) es es' w0 r->fw (d+10) way i (enc t) es es' r (ht t)):∃t' χ es',rR d i way Q t I es t' χ es':=
 tK hw hC hQ m hN hf hg hF (fun b=>by rw[hn,iY];exact ab _) hb hG (fun _ h=>h) fun w0 es' r h=>R es' w0 r h
theorem DA{a:T ka}{mk:T ka->T k}(bZ:vt d i way Q C a)(Aa:dj I a)(Wa:WF a)(hF:FF (mk a)<=C)(Uj:FF a<=FF (mk a))(hb:∀b,I b+NN (mk a)*Q<10^18)(hn:NN (mk a)=1+NN a)
 (hG:way=6->LG (mk a)) (Qi:LG (mk a)->LG a) (hm:∀{a' φ1},dK a I a' φ1->tX (mk a) I (mk a') φ1) (hf:∀a',kG a'<=FF a->Fn (mk a')<=FF (mk a)) (hg:∀a',ld a'<=GG a->Gn (mk a')<=GG (mk a)) (hl:∀a',LG (mk a)->LG a'->LG (mk a')) (fC:litOf (mk a)=none)
 (R:∀a' es1,MP d i way a a' es es1 (ht a)->∀es' w0 r,VQ d i way (enc (mk a')) es1 es' w0 r->fw (d+10) way i (enc (mk a)) es es' r (ht (mk a))):∃t' χ es',rR d i way Q (mk a) I es t' χ es':=by
 have vU:=hb
 simp only[hn]at vU
 obtain⟨a',φ1,es1,ra⟩:=bZ I es hN Aa Wa (aa Uj hF) (fun c=>nq1 (vU c)) fun e=>Qi (hG e)
 exact tK hw hC hQ (hm ra.g) ra.n (hf a' ra.lf) (hg a' ra.ld) hF (fun c=>by exact hn.symm▸nq2 (vU c) (ra.p c)) hb (fun e=>hl a' (hG e) (ra.lg e)) (fun z h=>by rw[fC]at h;cases h) fun w0 es' r h=>R a' es1 ra.run es' w0 r h
theorem wO{a:T ka}{b:T kb}{mk:T ka->T kb->T k}(bZ:vt d i way Q C a)(dE:vt d i way Q C b)(Aa:dj I a)(Ab:dj I b)(Wa:WF a)(Wb:WF b)(hF:FF (mk a b)<=C)(Uj:FF a+FF b<=FF (mk a b))
 (hb:∀c,I c+NN (mk a b)*Q<10^18) (hn:NN (mk a b)=1+(NN a+NN b)) (hG:way=6->LG (mk a b)) (Qi:LG (mk a b)->LG a/\LG b) (hm:∀{a' b' φ1 φ2},dK a I a' φ1->dK b φ1 b' φ2->tX (mk a b) I (mk a' b') φ2)
 (hf:∀a' b',kG a'<=FF a->kG b'<=FF b->Fn (mk a' b')<=FF (mk a b)) (hg:∀a' b',ld a'<=GG a->ld b'<=GG b->Gn (mk a' b')<=GG (mk a b)) (hl:∀a' b',LG (mk a b)->abP a a'->LG a'->LG b'->LG (mk a' b')) (fC:litOf (mk a b)=none)
 (R:∀a' b' es1 es2,MP d i way a a' es es1 (ht a)->MP d i way b b' es1 es2 (ht b)->∀es' w0 r,VQ d i way (enc (mk a' b')) es2 es' w0 r->fw (d+10) way i (enc (mk a b)) es es' r (ht (mk a b))):∃t' χ es',rR d i way Q (mk a b) I es t' χ es':=by
 have vU:=hb
 simp only[hn]at vU
 have Zc:=fun c=>nq1 (vU c)
 obtain⟨a',φ1,es1,ra⟩:=bZ I es hN Aa Wa (aa (aa (ak _ _) Uj) hF) (fun c=>nq3 (Zc c)) fun e=>(Qi (hG e)).1
 obtain⟨b',φ2,es2,rb⟩:=dE φ1 es1 ra.n (Ab.mono ra.g.le) Wb (aa (aa (aq _ _) Uj) hF) (fun c=>nq4 (Zc c) (ra.p c)) fun e=>(Qi (hG e)).2
 exact tK hw hC hQ (hm ra.g rb.g) rb.n (hf a' b' ra.lf rb.lf) (hg a' b' ra.ld rb.ld) hF (fun c=>by exact hn.symm▸nq2 (vU c) (nq5 (ra.p c) (rb.p c))) hb (fun e=>hl a' b' (hG e) ra.lit (ra.lg e) (rb.lg e)) (fun z h=>by rw[fC]at h;cases h) fun w0 es' r h=>R a' b' es1 es2 ra.run rb.run es' w0 r h
theorem Dz{a:T ka}{b:T kb}{c:T kc}{mk:T ka->T kb->T kc->T k}(bZ:vt d i way Q C a)(dE:vt d i way Q C b)(yg:vt d i way Q C c)(Aa:dj I a)(Ab:dj I b)(Ac:dj I c)(Wa:WF a)(Wb:WF b)(Wc:WF c)(hF:FF (mk a b c)<=C)(Uj:FF a+(FF b+FF c)<=FF (mk a b c))
 (hb:∀e,I e+NN (mk a b c)*Q<10^18) (hn:NN (mk a b c)=1+(NN a+(NN b+NN c))) (hG:way=6->LG (mk a b c)) (Qi:LG (mk a b c)->LG a/\LG b/\LG c) (hm:∀{a' b' c' φ1 φ2 φ3},dK a I a' φ1->dK b φ1 b' φ2->dK c φ2 c' φ3->tX (mk a b c) I (mk a' b' c') φ3)
 (hf:∀a' b' c',kG a'<=FF a->kG b'<=FF b->kG c'<=FF c->Fn (mk a' b' c')<=FF (mk a b c)) (hg:∀a' b' c',ld a'<=GG a->ld b'<=GG b->ld c'<=GG c->Gn (mk a' b' c')<=GG (mk a b c)) (hl:∀a' b' c',LG a'->LG b'->LG c'->LG (mk a' b' c')) (fC:litOf (mk a b c)=none)
 (R:∀a' b' c' es1 es2 G9,MP d i way a a' es es1 (ht a)->MP d i way b b' es1 es2 (ht b)->MP d i way c c' es2 G9 (ht c)->∀es' w0 r,VQ d i way (enc (mk a' b' c')) G9 es' w0 r->fw (d+10) way i (enc (mk a b c)) es es' r (ht (mk a b c))):∃t' χ es',rR d i way Q (mk a b c) I es t' χ es':=by
 have vU:=hb
 simp only[hn]at vU
 have Zc:=fun e=>nq1 (vU e)
 obtain⟨a',φ1,es1,ra⟩:=bZ I es hN Aa Wa (aa (aa (ak _ _) Uj) hF) (fun c=>nq3 (Zc c)) fun e=>(Qi (hG e)).1
 have hb3:=fun e=>nq4 (Zc e) (ra.p e)
 have hF2:=aa (aa (aq _ _) Uj) hF
 obtain⟨b',φ2,es2,rb⟩:=dE φ1 es1 ra.n (Ab.mono ra.g.le) Wb (aa (ak _ _) hF2) (fun e=>nq3 (hb3 e)) fun e=>(Qi (hG e)).2.1
 obtain⟨c',φ3,G9,rc⟩:=yg φ2 es2 rb.n (Ac.mono (ra.g.le.trans rb.g.le)) Wc (aa (aq _ _) hF2) (fun e=>nq4 (hb3 e) (rb.p e)) fun e=>(Qi (hG e)).2.2
 exact tK hw hC hQ (hm ra.g rb.g rc.g) rc.n (hf a' b' c' ra.lf rb.lf rc.lf) (hg a' b' c' ra.ld rb.ld rc.ld) hF (fun e=>by exact hn.symm▸nq2 (vU e) (nq5 (ra.p e) (nq5 (rb.p e) (rc.p e)))) hb (fun e=>hl a' b' c' (ra.lg e) (rb.lg e) (rc.lg e)) (fun z h=>by rw[fC]at h;cases h) fun w0 es' r h=>R a' b' c' es1 es2 G9 ra.run rb.run rc.run es' w0 r h
end
section
variable{sh sh':Sh}{es es1 es2 G9 es':List (Str×MV)}{x y z x' y' z' r:MV}{h1 h2 h3 h w0:Nat}
theorem mr1(hk:sh.ok)(hp:sh.parts.map (·.1)=[x])(m1:fw (d+10) way i x es es1 x' h1)(JJ:Re sh sh.groups [x'] sh')(y2:VQ d i way sh'.mv es1 es' w0 r)(hh:h1+4<=h):fw (d+10) way i sh.mv es es' r h:=
 iq (d:=d+7) hk (fun e=>by replace hp:=e▸hp;cases hp) (uK sh) (by exact hp.symm▸ .cons m1 .nil) JJ y2 hh
theorem SZ(hk:sh.ok)(hp:sh.parts.map (·.1)=[x,y])(m1:fw (d+10) way i x es es1 x' h1)(m2:fw (d+10) way i y es1 es2 y' h2)(JJ:Re sh sh.groups [x',y'] sh')(y2:VQ d i way sh'.mv es2 es' w0 r)(hh:max h1 h2+4<=h):fw (d+10) way i sh.mv es es' r h:=
 iq (d:=d+7) hk (fun e=>by replace hp:=e▸hp;cases hp) (uK sh) (by exact hp.symm▸ .cons (m1.mono (aC _ _)) (.cons (m2.mono (az _ _)) .nil)) JJ y2 hh
theorem XX(hk:sh.ok)(hp:sh.parts.map (·.1)=[x,y,z])(m1:fw (d+10) way i x es es1 x' h1)(m2:fw (d+10) way i y es1 es2 y' h2)(m3:fw (d+10) way i z es2 G9 z' h3)(JJ:Re sh sh.groups [x',y',z'] sh')(y2:VQ d i way sh'.mv G9 es' w0 r)(hh:max h1 (max h2 h3)+4<=h):fw (d+10) way i sh.mv es es' r h:=
 iq (d:=d+7) hk (fun e=>by replace hp:=e▸hp;cases hp) (uK sh) (by exact hp.symm▸ .cons (m1.mono (aC _ _)) (.cons (m2.mono (aa (aC _ _) (az _ _))) (.cons (m3.mono (aa (az _ _) (az _ _))) .nil))) JJ y2 hh
end
theorem h18{n:Nat}:max 18 n+4<=24+n:=hm3 (by decide)
theorem IV(hw:way<8)(hC:64*C<=b8)(hQ:64*C<=Q){k:K}(t:T k):vt d i way Q C t:=by
 induction t with
 |var k x=>exact fun I es hN A W hF hb hG=>DB hw hC hQ hN (NC A) (ab _) (ab _) rfl hF hb hG fun es' w0 r h=>jx rfl rfl (fun _ _=>kE) h (by decide:1<=4)
 |err k=>exact fun I es hN A W hF hb hG=>DB hw hC hQ hN NH (ab _) (ab _) rfl hF hb hG fun es' w0 r h=>jx rfl rfl (fun _ _=>lB) h (by decide:1<=4)
 |lit z=>exact fun I es hN A W hF hb hG=>DB hw hC hQ hN ND (ab _) (ab _) rfl hF hb hG fun es' w0 r h=>jx rfl rfl (fun _ _=>lZ) h (by decide:1<=4)
 |cD=>exact fun I es hN A W hF hb hG=>DB hw hC hQ hN S4 (ab _) (ab _) rfl hF hb hG fun es' w0 r h=>jx rfl rfl (fun _ _=>mK) h (by decide:1<=4)
 |add a b bZ dE=>
  exact fun I es hN A W hF hb hG=>wO hw hC hQ hN (mk:=.add) bZ dE A.1 A.2 W.1 W.2 hF (ab _) hb rfl hG id NJ (fun _ _=>VE) (fun _ _=>md) (fun _ _ _ _ h1 h2=>⟨h1,h2⟩) rfl
   fun a' b' _ _ ra rb es' w0 r h=>SZ (sh:=.add (enc a) (enc b)) (sh':=.add (enc a') (enc b')) trivial rfl ra rb .add h (dm rfl)
 |app a b bZ dE=>
  exact fun I es hN A W hF hb hG=>wO hw hC hQ hN (mk:=.app) bZ dE A.1 A.2 W.1 W.2 hF (ab _) hb rfl hG id NI (fun _ _=>VE) (fun _ _=>g1m) (fun _ _ _ _ h1 h2=>⟨h1,h2⟩) rfl
   fun a' b' _ _ ra rb es' w0 r h=>SZ (sh:=.ll (enc a) (enc b)) (sh':=.ll (enc a') (enc b')) trivial rfl ra rb .ll h (dm rfl)
 |gap2 a b bZ dE=>
  exact fun I es hN A W hF hb hG=>wO hw hC hQ hN (mk:=.gap2) bZ dE A.1 A.2 W.1 W.2 hF (aq _ _) hb rfl hG (fun h=>h.2) IP (fun _ _ h1 h2=>QH (ag (aG h1 h2) 1)) (fun _ _=>md)
   (fun _ _ h hl h1 h2=>⟨by obtain⟨z,hz⟩:=en.mp h.1;rw[hl z hz];rfl,h1,h2⟩) rfl
   fun a' b' _ _ ra rb es' w0 r h=>XX (sh:=.qO (bJ gS) (enc a) (enc b)) (sh':=.qO (bJ gS) (enc a') (enc b')) trivial rfl (uP hw (ab 1)) ra rb .qO h (Ma (by decide) (nX a))
 |eg a bZ=>
  exact fun I es hN A W hF hb hG=>DA hw hC hQ hN (mk:=.eg) bZ A W hF (aq _ _) hb rfl hG id IQ (fun _ h1=>QH (ag h1 1)) (fun _=>id) (fun _ _=>id) rfl
   fun a' _ ra es' w0 r h=>SZ (sh:=.ll (bJ gS) (enc a)) (sh':=.ll (bJ gS) (enc a')) trivial rfl (uP hw (ab 1)) ra .ll h (JN (by decide) (nX a))
 |cC a bZ=>
  exact fun I es hN A W hF hb hG=>DA hw hC hQ hN (mk:=.cC) bZ A W hF (ab _) hb rfl hG id S6 (fun _=>QH) (fun _=>id) (fun _ _=>id) rfl
   fun a' _ ra es' w0 r h=>mr1 (sh:=.qD (enc a)) (sh':=.qD (enc a')) trivial rfl ra .qD h (bu (aW _ _))
 |lam x b dE=>
  exact fun I es hN A W hF hb hG=>DA hw hC hQ hN (mk:=.lam x) dE A.2 W.1 hF (ab _) hb rfl hG id (NG A W) (fun _=>QH) (fun _=>id) (fun _ _=>id) rfl
   fun b' _ rb es' w0 r h=>mr1 (sh:=.lam (aX x) (enc b)) (sh':=.lam (aX x) (enc b')) trivial rfl rb .lam h (bu (aW _ _))
 |let1 x a b bZ dE=>
  exact fun I es hN A W hF hb hG=>wO hw hC hQ hN (mk:=.let1 x) bZ dE A.2.1 A.2.2 W.1 W.2.1 hF X3 hb rfl hG id (IM A W) (fun _ _=>Yg) (fun _ _=>g1m) (fun _ _ _ _ h1 h2=>⟨h1,h2⟩) rfl
   fun a' b' _ _ ra rb es' w0 r h=>SZ (sh:=.let1 (aX x) (enc a) (enc b) false) (sh':=.let1 (aX x) (enc a') (enc b') false) trivial rfl ra rb .let1 h (dm rfl)
 |dQ x a b bZ dE=>
  exact fun I es hN A W hF hb hG=>wO hw hC hQ hN (mk:=.dQ x) bZ dE A.2.1 A.2.2 W.1 W.2.2.1 hF (ab _) hb rfl hG id (IJ A W) (fun _ _=>VE) (fun _ _ h1 h2=>ag (md h1 h2) 1) (fun _ _ _ _ h1 h2=>⟨h1,h2⟩) rfl
   fun a' b' _ _ ra rb es' w0 r h=>SZ (sh:=.let1 (aX x) (enc a) (enc b) true) (sh':=.let1 (aX x) (enc a') (enc b') true) trivial rfl ra rb .let1 h (dm rfl)
 |bW x a y c b bZ yg dE=>
  exact fun I es hN A W hF hb hG=>Dz hw hC hQ hN (mk:=fun a c b=>.bW x a y c b) bZ yg dE A.2.2.1 A.2.2.2.1 A.2.2.2.2 W.2.1 W.2.2.1 W.2.2.2.1 hF X2 hb rfl hG id (IL A W) (fun _ _ _ h1 h2 h3=>aG (Yg h1 h3) h2) (fun _ _ _ h1 h2 h3=>aG (ag h3 1) (md h1 h2)) (fun _ _ _ h1 h2 h3=>⟨h1,h2,h3⟩) rfl
   fun a' c' b' _ _ _ ra rc rb es' w0 r h=>XX (sh:=.bW (aX x) (enc a) (aX y) (enc c) (enc b)) (sh':=.bW (aX x) (enc a') (aX y) (enc c') (enc b')) trivial rfl ra rc rb .bW h (dm rfl)
 |dR x n v z b dE=>
  exact fun I es hN A W hF hb hG=>DA hw hC hQ hN (mk:=.dR x n v z) dE A.2.2.2 W.2.1 hF (aq _ _) hb rfl hG id (IK A W) (fun _ h1=>QH (ag h1 5)) (fun _ h1=>ag h1 1) (fun _ _=>id) rfl
   fun b' _ rb es' w0 r h=>SZ (sh:=.let1 (aX x) (ji x n v z) (enc b) true) (sh':=.let1 (aX x) (ji x n v z) (enc b') true) trivial rfl (NB hw) rb .let1 h h18
 |bG s x z a o gj bZ gn=>
  exact fun I es hN A W hF hb hG=>Dz hw hC hQ hN (mk:=fun s a o=>.bG s x z a o) gj bZ gn A.1 A.2.2.1 A.2.2.2 W.1 W.2.1.1 W.2.2.1 hF (ab _) hb rfl hG id (Fg A W) (fun _ _ _ h1 h2 h3=>VE h1 (aG h2 h3)) (fun _ _ _ h1 h2 h3=>md h1 (md h2 h3)) (fun _ _ _ h1 h2 h3=>⟨h1,h2,h3⟩) rfl
   fun s' a' o' _ _ _ rs ra ro es' w0 r h=>XX (sh:=.bG (enc s) (aX x) z (enc a) (enc o)) (sh':=.bG (enc s') (aX x) z (enc a') (enc o')) (d8 o) rfl rs ra ro .bG h (dm rfl)
 |cE s x o gj gn=>
  exact fun I es hN A W hF hb hG=>wO hw hC hQ hN (mk:=fun s o=>.cE s x o) gj gn A.1 A.2.2 W.1 W.2.1 hF (ab _) hb rfl hG id (Fh A W) (fun _ _=>VE) (fun _ _=>md) (fun _ _ _ _ h1 h2=>⟨h1,h2⟩) rfl
   fun s' o' _ _ rs ro es' w0 r h=>SZ (sh:=.jk (enc s) (aX x) (enc o)) (sh':=.jk (enc s') (aX x) (enc o')) (d8 o) rfl rs ro .jk h (dm rfl)
 |bK s x y a o gj bZ gn=>
  exact fun I es hN A W hF hb hG=>Dz hw hC hQ hN (mk:=fun s a o=>.bK s x y a o) gj bZ gn A.1 A.2.2.2.1 A.2.2.2.2 W.1 W.2.1.1 W.2.2.1 hF (ab _) hb rfl hG id (Fi A W) (fun _ _ _ h1 h2 h3=>VE h1 (aG h2 h3)) (fun _ _ _ h1 h2 h3=>md h1 (md h2 h3)) (fun _ _ _ h1 h2 h3=>⟨h1,h2,h3⟩) rfl
   fun s' a' o' _ _ _ rs ra ro es' w0 r h=>XX (sh:=.bK (enc s) (aX x) (aX y) (enc a) (enc o)) (sh':=.bK (enc s') (aX x) (aX y) (enc a') (enc o')) trivial rfl rs ra ro .bK h (dm rfl)
 |bD s x y a o gj bZ gn=>
  exact fun I es hN A W hF hb hG=>Dz hw hC hQ hN (mk:=fun s a o=>.bD s x y a o) gj bZ gn A.1 A.2.2.2.1 A.2.2.2.2 W.1 W.2.1.1 W.2.2.1 hF (ab _) hb rfl hG id (Fj A W) (fun _ _ _ h1 h2 h3=>VE h1 (aG h2 h3)) (fun _ _ _ h1 h2 h3=>md h1 (md h2 h3)) (fun _ _ _ h1 h2 h3=>⟨h1,h2,h3⟩) rfl
   fun s' a' o' _ _ _ rs ra ro es' w0 r h=>XX (sh:=.bD (enc s) (aX x) (aX y) (enc a) (enc o)) (sh':=.bD (enc s') (aX x) (aX y) (enc a') (enc o')) (d8 o) rfl rs ra ro .bD h (dm rfl)
section
variable{u v w x y z m n P:Nat}
theorem pw(h:u<=2^m*x)(hm:m<=n):u<=2^n*x:=aa h (kg _ (Eo (by decide) hm))
theorem L8(h:u<=P*x):u<=P*(0+x):=by rw[bM];exact h
theorem p1:x<=2^n*x:=eR _ Nat.one_le_two_pow
theorem pd(h:v<=2^n*y):2*v<=2^(1+n)*y:=by rw[Nat.pow_add,Nat.pow_one,Nat.mul_assoc];exact aK 2 h
theorem pwl(h1:u<=2^n*x)(h2:v<=2^n*y):2*v+u<=2^(1+n)*(0+(x+y)):=by rw[aW];exact L8 (pa (pw h1 (aq _ _)) (pd h2))
theorem aaK(h1:u<=2^n*x)(h2:v<=2^n*y)(h3:w<=2^n*z):2*v+u+w<=2^(1+n)*(0+(x+(z+y))):=by
 have h:=L8 (pa (pw h1 (aq n 1)) (pa (pw h3 (aq n 1)) (pd h2)))
 rwa [show u+(w+2*v)=2*v+u+w by lia]at h
theorem Ym:x<=max x (max y z):=aC _ _
theorem Yl:y<=max x (max y z):=aa (aC _ _) (az _ _)
theorem Yk:z<=max x (max y z):=aa (az _ _) (az _ _)
end
theorem ZF(t:T k):FF t<=2^ld t*kG t:=by
 induction t with
 |var k x|err k|lit z|cD=>exact ab 1
 |add a b bZ dE|app a b bZ dE=>exact L8 (pa (pw bZ (aC _ _)) (pw dE (az _ _)))
 |gap2 a b bZ dE=>exact L8 (pa p1 (pa (pw bZ (aC _ _)) (pw dE (az _ _))))
 |eg a bZ=>exact L8 (pa p1 bZ)
 |lam x b ih|cC b ih=>exact L8 ih
 |let1 x a b bZ dE=>exact pwl (pw bZ (aC _ _)) (pw dE (az _ _))
 |dQ x a b bZ dE=>exact L8 (pa (pw bZ (aa (aC _ _) (aq _ 1))) (pw dE (aa (az _ _) (aq _ 1))))
 |bW x a y c b bZ yg dE=>exact aaK (pw bZ Ym) (pw dE Yk) (pw yg Yl)
 |dR x n v z b dE=>exact L8 (pa (p1 (x:=5)) (pw dE (aq _ 1)))
 |bG s x z a o gj bZ gn|bK s x y a o gj bZ gn|bD s x y a o gj bZ gn=>exact L8 (pa (pw gj Ym) (pa (pw bZ Yl) (pw gn Yk)))
 |cE s x o gj gn=>exact L8 (pa (pw gj (aC _ _)) (pw gn (az _ _)))
section
variable{u v w x y z p q:Nat}
theorem k1(h:u<=x):1+u<=1+x:=ag h 1
theorem k2(h:u<=x)(g:v<=y):1+(u+v)<=1+(x+y):=k1 (aG h g)
end
theorem SI(t:T k):NN t<=mh t:=by
 induction t with
 |var k x|err k|lit z|cD=>exact ab 1
 |add a b bZ dE|app a b bZ dE|let1 x a b bZ dE|dQ x a b bZ dE|cE x y b bZ dE=>exact k2 bZ dE
 |gap2 a b bZ dE=>exact k1 (aa (aG bZ dE) (aq _ 1))
 |eg a bZ=>exact k1 (aa bZ (aq _ 1))
 |lam x b ih|cC b ih=>exact k1 ih
 |bW x a y c b bZ yg dE=>exact k1 (aG bZ (aG yg dE))
 |dR x n v z b dE=>exact k1 (aa dE (aq _ _))
 |bG s x z a o gj bZ gn|bK s x y a o gj bZ gn|bD s x y a o gj bZ gn=>exact k1 (aG gj (aG bZ gn))
end
inductive Dp:Nat->{k:K}->T k->Prop
 |var{n:Nat}(k:K)(x:Nm):Dp n (.var k x)
 |err{n:Nat}(k:K):Dp n (.err k)
 |lit{n z:Nat}(h:z<=2):Dp n (.lit z)
 |Fv{n:Nat}(x:Nm):Dp n (.lam x (.var .i x))
 |Fw{n z:Nat}(x:Nm)(h:z<=2):Dp n (.lam x (.lit z))
 |Cb{n z:Nat}(x:Nm)(h:z<=2):Dp n (.lam x (.gap2 (.lit z) (.var .i x)))
 |cD{n:Nat}:Dp n .cD
 |cL{n z:Nat}(h:z<=2):Dp n (.cC (.lit z))
 |add{n:Nat}{a b:T .i}(ha:Dp n a)(hb:Dp n b):Dp (n+1) (.add a b)
 |app{n:Nat}{f:T .f}{a:T .i}(hf:Dp n f)(ha:Dp n a):Dp (n+1) (.app f a)
 |lam{n:Nat}{x:Nm}{b:T .i}(hb:Dp n b):Dp (n+1) (.lam x b)
 |cC{n:Nat}{a:T .i}(ha:Dp n a):Dp (n+1) (.cC a)
 |let1{n:Nat}{k j:K}{x:Nm}{a:T k}{b:T j}(ha:Dp n a)(hb:Dp n b):Dp (n+1) (.let1 x a b)
 |bW{n:Nat}{k j:K}{x y:Nm}{a:T k}{c:T .i}{b:T j}(ha:Dp n a)(hc:Dp n c)(hb:Dp n b):Dp (n+1) (.bW x a y c b)
 |dQ{n:Nat}{j:K}{x:Nm}{a:T .f}{b:T j}(ha:Dp n a)(hb:Dp n b):Dp (n+1) (.dQ x a b)
 |dR{n z:Nat}{j:K}{x m v:Nm}{b:T j}(h:z<=2)(hb:Dp n b):Dp (n+1) (.dR x m v z b)
 |bG{n:Nat}{j:K}{s:T .i}{x:Nm}{z:Int}{a o:T j}(hs:Dp n s)(ha:Dp n a)(ho:Dp n o):Dp (n+1) (.bG s x z a o)
 |cE{n:Nat}{j:K}{s:T .f}{x:Nm}{o:T j}(hs:Dp n s)(ho:Dp n o):Dp (n+1) (.cE s x o)
 |bK{n:Nat}{j:K}{s:T .c}{x y:Nm}{a o:T j}(hs:Dp n s)(ha:Dp n a)(ho:Dp n o):Dp (n+1) (.bK s x y a o)
 |bD{n:Nat}{j:K}{s:T .c}{x y:Nm}{a o:T j}(hs:Dp n s)(ha:Dp n a)(ho:Dp n o):Dp (n+1) (.bD s x y a o)
noncomputable def FB:Nat->Nat
 |0=>3
 |n+1=>4*FB n
noncomputable def GB:Nat->Nat
 |0=>0
 |n+1=>1+2*GB n
theorem CB:∀n,3<=FB n:=by
 intro n
 induction n with
 |zero=>
  exact ab _
 |succ n cz=>
  exact aa (cz) (eR _ (by decide))
section
variable{a b c F G x y z:Nat}
theorem f2(h1:a<=F)(h2:b<=F):a+b<=4*F:=by lia
theorem f3(h1:a<=F)(h2:b<=F)(h3:c<=F):a+(b+c)<=4*F:=by lia
theorem f1(h:a<=F):a<=4*F:=by lia
theorem f2l(h1:a<=F)(h2:b<=F):2*b+a<=4*F:=by lia
theorem f3l(h1:a<=F)(h2:b<=F)(h3:c<=F):2*b+a+c<=4*F:=by lia
theorem f5(h0:3<=F)(h1:a<=F):5+a<=4*F:=by lia
theorem g1(h:a<=G):a<=1+2*G:=by lia
theorem gs(h1:a<=G)(h2:b<=G):max a b<=1+2*G:=bV.mpr ⟨g1 h1,g1 h2⟩
theorem gl(h1:a<=G)(h2:b<=G):max (1+max a b) (a+b)<=1+2*G:=bV.mpr ⟨aa (ag (bV.mpr ⟨h1,h2⟩) 1) (ag (eR _ (by decide)) 1),by lia⟩
theorem gl3(h1:a<=G)(h2:b<=G)(h3:c<=G):1+b+max a c<=1+2*G:=by
 rw[Nat.two_mul,<-bh];exact aG (ag h2 1) (bV.mpr ⟨h1,h3⟩)
theorem gk(h:a<=G):1+a<=1+2*G:=by lia
end
theorem Qw(h:Dp n t):FF t<=FB n:=by
 induction h
 case var|err|lit|Fv|Fw|cD|cL=>exact aa (by decide:1<=3) (CB _)
 case Cb=>exact aa (by decide:3<=3) (CB _)
 case dR ih=>exact f5 (CB _) ih
 case add h1 h2|app h1 h2|dQ h1 h2|cE h1 h2=>exact f2 h1 h2
 case lam h|cC h=>exact f1 h
 case let1 h1 h2=>exact f2l h1 h2
 case bW h1 h2 h3=>exact f3l h1 h3 h2
 case bG h1 h2 h3|bK h1 h2 h3|bD h1 h2 h3=>exact f3 h1 h2 h3
theorem ZR(h:Dp n t):GG t<=GB n:=by
 induction h
 case var|err|lit|Fv|Fw|Cb|cD|cL=>exact bC _
 case dR ih=>exact gk ih
 case add h1 h2|cE h1 h2=>exact gs h1 h2
 case app h1 h2|let1 h1 h2=>exact gl h1 h2
 case dQ h1 h2=>exact gk (bV.mpr ⟨h1,h2⟩)
 case lam h|cC h=>exact g1 h
 case bW h1 h2 h3=>exact gl3 h1 h3 h2
 case bG h1 h2 h3|bK h1 h2 h3|bD h1 h2 h3=>exact bV.mpr ⟨g1 h1,gs h2 h3⟩
theorem ZP(h:Dp n t):LG t:=by
 induction h
 case Cb=>exact⟨rfl,trivial,trivial⟩
 case add _ _ h1 h2=>exact⟨h1,h2⟩
 case app _ _ h1 h2=>exact⟨h1,h2⟩
 case lam _ h=>exact h
 case cC _ h=>exact h
 case let1 _ _ h1 h2=>exact⟨h1,h2⟩
 case bW _ _ _ h1 h2 h3=>exact⟨h1,h2,h3⟩
 case dQ _ _ h1 h2=>exact⟨h1,h2⟩
 case dR _ _ h=>exact h
 case bG _ _ _ h1 h2 h3=>exact⟨h1,h2,h3⟩
 case cE _ _ h1 h2=>exact⟨h1,h2⟩
 case bK _ _ _ h1 h2 h3=>exact⟨h1,h2,h3⟩
 case bD _ _ _ h1 h2 h3=>exact⟨h1,h2,h3⟩
 all_goals trivial
structure AE where
 V:Nat
 D:Nat
 h:Nat->Nat
 k:Nat->Nat->Nat
noncomputable def oY(a b:Nat):Nat:=a+(b-a)
theorem IE(a b:Nat):oY a b=max a b:=by unfold oY;rw[aW,Nat.sub_add_eq_max,sQ]
theorem mL(h:x<=a):x<=oY a b:=aa h (ak _ _)
theorem mR(h:x<=b):x<=oY a b:=aa h (by rw[IE];exact az _ _)
noncomputable abbrev rf{x:Nat}:x<=x:=ab x
noncomputable def AE.j(a b:AE):AE:=⟨oY a.V b.V,oY a.D b.D,fun v=>oY (a.h v) (b.h v),fun v d=>oY (a.k v d) (b.k v d)⟩
structure AE.le(a b:AE):Prop where
 V:a.V<=b.V
 D:a.D<=b.D
 h:∀v,a.h v<=b.h v
 k:∀v d,a.k v d<=b.k v d
theorem AE.jl(a b:AE):a.le (a.j b):=⟨mL rf,mL rf,fun _=>mL rf,fun _ _=>mL rf⟩
theorem AE.jr(a b:AE):b.le (a.j b):=⟨mR rf,mR rf,fun _=>mR rf,fun _ _=>mR rf⟩
theorem AE.le.trans{a b c:AE}(h:a.le b)(g:b.le c):a.le c:=⟨aa h.V g.V,aa h.D g.D,fun v=>aa (h.h v) (g.h v),fun v d=>aa (h.k v d) (g.k v d)⟩
noncomputable def Jo:Nat->Nat->Nat
 |0,d=>d+4
 |v+1,d=>2+oY (oY (d+2) 7) (4+Jo v (d+3))
noncomputable def Z1:Nat->Nat:=fun _=>0
noncomputable def Z2:Nat->Nat->Nat:=fun _ _=>0
noncomputable def r8:AE:=⟨2,4,fun v=>v+2,fun _ d=>d+9⟩
noncomputable def RN:Nat->AE->AE
 |0,e=>e.j r8
 |n+1,e=>
  let r:=RN n e
  let b:=RN n (e.j ⟨r.V,oY 3 (r.D+2),r.h,r.k⟩)
  let b3:=RN n (e.j ⟨0,6,fun _=>2,Jo⟩)
  (e.j r8).j ⟨oY (oY (oY b.V b3.V) r.V) (oY (r.h r.V) (2*r.V)),oY (oY (2+oY r.D b.D) (1+b3.D)) (oY (1+r.D) (4+r.k r.V r.D)),
    fun v=>oY (oY (b.h v) (b3.h v)) (RN n (e.j ⟨v,0,Z1,Z2⟩)).V,fun v d=>oY (oY (b.k v d) (b3.k v d)) (RN n (e.j ⟨v,d+2,Z1,Z2⟩)).D⟩
theorem H8:(RN 3 ⟨0,0,Z1,Z2⟩).D<=600:=by decide+kernel
noncomputable def GI(V D:Nat)(x:Di):Prop:=x.d<=D/\∀z,x.v=some z->0<=z/\z<=V
noncomputable def GF(A:AE)(f:Df):Prop:=f.d<=A.D/\∀I,f.v=some I->∀v d a,GI v d a->GI (A.h v) (A.k v d) (I a)
noncomputable def GC(A:AE)(x:Dc):Prop:=x.d<=A.D/\∀t,x.v=some (some t)->GI A.V A.D t
noncomputable def GK(A:AE):(k:K)->Dn k->Prop
 |.i=>GI A.V A.D
 |.f=>GF A
 |.c=>GC A
noncomputable def GE(A:AE)(C:Env):Prop:=∀x k,GK A k (C x k)
theorem ig(h:GI V D x)(hV:V<=V')(hD:D<=D'):GI V' D' x:=⟨aa h.1 hD,fun z e=>⟨(h.2 z e).1,fy (h.2 z e).2 (bQ.mpr hV)⟩⟩
theorem lE(hl:A.le B):∀{k:K}{x:Dn k},GK A k x->GK B k x
 |.i,_,h=>ig h hl.V hl.D
 |.f,_,h=>⟨aa h.1 hl.D,fun I e v d a ha=>ig (h.2 I e v d a ha) (hl.h v) (hl.k v d)⟩
 |.c,_,h=>⟨aa h.1 hl.D,fun t e=>ig (h.2 t e) hl.V hl.D⟩
theorem DW:∀k,GK A k (Jr k)
 |.i=>⟨bC _,fun _ h=>by cases h⟩
 |.f=>⟨bC _,fun _ h=>by cases h⟩
 |.c=>⟨bC _,fun _ h=>by cases h⟩
theorem u0(h:GE A C)(hd:GK A k d):GE A (upd C x k d):=by
 intro y k'
 unfold upd
 split
 ·split
  ·rename_i e;subst e;exact hd
  ·exact DW k'
 ·exact h y k'
theorem yk(hl:A.le B)(h:GE A C):GE B C:=fun x k=>lE hl (h x k)
noncomputable abbrev bound(r:AE):AE:=⟨r.V,oY 3 (r.D+2),r.h,r.k⟩
theorem bd2(h:a<=r.D):a+2<=(bound r).D:=mR (aE h 2)
theorem bd3:3<=(bound r).D:=mL rf
theorem bdD:r.D<=(bound r).D:=mR (ak _ 2)
theorem qw:∀{k:K}{x:Dn k},GK r k x->GK (bound r) k (tick x)
 |.i,_,h=>⟨bd2 h.1,h.2⟩
 |.f,_,h=>⟨bd2 h.1,h.2⟩
 |.c,_,h=>⟨bd2 h.1,fun t e=>ig (h.2 t e) rf bdD⟩
theorem uY:∀{k:K}{x:Dn k},GK r k x->GK (bound r) k (known x)
 |.i,_,h=>⟨bd3,h.2⟩
 |.f,_,h=>⟨bd3,h.2⟩
 |.c,_,h=>⟨bd3,fun t e=>ig (h.2 t e) rf bdD⟩
theorem Qk(hV:A.V<=B.V)(hD:A.D+m<=B.D)(hh:∀v,A.h v<=B.h v)(hk:∀v d,A.k v d<=B.k v d):∀{k:K}{x:Dn k}{n:Nat},GK A k x->GK B k (kL n m x):=by
 have hd:∀{a},a<=A.D->m+a<=B.D:=fun h=>by rw[aW];exact aa (aE h m) hD
 intro k x n h
 induction k with
 |i=>exact⟨hd h.1,fun z e=>⟨(h.2 z e).1,fy (h.2 z e).2 (bQ.mpr hV)⟩⟩
 |f=>exact⟨hd h.1,fun I e v d a ha=>ig (h.2 I e v d a ha) (hh v) (hk v d)⟩
 |c=>exact⟨hd h.1,fun t e=>ig (h.2 t e) hV (aa (ak _ m) hD)⟩
theorem Om{A B:AE}{s:R α}(hs:s.d<=A.D)(hD:2+max A.D B.D<=B'.D)(hle:∀v,B.h v<=B'.h v)(hk:∀v d,B.k v d<=B'.k v d)(hV:B.V<=B'.V):∀{j:K}{g:α->Dn j},(∀x,s.v=some x->GK B j (g x))->GK B' j (kY s g):=by
 intro j g hg
 obtain⟨sc,sd,sv⟩:=s
 have hm:∀{a},a<=B.D->2+max sd a<=B'.D:=fun h=>aa (ag (md hs h) 2) hD
 induction sv with
 |none=>induction j<;>exact⟨(aa (ag (aa hs (aC _ _)) 2) hD:2+sd<=B'.D),fun _ h=>by cases h⟩
 |some x=>
  have h:=hg x rfl
  cases j
  ·exact⟨hm h.1,fun z e=>⟨(h.2 z e).1,fy (h.2 z e).2 (bQ.mpr hV)⟩⟩
  ·exact⟨hm h.1,fun I e v d a ha=>ig (h.2 I e v d a ha) (hle v) (hk v d)⟩
  ·exact⟨hm h.1,fun t e=>ig (h.2 t e) hV (aa (aa (az _ _) (aq _ 2)) hD)⟩
theorem P5:∀v d,d+4<=Jo v d:=by
 intro v
 induction v with
 |zero=>
  intro d
  exact ab _
 |succ v cz=>
  intro d
  show d+4<=2+_;rw[aW 2];exact aE (mL (mL rf):d+2<=_) 2
section
variable{a d:Nat}
theorem t1(h:a<=d):2+(a+2)<=d+4:=by lia
theorem t2(h:a<=d):2+max (a+2) 1<=d+4:=by rw[n9 (aq 1 (a+1))];exact t1 h
theorem t3(h:a<=d):1+max (a+2) 1<=d+3:=by rw[n9 (aq 1 (a+1))];lia
end
theorem t4(h1:0<=m)(h2:m<=((v+1:Nat):Int))(h3:m.toNat+1<=N+1)(h0:¬m=0):0<=m-1/\m-1<=(v:Int)/\(m-1).toNat+1<=N/\1<=N:=by
 obtain⟨k,rfl⟩:=A9 h1
 induction k with
 |zero=>exact absurd rfl h0
 |succ k=>
  exact(show((k+1:Nat):Int)-1=k from qY (k:Int) 1).symm▸⟨bk k,bQ.mpr (aR (bQ.mp h2)),(aR h3:k+1<=N),aa (aq 1 k) (aR h3:k+1<=N)⟩
theorem Zm{z:Nat}(hz:z<=2):∀(v d N:Nat)(a:Di),GI v d a->(∀m,a.v=some m->m.toNat+1<=N)->1<=N->GI 2 (Jo v d) (dn (wt 4) z N a):=by
 intro v
 induction v with
 |zero=>
  intro d N a ha hN hN1
  obtain⟨N,rfl⟩:∃n,N=n+1:=⟨N-1,(bL hN1).symm⟩
  obtain⟨ac,ad,av⟩:=a
  show GI 2 (d+4) (gW (wt 4) z _ _)
  unfold gW
  induction av with
  |none=>exact⟨t1 ha.1,fun _ h=>by cases h⟩
  |some m=>
   have YY:m=0:=Int.le_antisymm (ha.2 m rfl).2 (ha.2 m rfl).1
   simp only[if_pos YY]
   exact⟨t2 ha.1,fun q e=>by cases e;exact(by lia:(0:Int)<=z/\(z:Int)<=(2:Nat))⟩
 |succ v ih=>
  intro d N a ha hN hN1
  obtain⟨N,rfl⟩:∃n,N=n+1:=⟨N-1,(bL hN1).symm⟩
  obtain⟨ac,ad,av⟩:=a
  show GI 2 _ (gW (wt 4) z _ _)
  unfold gW
  induction av with
  |none=>exact⟨aa (t1 ha.1) (P5 (v+1) d),fun _ h=>by cases h⟩
  |some m=>
   have hm:=ha.2 m rfl
   have hn:=hN m rfl
   have h1:ad<=d:=ha.1
   clear ha hN
   by_cases YY:m=0
   ·simp only[if_pos YY]
    exact⟨aa (t2 h1) (P5 (v+1) d),fun q e=>by cases e;exact(by lia:(0:Int)<=z/\(z:Int)<=(2:Nat))⟩
   ·simp only[if_neg YY]
    have Ma:=t4 hm.1 hm.2 hn YY
    have hq:=ih (d+3) N ⟨1+(ac+1)+1,1+max (ad+2) 1,some (m-1)⟩ ⟨t3 h1,fun q e=>by cases e;exact⟨Ma.1,Ma.2.1⟩⟩ (fun q e=>by cases e;exact Ma.2.2.1) Ma.2.2.2
    exact⟨ag (bV.mpr ⟨mL (mL (aE h1 2)),bV.mpr ⟨mL (mR rf),mR (ag hq.1 4)⟩⟩) 2,hq.2⟩
section
variable{A:AE}{C:Env}{n:Nat}
noncomputable abbrev rB(n:Nat)(A:AE):AE:=RN n (A.j (bound (RN n A)))
theorem ES:(rB n A).V<=(RN (n+1) A).V/\(RN n A).V<=(RN (n+1) A).V/\(RN n A).h (RN n A).V<=(RN (n+1) A).V/\2*(RN n A).V<=(RN (n+1) A).V/\(RN n (A.j ⟨0,6,fun _=>2,Jo⟩)).V<=(RN (n+1) A).V:=⟨mR (mL (mL (mL rf))),mR (mL (mR rf)),mR (mR (mL rf)),mR (mR (mR rf)),mR (mL (mL (mR rf)))⟩
theorem zl:2+max (RN n A).D (rB n A).D<=(RN (n+1) A).D/\1+(RN n (A.j ⟨0,6,fun _=>2,Jo⟩)).D<=(RN (n+1) A).D/\1+(RN n A).D<=(RN (n+1) A).D/\4+(RN n A).k (RN n A).V (RN n A).D<=(RN (n+1) A).D/\4<=(RN (n+1) A).D:=⟨by rw[<-IE];exact mR (mL (mL rf)),mR (mL (mR rf)),mR (mR (mL rf)),mR (mR (mR rf)),mL (mR rf)⟩
theorem Na(v:Nat):(rB n A).h v<=(RN (n+1) A).h v/\(RN n (A.j ⟨0,6,fun _=>2,Jo⟩)).h v<=(RN (n+1) A).h v/\(RN n (A.j ⟨v,0,Z1,Z2⟩)).V<=(RN (n+1) A).h v:=⟨mR (mL (mL rf)),mR (mL (mR rf)),mR (mR rf)⟩
theorem M9(v d:Nat):(rB n A).k v d<=(RN (n+1) A).k v d/\(RN n (A.j ⟨0,6,fun _=>2,Jo⟩)).k v d<=(RN (n+1) A).k v d/\(RN n (A.j ⟨v,d+2,Z1,Z2⟩)).D<=(RN (n+1) A).k v d:=⟨mR (mL (mL rf)),mR (mL (mR rf)),mR (mR rf)⟩
theorem tF:r8.le (RN n A):=by
 induction n with
 |zero=>exact AE.jr _ _
 |succ n=>exact(AE.jr A r8).trans (AE.jl _ _)
theorem Sf:A.le (RN n A):=by
 induction n with
 |zero=>exact AE.jl _ _
 |succ n=>exact(AE.jl A r8).trans (AE.jl _ _)
theorem Cu(h:GK (rB n A) j d):GK (RN (n+1) A) j (kL 1 1 d):=
 Qk ES.1 (by have:=(zl (A:=A) (n:=n)).1;lia) (fun v=>(Na v).1) (fun v d=>(M9 v d).1) h
theorem JV{s:R α}{g:α->Dn j}(hs:s.d<=(RN n A).D)(hg:∀x,s.v=some x->GK (rB n A) j (g x)):GK (RN (n+1) A) j (kY s g):=
 Om hs zl.1 (fun v=>(Na v).1) (fun v d=>(M9 v d).1) ES.1 hg
theorem F7(hE:GE A C)(hd:GK (bound (RN n A)) k d):GE (A.j (bound (RN n A))) (upd C x k d):=u0 (yk (AE.jl _ _) hE) (lE (AE.jr _ _) hd)
theorem Xz:∀(n:Nat)(e e':AE),e.V=e'.V->e.h=e'.h->(RN n e).V=(RN n e').V/\(RN n e).h=(RN n e').h:=by
 intro n
 induction n with
 |zero=>intro e e' h1 h2;simp only[RN,AE.j,h1,h2];exact⟨trivial,trivial⟩
 |succ n ih=>
  intro e e' h1 h2
  obtain⟨r1,r2⟩:=ih e e' h1 h2
  obtain⟨b1,b2⟩:=ih (e.j (bound (RN n e))) (e'.j (bound (RN n e'))) (by simp only[AE.j,bound,h1,r1]) (by simp only[AE.j,bound,h2,r2])
  obtain⟨c1,c2⟩:=ih (e.j ⟨0,6,fun _=>2,Jo⟩) (e'.j ⟨0,6,fun _=>2,Jo⟩) (by simp only[AE.j,h1]) (by simp only[AE.j,h2])
  have f:=fun v=>(ih (e.j ⟨v,0,Z1,Z2⟩) (e'.j ⟨v,0,Z1,Z2⟩) (by simp only[AE.j,h1]) (by simp only[AE.j,h2])).1
  constructor
  ·show oY (oY e.V r8.V) _=oY (oY e'.V r8.V) _
   simp only[bound]at b1
   refine b1.symm▸c1.symm▸?_
   simp only[h1,r1,r2]
  ·funext v
   show oY (oY (e.h v) _) _=oY (oY (e'.h v) _) _
   simp only[bound]at b2
   refine b2▸c2▸?_
   simp only[h2,f]
theorem On{V D c d:Nat}{z:Int}(h:d<=D)(h0:0<=z)(h1:z<=V):GI V D ⟨c,d,some z⟩:=⟨h,fun q e=>by obtain rfl:=ar e;exact⟨h0,h1⟩⟩
theorem aac{q:Int}(h:(a.bind fun x=>b.map fun y=>x+y)=some q):∃x y,a=some x/\b=some y/\q=x+y:=by
 induction a with
 |none=>exact(ay _ h.symm).elim
 |some x=>induction b with
  |none=>exact(ay _ h.symm).elim
  |some y=>exact⟨x,y,rfl,rfl,(ar h).symm⟩
theorem JZ{X Y:Di}(h1:GI V D X)(h2:GI W D Y)(hD:1+D<=D')(hV:V+W<=V'):GI V' D' (oR X Y):=by
 refine⟨aa (ag (bV.mpr ⟨h1.1,h2.1⟩) 1) hD,fun q e=>?_⟩
 obtain⟨x,y,ex,ey,rfl⟩:=aac e
 exact⟨xC (h1.2 x ex).1 (h2.2 y ey).1,fy (Int.add_le_add (h1.2 x ex).2 (h2.2 y ey).2) (by rw[<-gx];exact bQ.mpr hV)⟩
theorem Uk{X:Df}(h1:GF B X)(h2:GI V D Y)(hD:1+B.D<=D')(hk:4+B.k V D<=D')(hV:B.h V<=V'):GI V' D' (jC (wt 4) X Y):=by
 induction e:X.v with
 |none=>rw[CU e];exact⟨aa (ag h1.1 1) hD,fun q e=>(ay _ e.symm).elim⟩
 |some I=>
  have h3:=h1.2 I e _ _ Y h2
  rw[CT e]
  exact⟨bV.mpr ⟨aa (ag h1.1 1) hD,aa (ag h3.1 4) hk⟩,fun q e=>⟨(h3.2 q e).1,fy (h3.2 q e).2 (bQ.mpr hV)⟩⟩
theorem DX(h:GI v d a)(hD:d+2<=D):GI v D a.tick:=⟨aa (aE h.1 2) hD,h.2⟩
noncomputable abbrev DS(n:Nat){k:K}(t:T k):Prop:=∀{A:AE}{C:Env},GE A C->GK (RN n A) k (den (wt 4) t C)
theorem Fs:1<=(RN n A).D:=aa (ae rfl) (tF (n:=n) (A:=A)).D
theorem NP{z v:Nat}(h:z<=v):(z:Int)<=(v:Nat):=bQ.mpr h
theorem UH:DS n (.err k):=fun{A C} _=>by induction k<;>exact⟨Fs,fun _ h=>(ay _ h.symm).elim⟩
theorem yj(h:∀v d a,GI v d a->GI (v+2) (d+9) (den (wt 4) b (upd C x .i (R.tick (α:=Int) a)))):GK (RN n A) .f (den (wt 4) (.lam x b) C):=
 lE (k:=.f) tF (⟨ab 4,fun I e v d a ha=>by obtain rfl:=ar e;exact h v d a ha⟩:GF r8 _)
theorem ON:DS n (.lam x (.var .i x)):=fun{A C} _=>yj fun v d a ha=>by
 rw[show den (wt 4) (.var .i x) (upd C x .i (R.tick (α:=Int) a))=R.tick (α:=Int) a from iM]
 exact ig (DX ha (ab _)) (ak _ _) (ag (ae rfl) d)
theorem OO{z:Nat}(h:z<=2):DS n (.lam x (.lit z)):=fun{A C} _=>yj fun v d a ha=>On (aq 1 (d+8)) (bk z) (NP (aa h (aq _ _)))
theorem mx9:max 4 (4+(1+max 3 (d+2+2)))<=d+9:=by lia
theorem OP(h:z<=2):DS n (.lam x (.gap2 (.lit z) (.var .i x))):=fun{A C} _=>yj fun v d a ha=>by
 show GI (v+2) (d+9) (qx (wt 4) (⟨1,1,some (z:Int)⟩:Di) (den (wt 4) (.var .i x) (upd C x .i (R.tick (α:=Int) a))))
 rw[show den (wt 4) (.var .i x) (upd C x .i (R.tick (α:=Int) a))=R.tick (α:=Int) a from iM]
 have g:GI (z+v) (1+max 3 (d+2+2)) (jO ⟨1,1,some (z:Int)⟩ (R.tick (α:=Int) a)):=JZ (D:=max 3 (d+2+2)) (On (aC _ _) (bk z) (f6 _)) (DX (DX ha (ab _)) (az _ _)) (ab _) (ab _)
 exact⟨aa (bV.mpr ⟨aC _ _,aa (ag g.1 4) (az 4 _)⟩) mx9,fun q e=>⟨(g.2 q e).1,fy (g.2 q e).2 (NP (by rw[aW];exact ag h v))⟩⟩
theorem UG(ih:DS n b):DS (n+1) (.lam x b):=fun{A C} hE=>⟨(zl (A:=A) (n:=n)).2.2.2.2,fun I e v d a ha=>by
 obtain rfl:=ar e
 refine ig (ih (u0 (x:=x) (yk (AE.jl A ⟨v,d+2,Z1,Z2⟩) hE) (lE (k:=.i) (x:=(R.tick (α:=Int) a:Di)) (AE.jr _ _) (DX ha (ab _)))):GI _ _ _) ?_ (M9 v d).2.2
 rw[(Xz n (A.j ⟨v,d+2,Z1,Z2⟩) (A.j ⟨v,0,Z1,Z2⟩) rfl rfl).1]
 exact(Na (A:=A) (n:=n) v).2.2⟩
theorem ZN(ih:DS n a):DS (n+1) (.cC a):=fun{A C} hE=>⟨Fs,fun t e=>by
 obtain rfl:=ar (ar e)
 exact ig (ih hE:GI _ _ _) (ES (A:=A) (n:=n)).2.1 (aa (aq _ 1) (zl (A:=A) (n:=n)).2.2.1)⟩
theorem ZM{z:Nat}(h:z<=2):DS n (.cC (.lit z)):=fun{A C} _=>⟨Fs,fun t e=>by
 obtain rfl:=ar (ar e)
 exact On Fs (bk z) (NP (aa h (tF (n:=n) (A:=A)).V))⟩
theorem Zn{z:Nat}(h:z<=2):GF ⟨0,6,fun _=>2,Jo⟩ (R.tick (α:=Di->Di) ⟨(wt 4).lc,(wt 4).ld,some (down (wt 4) z)⟩):=
 ⟨ab 6,fun I e v d a ha=>by obtain rfl:=ar e;exact Zm h v d _ a ha (fun q e=>by exact e.symm▸ab _) (aq 1 _)⟩
theorem KB{k:K}{t:T k}(h:Dp n t):DS n t:=by
 induction h with
 |var k x=>exact fun hE=>lE Sf (hE x k)
 |err k=>exact UH
 | @lit n z h=>exact fun{A C} _=>On Fs (bk z) (NP (aa h (tF (n:=n) (A:=A)).V))
 |Fv x=>exact ON
 |Fw x h=>exact OO h
 |Cb x h=>exact OP h
 |cD=>exact fun{A C} _=>⟨Fs,fun t h=>(ay _ (ar h).symm).elim⟩
 |cL h=>exact ZM h
 | @add n a b ha hb bZ dE=>exact fun{A C} hE=>JZ (bZ hE:GI _ _ _) (dE hE:GI _ _ _) (zl (A:=A) (n:=n)).2.2.1 (by rw[<-Nat.two_mul];exact(ES (A:=A) (n:=n)).2.2.2.1)
 | @app n f a hf ha ihf bZ=>exact fun{A C} hE=>Uk (ihf hE:GF _ _) (bZ hE:GI _ _ _) (zl (A:=A) (n:=n)).2.2.1 (zl (A:=A) (n:=n)).2.2.2.1 (ES (A:=A) (n:=n)).2.2.1
 |lam hb ih=>exact UG ih
 |cC ha ih=>exact ZN ih
 |let1 ha hb bZ dE=>exact fun hE=>Cu (dE (F7 hE (qw (bZ hE))))
 |bW ha hc hb bZ yg dE=>exact fun hE=>Cu (dE (u0 (F7 hE (qw (bZ hE))) (lE (k:=.i) (AE.jr _ _) (qw (k:=.i) (yg hE)))))
 |dQ ha hb bZ dE=>exact fun hE=>Cu (dE (F7 hE (qw (k:=.f) (bZ hE))))
 | @dR n z j x m v b h hb dE=>exact fun{A C} hE=>Qk (ES (A:=A) (n:=n)).2.2.2.2 (by have:=(zl (A:=A) (n:=n)).2.1;lia) (fun v=>(Na v).2.1) (fun v d=>(M9 v d).2.1) (dE (u0 (yk (AE.jl _ _) hE) (lE (k:=.f) (AE.jr _ _) (Zn h))))
 | @bG n j s x z a o hs ha ho gj bZ gn=>
     intro A C hE
     refine JV (gj hE:GI _ _ _).1 fun m hm=>?_
     have Zj:=F7 (x:=x) hE (uY (k:=.i) (gj hE))
     show GK _ j (if m=z then _ else _)
     by_cases e:m=z
     ·rw[if_pos e];exact bZ Zj
     ·rw[if_neg e];exact gn Zj
 | @cE n j s x o hs ho gj gn=>exact fun{A C} hE=>JV (gj hE:GF _ _).1 fun m hm=>gn (F7 (x:=x) hE (uY (k:=.f) (gj hE)))
 | @bK n j s x y a o hs ha ho gj bZ gn| @bD n j s x y a o hs ha ho gj bZ gn=>
     intro A C hE
     refine JV (gj hE:GC _ _).1 fun m hm=>?_
     have Zj:=F7 (x:=x) hE (uY (k:=.c) (gj hE))
     induction m with
     |none=>exact gn Zj
     |some t=>exact bZ (u0 Zj (lE (k:=.i) (AE.jr _ _) (qw (k:=.i) ((gj hE:GC _ _).2 t hm))))
end
noncomputable def η0:Env:=fun _ k=>Jr k
theorem uC:iG 1 1 η0 η0:=fun _ k=>uA k
theorem Gj{t:T .i}(h:Dp 3 t):(den (wt 4) t η0:Di).d<=600:=by
 exact aa (KB h (A:=⟨0,0,Z1,Z2⟩) (C:=η0) (fun x k=>DW k):GI _ _ _).1 H8
theorem ZO:∀{n:Nat}{k:K}{t:T k},Dp n t->Dp (n+1) t:=by
 intro n k t h
 induction h with
 |var k x=>exact .var k x
 |err k=>exact .err k
 |lit h=>exact .lit h
 |Fv x=>exact .Fv x
 |Fw x h=>exact .Fw x h
 |Cb x h=>exact .Cb x h
 |cD=>exact .cD
 |cL h=>exact .cL h
 |add _ _ a b=>exact .add a b
 |app _ _ a b=>exact .app a b
 |lam _ a=>exact .lam a
 |cC _ a=>exact .cC a
 |let1 _ _ a b=>exact .let1 a b
 |bW _ _ _ a b c=>exact .bW a b c
 |dQ _ _ a b=>exact .dQ a b
 |dR h _ b=>exact .dR h b
 |bG _ _ _ a b c=>exact .bG a b c
 |cE _ _ a b=>exact .cE a b
 |bK _ _ _ a b c=>exact .bK a b c
 |bD _ _ _ a b c=>exact .bD a b c
theorem z1{a b:Nat}(h:a<=b):0+a<=b:=(bM a).symm▸h
theorem z2{a b c e:Nat}(h:a<=b)(g:c<=e):0+(a+c)<=b+e:=z1 (aG h g)
theorem z3{a b c e f g:Nat}(h:a<=b)(i:c<=e)(j:f<=g):0+(a+(c+f))<=b+(e+g):=z2 h (aG i j)
theorem z4{a b c e:Nat}(h:a<=b)(g:c<=e):0+(a+c)<=2*e+b:=by lia
theorem z5{a b c e f g:Nat}(h:a<=b)(i:c<=e)(j:f<=g):0+(a+(c+f))<=2*g+b+e:=by
 rw[bM];exact aa (aG h (aG i (aa j (eR g (sL 1))))) (bu (by rw[aW b,aW e,ew]))
theorem z6{a b:Nat}(h:a<=b):0+((0+(0+(1+(1+(0+(1+(0+(1+1))))))))+a)<=5+b:=by lia
theorem I5:∀{k:K}(t:T k),kG t<=FF t:=by
 intro k t
 induction t with
 |var k x|err k|lit z|cD=>exact ab 1
 |add a b h g|app a b h g|dQ x a b h g|cE a x b h g=>exact z2 h g
 |gap2 a b h g=>exact z3 (ab 1) h g
 |eg a h=>exact z2 (ab 1) h
 |cC a h|lam x a h=>exact z1 h
 |let1 x a b h g=>exact z4 h g
 |bW x a y c b h g i=>exact z5 h g i
 |dR x n v z b h=>exact z6 h
 |bG a x z c b h g i|bK a x y c b h g i|bD a x y c b h g i=>exact z3 h g i
noncomputable def Fu:Ss:=gu (gu (gu k5))
noncomputable def rD(fl:Fl)(st:St):Prop:=fl=.ret false (.bool true)/\∃k,st.mu[0]?=some (.tab k)
theorem E6:cG [] (fun _=>0):=⟨fun b hb=>rfl,bC _⟩
theorem Ie(h:2<=ad)(t:T .i):fi 1 1 (den wR t η0:Di) (den (wt ad) t η0:Di):=
 tR (k:=.i) (r:=1) (q:=1) (w:=wR) (w':=wt ad) (ab 1) (ab 1) (by show 2<=1*ad;lia) (by show 1<=1*3;lia) (by show 1<=1*4;lia) t uC
theorem BH{r r1:Di}(h:r.c<=250)(h1:r1.c<=3000)(hv:r1.v=r.v):jY 3000 r1=jY 250 r:=by
 unfold jY
 rw[if_neg (by lia),if_neg (by lia),hv]
theorem HI(h:∃k,mu[0]?=some (.tab k))(x:List MC):∃k,(mf (mu++x) 2 es)[0]?=some (.tab k):=by
 obtain⟨k,h⟩:=h
 obtain⟨h1,h2⟩:=bb.mp h
 refine⟨k,?_⟩
 unfold mf
 rw[j7 (by decide),fk h1,h]
section
variable{W d:Nat}{v v1 v2 f:MV}{mu V8 vE gH r6 E9:List MC}{q0 q1 q4 q5:Slot}
theorem ED(h0:Ev (ah W d 62 [v,.int 250] mu) ((false,oX),V8))(hq:∃k,V8[0]?=some (.tab k)):dJ W (ah W d) d Fu ⟨[q0,q1,.fz f,.fz v,q4,q5],mu⟩ rD:=
 h0 _ ⟨rfl,hq⟩
theorem HH(h0:Ev (ah W d 62 [v,.int 250] mu) ((false,sV),V8))(m1:Ev (ah W d 38 [v,f] V8) ((false,v1),vE))(h1:Ev (ah W d 62 [v1,.int 3000] vE) ((false,sV),gH))
 (m2:Ev (ah W d 38 [v1,f] gH) ((false,v2),r6)) (h2:Ev (ah W d 62 [v2,.int 3000] r6) ((false,sV),E9)) (hq:∃k,E9[0]?=some (.tab k)):
 dJ W (ah W d) d Fu ⟨[q0,q1,.fz f,.fz v,q4,q5],mu⟩ rD:=
 h0 _ (m1 _ (h1 _ (m2 _ (h2 _ ⟨rfl,hq⟩))))
theorem HG(h0:Ev (ah W d 62 [v,.int 250] mu) ((false,.tup [sM "int",.int z]),V8))(m1:Ev (ah W d 38 [v,f] V8) ((false,v1),vE))(h1:Ev (ah W d 62 [v1,.int 3000] vE) ((false,.tup [sM "int",.int z]),gH))
 (m2:Ev (ah W d 38 [v1,f] gH) ((false,v2),r6)) (h2:Ev (ah W d 62 [v2,.int 3000] r6) ((false,.tup [sM "int",.int z]),E9)) (hq:∃k,E9[0]?=some (.tab k)):
 dJ W (ah W d) d Fu ⟨[q0,q1,.fz f,.fz v,q4,q5],mu⟩ rD:=by
 exact h0 _ (m1 _ (h1 _ (aY (b:=sq sI sI&&(decide (z=z)&&true)) (by rw[k9,decide_eq_true rfl];rfl:(sq sI sI&&(decide (z=z)&&true))=true) (m2 _ (h2 _ ⟨congrArg (fun b=>Fl.ret false (.bool b)) (by rw[k9,decide_eq_true rfl];rfl:(sq sI sI&&(decide (z=z)&&true))=true),hq⟩)))))
end
section
variable{t:T .i}{way:Nat}
structure Cst(t t':T .i):Prop where
 c:(den wR t' η0:Di).c<=3*(den wR t η0:Di).c
 d:(den wR t' η0:Di).d<=600
 v:(den wR t' η0:Di).v=(den wR t η0:Di).v
theorem X4(h:kG t<=c):ht t<=16*c:=by
 have h1:=oZ t
 have h2:=gK t
 lia
theorem Th(h:kG t<=24576):1+ht t<=b8:=aa (ag (X4 h) 1) (ae rfl)
theorem I4(h:kG t<=192):NN t<=768:=aa (SI t) (aa (gK t) (aK 4 h))
theorem aaW(h:x<=768):0+x*8388608<10^18:=by lia
theorem aaV(h:p<=0+x*8388608)(hx:x<=768)(hy:y<=768):p+y*8388608<10^18:=by lia
theorem X5(h:kG t<=192)(g:ld t<=7):FF t<=24576:=aa (ZF t) (Nat.mul_le_mul (Eo (dW 1) g) h)
theorem aaT(h:max m 2<=w):∃v,w=v+2:=⟨_,(bL (aa (az m 2) h)).symm⟩
theorem aaU{x y:Nat}(h:x<=3*y)(g:¬(250:Int)<y):x<=3000:=by lia
theorem X7{y:Nat}(g:¬(250:Int)<y):y<=250:=by lia
theorem X6(h:x<=600):x+1<=e+620:=by lia
theorem Dk{t t':T .i}(C:Cst t t')(g:¬(250:Int)<(den wR t η0:Di).c):jY 3000 (den wR t' η0:Di)=jY 250 (den wR t η0:Di):=BH (X7 g) (aaU C.c g) C.v
theorem MO(h:¬(250:Int)<r.c):jY 250 r=sV\/∃z,jY 250 r=.tup [sM "int",.int z]:=by
 unfold jY
 refine(if_neg h).symm▸?_
 cases r.v with
 |none=>exact .inl rfl
 |some z=>exact .inr ⟨z,rfl⟩
theorem QA{t t1:T .i}(hD:Dp 3 t)(i3:fi 1 1 (den (wt 3) t1 η0:Di) (den (wt 4) t η0:Di))(gV:2<=ad)(i:fi 1 1 (den (wt ad) t' η0:Di) (den (wt 3) t1 η0:Di)):Cst t t':=by
 have i4:fi 3 4 (den (wt 4) t η0:Di) (den wR t η0:Di):=tR (k:=.i) (r:=3) (q:=4) (w:=wt 4) (w':=wR) (ae rfl) (ae rfl) (ae rfl) (ae rfl) (ae rfl) t (fun _ k=>uA k)
 have j:=rel_trans (k:=.i) (rel_trans (k:=.i) (Ie gV t') i) i3
 exact⟨aa (aa j.1 (bu (iY _))) i4.1,aa (aa j.2.1 (bu (iY _))) (Gj hD),(mN j.2.2).trans (mN i4.2.2)⟩
theorem Ji{t1 t2:T .i}(A:dj (fun _=>0) t)(Wf:WF t)(hf:∀k x,¬fv t k x)(L:1+ht t<=b8)(A1:dj φ1 t1)(W1:WF t1)(hc1:∀k x,¬fv t1 k x)(L1:1+ht t1<=b8)(C1:Cst t t1)
 (A2:dj φ2 t2) (W2:WF t2) (hc2:∀k x,¬fv t2 k x) (L2:1+ht t2<=b8) (C2:Cst t t2) (r1:Runs (e+620) 2 [] es1 38 [enc t,.xj way 2] (enc t1)) (r2:Runs (e+620) 2 es1 es2 38 [enc t1,.xj way 2] (enc t2)):
 ∃w0,∀W,w0<=W->∀(mu:List MC)(q0 q1 q4 q5:Slot),2<mu.length->(∃k,mu[0]?=some (.tab k))->
  dJ W (ah W (e+620)) (e+620) Fu ⟨[q0,q1,.fz (.xj way 2),.fz (enc t),q4,q5],mf mu 2 []⟩ rD:=by
 obtain⟨w1,r1⟩:=r1
 obtain⟨w2,r2⟩:=r2
 refine⟨max (max w1 w2) 2,fun W hW mu q0 q1 q4 q5 hi hT=>?_⟩
 obtain⟨w,rfl⟩:=aaT hW
 obtain⟨x0,s0⟩:=uv (w:=w) (t:=t) (F:=250) (d:=e+620) (mu:=mf mu 2 []) (C:=η0) A Wf hf L (.inr (aa (ae rfl) (aq 620 e))) (aa (ae rfl) (aq 620 e))
 rw[xT hi]at s0
 by_cases DT:(250:Int)<(den wR t η0:Di).c
 ·have hd:jY 250 (den wR t η0:Di)=oX:=by unfold jY;exact(if_pos DT).symm▸rfl
  rw[hd]at s0
  exact ED s0 (HI hT x0)
 ·obtain⟨x1,m1⟩:=r1 (w+2) (aa (aC w1 w2) (aa (aC _ 2) hW)) (mu++x0) (j5 hi)
  obtain⟨x2,s1⟩:=uv (w:=w) (t:=t1) (F:=3000) (d:=e+620) (mu:=mf (mu++x0++x1) 2 es1) (C:=η0) A1 W1 hc1 L1 (.inl (X6 C1.d)) (aa (ae rfl) (aq 620 e))
  rw[xT (j5 (j5 hi)),Dk C1 DT]at s1
  obtain⟨x3,m2⟩:=r2 (w+2) (aa (az w1 w2) (aa (aC _ 2) hW)) (mu++x0++x1++x2) (j5 (j5 (j5 hi)))
  obtain⟨x4,s2⟩:=uv (w:=w) (t:=t2) (F:=3000) (d:=e+620) (mu:=mf (mu++x0++x1++x2++x3) 2 es2) (C:=η0) A2 W2 hc2 L2 (.inl (X6 C2.d)) (aa (ae rfl) (aq 620 e))
  rw[xT (j5 (j5 (j5 (j5 hi)))),Dk C2 DT]at s2
  have hq:∃k,(mf (mu++x0++x1++x2++x3++x4) 2 es2)[0]?=some (.tab k):=by
   have h:=HI (es:=es2) hT (x0++x1++x2++x3++x4)
   simp only[<-bq]at h
   exact h
  rcases MO DT with hs|⟨z,hs⟩
  ·rw[hs]at s0 s1 s2
   exact HH s0 m1 s1 m2 s2 hq
  ·rw[hs]at s0 s1 s2
   exact HG s0 m1 s1 m2 s2 hq
theorem Jf(hw:way<8)(hD:Dp 3 t)(A:dj (fun _=>0) t)(Wf:WF t)(hf:∀k x,¬fv t k x)(e:Nat):
 ∃w0,∀W,w0<=W->∀(mu:List MC)(q0 q1 q4 q5:Slot),2<mu.length->(∃k,mu[0]?=some (.tab k))->
  dJ W (ah W (e+620)) (e+620) Fu ⟨[q0,q1,.fz (.xj way 2),.fz (enc t),q4,q5],mf mu 2 []⟩ rD:=by
 have hFF:FF t<=192:=aa (Qw hD) (ae rfl)
 have DU:=aa (I5 t) hFF
 obtain⟨t1,φ1,es1,M1⟩:=IV (d:=e+609) (i:=2) (way:=way) (Q:=8388608) (C:=131072) hw (ae rfl) (ae rfl) t (fun _=>0) [] E6 A Wf (aa hFF (ae rfl)) (fun b=>aaW (I4 DU)) (fun _=>ZP hD)
 have lf1:=aa M1.lf hFF
 have ff1:=X5 lf1 (aa M1.ld (aa (ZR hD) (ae rfl)))
 obtain⟨t2,φ2,es2,M2⟩:=IV (d:=e+609) (i:=2) (way:=way) (Q:=8388608) (C:=131072) hw (ae rfl) (ae rfl) t1 φ1 es1 M1.n M1.g.ok M1.g.wf (aa ff1 (ae rfl)) (fun b=>aaV (M1.p b) (I4 DU) (I4 lf1)) M1.lg
 have L1:=Th (aa lf1 (ae rfl))
 have L0:=Th (aa DU (ae rfl))
 have hc1:∀k x,¬fv t1 k x:=fun k x h=>hf k x (M1.g.fv k x h)
 have i3:fi 1 1 (den (wt 3) t1 η0:Di) (den (wt 4) t η0:Di):=M1.g.imp 3 η0 η0 (ae rfl) uC uC uC
 exact Ji A Wf hf L0 M1.g.ok M1.g.wf hc1 L1 (QA hD i3 (ae rfl) iN) M2.g.ok M2.g.wf (fun k x h=>hc1 k x (M2.g.fv k x h)) (Th (aa M2.lf ff1)) (QA hD i3 (ab 2) (M2.g.imp 2 η0 η0 (ae rfl) uC uC uC))
  (uQ M1.run (aa (aq _ 1) L0)) (uQ M2.run (aa (aq _ 1) L1))
end
noncomputable abbrev sm(mu:List MC)(a b:Int):List MC:=mu.set 1 (.lst [.int a,.int b])
noncomputable def kn(b:Int):Prop:=0<=b/\b<2147483647
theorem xF(x:Int):kn (x.fmod 2147483647):=⟨jt _ (by decide),qX _ (by decide)⟩
theorem HQ(h:1<mu.length):(sm mu a b)[1]?=some (.lst [.int a,.int b]):=by
 unfold sm;rw[cq h]
theorem B3(h1:x.natAbs<2^64)(h2:y.natAbs<2^64):r5 x y=true:=by
 unfold r5;rw[decide_eq_true h1,decide_eq_true h2,Bool.and_self,nF]
theorem sml{x k:Int}{m:Nat}(h:0<=x)(h':x<k)(hk:k<=m):x.natAbs<m:=by
 obtain⟨n,rfl⟩:=A9 h
 exact jq.mp (e9 h' hk)
theorem nab(h:kn b):b.natAbs<2^64:=sml (m:=2^64) h.1 h.2 (of_decide_eq_true rfl)
theorem J0:∀{xs:List MV}{n:Nat}{x:MV}{Q:MV->Prop},xs[n]?=some x->Q x->Cv xs n Q:=by
 intro xs
 induction xs with
 |nil=>exact fun h _=>(ay _ (cN h)).elim
 |cons y r cz=>
  intro n x Q h k
  induction n with
  |zero=>obtain rfl:=ar h;exact k
  |succ n=>exact cz (n:=n) h k
section
variable{W d:Nat}{mu:List MC}{a b:Int}
theorem Rc{t:Int}(ht:(!decide (t=0))=true)(YU:t.natAbs<2^64)(hm:mu[1]?=some (.lst [.int a,.int b]))(ha:a>0):
 Ev (ah W (d+1) 48 [.ref 1,.int t] mu) ((false,.int (a.fmod t)),mu.set 1 (.lst [.int (a.fdiv t),.int b])):=fun Q k=>
 ao rfl rfl (cI hm (aY (decide_eq_true ha) (cI hm (mj ht (cI hm (mj (b:= !decide (t=0)&&decide (t.natAbs<2^64)) (by rw[ht,decide_eq_true YU];rfl) (cI hm k)))))))
theorem Rd{t b':Int}(ht:(!decide (t=0))=true)(hb:kn b)(vU:(b*39373+7).fmod 2147483647=b')(hm:mu[1]?=some (.lst [.int a,.int b]))(JN:(mu.set 1 (.lst [.int a,.int b']))[1]?=some (.lst [.int a,.int b']))(ha:¬a>0):
 Ev (ah W (d+1) 48 [.ref 1,.int t] mu) ((false,.int ((((b'*b').fmod 2147483629).fdiv 32).fmod t)),mu.set 1 (.lst [.int a,.int b'])):=fun Q k=>by
 have h3:kn b':=vU▸xF _
 subst vU
 exact ao rfl rfl (cI hm (bp (decide_eq_false ha) (cI hm (mj (B3 (nab hb) (by decide):r5 b 39373=true) (cI hm (cI JN (cI JN (mj (B3 (nab h3) (nab h3)) (mj ht k)))))))))
end
inductive aav(a b:Int)(top:Nat):Prop
 |mk(z:Nat)(a' b':Int)(hz:z<top)(hs:kn b')(h:∀W d mu,1<mu.length->Ev (ah W (d+1) 48 [.ref 1,.int top] (sm mu a b)) ((false,.int z),sm mu a' b'))
theorem Qu{t:Nat}(h:1<=t):(!decide ((t:Int)=0))=true:=by rw[decide_eq_false (by omega)];rfl
theorem Qv(x:Int){top:Nat}(ht:1<=top):∃z:Nat,x.fmod top=z/\z<top:=by
 exact⟨(x.fmod top).toNat,(Int.toNat_of_nonneg (jt x (b:=top) (by omega))).symm,(Int.toNat_lt (jt x (b:=top) (by omega))).mpr (qX x (b:=top) (by omega))⟩
theorem draw(a b:Int)(top:Nat)(ht:1<=top)(YU:top<1000)(hb:kn b):aav a b top:=by
 by_cases ha:a>0
 ·obtain⟨z,hz,hl⟩:=Qv a ht
  refine⟨z,a.fdiv top,b,hl,hb,fun W d mu hm=>?_⟩
  have h:=Rc (W:=W) (d:=d) (Qu ht) (g0 YU (of_decide_eq_true rfl)) (HQ (a:=a) (b:=b) hm) ha
  rw[hz,fW]at h
  exact h
 ·obtain⟨z,hz,hl⟩:=Qv ((((b*39373+7).fmod 2147483647*(b*39373+7).fmod 2147483647).fmod 2147483629).fdiv 32) ht
  refine⟨z,a,(b*39373+7).fmod 2147483647,hl,xF _,fun W d mu hm=>?_⟩
  have h:=Rd (W:=W) (d:=d) (Qu ht) hb rfl (HQ (a:=a) (b:=b) hm) (by rw[fW];exact HQ hm) ha
  rw[hz,fW]at h
  exact h
theorem Sy{W d z:Nat}(hl:xs.length<=b8)(h:Ev (ah W d 48 [.ref 1,.int xs.length] mu) ((false,.int z),mu'))(hx:xs[z]?=some x):Ev (ah W (d+1) 49 [.ref 1,.lst xs] mu) ((false,x),mu'):=fun Q k=>
 ao rfl rfl (aD hl (h _ (aD hl (J0 hx k))))
inductive aap(xs:List MV)(a b:Int):Prop
 |mk(x:MV)(hx:x∈xs)(a' b':Int)(hs:kn b')(h:∀W d mu,1<mu.length->Ev (ah W (d+2) 49 [.ref 1,.lst xs] (sm mu a b)) ((false,x),sm mu a' b'))
theorem pick(hx:xs≠[])(hl:xs.length<1000)(hb:kn b):aap xs a b:=by
 obtain⟨z,a',b',hz,hs,h⟩:=draw a b xs.length (Er.mpr hx) hl hb
 exact⟨xs[z],LZ hz,a',b',hs,fun W d mu hm=>Sy (aa (cF hl) (by decide)) (h W d mu hm) (ez hz)⟩
noncomputable def kS:K->String
 |.i=>"i"
 |.f=>"f"
 |.c=>"c"
noncomputable abbrev kM(k:K):MV:=sM (kS k)
noncomputable def strOf:MV->Str|.str s=>s|_=>⟨#[]⟩
theorem Jp(h:kM k=kM k'):k=k':=by
 have h:af (kS k)=af (kS k'):=congrArg strOf h
 revert h
 induction k<;>induction k'<;>first|(intro _;rfl)|(intro h;exact absurd h (by decide))
noncomputable def te(es:List (Str×MV)):Prop:=∀p∈es,(∃b∈bases,p.1=aX (bN b))/\∃k,p.2=kM k
theorem Au(h:te es):bX es=es:=by
 unfold bX
 have:∀(g:MV->MV)(l:List (Str×MV)),(∀p∈l,g p.2=p.2)->l.map (fun p=>(p.1,g p.2))=l:=by
  intro g l hl
  induction l with
  |nil=>rfl
  |cons p r ih=>rw[dY,ih fun q hq=>hl q (.tail _ hq),hl p (.head _)]
 refine this _ es fun p hp=>?_
 obtain⟨_,k,hk⟩:=h p hp
 rw[hk];rfl
theorem EL:br ((a,w)::r) k v=if a=k then(a,v)::r else(a,w)::br r k v:=by
 show @bE (fun _=>List (Str×MV)) _ _ (decide (a=k))=_
 by_cases e:a=k
 ·rw[decide_eq_true e,if_pos e]
 ·rw[decide_eq_false e,if_neg e]
theorem xi:cf ((a,w)::r) k=if a=k then some w else cf r k:=by
 show @bE (fun _=>Option MV) _ _ (decide (a=k))=_
 by_cases e:a=k
 ·rw[decide_eq_true e,if_pos e]
 ·rw[decide_eq_false e,if_neg e]
theorem ml(hb:b∈bases):∀{es:List (Str×MV)},te es->te (br es (aX (bN b)) (kM k)):=by
 intro es
 induction es with
 |nil=>
  intro _ p hp
  exact(bj.mp hp).symm▸⟨⟨b,hb,rfl⟩,k,rfl⟩
 |cons zx r cz=>
  obtain⟨a,v⟩:=zx
  intro hl p hp
  rw[EL]at hp
  split at hp
  ·rename_i e
   rcases aA.mp hp with rfl|hp
   ·exact⟨⟨b,hb,e⟩,k,rfl⟩
   ·exact hl p (.tail _ hp)
  ·rcases aA.mp hp with rfl|hp
   ·exact hl (a,v) (.head _)
   ·exact cz (fun q hq=>hl q (.tail _ hq)) p hp
theorem As:∀{es:List (Str×MV)},cf es s=some v->(s,v)∈es:=by
 intro es
 induction es with
 |nil=>
  intro h
  exact nomatch h
 |cons zx r cz=>
  obtain⟨a,b⟩:=zx
  intro h
  replace h:=xi▸h
  split at h
  ·rename_i e;subst e;cases h;exact .head _
  ·exact .tail _ (cz h)
theorem IU:∀{es:List (Str×MV)},p∈es->∃v,cf es p.1=some v:=by
 intro es
 induction es with
 |nil=>
  intro h
  exact nomatch h
 |cons zx r cz=>
  obtain⟨a,b⟩:=zx
  intro h
  rw[xi]
  by_cases e:a=p.1
  ·rw[if_pos e];exact⟨b,rfl⟩
  ·rw[if_neg e]
   rcases aA.mp h with rfl|h
   ·exact(e rfl).elim
   ·exact cz h
noncomputable def knX:X:=(sd sy).2.2.2.1
noncomputable def coE(x:X):X:=(xd x).2.1
noncomputable def coC(x:X):X:=(xd x).2.2.1
noncomputable def coK(x:X):List (Nat×Pos):=(xd x).2.2.2
noncomputable def coW(x:X)(W d:Nat):List MV->St->(List MV->St->Prop)->Prop:=
 o6 (fun m st Q=>kf (coK x) m st fun st=>(cP (ah W d) d (coC x)).ta st fun z st=>i0 z ((cP (ah W d) d (coE x)).ev st fun _ m st=>Q (some m) st) (Q lJ st))
theorem Cd(hE:∀p∈es,∃s,p.2=.str s):∀l:List (Str×MV),(∀p∈l,p∈es)->∃L:List MV,L.length<=l.length/\(∀m∈L,∃p∈l,m=.str p.1/\cf es p.1=some (.str k))/\
 ∀(W d:Nat)(mu:List MC)(q:Slot)(Q:List MV->St->Prop),(∀q',Q L ⟨[.fz (.bI es),.fz (.str k),q'],mu⟩)->coW knX W d (l.map fun p=>.str p.1) ⟨[.fz (.bI es),.fz (.str k),q],mu⟩ Q:=by
 intro l
 induction l with
 |nil=>
  intro _
  exact⟨[],ab _,(fun _ h=>nomatch h),fun W d mu q Q h=>h q⟩
 |cons p r cz=>
  intro Cp
  obtain⟨L,hL,hP,hr⟩:=cz fun q hq=>Cp q (.tail _ hq)
  obtain⟨v,hv⟩:=IU (Cp p (.head _))
  obtain⟨s,hs⟩:=hE _ (As hv)
  subst (hs:v=.str s)
  by_cases e:s=k
  ·subst e
   refine⟨.str p.1::L,bA hL,fun m hm=>?_,fun W d mu q Q h=>eh hv (aY k9 (hr W d mu _ _ h))⟩
   rcases aA.mp hm with rfl|hm
   ·exact⟨p,.head _,rfl,hv⟩
   ·obtain⟨p',h1,h2⟩:=hP m hm
    exact⟨p',.tail _ h1,h2⟩
  ·refine⟨L,dM hL,fun m hm=>?_,fun W d mu q Q h=>eh hv (bp (jX e) (hr W d mu _ _ h))⟩
   obtain⟨p',h1,h2⟩:=hP m hm
   exact⟨p',.tail _ h1,h2⟩
theorem Jm(hE:te es)(hl:es.length<=1000):∃L:List MV,L.length<=es.length/\(∀m∈L,∃b∈bases,m=vN (bN b)/\cf es (aX (bN b))=some (kM k))/\
 ∀W d mu,Ev (ah W (d+1) 50 [.bI es,kM k] mu) ((true,.lst L),mu):=by
 obtain⟨L,hL,hP,hr⟩:=Cd (k:=af (kS k)) (fun p hp=>by obtain⟨_,k,hk⟩:=hE p hp;exact⟨_,hk⟩) es fun _ h=>h
 refine⟨L,hL,fun m hm=>?_,fun W d mu Q q=>?_⟩
 ·obtain⟨p,hp,h1,h2⟩:=hP m hm
  obtain⟨⟨b,hb,e⟩,_⟩:=hE p hp
  exact⟨b,hb,by exact h1.symm▸e.symm▸rfl,by exact e▸h2⟩
 ·have hle:(es.map fun p=>MV.str p.1).length<=b8:=by rw[aI];exact aa hl (by decide)
  refine ao rfl rfl ?_
  refine mj (by rw[bT hle];rfl:(aV (es.map fun p=>MV.str p.1).length b8&&Ei (coK knX) ⟨[.fz (.bI es),.fz (kM k),.un],mu⟩)=true) ?_
  exact hr W d mu .un (fun ms st=>eL Q (.ret true (.lst ms)) (qg (coK knX) st)) fun q'=>q
theorem with1(hE:te es)(hl:es.length<=1000):Ev (ah W (d+1) 51 [.bI es,.lst [.tup [vN x,kM k]]] mu) ((true,.bI (br es (aX x) (kM k))),mu):=fun Q q=>by
 have h:es.length<=b8:=aa hl (by decide)
 exact ao rfl rfl (aD h (aD (by exact(Au hE).symm▸h) (by exact(Au hE).symm▸q)))
noncomputable abbrev φ0:Fr:=fun _=>0
structure Dr(n:Nat)(es:List (Str×MV)){k:K}(t:T k):Prop where
 dp:Dp n t
 ok:dj φ0 t
 wf:WF t
 fv:∀k' y,fv t k' y->cf es (aX y)=some (kM k')
theorem yY{b:Nat}(h:b∈bases):Ok φ0 (bN b):=⟨ab 0,h⟩
theorem Hs{z:Nat}(h:¬z=0):decide ((z:Int)=0)=false:=decide_eq_false (by lia)
noncomputable def qu:Ss:=gu (gu vg)
section
variable{W d:Nat}{m m1 m2 m3:List MC}{L E x:MV}{k:K}{Q:oS}{z p q:Int}
noncomputable abbrev xU(k:K)(E L:MV)(m:List MC):St:=⟨[.fz (.ref 1),.fz (kM k),.fz E,.fz L],m⟩
noncomputable abbrev sU(W d:Nat)(t:Int)(m:List MC)(z:Int)(m1:List MC):Prop:=Ev (ah W d 48 [.ref 1,.int t] m) ((false,.int z),m1)
noncomputable abbrev G3(W d:Nat)(xs:List MV)(m:List MC)(x:MV)(m1:List MC):Prop:=Ev (ah W d 49 [.ref 1,.lst xs] m) ((false,x),m1)
theorem Tx(h:sU W (d+2) 9 m 0 m1)(q:Q false IW m1):dJ W (ah W (d+2)) (d+2) qu (xU k E L m) (eL Q):=h _ q
theorem Ts(h:sU W (d+2) 9 m z m1)(hz:decide (z=0)=false)(h2:sU W (d+2) 3 m1 p m2)(q:Q false (fF p) m2):dJ W (ah W (d+2)) (d+2) qu (xU .i E L m) (eL Q):=
 h _ (bp hz (h2 _ q))
noncomputable abbrev Qo:List MV:=[bJ (af "x"),fF 1,.inst .App [bJ (af "g"),.lst [fF 2,bJ (af "x")]]]
theorem Tw(h:sU W (d+2) 9 m z m1)(hz:decide (z=0)=false)(h2:G3 W (d+2) Qo m1 x m2)(q:Q false (.inst .iu [.lst [sM "x"],x]) m2):dJ W (ah W (d+2)) (d+2) qu (xU .f E L m) (eL Q):=
 h _ (bp hz (h2 _ q))
theorem Tz(h:sU W (d+2) 9 m z m1)(hz:decide (z=0)=false)(h2:sU W (d+2) 2 m1 0 m2)(q:Q false (.inst .o9 [sM "D",.lst []]) m2):dJ W (ah W (d+2)) (d+2) qu (xU .c E L m) (eL Q):=
 h _ (bp hz (h2 _ q))
theorem TA(h:sU W (d+2) 9 m z m1)(hz:decide (z=0)=false)(h2:sU W (d+2) 2 m1 p m2)(hp:decide (p=0)=false)(h3:sU W (d+2) 2 m2 q m3)(k:Q false (.inst .o9 [sM "C",.lst [fF q]]) m3):dJ W (ah W (d+2)) (d+2) qu (xU .c E L m) (eL Q):=
 h _ (bp hz (h2 _ (bp hp (h3 _ k))))
theorem TF(hk:Ev (ah W (d+2) 50 [E,kM k] m) ((true,.lst []),m))(q:dJ W (ah W (d+2)) (d+2) qu (xU k E (.lst []) m) (eL Q)):ah W (d+3) 52 [.ref 1,kM k,E] m Q:=
 ao rfl rfl (hk _ q)
theorem TC(hk:Ev (ah W (d+2) 50 [E,kM k] m) ((true,.lst xs),m))(hx:(!xs.isEmpty)=true)(h:sU W (d+2) 3 m 0 m1)(q:dJ W (ah W (d+2)) (d+2) qu (xU k E (.lst xs) m1) (eL Q)):ah W (d+3) 52 [.ref 1,kM k,E] m Q:=
 ao rfl rfl (hk _ (aY hx (h _ q)))
theorem TB(hk:Ev (ah W (d+2) 50 [E,kM k] m) ((true,.lst xs),m))(hx:(!xs.isEmpty)=true)(h:sU W (d+2) 3 m z m1)(hz:decide (z>0)=true)(h2:G3 W (d+2) xs m1 x m2)(q:Q false (.inst .Var [x]) m2):ah W (d+3) 52 [.ref 1,kM k,E] m Q:=
 ao rfl rfl (hk _ (aY hx (h _ (aY hz (h2 _ q)))))
theorem OR(h:sU W (d+2) 3 m z m1):Ev (ah W (d+3) 53 [.ref 1,x] m) ((false,.inst .iu [.lst [sM "n"],.inst .Case [bJ (af "n"),sM "v",.lst [.inst .Alt [.tup [sM "lit",sM "int",.int 0],.lst [],fF z]],
 .inst .App [.inst .Var [x],.lst [iQ (bJ (af "n")) (fF (-1))]]]]),m1):=fun Q k=>ao rfl rfl (h _ k)
end
theorem n_x:af "x"=aX (bN 120):=by decide
theorem n_n:af "n"=aX (bN 110):=by decide
theorem n_v:af "v"=aX (bN 118):=by decide
theorem X0:sM "x"=vN (bN 120):=congrArg MV.str n_x
inductive VJ(n:Nat)(k:K)(es:List (Str×MV))(a b:Int)(L:MV):Prop
 |mk(t:T k)(a' b':Int)(hd:Dr n es t)(hs:kn b')(h:∀W d mu Q,1<mu.length->Q false (enc t) (sm mu a' b')->dJ W (ah W (d+3)) (d+3) qu (xU k (.bI es) L (sm mu a b)) (eL Q))
inductive aas(n:Nat)(k:K)(es:List (Str×MV))(a b:Int):Prop
 |mk(t:T k)(a' b':Int)(hd:Dr n es t)(hs:kn b')(h:∀W d mu,1<mu.length->Ev (ah W (d+4) 52 [.ref 1,kM k,.bI es] (sm mu a b)) ((false,enc t),sm mu a' b'))
theorem P2(hb:kn b)(L:MV):VJ n k es a b L:=by
 obtain⟨z,a1,b1,hz9,s1,t1⟩:=draw a b 9 (by decide) (by decide) hb
 by_cases h0:z=0
 ·subst h0
  exact⟨.err k,a1,b1,⟨.err k,trivial,trivial,fun _ _ h=>h.elim⟩,s1,fun W d mu Q hm q=>Tx (t1 W (d+2) mu hm) q⟩
 ·have h0:=Hs h0
  cases k
  ·obtain⟨q,a2,b2,hq3,s2,t2⟩:=draw a1 b1 3 (by decide) (by decide) s1
   exact⟨.lit q,a2,b2,⟨.lit (by lia),trivial,trivial,fun _ _ h=>h.elim⟩,s2,fun W d mu Q hm q=>Ts (t1 W (d+2) mu hm) h0 (t2 W (d+2) mu hm) q⟩
  ·obtain⟨m,hm,a2,b2,s2,t2⟩:=pick (xs:=Qo) (a:=a1) (b:=b1) (bl _ _) (by decide) s1
   have Ux:∀(u:T .i),m=enc u->∀W d mu(Q:oS),1<mu.length->Q false (enc (.lam (bN 120) u)) (sm mu a2 b2)->dJ W (ah W (d+3)) (d+3) qu (xU .f (.bI es) L (sm mu a b)) (eL Q):=
    fun u hu W d mu Q hl q=>Tw (t1 W (d+2) mu hl) h0 (t2 W (d+1) mu hl) (by exact X0.symm▸hu.symm▸q)
   rcases aA.mp hm with hm|hm
   ·exact⟨.lam (bN 120) (.var .i (bN 120)),a2,b2,⟨.Fv _,⟨yY (by decide),yY (by decide)⟩,⟨trivial,fun _ h=>h.1⟩,fun k' y h=>(h.2 h.1.2).elim⟩,s2,Ux _ (by rw[hm,n_x];rfl)⟩
   ·rcases aA.mp hm with hm|hm
    ·exact⟨.lam (bN 120) (.lit 1),a2,b2,⟨.Fw _ (by decide),⟨yY (by decide),trivial⟩,⟨trivial,fun _ h=>h.elim⟩,fun k' y h=>h.1.elim⟩,s2,Ux _ (by rw[hm];rfl)⟩
    ·exact⟨.lam (bN 120) (.gap2 (.lit 2) (.var .i (bN 120))),a2,b2,⟨.Cb _ (by decide),⟨yY (by decide),trivial,yY (by decide)⟩,⟨⟨trivial,trivial⟩,fun _ h=>h.elim (fun h=>h.elim) fun h=>h.1⟩,fun k' y h=>h.1.elim (fun h=>h.elim) fun h'=>(h.2 h'.2).elim⟩,s2,
      Ux _ (by rw[bj.mp hm,n_x];rfl)⟩
  ·obtain⟨q,a2,b2,hq3,s2,t2⟩:=draw a1 b1 2 (by decide) (by decide) s1
   by_cases hq0:q=0
   ·subst hq0
    exact⟨.cD,a2,b2,⟨.cD,trivial,trivial,fun _ _ h=>h.elim⟩,s2,fun W d mu Q hm q=>Tz (t1 W (d+2) mu hm) h0 (t2 W (d+2) mu hm) q⟩
   ·obtain⟨p,a3,b3,hp3,s3,t3⟩:=draw a2 b2 2 (by decide) (by decide) s2
    exact⟨.cC (.lit p),a3,b3,⟨.cL (by lia),trivial,trivial,fun _ _ h=>h.elim⟩,s3,fun W d mu Q hm q=>TA (t1 W (d+2) mu hm) h0 (t2 W (d+2) mu hm) (Hs hq0) (t3 W (d+2) mu hm) q⟩
theorem DE(hE:te es)(hl:es.length<=900)(hb:kn b):aas n k es a b:=by
 obtain⟨L,hL,hP,hk⟩:=Jm (k:=k) hE (by lia)
 by_cases hn:L=[]
 ·subst hn
  obtain⟨t,a',b',hd,hs,hr⟩:=P2 (n:=n) (k:=k) (es:=es) (a:=a) hb (.lst [])
  exact⟨t,a',b',hd,hs,fun W d mu hm Q q=>TF (hk W (d+2) (sm mu a b)) (hr W d mu Q hm q)⟩
 ·obtain⟨z,a1,b1,hz3,s1,t1⟩:=draw a b 3 (by decide) (by decide) hb
  have eM:(!L.isEmpty)=true:=by induction L with|nil=>exact absurd rfl hn|cons x r=>rfl
  by_cases h0:z=0
  ·subst h0
   obtain⟨t,a',b',hd,hs,hr⟩:=P2 (n:=n) (k:=k) (es:=es) (a:=a1) s1 (.lst L)
   exact⟨t,a',b',hd,hs,fun W d mu hm Q q=>TC (hk W (d+2) (sm mu a b)) eM (t1 W (d+2) mu hm) (hr W d mu Q hm q)⟩
  ·obtain⟨m,hm,a2,b2,s2,t2⟩:=pick (xs:=L) (a:=a1) (b:=b1) hn (by lia) s1
   obtain⟨c,hc,rfl,hd⟩:=hP m hm
   exact⟨.var k (bN c),a2,b2,⟨.var k _,yY hc,trivial,fun k' y h=>by obtain⟨rfl,rfl⟩:=h;exact hd⟩,s2,fun W d mu hm Q q=>TB (hk W (d+2) (sm mu a b)) eM (t1 W (d+2) mu hm) (decide_eq_true (by lia)) (t2 W (d+1) mu hm) q⟩
theorem OQ(hb:kn b):∃(z:Nat)(a' b':Int),z<=2/\kn b'/\∀W d mu,1<mu.length->
 Ev (ah W (d+3) 53 [.ref 1,vN (bN c)] (sm mu a b)) ((false,ji (bN c) (bN 110) (bN 118) z),sm mu a' b'):=by
 obtain⟨z,a1,b1,hz3,s1,t1⟩:=draw a b 3 (by decide) (by decide) hb
 refine⟨z,a1,b1,by lia,s1,fun W d mu hm=>?_⟩
 have h:=OR (x:=vN (bN c)) (t1 W (d+1) mu hm)
 rw[n_n,show sM "v"=vN (bN 118)from congrArg MV.str n_v,show sM "n"=vN (bN 110)from congrArg MV.str n_n]at h
 exact h
noncomputable def Qn:Ss:=gu qJ
noncomputable def Kd:Ss:=gu (gu (gu (O8 Qn)))
noncomputable def abk(e:MV)(fd:List (Str×MV))(ts:List MV)(J:List Slot)(mu:List MC):St:=⟨.fz e:: .own (.bI fd):: .own (.lst ts)::J,mu⟩
noncomputable abbrev tT:MV:=.bool true
noncomputable def QL(bd:List (Str×MV))(g:List (List Str))(is:List Int)(r:List (Str×MV)):Prop:=∀W d mu,∃f,Ev (ah W (d+1) 24 [.bI bd,bf g,.tup (is.map .int)] mu) ((f,.bI r),mu)
section
variable{W d:Nat}{mu:List MC}{bd:List (Str×MV)}{x y:Str}
theorem sc0:Ev (ah W (d+1) 24 [.bI bd,bf g,.tup []] mu) ((false,.bI bd),mu):=fun Q q=>ao rfl rfl q
section
variable(hl:bd.length+2<=b8)
include hl
theorem zj:bd.length<=b8:=by lia
theorem zi:(bX bd).length<=b8:=by rw[f9];lia
theorem PN:(br (bX bd) x tT).length<=b8:=aa dI (by rw[f9];lia)
theorem scB(h:g.length+3<=b8):Ev (ah W (d+1) 24 [.bI bd,bf ([x]::g),.tup [.int 0]] mu) ((true,.bI (br (bX bd) x tT)),mu):=fun Q q=>by
 exact ao rfl rfl (aD (zj hl) (aD (by rw[aI];exact(by show g.length+1<=_;lia:([x]::g).length<=b8)) (aD (zi hl) q)))
theorem scE(h:g.length+3<=b8):Ev (ah W (d+1) 24 [.bI bd,bf ([x]::[y]::g),.tup [.int 0,.int 1]] mu) ((true,.bI (br (br (bX bd) x tT) y tT)),mu):=fun Q q=>by
 have hg:(([x]::[y]::g).map fun g=>MV.lst (g.map .str)).length<=b8:=by rw[aI];show g.length+2<=_;lia
 exact ao rfl rfl (aD (zj hl) (aD hg (aD (zi hl) (aD hg (aD (PN hl) q)))))
theorem scC:Ev (ah W (d+1) 24 [.bI bd,bf [[x,y]],.tup [.int 0]] mu) ((true,.bI (br (br (bX bd) x tT) y tT)),mu):=fun Q q=>
 ao rfl rfl (aD (zj hl) (aD (zi hl) (aD (PN hl) q)))
theorem scD:Ev (ah W (d+1) 24 [.bI bd,bf [[x],[]],.tup [.int 0,.int 1]] mu) ((true,.bI (br (bX bd) x tT)),mu):=fun Q q=>
 ao rfl rfl (aD (zj hl) (aD (zi hl) q))
theorem scF:Ev (ah W (d+1) 24 [.bI bd,bf [[x],[y],[]],.tup [.int 0,.int 2]] mu) ((true,.bI (br (bX bd) x tT)),mu):=fun Q q=>
 ao rfl rfl (aD (zj hl) (aD (zi hl) q))
theorem sB(h:g.length+3<=b8):QL bd ([x]::g) [0] (br (bX bd) x tT):=fun _ _ _=>⟨_,scB hl h⟩
theorem sE(h:g.length+3<=b8):QL bd ([x]::[y]::g) [0,1] (br (br (bX bd) x tT) y tT):=fun _ _ _=>⟨_,scE hl h⟩
theorem sC:QL bd [[x,y]] [0] (br (br (bX bd) x tT) y tT):=fun _ _ _=>⟨_,scC hl⟩
theorem sD:QL bd [[x],[]] [0,1] (br (bX bd) x tT):=fun _ _ _=>⟨_,scD hl⟩
theorem sF:QL bd [[x],[y],[]] [0,2] (br (bX bd) x tT):=fun _ _ _=>⟨_,scF hl⟩
end
theorem s0:QL bd g [] bd:=fun _ _ _=>⟨_,sc0⟩
end
section
variable{W d N:Nat}{mu:List MC}{e:MV}{fd bd:List (Str×MV)}{ts:List MV}{J:List Slot}{s:Str}
noncomputable def FT(e:MV)(fd:List (Str×MV))(ts:List MV)(mu:List MC)(J:List Slot):St:=abk e fd ts J mu
noncomputable abbrev FR(W d:Nat)(e:MV)(fd fd':List (Str×MV))(ts ts':List MV)(mu:List MC)(n:Nat):Prop:=Rn (PY Qn W d) 5 (FT e fd ts mu) (FT e fd' ts' mu) n
theorem J9(hl:ts.length<b8)(hf:fd.length<b8):FR W d e fd (if gp bd s=true then fd else br fd s tT) (ts++[.tup [bJ s,.bI bd]]) ts mu 1:=fun N Q q=>by
 refine ng 5 ?_;intro a b c d' e'
 have q:=q [.fz (bJ s),.fz (.bI bd),c,d',e'] rfl
 by_cases hb:gp bd s=true
 ·rw[if_pos hb]at q
  exact aD (cg hl) (aY eV (aD (cg hl) (eW (bp (b:= !gp bd s) (by rw[hb];rfl) q))))
 ·rw[if_neg hb]at q
  exact aD (cg hl) (aY eV (aD (cg hl) (eW (aY (b:= !gp bd s) (by rw[Hp.mpr hb];rfl) (aD (cF hf) q)))))
noncomputable abbrev FS(e:MV)(fd:List (Str×MV))(v:MV)(bd:List (Str×MV))(mu:List MC)(ts:List MV)(c a b:Slot):St:=⟨[.fz e,.own (.bI fd),.own (.lst ts),.fz v,.fz (.bI bd),c,a,b],mu⟩
theorem Zt{v gs:MV}{K:St->Prop}(hc:c=.own gs\/c=.fz gs)(hs:Ev (ah W d 24 [.bI bd,gs,.tup (p.2.map .int)] mu) ((f,.bI B),mu))(hl:ts.length<=b8)
 (k:K (FS e fd v bd mu (ts++[.tup [p.1,.bI B]]) (.fz gs) (.fz p.1) (.fz (.tup (p.2.map .int))))):kf (frK Kd) (fV p) (FS e fd v bd mu ts c a b) fun st=>dJ W (ah W d) d (O8 Kd) st (wz K Q):=by
 rcases hc with rfl|rfl
 ·exact aD hl (hs _ (aD hl k))
 ·exact aD hl (hs _ (aD hl k))
theorem Zu{v gs:MV}{bds:List Int->List (Str×MV)}:∀(ps:List (MV×List Int))(ts:List MV)(c a b:Slot),(c=.own gs\/c=.fz gs)->(∀p∈ps,∃f,Ev (ah W d 24 [.bI bd,gs,.tup (p.2.map .int)] mu) ((f,.bI (bds p.2)),mu))->ts.length+ps.length<=b8->
 ∃c' a' b',∀r Q,r (FS e fd v bd mu (ts++ps.map fun p=>.tup [p.1,.bI (bds p.2)]) c' a' b') Q->Uq Kd W d r (ps.map fV) (FS e fd v bd mu ts c a b) Q:=by
 intro ps
 induction ps with
 |nil=>
  intro ts c a b _ _ _
  exact⟨c,a,b,fun r Q k=>by rw[jf,aT]at k;exact k⟩
 |cons p ps cz=>
  intro ts c a b hc hs hl
  rw[et]at hl
  obtain⟨f,h1⟩:=hs p (.head _)
  obtain⟨c',a',b',ih⟩:=cz (ts++[.tup [p.1,.bI (bds p.2)]]) (.fz gs) (.fz p.1) (.fz (.tup (p.2.map .int))) (.inr rfl) (fun p hp=>hs p (.tail _ hp)) (by rw[aF];show ts.length+1+_<=_;lia)
  refine⟨c',a',b',fun r Q k=>Zt hc h1 (by lia) (ih r Q ?_)⟩
  rw[bq]
  exact k
theorem xf{f1 f2:Bool}{gs:MV}{bds:List Int->List (Str×MV)}(hv:v=.inst c fs)(hcv:aL 0 c.n=false)(hm:fE c .parts=some pid)(JN:fE c .groups=some gid)
 (hp:Ev (ah W d pid [v] mu) ((f1,gE ps),mu)) (hg:Ev (ah W d gid [v] mu) ((f2,gs),mu)) (hs:∀p∈ps,∃f,Ev (ah W d 24 [.bI bd,gs,.tup (p.2.map .int)] mu) ((f,.bI (bds p.2)),mu)) (h3:ps.length<=3)
 (hl:ts.length+4<=b8):FR W d e fd fd (ts++[.tup [v,.bI bd]]) (ts++ps.map fun p=>.tup [p.1,.bI (bds p.2)]) mu 1:=fun N Q q=>by
 refine ng 5 ?_;intro a b c' d' e'
 subst hv
 have l1:=NM hl
 obtain⟨c1,a',b',Bc⟩:=Zu (e:=e) (fd:=fd) (v:=.inst c fs) ps ts (if f2 then .own gs else .fz gs) d' e' (by cases f2;exact .inr rfl;exact .inl rfl) hs (Yc hl h3)
 have q:=q [.fz (.inst c fs),.fz (.bI bd),c1,a',b'] rfl
 cases f2
 ·exact aD (cg l1) (aY eV (aD (cg l1) (eW (bp (by rw[hcv];rfl:(aL 0 c.n||false)=false) (eh JN (hg _ (eh hm (hp _ (Bc _ _ q)))))))))
 ·exact aD (cg l1) (aY eV (aD (cg l1) (eW (bp (by rw[hcv];rfl:(aL 0 c.n||false)=false) (eh JN (hg _ (eh hm (hp _ (Bc _ _ q)))))))))
end
noncomputable def iX(nl:List Str)(fd:List (Str×MV)):List (Str×MV):=nl.foldl (fun fd s=>br fd s tT) fd
theorem CZ(a b:List Str)(fd:List (Str×MV)):iX (a++b) fd=iX b (iX a fd):=Hl
theorem CW:∀(nl:List Str)(fd:List (Str×MV)),(iX nl fd).length<=fd.length+nl.length:=by
 intro nl
 induction nl with
 |nil=>
  intro fd
  exact ab _
 |cons s r cz=>
  intro fd
  exact aa (cz (br fd s tT)) (by have h2:=dI (es:=fd) (k:=s) (v:=tT);show _<=fd.length+(r.length+1);lia)
noncomputable def FV(p:MV)(bd:List (Str×MV))(nl:List Str)(h:Nat):Prop:=∃n,∀W d e fd ts mu,ts.length+h<=b8->fd.length+nl.length<b8->
 FR W (d+1) e fd (iX nl fd) (ts++[.tup [p,.bI bd]]) ts mu n
inductive LR(h:Nat)(bds:List Int->List (Str×MV)):List (MV×List Int)->List Str->Prop
 |nil:LR h bds [] []
 |snoc{ps:List (MV×List Int)}{nl XN:List Str}{p:MV}{s:List Int}(hs:LR h bds ps nl)(hp:FV p (bds s) XN h):LR h bds (ps++[(p,s)]) (XN++nl)
theorem fr1{n p h L:Nat}(l:n+(p+1)+h<=L):n+p+h<=L:=by lia
theorem fr3{f x a b L:Nat}(g:x<=f+a)(l:f+(a+b)<L):x+b<L:=aQ (aa (aE g b) (bu (bh f a b))) l
theorem fr4{f a b L:Nat}(l:f+(a+b)<L):f+a<L:=by lia
theorem Oo{nl:List Str}(hs:LR h bds ps nl):∃n,∀W d e fd ts mu,ts.length+ps.length+h<=b8->fd.length+nl.length<b8->
 FR W (d+1) e fd (iX nl fd) (ts++ps.map fun p=>.tup [p.1,.bI (bds p.2)]) ts mu n:=by
 induction hs with
 |nil=>exact⟨0,fun W d e fd ts mu _ _=>by rw[jf,aT];exact fun _ _ q=>q⟩
 | @snoc ps nl XN p s hs hp ih=>
   obtain⟨n1,h1⟩:=hp
   obtain⟨n2,h2⟩:=ih
   refine⟨n2+n1,fun W d e fd ts mu l1 l2=>?_⟩
   rw[aF]at l1 l2
   rw[vA,<-bq,CZ]
   exact(h1 W d e fd (ts++ps.map fun p=>.tup [p.1,.bI (bds p.2)]) mu (by rw[aF,aI];exact fr1 l1) (fr4 l2)).trans (h2 W d e (iX XN fd) ts mu (fr1 l1) (fr3 (CW XN fd) l2))
theorem Un(hh:1<=h):FV (bJ s) bd (if gp bd s=true then []else [s]) h:=by
 refine⟨1,fun W d e fd ts mu l1 l2=>?_⟩
 have e1:=J9 (W:=W) (d:=d+1) (mu:=mu) (e:=e) (bd:=bd) (s:=s) (ts:=ts) (fd:=fd) (eu (iZ hh) l1) (aQ (ak _ _) l2)
 by_cases hb:gp bd s=true
 ·rw[if_pos hb]at e1⊢;exact e1
 ·rw[if_neg hb]at e1⊢;exact e1
theorem yn(hc:aL 0 c.n=false)(hm:fE c .parts=some pid)(JN:fE c .groups=some gid)(hp:∀W d mu,Ev (ah W (d+1) pid [.inst c fs] mu) ((true,.lst []),mu))
 (hg:∀W d mu,Ev (ah W (d+1) gid [.inst c fs] mu) ((true,.lst []),mu)) (hh:4<=h):FV (.inst c fs) bd [] h:=by
 refine⟨1,fun W d e fd ts mu l1 l2=>?_⟩
 have e1:=xf (W:=W) (d:=d+1) (mu:=mu) (e:=e) (bd:=bd) (ps:=[]) (bds:=fun _=>bd) (fd:=fd) rfl hc hm JN (hp W d mu) (hg W d mu) (fun _ h=>nomatch h) (bC _) (ts:=ts) (aa (ag hh _) l1)
 rw[jf,aT]at e1
 exact e1
theorem mU{sh:Sh}{nl:List Str}(hk:sh.ok)(hs:LR h bds sh.parts nl)
 (G6:∀p∈sh.parts,QL bd sh.groups p.2 (bds p.2)) (hh:h+4<=h'):FV sh.mv bd nl h':=by
 obtain⟨n,hr⟩:=Oo hs
 obtain⟨fs,FL⟩:=mO sh
 obtain⟨m1,m2,_⟩:=ir sh
 exact⟨n+1,fun W d e fd ts mu l1 l2=>(xf FL (PM sh) m1 m2 (kP hk) rG (fun p hp=>G6 p hp W d mu) (uK sh) (VZ l1 hh)).trans (hr W d e fd ts mu (pn2 l1 hh (uK sh)) l2)⟩
theorem FV.mono{nl:List Str}(f:FV p bd nl h)(hh:h<=h'):FV p bd nl h':=
 f.imp fun n f W d e fd ts mu l1 l2=>f W d e fd ts mu (aa (ag hh _) l1) l2
section
variable{h:Nat}{bds:List Int->List (Str×MV)}{p q r:MV}{s s' s2:List Int}{a b c:List Str}
theorem Um(hp:FV p (bds s) a h):LR h bds [(p,s)] (a++[]):=LR.snoc .nil hp
theorem Oq(hp:FV p (bds s) a h)(hq:FV q (bds s') b h):LR h bds [(p,s),(q,s')] (b++(a++[])):=LR.snoc (Um hp) hq
theorem Zq(hp:FV p (bds s) a h)(hq:FV q (bds s') b h)(hr:FV r (bds s2) c h):LR h bds [(p,s),(q,s'),(r,s2)] (c++(b++(a++[]))):=LR.snoc (Oq hp hq) hr
end
noncomputable abbrev lS(bd:List (Str×MV))(x:Nm):List (Str×MV):=br (bX bd) (aX x) tT
theorem tQ:(lS bd x).length<=bd.length+1:=aa dI (by rw[f9];exact ab _)
theorem JS:gp (bX bd) s=gp bd s:=by
 unfold gp;rw[kW];unfold look;cases cf bd s<;>rfl
theorem tP(h:y≠x)(hb:gp bd (aX y)=false):gp (br bd (aX x) tT) (aX y)=false:=by
 unfold gp at*;rw[eD,if_neg (j0 h)];exact hb
theorem jB(h:y≠x)(hb:gp bd (aX y)=false):gp (lS bd x) (aX y)=false:=tP h (by rw[JS];exact hb)
noncomputable def B7:List Nat:=103::bases
noncomputable def Pw(s:Str):Prop:=∃b∈B7,s=aX (bN b)
theorem Sz(h:Ok φ0 x):x=bN x.b:=by
 obtain⟨b,k⟩:=x
 cases Nat.le_zero.mp h.1
 rfl
theorem ye(h:Ok φ0 x):Pw (aX x):=⟨x.b,.tail _ h.2,congrArg aX (Sz h)⟩
theorem YQ:Pw gS:=⟨103,.head _,rfl⟩
theorem CA(hh:4<=h):FV (.inst .Lit [a,b]) bd [] h:=yn (pid:=4) (gid:=3) rfl rfl rfl (fun _ _ _=>lZ) (fun W d mu Q q=>ao rfl rfl q) hh
theorem Ot{n1 n2:List Str}(h1:FV a bd n1 h)(h2:FV b bd n2 h)(hh:h+4<=h'):FV (.inst .App [a,.lst [b]]) bd (n2++(n1++[])) h':=
 mU (sh:=.ll a b) (bds:=fun _=>bd) trivial (Oq h1 h2) (all2 s0 s0) hh
theorem Up{n1 n2:List Str}(h1:FV a bd n1 h)(h2:FV b bd n2 h)(hh:h+4<=h'):FV (iQ a b) bd (n2++(n1++[])) h':=
 mU (sh:=.add a b) (bds:=fun _=>bd) trivial (Oq h1 h2) (all2 s0 s0) hh
theorem qy(hh:1<=h)(hs:Pw s):∃nl,FV (bJ s) bd nl h/\(∀q∈nl,Pw q)/\nl.length<=1/\(gp bd s=false->s∈nl):=by
 have f:=Un (s:=s) (bd:=bd) hh
 by_cases e:gp bd s=true
 ·rw[if_pos e]at f
  exact⟨_,f,(fun q hq=>nomatch hq),bC _,fun h=>by replace h:=e▸h;cases h⟩
 ·rw[if_neg e]at f
  exact⟨_,f,fun q hq=>bj.mp hq▸hs,ab _,fun _=>.head _⟩
noncomputable def VX(b0 b1 b2:List (Str×MV)):List Int->List (Str×MV)
 |[]=>b0
 |[_]=>b1
 |_=>b2
theorem Os{z:Int}(hx:Ok φ0 x)(hn:Ok φ0 n)(hl:bd.length+6<=b8):∃nl,FV (ji x n v z) bd nl 20/\(∀q∈nl,Pw q)/\nl.length<=9:=by
 have l1:(lS bd n).length<=bd.length+1:=tQ
 obtain⟨n1,f1,i1,c1,_⟩:=qy (bd:=lS bd n) (h:=12) (by decide) (ye hn)
 obtain⟨n2,f2,i2,c2,_⟩:=qy (bd:=lS (lS bd n) v) (h:=8) (by decide) (ye hx)
 obtain⟨n3,f3,i3,c3,_⟩:=qy (bd:=lS (lS bd n) v) (h:=4) (by decide) (ye hn)
 have a3:=mU (sh:=.bG (bJ (aX n)) (aX v) 0 (fF z) (.inst .App [bJ (aX x),.lst [iQ (bJ (aX n)) (fF (-1))]])) (bd:=lS bd n) (bds:=VX (lS bd n) (lS (lS bd n) v) (lS (lS bd n) v)) (h:=12) (h':=16) ⟨_,_,rfl⟩ (Zq f1 (CA (by decide)) (Ot (h':=12) f2 (Up (h':=8) f3 (CA (a:=sM "int") (b:=.int (-1)) (ab 4)) (by decide)) (by decide)))
  (vp s0 (sD (by lia:(lS bd n).length+2<=b8)) (sB (by lia:(lS bd n).length+2<=b8) (by decide))) (by decide)
 refine⟨_,mU (sh:=.lam (aX n) _) (bds:=fun _=>lS bd n) (h:=16) trivial (Um a3) (all1 (sB (aa (ag (by decide) _) hl) (by decide))) (by decide),fun q hq=>?_,?_⟩
 ·simp only[aT,vz,kA]at hq
  rcases hq with(h|h)|h
  ·exact i3 q h
  ·exact i2 q h
  ·exact i1 q h
 ·simp only[aT,vz,aF];lia
noncomputable def C4(p:MV)(bd:List (Str×MV))(F:Nm->Prop)(m h:Nat):Prop:=∃nl,FV p bd nl h/\(∀y,F y->gp bd (aX y)=false->aX y∈nl)/\(∀s∈nl,Pw s)/\nl.length<=m
noncomputable abbrev fvk{k:K}(t:T k)(y:Nm):Prop:=∃k',fv t k' y
section
variable{sh:Sh}{bd:List (Str×MV)}{bds:List Int->List (Str×MV)}{p q r:MV}{s s' s2:List Int}{F F1 F2 F3:Nm->Prop}{m1 m2 m3 h1 h2 h3 h:Nat}
noncomputable abbrev VG(sh:Sh)(bd:List (Str×MV))(bds:List Int->List (Str×MV)):Prop:=∀p∈sh.parts,QL bd sh.groups p.2 (bds p.2)
theorem Zr(he:sh.parts=[(p,s)])(hk:sh.ok)(G6:VG sh bd bds)(f1:C4 p (bds s) F1 m1 h1)(hF:∀y,F y->gp bd (aX y)=false->F1 y/\gp (bds s) (aX y)=false)(hh:h1+4<=h):C4 sh.mv bd F (1+m1) h:=by
 obtain⟨n1,r1,a1,i1,l1⟩:=f1
 refine⟨_,mU hk (by rw[he];exact Um r1) G6 hh,fun y hy hb=>?_,fun s hs=>?_,?_⟩
 ·have h:=hF y hy hb
  exact cX _ (a1 y h.1 h.2)
 ·rw[aT]at hs;exact i1 s hs
 ·rw[aT];lia
theorem Cz(he:sh.parts=[(p,s),(q,s')])(hk:sh.ok)(G6:VG sh bd bds)(f1:C4 p (bds s) F1 m1 h1)(f2:C4 q (bds s') F2 m2 h2)
 (hF:∀y,F y->gp bd (aX y)=false->(F1 y/\gp (bds s) (aX y)=false)\/(F2 y/\gp (bds s') (aX y)=false)) (hh:max h1 h2+4<=h):C4 sh.mv bd F (1+(m1+m2)) h:=by
 obtain⟨n1,r1,a1,i1,l1⟩:=f1
 obtain⟨n2,r2,a2,i2,l2⟩:=f2
 refine⟨_,mU hk (by rw[he];exact Oq (r1.mono (aC _ _)) (r2.mono (az _ _))) G6 hh,fun y hy hb=>?_,fun s hs=>?_,?_⟩
 ·rcases hF y hy hb with h|h
  ·exact bP _ (cX _ (a1 y h.1 h.2))
  ·exact cX _ (a2 y h.1 h.2)
 ·rw[aT]at hs
  exact(kA.mp hs).elim (i2 s) (i1 s)
 ·rw[aT,aF];lia
theorem J6(he:sh.parts=[(p,s),(q,s'),(r,s2)])(hk:sh.ok)(G6:VG sh bd bds)(f1:C4 p (bds s) F1 m1 h1)(f2:C4 q (bds s') F2 m2 h2)(f3:C4 r (bds s2) F3 m3 h3)
 (hF:∀y,F y->gp bd (aX y)=false->(F1 y/\gp (bds s) (aX y)=false)\/(F2 y/\gp (bds s') (aX y)=false)\/(F3 y/\gp (bds s2) (aX y)=false)) (hh:max h1 (max h2 h3)+4<=h):C4 sh.mv bd F (1+(m1+(m2+m3))) h:=by
 obtain⟨n1,r1,a1,i1,l1⟩:=f1
 obtain⟨n2,r2,a2,i2,l2⟩:=f2
 obtain⟨n3,r3,a3,i3,l3⟩:=f3
 refine⟨_,mU hk (by rw[he];exact Zq (r1.mono (aC _ _)) (r2.mono (aa (aC _ _) (az _ _))) (r3.mono (aa (az _ _) (az _ _)))) G6 hh,fun y hy hb=>?_,fun s hs=>?_,?_⟩
 ·rcases hF y hy hb with h|h|h
  ·exact bP _ (bP _ (cX _ (a1 y h.1 h.2)))
  ·exact bP _ (cX _ (a2 y h.1 h.2))
  ·exact cX _ (a3 y h.1 h.2)
 ·rw[aT]at hs
  exact(kA.mp hs).elim (i3 s) fun h=>(kA.mp h).elim (i2 s) (i1 s)
 ·rw[aT,aF,aF];lia
end
theorem C4.of{nl:List Str}(f:FV p bd nl h)(hF:∀y,¬F y)(i:∀s∈nl,Pw s)(l:nl.length<=m):C4 p bd F m h:=⟨nl,f,fun y hy=>(hF y hy).elim,i,l⟩
theorem C4.nil{F:Nm->Prop}(f:FV p bd [] h)(hF:∀y,¬F y):C4 p bd F m h:=.of f hF (fun _ h=>nomatch h) (bC _)
theorem Qm{bd:List (Str×MV)}(hh:1<=h):C4 (bJ gS) bd (fun _=>False) 1 h:=by
 obtain⟨n,f,i,l,_⟩:=qy (bd:=bd) hh YQ
 exact .of f (fun _ h=>h) i l
section
variable{n n' a b c L:Nat}
theorem X8(h:n+(4+a)<=L)(h':n'<=n+2):n'+a<=L:=by lia
theorem B9(h:n+(4+max a b)<=L)(h':n'<=n+2):n'+a<=L/\n'+b<=L:=⟨X8 (aa (ag (ag (aC _ _) _) _) h) h',X8 (aa (ag (ag (az _ _) _) _) h) h'⟩
theorem G5(h:n+(4+max a (max b c))<=L)(h':n'<=n+2):n'+a<=L/\n'+b<=L/\n'+c<=L:=⟨(B9 h h').1,aa (ag (aC b c) _) (B9 h h').2,aa (ag (az b c) _) (B9 h h').2⟩
end
theorem jZ(hl:n+(4+h)<=L):n+2<=L:=by lia
theorem yt:(br (lS bd x) (aX y) tT).length<=bd.length+2:=aa dI (bA tQ)
theorem Bv:n<=n+2:=ak _ _
theorem yv:(lS bd x).length<=bd.length+2:=aa tQ (dW _)
theorem Uo{k:K}(t:T k):∀bd:List (Str×MV),dj φ0 t->WF t->bd.length+ht t<=b8->C4 (enc t) bd (fvk t) (mh t) (ht t):=by
 induction t with
 |var k x=>
  intro bd A Wf L
  obtain⟨n,f,i,l,m⟩:=qy (bd:=bd) (h:=4) (by decide) (ye A)
  exact⟨n,f,fun y⟨k',h⟩ hb=>by obtain⟨_,rfl⟩:=h;exact m hb,i,l⟩
 |err k=>exact fun bd A Wf L=>.nil (yn (pid:=22) (gid:=21) rfl rfl rfl (fun _ _ _=>lB) (fun W d mu Q q=>ao rfl rfl q) (ab 4)) fun y e=>e.elim fun _ h=>h
 |lit z=>exact fun bd A Wf L=>.nil (CA (ab 4)) fun y e=>e.elim fun _ h=>h
 |cD=>exact fun bd A Wf L=>.nil (yn (pid:=19) (gid:=18) rfl rfl rfl (fun _ _ _=>mK) (fun W d mu Q q=>ao rfl rfl q) (ab 4)) fun y e=>e.elim fun _ h=>h
 |add a b bZ dE=>
  exact fun bd A Wf L=>Cz (sh:=.add (enc a) (enc b)) (bds:=fun _=>bd) rfl trivial (all2 s0 s0) (bZ bd A.1 Wf.1 (B9 L Bv).1) (dE bd A.2 Wf.2 (B9 L Bv).2) (fun y e hb=>e.elim fun k h=>h.elim (fun h=>.inl ⟨⟨k,h⟩,hb⟩) fun h=>.inr ⟨⟨k,h⟩,hb⟩) (dm rfl)
 |app a b bZ dE=>
  exact fun bd A Wf L=>Cz (sh:=.ll (enc a) (enc b)) (bds:=fun _=>bd) rfl trivial (all2 s0 s0) (bZ bd A.1 Wf.1 (B9 L Bv).1) (dE bd A.2 Wf.2 (B9 L Bv).2) (fun y e hb=>e.elim fun k h=>h.elim (fun h=>.inl ⟨⟨k,h⟩,hb⟩) fun h=>.inr ⟨⟨k,h⟩,hb⟩) (dm rfl)
 |gap2 a b bZ dE=>
  exact fun bd A Wf L=>J6 (sh:=.qO (bJ gS) (enc a) (enc b)) (bds:=fun _=>bd) rfl trivial (vp s0 s0 s0) (Qm (h:=1) (ab 1)) (bZ bd A.1 Wf.1 (B9 L Bv).1) (dE bd A.2 Wf.2 (B9 L Bv).2) (fun y e hb=>e.elim fun k h=>.inr (h.elim (fun h=>.inl ⟨⟨k,h⟩,hb⟩) fun h=>.inr ⟨⟨k,h⟩,hb⟩))
   (Ma (by decide) (nX a))
 |eg a bZ=>
  exact fun bd A Wf L=>Cz (sh:=.ll (bJ gS) (enc a)) (bds:=fun _=>bd) rfl trivial (all2 s0 s0) (Qm (h:=1) (ab 1)) (bZ bd A Wf (X8 L Bv)) (fun y e hb=>e.elim fun k h=>.inr ⟨⟨k,h⟩,hb⟩) (JN (by decide) (nX a))
 |cC a bZ=>exact fun bd A Wf L=>Zr (sh:=.qD (enc a)) (bds:=fun _=>bd) rfl trivial (all1 s0) (bZ bd A Wf (X8 L Bv)) (fun y e hb=>e.elim fun k h=>⟨⟨k,h⟩,hb⟩) (bu (aW _ _))
 |lam x b ih=>exact fun bd A Wf L=>Zr (sh:=.lam (aX x) (enc b)) (bds:=fun _=>lS bd x) rfl trivial (all1 (sB (jZ L) (by decide))) (ih (lS bd x) A.2 Wf.1 (X8 L yv)) (fun y e hb=>e.elim fun k h=>⟨⟨k,h.1⟩,jB h.2 hb⟩) (bu (aW _ _))
 |let1 x a b bZ dE=>
  exact fun bd A Wf L=>Cz (sh:=.let1 (aX x) (enc a) (enc b) false) (bds:=VX bd (lS bd x) bd) rfl trivial (all2 s0 (sB (jZ L) (by decide))) (bZ bd A.2.1 Wf.1 (B9 L Bv).1) (dE (lS bd x) A.2.2 Wf.2.1 (B9 L yv).2) (fun y e hb=>e.elim fun k h=>h.elim (fun h=>.inl ⟨⟨k,h⟩,hb⟩) fun h=>.inr ⟨⟨k,h.1⟩,jB h.2 hb⟩) (dm rfl)
 |dQ x a b bZ dE=>
  exact fun bd A Wf L=>Cz (sh:=.let1 (aX x) (enc a) (enc b) true) (bds:=fun _=>lS bd x) rfl trivial (all2 (sB (jZ L) (by decide)) (sB (jZ L) (by decide))) (bZ (lS bd x) A.2.1 Wf.1 (B9 L yv).1) (dE (lS bd x) A.2.2 Wf.2.2.1 (B9 L yv).2)
   (fun y e hb=>e.elim fun k h=>h.elim (fun h=>.inl ⟨⟨k,h⟩,jB (fun e=>Wf.2.1 k (e▸h)) hb⟩) fun h=>.inr ⟨⟨k,h.1⟩,jB h.2 hb⟩) (dm rfl)
 |bW x a y c b bZ yg dE=>
  exact fun bd A Wf L=>J6 (sh:=.bW (aX x) (enc a) (aX y) (enc c) (enc b)) (bds:=VX bd (br (lS bd x) (aX y) tT) bd) rfl trivial (vp s0 s0 (sC (jZ L))) (bZ bd A.2.2.1 Wf.2.1 (G5 L Bv).1) (yg bd A.2.2.2.1 Wf.2.2.1 (G5 L Bv).2.1) (dE _ A.2.2.2.2 Wf.2.2.2.1 (G5 L yt).2.2)
   (fun z e hb=>e.elim fun k h=>h.elim (fun h=>.inl ⟨⟨k,h⟩,hb⟩) fun h=>h.elim (fun h=>.inr (.inl ⟨⟨k,h⟩,hb⟩)) fun h=>.inr (.inr ⟨⟨k,h.1.1⟩,tP h.1.2 (jB h.2 hb)⟩)) (dm rfl)
 |dR x n v z b dE=>
  intro bd A Wf L
  have L:bd.length+(24+ht b)<=b8:=L
  have l1:=tQ (bd:=bd) (x:=x)
  obtain⟨nd,fd,id,cd⟩:=Os (bd:=lS bd x) (z:=z) (v:=v) A.1 A.2.1 (by lia)
  exact Cz (sh:=.let1 (aX x) (ji x n v z) (enc b) true) (bds:=fun _=>lS bd x) (F1:=fun _=>False) rfl trivial (all2 (sB (by lia) (by decide)) (sB (by lia) (by decide))) (.of fd (fun _ h=>h) id cd) (dE (lS bd x) A.2.2.2 Wf.2.1 (by lia)) (fun y e hb=>e.elim fun k h=>.inr ⟨⟨k,h.1⟩,jB h.2 hb⟩) (by show _<=24+ht b;lia)
 |bG s x z a o gj bZ gn=>
  exact fun bd A Wf L=>J6 (sh:=.bG (enc s) (aX x) z (enc a) (enc o)) (bds:=VX bd (lS bd x) (lS bd x)) rfl (d8 o) (vp s0 (sD (jZ L)) (sB (jZ L) (by decide))) (gj bd A.1 Wf.1 (G5 L Bv).1) (bZ (lS bd x) A.2.2.1 Wf.2.1.1 (G5 L yv).2.1) (gn (lS bd x) A.2.2.2 Wf.2.2.1 (G5 L yv).2.2)
   (fun y e hb=>e.elim fun k h=>h.elim (fun h=>.inl ⟨⟨k,h⟩,hb⟩) fun h=>.inr (h.1.elim (fun g=>.inl ⟨⟨k,g⟩,jB h.2 hb⟩) fun g=>.inr ⟨⟨k,g⟩,jB h.2 hb⟩)) (dm rfl)
 |cE s x o gj gn=>
  exact fun bd A Wf L=>Cz (sh:=.jk (enc s) (aX x) (enc o)) (bds:=VX bd (lS bd x) bd) rfl (d8 o) (all2 s0 (sB (jZ L) (by decide))) (gj bd A.1 Wf.1 (B9 L Bv).1) (gn (lS bd x) A.2.2 Wf.2.1 (B9 L yv).2) (fun y e hb=>e.elim fun k h=>h.elim (fun h=>.inl ⟨⟨k,h⟩,hb⟩) fun h=>.inr ⟨⟨k,h.1⟩,jB h.2 hb⟩) (dm rfl)
 |bK s x y a o gj bZ gn=>
  exact fun bd A Wf L=>J6 (sh:=.bK (enc s) (aX x) (aX y) (enc a) (enc o)) (bds:=fun l=>match l with|[]=>bd|[_]=>bd|_::z::_=>if z=2 then lS bd x else br (lS bd x) (aX y) tT) rfl trivial (vp s0 (sE (jZ L) (by decide)) (sF (jZ L))) (gj bd A.1 Wf.1 (G5 L Bv).1) (bZ _ A.2.2.2.1 Wf.2.1.1 (G5 L yt).2.1) (gn (lS bd x) A.2.2.2.2 Wf.2.2.1 (G5 L yv).2.2)
   (fun z e hb=>e.elim fun k h=>h.elim (fun h=>.inl ⟨⟨k,h⟩,hb⟩) fun h=>.inr (h.1.elim (fun g=>.inl ⟨⟨k,g.1⟩,tP g.2 (jB h.2 hb)⟩) fun g=>.inr ⟨⟨k,g⟩,jB h.2 hb⟩)) (dm rfl)
 |bD s x y a o gj bZ gn=>
  exact fun bd A Wf L=>J6 (sh:=.bD (enc s) (aX x) (aX y) (enc a) (enc o)) (bds:=VX bd (lS bd x) (br (lS bd x) (aX y) tT)) rfl (d8 o) (vp s0 (sE (jZ L) (by decide)) (sB (jZ L) (ae rfl))) (gj bd A.1 Wf.1 (G5 L Bv).1) (bZ _ A.2.2.2.1 Wf.2.1.1 (G5 L yt).2.1) (gn (lS bd x) A.2.2.2.2 Wf.2.2.1 (G5 L yv).2.2)
   (fun z e hb=>e.elim fun k h=>h.elim (fun h=>.inl ⟨⟨k,h⟩,hb⟩) fun h=>.inr (h.1.elim (fun g=>.inl ⟨⟨k,g.1⟩,tP g.2 (jB h.2 hb)⟩) fun g=>.inr ⟨⟨k,g⟩,jB h.2 hb⟩)) (dm rfl)
section
variable{es:List (Str×MV)}{v:MV}{b:Nat}
noncomputable abbrev Bb(es:List (Str×MV))(c:Nat):Bool:=(cf es (aX (bN c))).isSome
theorem JI:Bb (br es (aX (bN b)) v) c=(decide (aX (bN c)=aX (bN b))||Bb es c):=by
 unfold Bb;rw[eD]
 by_cases e:aX (bN c)=aX (bN b)
 ·rw[if_pos e,decide_eq_true e];rfl
 ·rw[if_neg e,decide_eq_false e];rfl
theorem Aw(l:List Nat):(l.filter (Bb es)).length<=(l.filter (Bb (br es (aX (bN b)) v))).length:=by
 induction l with
 |nil=>exact ab _
 |cons c l ih=>
  rw[dw,dw,JI]
  by_cases h:Bb es c=true
  ·rw[h,nF,if_pos rfl,if_pos rfl];exact bA ih
  ·rw[if_neg h]
   split
   ·exact dM ih
   ·exact ih
theorem OX(hd:Bb es b=false):∀(l:List Nat),b∈l->(l.filter (Bb es)).length+1<=(l.filter (Bb (br es (aX (bN b)) v))).length:=by
 intro l
 induction l with
 |nil=>
  intro h
  exact nomatch h
 |cons c l cz=>
  intro h
  rw[dw,dw,JI]
  by_cases e:aX (bN c)=aX (bN b)
  ·have hc:Bb es c=false:=by unfold Bb at*;exact e.symm▸hd
   rw[decide_eq_true e,hc,if_neg aJ,rW,if_pos rfl]
   exact bA (Aw l)
  ·have hl:b∈l:=(aA.mp h).elim (fun q=>(e (by rw[q])).elim) id
   rw[decide_eq_false e,qc]
   split
   ·exact bA (cz hl)
   ·exact(cz hl)
theorem HV(l:List Nat)(hb:b∈l)(h:es.length<=(l.filter (Bb es)).length):(br es (aX (bN b)) v).length<=(l.filter (Bb (br es (aX (bN b)) v))).length:=by
 rcases hd:Bb es b with _|_
 ·exact aa dI (aa (bA h) (OX hd l hb))
 ·rw[wD hd];exact aa h (Aw l)
end
theorem CY:∀(nl:List Str)(fd:List (Str×MV)),(∀s∈nl,Pw s)->fd.length<=(B7.filter (Bb fd)).length->(iX nl fd).length<=(B7.filter (Bb (iX nl fd))).length:=by
 intro nl
 induction nl with
 |nil=>
  intro fd _ h
  exact h
 |cons s r cz=>
  intro fd hs hf
  obtain⟨b,hb,rfl⟩:=hs s (.head _)
  exact cz _ (fun q hq=>hs q (.tail _ hq)) (HV B7 hb hf)
theorem yR{nl:List Str}(h:∀s∈nl,Pw s):(iX nl []).length<=7:=aa (CY nl [] h (bC _)) (aa (Bi _ _) (by decide))
theorem A0:∀(nl:List Str)(fd:List (Str×MV)),(cf fd s).isSome=true->(cf (iX nl fd) s).isSome=true:=by
 intro nl
 induction nl with
 |nil=>
  intro fd h
  exact h
 |cons q r cz=>
  intro fd h
  exact cz _ (by
   rw[eD]
   split
   ·rfl
   ·exact h)
theorem AZ:∀(nl:List Str)(fd:List (Str×MV)),s∈nl->(cf (iX nl fd) s).isSome=true:=by
 intro nl
 induction nl with
 |nil=>
  intro fd h
  exact nomatch h
 |cons q r cz=>
  intro fd h
  rcases aA.mp h with rfl|h
  ·exact A0 r _ (by rw[eD,if_pos rfl];rfl)
  ·exact cz _ h
theorem CX{nl:List Str}(h:s∈nl):∃v,(s,v)∈iX nl []:=by
 obtain⟨v,hv⟩:=en.mp (AZ nl [] h)
 exact⟨v,As hv⟩
theorem IT{s q:Str}:∀{L:List Str},s=q\/s∈L->s∈yc q L:=by
 intro L
 induction L with
 |nil=>
  intro h
  exact h.elim (fun e=>e▸ .head _) (fun h=>nomatch h)
 |cons a r cz=>
  intro h
  show s∈ @bE (fun _=>List Str) (a::yc q r) (q::a::r) (qh q a)
  cases qh q a
  ·rcases h with h|h
   ·exact .tail _ (cz (.inl h))
   ·rcases aA.mp h with h|h
    ·exact h▸ .head _
    ·exact .tail _ (cz (.inr h))
  ·exact h.elim (fun e=>e▸ .head _) (fun h=>.tail _ h)
theorem Fk:∀{L:List Str},s∈L->s∈qi L:=by
 intro L
 induction L with
 |nil=>
  intro h
  exact nomatch h
 |cons a r cz=>
  intro h
  exact IT ((aA.mp h).imp id cz)
theorem YO:∀{L:List Str}{Q:Bool->Prop},Q (decide (s∈L))->inW (.str s) (L.map .str) Q:=by
 intro L
 induction L with
 |nil=>
  intro Q q
  rw[decide_eq_false (fun h=>nomatch h)]at q;exact q
 |cons a r cz=>
  intro Q q
  exact cz (Q:=fun r=>Q (sq a s||r)) (by
   have e:(sq a s||decide (s∈r))=decide (s∈a::r):=by
    by_cases h:a=s
    ·subst h;rw[k9,decide_eq_true (p:=a∈a::r) (.head _)];rfl
    ·rw[jX h,qc]
     exact decide_eq_decide.mpr ⟨fun m=>.tail _ m,fun m=>(aA.mp m).elim (fun q=>(h q.symm).elim) id⟩
   rw[e];exact q)
section
variable{W d n:Nat}{mu:List MC}{v:MV}{fd:List (Str×MV)}{s:Str}{J:List Slot}
theorem Zy(hW:n+1<=W)(hf:fd.length<=59)(h:FR W d v [] fd [.tup [v,.bI []]] [] mu n):Ev (ah W (d+1) 25 [v] mu) ((true,.lst ((qi (fd.map (·.1))).map .str)),mu):=fun Q q=>by
 have h:=h (W-n)
 replace h:=bL (cv hW)▸h
 refine ao rfl rfl (h _ (ng 5 ?_) [.un,.un,.un,.un,.un] rfl)
 intro a b c d' e
 obtain⟨N,hN⟩:∃N,W-n=N+1:=⟨_,(bL (jn hW)).symm⟩
 exact hN.symm▸mj (bT hf) q
theorem TO{L:List Str}(h:Ev (ah W d 25 [v] mu) ((true,.lst (L.map .str)),mu)):Ev (ah W (d+1) 26 [.str s,v] mu) ((false,.bool (decide (s∈L))),mu):=fun Q q=>
 ao rfl rfl (h _ (YO q))
end
theorem Ov{t:T k}(A:dj φ0 t)(Wf:WF t)(hl:16*mh t<=b8):∃(r:Bool)(w0:Nat),(r=false->∀k,¬fv t k x)/\∀W d mu,w0<=W->Ev (ah W (d+3) 26 [vN x,enc t] mu) ((false,.bool r),mu):=by
 have hh:=oZ t
 have hp:=Dx t
 obtain⟨nl,⟨n,run⟩,ha,hi,hn⟩:=Uo t [] A Wf (by show 0+_<=_;lia)
 refine⟨decide (aX x∈qi ((iX nl []).map (·.1))),n+1,fun hf k hk=>?_,fun W d mu hW=>?_⟩
 ·obtain⟨v,hv⟩:=CX (ha x ⟨k,hk⟩ rfl)
  exact absurd (decide_eq_true (Fk (d6.mpr ⟨_,hv,rfl⟩))) (by rw[hf];exact aJ)
 ·exact TO (Zy hW (aa (yR hi) (by decide)) (run W d (enc t) [] [] mu (by show 0+_<=_;lia) (by show 0+_<_;lia)))
noncomputable abbrev vV(W d:Nat)(k E:MV)(n:Int)(m:List MC)(t:MV)(m1:List MC):Prop:=Ev (ah W d 56 [.ref 1,k,E,.int n] m) ((false,t),m1)
noncomputable abbrev QZ(W d:Nat)(E x k E1:MV)(m:List MC):Prop:=Ev (ah W d 51 [E,.lst [.tup [x,k]]] m) ((true,E1),m)
theorem tJ(hd:aV 2 D=true)(a:A):gd (aV 2 D) A:=mj hd a
theorem eqI(k:Q (decide (x=y))):CF .eq (.int x) (.int y) Q:=k
theorem iEv{d z:Nat}{K:Qe}(k:K false (.int z) st):(cP cl d (.int z p)).ev st K:=k
section
variable{W d:Nat}{m m1 m2 m3 m4 m5 m6 m7:List MC}{k E E1 E2 x s u o v e j:MV}{js:Str}{n z p:Int}
noncomputable abbrev xyv:List MV:=[sM "x",sM "y",sM "v"]
noncomputable abbrev YR:List MV:=[sM "i",sM "c",sM "c",sM "f"]
noncomputable abbrev fS:Str:=af "f"
noncomputable abbrev cS:Str:=af "c"
noncomputable abbrev iS:Str:=af "i"
noncomputable def Hb:Ss:=gu (gu (gu vi))
noncomputable abbrev cst(k E:MV)(n:Int)(x:MV)(js:Str)(s:MV)(c7:Slot)(al:List MV)(KZ:Slot)(m:List MC):St:=⟨[.fz (.ref 1),.fz k,.fz E,.fz (.int n),.fz x,.fz (.str js),.fz s,c7,.own (.lst al),.fz .none,KZ],m⟩
variable{al:List MV}{c7 KZ:Slot}{Q:oS}
theorem O6(p1:G3 W d xyv m x m1)(p2:G3 W d YR m1 (.str js) m2)(h3:vV W d (.str js) E (n-1) m2 s m3)(w:QZ W d E x (.str js) E1 m3)
 (q:dJ W (ah W d) d Hb (cst k E n x js s (.own E1) [] .un m3) (eL Q)):ah W (d+1) 55 [.ref 1,k,E,.int n] m Q:=ao rfl rfl (p1 _ (p2 _ (h3 _ (w _ q))))
noncomputable abbrev alC(e u:MV):MV:=.inst .Alt [.tup [sM "con",sM "C"],.lst [e],u]
theorem Z5(hc:sq js cS=false)(q:dJ W (ah W d) d (gu Hb) (cst k E n x js s c7 al KZ m) (eL Q)):dJ W (ah W d) d Hb (cst k E n x js s c7 al KZ m) (eL Q):=bp hc q
theorem Z6(hd:aV 2 d=true)(hc:sq js cS=true)(p4:G3 W d [sM "x",sM "z"] m e m4)(w2:QZ W d E1 e (sM "i") E2 m4)(h5:vV W d k E2 (n-1) m4 u m5)
 (q:dJ W (ah W d) d (gu Hb) (cst k E n x js s (.fz E1) [alC e u] (.fz e) m5) (eL Q)):dJ W (ah W d) d Hb (cst k E n x js s (.own E1) [] .un m) (eL Q):=aY hc (p4 _ (w2 _ (h5 _ (tJ hd q))))
theorem KY(hi:sq js iS=false)(q:dJ W (ah W d) d (gu (gu Hb)) (cst k E n x js s c7 al KZ m) (eL Q)):dJ W (ah W d) d (gu Hb) (cst k E n x js s c7 al KZ m) (eL Q):=bp hi q
theorem abu(hd:aV 2 d=true)(hi:sq js iS=true)(h4:sU W d 3 m z m4)(h5:vV W d k E1 (n-1) m4 u m5)
 (q:dJ W (ah W d) d (gu (gu Hb)) (cst k E n x js s (.fz E1) [LK z u] KZ m5) (eL Q)):dJ W (ah W d) d (gu Hb) (cst k E n x js s (.own E1) [] KZ m) (eL Q):=aY hi (h4 _ (h5 _ (tJ hd q)))
theorem QC(hd:aV 2 d=true)(hc:sq js cS=false)(b:Bool)(h:vV W d k E1 (n-1) m o m1)(q:Q false (.inst .Case [s,x,.lst al,o]) m1):dJ W (ah W d) d (gu (gu Hb)) (cst k E n x js s (lL b E1) al KZ m) (eL Q):=by
 induction b<;>exact bp hc (bp rfl (h _ (tJ hd q)))
theorem Z8(hd:aV 2 d=true)(hc:sq js cS=true)(t:sU W d 2 m z m1)(hz:decide (z=0)=false)(h:vV W d k E1 (n-1) m1 o m2)(q:Q false (.inst .Case [s,x,.lst al,o]) m2):dJ W (ah W d) d (gu (gu Hb)) (cst k E n x js s (.fz E1) al KZ m) (eL Q):=
 aY hc (t _ (bp hz (bp rfl (h _ (tJ hd q)))))
theorem Z7(hd:aV 2 d=true)(hl:al.length<=b8)(hc:sq js cS=true)(t:sU W d 2 m z m1)(hz:decide (z=0)=true)(h:vV W d k E1 (n-1) m1 o m2)(q:Q false (.inst .Case [s,x,.lst (al++[Pp o]),.none]) m2):dJ W (ah W d) d (gu (gu Hb)) (cst k E n x js s (.fz E1) al KZ m) (eL Q):=
 aY hc (t _ (aY hz (aD hl (h _ (tJ hd (aD hl (tJ hd q)))))))
noncomputable def zP:Ss:=gu (gu (gu rN))
noncomputable abbrev lT(k E:MV)(n:Int)(x j:MV)(R:Bool)(m:List MC):St:=⟨[.fz (.ref 1),.fz k,.fz E,.fz (.int n),.fz x,.fz j,.un,.fz (.bool R),.un,.un],m⟩
theorem Yi{R:Bool}(hd:aV 2 d=true)(h1:vV W d j E (n-1) m u m1)(w:QZ W d E x j (.bI es) m1)(t:sU W d 4 m1 0 m2)(h2:vV W d (sM "i") E (n-1) m2 v m3)(hl:es.length<=b8)
 (h3:vV W d k (.bI (br es (af "w") (sM "i"))) (n-1) m3 o m4) (q:Q false (.inst .Let [.lst [.tup [x,u],.tup [sM "w",v]],o,.bool false]) m4):dJ W (ah W d) d zP (lT k E n x j R m) (eL Q):=by
 cases R
 ·exact h1 _ (w _ (t _ (h2 _ (aD hl (h3 _ (tJ hd q))))))
 ·exact h1 _ (w _ (t _ (h2 _ (aD hl (h3 _ (tJ hd q))))))
theorem let_1(hd:aV 2 d=true)(h1:vV W d j E (n-1) m u m1)(w:QZ W d E x j E1 m1)(t:sU W d 4 m1 z m2)(hz:decide (z=0)=false)
 (h3:vV W d k E1 (n-1) m2 o m4) (q:Q false (.inst .Let [.lst [.tup [x,u]],o,.bool false]) m4):dJ W (ah W d) d zP (lT k E n x j false m) (eL Q):=
 h1 _ (w _ (t _ (bp hz (h3 _ (tJ hd q)))))
theorem P1(hd:aV 2 d=true)(h1:vV W d j E (n-1) m u m1)(w:QZ W d E x j E1 m1)(t:sU W d 4 m1 z m2)(hz:decide (z=0)=false)
 (h3:vV W d k E1 (n-1) m2 o m4) (h4:Ev (ah W d 26 [x,u] m4) ((false,.bool r),m4)) (q:Q false (.inst .Let [.lst [.tup [x,u]],o,.bool (!r)]) m4):dJ W (ah W d) d zP (lT k E n x j true m) (eL Q):=
 h1 _ (w _ (t _ (bp hz (h3 _ (h4 _ (tJ hd q))))))
noncomputable abbrev WJ:List MV:=[sM "x",sM "y",sM "z"]
noncomputable abbrev N9:List MV:=[sM "i",sM "i",sM "f",sM "c"]
theorem To(hj:sq js fS=false)(p1:G3 W d WJ m x m1)(p2:G3 W d N9 m1 (.str js) m2)(q:dJ W (ah W d) d zP (lT k E n x (.str js) false m2) (eL Q)):ah W (d+1) 54 [.ref 1,k,E,.int n] m Q:=by
 exact ao rfl rfl (p1 _ (p2 _ (bp hj (bp rfl (bp hj (by exact hj.symm▸q:dJ W (ah W d) d zP (lT k E n x (.str js) (sq js fS) m2) (eL Q)))))))
theorem Yh(hj:sq js fS=true)(t2:sU W d 3 m3 p m4)(q:dJ W (ah W d) d zP (lT k E n x (.str js) (decide (p=0)) m4) (eL Q)):dJ W (ah W d) d (gu (gu rN)) ⟨[.fz (.ref 1),.fz k,.fz E,.fz (.int n),.fz x,.fz (.str js),.un,.un,.un,.un],m3⟩ (eL Q):=
 aY hj (t2 _ (iEv (eqI q)))
theorem Tp(hj:sq js fS=true)(p1:G3 W d WJ m x m1)(p2:G3 W d N9 m1 (.str js) m2)(t:sU W d 3 m2 z m3)(hz:decide (z=0)=false)(t2:sU W d 3 m3 p m4)(q:dJ W (ah W d) d zP (lT k E n x (.str js) (decide (p=0)) m4) (eL Q)):ah W (d+1) 54 [.ref 1,k,E,.int n] m Q:=
 ao rfl rfl (p1 _ (p2 _ (aY hj (t _ (bp hz (bp rfl (Yh hj t2 q)))))))
theorem Tq(hd:aV 2 d=true)(hj:sq js fS=true)(hz:decide (z=0)=true)(p1:G3 W d WJ m x m1)(p2:G3 W d N9 m1 (.str js) m2)(t:sU W d 3 m2 z m3)(w:QZ W d E x (sM "f") E1 m3)(h:vV W d k E1 (n-1) m3 o m4)(h2:Ev (ah W d 53 [.ref 1,x] m4) ((false,u),m5)):
 Ev (ah W (d+1) 54 [.ref 1,k,E,.int n] m) ((false,.inst .Let [.lst [.tup [x,u]],o,.bool true]),m5):=fun Q q=>ao rfl rfl (p1 _ (p2 _ (aY hj (t _ (aY hz (w _ (h _ (h2 _ (tJ hd q)))))))))
end
inductive Draws(n:Nat)(D:Nat)(f:Nat)(as:List MV)(k:K)(es:List (Str×MV))(a b:Int):Prop
 |mk(t:T k)(a' b':Int)(hd:Dr n es t)(hs:kn b')(w0:Nat)(h:∀W,w0<=W->∀mu:List MC,1<mu.length->Ev (ah W D f as (sm mu a b)) ((false,enc t),sm mu a' b'))
noncomputable def yV(n D:Nat)(z:Int):Prop:=∀(k:K)(es:List (Str×MV))(a b:Int),te es->es.length+3*n<=900->kn b->Draws n D 56 [.ref 1,kM k,.bI es,.int z] k es a b
noncomputable abbrev VN(n D:Nat):Prop:=yV n D n
theorem iA(h:cf (br es (aX x) (kM k)) (aX y)=some (kM k')):(y≠x->cf es (aX y)=some (kM k'))/\(y=x->k'=k):=by
 rw[eD]at h
 refine⟨fun e=>?_,fun e=>?_⟩
 ·rwa [if_neg (j0 e)]at h
 ·subst e;rw[if_pos rfl]at h;exact(Jp (ar h)).symm
theorem n_y:af "y"=aX (bN 121):=by decide
theorem n_z:af "z"=aX (bN 122):=by decide
theorem m_y:sM "y"=vN (bN 121):=congrArg MV.str n_y
theorem m_z:sM "z"=vN (bN 122):=congrArg MV.str n_z
theorem m_v:sM "v"=vN (bN 118):=congrArg MV.str n_v
theorem m_w:sM "w"=vN (bN 119):=congrArg MV.str (by decide)
theorem or3{m a b c:MV}{P:Prop}(h:m∈[a,b,c])(h1:m=a->P)(h2:m=b->P)(h3:m=c->P):P:=by
 rcases aA.mp h with h|h
 ·exact h1 h
 ·rcases aA.mp h with h|h
  ·exact h2 h
  ·exact h3 (bj.mp h)
theorem names3{m:MV}(h:m∈WJ):∃c∈bases,(c≠119/\c≠110/\c≠118)/\m=vN (bN c):=
 or3 h (fun h=>⟨120,by decide,by decide,h.trans X0⟩) (fun h=>⟨121,by decide,by decide,h.trans m_y⟩) (fun h=>⟨122,by decide,by decide,h.trans m_z⟩)
theorem SV{m:MV}(h:m∈xyv):∃c∈bases,m=vN (bN c):=or3 h (fun h=>⟨120,by decide,h.trans X0⟩) (fun h=>⟨121,by decide,h.trans m_y⟩) (fun h=>⟨118,by decide,h.trans m_v⟩)
theorem names2{m:MV}{a b:Nat}(h:m∈[vN (bN a),vN (bN b)])(ha:a∈bases)(hb:b∈bases):∃c∈bases,m=vN (bN c):=
 or3 (List.mem_cons_of_mem _ h) (fun h=>⟨a,ha,h⟩) (fun h=>⟨a,ha,h⟩) (fun h=>⟨b,hb,h⟩)
theorem sorts{m:MV}(h:m∈[kM .i,kM .i,kM .f,kM .c]):∃k,m=kM k:=by
 rcases aA.mp h with h|h
 ·exact⟨_,h⟩
 ·exact or3 h (fun h=>⟨_,h⟩) (fun h=>⟨_,h⟩) (fun h=>⟨_,h⟩)
theorem Rt{m:MV}(h:m∈[kM .i,kM .c,kM .c,kM .f]):∃k,m=kM k:=by
 rcases aA.mp h with h|h
 ·exact⟨_,h⟩
 ·exact or3 h (fun h=>⟨_,h⟩) (fun h=>⟨_,h⟩) (fun h=>⟨_,h⟩)
theorem UI(h:Dr n es t)(hn:n<=3):16*mh t<=b8:=by
 have h1:=Qw h.dp
 have h2:=I5 t
 have h3:=gK t
 have h4:FB n<=192:=mQ (P:=fun n=>FB n<=192) (mQ (mQ (mQ (fun m h=>(gw m h).elim) (ae rfl)) (ae rfl)) (ae rfl)) (ae rfl) n (LW hn)
 unfold b8
 lia
theorem y0{a b c W:Nat}(h:max (max a b) c<=W):a<=W/\b<=W/\c<=W:=⟨(bV.mp (bV.mp h).1).1,(bV.mp (bV.mp h).1).2,(bV.mp h).2⟩
theorem PV{a b W:Nat}(h:max a b<=W):a<=W/\b<=W:=bV.mp h
theorem Bf{a b n:Nat}(h:a+3*(n+1)<=900)(h':b<=a+3):b+3*n<=900:=aa (aE h' _) (aa (bu (by rw[d9,bh,aW 3])) h)
theorem Gg{a n:Nat}(h:a+3*(n+1)<=900):a<=1000/\a+1<=1000/\a+2<=b8:=by
 have h:a+3<=900:=aa (ag (Nat.le_mul_of_pos_right 3 (sL n)) a) h
 exact⟨aa (ak a 3) (aa h (by decide)),aa (cF (cu h)) (by decide),aa (cF h) (ae rfl)⟩
section
variable{n D:Nat}{k:K}{es:List (Str×MV)}{a b:Int}
theorem O0(ih:yV n (D+4) ((n:Int)+1-1))(hE:te es)(hl:es.length+3*(n+1)<=900)(hb:kn b):Draws (n+1) (D+5) 55 [.ref 1,kM k,.bI es,.int ((n:Int)+1)] k es a b:=by
 obtain⟨mx,hx,a1,b1,s1,t1⟩:=pick (xs:=xyv) (a:=a) (bl _ _) (by decide) hb
 obtain⟨c,hc,rfl⟩:=SV hx
 obtain⟨ms,hs,a2,b2,s2,t2⟩:=pick (xs:=YR) (a:=a1) (bl _ _) (by decide) s1
 obtain⟨j,rfl⟩:=Rt hs
 obtain⟨s,a3,b3,ds,s3,w3,t3⟩:=ih j es a2 b2 hE (Bf hl (ak _ _)) s2
 have G8:=ml (k:=j) hc hE
 have xe:=dI (es:=es) (k:=aX (bN c)) (v:=kM j)
 cases j
 ·
  obtain⟨z,a4,b4,hz,s4,t4⟩:=draw a3 b3 3 (by decide) (by decide) s3
  obtain⟨u,a5,b5,du,s5,w5,t5⟩:=ih k _ a4 b4 G8 (Bf hl (aa xe (ag (by decide) _))) s4
  obtain⟨o,a6,b6,nf,s6,w6,t6⟩:=ih k _ a5 b5 G8 (Bf hl (aa xe (ag (by decide) _))) s5
  exact⟨.bG s (bN c) z u o,a6,b6,⟨.bG ds.dp du.dp nf.dp,⟨ds.ok,yY hc,du.ok,nf.ok⟩,⟨ds.wf,⟨du.wf,fun k' h=>(iA (du.fv k' _ h)).2 rfl⟩,nf.wf,fun k' h=>(iA (nf.fv k' _ h)).2 rfl⟩,
   fun k' y h=>h.elim (ds.fv k' y) fun h=>h.1.elim (fun g=>(iA (du.fv k' y g)).1 h.2) fun g=>(iA (nf.fv k' y g)).1 h.2⟩,s6,max (max w3 w5) w6,fun W hW mu hm Q q=>
   O6 (t1 W _ mu hm) (t2 W _ mu hm) (t3 W (y0 hW).1 mu hm) (with1 hE (Gg hl).1) (Z5 (jX (by decide)) (abu rfl k9 (t4 W _ mu hm) (t5 W (y0 hW).2.1 mu hm) (QC rfl (jX (by decide)) false (t6 W (y0 hW).2.2 mu hm) q)))⟩
 ·
  obtain⟨o,a6,b6,nf,s6,w6,t6⟩:=ih k _ a3 b3 G8 (Bf hl (aa xe (ag (by decide) _))) s3
  exact⟨.cE s (bN c) o,a6,b6,⟨.cE ds.dp nf.dp,⟨ds.ok,yY hc,nf.ok⟩,⟨ds.wf,nf.wf,fun k' h=>(iA (nf.fv k' _ h)).2 rfl⟩,
   fun k' y h=>h.elim (ds.fv k' y) fun h=>(iA (nf.fv k' y h.1)).1 h.2⟩,s6,max w3 w6,fun W hW mu hm Q q=>
   O6 (t1 W _ mu hm) (t2 W _ mu hm) (t3 W (PV hW).1 mu hm) (with1 hE (Gg hl).1) (Z5 (jX (by decide)) (KY (jX (by decide)) (QC rfl (jX (by decide)) true (t6 W (PV hW).2 mu hm) q)))⟩
 ·
  obtain⟨mf,hf,a4,b4,s4,t4⟩:=pick (xs:=[sM "x",sM "z"]) (a:=a3) (bl _ _) (by decide) s3
  obtain⟨e,he,rfl⟩:∃c∈bases,mf=vN (bN c):=names2 (a:=120) (b:=122) (by exact X0▸m_z▸hf) (by decide) (by decide)
  have hE2:=ml (k:=.i) he G8
  have YZ:=dI (es:=br es (aX (bN c)) (kM .c)) (k:=aX (bN e)) (v:=kM .i)
  have fu:∀{u:T k},Dr n (br (br es (aX (bN c)) (kM .c)) (aX (bN e)) (kM .i)) u->∀k' y,fv u k' y->(y≠bN e->y≠bN c->cf es (aX y)=some (kM k'))/\(y≠bN e->y=bN c->k'=.c)/\(y=bN e->k'=.i):=fun du k' y h=>by
   have h1:=iA (du.fv k' y h)
   exact⟨fun n1 n2=>(iA (h1.1 n1)).1 n2,fun n1 n2=>(iA (h1.1 n1)).2 n2,h1.2⟩
  obtain⟨u,a5,b5,du,s5,w5,t5⟩:=ih k _ a4 b4 hE2 (Bf hl (by lia)) s4
  obtain⟨z,a7,b7,hz,s7,t7⟩:=draw a5 b5 2 (by decide) (by decide) s5
  obtain⟨o,a6,b6,nf,s6,w6,t6⟩:=ih k _ a7 b7 G8 (Bf hl (aa xe (ag (by decide) _))) s7
  have fu:=fu du
  have A:dj φ0 (.bK s (bN c) (bN e) u o):=⟨ds.ok,yY hc,yY he,du.ok,nf.ok⟩
  have B:WF (.bK s (bN c) (bN e) u o):=⟨ds.wf,⟨du.wf,fun eM k' h=>(fu k' _ h).2.1 (bY eM) rfl,fun k' h=>(fu k' _ h).2.2 rfl⟩,nf.wf,fun k' h=>(iA (nf.fv k' _ h)).2 rfl⟩
  have F:∀k' y,fv (.bK s (bN c) (bN e) u o) k' y->cf es (aX y)=some (kM k'):=fun k' y h=>h.elim (ds.fv k' y) fun h=>h.1.elim (fun g=>(fu k' y g.1).1 g.2 h.2) fun g=>(iA (nf.fv k' y g)).1 h.2
  by_cases Cm:z=0
  ·subst Cm
   exact⟨.bK s (bN c) (bN e) u o,a6,b6,⟨.bK ds.dp du.dp nf.dp,A,B,F⟩,s6,max (max w3 w5) w6,fun W hW mu hm Q q=>
    O6 (t1 W _ mu hm) (t2 W _ mu hm) (t3 W (y0 hW).1 mu hm) (with1 hE (Gg hl).1) (Z6 rfl k9 (t4 W _ mu hm) (with1 (k:=.i) G8 (aa xe (Gg hl).2.1:(br es (aX (bN c)) (kM .c)).length<=1000)) (t5 W (y0 hW).2.1 mu hm) (KY (jX (by decide)) (Z7 rfl (ae rfl) k9 (t7 W _ mu hm) rfl (t6 W (y0 hW).2.2 mu hm) q)))⟩
  ·exact⟨.bD s (bN c) (bN e) u o,a6,b6,⟨.bD ds.dp du.dp nf.dp,A,B,F⟩,s6,max (max w3 w5) w6,fun W hW mu hm Q q=>
    O6 (t1 W _ mu hm) (t2 W _ mu hm) (t3 W (y0 hW).1 mu hm) (with1 hE (Gg hl).1) (Z6 rfl k9 (t4 W _ mu hm) (with1 (k:=.i) G8 (aa xe (Gg hl).2.1:(br es (aX (bN c)) (kM .c)).length<=1000)) (t5 W (y0 hW).2.1 mu hm) (KY (jX (by decide)) (Z8 rfl k9 (t7 W _ mu hm) (Hs Cm) (t6 W (y0 hW).2.2 mu hm) q)))⟩
end
theorem AX(h:a≠b):bN a≠bN b:=fun e=>h (congrArg Nm.b e)
section
variable{n D:Nat}{k:K}{es:List (Str×MV)}{a b:Int}
inductive abH(n D:Nat)(k j:K)(c:Nat)(R:Bool)(es:List (Str×MV))(a b:Int):Prop
 |mk(t:T k)(a' b':Int)(hd:Dr (n+1) es t)(hs:kn b')(w0:Nat)(h:∀W,w0<=W->∀mu:List MC,1<mu.length->∀Q:oS,Q false (enc t) (sm mu a' b')->dJ W (ah W (D+5)) (D+5) zP (lT (kM k) (.bI es) ((n:Int)+1) (vN (bN c)) (kM j) R (sm mu a b)) (eL Q))
theorem zO(hn:n<=2)(ih:yV n (D+5) ((n:Int)+1-1))(j:K)(hE:te es)(hl:es.length+3*(n+1)<=900)(hb:kn b)(hc:c∈bases)(Ug:c≠119)(R:Bool)(hR:R=true->j=.f):abH n D k j c R es a b:=by
 have G8:=ml (k:=j) hc hE
 have xe:=dI (es:=es) (k:=aX (bN c)) (v:=kM j)
 obtain⟨u,a1,b1,du,s1,w1,t1⟩:=ih j es a b hE (Bf hl (ak _ _)) hb
 obtain⟨z,a2,b2,hz,s2,t2⟩:=draw a1 b1 4 (by decide) (by decide) s1
 by_cases Cm:z=0
 ·subst Cm
  have YZ:=dI (es:=br es (aX (bN c)) (kM j)) (k:=aX (bN 119)) (v:=kM .i)
  obtain⟨v,a3,b3,dv,s3,w3,t3⟩:=ih .i es a2 b2 hE (Bf hl (ak _ _)) s2
  obtain⟨o,a4,b4,nf,s4,w4,t4⟩:=ih k _ a3 b3 (ml (b:=119) (k:=.i) (by decide) G8) (Bf hl (by lia)) s3
  have fo:∀k' y,fv o k' y->(y≠bN 119->y≠bN c->cf es (aX y)=some (kM k'))/\(y≠bN 119->y=bN c->k'=j)/\(y=bN 119->k'=.i):=fun k' y h=>by
   have h1:=iA (nf.fv k' y h)
   exact⟨fun n1 n2=>(iA (h1.1 n1)).1 n2,fun n1 n2=>(iA (h1.1 n1)).2 n2,h1.2⟩
  refine⟨.bW (bN c) u (bN 119) v o,a4,b4,⟨.bW du.dp dv.dp nf.dp,⟨yY hc,yY (by decide),du.ok,dv.ok,nf.ok⟩,⟨(AX Ug),du.wf,dv.wf,nf.wf,fun k' h=>(fo k' _ h).2.1 (AX Ug) rfl,fun k' h=>(fo k' _ h).2.2 rfl⟩,
   fun k' y h=>h.elim (du.fv k' y) fun h=>h.elim (dv.fv k' y) fun h=>(fo k' y h.1.1).1 h.1.2 h.2⟩,s4,max (max w1 w3) w4,fun W hW mu hm Q q=>?_⟩
  have t4:=t4 W (y0 hW).2.2 mu hm
  replace t4:=show aX (bN 119)=af "w" by decide▸t4
  exact Yi rfl (t1 W (y0 hW).1 mu hm) (with1 (k:=j) hE (Gg hl).1) (t2 W _ mu hm) (t3 W (y0 hW).2.1 mu hm) (aa xe (aa (dW _) (Gg hl).2.2)) t4 (by exact m_w.symm▸q)
 ·have hz':=Hs Cm
  obtain⟨o,a4,b4,nf,s4,w4,t4⟩:=ih k _ a2 b2 G8 (Bf hl (aa xe (ag (by decide) _))) s2
  have d1:Dr (n+1) es (.let1 (bN c) u o):=⟨.let1 du.dp nf.dp,⟨yY hc,du.ok,nf.ok⟩,⟨du.wf,nf.wf,fun k' h=>(iA (nf.fv k' _ h)).2 rfl⟩,fun k' y h=>h.elim (du.fv k' y) fun h=>(iA (nf.fv k' y h.1)).1 h.2⟩
  cases R
  ·exact⟨.let1 (bN c) u o,a4,b4,d1,s4,max w1 w4,fun W hW mu hm Q q=>let_1 rfl (t1 W (PV hW).1 mu hm) (with1 (k:=j) hE (Gg hl).1) (t2 W _ mu hm) hz' (t4 W (PV hW).2 mu hm) q⟩
  ·cases hR rfl
   obtain⟨r,wf',hr,tf⟩:=Ov (x:=bN c) du.ok du.wf (UI du (dM hn))
   cases r
   ·exact⟨.dQ (bN c) u o,a4,b4,⟨.dQ du.dp nf.dp,⟨yY hc,du.ok,nf.ok⟩,⟨du.wf,hr rfl,nf.wf,d1.wf.2.2⟩,d1.fv⟩,s4,max (max w1 w4) wf',fun W hW mu hm Q q=>
     P1 rfl (t1 W (y0 hW).1 mu hm) (with1 (k:=.f) hE (Gg hl).1) (t2 W _ mu hm) hz' (t4 W (y0 hW).2.1 mu hm) (tf W _ _ (y0 hW).2.2) q⟩
   ·exact⟨.let1 (bN c) u o,a4,b4,d1,s4,max (max w1 w4) wf',fun W hW mu hm Q q=>
     P1 rfl (t1 W (y0 hW).1 mu hm) (with1 (k:=.f) hE (Gg hl).1) (t2 W _ mu hm) hz' (t4 W (y0 hW).2.1 mu hm) (tf W _ _ (y0 hW).2.2) q⟩
theorem Tn(hn:n<=2)(ih:yV n (D+5) ((n:Int)+1-1))(hE:te es)(hl:es.length+3*(n+1)<=900)(hb:kn b):Draws (n+1) (D+6) 54 [.ref 1,kM k,.bI es,.int ((n:Int)+1)] k es a b:=by
 obtain⟨mx,hx,a1,b1,s1,t1⟩:=pick (xs:=WJ) (a:=a) (bl _ _) (by decide) hb
 obtain⟨c,hc,Ug,rfl⟩:=names3 hx
 obtain⟨ms,hs,a2,b2,s2,t2⟩:=pick (xs:=N9) (a:=a1) (bl _ _) (by decide) s1
 obtain⟨j,rfl⟩:=sorts hs
 by_cases hj:j=.f
 ·subst hj
  have G8:=ml (k:=.f) hc hE
  obtain⟨z,a3,b3,hz,s3,t3⟩:=draw a2 b2 3 (by decide) (by decide) s2
  by_cases Cm:z=0
  ·subst Cm
   obtain⟨o,a4,b4,nf,s4,w4,t4⟩:=ih k _ a3 b3 G8 (Bf hl (aa (dI (es:=es) (k:=aX (bN c)) (v:=kM .f)) (ag (by decide) _))) s3
   obtain⟨p,a5,b5,hp,s5,t5⟩:=OQ (c:=c) (a:=a4) s4
   exact⟨.dR (bN c) (bN 110) (bN 118) p o,a5,b5,⟨.dR hp nf.dp,⟨yY hc,yY (by decide),yY (by decide),nf.ok⟩,⟨⟨(AX Ug.2.1).symm,(AX Ug.2.2).symm,AX (by decide)⟩,nf.wf,fun k' h=>(iA (nf.fv k' _ h)).2 rfl⟩,fun k' y h=>(iA (nf.fv k' y h.1)).1 h.2⟩,s5,w4,fun W hW mu hm Q q=>
    Tq rfl k9 rfl (t1 W _ mu hm) (t2 W _ mu hm) (t3 W _ mu hm) (with1 (k:=.f) hE (Gg hl).1) (t4 W hW mu hm) (t5 W _ mu hm) Q q⟩
  ·obtain⟨z2,a4,b4,hz2,s4,t4⟩:=draw a3 b3 3 (by decide) (by decide) s3
   obtain⟨t,a',b',dt,s',w0,ht⟩:=zO (k:=k) (a:=a4) hn ih .f hE hl s4 hc Ug.1 (decide ((z2:Int)=0)) (fun _=>rfl)
   exact⟨t,a',b',dt,s',w0,fun W hW mu hm Q q=>Tp k9 (t1 W _ mu hm) (t2 W _ mu hm) (t3 W _ mu hm) (Hs Cm) (t4 W _ mu hm) (ht W hW mu hm Q q)⟩
 ·obtain⟨t,a',b',dt,s',w0,ht⟩:=zO (k:=k) (a:=a2) hn ih j hE hl s2 hc Ug.1 false (fun h=>absurd h aJ)
  exact⟨t,a',b',dt,s',w0,fun W hW mu hm Q q=>To (jX fun e=>hj (Jp (congrArg MV.str e))) (t1 W _ mu hm) (t2 W _ mu hm) (ht W hW mu hm Q q)⟩
end
noncomputable def OC:Ss:=gu vh
section
variable{W d:Nat}{m m1 m2 m3:List MC}{E E1 x u v o:MV}{js:Str}{n z:Int}{Q:oS}
noncomputable abbrev est(js:Str)(E:MV)(n z:Int)(m:List MC):St:=⟨[.fz (.ref 1),.fz (.str js),.fz E,.fz (.int n),.fz (.int z),.un],m⟩
noncomputable abbrev pV(W d:Nat)(s:Ss)(js:Str)(E:MV)(n z:Int)(m:List MC)(Q:oS):Prop:=dJ W (ah W d) d s (est js E n z m) (eL Q)
theorem CC(h:decide (n>0)=true)(t:sU W d 7 m z m1)(q:pV W d OC js E n z m1 Q):ah W (d+1) 56 [.ref 1,.str js,E,.int n] m Q:=ao rfl rfl (aY h (t _ q))
theorem abo(h:decide (n>0)=false)(q:pV W d OC js E n 6 m Q):ah W (d+1) 56 [.ref 1,.str js,E,.int n] m Q:=ao rfl rfl (bp h q)
theorem Uy(h:decide (z<2)=true)(r:Ev (ah W d 54 [.ref 1,.str js,E,.int n] m) ((false,o),m1))(q:Q false o m1):pV W d OC js E n z m Q:=aY h (r _ q)
theorem ri(h:decide (z<2)=false)(q:pV W d (gu OC) js E n z m Q):pV W d OC js E n z m Q:=bp h q
noncomputable def CD:Ss:=gu (gu OC)
theorem OA(h:decide (z<4)=true)(r:Ev (ah W d 55 [.ref 1,.str js,E,.int n] m) ((false,o),m1))(q:Q false o m1):pV W d (gu OC) js E n z m Q:=aY h (r _ q)
theorem qj(h:decide (z<4)=false)(q:pV W d CD js E n z m Q):pV W d (gu OC) js E n z m Q:=bp h q
noncomputable def Ge:Ss:=gu CD
theorem UB(hd:aV 2 d=true)(h:decide (z=4)=true)(hi:sq js iS=true)(r:vV W d (sM "f") E (n-1) m u m1)(r2:vV W d (sM "i") E (n-1) m1 v m2)(q:Q false (.inst .App [u,.lst [v]]) m2):pV W d CD js E n z m Q:=
 aY h (aY hi (r _ (r2 _ (tJ hd q))))
theorem tE(h:decide (z=4)=false)(q:pV W d Ge js E n z m Q):pV W d CD js E n z m Q:=bp h (bp rfl q)
theorem Dh(h:decide (z=4)=true)(hi:sq js iS=false)(q:pV W d Ge js E n z m Q):pV W d CD js E n z m Q:=aY h (bp hi (bp rfl q))
noncomputable def Ai:Ss:=gu Ge
theorem UC(hd:aV 2 d=true)(h:decide (z=5)=true)(hi:sq js iS=true)(r:vV W d (sM "i") E (n-1) m u m1)(r2:vV W d (sM "i") E (n-1) m1 v m2)(q:Q false (iQ u v) m2):pV W d Ge js E n z m Q:=
 aY h (aY hi (r _ (r2 _ (tJ hd q))))
theorem xH(h:decide (z=5)=false)(q:pV W d Ai js E n z m Q):pV W d Ge js E n z m Q:=bp h (bp rfl q)
theorem Dj(h:decide (z=5)=true)(hi:sq js iS=false)(q:pV W d Ai js E n z m Q):pV W d Ge js E n z m Q:=aY h (bp hi (bp rfl q))
noncomputable def OB:Ss:=gu Ai
theorem Uz(hd:aV 2 d=true)(h:decide (z>3)=true)(h6:decide (z<6)=true)(hf:sq js fS=true)(p:G3 W d [sM "x",sM "y"] m x m1)(w:QZ W d E x (sM "i") E1 m1)(r:vV W d (sM "i") E1 (n-1) m1 u m2)(q:Q false (.inst .iu [.lst [x],u]) m2):pV W d Ai js E n z m Q:=
 aY h (aY h6 (aY hf (p _ (w _ (r _ (tJ hd q))))))
theorem MM(h:decide (z>3)=true)(h6:decide (z<6)=true)(hf:sq js fS=false)(q:pV W d OB js E n z m Q):pV W d Ai js E n z m Q:=aY h (aY h6 (bp hf (bp rfl q)))
theorem ML(h:decide (z>3)=true)(h6:decide (z<6)=false)(q:pV W d OB js E n z m Q):pV W d Ai js E n z m Q:=aY h (bp h6 (bp rfl q))
theorem UA(hd:aV 2 d=true)(h:decide (z>3)=true)(h6:decide (z<6)=true)(r:vV W d (sM "i") E (n-1) m u m2)(q:Q false (.inst .o9 [sM "C",.lst [u]]) m2):pV W d OB js E n z m Q:=
 aY h (aY h6 (r _ (tJ hd q)))
theorem Oz(h:decide (z>3)=true)(h6:decide (z<6)=false)(r:Ev (ah W d 52 [.ref 1,.str js,E] m) ((false,o),m1))(q:Q false o m1):pV W d OB js E n z m Q:=
 aY h (bp h6 (bp rfl (r _ q)))
theorem Km(r:Ev (ah W d 52 [.ref 1,.str js,E] m) ((false,o),m1))(q:Q false o m1):pV W d OC js E n 6 m Q:=
 ri rfl (qj rfl (tE rfl (xH rfl (ML rfl rfl (Oz rfl rfl r q)))))
end
theorem Gd(hE:te es)(hl:es.length<=900)(hb:kn b):Draws 0 (D+5) 56 [.ref 1,kM k,.bI es,.int (0:Nat)] k es a b:=by
 obtain⟨t,a',b',dt,s',ht⟩:=DE (n:=0) (k:=k) (a:=a) hE hl hb
 exact⟨t,a',b',dt,s',0,fun W _ mu hm Q q=>abo rfl (Km (ht W D mu hm) q)⟩
theorem aaR(h:m∈[sM "x",sM "y"]):∃c∈bases,m=vN (bN c):=names2 (a:=120) (b:=121) (by exact X0▸m_y▸h) (by decide) (by decide)
section
variable{n D:Nat}{k:K}{es:List (Str×MV)}{a b a1 b1:Int}{z:Nat}
theorem pE:decide (((n+1:Nat):Int)>0)=true:=decide_eq_true (jq.mpr (sL n))
noncomputable abbrev TkZ(a b a1 b1:Int)(z:Nat):Prop:=∀W d mu,1<mu.length->Ev (ah W (d+1) 48 [.ref 1,.int (7:Nat)] (sm mu a b)) ((false,.int z),sm mu a1 b1)
noncomputable abbrev VM(n D:Nat)(k:K)(es:List (Str×MV))(a b:Int):Prop:=Draws (n+1) (D+7) 56 [.ref 1,kM k,.bI es,.int (n+1:Nat)] k es a b
variable(t1:TkZ a b a1 b1 z)(hE:te es)(hl:es.length+3*(n+1)<=900)(s1:kn b1)
include t1 hE hl s1
theorem Ku(hn:n<=2)(ih:yV n (D+5) (((n+1:Nat):Int)-1))(h:decide ((z:Int)<2)=true):VM n D k es a b:=by
 obtain⟨t,a',b',dt,s',w0,ht⟩:=Tn (k:=k) hn ih hE hl s1
 exact⟨t,a',b',dt,s',w0,fun W hW mu hm Q q=>CC pE (t1 W _ mu hm) (Uy h (ht W hW mu hm) q)⟩
theorem D0(ih:yV n (D+5) (((n+1:Nat):Int)-1))(h2:decide ((z:Int)<2)=false)(h:decide ((z:Int)<4)=true):VM n D k es a b:=by
 obtain⟨t,a',b',dt,s',w0,ht⟩:=O0 (D:=D+1) (k:=k) ih hE hl s1
 exact⟨t,a',b',dt,s',w0,fun W hW mu hm Q q=>CC pE (t1 W _ mu hm) (ri h2 (OA h (ht W hW mu hm) q))⟩
variable(ih:yV n (D+6) (((n+1:Nat):Int)-1))(h2:decide ((z:Int)<2)=false)(h4:decide ((z:Int)<4)=false)
include ih h2 h4
theorem UE(h:decide ((z:Int)=4)=true):VM n D .i es a b:=by
 have Y0:=Bf hl (ak _ _)
 obtain⟨u,a2,b2,du,s2,w1,t2⟩:=ih .f es a1 b1 hE Y0 s1
 obtain⟨v,a3,b3,dv,s3,w2,t3⟩:=ih .i es a2 b2 hE Y0 s2
 exact⟨.app u v,a3,b3,⟨.app du.dp dv.dp,⟨du.ok,dv.ok⟩,⟨du.wf,dv.wf⟩,fun k' y h=>h.elim (du.fv k' y) (dv.fv k' y)⟩,s3,max w1 w2,fun W hW mu hm Q q=>
  CC pE (t1 W _ mu hm) (ri h2 (qj h4 (UB rfl h k9 (t2 W (PV hW).1 mu hm) (t3 W (PV hW).2 mu hm) q)))⟩
theorem UF(h:decide ((z:Int)=4)=false)(h5:decide ((z:Int)=5)=true):VM n D .i es a b:=by
 obtain⟨u,a2,b2,du,s2,w1,t2⟩:=ih .i es a1 b1 hE (Bf hl (ak _ _)) s1
 obtain⟨v,a3,b3,dv,s3,w2,t3⟩:=ih .i es a2 b2 hE (Bf hl (ak _ _)) s2
 exact⟨.add u v,a3,b3,⟨.add du.dp dv.dp,⟨du.ok,dv.ok⟩,⟨du.wf,dv.wf⟩,fun k' y h=>h.elim (du.fv k' y) (dv.fv k' y)⟩,s3,max w1 w2,fun W hW mu hm Q q=>
  CC pE (t1 W _ mu hm) (ri h2 (qj h4 (tE h (UC rfl h5 k9 (t2 W (PV hW).1 mu hm) (t3 W (PV hW).2 mu hm) q))))⟩
theorem Kx(h3:decide ((z:Int)>3)=true)(h6:decide ((z:Int)<6)=true)(sk:∀{W E m Q},pV W (D+6) Ai (af (kS .f)) E (n+1:Nat) z m Q->pV W (D+6) CD (af (kS .f)) E (n+1:Nat) z m Q):VM n D .f es a b:=by
 obtain⟨mx,hx,a2,b2,s2,t2⟩:=pick (xs:=[sM "x",sM "y"]) (a:=a1) (bl _ _) (ae rfl) s1
 obtain⟨c,hc,rfl⟩:=aaR hx
 obtain⟨u,a',b',du,s',w0,t3⟩:=ih .i _ a2 b2 (ml (k:=.i) hc hE) (Bf hl (aa (dI (es:=es) (k:=aX (bN c)) (v:=kM .i)) (ag (ae rfl) _))) s2
 exact⟨.lam (bN c) u,a',b',⟨.lam du.dp,⟨yY hc,du.ok⟩,⟨du.wf,fun k' h=>(iA (du.fv k' _ h)).2 rfl⟩,fun k' y h=>(iA (du.fv k' y h.1)).1 h.2⟩,s',w0,fun W hW mu hm Q q=>
  CC pE (t1 W _ mu hm) (ri h2 (qj h4 (sk (Uz rfl h3 h6 k9 (t2 W _ mu hm) (with1 (k:=.i) hE (Gg hl).1) (t3 W hW mu hm) q))))⟩
theorem Ky(h3:decide ((z:Int)>3)=true)(h6:decide ((z:Int)<6)=true)(sk:∀{W E m Q},pV W (D+6) Ai (af (kS .c)) E (n+1:Nat) z m Q->pV W (D+6) CD (af (kS .c)) E (n+1:Nat) z m Q):VM n D .c es a b:=by
 obtain⟨u,a',b',du,s',w0,t3⟩:=ih .i es a1 b1 hE (Bf hl (ak _ _)) s1
 exact⟨.cC u,a',b',⟨.cC du.dp,du.ok,du.wf,du.fv⟩,s',w0,fun W hW mu hm Q q=>
  CC pE (t1 W _ mu hm) (ri h2 (qj h4 (sk (MM h3 h6 (jX (by decide)) (UA rfl h3 h6 (t3 W hW mu hm) q)))))⟩
end
theorem aay{P:Nat->Prop}(h0:P 0)(h1:P 1)(h2:P 2)(h3:P 3)(h4:P 4)(h5:P 5)(h6:P 6):∀w,w<7->P w:=
 mQ (mQ (mQ (mQ (mQ (mQ (mQ (fun m h=>(gw m h).elim) h0) h1) h2) h3) h4) h5) h6
theorem Gc{n d:Nat}(hn:n<=2)(ih:∀d,VN n (d+5+2*n)):VN (n+1) (d+5+2*(n+1)):=by
 intro k es a b hE hl hb
 refine(show d+5+2*(n+1)=d+2*n+7 by lia).symm▸?_
 obtain⟨z,a1,b1,hz,s1,t1⟩:=draw a b 7 (ae rfl) (ae rfl) hb
 have gn:yV n (d+2*n+6) (((n+1:Nat):Int)-1):=by rw[(by lia:(((n+1:Nat):Int)-1)=n)];have:=ih (d+1);rwa [show d+1+5+2*n=d+2*n+6 by lia]at this
 have ihl:yV n (d+2*n+5) (((n+1:Nat):Int)-1):=by rw[(by lia:(((n+1:Nat):Int)-1)=n)];have:=ih d;rwa [show d+5+2*n=d+2*n+5 by lia]at this
 generalize d+2*n=D at*
 refine aay (P:=fun z=>TkZ a b a1 b1 z->VM n D k es a b) (fun t1=>Ku t1 hE hl s1 hn ihl rfl) (fun t1=>Ku t1 hE hl s1 hn ihl rfl) (fun t1=>D0 t1 hE hl s1 ihl rfl rfl) (fun t1=>D0 t1 hE hl s1 ihl rfl rfl) (fun t1=>?_) (fun t1=>?_) (fun t1=>?_) z hz t1
 ·cases k
  ·exact UE t1 hE hl s1 gn rfl rfl rfl
  ·exact Kx t1 hE hl s1 gn rfl rfl rfl rfl fun q=>Dh rfl (jX (by decide)) (xH rfl q)
  ·exact Ky t1 hE hl s1 gn rfl rfl rfl rfl fun q=>Dh rfl (jX (by decide)) (xH rfl q)
 ·cases k
  ·exact UF t1 hE hl s1 gn rfl rfl rfl rfl
  ·exact Kx t1 hE hl s1 gn rfl rfl rfl rfl fun q=>tE rfl (Dj rfl (jX (by decide)) q)
  ·exact Ky t1 hE hl s1 gn rfl rfl rfl rfl fun q=>tE rfl (Dj rfl (jX (by decide)) q)
 ·obtain⟨t,a',b',dt,s',ht⟩:=DE (n:=n+1) (k:=k) (a:=a1) hE (aa (ak _ _) hl) s1
  exact⟨t,a',b',dt,s',0,fun W _ mu hm Q q=>CC pE (t1 W _ mu hm) (Km (ht W (D+2) mu hm) q)⟩
theorem Oy:∀n,n<=3->∀d,VN n (d+5+2*n):=by
 intro n
 induction n with
 |zero=>
  intro _
  exact fun d k es a b hE hl hb=>Gd hE hl hb
 |succ n cz=>
  intro hn
  exact fun d=>Gc (aR hn) (cz (cv hn))
theorem ZQ(h:Dp n t)(hn:n<=3):Dp 3 t:=by
 have up:∀j,Dp (n+j) t:=fun j=>by
  induction j with
  |zero=>exact h
  |succ j ih=>exact ZO ih
 have:=up (3-n)
 rwa [GX hn]at this
noncomputable def XE:Ss:=gu (gu vf)
noncomputable abbrev big(c:Int):Int:=if-1-c>c then-1-c else c
noncomputable abbrev b01(b:Bool):Int:=@bE (fun _=>Int) 0 1 b
theorem SW(b:Bool):r5 g (b01 b)=true:=by induction b<;>rfl
theorem Sr(g:Int):r5 (g.fmod 2147483629+7919*0*0+31*0+17) 48271=true:=B3 (by
 have h1:=jt g (b:=2147483629) (by decide)
 have h2:=qX g (b:=2147483629) (by decide)
 rw[show(7919*0*0:Int)=0 from rfl,show(31*0:Int)=0 from rfl,sS,sS]
 exact sml (m:=2^64) (xC h1 (of_decide_eq_true rfl)) (Int.add_lt_add_right h2 17) (of_decide_eq_true rfl)) (by decide)
theorem Il(c:Int):∃a b,kn b/\∀W d mu xs(Q:oS),Q false (.ref mu.length) (mu++[.lst [.int a,.int b]])->dJ W (ah W d) d XE ⟨[.fz xs,.fz (.int 0),.fz (.int c),.un,.un],mu⟩ (eL Q):=
 ⟨big c*b01 (decide (big c>=10^18)),(((big c).fmod 2147483629+7919*0*0+31*0+17)*48271).fmod 2147483647,xF _,fun W d mu xs Q q=>mj (Sr (big c)) (mj (SW (decide (big c>=10^18))) q)⟩
theorem XO(k:dJ W cl d r st Q):dJ W cl d .nil st (EO (dJ W cl d r) Q):=k
theorem Sv(hl:xs.length<=b8)(h:decide ((0:Int)<(xs.length:Nat))=false)(q:dJ W (ah W d) d XE ⟨[.fz (.lst xs),.fz (.int 0),.fz (.int 0),.un,.un],mu⟩ (eL Q)):ah W (d+1) 47 [.lst xs,.int 0] mu Q:=by
 refine ao rfl rfl ?_
 refine aD hl ?_
 refine bp h ?_
 exact XO (r:=XE) q
theorem Su(hl:xs.length<=b8)(h:decide ((0:Int)<(xs.length:Nat))=true)(hx:xs[0]?=some (.int z))(q:dJ W (ah W d) d XE ⟨[.fz (.lst xs),.fz (.int 0),.fz (.int z),.un,.un],mu⟩ (eL Q)):ah W (d+1) 47 [.lst xs,.int 0] mu Q:=by
 refine ao rfl rfl ?_
 refine aD hl ?_
 refine aY h ?_
 refine aD hl ?_
 refine J0 hx ?_
 exact XO (r:=XE) q
theorem Nj(zs:List Int)(hl:zs.length<=63):∃a b,kn b/\∀W d mu,Ev (ah W (d+1) 47 [.lst (zs.map .int),.int 0] mu) ((false,.ref mu.length),mu++[.lst [.int a,.int b]]):=by
 match zs,hl with
 |[],_=>
  obtain⟨a,b,hb,h⟩:=Il 0
  exact⟨a,b,hb,fun W d mu Q q=>Sv (bC _) rfl (h W d mu _ Q q)⟩
 |z::zs,hl=>
  obtain⟨a,b,hb,h⟩:=Il z
  exact⟨a,b,hb,fun W d mu Q q=>Su (by rw[et,aI];exact aa hl (by decide):(MV.int z::zs.map .int).length<=b8) (decide_eq_true (Int.natCast_pos.mpr (Mh _))) rfl (h W d mu _ Q q)⟩
section
variable{W d:Nat}{m m1 m2:List MC}{q0:Slot}{xs f v:MV}{z:Int}
theorem Yp(p:Ev (ah W d 47 [xs,.int 0] m) ((false,.ref 1),m1))(q:dJ W (ah W d) d (gu k5) ⟨[.fz xs,.fz (.ref 1),.un,.un,.un,.un],m1⟩ rD):dJ W (ah W d) d k5 ⟨[.fz xs,.un,.un,.un,.un,.un],m⟩ rD:=p _ q
noncomputable def Wr:List (Str×MV):=[af "x",af "y",af "z",af "w",af "v",af "g"].foldl (fun es k=>br es k (.bool true)) []
theorem Vu:Wr=Ef:=rfl
theorem Yo(h3:aV 3 d=true)(h1:aV 1 d=true)(hk:jo k 8=true)(t:sU W d 8 m (k:Nat) m1)(h0:(m1++[MC.fresh Wr []])[0]?=some (.tab 0))
 (q:dJ W (ah W d) d (gu (gu k5)) ⟨[q0,.fz (.ref 1),.fz (.xj k m1.length),.un,.un,.un],(m1++[MC.fresh Wr []]).set 0 (.tab 1)⟩ rD):dJ W (ah W d) d (gu k5) ⟨[q0,.fz (.ref 1),.un,.un,.un,.un],m⟩ rD:=
 t _ (mj (b:=aV 3 d) h3 (mj (b:=jo k 8&&aV 1 d) (by rw[hk,h1];rfl) (cI h0 q)))
theorem Yn(t:sU W d 2 m z m1)(r:vV W d (sM "i") (.bI []) (2+z) m1 v m2)(q:dJ W (ah W d) d Fu ⟨[q0,.fz (.ref 1),.fz f,.fz v,.un,.un],m2⟩ rD):dJ W (ah W d) d (gu (gu k5)) ⟨[q0,.fz (.ref 1),.fz f,.un,.un,.un],m⟩ rD:=
 t _ (r _ q)
end
theorem NQ(he:e+620=d)(ms:List Int)(hl:ms.length<=63):∃W,dJ W (ah W d) d k5 ⟨[.fz (.lst (ms.map .int)),.un,.un,.un,.un,.un],[.tab 0]⟩ rD:=by
 obtain⟨a,b,s0,p⟩:=Nj ms hl
 obtain⟨k,a1,b1,hk,s1,t1⟩:=draw a b 8 (by decide) (by decide) s0
 obtain⟨z,a2,b2,hz,s2,t2⟩:=draw a1 b1 2 (by decide) (by decide) s1
 have hn:2+z<=3:=by lia
 have hx:=Oy (2+z) hn (e+615-2*(2+z))
 rw[show e+615-2*(2+z)+5+2*(2+z)=e+620 by rw[ew,bL (aa (aK 2 hn) (aa (of_decide_eq_true rfl:2*3<=615) (aq _ _)))]]at hx
 obtain⟨t,a3,b3,dt,s3,w1,t3⟩:=hx .i [] a2 b2 (fun _ h=>nomatch h) (by show 0+_<=_;lia) s2
 obtain⟨w2,t4⟩:=Jf hk (ZQ dt.dp (by lia:2+z<=3)) dt.ok dt.wf (fun k x h=>nomatch dt.fv k x h) e
 have q4:=t4 (max w1 w2) (az _ _) [.tab 1,.lst [.int a3,.int b3],.fresh Ef []] (.fz (.lst (ms.map .int))) (.fz (.ref 1)) .un .un (ab 3) ⟨1,rfl⟩
 have q3:=t3 (max w1 w2) (aC _ _) [.tab 1,.lst [.int a2,.int b2],.fresh Ef []] (ae rfl)
 have q2:=t2 (max w1 w2) (e+619) [.tab 1,.lst [.int a1,.int b1],.fresh Ef []] (ae rfl)
 have q1:=t1 (max w1 w2) (e+619) [.tab 0,.lst [.int a,.int b]] (ab 2)
 have q0:=p (max w1 w2) (e+619) [.tab 0]
 have h3:aV 3 d=true:=bT (by lia)
 have h1:aV 1 d=true:=bT (by lia)
 rw[show((2+z:Nat):Int)=2+(z:Int)from rfl]at q3
 rw[show e+619+1=d from he]at q0 q1 q2
 rw[he]at q3 q4
 exact⟨max w1 w2,Yp q0 (Yo h3 h1 (bT hk) q1 rfl (by rw[Vu];exact Yn q2 q3 q4))⟩
theorem spec(ms:List Int)(hl:ms.length<=63):∃W,dJ W (ah W 690) 690 k5 ⟨[.fz (.lst (ms.map .int)),.un,.un,.un,.un,.un],[.tab 0]⟩ rD:=NQ (e:=70) rfl ms hl
end Pu
namespace Mine
theorem Jg(ms:List Int)(hl:ms.length<=63):∃W,dJ W (ah W 690) 690 k5 (P3 ms) Yq:=Pu.spec ms hl
end Mine
theorem PySem.Challenge.cw_np0240_01_holds : PySem.Challenge.rw_np0240_01.Holds :=
 Mine.XJ (Mine.walk Mine.Jg)
