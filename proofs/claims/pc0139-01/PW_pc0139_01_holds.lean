import PyProof.Rows.All
import PySem.Syntax
import PySem.Value
import PySem.Eval
import PyProof.CompFree
import PyProof.EnumMake
import PyProof.ExcBaseAll.Exception
import PyProof.ExcAttrAll.Exception
import PyProof.ExcInit
import PyProof.RangeFor
import PyProof.ListIndexNeg
import PyProof.RulesAs
import PyProof.Rows.TupIter
import PyProof.ZipIter
import PyProof.RulesDel
import PyProof.RulesAssignMore
import KE.KPar
import Wide.FinOn
import OpenK.AllK
import Wide.All
import Lean
import PySem.Challenge.RW_pc0139_01
set_option Elab.async false
set_option maxRecDepth 100000
set_option maxHeartbeats 2000000
set_option linter.all false
set_option genSizeOf false
set_option genInjectivity false
set_option bootstrap.genMatcherCode false
set_option genCtorIdx false
set_option tactic.hygienic false
namespace LD.Internal
noncomputable section
open Array renaming any_toList->HE,getElem?_eq_none->zW,getElem?_eq_some_iff->HV,getElem?_toList->Hy,length_toList->CO,mem_toList_iff->zi6,toList->zjl
open BEq renaming comm->Se
open Bool renaming and_eq_true->fN,and_eq_true_iff->jl,and_false->rI,and_true->sL,eq_iff_iff->vR,false_and->zT,false_eq_true->Re,false_ne_true->je,false_or->Db,noConfusion->Rw,not_eq_true'->zN,or_eq_false_iff->zjK,or_eq_true->zK,or_eq_true_iff->ye,or_false->yc,or_true->zkf,true_and->Du
open Char renaming toNat->QL
open Classical renaming byContradiction->QI,em->QG,not_not->ziA
open Eq renaming symm->wh
open False renaming elim->i6
open ForIn renaming forIn->zO
open ForInStep renaming yield->wd
open Iff renaming rfl->QF
open Inhabited renaming default->bM
open Int renaming add_assoc->Ik,add_zero->kE,emod_lt_of_pos->Dt,emod_nonneg->Ds,eq_ofNat_of_zero_le->xQ,le_of_eq->QH,le_of_lt->qv,le_refl->mL,le_total->zz,le_trans->CJ,lt_irrefl->zj4,lt_of_le_of_lt->QK,lt_trans->ziM,max_eq_left->zA,max_eq_right->zB,min_eq_left->zC,min_eq_right->CI,mul_add->QD,mul_assoc->zis,mul_nonneg->ziB,mul_zero->zir,natAbs_mul->Ib,natAbs_neg->Ic,natAbs_of_nonneg->ziy,natAbs_pow->zjZ,natCast_add->Hn,natCast_ediv->zkb,natCast_nonneg->lf,natCast_pow->H8,ne_of_gt->Ht,negSucc->we,neg_nonneg_of_nonpos->zix,neg_one_mul->zit,not_le->rC,not_lt->lc,ofNat->QC,ofNat_le->nq,ofNat_lt->rB,pow_succ->Sc,sub_nonneg_of_le->sJ,sub_self->ziz,toNat->CK,toNat_natCast->jm,toNat_of_nonneg->ziv,toNat_of_nonpos->ziw,toNat_sub->Sg,zero_add->sI,zero_mul->Hl,zero_sub->Ih
open Int.ofNat renaming inj->zj0
open LawfulMonad renaming pure_bind->RC
open List renaming all_cons->Rt,all_eq_true->mM,all_nil->Ru,any_append->R9,any_cons->lY,any_eq_false->Rq,any_eq_true->o5,any_nil->Dq,append_assoc->lL,append_eq_nil_iff->zj8,append_nil->of,cons_append->zjz,cons_ne_nil->zke,countP_cons->rG,count_append->Aj,count_cons->Rh,count_le_length->Ig,count_pos_iff->Ii,dropLast_concat->zj6,dropLast_subset->zj5,drop_left->zj1,drop_length->zjC,drop_nil->ziE,drop_take->ziJ,drop_zero->ziK,eq_nil_of_length_eq_zero->QN,eq_of_mem_replicate->Ij,filterMap_append->R5,filterMap_cons->sR,filter_cons->wi,find?_cons->QY,findIdx?_eq_some_iff_getElem->zi7,findIdx_lt_length_of_exists->R7,flatMap_cons->zkj,flatten_append->Ag,flatten_cons->lj,foldl_append->qB,foldl_cons->iH,foldl_nil->zjV,forIn_cons->RB,forall_mem_cons->ziu,getD_eq_getElem?_getD->sP,getElem?_append_right->Ie,getElem?_eq_getElem->lJ,getElem?_eq_some_iff->ug,getElem?_map->pQ,getElem?_replicate->RJ,getElem?_set_ne->zjw,getElem?_set_self'->zjv,getElem?_zipIdx->zjs,getElem?_zip_eq_some->zi1,getElem_mem->vW,getElem_range->zjq,isEmpty_iff->HP,length->pS,length_append->cC,length_cons->eQ,length_drop->zka,length_filterMap_le->zjJ,length_flatten->QO,length_map->cN,length_nil->jQ,length_range->rF,length_replicate->kJ,length_reverse->zjI,length_singleton->yd,length_take->Sd,length_zip->ya,length_zipIdx->uo,lookup->RE,lookup_cons->j9,map->QQ,map_append->jw,map_congr_left->Q4,map_cons->eF,map_drop->ziO,map_id->RI,map_map->lm,map_nil->zjT,map_replicate->Hu,map_set->R8,map_take->ziP,mem_append->kG,mem_append_left->vO,mem_append_right->zy,mem_cons->cR,mem_cons_of_mem->dz,mem_cons_self->dh,mem_filter->Ai,mem_filterMap->RR,mem_flatMap->zx,mem_flatten->Sb,mem_map->kF,mem_map_of_mem->xW,mem_of_getElem?->CN,mem_of_mem_drop->zj3,mem_of_mem_take->zj2,mem_range->xZ,mem_singleton->gp,nil_append->CM,nodup_cons->Ac,nodup_nil->HZ,of_mem_zip->zjX,pairwise_cons->Da,range->j7,replicate->bY,replicate_succ->pO,replicate_succ'->R2,reverse_cons->Ad,set_comm->zjH,size_toArray->zL,sum_cons->uu,sum_replicate_nat->ziH,take_length->QX,take_nil->ziD,take_of_length_le->Q5,zipIdx_cons->zkh,zipWith->CL
open List.Pairwise renaming of_map->zkK
open List.Sublist renaming refl->wg
open List.cons renaming inj->R6,injEq->Hv
open Nat renaming add_assoc->Dp,add_comm->yb,add_le_add_left->zjY,add_sub_assoc->zkd,add_zero->zjb,beq->n8,ble->zF,digitChar->zjS,le_add_left->Rr,le_add_right->xV,le_antisymm->Q9,le_of_ble_eq_true->bC,le_of_eq->CQ,le_of_lt->RF,le_of_succ_le->zki,le_refl->dM,le_succ->qz,le_succ_of_le->zZ,le_total->Hm,le_trans->fP,lt_irrefl->CT,lt_of_le_of_lt->ziC,lt_of_lt_of_eq->zi9,lt_of_lt_of_le->Sa,lt_of_succ_lt_succ->Rf,lt_succ_of_lt->Rd,lt_succ_self->xU,lt_trans->xN,min_eq_left->zD,min_eq_right->QE,mod_eq_of_lt->Sj,mod_lt->Ia,mul_assoc->Sh,mul_comm->QP,mul_div_cancel->zkc,mul_le_mul->zjW,ne_of_gt->Hs,ne_of_lt->vU,not_le_of_lt->ziW,not_lt->qw,not_lt_zero->QT,one_pos->Si,pow_add->Dr,pow_le_pow_right->Do,pow_pos->Ah,pow_succ->R4,pow_zero->R3,sub_lt_sub_left->zjB,sub_self->zY,sub_zero->ziL,succ_le_succ->C0,succ_mul->zj9,succ_pos->sV,zero_add->pR,zero_le->zP,zero_mod->zkg
open Nat.succ renaming inj->HQ
open Ne renaming symm->uq
open Option renaming bind->zj7,bind_eq_some_iff->kI,bind_some->ul,isNone_iff_eq_none->zjA,isSome_iff_exists->nv,map->zjU,map_eq_some_iff->kT,map_some->RH
open Option.some renaming inj->kH
open Prod renaming fst->RZ
open Prod.mk renaming inj->RA,injEq->zjP
open Pure renaming pure->dP
open PyProof.Rows renaming Call_->vY,KeyKind->ziU,SortSt->nu,SortedToK->CP,StrsAre->xP,add_str->zks,args_cons->CX,args_nil->Rv,arrOf->kc,assignInOrder_cons->zjy,assignInOrder_nil->zjx,ge_int->zkF,get?_update_seq->CS,getItem_str->zkG,in_str->zkC,isStrOf->CV,le_int->zkE,len_list->zkI,len_str->zkH,markedEach_of_false->zje,neg_int->zkJ,notIn_str->zkD,oneType'->Ra,pairsOf->qy,pendingOf->Q8,seqObj->zQ,strKind->zi0,sub_int->zkt,subscriptTail->vS,tail_any->qx,wpS->ziV,wpS_bind->vT,wpS_pure->CR
open PySem renaming Addr->bn,Around->di,ClassData->RM,CmpOp->lh,Comprehension->xK,Const->zE,DictEntry->lI,Env->bH,ExceptHandler->sH,Expr->mK,Flow->xX,FuncData->RK,GenState->HS,Heap->eY,IsPart->sQ,IsRangeIter->Rs,Keyword->uf,Model->rD,NameKind->lX,Obj->d9,Operator->Ho,OsState->vP,Params->nr,Pos->b9,Program->nt,Result->HN,Scope->iv,Sem->lq,Setting->HX,Shared->aR,Spec->ziT,Stmt->gA,Str->zw,StrKeys->zH,Thread->Di,Tok->i7,Value->jv,World->j8,aRefKeyMayBeTheName_at->zjh,arm_assign_Attribute->zjG,assignEach->C8,assignInOrder->Rz,backTo->uk,behindInMarks->Rk,binaryOp->xO,bindArgs->RU,bindName->C7,bm_if_false->Q6,bootBuiltins->xL,builtinsNs->Hq,callWith->Rn,call_meets->zM,cellsFrom->Dd,checkBuiltinCall->xR,clipAt->oY,codeAny->rE,codeAny_call_builtin->RL,codeAny_mono->C4,compEnvC->C9,compPost->RG,compareOp->QU,constantsAlone->QJ,evalEach->CY,excClassObj->ur,foldedSetIterable->zju,getItem->sO,getMethod->Rp,importedModules->Dl,keeperOf->HJ,leaving->De,letOwnedTupleGo->wc,list_getitem_lookup->ziR,mainGlobals->eP,mkText->HF,model->fO,noteFrame->HO,nsFind->xM,opaqueClassAbove->RP,operate->sN,pastItsLine_dict->zjk,pyIter->xT,pyNext->C6,rawInt->o0,seqIndex?->QV,sizeLine->pP,sizeLine_eq->jE,sliceBounds->Q2,slicePick->Q1,slot_list_getitem->ziN,slot_list_setitem->zjD,standAt->CZ,starEach->rH,storeName->Rx,stored->z8,strIterType->kW,strKind->CU,subscripted->sM,swappedStores->HR,swapsWithSole->Ab,treeTable->Dk,typeIs_str->Hx,typeOf->HL,unbindBehindTheSuite->zjO,valueAt->Hw,wpAny_Assign_stores->Dc,wpAny_askSetting->zjg,wpAny_assign_Name->zX,wpAny_bind->bg,wpAny_call->vZ,wpAny_call_entry->HA,wpAny_execs_cons->Aa,wpAny_execs_nil->xY,wpAny_field->Dh,wpAny_getItem_list_slice->ziS,wpAny_holding->oZ,wpAny_isSubtype_exc->RO,wpAny_listSubscript_int->zjE,wpAny_loadName_local->ziF,wpAny_loadPart->C1,wpAny_loadPart_at->ut,wpAny_lookBehind->zjj,wpAny_madeBy_exc->zjM,wpAny_mkText->C2,wpAny_mono->cW,wpAny_newList->Hz,wpAny_newTuple->Rc,wpAny_of_eq->uh,wpAny_pure->cT,wpAny_pyIter_enum->zjt,wpAny_pyIter_zip->zjr,wpAny_setField->HT,wpAny_setSeqItemAt->zjF,wpAny_standAt->sU,wpAny_storeName_local->Ry,wpAny_truthy_bool->zS,wpAny_updatePart->zji
open PySem.Around renaming frames_deeper->zjL
open PySem.Builtin.List renaming listFitsIndex->zkr,listSubscript?->zkM,listTooLong->QR
open PySem.Builtin.ObjectAttr renaming storeInOwnDict->RN
open PySem.Builtin.Range renaming rangeSize->zkL
open PySem.Builtin.Str renaming occurrences->zR,partsBetween->CW,strKind->zjc
open PySem.Calls renaming Name_function_global->ziG
open PySem.Code renaming builtin->HK,quiet_builtin->zjN
open PySem.Expr renaming ctorIdx->zjo
open PySem.F renaming args_list_append_2->zi3,bm_called->Q7,entry_dict_get->zja,entry_list_append->zi2,excBase_Exception->Df,plainAttrs_list->HM,plainAttrs_str->zjn,slot_dict_get->Ri,slot_int_rmul->ziI,slot_list_append->Rg,slot_list_count->zi5,slot_list_extend->zi4,slot_list_index->zi8,slot_str_split->zjd
open PySem.Heap renaming ExtBut->Hr,SameBut->zjp,dictOf_iff->QM,get?_none_of_le->zG,get?_push_ne->ziX,get?_push_of_some->kU,get?_push_size->sK,get?_update_other->pT,get?_update_self->xS,lt_size->sS,size_push->Ro,size_update->ziY
open PySem.Heap.DictOf renaming new->zjm
open PySem.Heap.ExtBut renaming refl->zJ
open PySem.Heap.IsList renaming typeIs->ziQ
open PySem.Heap.IsSliceOf renaming new->Q0
open PySem.Keeper renaming boundFrame->HI,frame->HG,machine->HH
open PySem.NameKind renaming cell->RD,free->mN
open PySem.Obj renaming data_mapFields->HU,isFreed_of_fields->RQ,mapFields->pU,mapSeq->Rb
open PySem.PyData renaming keyHash->lK
open PySem.SeqAt renaming EqAt->QS
open PySem.SeqAt.RcNeAt renaming bool_bool->zkz,int_int->zkB,lists->zkv,none_none->zkx,none_tuple->zky,str_str->zkA,tuple_none->zkw,tuples->zku
open PySem.Str renaming join->Rj,length->vQ
open PySem.Txt renaming slice->QW
open PySem.Value renaming int->oX,isStrOf_shape->ziZ,none->oa,ref->nw,str->Q3
open PySem.W renaming Frag->iG,Looks->rJ,SharedT->pV,WData->Dm,WellAll->Dn,boot_drawn->RS,boot_heap->wf,boot_toks->RT,clsIn->sT,defOf->Af,dictOf->gY,emptyDict->um,findIn->jR,findObj->HC,gensDone->RX,handedIn->Rl,instObj->HB,keepIn->vV,keeps_K->C5,laidKept->RY,lookIn->zI,looks_clsIn->HD,looks_findIn->zV,mroIn->Ae,namesBound->RW,nsIn->gJ,ownOf->zjf,putL->lZ,putN->qA,set_plain->Rm,staticsOk->RV,takerIn->vX,topRun->Dj,topStub->HW,typeIn->zU
open PySem.W.FB renaming slot_bytes_getitem->QZ
open PySem.W.Fast renaming te10156331382660048174->zkR,te11892475500146522536->zkS,te14364793385576792824->zkT,te4187177175401517315->zkX,te6613529449190102663->zkU,te9446332074065402090->zkV,tw10156331382660048174->zkN,tw11892475500146522536->zkO,tw14364793385576792824->zkP,tw4187177175401517315->zkW,tw6613529449190102663->zkQ
open PySem.W.Looks renaming of_pure->C3
open PySem.W.WData renaming bool->zjR
open PySem.W.WShape renaming has->zjQ
open PySem.W.WTm renaming holds->HY
open UInt8 renaming toNat->lg
open List.Mem renaming head->jN,tail->lT
open List.Sublist renaming cons->rn,cons_cons->tV
open Or renaming inl->ba,inr->aX
open PySem.CmpOp renaming NotIn->tW
open PySem.Code renaming builtin->vE
open PySem.Data renaming cell->vF,dict->sx,fields->fj,seq->pK
open PySem.ExceptHandler renaming ExceptHandler->vG
open PySem.Expr renaming Attribute->j2,BoolOp->vH,Call->iX,Compare->vI,Constant->qr,IfExp->zr,ListComp->ml,Name->cH,Slice->xE,Subscript->rq,Tuple->jD,UnaryOp->zt
open PySem.Flow renaming ret->oQ
open PySem.NameKind renaming cell->iY,free->lb,globalImplicit->CB
open PySem.ScopeKind renaming function->rt
open PySem.Stmt renaming Assign->j3
open PySem.Str renaming ofString->bv
open PySem.Value renaming bool->jt,builtin->dO,bytes->nY,int->eD,none->bO,ref->aL,type->cq
inductive LT where
 | V (i:Nat)
 | K (n:Nat)
 | C (a:LT)
 | T (a:LT)
 | B (a:LT)
 | G (a:LT)
 | M (k:Nat) (a:LT)
 | A (a b:LT)
 | S (a b:LT)
 | X (a b:LT)
 | Y (a b:LT)
noncomputable def LT.d (xs:List Nat) (ys:List Int):LT->Nat×Int
 | .V i=>(xs.getD i 0,ys.getD i 0)
 | .K n=>(n,n)
 | .C a=>(0,(a.d xs ys).1)
 | .T a=>((a.d xs ys).2.toNat,0)
 | .B a=>((a.d xs ys).2.natAbs,0)
 | .G a=>(0,-(a.d xs ys).2)
 | .M k a=>(k*(a.d xs ys).1,k*(a.d xs ys).2)
 | .A a b=>((a.d xs ys).1+(b.d xs ys).1,(a.d xs ys).2+(b.d xs ys).2)
 | .S a b=>((a.d xs ys).1- (b.d xs ys).1,(a.d xs ys).2- (b.d xs ys).2)
 | .X a b=>(max (a.d xs ys).1 (b.d xs ys).1,max (a.d xs ys).2 (b.d xs ys).2)
 | .Y a b=>(min (a.d xs ys).1 (b.d xs ys).1,min (a.d xs ys).2 (b.d xs ys).2)
structure LL where
 c:Int
 p:List Int
 q:List Int
noncomputable def iu:List Int->List Int->Int
 | [],_=>0
 | a::l,e=>(match e with
  | []=>0
  | x::e=>a*x+iu l e)
noncomputable def uv:List Int->List Int->List Int
 | [],b=>b
 | x::a,b=>(match b with
  | []=>x::a
  | y::b=>(x+y)::uv a b)
noncomputable def uw:Nat->List Int
 | 0=>[1]
 | i+1=>0::uw i
def LL.e (xs:List Nat) (ys:List Int) (l:LL):Int:=l.c+iu l.p (xs.map QC)+iu l.q ys
def LL.add (l m:LL):LL:=⟨l.c+m.c,uv l.p m.p,uv l.q m.q⟩
noncomputable def LL.mul (k:Int) (l:LL):LL:=⟨k*l.c,l.p.map (k*·),l.q.map (k*·)⟩
theorem Il (a b e:List Int):iu (uv a b) e=iu a e+iu b e:=by
 induction a generalizing b e with
 | nil=>exact (sI _).symm
 | cons x a f=>
  cases b with
  | nil=>exact (kE _).symm
  | cons y b=>
   cases e with
   | nil=>rfl
   | cons z e=>
    show (x+y)*z+iu (uv a b) e=x*z+iu a e+(y*z+iu b e);rw [f,Int.add_mul]
    ac_rfl
theorem Im (k:Int) (a e:List Int):iu (a.map (k*·)) e=k*iu a e:=by
 induction a generalizing e with
 | nil=>exact (zir _).symm
 | cons x a f=>
  cases e with
  | nil=>exact (zir _).symm
  | cons z e=>
   show k*x*z+iu (a.map (k*·)) e=k*(x*z+iu a e);rw [f,QD,zis]
theorem Io (i:Nat) (e:List Int):iu (uw i) e=e.getD i 0:=by
 induction i generalizing e with
 | zero=>cases e with
  | nil=>rfl
  | cons x e=>show 1*x+0=x;rw [Int.one_mul,kE]
 | succ i f=>cases e with
  | nil=>rfl
  | cons x e=>show 0*x+iu (uw i) e=_;rw [f,Hl,sI];rfl
section
variable {xs:List Nat}{ys:List Int}
theorem LL.Ak (l m:LL):(l.add m).e xs ys=l.e xs ys+m.e xs ys:=by
 show l.c+m.c+iu (uv l.p m.p) _+iu (uv l.q m.q) ys=l.c+iu l.p _+iu l.q ys+(m.c+iu m.p _+iu m.q ys);rw [Il,Il]
 ac_rfl
theorem LL.yf (k:Int) (l:LL):(l.mul k).e xs ys=k*l.e xs ys:=by
 show k*l.c+iu (l.p.map (k*·)) _+iu (l.q.map (k*·)) ys=k*(l.c+iu l.p _+iu l.q ys);rw [Im,Im,QD,QD]
noncomputable def LL.sub (l m:LL):LL:=l.add<|m.mul (-1)
theorem LL.og (l m:LL):(l.sub m).e xs ys=l.e xs ys-m.e xs ys:=by
 unfold LL.sub;rw [LL.Ak,LL.yf,zit];rfl
noncomputable def LL.k (n:Int):LL:=⟨n,[],[]⟩
theorem LL.wj (n:Int):(LL.k n).e xs ys=n:=by
 show n+0+0=n;rw [kE,kE]
def LL.v (b:Bool) (i:Nat):LL:=match b with
 | true=>⟨0,uw i,[]⟩
 | false=>⟨0,[],uw i⟩
structure LB where
 s:List LL
 l:LL
abbrev LB.Is (xs:List Nat) (ys:List Int) (z:Int) (b:LB):Prop:=(∀ l∈b.s,0<=l.e xs ys)/\b.l.e xs ys=z
def hU (xs:List Nat) (ys:List Int) (B:List LB) (z:Int):Prop:=∃b∈B,b.Is xs ys z
noncomputable def Al (f:LL->LL) (B:List LB):List LB:=B.map λb=>⟨b.s,f b.l⟩
noncomputable def yg (f g:LL->LL) (B:List LB):List LB:=B.flatMap λb=>[⟨f b.l::b.s,g b.l⟩]
noncomputable def Am (f:LL->LL->LL) (B D:List LB):List LB:=B.flatMap λb=>D.map λd=>⟨b.s++d.s,f b.l d.l⟩
noncomputable def mO (f g:LL->LL->LL) (B D:List LB):List LB:=B.flatMap λb=>D.map λd=>⟨f b.l d.l::(b.s++d.s),g b.l d.l⟩
theorem Dv {f:LL->LL}{B:List LB}{z w:Int}(h:hU xs ys B z) (k:∀ l:LL,l.e xs ys=z->(f l).e xs ys=w):hU xs ys (Al f B) w:=by
 obtain ⟨b,j,p,r⟩:=h;exact ⟨_,kF.mpr ⟨b,j,rfl⟩,p,k _ r⟩
theorem An {f g:LL->LL}{B:List LB}{z w:Int}(h:hU xs ys B z) (k:∀ l:LL,l.e xs ys=z->0<=(f l).e xs ys/\(g l).e xs ys=w):hU xs ys (yg f g B) w:=by
 obtain ⟨b,p,r,j⟩:=h;exact ⟨_,zx.mpr ⟨b,p,gp.mpr rfl⟩,ziu.mpr ⟨(k _ j).1,r⟩,(k _ j).2⟩
theorem Dw {f:LL->LL->LL}{B D:List LB}{z j w:Int}(h:hU xs ys B z) (h':hU xs ys D j) (k:∀ l m:LL,l.e xs ys=z->m.e xs ys=j->(f l m).e xs ys=w):hU xs ys (Am f B D) w:=by
 obtain ⟨b,p,r,u⟩:=h;obtain ⟨d,v,y,F⟩:=h';exact ⟨_,zx.mpr ⟨b,p,kF.mpr ⟨d,v,rfl⟩⟩,λl I=>(kG.mp I).elim (r l) (y l),k _ _ u F⟩
theorem wk {f g:LL->LL->LL}{B D:List LB}{z j w:Int}(h:hU xs ys B z) (h':hU xs ys D j) (k:∀ l m:LL,l.e xs ys=z->m.e xs ys=j->0<=(f l m).e xs ys/\(g l m).e xs ys=w):hU xs ys (mO f g B D) w:=by
 obtain ⟨b,u,v,p⟩:=h;obtain ⟨d,y,F,r⟩:=h';exact ⟨_,zx.mpr ⟨b,u,kF.mpr ⟨d,y,rfl⟩⟩,ziu.mpr ⟨(k _ _ p r).1,λl I=>(kG.mp I).elim (v l) (F l)⟩,(k _ _ p r).2⟩
theorem hU.l {B D:List LB}{z:Int}(h:hU xs ys B z):hU xs ys (B++D) z:=let ⟨b,f,q⟩:=h;⟨b,vO _ f,q⟩
theorem hU.r {B D:List LB}{z:Int}(h:hU xs ys D z):hU xs ys (B++D) z:=let ⟨b,f,q⟩:=h;⟨b,zy _ f,q⟩
noncomputable def Ao:List LB:=[⟨[],LL.k 0⟩]
theorem wm (n:Int):hU xs ys [⟨[],LL.k n⟩] n:=⟨_,gp.mpr rfl,⟨(λ_ h=>nomatch h),LL.wj n⟩⟩
noncomputable def vN (f:LL->LL->LL) (a b:LL):LL:=f b a
noncomputable def wn (a _:LL):LL:=a
noncomputable def wo (_ b:LL):LL:=b
noncomputable def Sk (_:LL):LL:=LL.k 0
noncomputable def Sl (_ _:LL):LL:=LL.k 0
noncomputable def Ap (l:LL):LL:=l
noncomputable def LT.w:LT->List LB×List LB
 | .V i=>([⟨[],LL.v true i⟩],[⟨[],LL.v false i⟩])
 | .K n=>([⟨[],LL.k n⟩],[⟨[],LL.k n⟩])
 | .C a=>(Ao,a.w.1)
 | .T a=>(yg Ap Ap a.w.2++yg (LL.mul (-1)) Sk a.w.2,Ao)
 | .B a=>(yg Ap Ap a.w.2++yg (LL.mul (-1)) (LL.mul (-1)) a.w.2,Ao)
 | .G a=>(Ao,Al (LL.mul (-1)) a.w.2)
 | .M k a=>(Al (LL.mul k) a.w.1,Al (LL.mul k) a.w.2)
 | .A a b=>(Am LL.add a.w.1 b.w.1,Am LL.add a.w.2 b.w.2)
 | .S a b=>(mO LL.sub LL.sub a.w.1 b.w.1++mO (vN LL.sub) Sl a.w.1 b.w.1,Am LL.sub a.w.2 b.w.2)
 | .X a b=>(mO LL.sub wn a.w.1 b.w.1++mO (vN LL.sub) wo a.w.1 b.w.1,mO LL.sub wn a.w.2 b.w.2++mO (vN LL.sub) wo a.w.2 b.w.2)
 | .Y a b=>(mO LL.sub wo a.w.1 b.w.1++mO (vN LL.sub) wn a.w.1 b.w.1,mO LL.sub wo a.w.2 b.w.2++mO (vN LL.sub) wn a.w.2 b.w.2)
theorem map_getD (i:Nat):(xs.map QC).getD i 0=((xs.getD i 0:Nat):Int):=by
 induction xs generalizing i with
 | nil=>rfl
 | cons x r f=>cases i with
  | zero=>rfl
  | succ i=>exact f i
theorem Ip {B D:List LB}{z f:Int}(h:hU xs ys B z) (h':hU xs ys D f):hU xs ys (mO LL.sub wn B D++mO (vN LL.sub) wo B D) (max z f):=by
 rcases zz f z with q | q
 .rw [zA q];exact (wk h h' λl m a b=>⟨by rw [LL.og,a,b];exact sJ q,a⟩).l
 .rw [zB q];exact (wk h h' λl m a b=>⟨by show 0<=(m.sub l).e xs ys;rw [LL.og,a,b];exact sJ q,b⟩).r
theorem Iq {B D:List LB}{z f:Int}(h:hU xs ys B z) (h':hU xs ys D f):hU xs ys (mO LL.sub wo B D++mO (vN LL.sub) wn B D) (min z f):=by
 rcases zz f z with q | q
 .rw [CI q];exact (wk h h' λl m a b=>⟨by rw [LL.og,a,b];exact sJ q,b⟩).l
 .rw [zC q];exact (wk h h' λl m a b=>⟨by show 0<=(m.sub l).e xs ys;rw [LL.og,a,b];exact sJ q,a⟩).r
theorem Aq {l:LL}{z:Int}(h:l.e xs ys=z):(l.mul (-1)).e xs ys= -z:=by rw [LL.yf,h,zit]
theorem Sm (a b:Nat):((max a b:Nat):Int)=max (a:Int) b:=by
 rcases Hm b a with q | q
 .rw [Nat.max_eq_left q,zA<|nq.mpr q]
 .rw [Nat.max_eq_right q,zB<|nq.mpr q]
theorem Sn (a b:Nat):((min a b:Nat):Int)=min (a:Int) b:=by
 rcases Hm b a with q | q
 .rw [QE q,CI<|nq.mpr q]
 .rw [zD q,zC<|nq.mpr q]
theorem LT.way (a:LT):hU xs ys a.w.1 (a.d xs ys).1/\hU xs ys a.w.2 (a.d xs ys).2:=by
 induction a with
 | V i=>
  refine ⟨⟨_,gp.mpr rfl,⟨(λ_ h=>nomatch h),?_⟩⟩,⟨_,gp.mpr rfl,⟨(λ_ h=>nomatch h),?_⟩⟩⟩
  .show 0+iu (uw i) _+0=_;rw [kE,sI,Io,map_getD];rfl
  .show 0+0+iu (uw i) _=_;rw [sI,sI,Io];rfl
 | K n=>exact ⟨wm _,wm _⟩
 | C a h=>exact ⟨wm 0,h.1⟩
 | T a h=>
  refine ⟨?_,wm 0⟩;show hU _ _ _ (((a.d xs ys).2.toNat:Nat):Int);rcases zz 0 (a.d xs ys).2 with q | q
  .rw [ziv q];exact (An h.2 λl e=>⟨e.symm▸q,e⟩).l
  .rw [ziw q];exact (An h.2 λl e=>⟨by rw [Aq e];exact zix q,LL.wj 0⟩).r
 | B a h=>
  refine ⟨?_,wm 0⟩;show hU _ _ _ (((a.d xs ys).2.natAbs:Nat):Int);rcases zz 0 (a.d xs ys).2 with q | q
  .rw [ziy q];exact (An h.2 λl e=>⟨e.symm▸q,e⟩).l
  .rw [Int.ofNat_natAbs_of_nonpos q];exact (An h.2 λl e=>⟨by rw [Aq e];exact zix q,Aq e⟩).r
 | G a h=>exact ⟨wm 0,Dv h.2 λl e=>Aq e⟩
 | M k a h=>exact ⟨Dv h.1 λl e=>by rw [LL.yf,e];exact (Int.natCast_mul ..).symm,Dv h.2 λl e=>by rw [LL.yf,e];rfl⟩
 | A a b h h'=>exact ⟨Dw h.1 h'.1 λl m e f=>by rw [LL.Ak,e,f];exact (Hn ..).symm,Dw h.2 h'.2 λl m e f=>by rw [LL.Ak,e,f];rfl⟩
 | S a b h h'=>
  refine ⟨?_,Dw h.2 h'.2 λl m e f=>by rw [LL.og,e,f];rfl⟩;show hU _ _ _ (((a.d xs ys).1- (b.d xs ys).1:Nat):Int);rcases Hm (b.d xs ys).1 (a.d xs ys).1 with q | q
  .rw [Int.natCast_sub q];exact (wk h.1 h'.1 λl m e f=>⟨by rw [LL.og,e,f];exact sJ<|nq.mpr q,by rw [LL.og,e,f]⟩).l
  .rw [Nat.sub_eq_zero_of_le q];exact (wk h.1 h'.1 λl m e f=>⟨by show 0<=(m.sub l).e xs ys;rw [LL.og,e,f];exact sJ<|nq.mpr q,LL.wj 0⟩).r
 | X a b h h'=>
  refine ⟨?_,Ip h.2 h'.2⟩;show hU _ _ _ ((max (a.d xs ys).1 (b.d xs ys).1:Nat):Int);rw [Sm];exact Ip h.1 h'.1
 | Y a b h h'=>
  refine ⟨?_,Iq h.2 h'.2⟩;show hU _ _ _ ((min (a.d xs ys).1 (b.d xs ys).1:Nat):Int);rw [Sn];exact Iq h.1 h'.1
inductive LQ where
 | le (n:Bool) (a b:LT)
 | lt (n:Bool) (a b:LT)
 | eq (n:Bool) (a b:LT)
 | no (r:LQ)
 | an (r s:LQ)
 | or (r s:LQ)
 | ff
noncomputable def LQ.d (xs:List Nat) (ys:List Int):LQ->Prop
 | .le n a b=>(match n with
  | true=>(a.d xs ys).1<=(b.d xs ys).1
  | false=>(a.d xs ys).2<=(b.d xs ys).2)
 | .lt n a b=>(match n with
  | true=>(a.d xs ys).1<(b.d xs ys).1
  | false=>(a.d xs ys).2<(b.d xs ys).2)
 | .eq n a b=>(match n with
  | true=>(a.d xs ys).1=(b.d xs ys).1
  | false=>(a.d xs ys).2=(b.d xs ys).2)
 | .no r=>¬r.d xs ys
 | .an r s=>r.d xs ys/\s.d xs ys
 | .or r s=>r.d xs ys\/s.d xs ys
 | .ff=>False
def nk (xs:List Nat) (ys:List Int) (A:List (List LL)):Prop:=∃s∈A,∀ l∈s,0<=l.e xs ys
noncomputable def As (A B:List (List LL)):List (List LL):=A.flatMap λs=>B.map λt=>s++t
theorem nk.prod {A B:List (List LL)}(h:nk xs ys A) (h':nk xs ys B):nk xs ys (As A B):=by
 obtain ⟨s,hs,h⟩:=h;obtain ⟨t,f,h'⟩:=h';exact ⟨_,zx.mpr ⟨s,hs,kF.mpr ⟨t,f,rfl⟩⟩,λl j=>(kG.mp j).elim (h l) (h' l)⟩
theorem nk.l {A B:List (List LL)}(h:nk xs ys A):nk xs ys (A++B):=let ⟨b,f,q⟩:=h;⟨b,vO _ f,q⟩
theorem nk.r {A B:List (List LL)}(h:nk xs ys B):nk xs ys (A++B):=let ⟨b,f,q⟩:=h;⟨b,zy _ f,q⟩
noncomputable def sW (f:LL->LL->List LL) (B D:List LB):List (List LL):=B.flatMap λb=>D.map λd=>f b.l d.l++(b.s++d.s)
theorem ux {f:LL->LL->List LL}{B D:List LB}{z p:Int}(h:hU xs ys B z) (h':hU xs ys D p) (k:∀ l m:LL,l.e xs ys=z->m.e xs ys=p->∀ u∈f l m,0<=u.e xs ys):nk xs ys (sW f B D):=by
 obtain ⟨b,r,v,y⟩:=h;obtain ⟨d,F,I,J⟩:=h';exact ⟨_,zx.mpr ⟨b,r,kF.mpr ⟨d,F,rfl⟩⟩,λl j=>(kG.mp j).elim (k _ _ y J l) λj=>(kG.mp j).elim (v l) (I l)⟩
noncomputable def Dx (a b:LL):List LL:=[b.sub a]
noncomputable def yh (a b:LL):List LL:=[(b.sub a).sub (LL.k 1)]
noncomputable def Ir (a b:LL):List LL:=[b.sub a,a.sub b]
theorem Iu {l m:LL}{z f:Int}(q:z<=f) (a:l.e xs ys=z) (b:m.e xs ys=f):∀ u∈Dx l m,0<=u.e xs ys:=by
 intro u j;rw [gp.mp j,LL.og,a,b];exact sJ q
theorem Au {l m:LL}{z f:Int}(q:z<f) (a:l.e xs ys=z) (b:m.e xs ys=f):∀ u∈yh l m,0<=u.e xs ys:=by
 intro u j;rw [gp.mp j,LL.og,LL.og,LL.wj,a,b];exact sJ<|Int.sub_pos_of_lt q
theorem So {l m:LL}{z f:Int}(q:z=f) (a:l.e xs ys=z) (b:m.e xs ys=f):∀ u∈Ir l m,0<=u.e xs ys:=by
 subst q;intro u j;rcases cR.mp j with e | e
 .rw [e,LL.og,a,b,ziz];exact mL 0
 .rw [gp.mp e,LL.og,a,b,ziz];exact mL 0
noncomputable def nj (n:Bool) (a:LT):List LB:=match n with
 | true=>a.w.1
 | false=>a.w.2
noncomputable def LQ.w:LQ->List (List LL)×List (List LL)
 | .le n a b=>(sW Dx (nj n a)<|nj n b,sW yh (nj n b)<|nj n a)
 | .lt n a b=>(sW yh (nj n a)<|nj n b,sW Dx (nj n b)<|nj n a)
 | .eq n a b=>(sW Ir (nj n a)<|nj n b,sW yh (nj n a) (nj n b)++sW yh (nj n b) (nj n a))
 | .no r=>(r.w.2,r.w.1)
 | .an r s=>(As r.w.1 s.w.1,r.w.2++s.w.2)
 | .or r s=>(r.w.1++s.w.1,As r.w.2 s.w.2)
 | .ff=>([],[[]])
noncomputable def vl (n:Bool) (xs:List Nat) (ys:List Int) (a:LT):Int:=match n with
 | true=>((a.d xs ys).1:Int)
 | false=>(a.d xs ys).2
theorem ny (n:Bool) (a:LT):hU xs ys (nj n a) (vl n xs ys a):=by
 cases n with
 | true=>exact a.way.1
 | false=>exact a.way.2
theorem Qw {n:Bool}{a b:LT}:(LQ.le n a b).d xs ys↔vl n xs ys a<=vl n xs ys b:=by
 cases n with
 | true=>exact nq.symm
 | false=>exact QF
theorem QB {n:Bool}{a b:LT}:(LQ.lt n a b).d xs ys↔vl n xs ys a<vl n xs ys b:=by
 cases n with
 | true=>exact rB.symm
 | false=>exact QF
theorem Iv {n:Bool}{a b:LT}:(LQ.eq n a b).d xs ys↔vl n xs ys a=vl n xs ys b:=by
 cases n with
 | true=>exact Int.ofNat_inj.symm
 | false=>exact QF
theorem LQ.sat (r:LQ):(r.d xs ys->nk xs ys r.w.1)/\(¬r.d xs ys->nk xs ys r.w.2):=by
 induction r with
 | le n a b=>exact ⟨λh=>ux (ny n a) (ny n b) λl m=>Iu<|Qw.mp h,λh=>ux (ny n b) (ny n a) λl m=>Au<|rC.mp λq=>h<|Qw.mpr q⟩
 | lt n a b=>exact ⟨λh=>ux (ny n a) (ny n b) λl m=>Au<|QB.mp h,λh=>ux (ny n b) (ny n a) λl m=>Iu<|lc.mp λq=>h<|QB.mpr q⟩
 | eq n a b=>
  refine ⟨λh=>ux (ny n a) (ny n b) λl m=>So<|Iv.mp h,λh=>?_⟩;rcases Int.lt_or_gt_of_ne (λq=>h<|Iv.mpr q) with q | q
  .exact (ux (ny n a) (ny n b) λl m=>Au q).l
  .exact (ux (ny n b) (ny n a) λl m=>Au q).r
 | no r h=>exact ⟨h.2,λq=>h.1<|ziA.mp q⟩
 | an r s h h'=>exact ⟨λq=>(h.1 q.1).prod (h'.1 q.2),λq=>(QG<|r.d xs ys).elim (λz=>(h'.2 λy=>q ⟨z,y⟩).r) λz=>(h.2 z).l⟩
 | or r s h h'=>exact ⟨λq=>q.elim (λq=>(h.1 q).l) λq=>(h'.1 q).r,λq=>(h.2 λz=>q<|ba z).prod (h'.2 λz=>q<|aX z)⟩
 | ff=>exact ⟨i6,λ_=>⟨[],gp.mpr rfl,λ_ h=>nomatch h⟩⟩
noncomputable def Av:List LL->List Nat->LL
 | [],_=>LL.k 0
 | l::r,f=>(match f with
  | []=>LL.k 0
  | m::f=>(l.mul m).add (Av r f))
noncomputable def Iw (l:LL):Bool:=decide (l.c<0) && (l.p.all (λx=>decide (x<=0)) && l.q.all (λx=>decide (x=0)))
theorem Sp (r:List LL) (f:List Nat) (h:∀ l∈r,0<=l.e xs ys):0<=(Av r f).e xs ys:=by
 induction r generalizing f with
 | nil=>exact QH (LL.wj 0).symm
 | cons l r j=>
  cases f with
  | nil=>exact QH (LL.wj 0).symm
  | cons m f=>
   show 0<=((l.mul m).add (Av r f)).e xs ys;rw [LL.Ak,LL.yf];exact Int.add_nonneg (ziB (lf m)<|h l dh)<|j f λl p=>h l<|dz _ p
theorem Sq (p:List Int) (xs:List Nat) (h:p.all (λx=>decide (x<=0))=true):iu p (xs.map QC)<=0:=by
 induction p generalizing xs with
 | nil=>exact mL 0
 | cons x p f=>
  cases xs with
  | nil=>exact mL 0
  | cons y xs=>
   have h:=(fN _ _).mp h;exact Int.add_nonpos (Int.mul_nonpos_of_nonpos_of_nonneg (of_decide_eq_true h.1)<|lf y)<|f xs h.2
theorem Sr (p ys:List Int) (h:p.all (λx=>decide (x=0))=true):iu p ys=0:=by
 induction p generalizing ys with
 | nil=>rfl
 | cons x p f=>
  cases ys with
  | nil=>rfl
  | cons y ys=>
   have h:=(fN _ _).mp h;show x*y+iu p ys=0;rw [f ys h.2,of_decide_eq_true h.1,Hl];rfl
theorem Ss {l:LL}(h:Iw l=true):l.e xs ys<0:=by
 have h:=(fN _ _).mp h;have f:=(fN _ _).mp h.2;show l.c+iu l.p _+iu l.q ys<0;rw [Sr _ _ f.2,kE];exact Int.add_neg_of_neg_of_nonpos (of_decide_eq_true h.1)<|Sq _ _ f.1
noncomputable def yi:List (List LL)->List (List Nat)->Bool
 | [],_=>true
 | s::A,f=>(match f with
  | []=>false
  | c::f=>Iw (Av s c) && yi A f)
theorem Su {A:List (List LL)}{f:List (List Nat)}(h:yi A f=true):¬nk xs ys A:=by
 rintro ⟨s,hs,q⟩;induction A generalizing f with
 | nil=>cases hs
 | cons t A j=>
  cases f with
  | nil=>cases h
  | cons c f=>
   have h:=(fN _ _).mp h;rcases cR.mp hs with rfl | hs
   .exact absurd (Sp s c q)<|rC.mpr<|Ss h.1
   .exact j h.2 hs
noncomputable def aF (xs:List Nat) (ys:List Int) (g:LQ):List LQ->Prop
 | []=>g.d xs ys
 | h::hs=>h.d xs ys->aF xs ys g hs
noncomputable def Dy (g:LQ):List LQ->List (List LL)
 | []=>g.w.2
 | h::hs=>As h.w.1<|Dy g hs
theorem ziq (g:LQ) (hs:List LQ) (h:¬nk xs ys (Dy g hs)):aF xs ys g hs:=by
 induction hs with
 | nil=>exact QI λq=>h<|g.sat.2 q
 | cons r hs f=>
  exact λq=>f λz=>h<|(r.sat.1 q).prod z
end
theorem aG {hs:List LQ}{g:LQ}{xs:List Nat}{ys:List Int}(f:List (List Nat)) (h:yi (Dy g hs) f=true):aF xs ys g hs:=ziq g hs<|Su h
namespace LN
noncomputable abbrev le:=LQ.le true
noncomputable abbrev lt:=LQ.lt true
noncomputable abbrev eq:=LQ.eq true
noncomputable abbrev li:=LQ.le false
noncomputable abbrev ti:=LQ.lt false
noncomputable abbrev ei:=LQ.eq false
noncomputable abbrev v0:=LT.V 0
noncomputable abbrev v1:=LT.V 1
noncomputable abbrev v2:=LT.V 2
noncomputable abbrev v3:=LT.V 3
noncomputable abbrev v4:=LT.V 4
noncomputable abbrev v5:=LT.V 5
noncomputable abbrev v6:=LT.V 6
noncomputable abbrev v7:=LT.V 7
noncomputable abbrev v8:=LT.V 8
end LN
section
open LN
open LD.Internal.LT (K C T B G M A S X Y)
open LD.Internal.LQ (no an ff)
theorem Sv {a:Nat}(f:a<10):a / 10=0:=by lia
theorem Sw {a:Nat}(f:a<10):a % 10=a:=by lia
theorem Ix {a b:Nat}(f:a<b*10):a / 10<b:=by lia
theorem Sy {a:Nat}(f:¬a<10):0<a / 10:=by lia
theorem Iy {a b c:Nat}:aF [a,b,c] [] (le (A v0 v1)<|A v0<|A v1 v2) []:=aG [[1]] rfl
theorem Sz {a b c:Nat}:aF [a,b,c] [] (ti (C v2)<|K<|2 ^ 62) [le v0<|K 1000,le (A v1 v2) v0]:=aG [[1,1,1]] rfl
theorem SC {a b c:Nat}:aF [a,b,c] [] (le (T<|C v2)<|K 16777216) [le v0<|K 1000,le (A v1 v2) v0]:=aG [[1,1,1],[0,0,1]] rfl
theorem SD {a b c:Nat}:aF [a,b,c] [] (le (A v1<|T<|C v2)<|K 16777216) [le v0<|K 1000,le (A v1 v2) v0]:=aG [[1,1,1],[1,1,1]] rfl
theorem Dz {a:Nat}:aF [a] [] (no<|lt (K 1) v0) [no<|ti (K 1)<|C v0]:=aG [[1,1]] rfl
theorem DB {a b:Nat}:aF [a,b] [] (eq (A (A v0<|A (K 0)<|K 1) v1)<|A v0<|A v1<|K 1) []:=aG [[1],[1]] rfl
theorem SG {a b c:Nat}:aF [a,b,c] [] (lt (A (K 0) v1)<|K 16777216) [le v0<|K 1000,eq (A v1<|A v2<|K 1) v0]:=aG [[1,1,0,1]] rfl
theorem SH {a:Nat}:aF [a] [] (le v0<|K 16777216) [lt v0<|K 10000]:=aG [[1,1]] rfl
theorem SI {a b:Nat}:aF [a,b] [] (lt (B<|C v0)<|K<|2 ^ 62) [lt v0 v1,lt v1<|K 10000]:=aG [[1,1,1],[0,0,1]] rfl
theorem SJ {a b c:Nat}:aF [a,b,c] [] (le (A v2 v0)<|M 2<|A v1<|K 1) [le v0<|M 2 v1,le v2<|K 2]:=aG [[1,1,1]] rfl
theorem yj {a b:Nat}:aF [a,b] [] (le (Y v1 v0)<|K 1000) [le v0<|K 1000]:=aG [[1,1],[1,1,1]] rfl
theorem Iz {a:Nat}:aF [a] [] (le (M 1 v0)<|K 16777216) [le v0<|K 2]:=aG [[1,1]] rfl
theorem IB {a b:Nat}:aF [a,b] [] (le v1<|K 16777216) [le v0<|K 1000,le v1<|M 2 v0]:=aG [[2,1,1]] rfl
theorem SK {a:Nat}:aF [a] [] (an (li (K 0)<|C v0)<|ti (C v0)<|C<|A v0<|K 1) []:=aG [[1],[1]] rfl
theorem SL {a:Nat}:aF [a] [] (an (le v0<|A v0<|K 1)<|le (A v0<|K 1)<|A v0<|K 1) []:=aG [[1],[1]] rfl
theorem IC {b:Nat}{a:Int}:aF [b] [a] (ti v0<|C<|A v0<|A (K 0)<|K 1) [ti v0<|C v0]:=aG [[1,1]] rfl
theorem ID {a b c d:Nat}:aF [a,b,c,d] [] (le v0<|A v3<|A v2<|K 1) [le v0<|A v1 v2,le v1<|A v3<|K 1]:=aG [[1,1,1]] rfl
theorem SM {a b:Nat}:aF [a,b] [] (lt v0<|A v0<|A v1<|K 1) []:=aG [[1]] rfl
theorem IE {a b c:Nat}:aF [a,b,c] [] (lt v1<|K 1000) [le v0<|K 1000,eq (A v1<|A v2<|K 1) v0]:=aG [[1,1,0,1]] rfl
theorem SN {a b:Nat}:aF [a,b] [] (lt v0<|K 10000) [le v0<|A (K 0) v1,lt v1<|K 1000]:=aG [[1,1,1]] rfl
theorem SO {a b:Nat}:aF [a,b] [] (lt v1<|K 10000) [le v0<|K 18,eq v1 v0]:=aG [[1,1,0,1]] rfl
theorem SP {a b c d:Nat}:aF [a,b,c,d] [] (lt (A (K 0) v3) v0) [eq v0 v1,le v2 v1,lt v3 v2]:=aG [[0,1,1,1,1]] rfl
theorem SQ {a b c:Nat}:aF [a,b,c] [] (lt v2<|Y v0 v1) [eq v0 v1,lt v2 v0]:=aG [[1,0,1,1],[0,0,1,1]] rfl
theorem SR {a b:Nat}:aF [a,b] [] (le v1<|K 16777216) [le v0<|K 1000,lt v1 v0]:=aG [[1,1,1]] rfl
theorem SU {a b:Nat}:aF [a,b] [] (lt (B<|C v1)<|K<|2 ^ 62) [le v0<|K 1000,lt v1 v0]:=aG [[1,1,1],[0,0,1]] rfl
theorem SV {a b:Nat}{c:Int}:aF [a,b] [c] (lt (B v0)<|K<|2 ^ 62) [le v0<|K 1000,le v1<|A (K 0) v0,li (K 0) v0,ti v0<|C v1]:=aG [[1,1,0,1,1],[0,0,1,0,1]] rfl
theorem SW {a b:Nat}:aF [a,b] [] (le v1<|K 18) [le v0<|K 18,eq v1 v0]:=aG [[1,1,0,1]] rfl
theorem SX {a:Nat}:aF [a] [] (li (C v0)<|K 1048576) [le v0<|K 18]:=aG [[1,1]] rfl
theorem SY {a:Nat}:aF [a] [] (le (M 1 v0)<|K 16777216) [le v0<|K 18]:=aG [[1,1]] rfl
theorem SZ {a:Nat}:aF [a] [] (li (C v0)<|K 1048576) [le v0<|K 9999]:=aG [[1,1]] rfl
theorem S3 {a:Nat}:aF [a] [] (an (li (K 0)<|C v0)<|ti (C v0)<|K 256) [lt v0<|K 256]:=aG [[0,1],[1,1]] rfl
theorem S4 {a b c d e f g:Nat}:aF [a,b,c,d,e,f,g] [] (an (le v0<|A v5<|A v2<|K 1)<|le v3<|A v6<|M 2<|A v2<|K 1) [le v0<|A v1 v2,le v3<|A v4<|M 2 v2,le v1<|A v5<|K 1,le v4<|A v6<|K 2]:=aG [[1,0,1,0,1],[0,1,0,1,1]] rfl
theorem S5 {a b:Nat}:aF [a,b] [] (lt v0<|K 16777216) [le v0<|A (K 0) v1,lt v1<|K 1000]:=aG [[1,1,1]] rfl
theorem IF {a b:Nat}:aF [a,b] [] (ei (Y (C v0)<|C v1)<|C<|Y v0 v1) []:=aG [[1],[1,0,1],[1,0,1],[1],[1],[1,0,1],[1,0,1],[1]] rfl
theorem S8 {a b:Nat}:aF [a,b] [] (li (C<|Y v1 v0)<|K 1000000) [le v0<|K 100000]:=aG [[1,1],[1,1,1]] rfl
theorem Ta {a b c:Nat}:aF [a,b,c] [] (lt v0 v1) [lt v0<|Y v1 v2]:=aG [[1,1,1],[1,0,1]] rfl
theorem Tb {a b c:Nat}:aF [a,b,c] [] (le v0 v2) [lt v0<|Y v1 v2]:=aG [[1,0,1],[1,1,1]] rfl
theorem Tc {a:Int}:aF [] [a] (li (S (K 0) v0)<|K 18) [li (G<|K 6) v0]:=aG [[1,1]] rfl
theorem Td {a:Int}:aF [] [a] (li (S v0<|K 0)<|K 1000) [li v0<|K 18]:=aG [[1,1]] rfl
theorem Te {b:Nat}{a:Int}:aF [b] [a] (li (S (C v0) v0)<|K 18) [li (G<|K 6) v0,le v0<|T v0]:=aG [[0,1,0,1],[1,1,0,1]] rfl
theorem IH {b:Nat}{a:Int}:aF [b] [a] (li (S v0<|C v0)<|K 1000) [li v0<|K 18]:=aG [[1,1]] rfl
theorem Tf {a:Nat}{b:Int}:aF [a] [b] (le v0<|K 19) [le (A v0<|T<|G v0)<|K 19]:=aG [[1,1,1],[1,0,1]] rfl
theorem Tg {a b:Int}:aF [] [a,b] (lt (B v0)<|K<|2 ^ 64) [le (B v0)<|B v1,lt (B v1)<|K<|10 ^ 19]:=aG [[1,0,0,1,0,1],[0,1,0,0,0,1],[1,0,0,0,1,1],[0,1,0,0,0,1],[1,0,0,0,1,1],[0,1,0,0,0,1],[1,0,0,1,0,1],[0,1,0,0,0,1],[0,1,0,0,0,1],[1,0,0,1,0,1],[0,1,0,0,0,1],[1,0,0,0,1,1],[0,1,0,0,0,1],[1,0,0,0,1,1],[0,1,0,0,0,1],[1,0,0,1,0,1]] rfl
theorem Th {a b:Nat}:aF [a,b] [] (le (Y v0 v1)<|X v0 v1) []:=aG [[1,1],[1],[1],[1,1]] rfl
theorem DC {a:Int}:aF [] [a] (ti (G<|K 1000) v0) [li (G<|K 6) v0]:=aG [[1,1]] rfl
theorem Ti {a:Nat}{b:Int}:aF [a] [b] (lt (B v0)<|K<|2 ^ 64) [le v0<|K<|10 ^ 18,lt (B v0) v0]:=aG [[1,1,0,1],[0,0,1,1],[0,0,1,1],[1,1,0,1]] rfl
theorem Tj {a b c:Nat}:aF [a,b,c] [] (le v0<|X v1 v2) [le v0 v1]:=aG [[1,1],[1,1,1]] rfl
theorem Tk {a b c:Nat}:aF [a,b,c] [] (li (C v0)<|X (C v1)<|C v2) [le v0<|X v1 v2]:=aG [[1,0,1],[1,0,1,1],[1,0,1,1],[1,0,1]] rfl
theorem uy {a:Nat}:aF [a] [] (no<|ti (C v0)<|K 0) []:=aG [[1]] rfl
theorem II {a b:Nat}:aF [a,b] [] (le v1 v0) [no<|le v0 v1]:=aG [[1,1]] rfl
theorem Tl {a:Nat}:aF [a] [] (eq (S (A v0<|K 2) v0)<|K 2) []:=aG [[1],[0,1],[1],[1]] rfl
theorem IJ {a b:Nat}:aF [a,b] [] (lt (B<|C v0)<|K<|2 ^ 62) [le (A v0<|A v1<|K 1)<|K 1000]:=aG [[1,1],[0,1]] rfl
theorem Tn {a b c:Nat}:aF [a,b,c] [] (eq (A v0<|A v1 v2)<|A (A v0 v1) v2) []:=aG [[1],[1]] rfl
theorem To {a b c d e:Nat}:aF [a,b,c,d,e] [] (lt v4<|K 1001) [le v0<|K 1000,eq v0<|A (A v1 v2) v3,le v4 v1]:=aG [[1,0,1,1,1]] rfl
theorem Tp {a b c d:Nat}:aF [a,b,c,d] [] (ti (C v2)<|C v1) [le (K 1) v0,eq v1<|A (A v2 v0) v3]:=aG [[1,0,1,1]] rfl
theorem IK {a:Nat}:aF [a] [] (le v0<|K 16777216) [le v0<|K 2]:=aG [[1,1]] rfl
theorem Tq {a b c d:Nat}:aF [a,b,c,d] [] (le (A v1 v2) v0) [eq v0<|A (A v1 v2) v3]:=aG [[0,1,1]] rfl
theorem Tr {a:Nat}:aF [a] [] (le (A (S v0<|K 1)<|K 1)<|A v0<|K 1) []:=aG [[1],[1]] rfl
theorem Ts {a b c:Nat}:aF [a,b,c] [] (le v0<|A v1<|A v2<|K 1) [le v0<|A (A v1<|K 1) v2]:=aG [[1,1]] rfl
theorem Tt {a:Nat}:aF [a] [] (li (K 0)<|A (G<|K 1)<|C<|A v0<|K 1) []:=aG [[1]] rfl
theorem Tu {a:Nat}:aF [a] [] (eq (T<|A (G<|K 1)<|C<|A v0<|K 1) v0) []:=aG [[1],[1,1],[1],[1]] rfl
theorem Tv {a b:Nat}:aF [a,b] [] (le v0<|K 999) [le (A v0<|A v1<|K 1)<|K 1000]:=aG [[1,1]] rfl
theorem Tw {a:Nat}:aF [a] [] (li (K 0)<|A (G<|K 1)<|C<|A v0<|A (K 0)<|K 1) []:=aG [[1]] rfl
theorem Tx {a:Nat}:aF [a] [] (eq (T<|A (G<|K 1)<|C<|A v0<|A (K 0)<|K 1) v0) []:=aG [[1],[1,1],[1],[1]] rfl
theorem Tz {a:Nat}:aF [a] [] (no<|ti (K 9999)<|C v0) [le v0<|K 9999]:=aG [[1,1]] rfl
theorem TA {a:Nat}:aF [a] [] (no<|ti (K 30)<|C v0) [le v0<|K 30]:=aG [[1,1]] rfl
theorem TB {a b:Nat}:aF [a,b] [] (le (Y v1 v0)<|K 1000) [le v0<|K 30]:=aG [[1,1],[1,1,1]] rfl
theorem TC {a:Int}:aF [] [a] (an (ti (K 0)<|C<|B v0)<|ti (C<|B v0)<|K<|2 ^ 64) [ti (K 0) v0,ti v0<|K<|2 ^ 64]:=aG [[1,0,1],[1,0,0,1],[0,1,1],[1,0,1]] rfl
theorem TD {a:Int}:aF [] [a] (li (K 0)<|G v0) [ti v0<|K 0]:=aG [[1,1]] rfl
theorem TE {a:Int}:aF [] [a] (li (G v0)<|K 1000000) [ti (G<|K 1000) v0]:=aG [[1,1]] rfl
theorem TF {a:Nat}:aF [a] [] (no<|no<|ti (K 0)<|C<|A v0<|K 1) []:=aG [[1]] rfl
theorem TG {a:Nat}:aF [a] [] (ei (S (C<|A v0<|K 1)<|K 1)<|C v0) []:=aG [[1],[1]] rfl
theorem TH {a b:Int}:aF [] [a,b] (le (T<|S v0 v1)<|K 18) [li (S v0 v1)<|K 18]:=aG [[1,1],[0,1]] rfl
theorem TI {a:Nat}:aF [a] [] (li (C v0)<|K 1000000) [le v0<|K 18]:=aG [[1,1]] rfl
theorem TJ {a b:Nat}:aF [a,b] [] (eq (T<|S (C v0)<|C v1)<|S v0 v1) []:=aG [[1],[1,1],[1,1],[1],[1],[1,1],[1,1],[1]] rfl
theorem TL {a b:Nat}:aF [a,b] [] (le v1<|K 16777216) [le v0<|K 18,le v1 v0]:=aG [[1,1,1]] rfl
theorem TN {a b:Nat}:aF [a,b] [] (le (S v0 v1)<|K 16777216) [le v0<|K 18]:=aG [[1,1],[0,1]] rfl
theorem TO {a b:Nat}:aF [a,b] [] (li (K 0)<|S (C v1)<|C v0) [le v0 v1]:=aG [[1,1]] rfl
theorem TP {a b:Nat}:aF [a,b] [] (li (S (C v0)<|C v1)<|K 1048576) [le v0<|K 18]:=aG [[1,1]] rfl
theorem TQ {a b:Nat}:aF [a,b] [] (le (A (S v0 v1) v1)<|K 16777216) [le v0<|K 18,le v1 v0]:=aG [[1,0,1],[1,1,1]] rfl
theorem TR {a:Nat}:0<(↑a:Int)↔0<a:=by lia
theorem TS {a:Nat}:aF [a] [] (ti (C v0)<|K<|10 ^ 100) [lt v0<|K<|10 ^ 18]:=aG [[1,1]] rfl
theorem TT {a:Nat}:aF [a] [] (li (K 0)<|C v0) []:=aG [[1]] rfl
theorem TU {a:Nat}:aF [a] [] (eq v0<|K 0) [no<|ti (K 0)<|C v0]:=aG [[0,1],[1,1]] rfl
theorem DD {a:Int}:aF [] [a] (no<|ei v0<|K 0) [ti (K 0) v0]:=aG [[1,1]] rfl
theorem IL {a:Int}:aF [] [a] (li (K 0)<|A v0<|K 1) [li (K 0) v0]:=aG [[1,1]] rfl
theorem IM {a b:Int}:aF [] [a,b] (li (A v0<|K 1)<|A v1<|K 1) [li v0 v1]:=aG [[1,1]] rfl
theorem TV {c:Nat}{a b:Int}:aF [c] [a,b] (lt (B<|A (A v1<|K 1)<|K 2)<|K<|2 ^ 64) [li v0<|K 1000,li v1 v0,ti (C v0)<|A v1<|K 1]:=aG [[1,1,0,1],[0,0,1,1]] rfl
theorem TW {c:Nat}{a b:Int}:aF [c] [a,b] (lt (B<|A (A v1<|K 1)<|K 9)<|K<|2 ^ 64) [li v0<|K 1000,li v1 v0,ti (C v0)<|A v1<|K 1]:=aG [[1,1,0,1],[0,0,1,1]] rfl
theorem TX {b:Nat}{a:Int}:aF [b] [a] (lt (T v0) v0) [li (K 0) v0,no<|ti (C v0)<|A v0<|K 1]:=aG [[0,1,1],[1,1,1]] rfl
theorem TY {a:Int}:aF [] [a] (li (K 0)<|S (A v0<|K 1)<|K 1) [li (K 0) v0]:=aG [[1,1]] rfl
theorem TZ {a:Int}:aF [] [a] (eq (T<|S (A v0<|K 1)<|K 1)<|T v0) []:=aG [[1],[1,1],[1,1],[1],[1],[1,1],[1,1],[1]] rfl
theorem T0 {b:Nat}{a:Int}:aF [b] [a] (lt (B<|S (A v0<|K 1)<|K 1)<|K<|2 ^ 62) [li (K 0) v0,le v0<|K 63,no<|ti (C v0)<|A v0<|K 1]:=aG [[0,1,1,1],[1,0,0,1]] rfl
theorem T4 {a b:Int}:aF [] [a,b] (li (K 0)<|M 2<|S (C<|B v1) v0) [li v0<|C<|B v1]:=aG [[2,0,1],[2,0,1,4],[2,0,1,4],[2,0,1]] rfl
theorem T5 {a b c:Int}:aF [] [a,b,c] (li (K 0)<|A (M 2<|S (C<|B v0) v1) v2) [li (K 0)<|M 2<|S (C<|B v0) v1,li (K 0) v2]:=aG [[1,0,1,1],[1,0,1,1,4],[1,0,1,1,4],[1,0,1,1]] rfl
theorem Ua {a b:Int}:aF [] [a,b] (li v0<|A v1<|K 1) [li v0 v1]:=aG [[1,1]] rfl
theorem Ub {a b:Nat}:aF [a,b] [] (le (A v0<|A (K 0)<|K 1)<|M 2<|A v1<|A (K 0)<|K 1) [le v0<|M 2 v1]:=aG [[1,1]] rfl
theorem Uc {a b:Nat}:aF [a,b] [] (le (A (A v0<|A (K 0)<|K 1)<|A (K 0)<|K 1)<|M 2<|A v1<|A (K 0)<|K 1) [le v0<|M 2 v1]:=aG [[1,1]] rfl
theorem Ud {a:Int}:aF [] [a] (li v0<|A v0<|M 2<|C<|K 0) []:=aG [[1]] rfl
theorem Ue {a b c:Nat}:aF [a,b,c] [] (le (A v0<|K 1) v2) [eq (A v0<|A v1<|K 1) v2]:=aG [[1,0,1]] rfl
theorem Uf {c:Nat}{a b:Int}:aF [c] [a,b] (li v0<|A v1<|M 2<|C<|A v0<|K 1) [li v0<|A (A v1<|M 2<|C v0)<|K 2]:=aG [[1,1]] rfl
theorem Ug {b:Nat}{a:Int}:aF [b] [a] (li (A v0<|M 2<|C v0)<|A (A v0<|M 2<|C v0)<|K 2) []:=aG [[1]] rfl
theorem Uh {b c:Nat}{a:Int}:aF [b,c] [a] (li (A v0<|M 2<|C v1)<|K 1000) [li (A v0<|M 2<|C v0)<|K 1000,le (A v1<|K 1) v0]:=aG [[1,2,1]] rfl
theorem Ui {b:Nat}{a:Int}:aF [b] [a] (li (A (A v0<|M 2<|C v0)<|K 1)<|A (A v0<|M 2<|C v0)<|K 2) []:=aG [[1]] rfl
theorem Uj {b c:Nat}{a:Int}:aF [b,c] [a] (li (A (A v0<|M 2<|C v1)<|K 1)<|K 1000) [li (A v0<|M 2<|C v0)<|K 1000,le (A v1<|K 1) v0]:=aG [[1,2,1]] rfl
theorem Uk {a:Int}:aF [] [a] (LQ.or (ei v0<|K 0)<|LQ.or (ei v0<|K 1)<|LQ.or (ei v0<|K 2)<|ei v0<|K 3) [li (K 0) v0,ti v0<|K 4]:=aG [[1,0,1],[1,0,1],[1,0,1],[1,0,1],[1,0,1],[1,0,1],[1,0,1],[1,0,1],[0,0,1,1],[0,0,1,1],[0,0,1,1],[0,0,1,1],[0,0,0,1,1],[0,0,0,1,1],[0,0,0,0,1,1],[0,1,0,0,0,1]] rfl
theorem Ul {a:Int}:aF [] [a] (lt (B v0)<|K<|2 ^ 62) [li (K 0) v0,ti v0<|K 4]:=aG [[0,1,1],[1,0,1]] rfl
theorem Um {b:Nat}{a:Int}:aF [b] [a] (li (A (A (A v0<|M 2<|C v0)<|K 1)<|K 1)<|A (A v0<|M 2<|C v0)<|K 2) []:=aG [[1]] rfl
theorem Un {a:Int}:aF [] [a] (le (T v0)<|K 16777216) [li v0<|K 1000]:=aG [[1,1],[0,1]] rfl
theorem Uo {a b:Nat}:aF [a,b] [] (le (A v1 v0)<|K 1000) [le v0<|K 20,le v1<|K 5]:=aG [[1,1,1]] rfl
theorem Up {a b c:Nat}:aF [a,b,c] [] (le (A (A v2 v0) v1)<|K 1000) [le v0<|K 20,le v1<|K 5,le v2<|K 5]:=aG [[1,1,1,1]] rfl
theorem Uq {a b c d:Nat}:aF [a,b,c,d] [] (le (A (A (A v2 v0) v1) v3)<|K 1000) [le v0<|K 20,le v1<|K 5,le v2<|K 5,le v3<|K 5]:=aG [[1,1,1,1,1]] rfl
theorem Ur {a b:Nat}:aF [a,b] [] (le (A v0 v1)<|K 1000) [le v0<|K 5,le v1<|K 5]:=aG [[1,1,1]] rfl
theorem Us {a:Int}:aF [] [a] (LQ.or (ei v0<|K 3)<|LQ.or (ei v0<|K 4)<|ei v0<|K 5) [ti v0<|K 6,ti (K 2) v0]:=aG [[0,1,1],[0,1,1],[0,1,1],[0,1,1],[0,0,1,1],[0,0,1,1],[0,0,0,1,1],[1,0,0,0,1]] rfl
theorem Ut {a:Int}:aF [] [a] (lt (B<|S v0<|K 3)<|K<|2 ^ 62) [ti v0<|K 6,ti (K 2) v0]:=aG [[1,0,1],[0,1,1]] rfl
theorem Uu {a:Int}:aF [] [a] (no<|ei v0<|K 0) [ti (K 2) v0]:=aG [[1,1]] rfl
theorem Uv {a:Int}:aF [] [a] (LQ.or (ei v0<|K 0)<|LQ.or (ei v0<|K 1)<|ei v0<|K 2) [li (K 0) v0,no<|ti (K 2) v0]:=aG [[1,0,1],[1,0,1],[1,0,1],[1,0,1],[0,0,1,1],[0,0,1,1],[0,0,0,1,1],[0,1,0,0,1]] rfl
theorem Uw {a:Int}:aF [] [a] (LQ.or (ei v0<|K 1)<|LQ.or (ei v0<|K 2)<|an (no<|ei v0<|K 1)<|no<|ei v0<|K 2) []:=aG [[1,0,0,1],[1,0,0,1],[1,1],[1,1],[1,1],[1,1],[0,1,1],[0,1,1]] rfl
theorem Ux {a:Int}:aF [] [a] (li (K 0)<|A (K 1) v0) [li (K 0) v0]:=aG [[1,1]] rfl
theorem Uy {a:Int}:aF [] [a] (li (A (K 1) v0)<|K 1000) [ti v0<|K 2]:=aG [[1,1]] rfl
theorem Uz {a:Int}:aF [] [a] (LQ.or (ei v0<|K 0)<|ei v0<|K 1) [li (K 0) v0,ti v0<|K 2]:=aG [[1,0,1],[1,0,1],[0,0,1,1],[0,1,0,1]] rfl
theorem UA {a:Int}:aF [] [a] (LQ.or (ei v0<|K 1)<|ei v0<|K 2) [ti v0<|K 3,ti (K 0) v0]:=aG [[0,1,1],[0,1,1],[0,0,1,1],[1,0,0,1]] rfl
theorem UB {a:Int}:aF [] [a] (lt (B<|S v0<|K 1)<|K<|2 ^ 62) [ti v0<|K 3,ti (K 0) v0]:=aG [[1,0,1],[0,1,1]] rfl
theorem IN {a:Int}:aF [] [a] (li v0<|K 1000) [ti v0<|K 4]:=aG [[1,1]] rfl
theorem UC {a:Int}:aF [] [a] (le (A (K 1)<|T v0)<|K 1000) [ti v0<|K 4]:=aG [[1,1],[0,1]] rfl
theorem UD {a:Int}:aF [] [a] (le (K 1)<|T v0) [ti (K 0) v0]:=aG [[1,1],[1,0,1]] rfl
theorem UE {a:Int}:aF [] [a] (le (T v0)<|K 3) [ti v0<|K 4]:=aG [[1,1],[0,1]] rfl
theorem UF {a:Int}:aF [] [a] (le (A (T v0)<|K 1)<|K 5) [ti v0<|K 4]:=aG [[1,1],[0,1]] rfl
theorem UG {a:Int}:aF [] [a] (le (T v0)<|K 5) [li v0<|K 4]:=aG [[1,1],[0,1]] rfl
theorem UH {b:Nat}{a:Int}:aF [b] [a] (le (A v0<|T v0)<|K 1000) [ti v0<|K 4,le v0<|K 5]:=aG [[1,1,1],[0,1,1]] rfl
theorem UI {b:Nat}{a:Int}:aF [b] [a] (le (A v0<|T v0)<|K 8) [ti v0<|K 4,le v0<|K 5]:=aG [[1,1,1],[0,1,1]] rfl
theorem UJ {a:Nat}:aF [a] [] (li (A (K 6)<|M 2<|C v0)<|K 1000) [le v0<|K 8]:=aG [[2,1]] rfl
theorem UK {a:Nat}:aF [a] [] (li (A (K 6)<|M 2<|C v0)<|K 22) [le v0<|K 8]:=aG [[2,1]] rfl
theorem UL {a b:Nat}:aF [a,b] [] (le v1<|K 20) [le v0<|K 8,le v1<|M 2 v0]:=aG [[2,1,1]] rfl
theorem UM {a:Int}:aF [] [a] (li (K 0)<|A v0<|K 1) [li (K 1) v0]:=aG [[1,1]] rfl
theorem UN {a:Int}:aF [] [a] (li (K 0)<|A v0<|K 0) [li (K 1) v0]:=aG [[1,1]] rfl
theorem UO {a:Int}:aF [] [a] (li (A v0<|K 0)<|K 5) [li v0<|K 4]:=aG [[1,1]] rfl
theorem UP {a:Int}(f:0<=a) (j:a<6):a=0\/a=1\/a=2\/a=3\/a=4\/a=5:=by lia
theorem UQ {a:Int}:aF [] [a] (lt (B v0)<|K<|2 ^ 62) [li (K 0) v0,ti v0<|K 6]:=aG [[0,1,1],[1,0,1]] rfl
theorem UR {a:Int}:aF [] [a] (li (A (K 1) v0)<|K 4) [ti v0<|K 4]:=aG [[1,1]] rfl
theorem IP {a:Int}:aF [] [a] (li v0<|A v0<|C<|K 0) []:=aG [[1]] rfl
theorem IQ {c:Nat}{a b:Int}:aF [c] [a,b] (li v0<|A v1<|C<|A v0<|K 1) [li v0<|A (A v1<|K 1)<|C v0]:=aG [[1,1]] rfl
theorem DE {a b:Nat}:aF [a,b] [] (le v0<|K 1000) [le (A v0 v1)<|K 1000]:=aG [[1,1]] rfl
theorem US {a b:Nat}:aF [a,b] [] (lt v1<|K 16777216) [le v0<|K 1000,eq v1 v0]:=aG [[1,1,0,1]] rfl
theorem UT {a b:Nat}{c:Int}:aF [a,b] [c] (an (li (G<|K 5)<|S v0<|C v1)<|li (S v0<|C v1)<|K 1000) [le v0<|K 1000,le v1<|K 5,li (K 0) v0,li v0<|A (K 0)<|C v0]:=aG [[0,1,1,0,1],[1,0,0,1,1]] rfl
theorem UU {a:Nat}{b:Int}:aF [a] [b] (an (li (K 0) v0)<|li v0<|K 1000) [le v0<|K 1000,li (K 0) v0,li v0<|A (K 0)<|C v0]:=aG [[0,1,0,1],[1,0,1,1]] rfl
theorem UV {a b:Int}:aF [] [a,b] (le (T<|A v0<|X (S (K 0) v1)<|K 0)<|K 10) [li v0<|K 5,li (G<|K 5) v1]:=aG [[1,1,1],[1,0,1],[0,0,1],[0,0,1]] rfl
theorem UW {a:Int}:aF [] [a] (li (K 0)<|X v0<|K 0) []:=aG [[1,1],[1]] rfl
theorem UX {a:Int}:aF [] [a] (li (X v0<|K 0)<|K 1000000) [li v0<|K 1000]:=aG [[1,1],[0,1]] rfl
theorem UY {a b:Int}:aF [] [a,b] (li (K 0)<|A v0<|X (S (K 0) v1)<|K 0) [li (K 0) v0]:=aG [[1,1,1],[1,1]] rfl
theorem UZ {a b:Int}:aF [] [a,b] (li (A v0<|X (S (K 0) v1)<|K 0)<|K 1000000) [li v0<|K 5,li (G<|K 5) v1]:=aG [[1,1,1],[1,0,1]] rfl
theorem U0 {a:Int}:aF [] [a] (li (K 0) v0) [li (K 0) v0]:=aG [[1,1]] rfl
theorem U1 {a:Int}:aF [] [a] (li v0<|K 1000000) [li v0<|K 1000]:=aG [[1,1]] rfl
theorem IR {a:Nat}{b:Int}:aF [a] [b] (lt (B v0)<|K<|2 ^ 62) [le v0<|K 1000,le (B v0) v0]:=aG [[1,1,0,1],[0,0,1,1],[0,0,1,1],[1,1,0,1]] rfl
theorem U2 {a:Int}:aF [] [a] (le (T v0)<|K 16777216) [li v0<|K 10]:=aG [[1,1],[0,1]] rfl
theorem U3 {b:Nat}{a:Int}:aF [b] [a] (le (T<|S (S v0<|K 1)<|C v0)<|K 10) [li v0<|K 10]:=aG [[1,1],[0,1]] rfl
theorem U4 {a:Nat}{b:Int}:aF [a] [b] (li (K 0)<|S (S v0<|K 1)<|C v0) [lt v0<|T v0]:=aG [[1,0,1],[1]] rfl
theorem U5 {b:Nat}{a:Int}:aF [b] [a] (li (S (S v0<|K 1)<|C v0)<|K 1000000) [li v0<|K 10]:=aG [[1,1]] rfl
theorem U6 {a:Int}:aF [] [a] (le (T v0)<|K 1000) [li v0<|K 10]:=aG [[1,1],[0,1]] rfl
theorem yk {a b:Nat}:aF [a,b] [] (le v1<|K 1000) [le v0<|K 1000,eq v1<|A (K 0) v0]:=aG [[1,1,0,1]] rfl
theorem U7 {a:Int}:aF [] [a] (lt (B<|S v0<|K 1)<|K<|2 ^ 62) [le (B v0)<|K 1000]:=aG [[1,0,1],[0,1,1],[0,1,1],[1,0,1]] rfl
theorem U8 {a b c:Nat}:aF [a,b,c] [] (le v2<|A v1<|K 2) [le v0<|A v1<|K 1,le v2<|A v0<|K 1]:=aG [[1,1,1]] rfl
theorem U9 {a b c d:Nat}:aF [a,b,c,d] [] (le v0<|A v3<|M 2<|A v2<|K 1) [le v0<|A v1<|M 2 v2,le v1<|A v3<|K 2]:=aG [[1,1,1]] rfl
theorem Va {a:Int}:aF [] [a] (le (T v0)<|K 10) [li v0<|K 2]:=aG [[1,1],[0,1]] rfl
theorem Vb {a:Int}:aF [] [a] (LQ.or (ei v0<|K 0)<|LQ.or (ei v0<|K 1)<|ei v0<|K 2) [li (K 0) v0,li v0<|K 2]:=aG [[1,0,1],[1,0,1],[1,0,1],[1,0,1],[0,0,1,1],[0,0,1,1],[0,0,0,1,1],[0,1,0,0,1]] rfl
theorem Vc {a:Int}:aF [] [a] (li v0<|K 1000000) [li v0<|K 100]:=aG [[1,1]] rfl
theorem Vd {a:Int}:aF [] [a] (le (T v0)<|K 16777216) [li v0<|K 100]:=aG [[1,1],[0,1]] rfl
theorem Ve {b c:Nat}{a:Int}:aF [b,c] [a] (le v0<|K 100) [li v0<|K 100,eq (A v0 v1)<|T v0]:=aG [[1,1,0,0,1],[0,1,0,0,1]] rfl
theorem IS {b:Nat}{a:Int}:aF [b] [a] (lt (B<|C v0)<|K<|2 ^ 64) [li v0<|K 100,lt v0<|T v0]:=aG [[1,1,0,1],[0,0,0,1],[0,1,0,1],[0,0,0,1]] rfl
theorem Vf {b:Nat}{a:Int}:aF [b] [a] (lt (B<|S (K 0)<|C v0)<|K<|2 ^ 64) [li v0<|K 100,lt v0<|T v0]:=aG [[0,0,0,1],[1,1,0,1],[0,0,0,1],[0,1,0,1]] rfl
theorem Vg {a b:Nat}:aF [a,b] [] (le v0<|K 2) [le (A v0 v1)<|K 2]:=aG [[1,1]] rfl
theorem Vh {a b c d:Nat}:aF [a,b,c,d] [] (lt v3<|K 1000000) [le v0<|K 100,le v1<|A (K 0)<|M 2 v0,le v2<|K 2,le v3<|A v1 v2]:=aG [[2,1,1,1,1]] rfl
theorem Vi {a b c:Nat}:aF [a,b,c] [] (le (S (Y v0 v1) v2) v1) []:=aG [[1],[1,0,1],[1],[1,0,1]] rfl
theorem Vj {a:Int}:aF [] [a] (li (G<|K 400000)<|S v0<|K 400000) [li (K 0) v0]:=aG [[1,1]] rfl
theorem Vk {a:Int}:aF [] [a] (ti (S v0<|K 400000)<|K 600000) [ti v0<|K 1000000]:=aG [[1,1]] rfl
theorem Vl {a:Int}:aF [] [a] (ti (G<|K 1000) v0) [li (K 0) v0]:=aG [[1,1]] rfl
theorem Vm {a:Int}:aF [] [a] (lt (T v0)<|K 16) [ti v0<|K 16]:=aG [[1,1],[0,1]] rfl
theorem Vn {a b c:Nat}:aF [a,b,c] [] (eq (A (A (Y v0 v2)<|A (K 0)<|K 1)<|S v2<|A v0<|K 1) v1) [lt v0 v1,eq v2 v1]:=aG [[1,0,2,1],[0,0,1,1],[0,0,1,1],[0,0,1,1,0,1],[1,0,1,0,1],[1,0,1,0,1],[0,1,0,1],[1,0,0,1]] rfl
theorem IT {a:Nat}:aF [a] [] (ti (C v0)<|K<|2 ^ 64) [le v0<|K 1000]:=aG [[1,1]] rfl
theorem Vo {b:Nat}{a:Int}:aF [b] [a] (lt (T v0) v0) [li (K 0) v0,ti v0<|C v0]:=aG [[0,1,1],[1,1,1]] rfl
theorem Vp {a:Nat}{b:Int}:aF [a] [b] (lt (B v0)<|K<|2 ^ 62) [le v0<|K 1000,li (K 0) v0,lt (T v0) v0]:=aG [[1,0,1,0,1],[0,1,0,0,1],[0,0,0,1,1],[0,1,0,0,1]] rfl
theorem Vq {a:Int}:aF [] [a] (li v0<|K 1000000) [ti v0<|K 3]:=aG [[1,1]] rfl
theorem Vr {a:Int}:aF [] [a] (le (T v0)<|K 16777216) [ti v0<|K 3]:=aG [[1,1],[0,1]] rfl
theorem Vs {a:Int}:aF [] [a] (li (A (A v0<|K 1)<|K 1)<|A (A (A v0<|K 1)<|K 1)<|M 2<|C<|K 0) []:=aG [[1]] rfl
theorem Vt {b c:Nat}{a:Int}:aF [b,c] [a] (le (A v0<|K 1)<|K 2) [ti v0<|K 3,eq (A v0<|A v1<|K 1)<|T v0]:=aG [[1,1,0,0,1],[0,1,0,0,1]] rfl
theorem Vu {a b:Nat}:aF [a,b] [] (le v1<|K 16777216) [le v0<|K 9,eq v1 v0]:=aG [[1,1,0,1]] rfl
theorem Vv {b:Nat}{a:Int}:aF [b] [a] (li (A (A (A v0<|K 1)<|K 1)<|M 2<|C v0)<|K 1000) [li v0<|K 900,le (A v0<|K 1)<|K 2]:=aG [[1,2,1]] rfl
theorem Vw {a b:Nat}:aF [a,b] [] (ti (K 0)<|C v1) [lt (K 0) v0,eq v1 v0]:=aG [[1,0,1,1]] rfl
theorem Vx {a b:Nat}:aF [a,b] [] (ti (C v1)<|K<|2 ^ 64) [le v0<|K 9,eq v1 v0]:=aG [[1,1,0,1]] rfl
theorem Vy {a:Nat}:0<(↑a:Int) / 3+1:=by lia
theorem Vz {a b:Nat}:aF [a,b] [] (le v1<|K 16777216) [le v0<|K 1000,le v1 v0]:=aG [[1,1,1]] rfl
theorem IU {a b:Nat}:aF [a,b] [] (le v1<|K 10) [le v0<|K 9,eq v1 v0]:=aG [[1,1,0,1]] rfl
theorem VA {c:Nat}{a b:Int}:aF [c] [a,b] (li (S (C v0) v1)<|K 18) [ti v0<|K 5,li (G<|K 6) v1,le v0<|T v0]:=aG [[1,1,1,0,1],[0,1,1,0,1]] rfl
theorem VB {a b:Int}:aF [] [a,b] (lt (B v1)<|K<|2 ^ 64) [li (G<|K 400000) v0,ti v0<|K 600000,le (B v1)<|B v0]:=aG [[0,1,1,0,0,1],[0,0,0,1,0,1],[1,0,1,0,0,1],[0,0,0,1,0,1],[0,0,0,1,0,1],[0,1,1,0,0,1],[0,0,0,1,0,1],[1,0,1,0,0,1]] rfl
theorem IV {a:Int}:aF [] [a] (lt (B v0)<|K<|2 ^ 64) [li (G<|K 400000) v0,ti v0<|K 600000]:=aG [[0,1,1],[1,0,1]] rfl
theorem IW {a b:Nat}:aF [a,b] [] (lt (K 0) v0) [eq v0 v1,lt (K 0) v1]:=aG [[0,1,1,1]] rfl
theorem VC {a:Nat}:aF [a] [] (le v0<|K 63) [no<|ti (K 63)<|C v0]:=aG [[1,1]] rfl
theorem VD {a b:Nat}:aF [a,b] [] (lt (A (A v0<|K 1)<|M 4 v1)<|K 900) [lt (A (A v0<|M 4 v1)<|K 2)<|K 900]:=aG [[1,1]] rfl
theorem VE {a b c:Nat}:aF [a,b,c] [] (lt (A (A v1 v0)<|M 40 v2)<|K 9000) [le v0<|K 10,lt (A (A v1<|M 40 v2)<|K 30)<|K 9000]:=aG [[1,1,1]] rfl
theorem IX {a b c:Nat}:aF [a,b,c] [] (le v2 v0) [eq v0 v1,eq v2 v1]:=aG [[0,1,1,0,1]] rfl
theorem VF {a b:Nat}:aF [a,b] [] (ti (K 0)<|S (C v1)<|C v0) [lt v0 v1]:=aG [[1,1]] rfl
theorem VG {a b:Nat}:aF [a,b] [] (ei (S (S (C v0)<|C v1)<|K 1)<|S (C v0)<|C<|A v1<|K 1) []:=aG [[1],[1]] rfl
theorem VH {a b:Nat}:aF [a,b] [] (li (S (C v1)<|C v0)<|K 0) [eq v0 v1]:=aG [[0,1,1]] rfl
theorem IY {a:Nat}:aF [a] [] (no<|eq (A v0<|K 2)<|A v0<|K 4) []:=aG [[0,1]] rfl
theorem IZ {a:Nat}:aF [a] [] (no<|eq (A v0<|K 3)<|A v0<|K 4) []:=aG [[0,1]] rfl
theorem Ja {a:Nat}:aF [a] [] (no<|eq (A v0<|K 0)<|A v0<|K 4) []:=aG [[0,1]] rfl
theorem Jb {a:Nat}:aF [a] [] (no<|eq (A v0<|K 1)<|A v0<|K 4) []:=aG [[0,1]] rfl
theorem Jc {a:Nat}:aF [a] [] (no<|eq (A v0<|K 2)<|A v0<|K 3) []:=aG [[0,1]] rfl
theorem Jd {a:Nat}:aF [a] [] (no<|eq (A v0<|K 2)<|A v0<|K 0) []:=aG [[1]] rfl
theorem Je {a:Nat}:aF [a] [] (no<|eq (A v0<|K 2)<|A v0<|K 1) []:=aG [[1]] rfl
theorem Jf {a:Nat}:aF [a] [] (no<|eq (A v0<|K 3)<|A v0<|K 0) []:=aG [[1]] rfl
theorem Jg {a:Nat}:aF [a] [] (no<|eq (A v0<|K 3)<|A v0<|K 1) []:=aG [[1]] rfl
theorem DF {a:Nat}:aF [a] [] (no<|eq (A v0<|K 0)<|A v0<|K 1) []:=aG [[0,1]] rfl
theorem VI {a b c d:Nat}:aF [a,b,c,d] [] (le v3 v0) [eq v0<|Y v1 v2,eq v3 v1,le v1 v2]:=aG [[0,1,0,1,0,1,1],[0,1,0,1,0,0,1]] rfl
theorem VJ {a b c d:Nat}:aF [a,b,c,d] [] (le v3 v0) [eq v0<|Y v1 v2,eq v3 v2,no<|le v1 v2]:=aG [[0,1,0,1,0,0,1],[0,0,1,0,0,1]] rfl
theorem VK {a:Nat}:aF [a] [] (no<|eq (A v0<|K 1) v0) []:=aG [[1]] rfl
theorem VL {a:Int}:aF [] [a] (li (G<|K<|2 ^ 62) v0) [li (K 0) v0]:=aG [[1,1]] rfl
theorem VM {a b c:Nat}:aF [a,b,c] [] (lt v0<|A v1<|A v2<|K 1) [lt v0<|A (A v1<|K 1) v2]:=aG [[1,1]] rfl
theorem VN {a b:Nat}:aF [a,b] [] (eq (S v1 v0)<|A (S v1<|A v0<|K 1)<|K 1) [le (A v0<|K 1) v1]:=aG [[0,1],[1,1],[1,0,1],[1,0,1],[0,1],[1,1],[0,1,1],[0,1]] rfl
theorem VO {a b c:Nat}:aF [a,b,c] [] (lt v0<|A v1 v2) [lt v0 v1]:=aG [[1,1]] rfl
theorem VP {a:Int}:aF [] [a] (ti v0<|K<|2 ^ 63) [lt (B v0)<|K<|2 ^ 62]:=aG [[1,0,1],[0,1,1]] rfl
theorem VQ {a:Int}:aF [] [a] (li (G<|K<|2 ^ 63) v0) [lt (B v0)<|K<|2 ^ 62]:=aG [[0,1,1],[1,0,1]] rfl
theorem Jh {b:Nat}{a:Int}:aF [b] [a] (li (G<|C v0) v0) [li (K 0)<|A v0<|C v0]:=aG [[1,1]] rfl
theorem VS {a:Nat}:aF [a] [] (le v0<|K 16777216) [lt v0<|K 1000000]:=aG [[1,1]] rfl
theorem VT {a b:Nat}:aF [a,b] [] (lt v0 v1) [lt v0<|A (K 0) v1]:=aG [[1,1]] rfl
theorem VU {a b:Nat}:aF [a,b] [] (lt v0<|K 1000) [lt (A v0<|M 4<|A v1<|K 1)<|K 900]:=aG [[1,1]] rfl
theorem VV {a b c d:Nat}:aF [a,b,c,d] [] (lt v3 v0) [eq v0<|A v1 v2,lt v3<|A v1 v2]:=aG [[0,1,1,1]] rfl
theorem VW {a b:Nat}:aF [a,b] [] (lt (A (A v0<|K 1)<|M 4 v1)<|K 900) [lt (A v0<|M 4<|A v1<|K 1)<|K 900]:=aG [[1,1]] rfl
theorem VX {a b:Nat}:aF [a,b] [] (lt (A (A v0<|K 3)<|M 40 v1)<|K 9000) [lt (A v0<|M 40<|A v1<|K 1)<|K 9000]:=aG [[1,1]] rfl
theorem VY {a b:Nat}:aF [a,b] [] (lt (A (A (A v0<|K 1)<|M 4 v1)<|K 2)<|K 900) [lt (A v0<|M 4<|A v1<|K 1)<|K 900]:=aG [[1,1]] rfl
theorem VZ {a b:Nat}:aF [a,b] [] (lt (A (A (A v0<|K 3)<|M 40 v1)<|K 30)<|K 9000) [lt (A v0<|M 40<|A v1<|K 1)<|K 9000]:=aG [[1,1]] rfl
theorem V0 {a b:Nat}:aF [a,b] [] (le v1<|K 1001) [lt v0<|K 100,le v1<|A v0<|K 1]:=aG [[1,1,1]] rfl
theorem V1 {b:Nat}{a:Int}:aF [b] [a] (an (ti (G<|C v0) v0)<|ti v0<|C v0) [lt (B v0) v0]:=aG [[1,2,1],[1,0,1],[1,0,1],[1,2,1]] rfl
theorem V2 {a:Int}:aF [] [a] (no<|ti v0<|G<|K<|2 ^ 63) [li (K 0) v0]:=aG [[1,1]] rfl
theorem V3 {a:Int}:aF [] [a] (eq (T v0)<|K 0) [ti v0<|K 1]:=aG [[0,1,1],[0,1],[1,1],[0,1]] rfl
theorem V4 {a:Int}:aF [] [a] (le (K 1)<|T v0) [no<|ti v0<|K 1]:=aG [[1,1],[1,0,1]] rfl
theorem V5 {a:Int}:aF [] [a] (an (li (G<|K 9223372036854775808) v0)<|ti v0<|K 9223372036854775808) [li v0<|K 1048576,no<|ti v0<|K 1]:=aG [[0,1,1],[1,0,1]] rfl
theorem V6 {a:Int}:aF [] [a] (li (M 16777216 v0)<|S (K<|2 ^ 63)<|K 1) [li v0<|K 1048576]:=aG [[16777216,1]] rfl
theorem V7 {a:Int}:aF [] [a] (li (G<|K 1048576) v0) [li (K 0) v0]:=aG [[1,1]] rfl
theorem V8 {a:Int}:aF [] [a] (an (li (G<|K 9223372036854775808) v0)<|ti v0<|K 9223372036854775808) [li (K 0) v0,ti v0<|K<|2 ^ 62]:=aG [[1,0,1],[0,1,1]] rfl
theorem V9 {a:Nat}{b:Int}(f:a*b.toNat<=2 ^ 24):¬a*b.toNat > (2 ^ 63-1) / 8:=by lia
theorem Wa {a b:Nat}:aF [a,b] [] (lt (A (A v0<|K 1)<|M 4<|A (K 0)<|K 1)<|K 900) [lt (A (A v0<|M 4<|A v1<|K 1)<|K 2)<|K 900]:=aG [[1,1]] rfl
theorem Wb {a b c:Nat}:aF [a,b,c] [] (lt (A (A v1 v0)<|M 40<|A (K 0)<|K 1)<|K 9000) [le v0<|K 10,lt (A (A v1<|M 40<|A v2<|K 1)<|K 30)<|K 9000]:=aG [[1,1,1]] rfl
theorem Wc {a:Nat}:aF [a] [] (lt (K 3)<|A (A (A (A (A (A (K 0)<|K 1)<|K 1)<|K 1)<|K 1)<|K 1) v0) []:=aG [[1]] rfl
theorem Wd {a b c:Nat}:aF [a,b,c] [] (lt (A v2<|M 4 v0)<|K 900) [le v0 v1,lt (A v2<|M 4 v1)<|K 900]:=aG [[4,1,1]] rfl
theorem We {a b c:Nat}:aF [a,b,c] [] (lt (A v2<|M 40 v0)<|K 9000) [le v0 v1,lt (A v2<|M 40 v1)<|K 9000]:=aG [[40,1,1]] rfl
theorem Wf {a b:Nat}:aF [a,b] [] (lt v0<|K 9900) [lt (A v0<|M 40 v1)<|K 9000]:=aG [[1,1]] rfl
theorem Wg {b:Nat}{a:Int}:aF [b] [a] (an (li (K 0) v0)<|ti v0<|C v0) [lt (T v0) v0,no<|ti v0<|K 0]:=aG [[0,1,0,1],[1,0,0,1],[0,0,1,1],[1,1,0,1]] rfl
theorem Wh {b:Nat}{a:Int}:aF [b] [a] (an (li (K 0)<|A v0<|C v0)<|ti (A v0<|C v0)<|C v0) [li (K 0)<|A v0<|C v0,ti v0<|K 0]:=aG [[1,0,1],[0,1,1]] rfl
theorem Wi {b:Nat}{a:Int}:aF [b] [a] (li (A v0<|C v0)<|C v0) [ti v0<|K 0]:=aG [[1,1]] rfl
theorem Wj {a b c:Nat}:aF [a,b,c] [] (LQ.or (an (eq v1<|K 0)<|eq v0 v2)<|eq v2<|K 0) [eq (S v0 v1) v2,le v0 v2]:=aG [[1,0,1,0,0,1],[0,0,0,0,1],[0,1,0,1,1],[0,1,0,1,1],[1,0,1,0,0,1],[0,1,0,0,1],[0,0,0,1,1],[0,0,0,1,1],[1,0,0,0,0,1],[0,1,0,0,0,1],[1,0,0,0,0,1],[0,1,0,0,0,1],[1,0,0,0,0,1],[0,1,0,0,0,1],[0,0,0,1,1],[0,0,0,1,1]] rfl
theorem Wk {b:Nat}{a:Int}:aF [b] [a] (ti v0<|C v0) [lt (T v0) v0]:=aG [[1,0,1],[1,1,1]] rfl
theorem Wl {a:Int}:aF [] [a] (ti v0<|K<|2 ^ 63) [ti v0<|K<|2 ^ 63]:=aG [[1,1]] rfl
theorem Wm {a:Int}:aF [] [a] (li (G<|K<|2 ^ 63) v0) [li (G<|K<|2 ^ 63) v0]:=aG [[1,1]] rfl
theorem Wn {a b c d:Nat}:aF [a,b,c,d] [] (le v3 v1) [eq v0 v1,le v2 v0,eq v2 v3]:=aG [[1,0,1,0,1,1]] rfl
theorem Wo {a b c:Int}:aF [] [a,b,c] (li v0 v1) [li v0<|Y v1 v2]:=aG [[1,1,1],[1,0,1]] rfl
theorem Wp {a b c:Int}:aF [] [a,b,c] (li v0 v2) [li v0<|Y v1 v2]:=aG [[1,0,1],[1,1,1]] rfl
theorem Wq {a b c:Int}:aF [] [a,b,c] (ei v2 v1) [ei v0 v1,li v2 v0,li v0 v2]:=aG [[0,1,0,1,1],[1,0,1,0,1]] rfl
theorem Wr {a:Int}(f:a<256):a.toNat % 2 ^ 8=a.toNat:=by lia
theorem Ws {a:Nat}:aF [a] [] (no<|li (K<|2 ^ 63)<|C v0) [le v0<|K 16777216]:=aG [[1,1]] rfl
theorem Wt {a:Nat}:aF [a] [] (ti (C v0)<|K<|2 ^ 63) [le v0<|K 16777216]:=aG [[1,1]] rfl
theorem Wu {a b:Nat}:aF [a,b] [] (lt v1 v0) [lt (K 0) v0,le v1<|S v0<|K 1]:=aG [[0,1,0,1],[1,1,0,1]] rfl
theorem Wv {a:Int}(f:0<=a) (j:a<10 ^ 100):a.natAbs<2 ^ 1920:=by lia
theorem Ww {a b:Nat}:aF [a,b] [] (no<|lt v1<|K 2) [eq v0<|K 100,eq v1 v0]:=aG [[0,1,0,1,1]] rfl
theorem Wx {a:Nat}:aF [a] [] (le v0<|A (K 16777216)<|K 1) [eq v0<|K 100]:=aG [[1,0,1]] rfl
theorem Wy {a:Nat}:aF [a] [] (le v0<|K 16777216) [lt v0<|K 64]:=aG [[1,1]] rfl
theorem Wz {a:Nat}:aF [a] [] (le v0<|K 16777216) [eq v0<|K 100]:=aG [[1,0,1]] rfl
theorem WA {a:Nat}:aF [a] [] (lt (S v0<|K 1)<|K 100) [lt v0<|K 100]:=aG [[1,1],[0,1]] rfl
theorem WB {a b:Nat}:aF [a,b] [] (lt (A (S v1<|K 1)<|K 1) v0) [eq v0<|K 100,lt v1<|K 100]:=aG [[0,1,1,1],[0,1,0,1]] rfl
theorem WC {a:Nat}:aF [a] [] (le v0<|K 16777216) [lt v0<|K 16777216]:=aG [[1,1]] rfl
theorem WD {a b:Nat}:aF [a,b] [] (le v0<|K 16777216) [le (A v0 v1)<|K 16777216]:=aG [[1,1]] rfl
theorem WE {a b c d:Nat}:aF [a,b,c,d] [] (le (A v0 v2)<|A (K 16777216)<|K 1) [eq v0 v1,eq v2 v3,le (A v1 v3)<|K 16777216]:=aG [[1,0,1,0,1,1]] rfl
theorem Ji {a b c:Nat}:aF [a,b,c] [] (lt v2 v0) [eq v0 v1,lt v2 v1]:=aG [[0,1,1,1]] rfl
theorem WF {a:Nat}:aF [a] [] (ti (C v0)<|S (K<|2 ^ 63)<|K 1) [le v0<|K 16777216]:=aG [[1,1]] rfl
theorem WG {a:Int}(f:a % 10=0):a=a / 10*10:=by lia
theorem WH {a:Int}:aF [] [a] (lt (K 0)<|B v0) [ti (K 0) v0]:=aG [[1,1],[1,0,1]] rfl
theorem WI {a:Int}:aF [] [a] (no<|ti v0<|K 0) [ti (K 0) v0]:=aG [[1,1]] rfl
theorem WJ {a:Int}:aF [] [a] (ei (G<|C<|B v0) v0) [ti v0<|K 0]:=aG [[2,1],[0,1],[1,0,1],[0,1]] rfl
theorem WK {a:Int}:aF [] [a] (ei (C<|B v0) v0) [no<|ti v0<|K 0]:=aG [[0,1],[0,1,2],[0,1],[2,1]] rfl
theorem WL {a b c:Nat}:aF [a,b,c] [] (eq (A (S v0 v2)<|A (S v1 v0) v2) v1) [le v0 v1,lt v2 v0]:=aG [[0,0,1],[0,0,1,0,1],[0,1,0,1],[0,1,0,1],[0,0,1],[1,0,1],[0,1,1],[1,1,1]] rfl
theorem WM {a b c:Nat}:aF [a,b,c] [] (eq (A (A v0<|A v2<|K 1)<|A (S v1 v0)<|T<|K 0)<|A v1<|A v2<|K 1) [le v0 v1]:=aG [[0,1],[0,1],[0,1,1],[0,1,1],[0,1],[0,1],[1,1],[1,1]] rfl
theorem WN {a:Nat}:aF [a] [] (an (li (K 48)<|C<|A (K 48) v0)<|li (C<|A (K 48) v0)<|K 57) [lt v0<|K 10]:=aG [[0,1],[1,1]] rfl
theorem WO {a:Nat}:aF [a] [] (ei (S (C<|A (K 48) v0)<|K 48)<|C v0) []:=aG [[1],[1]] rfl
theorem WP {a b:Nat}:(↑(a / 10 % b):Int)*10+(↑(a % 10):Int)=   (↑(a % 10+10*(a / 10 % b)):Int):=by lia
theorem WQ {a:Nat}:48<=48+a % 10/\48+a % 10<=57:=by lia
theorem WR {a:Nat}:aF [a] [] (eq v0<|K 0) [lt v0<|K 1]:=aG [[0,1],[1,1]] rfl
theorem WS {a:Nat}(f:a / 10=0) (j:48+a % 10=48):a=0:=by lia
theorem WT {a b:Nat}:aF [a,b] [] (eq (Y (T<|C v0)<|A v0 v1) v0) []:=aG [[1],[1],[1],[1,0,1],[1,1],[1,1],[1],[1]] rfl
theorem WU {a:Nat}:aF [a] [] (no<|ti (A (C v0)<|K 2)<|K 0) []:=aG [[1]] rfl
theorem WV {a b c:Nat}:aF [a,b,c] [] (eq (Y (T<|A (C v1)<|K 2)<|A v1<|A v0 v2)<|A v1<|K 2) [eq v0<|K 2]:=aG [[0,1,1],[0,0,0,0,1],[0,0,1],[0,0,1,0,1],[0,0,1,1],[0,0,1,1],[0,0,1],[0,0,1]] rfl
theorem WW {a b:Nat}:aF [a,b] [] (le (A v1<|K 2)<|A v1 v0) [eq v0<|K 2]:=aG [[0,1,1]] rfl
theorem WX {a b:Nat}:aF [a,b] [] (le (A v1 v0)<|A v1<|K 2) [eq v0<|K 2]:=aG [[1,0,1]] rfl
theorem Jj {a:Nat}:aF [a] [] (lt (K 0) v0) [lt (K 1) v0]:=aG [[1,1]] rfl
theorem WY {a b:Nat}:aF [a,b] [] (eq v0 v1) [eq v0<|K 1,eq v1<|K 1]:=aG [[0,1,1,0,1],[1,0,0,1,1]] rfl
theorem Jk {a:Nat}:aF [a] [] (lt (K 0) v0) [eq v0<|K 1]:=aG [[0,1,1]] rfl
theorem WZ {a:Nat}:aF [a] [] (no<|ei (C v0)<|K 45) [le (K 48) v0]:=aG [[1,1]] rfl
theorem W0 {a:Nat}:aF [a] [] (lt v0<|K 256) [le v0<|K 57]:=aG [[1,1]] rfl
theorem W1 {a:Nat}:-(↑a:Int)<0↔0<a:=by lia
theorem W2 {a b c d e:Nat}:aF [a,b,c,d,e] [] (le (A v0 v1)<|A v2<|A v3 v4) [le (A v0 v1)<|A (A v2 v3) v4]:=aG [[1,1]] rfl
theorem W3 {a b:Nat}:aF [a,b] [] (eq (A v0<|A v1<|K 1)<|A (A v0<|K 1) v1) []:=aG [[1],[1]] rfl
theorem W4 {a b:Int}(f:0<=a) (j:0<=b):0<=a*10+b:=by lia
theorem W5 {a b c:Int}(f:a<b) (j:c<=9):a*10+c<b*10:=by lia
theorem W6 {a b:Nat}:aF [a,b] [] (le v1<|K 1000) [le v0<|K 1000,eq v1 v0]:=aG [[1,1,0,1]] rfl
theorem W7 {a b c:Nat}:aF [a,b,c] [] (lt v0 v2) [le (A v0 v1) v2,lt (K 0) v1]:=aG [[1,1,1]] rfl
theorem W8 {a:Nat}:aF [a] [] (lt v0<|K 256) [lt v0<|K 97]:=aG [[1,1]] rfl
theorem W9 {a:Nat}:aF [a] [] (le (A (K 0) v0)<|K 1000) [le v0<|K 1000]:=aG [[1,1]] rfl
theorem Xa {b:Nat}{a:Int}:aF [b] [a] (lt (B v0) v0) [li (K 0) v0,ti v0<|C v0]:=aG [[0,1,1],[2,1,1]] rfl
theorem Xb {a:Nat}:aF [a] [] (le v0<|K 16777216) [le v0<|K 9999]:=aG [[1,1]] rfl
theorem Xc {a b:Nat}:aF [a,b] [] (le v1<|K 16777216) [le v0<|K 9999,eq v1 v0]:=aG [[1,1,0,1]] rfl
theorem Xd {a:Nat}:aF [a] [] (ei (S (K 0)<|C v0)<|G<|C v0) []:=aG [[1],[1]] rfl
theorem Xe {a:Nat}:aF [a] [] (ei (C<|B<|S (K 0)<|C v0)<|C v0) []:=aG [[1,2],[1],[1],[1]] rfl
theorem Xf {a:Nat}:aF [a] [] (ei (C<|B<|C v0)<|C v0) []:=aG [[1],[1,2],[1],[1]] rfl
theorem Xg {a:Nat}:aF [a] [] (lt (K 0) v0) [lt (K 1)<|A v0<|K 1]:=aG [[1,1]] rfl
theorem Xh {a:Nat}:aF [a] [] (lt (K 1) v0) [lt (K 1)<|A v0<|K 0]:=aG [[1,1]] rfl
theorem Xi {a b c:Int}:aF [] [a,b,c] (ei (A (A (A v0<|K 1) v1) v2)<|A (A (A v0 v1) v2)<|K 1) []:=aG [[1],[1]] rfl
theorem Xj {a b c:Int}:aF [] [a,b,c] (ei (A (A v0<|A v1<|K 1) v2)<|A (A (A v0 v1) v2)<|K 1) []:=aG [[1],[1]] rfl
theorem Xk {b:Nat}{a:Int}:aF [b] [a] (eq v0<|K 0) [ei v0<|K 0,ei v0<|C v0]:=aG [[0,1,1,0,1],[1,0,0,1,1]] rfl
theorem Jl {a b c:Int}:aF [] [a,b,c] (ei (A (A v0 v1)<|A v2<|K 0)<|A (A v0 v1) v2) []:=aG [[1],[1]] rfl
theorem Jm {a b c:Int}:aF [] [a,b,c] (ei (A (A v0 v1)<|A v2<|K 1)<|A (A (A v0 v1) v2)<|K 1) []:=aG [[1],[1]] rfl
theorem Xl {b:Nat}{a:Int}:aF [b] [a] (le v0<|K 1) [no<|ti (K 1) v0,ei v0<|C v0]:=aG [[1,0,1,1]] rfl
theorem Xm {a b:Nat}:aF [a,b] [] (lt (K 1)<|A v0<|A v1<|K 1) [lt (K 0) v0]:=aG [[1,1]] rfl
theorem Xn {a b:Nat}:aF [a,b] [] (no<|ti (C v1)<|C<|A v0<|K 0) [le v0 v1]:=aG [[1,1]] rfl
theorem Xo {a b:Nat}:aF [a,b] [] (ti (C v0)<|C<|A v0<|A v1<|K 1) []:=aG [[1]] rfl
theorem Xp {a b c d:Int}:aF [] [a,b,c,d] (an (li (K 0)<|A v2 v0)<|li (A v2 v0)<|A v3 v1) [li (K 0) v0,li v0 v1,li (K 0) v2,li v2 v3]:=aG [[1,0,1,0,1],[0,1,0,1,1]] rfl
theorem Xq {a b:Nat}:aF [a,b] [] (li (A (C v0)<|C v1)<|K 18) [li (A (A (C v0)<|K 0)<|C v1)<|K 18]:=aG [[1,1]] rfl
theorem Jn {a b:Nat}:aF [a,b] [] (le v0<|K 18) [li (A (C v0)<|C v1)<|K 18]:=aG [[1,1]] rfl
theorem Xr {a:Nat}{b c:Int}:aF [a] [b,c] (li (G<|K 6) v0) [le v0<|K 5,ei v0<|S v1<|C v0,li (K 0) v1]:=aG [[1,0,1,1,1]] rfl
theorem Xs {c d:Nat}{a b:Int}:aF [c,d] [a,b] (li v0<|K 18) [ei v0<|S v1<|C v0,li (A (C v1)<|C v0)<|K 18,li v1<|C v1]:=aG [[1,0,1,1,1]] rfl
theorem Xu {c d:Nat}{a b:Int}:aF [c,d] [a,b] (le (A v1<|T<|G v0)<|K 19) [ei v0<|S v1<|C v0,li (A (C v1)<|C v0)<|K 18,li (K 0) v1]:=aG [[0,1,1,1,1],[0,0,1,0,1]] rfl
theorem Xv {a:Int}:aF [] [a] (ti (K 0)<|A v0<|K 1) [ti (K 0) v0]:=aG [[1,1]] rfl
theorem Xw {a b c d:Int}:aF [] [a,b,c,d] (ei (A (A (A v0<|K 1) v1) v2)<|A v3<|K 1) [ei (A (A v0 v1) v2) v3]:=aG [[0,1,1],[1,0,1]] rfl
theorem Xx {a b c d:Int}:aF [] [a,b,c,d] (ei (A (A v0 v1)<|A v2<|K 1)<|A v3<|K 1) [ei (A (A v0 v1) v2) v3]:=aG [[0,1,1],[1,0,1]] rfl
theorem Xy {a:Int}(f:0<=a) (j:a<5):(a=0\/a=1)\/a=2\/a=3\/a=4:=by lia
theorem Xz {a b c d:Int}:aF [] [a,b,c,d] (ei (A (A v0<|A v1<|K 1) v2)<|A v3<|K 1) [ei (A (A v0 v1) v2) v3]:=aG [[0,1,1],[1,0,1]] rfl
theorem Jp {a:Int}:aF [] [a] (li v0<|K 0) [ei v0<|K 0]:=aG [[1,0,1]] rfl
theorem Jq {a:Int}:aF [] [a] (no<|ei v0<|K 0) [ti (K 0) v0]:=aG [[1,1]] rfl
theorem Jr {b:Nat}{a:Int}:aF [b] [a] (ei (A v0<|C<|A v0<|K 1)<|A (A v0<|K 1)<|C v0) []:=aG [[1],[1]] rfl
theorem Js {a:Int}(f:0<=a) (j:a<5):a=0\/a=1\/a=2\/a=3\/a=4:=by lia
theorem XA {a b:Nat}:aF [a,b] [] (li (K 0)<|C<|A v0 v1) []:=aG [[1]] rfl
theorem XB {a:Int}(f:0<=a) (j:a<6):(a=0\/a=1)\/a=2\/(a=3\/a=4)\/a=5:=by lia
theorem Jt {a:Int}:aF [] [a] (ti v0<|K 5) [LQ.or (ei v0<|K 0)<|ei v0<|K 1]:=aG [[1,0,1],[1,0,1]] rfl
theorem XD {a b c:Int}:aF [] [a,b,c] (ei (A (A v0<|A v1<|K 1) v2)<|K 1) [ei (A (A v0 v1) v2)<|K 0]:=aG [[0,1,1],[1,0,1]] rfl
theorem Aw {a:Int}:aF [] [a] (ti (K 0)<|A v0<|K 1) [li (K 0) v0]:=aG [[1,1]] rfl
theorem Ju {a b c:Int}:aF [] [a,b,c] (ei (A (A v0 v1)<|A v2<|K 0)<|K 0) [ei (A (A v0 v1) v2)<|K 0]:=aG [[0,1,1],[1,0,1]] rfl
theorem Jv {a:Int}:aF [] [a] (ti v0<|K 5) [LQ.or (ei v0<|K 3)<|ei v0<|K 4]:=aG [[1,0,1],[1,0,1]] rfl
theorem XG {a b c:Int}:aF [] [a,b,c] (ei (A (A (A v0<|K 1) v1) v2)<|K 1) [ei (A (A v0 v1) v2)<|K 0]:=aG [[0,1,1],[1,0,1]] rfl
theorem XH {a b:Nat}:aF [a,b] [] (le v1 v0) [no<|lt v0 v1]:=aG [[1,1]] rfl
theorem XI {a:Nat}{b:Int}:aF [a] [b] (ei (S (C<|A v0<|K 1) v0)<|A (S (C v0) v0)<|K 1) []:=aG [[1],[1]] rfl
theorem XJ {a b:Nat}:aF [a,b] [] (le v0 v1) [lt v0 v1]:=aG [[1,1]] rfl
theorem DG {a b:Nat}{c:Int}:aF [a,b] [c] (li (S (C<|A v0 v1) v0)<|A (S (C<|A v0 v1) v0)<|K 3) []:=aG [[1]] rfl
theorem XK {a b d:Nat}{c:Int}:aF [a,b,d] [c] (ti (K 0)<|A (A (S (C<|A v0 v1) v0)<|K 1)<|C v2) [ti (K 0)<|S (C<|A v0 v1) v0]:=aG [[1,1]] rfl
theorem XM {a b c:Nat}{d:Int}:aF [a,b,c] [d] (li (A (A (S (C<|A v1 v2) v0)<|K 1)<|C v0)<|A (S (C<|A v1 v2) v0)<|K 3) [le (A v0<|K 1)<|K 3]:=aG [[1,1]] rfl
theorem XN {a b d:Nat}{c:Int}:aF [a,b,d] [c] (ti (K 0)<|A (S (C<|A v0 v1) v0)<|C v2) [ti (K 0)<|S (C<|A v0 v1) v0]:=aG [[1,1]] rfl
theorem XQ {a b c:Nat}{d:Int}:aF [a,b,c] [d] (li (A (S (C<|A v1 v2) v0)<|C v0)<|A (S (C<|A v1 v2) v0)<|K 3) [le v0<|K 3]:=aG [[1,1]] rfl
theorem XS {a b c:Nat}:aF [a,b,c] [] (le (A v0 v1)<|A v2<|K 1) [le v0<|K 1,le v1 v2]:=aG [[1,1,1]] rfl
theorem XT {a:Nat}:aF [a] [] (le (A v0<|K 1)<|K 4) [le v0<|K 3]:=aG [[1,1]] rfl
theorem XU {a b c d e f g i j:Nat}:aF [a,b,c,d,e,f,g,i,j] [] (le (A (A (A (A v4 v5) v6) v7) v8)<|K 30) [le v0<|K 1,le v1<|K 1,le v2<|K 16,le v3<|K 4,le v4 v0,le v5 v1,le v6 v2,le v7 v3,le v8<|K 2]:=aG [[1,1,1,1,1,1,1,1,1,1]] rfl
theorem XV {a:Nat}:aF [a] [] (le (A (A (A (A (K 0)<|K 0)<|K 0) v0)<|K 0)<|K 5) [le v0<|K 4]:=aG [[1,1]] rfl
theorem XW {a b c d:Nat}:aF [a,b,c,d] [] (le (A v2 v0)<|A v3 v1) [le v0 v1,le v2 v3]:=aG [[1,1,1]] rfl
theorem XX {a:Int}:aF [] [a] (ei v0<|K 5) [ti v0<|K 6,no<|ti v0<|K 5]:=aG [[0,1,1],[1,0,1]] rfl
theorem XY {c:Nat}{a b:Int}:aF [c] [a,b] (ei (C v0)<|A v0 v1) [li (K 1) v0,li (K 0) v1,eq (T<|A v0 v1) v0]:=aG [[0,0,1,0,0,1],[0,0,0,1,0,1],[1,1,0,0,1],[1,1,0,0,1]] rfl
theorem XZ {b:Nat}{a c:Int}:aF [b] [a,c] (ei (C v0)<|A v0 v1) [li (K 1) v0,eq (T v0) v0,ei v1<|K 0]:=aG [[0,1,0,0,1,0,1],[0,0,1,0,0,1,1],[1,0,0,1],[1,0,0,1]] rfl
theorem X0 {c:Nat}{a b:Int}:aF [c] [a,b] (lt (K 0) v0) [li (K 1) v0,li (K 0) v1,ei (C v0)<|A v0 v1]:=aG [[1,1,0,1,1]] rfl
theorem X1 {a:Int}:aF [] [a] (eq (T v0)<|K 0) [ei v0<|K 0]:=aG [[0,1,1],[0,0,1],[1,0,1],[0,0,1]] rfl
theorem X2 {b:Nat}{a c d:Int}:aF [b] [a,c,d] (ti (K 0)<|S (C<|A v0<|T v2) v1) [li (K 1) v0,ei (C v0)<|A v0 v1]:=aG [[1,0,1,1,1],[1,0,1,1]] rfl
theorem X3 {c:Nat}{a b d e:Int}:aF [c] [a,b,d,e] (li v3<|K 10) [li v0<|K 4,ti v1<|K 4,ei (C v0)<|A v0 v2,li v3<|A (S (C<|A v0<|T v1) v2)<|K 3]:=aG [[1,1,1,0,1,0,1],[1,0,1,0,1,0,1]] rfl
theorem X4 {a:Int}:aF [] [a] (ei v0<|C<|T v0) [ti (K 0) v0]:=aG [[0,1],[1,1],[0,1],[1,0,1]] rfl
theorem X5 {a b:Int}:aF [] [a,b] (no<|ei v0<|K 0) [ei v0 v1,ti (K 0) v1]:=aG [[0,1,1,1]] rfl
theorem X6 {a b:Int}:aF [] [a,b] (li (A (A v0<|K 0) v1)<|K 18) [li v0<|K 10,li v1<|K 2]:=aG [[1,1,1]] rfl
theorem X7 {a b:Nat}:aF [a,b] [] (le v1<|K 9999) [le v0<|K 30,le v1 v0]:=aG [[1,1,1]] rfl
theorem X8 {a b:Nat}:aF [a,b] [] (le v1<|K 1000) [le v0<|K 30,le v1 v0]:=aG [[1,1,1]] rfl
theorem X9 {a b:Int}(f:a<2 ^ 64) (j:0<=b % a) (l:b % a<a):(b % a).natAbs<2 ^ 64:=by lia
theorem Yb {a:Nat}:aF [a] [] (lt v0<|K 10) [ti (C v0)<|K 10]:=aG [[1,1]] rfl
theorem Yc {a:Nat}:aF [a] [] (le v0<|K 9999) [le v0<|K 9]:=aG [[1,1]] rfl
theorem Yd {a b:Nat}:aF [a,b] [] (le v1<|K 3) [le v0<|K 3,le v1 v0]:=aG [[1,1,1]] rfl
theorem Ye {a:Nat}:aF [a] [] (le v0<|K 1000) [le v0<|K 3]:=aG [[1,1]] rfl
theorem Yg {a:Nat}:aF [a] [] (le v0<|K 5) [le v0<|K 3]:=aG [[1,1]] rfl
theorem Yh {a:Nat}:aF [a] [] (ei (C v0)<|S (K 0)<|C v0) [no<|ti (S (K 0)<|C v0)<|K 0]:=aG [[0,1],[2,1]] rfl
theorem Yi {a:Nat}:aF [a] [] (ei (G<|C v0)<|S (K 0)<|C v0) []:=aG [[1],[1]] rfl
theorem Jw {a b:Nat}:aF [a,b] [] (le v1<|K 100000) [le v0<|K 9,eq v1 v0]:=aG [[1,1,0,1]] rfl
theorem Yj {b:Nat}{a:Int}:aF [b] [a] (li (A (A (A (A v0<|K 1)<|K 1)<|M 2<|C v0)<|K 1)<|K 1000) [li v0<|K 900,le (A v0<|K 1)<|K 2]:=aG [[1,2,1]] rfl
theorem Yk {a:Int}:aF [] [a] (lt (T v0)<|K 22) [ti v0<|K 22]:=aG [[1,1],[0,1]] rfl
theorem Yl {a:Int}:aF [] [a] (lt (B v0)<|K<|2 ^ 62) [li (K 0) v0,ti v0<|K 22]:=aG [[0,1,1],[1,0,1]] rfl
theorem Ym {a b:Nat}:aF [a,b] [] (le v0 v1) [ti (C v0)<|C v1]:=aG [[1,1]] rfl
theorem Yn {a b c:Nat}:aF [a,b,c] [] (le (Y v1 v2)<|K 9) [le v0<|K 9,lt v1 v0]:=aG [[1,1,1,1],[1,1,1]] rfl
theorem Yo {a b c:Nat}:aF [a,b,c] [] (le (A v1 v2)<|K 16777216) [le v0<|K 9,eq (A v1 v2) v0]:=aG [[1,1,0,1]] rfl
theorem Yp {b:Nat}{a:Int}:aF [b] [a] (li (A (A (A (A (A v0<|K 1)<|K 1)<|M 2<|C v0)<|K 1)<|K 1)<|A (A (A v0<|K 1)<|K 1)<|M 2<|A (C v0)<|C<|K 1) []:=aG [[1]] rfl
theorem Yq {a:Int}:aF [] [a] (le (T v0)<|K 2) [ti v0<|K 3]:=aG [[1,1],[0,1]] rfl
theorem Yr {a b:Int}:aF [] [a,b] (li (A (A (A (A v1<|K 1)<|K 1)<|M 2<|C<|T v0)<|K 1)<|A v1<|K 7) [le (T v0)<|K 2]:=aG [[2,0,1],[0,0,1],[0,2,1],[0,0,1]] rfl
theorem Ys {a b:Int}:aF [] [a,b] (li (A (A (A v0<|K 1)<|K 1)<|M 2<|C<|T v1)<|K 1000) [li v0<|K 900,li (A (A (A (A v0<|K 1)<|K 1)<|M 2<|C<|T v1)<|K 1)<|A v0<|K 7]:=aG [[1,1,0,1],[1,0,0,1],[1,0,2,1],[1,0,0,1]] rfl
theorem Yt {a b:Nat}:aF [a,b] [] (le (A v1<|K 1)<|K 16777216) [le v0<|K 9,eq v1 v0]:=aG [[1,1,0,1]] rfl
theorem Yu {a b:Nat}:aF [a,b] [] (le (A v1<|K 1)<|K 10) [le v0<|K 9,eq v1 v0]:=aG [[1,1,0,1]] rfl
end
section
set_option backward.match.sparseCases false
open PySem
inductive V where
 | none
 | bool (b:Bool)
 | int (i:Int)
 | str (s:List Nat)
 | bytes (b:List Nat)
 | tup (vs:List V)
 | ref (a:Nat)
open V renaming bool->aZ,bytes->dw,int->aw,none->cz,ref->aB,tup->d8
noncomputable def V.ctorIdx (v:V):Nat:=V.casesOn (motive_1:=λ_=>Nat) v 0 (λ_=>1) (λ_=>2) (λ_=>3) (λ_=>4) (λ_=>5) λ_=>6
inductive MO where
 | list (vs:List V)
 | ro (vs:List V)
 | dict (kvs:List (List Nat×V))
 | inst (C d:Nat)
 | attrs (fs:List (Nat×V))
open MO renaming attrs->bP,dict->gd,inst->fG,list->aO
noncomputable def MO.ctorIdx (v:MO):Nat:=MO.casesOn (motive:=λ_=>Nat) v (λ_=>0) (λ_=>1) (λ_=>2) (λ_ _=>3) λ_=>4
inductive qC where
 | add | sub | mul | fdiv | mod | pow [Nonempty Unit]
open qC renaming add->cU,fdiv->nZ,mod->oR,mul->fV,pow->lU,sub->iZ
inductive o6 where
 | eq | ne | lt | le | gt | ge | isNone | isNotNone | DH | DI [Nonempty Unit]
open o6 renaming eq->cG,gt->gI,DH->dU,isNotNone->vJ,le->mI,lt->jO,ne->eW,DI->kC
inductive Bi where
 | abs | len | max | min | sum | str | int | ord | chr | bytes | list | sorted [Nonempty Unit]
open Bi renaming abs->lV,bytes->n5,len->gV,list->tX,max->rA,min->n6,ord->oS,sorted->vK,sum->sy
inductive i8 where
 | one (i:Nat)
 | many (is:List Nat)
open i8 renaming many->j4,one->iF
set_option genCtorIdx false in
set_option backward.linearNoConfusionType false in
mutual
inductive Ex where
 | const (v:V)
 | loc (i:Nat)
 | glob (v:V)
 | bin (op:qC) (l r:Ex)
 | neg (e:Ex)
 | Jx (o7:Bool) (es:jF)
 | Jy (l:Ex) (rs:qD)
 | ite (t:Bx) (b o:Ex)
 | tup (es:jF)
 | list (es:jF)
 | dict (kvs:List (List Nat×List Nat))
 | idx (o i:Ex)
 | slice (o:Ex) (l u s:Ox)
 | attr (o:Ex) (x:Nat)
 | call (f:Nat) (es:jF)
 | new (C:Nat) (es:jF)
 | bi (b:Bi) (es:jF)
 | yl (o:Ex) (x:Nat) (es:jF)
 | comp (elt:Ex) (t:i8) (it:oh) (ifs:mr)
 | bad
inductive jF where
 | nil
 | cons (e:Ex) (es:jF)
inductive Ox where
 | no
 | yes (e:Ex)
inductive qD where
 | nil
 | cons (op:o6) (e:Ex) (r:qD)
inductive Bx where
 | not (b:Bx)
 | and (bs:mr)
 | or (bs:mr)
 | cmp (l:Ex) (rs:qD)
 | ite (t b o:Bx)
 | val (e:Ex)
inductive mr where
 | nil
 | cons (b:Bx) (bs:mr)
inductive oh where
 | val (e:Ex)
 | Jz (e:Ex)
 | Yv (a b:Ex)
 | zip (a b:Ex)
 | enum (e:Ex)
end
open Ex renaming attr->bF,bi->cA,bin->bq,Jx->nh,call->cw,Jy->hM,comp->i3,const->aD,dict->vL,glob->jb,idx->c5,ite->dC,list->fo,loc->az,yl->cv,neg->mq,new->sA,slice->lG,tup->ce
open jF renaming cons->aC,nil->aI
open Ox renaming no->jP,yes->j5
open qD renaming cons->aS,nil->aT
open Bx renaming and->jc,cmp->aW,not->sB,or->kS,val->fW
open mr renaming cons->bI,nil->cM
open oh renaming enum->pL,Jz->sC,val->iq,zip->sD
set_option genCtorIdx false in
set_option backward.linearNoConfusionType false in
mutual
inductive Sx where
 | assign (i:Nat) (e:Ex)
 | JA (is:List Nat) (e:Ex)
 | setAttr (o:Ex) (x:Nat) (e:Ex)
 | setItem (o i e:Ex)
 | expr (e:Ex)
 | ite (t:Bx) (b o:bW)
 | JB (t:i8) (it:oh) (b:bW)
 | JC (t:Bx) (b:bW)
 | ret (e:Ex)
 | raise (e:Ex)
 | JD (i f:Nat) (es:jF) (j k:Nat)
 | bad
inductive bW where
 | nil
 | cons (s:Sx) (ss:bW)
end
open Sx renaming assign->cg,JA->jd,bad->lH,expr->dL,JB->ju,ite->bS,raise->xF,ret->cD,setAttr->c6,setItem->n7,JD->xG,JC->tY
open bW renaming cons->aE,nil->aK
structure jS where
 attrs:List Str
 meths:List Str
 fns:List (Str×Nat)
 wp:List (Str×Nat)
 wq:List (Str×V)
 sX:List (Str×Bi)
structure Ctx where
 sc:iv
 loc:List (Str×Nat)
 next:Nat
noncomputable def jT (c:Ctx) (x:Str):Bool:=match c.sc.names.lookup x with
 | some CB=>true
 | _=>false
noncomputable def Ax (c:Ctx) (x:Str):Bool:=match c.sc.names.lookup x with
 | some .local=>true
 | some iY=>true
 | some lb=>true
 | _=>false
def pW (c:Ctx) (x:Str):Option Nat:=if Ax c x then c.loc.lookup x else none
noncomputable def kK (c:Ctx) (x:Str):Option Nat:=match c.sc.names.lookup x with
 | some .local=>c.loc.lookup x
 | some iY=>c.loc.lookup x
 | _=>none
noncomputable def idOf (l:List Str) (x:Str):Option Nat:=l.findIdx? (·==x)
def DJ (T:jS) (c:Ctx) (x:Str):Option V:=if jT c x then T.wq.lookup x else none
def fnOf (T:jS) (c:Ctx) (x:Str):Option Nat:=if jT c x then T.fns.lookup x else none
def DK (T:jS) (c:Ctx) (x:Str):Option Nat:=if jT c x then T.wp.lookup x else none
def DL (T:jS) (c:Ctx) (x:Str):Option Bi:=if jT c x then T.sX.lookup x else none
noncomputable def JE:zE->Ex
 | .none=>aD cz
 | .bool b=>aD<|aZ b
 | .int i=>aD<|aw i
 | .str s=>aD<|.str s.cps.toList
 | .bytes b=>aD<|dw<|b.map lg
 | _=> .bad
noncomputable def DM:Ho->Option qC
 | .Add=>some cU | .Sub=>some iZ | .Mult=>some fV | .FloorDiv=>some nZ | .Mod=>some oR | .Pow=>some lU
 | _=>none
structure Ay where
 l:Option Expr
 u:Option Expr
 st:Option Expr
noncomputable def Yw (e:Expr):Option {q:Ay // ∃p,e=xE q.l q.u q.st p}:=match e with
 | xE l u st p=>some ⟨⟨l,u,st⟩,p,rfl⟩
 | _=>none
def wr (e:Expr):Option Ay:=(Yw e).map (·.1)
noncomputable def Yx (e:Expr):Option {x:Str // ∃p,e=cH x p}:=match e with
 | cH x p=>some ⟨x,p,rfl⟩
 | _=>none
def nz (e:Expr):Option Str:=(Yx e).map (·.1)
structure Az where
 o:Expr
 x:Str
 p:b9
noncomputable def Yy (e:Expr):Option {q:Az // e=j2 q.o q.x q.p}:=match e with
 | j2 o x p=>some ⟨⟨o,x,p⟩,rfl⟩
 | _=>none
def AA (e:Expr):Option Az:=(Yy e).map (·.1)
structure AB where
 es:List Expr
noncomputable def Yz (e:Expr):Option {q:AB // ∃k p,e=jD q.es k p}:=match e with
 | jD es k p=>some ⟨⟨es⟩,k,p,rfl⟩
 | _=>none
def wt (e:Expr):Option AB:=(Yz e).map (·.1)
noncomputable def YA (e:Expr):Option {k:zE // ∃a p,e=qr k a p}:=match e with
 | qr k a p=>some ⟨k,a,p,rfl⟩
 | _=>none
def DN (e:Expr):Option zE:=(YA e).map (·.1)
noncomputable def sY (e:Expr):Bool:=n8 e.ctorIdx 7
def YB (e:Expr):Bool:=match DN e with
 | some k=>n8 k.ctorIdx 0
 | none=>false
noncomputable def DP:lh->o6
 | .Eq=>cG
 | .NotEq=>eW
 | .Lt=>jO
 | .LtE=>mI
 | .Gt=>gI
 | .GtE=> .ge
 | .In=>dU
 | tW=>kC
 | .Is=> .isNone
 | .IsNot=>vJ
noncomputable def isIn:lh->Bool
 | .In=>true
 | tW=>true
 | _=>false
noncomputable def YC:lh->Bool
 | .Is=>true
 | .IsNot=>true
 | _=>false
def DQ (f:lh) (e:Expr):Bool:= !(isIn f && sY e) && (!YC f || YB e)
noncomputable def jn (f:Expr->Ex):List Expr->jF
 | []=> .nil
 | e::es=>aC (f e)<|jn f es
noncomputable def o8 (f:Expr->Bx):List Expr->mr
 | []=> .nil
 | e::es=>bI (f e)<|o8 f es
noncomputable def uz (f:Expr->Ex):List lh->List Expr->qD
 | [],_=>aT
 | op::j,es=>(match es with
  | []=>aT
  | e::es=>aS (DP op) (f e) (uz f j es))
noncomputable def o9:List lh->List Expr->Bool
 | [],es=>es.isEmpty
 | op::f,es=>(match es with
  | []=>false
  | e::es=>DQ op e && o9 f es)
noncomputable def noStar (e:Expr):Bool:= !n8 e.ctorIdx 22
noncomputable def YD (k:zE):Option {a:Str // k= .str a}:=match k with
 | .str a=>some ⟨a,rfl⟩
 | _=>none
def AC (e:Expr):Option Str:=(DN e).bind λk=>(YD k).map (·.1)
noncomputable def AD:List (Option Expr)->List Expr->Option (List<|List Nat×List Nat)
 | [],vs=>(match vs with | []=>some [] | _::_=>none)
 | k::f,vs=>(match vs with
  | []=>none
  | v::vs=>k.bind λk=>(AC k).bind λa=>(AC v).bind λb=>(AD f vs).map λr=>(a.cps.toList,b.cps.toList)::r)
def YE (as:List Expr) (f:List uf):Bool:=as.all noStar && f.isEmpty && decide (as.length<8)
noncomputable def oW (c:Ctx):List Expr->Option (List Nat)
 | []=>some []
 | e::r=>(nz e).bind λx=>(kK c x).bind λi=>(oW c r).map (i::·)
def oj (c:Ctx) (e:Expr):Option i8:=match nz e with
 | some x=>(kK c x).map iF
 | none=>(wt e).bind λq=>(oW c q.es).map j4
noncomputable def ym:oh->Bool
 | sD .. =>true
 | pL .. =>true
 | _=>false
def sZ (t:i8) (i:oh):Bool:=match t with
 | j4 _=>true
 | iF _=>!ym i
noncomputable def namesOf:List Expr->Option (List Str)
 | []=>some []
 | e::r=>(nz e).bind λx=>(namesOf r).map (x::·)
def yn (e:Expr):Option (List Str):=match nz e with
 | some x=>some [x]
 | none=>(wt e).bind λq=>namesOf q.es
noncomputable def DR (e:Expr):Bool:=n8 e.ctorIdx 23 || n8 e.ctorIdx 19
noncomputable def DS (e:Expr):Bool:=n8 e.ctorIdx 23 || (n8 e.ctorIdx 19 || n8 e.ctorIdx 20)
noncomputable def om {f:Type}(o:Option f) (k:f->Ex):Ex:=match o with
 | some a=>k a
 | none=> .bad
noncomputable def pb (b:Bool) (e:Ex):Ex:=match b with
 | true=>e
 | false=> .bad
noncomputable def nA {f:Type}(o:Option f) (k:f->Sx):Sx:=match o with
 | some a=>k a
 | none=> .bad
noncomputable def qE (b:Bool) (e:Sx):Sx:=match b with
 | true=>e
 | false=> .bad
noncomputable def sE {f:Type}:List f->Option f
 | []=>none
 | a::r=>(match r with | []=>some a | _::_=>none)
noncomputable def o7:BoolOp->Bool
 | .And=>true
 | .Or=>false
noncomputable def uA (f:Expr->Ex):Option Expr->Ox
 | some e=>j5<|f e
 | none=>jP
noncomputable def bindAll (n:Nat):List Str->List (Str×Nat)
 | []=>[]
 | x::r=>(x,n)::bindAll (n+1) r
noncomputable def uB (c:Ctx) (sc:iv) (xs:List Str):Bool:=
 sc.names.all (λp=>p.2 !=iY && p.1 !=("__debug__" :Str) && p.1 !=("__classdict__" :Str) &&
  (match p.2 with
   | .local=>(xs.contains p.1 || (c.loc.lookup p.1).isNone) && sc.names.lookup p.1==some .local
   | lb=>(match c.sc.names.lookup p.1 with | some iY=>(c.loc.lookup p.1).isSome | some lb=>(c.loc.lookup p.1).isSome | _=>false)
   | _=>true)) && sc.kind==rt && xs.all (λx=>sc.names.lookup x==some .local)
structure AE where
 f:Expr
 as:List Expr
 ks:List uf
noncomputable def YF (e:Expr):Option {q:AE // ∃p,e=iX q.f q.as q.ks p}:=match e with
 | iX f as j p=>some ⟨⟨f,as,j⟩,p,rfl⟩
 | _=>none
def DT (e:Expr):Option AE:=(YF e).map (·.1)
def AF (e:Expr):Option (Str×List Expr):=(DT e).bind λq=>(match q.ks with
 | []=>(nz q.f).map λx=>(x,q.as)
 | _::_=>none)
inductive tc where
 | val
 | range (a:Expr)
 | enum (a:Expr)
 | zip (a b:Expr)
open tc renaming range->xH,val->qs
noncomputable def DU (x:Str) (a:Expr):tc:=match x==("range" :Str) with
 | true=>xH a
 | false=>match x==("enumerate" :Str) with
  | true=> .enum a
  | false=>qs
noncomputable def DV (x:Str) (a b:Expr):tc:=match x==("zip" :Str) with
 | true=> .zip a b
 | false=>qs
def YG (x:Str) (as:List Expr):tc:=match as with
 | []=>qs
 | a::r=>match r with
  | []=>DU x a
  | b::r=>match r with
   | []=>DV x a b
   | _::_=>qs
def DW (T:jS) (c:Ctx) (q:Str×List Expr):tc:=match jT c q.1 && ((T.sX.lookup q.1).isNone && q.2.all noStar) with
 | true=>YG q.1 q.2
 | false=>qs
def wu (T:jS) (c:Ctx) (e:Expr):tc:=match AF e with
 | none=>qs
 | some q=>DW T c q
noncomputable def AG {f:Type}(o:Option f) (k:f->Ex) (r:Ex):Ex:=match o with
 | some a=>k a
 | none=>r
noncomputable def AH {f:Type}(o:Option f) (k:f->Sx) (r:Sx):Sx:=match o with
 | some a=>k a
 | none=>r
def YH (T:jS) (e:Expr->Ex) (f:Expr) (as:List Expr) (pos:b9):Ex:=om (AA f) λq=>pb (DS q.o && q.p.endLine==pos.line)<|om (idOf T.meths q.x) λi=>cv (e q.o) i<|jn e as
def YI (T:jS) (c:Ctx) (e:Expr->Ex) (as:List Expr) (x:Str):Ex:=om (DL T c x) λb=>cA b<|jn e as
def YJ (T:jS) (c:Ctx) (e:Expr->Ex) (as:List Expr) (x:Str):Ex:=AG (DK T c x) (λa=>sA a<|jn e as)<|YI T c e as x
def YK (T:jS) (c:Ctx) (e:Expr->Ex) (as:List Expr) (x:Str):Ex:=AG (fnOf T c x) (λa=>cw a<|jn e as)<|YJ T c e as x
def YL (T:jS) (c:Ctx) (e:Expr->Ex) (f:Expr) (as:List Expr) (pos:b9):Ex:=AG (nz f) (YK T c e as)<|YH T e f as pos
def kL (c:Ctx) (sc:iv) (xs:List Str):Ctx:={sc:=sc,loc:=bindAll c.next xs++c.loc,next:=c.next+xs.length}
def YM (p:Ctx->Expr->Ex) (r:Ctx->Expr->Bx) (j:Ctx->Expr->oh) (c:Ctx) (f:Expr) (scope:iv) (g:xK) (xs:List Str) (l:i8):Ex:=pb (sZ l<|j c g.iter)<|i3 (p (kL c scope xs) f) l (j c g.iter)<|o8 (r<|kL c scope xs) g.ifs
def YN (j:Ctx->Expr->Ex) (l:Ctx->Expr->Bx) (p:Ctx->Expr->oh) (c:Ctx) (f:Expr) (scope:iv) (g:xK) (xs:List Str):Ex:=pb (g.is_async==0 && uB c scope xs)<|om (oj (kL c scope xs) g.target)<|YM j l p c f scope g xs
mutual
noncomputable def cE (T:jS):Nat->Ctx->Expr->Ex
 | 0,_,_=> .bad
 | n+1,c,e=>match e with
  | qr k _ _=>JE k
  | cH x _=>match pW c x with
   | some i=>az i
   | none=>om (DJ T c x) jb
  | .BinOp l j r _=>om (DM j) λo=>bq o (cE T n c l)<|cE T n c r
  | zt j x _=>pb (n8 j.ctorIdx 3)<|mq<|cE T n c x
  | vH j vs _=>nh (o7 j)<|jn (cE T n c) vs
  | vI l p F _=>pb (o9 p F)<|hM (cE T n c l)<|uz (cE T n c) p F
  | zr t b o _=>dC (cB T n c t) (cE T n c b)<|cE T n c o
  | .List es _=>pb (es.all noStar)<|fo<|jn (cE T n c) es
  | jD es _ _=>pb (es.all noStar)<|ce<|jn (cE T n c) es
  | .Dict y vs _=>om (AD y vs) λl=>pb (zF l.length 15)<|vL l
  | rq o s _=>match wr s with
   | some q=>lG (cE T n c o) (uA (cE T n c) q.l) (uA (cE T n c) q.u)<|uA (cE T n c) q.st
   | none=>c5 (cE T n c o)<|cE T n c s
  | j2 o x _=>pb (DR o)<|om (idOf T.attrs x) λi=>bF (cE T n c o) i
  | iX f as y pos=>pb (YE as y)<|YL T c (cE T n c) f as pos
  | ml z v scope _=>om (sE v) λg=>om (yn g.target) λxs=>YN (cE T n) (cB T n) (mP T n) c z scope g xs
  | _=> .bad
noncomputable def cB (T:jS):Nat->Ctx->Expr->Bx
 | 0,_,_=> .val .bad
 | n+1,c,e=>match e with
  | zt j x _=>match j with
   | .Not=>sB<|cB T n c x
   | .Invert=>fW<|cE T n c e
   | .UAdd=>fW<|cE T n c e
   | .USub=>fW<|cE T n c e
  | vH j vs _=>match j with
   | .And=>jc<|o8 (cB T n c) vs
   | .Or=>kS<|o8 (cB T n c) vs
  | zr t b o _=> .ite (cB T n c t) (cB T n c b)<|cB T n c o
  | vI l f p _=>match o9 f p with
   | true=>aW (cE T n c l)<|uz (cE T n c) f p
   | false=>fW .bad
  | e=>fW<|cE T n c e
noncomputable def mP (T:jS):Nat->Ctx->Expr->oh
 | 0,_,_=> .val .bad
 | n+1,c,e=>match sY e with
  | true=>iq .bad
  | false=>match wu T c e with
   | qs=>iq<|cE T n c e
   | xH a=>sC<|cE T n c a
   | .enum a=>pL<|cE T n c a
   | .zip a b=>sD (cE T n c a)<|cE T n c b
end
noncomputable def DX:Expr->Bool
 | jD vs _ _=>!(vs.all<|QJ 8) || vs.all (foldedForSure 8)
 | ml .. =>false
 | _=>true
noncomputable def pX (f:gA->Sx):List gA->bW
 | []=> .nil
 | s::r=>aE (f s)<|pX f r
structure AI where
 ts:List Expr
 v:Expr
noncomputable def YO (s:gA):Option {q:AI // ∃p,s=j3 q.ts q.v p}:=match s with
 | j3 f v p=>some ⟨⟨f,v⟩,p,rfl⟩
 | _=>none
def JF (s:gA):Option AI:=(YO s).map (·.1)
def DY (s:gA):Option (Str×Expr):=(JF s).bind λa=>(sE a.ts).bind λt=>(nz t).map λx=>(x,a.v)
def DZ (e:Expr):Option (Str×List Expr):=AF e
def JG (e:Expr):Option (Str×Str):=(AA e).bind λq=>(nz q.o).map λx=>(x,q.x)
structure JH where
 ex:Str
 y:Str
 st:gA
noncomputable def YQ (e:sH):Option {q:Option Expr×Option Str×List gA // ∃p,e=vG q.1 q.2.1 q.2.2 p}:=match e with
 | vG t y b p=>some ⟨(t,y,b),p,rfl⟩
def JI (e:sH):Option (Option Expr×Option Str×List gA):=(YQ e).map (·.1)
def Qr (e:sH):Option JH:=(JI e).bind λa=>a.1.bind λt=>(nz t).bind λf=>a.2.1.bind λy=>(sE a.2.2).map λst=>⟨f,y,st⟩
noncomputable def D0 {f:Type}:Option f->Bool
 | none=>true
 | some _=>false
noncomputable def zu {f:Type}:List f->Bool
 | []=>true
 | _::_=>false
noncomputable def AJ {f:Type}(b:Bool) (o:Option f):Option f:=match b with
 | true=>o
 | false=>none
structure JJ where
 a:Expr
 b:Expr
def JK (l:List Expr):Option JJ:=match l with
 | []=>none
 | a::r=>(sE r).map λb=>⟨a,b⟩
def QA (f ca:Option Expr):Option (Str×Expr):=AJ (D0 ca)<|f.bind λe=>(DZ e).bind λq=>(JK q.2).bind λw=>(AC w.a).map λ_=>(q.1,w.b)
structure wv where
 x:Str
 f:Str
 as:List Expr
 ex:Str
 y:Str
 z:Str
 y':Str
 at_:Str
def D1 (b:List gA) (hs:List sH) (os f:List gA):Option wv:=AJ (zu os) (AJ (zu f)
 ((sE b).bind λst=>(DY st).bind λp=>(DZ p.2).bind λk=>(sE hs).bind λh=>(Qr h).bind λq=>(DY q.st).bind λr=>(JG r.2).map λa=>⟨p.1,k.1,k.2,q.ex,q.y,r.1,a.1,a.2⟩))
structure AK where
 o:Expr
 i:Expr
noncomputable def YR (e:Expr):Option {q:AK // ∃p,e=rq q.o q.i p}:=match e with
 | rq o i p=>some ⟨⟨o,i⟩,p,rfl⟩
 | _=>none
def JL (e:Expr):Option AK:=(YR e).map (·.1)
def YS (f:Expr->Ex) (t v:Expr):Sx:=nA (JL t) λq=>match wr q.i with
 | some _=>lH
 | none=>n7 (f q.o) (f q.i)<|f v
def YT (T:jS) (f:Expr->Ex) (t v:Expr):Sx:=AH (AA t) (λq=>qE (DR q.o)<|nA (idOf T.attrs q.x) λi=>c6 (f q.o) i<|f v)<|YS f t v
def YU (T:jS) (c:Ctx) (f:Expr->Ex) (t v:Expr):Sx:=AH (wt t) (λq=>nA (oW c q.es) λj=>qE (DX v)<|jd j<|f v)<|YT T f t v
def JM (T:jS) (c:Ctx) (f:Expr->Ex) (t v:Expr):Sx:=AH (nz t) (λx=>nA (kK c x) λi=>cg i<|f v)<|YU T c f t v
def JN (c:Ctx) (q:wv):Bool:=jT c q.ex && q.ex==("RunFault" :Str) && q.y==q.y' && q.at_==("at" :Str) && q.as.all noStar && q.x !=q.y && q.z !=q.y && c.sc.names.lookup q.y==some .local
def JO (T:jS) (c:Ctx) (f:Expr->Ex) (q:wv):Sx:=nA (kK c q.x) λi=>nA (fnOf T c q.f) λa=>nA (kK c q.z) λj=>nA (c.loc.lookup q.y) λk=>qE (JN c q)<|xG i a (jn f q.as) j k
noncomputable def cS (T:jS):Nat->Ctx->gA->Sx
 | 0,_,_=> .bad
 | n+1,c,s=>match s with
  | j3 l v _=>nA (sE l) λt=>JM T c (cE T n c) t v
  | .Expr v _=>qE (DT v).isSome (dL<|cE T n c v)
  | .If t b o _=>bS (cB T n c t) (pX (cS T n c) b)<|pX (cS T n c) o
  | .For t f b o _=>qE (zu o)<|nA (oj c t) λj=>qE (sZ j<|mP T n c f)<|ju j (mP T n c f)<|pX (cS T n c) b
  | .While t b o _=>qE (zu o)<|tY (cB T n c t)<|pX (cS T n c) b
  | .Return r _=>(match r with
   | some e=>cD<|cE T n c e
   | none=>cD (aD cz))
  | .Raise p ca _=>nA (QA p ca) λq=>qE (jT c q.1 && q.1==("RunFault" :Str)) (xF (cE T n c q.2))
  | .Try b hs os u _=>nA (D1 b hs os u)<|JO T c<|cE T n c
  | _=> .bad
noncomputable def nB {f:Type}(d:f) (P:f->Prop):f:=@Classical.epsilon f ⟨d⟩ λt=>¬P t
theorem on {f:Type}{d:f}{P:f->Prop}(h:P (nB d P)) (t:f):P t:=QI λq=>absurd h<|@Classical.epsilon_spec f (λt=>¬P t) ⟨t,q⟩
noncomputable def JP:Expr:=cH bM bM
noncomputable def dSt:gA:= .Pass bM
noncomputable def JQ:Ctx:=⟨bM,[],0⟩
end
open V renaming bool->aZ,bytes->dw,int->aw,none->cz,ref->aB,tup->d8
open MO renaming attrs->bP,dict->gd,inst->fG,list->aO
open qC renaming add->cU,fdiv->nZ,mod->oR,mul->fV,pow->lU,sub->iZ
open o6 renaming eq->cG,gt->gI,DH->dU,isNotNone->vJ,le->mI,lt->jO,ne->eW,DI->kC
open Bi renaming abs->lV,bytes->n5,len->gV,list->tX,max->rA,min->n6,ord->oS,sorted->vK,sum->sy
open i8 renaming many->j4,one->iF
open Ex renaming attr->bF,bi->cA,bin->bq,Jx->nh,call->cw,Jy->hM,comp->i3,const->aD,dict->vL,glob->jb,idx->c5,ite->dC,list->fo,loc->az,yl->cv,neg->mq,new->sA,slice->lG,tup->ce
open jF renaming cons->aC,nil->aI
open Ox renaming no->jP,yes->j5
open qD renaming cons->aS,nil->aT
open Bx renaming and->jc,cmp->aW,not->sB,or->kS,val->fW
open mr renaming cons->bI,nil->cM
open oh renaming enum->pL,Jz->sC,val->iq,zip->sD
open Sx renaming assign->cg,JA->jd,bad->lH,expr->dL,JB->ju,ite->bS,raise->xF,ret->cD,setAttr->c6,setItem->n7,JD->xG,JC->tY
open bW renaming cons->aE,nil->aK
open tc renaming range->xH,val->qs
section
open PySem
theorem qa {a b c:Nat}(h:a<=b) (e:zF b c=true):a<=c:=fP h<|bC e
theorem qc {a b c:Nat}(h:a<=b) (e:zF (b+1) c=true):a<c:=ziC h<|bC e
theorem qi {a b c:Int}(h:a<=b) (e:decide (b<=c)=true):a<=c:=CJ h<|of_decide_eq_true e
theorem qj {a b c:Int}(h:a<=b) (e:decide (b<c)=true):a<c:=QK h<|of_decide_eq_true e
noncomputable def uC:List Str:=[bv "what",bv "at",bv "text",bv "symbols",bv "category",bv "digits",bv "scale",bv "is_signed",bv "size",bv "sign",bv "count",bv "seen",bv "is_plain",bv "point",bv "lead",bv "trail",bv "nines",bv "zero",bv "zeros",bv "floats",bv "behind",bv "is_late",bv "money",bv "last",bv "is_over",bv "is_inserted",bv "figures",bv "is_negative",bv "fill",bv "next",bv "found",bv "is_counting",bv "is_begun",bv "spot"]
noncomputable def ww:List Str:=[bv "append",bv "extend",bv "count",bv "index",bv "find",bv "split",bv "join",bv "get",bv "digits",bv "add_behind",bv "take_nine",bv "take_zero",bv "take_point",bv "take_scaling",bv "take_inserted",bv "float_on",bv "may_float",bv "take_sign",bv "take_money",bv "take_end",bv "take",bv "is_whole",bv "scale",bv "suppress",bv "figure",bv "place"]
noncomputable def YV:List (Str×Nat):=[(bv "cut_quotient",28),(bv "decimal",36),(bv "units_at",43),(bv "sign_at",164),(bv "count_at",169),(bv "signs_of",176),(bv "symbols_of",183),(bv "size_of_symbols",188),(bv "number_picture",319),(bv "text_category",324),(bv "text_picture",331),(bv "read_picture",336),(bv "places",343),(bv "floating_sign",350),(bv "roles_of",357),(bv "is_suppressing",364),(bv "figures_laid",371),(bv "sign_text",378),(bv "insert_text",385),(bv "vanished",432),(bv "edited_text",439),(bv "edited",445),(bv "octet_places",452),(bv "figure_of",459),(bv "units_told",466),(bv "is_minus_at",471),(bv "has_minus",476),(bv "first_unlike",483),(bv "number_of_edited",491),(bv "_law_draw",499),(bv "_law_inserted",506),(bv "_law_picture",513),(bv "_law_cut",518),(bv "_law_edited",523),(bv "_law_heard",530),(bv "_law_texts",535),(bv "law",540)]
noncomputable def YW:List (Str×Nat):=[(bv "Picture",125),(bv "Sign",153),(bv "Order",310),(bv "Layer",423)]
noncomputable def YX:List (Str×V):=[(bv "SIGNS", .str [65,66,80,83,86,88,90,57,48,47,44,46,43,45,42,36]),
 (bv "TEXT_SIGNS", .str [65,32,88,32,57,32,66,32,48,32,47]),
 (bv "PLAIN_SIGNS", .str [57,32,80,32,83,32,86]),
 (bv "LAID_NOWHERE", .str [80,32,83,32,86]),
 (bv "ALONE", .str [83,32,86,32,46,32,67,82,32,68,66]),
 (bv "FIGURES", .str [48,49,50,51,52,53,54,55,56,57]),
 (bv "MOST_TEXT",aw 30),
 (bv "MOST_DIGITS",aw 18),
 (bv "MOST_SIZE",aw 9999),
 (bv "FIXED", .str [36,43,45]),
 (bv "INSERTED", .str [66,48,47,44]),
 (bv "BLANK", .str [32]),
 (bv "NOUGHT",aw 48),
 (bv "MINUS",aw 45),
 (bv "_law_signs", .str [32,48,49,50,51,52,53,54,55,56,57,43,45,42,36,44,46,47,67,82,68,66]),
 (bv "_law_small",d8 [.str [90,57], .str [42,57], .str [36,36,36], .str [90,90], .str [90,46,57], .str [57,47,57], .str [42,42], .str [46,90,90], .str [90,48,57], .str [43,43], .str [45,45], .str [45,57], .str [57,67,82], .str [36,57,45], .str [90,43], .str [57,68,66]])]
noncomputable def YY:List (Str×Bi):=[(bv "abs",lV),(bv "len",gV),(bv "max",rA),(bv "min",n6),(bv "sum",sy),(bv "str", .str),(bv "int", .int),(bv "ord",oS),(bv "chr", .chr),(bv "bytes",n5),(bv "list",tX),(bv "sorted",vK)]
def bz:jS:=⟨uC,ww,YV,YW,YX,YY⟩
noncomputable def JR:List (Nat×Nat×Nat):=[(310,8,209),(310,9,216),(310,10,223),(310,11,230),(310,12,237),(310,13,244),(310,14,251),(310,15,258),(310,16,265),(310,17,272),(310,18,279),(310,19,286),(310,20,293),(310,21,300),(310,22,307),(423,23,406),(423,24,413),(423,25,420)]
noncomputable def YZ:List (Nat×Nat):=[(125,110),(153,143),(310,202),(423,399)]
def nC (sc:iv):Ctx:=
 let xs:=(sc.names.filter λx=>match x.2 with | .local=>true | iY=>true | _=>false).map (·.1)
 {sc:=sc,loc:=bindAll 0 xs,next:=xs.length}
noncomputable def Qy:Nat:=30
def AL (sc:iv) (b:List gA):bW:=pX (cS bz Qy<|nC sc) b
noncomputable abbrev Hp:=Nat->Option MO
noncomputable abbrev Loc:=List<|Option V
noncomputable def aN (H:Hp) (a:Nat) (o:MO):Hp:=λb=>if b=a then some o else H b
def Hp.le (H f:Hp):Prop:=∀ a o,H a=some o->f a=some o
def be (H:Hp) (a:Nat):Option (List V):=match H a with
 | some (aO vs)=>some vs
 | some (.ro vs)=>some vs
 | _=>none
noncomputable def l6:List (Nat×List V)->Hp->Prop
 | [],_=>True
 | (a,vs)::r,H=>be H a=some vs/\l6 r H
inductive Fl where
 | next
 | ret (v:V)
open Fl renaming ret->gW
def iQ (vs:List V) (H:Hp) (Q:V->Hp->Prop):Prop:=vs.length<=16777216/\∀ a,H a=none->Q (aB a) (aN H a<|aO vs)
noncomputable def eR {f:Type}(l:List f) (i:Int):Option f:=
 if 0<=i then l[i.toNat]? else if 0<=i+l.length then l[(i+l.length).toNat]? else none
noncomputable def rK (n:Nat) (i:Int):Option Nat:=
 if 0<=i then (if i<n then some i.toNat else none) else if 0<=i+n then some (i+n).toNat else none
noncomputable def yo (n:Nat) (i:Int):Nat:=if i<0 then (i+n).toNat else min i.toNat n
def uD (n:Nat):Option Int->Nat
 | none=>0
 | some i=>yo n i
def uE (n:Nat):Option Int->Nat
 | none=>n
 | some i=>yo n i
def eX {f:Type}(l:List f) (lo j:Option Int):List f:=(l.take<|uE l.length j).drop (uD l.length lo)
noncomputable def kD:List V->Option (List<|List Nat)
 | []=>some []
 | v::r=>(match v with
  | .str s=>(kD r).map (s::·)
  | _=>none)
noncomputable def j6:List V->Option (List Int)
 | []=>some []
 | v::r=>(match v with
  | aw s=>(j6 r).map (s::·)
  | _=>none)
def wx (a:V) (vs:List V):Option Bool:=match a with
 | .str s=>(kD vs).map λss=>ss.any (·==s)
 | aw n=>(j6 vs).map λf=>f.any (·==n)
 | _=>none
noncomputable def oo:List Int->Option Int
 | []=>none
 | x::r=>some<|r.foldl min x
noncomputable def AM (kvs:List (List Nat×V)) (k:List Nat):Option V:=kvs.lookup k
noncomputable def lr:List (List Nat×V)->List Nat->V->List (List Nat×V)
 | [],k,v=>[(k,v)]
 | (k',f)::r,k,v=>if k'=k then (k',v)::r else (k',f)::lr r k v
noncomputable def i9:List (Nat×V)->Nat->V->List (Nat×V)
 | [],k,v=>[(k,v)]
 | (k',f)::r,k,v=>if k'=k then (k',v)::r else (k',f)::i9 r k v
noncomputable def jG:List Nat->List Nat->Bool
 | [],[]=>false
 | [],_::_=>true
 | _::_,[]=>false
 | a::r,b::t=>a<b || (a==b && jG r t)
noncomputable def rL:List (List Nat)->Bool
 | []=>true
 | a::r=>r.all (λb=>!jG b a) && rL r
noncomputable def nD (n:Int):List Nat:=(toString n).toList.map QL
noncomputable def D2:List Nat:=[57,32,80,32,83,32,86]
noncomputable def D3:List Nat:=[80,32,83,32,86]
def yp (i:Nat):Nat:=match ww[i]? with
 | some x=>(uC.findIdx? (·==x)).getD 999
 | none=>999
def gf (C i:Nat):Option Nat:=(JR.find? λp=>p.1==C && p.2.1==i).map (·.2.2)
def yq (C:Nat):Option Nat:=YZ.lookup C
noncomputable def attrOk (C x:Nat):Bool:=(C==125 || C==153 || C==310 || C==423) && !(C==310 && (x==5 || x==6)) && decide (x<34)
noncomputable def Y0 (v:V):Option {i:Int // v=aw i}:=match v with
 | aw i=>some ⟨i,rfl⟩
 | _=>none
def vInt (v:V):Option Int:=(Y0 v).map (·.1)
noncomputable def Y1 (v:V):Option {s:List Nat // v= .str s}:=match v with
 | .str s=>some ⟨s,rfl⟩
 | _=>none
def vStr (v:V):Option (List Nat):=(Y1 v).map (·.1)
noncomputable def Y2 (v:V):Option {s:List Nat // v=dw s}:=match v with
 | dw s=>some ⟨s,rfl⟩
 | _=>none
def uF (v:V):Option (List Nat):=(Y2 v).map (·.1)
noncomputable def Y3 (v:V):Option {b:Bool // v=aZ b}:=match v with
 | aZ b=>some ⟨b,rfl⟩
 | _=>none
def vBool (v:V):Option Bool:=(Y3 v).map (·.1)
noncomputable def Y4 (v:V):Option {a:Nat // v=aB a}:=match v with
 | .ref a=>some ⟨a,rfl⟩
 | _=>none
def lM (v:V):Option Nat:=(Y4 v).map (·.1)
noncomputable def Y5 (v:V):Option {vs:List V // v=d8 vs}:=match v with
 | d8 vs=>some ⟨vs,rfl⟩
 | _=>none
def rM (v:V):Option (List V):=(Y5 v).map (·.1)
noncomputable def mu (v:V):Bool:=match v with
 | cz=>true
 | _=>false
def yr (vs:List V):Option (Int×Int):=match vs with
 | []=>none
 | a::r=>(match r with
  | []=>none
  | b::r=>(match r with
   | []=>(vInt a).bind λx=>(vInt b).map λy=>(x,y)
   | _::_=>none))
noncomputable def AN (l:List Nat):Option Nat:=match l with
 | []=>none
 | c::r=>(match r with
  | []=>some c
  | _::_=>none)
def pe (a b:V):Option (Int×Int):=(vInt a).bind λx=>(vInt b).map λy=>(x,y)
noncomputable def D4 (vs:List V):Bool:=match vs with
 | []=>true
 | _::_=>false
noncomputable def yt {f:Type}(b:Bool) (o:Option f):Option f:=match b with
 | true=>o
 | false=>none
def cF {f:Type}(o:Option f) (k:f->Prop):Prop:=match o with
 | some a=>k a
 | none=>False
def jf {f:Type}(o:Option f) (k:f->Prop) (r:Prop):Prop:=match o with
 | some a=>k a
 | none=>r
noncomputable def qF {j f:Type}(o:Option j) (k:j->Option f) (r:Option f):Option f:=match o with
 | some a=>k a
 | none=>r
def JS (a b:V) (H:Hp) (Q:V->Hp->Prop):Prop:=jf (pe a b) (λp=>Q (aw<|p.1+p.2) H)
 (jf (vStr a) (λs=>cF (vStr b) λt=>s.length+t.length<=16777216/\Q (.str<|s++t) H)
  (cF (lM a) λx=>cF (lM b) λy=>cF (be H x) λxs=>cF (be H y) λys=>iQ (xs++ys) H Q))
def JT (a:V) (n:Int) (H:Hp) (Q:V->Hp->Prop):Prop:=jf (vInt a) (λa=>(a.natAbs<2 ^ 64\/n.natAbs<2 ^ 64)/\Q (aw<|a*n) H)
 (jf (vStr a) (λs=>s.length*n.toNat<=16777216/\0<=n/\n<=1048576/\Q (.str (bY n.toNat s).flatten) H)
  (jf (uF a) (λs=>s≠[]/\s.length<=16/\0<=n/\n<=1048576/\Q (dw (bY n.toNat s).flatten) H)
   (cF (lM a) λx=>cF (be H x) λxs=>0<=n/\n<2 ^ 62/\iQ (bY n.toNat xs).flatten H Q)))
def lu (f:qC) (a b:V) (H:Hp) (Q:V->Hp->Prop):Prop:=match f with
 | cU=>JS a b H Q
 | iZ=>cF (pe a b) λp=>Q (aw<|p.1-p.2) H
 | fV=>cF (vInt b) λn=>JT a n H Q
 | nZ=>cF (pe a b) λp=>0<p.2/\p.2<2 ^ 64/\Q (aw<|p.1 / p.2) H
 | oR=>cF (pe a b) λp=>0<p.2/\Q (aw<|p.1 % p.2) H
 | lU=>cF (pe a b) λp=>p.1=10/\0<=p.2/\p.2<=1000000/\Q (aw<|10 ^ p.2.toNat) H
def JU (a b:V):Option Bool:=yt (mu a) (match mu b with
 | true=>some true
 | false=>(rM b).map λ_=>false)
def JV (H:Hp) (a b:V):Option Bool:=qF (lM a) (λx=>(lM b).bind λy=>(be H x).bind λxs=>(be H y).bind λys=>yt (D4 ys)<|some xs.isEmpty)<|JU a b
def Y6 (H:Hp) (a b:V):Option Bool:=qF (rM a) (λf=>match mu b with
 | true=>some false
 | false=>(rM b).bind λvs=>(yr f).bind λp=>(yr vs).map λq=>decide (p.1=q.1/\p.2=q.2)) (JV H a b)
def JW (H:Hp) (a b:V):Option Bool:=qF (uF a) (λx=>(uF b).map λy=>decide (x=y))<|Y6 H a b
def JX (H:Hp) (a b:V):Option Bool:=qF (vBool a) (λx=>(vBool b).map λy=>decide (x=y))<|JW H a b
def JY (H:Hp) (a b:V):Option Bool:=qF (vStr a) (λx=>(vStr b).map λy=>decide (x=y))<|JX H a b
def AP (H:Hp) (a b:V):Option Bool:=qF (vInt a) (λx=>(vInt b).map λy=>decide (x=y))<|JY H a b
def AQ (H:Hp) (a b:V):Option Bool:=qF (rM b) (λvs=>wx a vs)
 (qF (lM b) (λx=>(be H x).bind λvs=>wx a vs)
  ((vStr b).bind λt=>(vStr a).bind λs=>(AN s).map λc=>t.contains c))
def Y7 (a b:V):Option Bool:=qF (vInt a) (λx=>(vInt b).map λy=>decide (x<=y))
 ((vStr a).bind λs=>(vStr b).bind λt=>(AN s).bind λx=>(AN t).map λy=>decide (x<=y))
def yu (f:o6) (a b:V) (H:Hp):Option Bool:=match f with
 | cG=>AP H a b
 | eW=>(AP H a b).map not
 | jO=>(pe a b).map λp=>decide (p.1<p.2)
 | mI=>Y7 a b
 | gI=>(pe a b).map λp=>decide (p.2<p.1)
 | .ge=>(pe a b).map λp=>decide (p.2<=p.1)
 | .isNone=>yt (mu b)<|some<|mu a
 | vJ=>yt (mu b)<|some (!mu a)
 | dU=>AQ H a b
 | kC=>(AQ H a b).map not
def gq (f:o6) (a b:V) (H:Hp) (Q:Bool->Prop):Prop:=match yu f a b H with
 | some r=>Q r
 | none=>False
noncomputable def pf (o:Option MO):Option (Nat×Nat):=match o with
 | some (fG C d)=>some (C,d)
 | _=>none
noncomputable def ud (o:Option MO):Option (List<|Nat×V):=match o with
 | some (bP f)=>some f
 | _=>none
noncomputable def qG (o:Option MO):Option (List<|List Nat×V):=match o with
 | some (gd kvs)=>some kvs
 | _=>none
def td (o i:V) (H:Hp) (Q:V->Hp->Prop):Prop:=jf (vInt i)
 (λi=>jf (rM o) (λvs=>i.natAbs<2 ^ 62/\cF (eR vs i) λv=>Q v H)
  (jf (vStr o) (λs=>i.natAbs<2 ^ 62/\cF (eR s i) λc=>Q (.str [c]) H)
   (jf (uF o) (λs=>s.length<=16777216/\0<=i/\cF (eR s i) λc=>Q (aw c) H)
    (cF (lM o) λx=>i.natAbs<2 ^ 62/\cF (be H x) λvs=>cF (eR vs i) λv=>Q v H))))
 (cF (vStr i) λk=>cF (lM o) λx=>cF (qG<|H x) λkvs=>cF (AM kvs k) λv=>Q v H)
noncomputable def uG:Option V->Option (Option Int)
 | none=>some none
 | some v=>(match v with
  | aw i=>some<|some i
  | _=>none)
def rN (o:V) (l u s:Option V) (H:Hp) (Q:V->Hp->Prop):Prop:=cF (uG l) λl=>cF (uG u) λu=>cF (uG s) λs=>jf s
 (λk=>cF l λ_=>D0 u=true/\cF (lM o) λx=>cF (be H x) λvs=>vs.length<=16777216/\0<k/\∀ f:List V,(∀ w∈f,w∈vs)->f.length<=vs.length->∀ a,H a=none->Q (aB a) (aN H a<|aO f))
 (jf (vStr o) (λt=>t.length<=16777216/\Q (.str<|eX t l u) H)
  (jf (uF o) (λt=>t.length<=16777216/\Q (dw<|eX t l u) H)
   (cF (lM o) λx=>cF (be H x) λvs=>vs.length<=16777216/\iQ (eX vs l u) H Q)))
def uH (b:Bi) (a:V) (H:Hp) (Q:V->Hp->Prop):Prop:=match b with
 | lV=>(match a with | aw a=>Q (aw a.natAbs) H | _=>False)
 | gV=>(match a with
  | .str s=>s.length<=16777216/\Q (aw s.length) H
  | dw s=>s.length<=16777216/\Q (aw s.length) H
  | aB x=>(match be H x with | some vs=>vs.length<=16777216/\Q (aw vs.length) H | none=>False)
  | _=>False)
 | n6=>(match a with
  | aB x=>(match be H x with
   | some vs=>(match j6 vs with | some f=>(match oo f with | some r=>Q (aw r) H | none=>False) | none=>False)
   | none=>False)
  | _=>False)
 | sy=>(match a with
  | aB x=>(match be H x with
   | some vs=>(match j6 vs with | some f=>Q (aw f.sum) H | none=>False)
   | none=>False)
  | _=>False)
 | .str=>(match a with | aw n=>0<=n/\n<10 ^ 100/\Q (.str<|nD n) H | _=>False)
 | oS=>(match a with
  | .str s=>(match s with | [c]=>Q (aw c) H | _=>False)
  | _=>False)
 | n5=>(match a with
  | dw s=>Q (dw s) H
  | aB x=>(match be H x with
   | some vs=>(match j6 vs with | some f=>(∀ i∈f,0<=i/\i<256)/\vs.length<=16777216/\Q (dw<|f.map CK) H | none=>False)
   | none=>False)
  | _=>False)
 | tX=>(match a with
  | aB x=>(match be H x with | some vs=>iQ vs H Q | none=>False)
  | .str s=>iQ (s.map λc=> .str [c]) H Q
  | _=>False)
 | vK=>(match a with
  | aB x=>(match H x with
   | some (gd kvs)=>(kvs.length<64\/(kvs.length=100/\rL (kvs.map (·.1))=true))/\∀ j:List (List Nat),j.Perm (kvs.map (·.1))->∀ a,H a=none->Q (aB a) (aN H a<|aO<|j.map .str)
   | _=>False)
  | _=>False)
 | _=>False
def uI (b:Bi) (a c:V) (H:Hp) (Q:V->Hp->Prop):Prop:=match b with
 | rA=>(match a with | aw a=>(match c with | aw b=>Q (aw<|max a b) H | _=>False) | _=>False)
 | n6=>(match a with | aw a=>(match c with | aw b=>Q (aw<|min a b) H | _=>False) | _=>False)
 | _=>False
def gr (b:Bi) (args:List V) (H:Hp) (Q:V->Hp->Prop):Prop:=match args with
 | []=>False
 | a::r=>(match r with
  | []=>uH b a H Q
  | c::r=>(match r with
   | []=>uI b a c H Q
   | _::_=>False))
noncomputable def uJ (o:Option MO):Option (List V):=match o with
 | some (aO vs)=>some vs
 | _=>none
def JZ (x:Nat) (v:V) (H:Hp) (Q:V->Hp->Prop):Prop:=cF (uJ<|H x) λvs=>vs.length<16777216/\Q cz (aN H x<|aO<|vs++[v])
def J0 (x:Nat) (v:V) (H:Hp) (Q:V->Hp->Prop):Prop:=cF (lM v) λy=>cF (uJ<|H x) λvs=>cF (be H y) λf=>x≠y/\vs.length+f.length<=16777216/\Q cz (aN H x<|aO<|vs++f)
def J1 (x:Nat) (v:V) (H:Hp) (Q:V->Hp->Prop):Prop:=cF (be H x) λvs=>cF (vStr v) λs=>cF (kD vs) λss=>Q (aw<|ss.count s) H
def J2 (x:Nat) (v:V) (H:Hp) (Q:V->Hp->Prop):Prop:=cF (be H x) λvs=>cF (vStr v) λs=>cF (kD vs) λss=>cF (ss.findIdx? (·==s)) λn=>n<=16777216/\Q (aw n) H
def Y8 (x i:Nat) (v:V) (H:Hp) (Q:V->Hp->Prop):Prop:=match i with
 | 0=>JZ x v H Q
 | 1=>J0 x v H Q
 | 2=>J1 x v H Q
 | 3=>J2 x v H Q
 | _=>False
def AR (x:Nat) (v:V) (d:V) (H:Hp) (Q:V->Hp->Prop):Prop:=cF (vStr v) λk=>cF (qG<|H x) λkvs=>Q ((kvs.lookup k).getD d) H
def J3 (s:List Nat) (v:V) (H:Hp) (Q:V->Hp->Prop):Prop:=cF (vStr v) λt=>t=[32]/\(if s=D2 then iQ [.str [57], .str [80], .str [83], .str [86]] H Q else if s=D3 then iQ [.str [80], .str [83], .str [86]] H Q else False)
def J4 (s:List Nat) (v:V) (H:Hp) (Q:V->Hp->Prop):Prop:=cF (lM v) λx=>cF (be H x) λvs=>cF (kD vs) λss=>s=[]/\ss.flatten.length<=16777216/\Q (.str ss.flatten) H
def gZ (o:V) (i:Nat) (args:List V) (H:Hp) (Q:V->Hp->Prop):Prop:=match args with
 | []=>False
 | v::r=>(match r with
  | []=>(match o with
   | aB x=>if i=7 then AR x v cz H Q else Y8 x i v H Q
   | .str s=>if i=5 then J3 s v H Q else if i=6 then J4 s v H Q else False
   | _=>False)
  | w::r=>(match r with
   | []=>(match o with
    | aB x=>if i=7 then AR x v w H Q else False
    | _=>False)
   | _::_=>False))
def yw (o:V) (x:Nat) (H:Hp) (Q:V->Hp->Prop):Prop:=cF (lM o) λa=>cF (pf<|H a) λq=>cF (ud<|H q.2) λf=>cF (f.lookup x) λv=>attrOk q.1 x=true/\Q v H
def th (o:V) (x:Nat) (v:V) (H:Hp) (Q:Hp->Prop):Prop:=cF (lM o) λa=>cF (pf<|H a) λq=>cF (ud<|H q.2) λf=>attrOk q.1 x=true/\f.length<1000/\Q (aN H q.2<|bP<|i9 f x v)
def uK (o i v:V) (H:Hp) (Q:Hp->Prop):Prop:=cF (lM o) λx=>jf (vInt i)
 (λi=>cF (uJ<|H x) λvs=>cF (rK vs.length i) λk=>i.natAbs<2 ^ 62/\Q (aN H x<|aO<|vs.set k v))
 (cF (vStr i) λk=>cF (qG<|H x) λkvs=>kvs.length<1000000/\Q (aN H x<|gd<|lr kvs k v))
noncomputable def kX (m:Loc):List Nat->List V->Option Loc
 | [],[]=>some m
 | i::f,v::vs=>kX (m.set i<|some v) f vs
 | _,_=>none
def qH (t:i8) (v:V) (m:Loc):Option Loc:=match t with
 | iF i=>some<|m.set i<|some v
 | j4 f=>match v with
  | d8 vs=>kX m f vs
  | _=>none
abbrev bG:=Nat->List V->Hp->(V->Hp->Prop)->(V->Hp->Prop)->Prop
def bR:V->Hp->Prop:=λ_ _=>False
section
variable (Φ:bG)
def rO (o:V) (i:Nat) (H:Hp) (k:(List V->Hp->(V->Hp->Prop)->Prop)->Prop):Prop:=jf (lM o)
 (λa=>jf (pf<|H a) (λq=>cF (ud<|H q.2) λl=>cF (gf q.1 i) λf=>l.lookup (yp i)=none/\k (λvs j Q=>Φ f (o::vs) j Q bR))
  (jf (be H a) (λ_=>i<4/\k (λvs j Q=>gZ o i vs j Q))
   (cF (qG (H a)) λ_=>i=7/\k (λvs j Q=>gZ o i vs j Q))))
 (cF (vStr o) λ_=>(i=5\/i=6)/\k (λvs j Q=>gZ o i vs j Q))
mutual
noncomputable def bu:Ex->Loc->Hp->(V->Hp->Prop)->Prop
 | aD v,_,H,Q=>Q v H
 | az i,m,H,Q=>match m[i]? with
  | some (some v)=>Q v H
  | _=>False
 | jb v,_,H,Q=>Q v H
 | bq P l r,m,H,Q=>bu l m H λa H=>bu r m H λb H=>lu P a b H Q
 | mq e,m,H,Q=>bu e m H λa H=>match a with
  | aw a=>Q (aw (-a)) H
  | _=>False
 | nh o7 es,m,H,Q=>uL o7 es m H Q
 | hM l U,m,H,Q=>bu l m H λa H=>qI a U m H λr H=>Q (aZ r) H
 | .ite t b o,m,H,Q=>iR t m H λr H=>match r with
  | true=>bu b m H Q
  | false=>bu o m H Q
 | ce es,m,H,Q=>jg es m H λvs H=>vs.length<=1000/\Q (d8 vs) H
 | fo es,m,H,Q=>jg es m H λvs H=>iQ vs H Q
 | vL kvs,_,H,Q=>(kvs.map (·.1)).Nodup/\∀ a,H a=none->Q (aB a) (aN H a<|gd<|kvs.map λp=>(p.1, .str p.2))
 | c5 o i,m,H,Q=>bu o m H λo H=>bu i m H λi H=>td o i H Q
 | lG o l u s,m,H,Q=>bu o m H λo H=>rP l m H λl H=>rP u m H λu H=>rP s m H λs H=>rN o l u s H Q
 | bF o x,m,H,Q=>bu o m H λo H=>yw o x H Q
 | cw f es,m,H,Q=>jg es m H λvs H=>Φ f vs H Q bR
 | sA C es,m,H,Q=>jg es m H λvs H=>match yq C with
  | some f=>∀ a d,a≠d->H a=none->H d=none->Φ f (aB a::vs) (aN (aN H d<|bP []) a<|fG C d) (λr F=>match r with | cz=>Q (aB a) F | _=>False) bR
  | none=>False
 | cA b es,m,H,Q=>jg es m H λvs H=>gr b vs H Q
 | cv o i es,m,H,Q=>bu o m H λo H=>rO Φ o i H λc=>jg es m H λvs F=>c vs F Q
 | i3 J t W L,m,H,Q=>nE W m H λitems z H=>items.length<=16777216/\∃I:List V->List V->Hp->Prop,I items [] H/\
   (∀ x y j H,I (x::y) j H->l6 z H/\match qH t x m with
    | some m'=>pg L m' H λb F=>match b with
     | true=>bu J m' F λv O=>I y (j++[v]) O
     | false=>I y j F
    | none=>False)/\
   (∀ j H,I [] j H->l6 z H/\∀ a,H a=none->Q (aB a) (aN H a<|aO j))
 | .bad,_,_,_=>False
noncomputable def jg:jF->Loc->Hp->(List V->Hp->Prop)->Prop
 | aI,_,H,Q=>Q [] H
 | aC e es,m,H,Q=>bu e m H λv H=>jg es m H λvs H=>Q (v::vs) H
noncomputable def uL (o7:Bool):jF->Loc->Hp->(V->Hp->Prop)->Prop
 | .nil,_,_,_=>False
 | aC e es,m,H,Q=>match es with
  | aI=>bu e m H Q
  | es=>bu e m H λv H=>match v with
   | aZ b=>if b=o7 then uL o7 es m H Q else Q v H
   | _=>False
noncomputable def rP:Ox->Loc->Hp->(Option V->Hp->Prop)->Prop
 | jP,_,H,Q=>Q none H
 | j5 e,m,H,Q=>bu e m H λv H=>Q (some v) H
noncomputable def qI (a:V):qD->Loc->Hp->(Bool->Hp->Prop)->Prop
 | .nil,_,_,_=>False
 | aS f e rs,m,H,Q=>bu e m H λb H=>gq f a b H λr=>match rs with
  | aT=>Q r H
  | rs=>match r with
   | true=>qI b rs m H Q
   | false=>Q false H
noncomputable def iR:Bx->Loc->Hp->(Bool->Hp->Prop)->Prop
 | sB b,m,H,Q=>iR b m H λr H=>Q (!r) H
 | jc bs,m,H,Q=>pg bs m H Q
 | kS bs,m,H,Q=>uM bs m H Q
 | aW l f,m,H,Q=>bu l m H λa H=>qI a f m H Q
 | .ite t b o,m,H,Q=>iR t m H λr H=>match r with
  | true=>iR b m H Q
  | false=>iR o m H Q
 | .val e,m,H,Q=>bu e m H λv H=>match v with
  | aZ b=>Q b H
  | _=>False
noncomputable def pg:mr->Loc->Hp->(Bool->Hp->Prop)->Prop
 | cM,_,H,Q=>Q true H
 | bI b bs,m,H,Q=>iR b m H λr H=>match r with
  | true=>pg bs m H Q
  | false=>Q false H
noncomputable def uM:mr->Loc->Hp->(Bool->Hp->Prop)->Prop
 | cM,_,H,Q=>Q false H
 | bI b bs,m,H,Q=>iR b m H λr H=>match r with
  | true=>Q true H
  | false=>uM bs m H Q
noncomputable def nE:oh->Loc->Hp->(List V->List (Nat×List V)->Hp->Prop)->Prop
 | .val e,m,H,Q=>bu e m H λv H=>match v with
  | aB a=>(match be H a with | some vs=>Q vs [(a,vs)] H | none=>False)
  | d8 vs=>Q vs [] H
  | .str s=>Q (s.map λc=> .str [c]) [] H
  | _=>False
 | sC e,m,H,Q=>bu e m H λv H=>match v with
  | aw n=>0<=n/\n<=1000000/\Q ((j7 n.toNat).map λ(i:Nat)=>V.int (i:Int)) [] H
  | _=>False
 | .Yv _ _,_,_,_=>False
 | sD a b,m,H,Q=>bu a m H λa H=>bu b m H λb H=>match a,b with
  | aB x,aB y=>(match be H x,be H y with | some xs,some ys=>Q (CL (λx y=>d8 [x,y]) xs ys) [(x,xs),(y,ys)] H | _,_=>False)
  | _,_=>False
 | pL e,m,H,Q=>bu e m H λv H=>match v with
  | aB x=>(match be H x with | some xs=>Q (xs.zipIdx.map λp=>d8 [aw p.2,p.1]) [(x,xs)] H | none=>False)
  | _=>False
end
theorem bf (a:V) (f:o6) (e:Ex) (m:Loc) (H:Hp) (Q:Bool->Hp->Prop):qI Φ a (aS f e aT) m H Q=bu Φ e m H λb H=>gq f a b H λr=>Q r H:=rfl
theorem gK (a:V) (j f:o6) (e l:Ex) (p:qD) (m:Loc) (H:Hp) (Q:Bool->Hp->Prop):qI Φ a (aS j e<|aS f l p) m H Q=bu Φ e m H λb H=>gq j a b H λr=>match r with
  | true=>qI Φ b (aS f l p) m H Q
  | false=>Q false H:=rfl
theorem fQ (b:Bool) (e:Ex) (m:Loc) (H:Hp) (Q:V->Hp->Prop):uL Φ b (aC e aI) m H Q=bu Φ e m H Q:=rfl
theorem fR (o7:Bool) (e f:Ex) (es:jF) (m:Loc) (H:Hp) (Q:V->Hp->Prop):uL Φ o7 (aC e<|aC f es) m H Q=bu Φ e m H λv H=>match v with
   | aZ b=>if b=o7 then uL Φ o7 (aC f es) m H Q else Q v H
   | _=>False:=rfl
mutual
noncomputable def wpS:Sx->Loc->Hp->(Fl->Loc->Hp->Prop)->(V->Hp->Prop)->Prop
 | cg i e,m,H,Q,_=>bu Φ e m H λv H=>Q .next (m.set i<|some v) H
 | jd F e,m,H,Q,_=>bu Φ e m H λv H=>match v with
  | d8 vs=>F.Nodup/\(match kX m F vs with | some m'=>Q .next m' H | none=>False)
  | _=>False
 | c6 o x e,m,H,Q,_=>bu Φ e m H λv H=>bu Φ o m H λo H=>th o x v H λH=>Q .next m H
 | n7 o i e,m,H,Q,_=>bu Φ e m H λv H=>bu Φ o m H λo H=>bu Φ i m H λi H=>uK o i v H λH=>Q .next m H
 | dL e,m,H,Q,_=>bu Φ e m H λv H=>match v with
  | cz=>Q .next m H
  | _=>False
 | bS t b o,m,H,Q,X=>iR Φ t m H λr H=>match r with
  | true=>qJ b m H Q X
  | false=>qJ o m H Q X
 | ju t L b,m,H,Q,_=>nE Φ L m H λitems p H=>items.length<=16777216/\∃I:List V->Loc->Hp->Prop,I items m H/\
   (∀ x u m H,I (x::u) m H->l6 p H/\match qH t x m with
    | some m'=>qJ b m' H (λz y l=>match z with
     | .next=>I u y l
     | gW v=>Q (gW v) y l) bR
    | none=>False)/\
   (∀ m H,I [] m H->l6 p H/\Q .next m H)
 | tY t b,m,H,Q,_=>∃I:Nat->Loc->Hp->Prop,(∃n,I n m H)/\
   (∀ n m H,I n m H->iR Φ t m H λr H=>match r with
    | true=>qJ b m H (λz m' l=>match z with
     | .next=>∃J,J<n/\I J m' l
     | gW v=>Q (gW v) m' l) bR
    | false=>Q .next m H)
 | cD e,m,H,Q,_=>bu Φ e m H λv H=>Q (gW v) m H
 | xF e,m,H,_,X=>bu Φ e m H λv H=>X v H
 | xG i f es j k,m,H,Q,_=>jg Φ es m H λvs H=>Φ f vs H (λv l=>Q .next (m.set i<|some v) l) λv l=>Q .next ((m.set k none).set j (some v)) l
 | lH,_,_,_,_=>False
noncomputable def qJ:bW->Loc->Hp->(Fl->Loc->Hp->Prop)->(V->Hp->Prop)->Prop
 | aK,m,H,Q,_=>Q .next m H
 | aE s ss,m,H,Q,X=>wpS s m H (λj m' f=>match j with
  | .next=>qJ ss m' f Q X
  | gW v=>Q (gW v) m' f) X
end
noncomputable def frame (jo:Nat) (args:List V):Loc:=args.map some++bY (jo+3-args.length) none
def c7 (jo:Nat) (body:bW) (args:List V) (H:Hp) (R:V->Hp->Prop) (X:V->Hp->Prop):Prop:=
 qJ Φ body (frame jo args) H (λl _ j=>∃f,f.le j/\match l with
  | gW v=>R v f
  | .next=>R cz f) (λv j=>∃f,f.le j/\X v f)
end
end
open Fl renaming ret->gW
theorem kM {j l:Type}{o:Option j}{f:j->Option l}{b:l}{G:Prop}(h:o.bind f=some b) (k:∀ a,o=some a->f a=some b->G):G:=by
 cases o with
 | none=>cases h
 | some a=>exact k a rfl h
theorem oq {j l:Type}{o:Option j}{f:j->l}{b:l}{G:Prop}(h:o.map f=some b) (k:∀ a,o=some a->f a=b->G):G:=by
 cases o with
 | none=>cases h
 | some a=>exact k a rfl<|kH h
@[elab_as_elim] theorem ot {l j:Type}{o:Option l}{f:l->j}{motive:j->Prop}{b:j}(h:o.map f=some b) (k:∀ a,o=some a->motive (f a)):motive b:=oq h λa e q=>q▸k a e
@[elab_as_elim] theorem uN {f:Type}{motive:f->Prop}{x y:f}(h:some x=some y) (k:motive x):motive y:=kH h▸k
@[elab_as_elim] theorem Y9 {f:Type}{motive:f->Prop}{x y:f}(h:x=y) (k:motive x):motive y:=h▸k
@[elab_as_elim] theorem yx {f:Type}{motive:f->Prop}{x y:f}(h:x=y) (k:motive y):motive x:=h▸k
theorem dj {f:Type}{o:Option f}{k:f->Prop}{G:Prop}(h:cF o k) (q:∀ a,o=some a->k a->G):G:=by
 cases o with
 | none=>exact i6 h
 | some a=>exact q a rfl h
theorem pY {f:Type}{o:Option f}{k:f->Prop}{r G:Prop}(h:jf o k r) (j:∀ a,o=some a->k a->G) (l:r->G):G:=by
 cases o with
 | none=>exact l h
 | some a=>exact j a rfl h
theorem rQ {j f:Type}{o:Option j}{k:j->Option f}{r:Option f}{z:f}{G:Prop}(h:qF o k r=some z) (l:∀ a,o=some a->k a=some z->G) (p:r=some z->G):G:=by
 cases o with
 | none=>exact p h
 | some a=>exact l a rfl h
theorem AS {f:Type}{j:Type}{p:f->j->Prop}{G:Prop}(h:∃l:f,∃a1:j,p l a1) (k:∀ l:f,∀ a1:j,p l a1->G):G:=by obtain ⟨r,u,v⟩:=h;exact k r u v
theorem bZ {f:Type}{l:f->Prop}{p:f->Prop}{G:Prop}(h:∃j:f,l j/\p j) (k:∀ j:f,l j->p j->G):G:=by obtain ⟨r,u,v⟩:=h;exact k r u v
theorem J5 {f:Type}{l:Prop}{p:f->Prop}{G:Prop}(h:l/\∃j:f,p j) (k:l->∀ j:f,p j->G):G:=by obtain ⟨r,u,v⟩:=h;exact k r u v
theorem iw  {f:Prop}{j:Prop}{l:Prop}{G:Prop}(h:f/\j/\l) (k:f->j->l->G):G:=by obtain ⟨p,r,u⟩:=h;exact k p r u
theorem D5 {f:Type}{j:Type}{l:Type}{r:f->j->l->Prop}{G:Prop}(h:∃p:f,∃a1:j,∃a2:l,r p a1 a2) (k:∀ p:f,∀ a1:j,∀ a2:l,r p a1 a2->G):G:=by obtain ⟨u,v,y,z⟩:=h;exact k u v y z
theorem g3 {f:Type}{j:Type}{p:f->j->Prop}{r:f->j->Prop}{G:Prop}(h:∃l:f,∃a1:j,p l a1/\r l a1) (k:∀ l:f,∀ a1:j,p l a1->r l a1->G):G:=by obtain ⟨u,v,y,z⟩:=h;exact k u v y z
theorem J6 {f:Type}{j:Type}{p:f->Prop}{r:f->j->Prop}{G:Prop}(h:∃l:f,p l/\∃a1:j,r l a1) (k:∀ l:f,p l->∀ a1:j,r l a1->G):G:=by obtain ⟨u,v,y,z⟩:=h;exact k u v y z
theorem fX {f:Type}{l:f->Prop}{p:f->Prop}{r:f->Prop}{G:Prop}(h:∃j:f,l j/\p j/\r j) (k:∀ j:f,l j->p j->r j->G):G:=by obtain ⟨u,v,y,z⟩:=h;exact k u v y z
theorem rR {f:Type}{l:Prop}{p:f->Prop}{r:f->Prop}{G:Prop}(h:l/\∃j:f,p j/\r j) (k:l->∀ j:f,p j->r j->G):G:=by obtain ⟨u,v,y,z⟩:=h;exact k u v y z
theorem qK  {f:Prop}{j:Prop}{l:Prop}{p:Prop}{G:Prop}(h:f/\j/\l/\p) (k:f->j->l->p->G):G:=by obtain ⟨r,u,v,y⟩:=h;exact k r u v y
theorem AT {f:Type}{j:Type}{l:Type}{r:f->j->l->Prop}{u:f->j->l->Prop}{G:Prop}(h:∃p:f,∃a1:j,∃a2:l,r p a1 a2/\u p a1 a2) (k:∀ p:f,∀ a1:j,∀ a2:l,r p a1 a2->u p a1 a2->G):G:=by obtain ⟨v,y,z,F,I⟩:=h;exact k v y z F I
theorem Za {f:Type}{j:Type}{l:Type}{r:f->j->Prop}{u:f->j->l->Prop}{G:Prop}(h:∃p:f,∃a1:j,r p a1/\∃a2:l,u p a1 a2) (k:∀ p:f,∀ a1:j,r p a1->∀ a2:l,u p a1 a2->G):G:=by obtain ⟨v,y,z,F,I⟩:=h;exact k v y z F I
theorem mv {f:Type}{j:Type}{p:f->j->Prop}{r:f->j->Prop}{u:f->j->Prop}{G:Prop}(h:∃l:f,∃a1:j,p l a1/\r l a1/\u l a1) (k:∀ l:f,∀ a1:j,p l a1->r l a1->u l a1->G):G:=by obtain ⟨v,y,z,F,I⟩:=h;exact k v y z F I
theorem J7 {f:Type}{j:Type}{l:Type}{r:f->Prop}{u:f->j->l->Prop}{G:Prop}(h:∃p:f,r p/\∃a1:j,∃a2:l,u p a1 a2) (k:∀ p:f,r p->∀ a1:j,∀ a2:l,u p a1 a2->G):G:=by obtain ⟨v,y,z,F,I⟩:=h;exact k v y z F I
theorem nF {f:Type}{l:f->Prop}{p:f->Prop}{r:f->Prop}{u:f->Prop}{G:Prop}(h:∃j:f,l j/\p j/\r j/\u j) (k:∀ j:f,l j->p j->r j->u j->G):G:=by obtain ⟨v,y,z,F,I⟩:=h;exact k v y z F I
theorem D6  {f:Prop}{j:Prop}{l:Prop}{p:Prop}{r:Prop}{G:Prop}(h:f/\j/\l/\p/\r) (k:f->j->l->p->r->G):G:=by obtain ⟨u,v,y,z,F⟩:=h;exact k u v y z F
theorem pZ {f:Type}{j:Type}{l:Type}{r:f->j->l->Prop}{u:f->j->l->Prop}{v:f->j->l->Prop}{G:Prop}(h:∃p:f,∃a1:j,∃a2:l,r p a1 a2/\u p a1 a2/\v p a1 a2) (k:∀ p:f,∀ a1:j,∀ a2:l,r p a1 a2->u p a1 a2->v p a1 a2->G):G:=by obtain ⟨y,z,F,I,J,L⟩:=h;exact k y z F I J L
theorem Zb {f:Type}{j:Type}{p:f->j->Prop}{r:f->j->Prop}{u:f->j->Prop}{v:f->j->Prop}{G:Prop}(h:∃l:f,∃a1:j,p l a1/\r l a1/\u l a1/\v l a1) (k:∀ l:f,∀ a1:j,p l a1->r l a1->u l a1->v l a1->G):G:=by obtain ⟨y,z,F,I,J,L⟩:=h;exact k y z F I J L
theorem wy {f:Type}{l:f->Prop}{p:f->Prop}{r:f->Prop}{u:f->Prop}{v:f->Prop}{G:Prop}(h:∃j:f,l j/\p j/\r j/\u j/\v j) (k:∀ j:f,l j->p j->r j->u j->v j->G):G:=by obtain ⟨y,z,F,I,J,L⟩:=h;exact k y z F I J L
theorem D7  {f:Prop}{j:Prop}{l:Prop}{p:Prop}{r:Prop}{u:Prop}{G:Prop}(h:f/\j/\l/\p/\r/\u) (k:f->j->l->p->r->u->G):G:=by obtain ⟨v,y,z,F,I,J⟩:=h;exact k v y z F I J
section
open PySem
theorem mw {f:Type}{P:f->Prop}{o:Option {x:f // P x}}{a:f}(h:o.map (·.1)=some a):P a:=by
 cases o with
 | none=>cases h
 | some q=>cases h;exact q.2
theorem AU {v:V}{i:Int}(h:vInt v=some i):v=aw i:=mw (P:=λi=>v=aw i) h
theorem AV {v:V}{s:List Nat}(h:vStr v=some s):v= .str s:=mw (P:=λs=>v= .str s) h
theorem Zc {v:V}{s:List Nat}(h:uF v=some s):v=dw s:=mw (P:=λs=>v=dw s) h
theorem Zd {v:V}{b:Bool}(h:vBool v=some b):v=aZ b:=mw (P:=λb=>v=aZ b) h
theorem J8 {v:V}{a:Nat}(h:lM v=some a):v=aB a:=mw (P:=λa=>v=aB a) h
theorem wz {v:V}{vs:List V}(h:rM v=some vs):v=d8 vs:=mw (P:=λvs=>v=d8 vs) h
theorem wA {f:Type}{o:Option f}{k:f->Prop}(h:cF o k):∃a,o=some a/\k a:=by
 cases o with
 | none=>exact i6 h
 | some a=>exact ⟨a,rfl,h⟩
theorem AW {f:Type}{o:Option f}{k:f->Prop}{r:Prop}(h:jf o k r):(∃a,o=some a/\k a)\/r:=by
 cases o with
 | none=>exact aX h
 | some a=>exact ba ⟨a,rfl,h⟩
theorem fH {f:Type}{o:Option f}{k:f->Prop}{a:f}(h:o=some a) (q:k a):cF o k:=by rw [h];exact q
theorem yy {o:Option MO}{kvs:List (List Nat×V)}(h:qG o=some kvs):o=some (gd kvs):=by
 cases o with
 | none=>cases h
 | some o=>cases o with
  | dict l=>cases h;rfl
  | _=>cases h
theorem D8 {o:Option MO}{vs:List V}(h:uJ o=some vs):o=some (aO vs):=by
 cases o with
 | none=>cases h
 | some o=>cases o with
  | list l=>cases h;rfl
  | _=>cases h
theorem D9 {o:Option MO}{q:Nat×Nat}(h:pf o=some q):o=some (fG q.1 q.2):=by
 cases o with
 | none=>cases h
 | some o=>cases o with
  | inst C d=>cases h;rfl
  | _=>cases h
theorem yz {o:Option MO}{f:List (Nat×V)}(h:ud o=some f):o=some (bP f):=by
 cases o with
 | none=>cases h
 | some o=>cases o with
  | attrs l=>cases h;rfl
  | _=>cases h
theorem Ze {v:V}(h:mu v=true):v=cz:=by
 cases v with
 | none=>rfl
 | _=>cases h
theorem AX {f:Type}{b:Bool}{o:Option f}{r:f}(h:yt b o=some r):b=true/\o=some r:=by
 cases b with
 | true=>exact ⟨rfl,h⟩
 | false=>cases h
theorem Ea {l:List Nat}{c:Nat}(h:AN l=some c):l=[c]:=by
 cases l with
 | nil=>cases h
 | cons d r=>cases r with
  | nil=>cases h;rfl
  | cons _ _=>cases h
theorem Eb {a b:V}{p:Int×Int}(h:pe a b=some p):a=aw p.1/\b=aw p.2:=by
 obtain ⟨x,f,h⟩:=kI.mp h;obtain ⟨y,j,rfl⟩:=kT.mp h;exact ⟨AU f,AU j⟩
theorem J9 {vs:List V}{p:Int×Int}(h:yr vs=some p):vs=[aw p.1,aw p.2]:=by
 cases vs with
 | nil=>cases h
 | cons a r=>cases r with
  | nil=>cases h
  | cons b r=>cases r with
   | nil=>
    obtain ⟨f,j⟩:=Eb (show pe a b=some p from h);rw [f,j]
   | cons _ _=>cases h
theorem Zf {f:o6}{a b:V}{H:Hp}{Q:Bool->Prop}(h:gq f a b H Q):∃r,yu f a b H=some r/\Q r:=by
 unfold gq at h;cases e:yu f a b H with
 | none=>rw [e] at h;exact h.elim
 | some r=>rw [e] at h;exact ⟨r,rfl,h⟩
section
variable {Φ:bG}{m:Loc}{H:Hp}
theorem Zg {f:Type}{o:Option f}{k:f->Ex}{Q:V->Hp->Prop}(h:bu Φ (om o k) m H Q):∃a,o=some a/\bu Φ (k a) m H Q:=by
 cases o with
 | none=>exact i6 h
 | some a=>exact ⟨a,rfl,h⟩
theorem Ka {b:Bool}{e:Ex}{Q:V->Hp->Prop}(h:bu Φ (pb b e) m H Q):b=true/\bu Φ e m H Q:=by
 cases b with
 | false=>exact i6 h
 | true=>exact ⟨rfl,h⟩
theorem Zh {f:Type}{o:Option f}{k:f->Sx}{Q:Fl->Loc->Hp->Prop}{X:V->Hp->Prop}(h:wpS Φ (nA o k) m H Q X):∃a,o=some a/\wpS Φ (k a) m H Q X:=by
 cases o with
 | none=>exact i6 h
 | some a=>exact ⟨a,rfl,h⟩
theorem Zi {b:Bool}{e:Sx}{Q:Fl->Loc->Hp->Prop}{X:V->Hp->Prop}(h:wpS Φ (qE b e) m H Q X):b=true/\wpS Φ e m H Q X:=by
 cases b with
 | false=>exact i6 h
 | true=>exact ⟨rfl,h⟩
theorem qL {f:Type}{o:Option f}{k:f->Ex}{Q:V->Hp->Prop}{G:Prop}(h:bu Φ (om o k) m H Q) (q:∀ a,o=some a->bu Φ (k a) m H Q->G):G:=bZ (Zg h) q
theorem rS {b:Bool}{e:Ex}{Q:V->Hp->Prop}{G:Prop}(h:bu Φ (pb b e) m H Q) (q:b=true->bu Φ e m H Q->G):G:=(Ka h).elim q
theorem pj {f:Type}{o:Option f}{k:f->Sx}{Q:Fl->Loc->Hp->Prop}{X:V->Hp->Prop}{G:Prop}(h:wpS Φ (nA o k) m H Q X) (q:∀ a,o=some a->wpS Φ (k a) m H Q X->G):G:=bZ (Zh h) q
theorem tm {b:Bool}{e:Sx}{Q:Fl->Loc->Hp->Prop}{X:V->Hp->Prop}{G:Prop}(h:wpS Φ (qE b e) m H Q X) (q:b=true->wpS Φ e m H Q X->G):G:=(Zi h).elim q
theorem Ec {f:Type}{o:Option f}{k:f->Ex}{r:Ex}{Q:V->Hp->Prop}{G:Prop}(h:bu Φ (AG o k r) m H Q) (j:∀ a,o=some a->bu Φ (k a) m H Q->G) (l:bu Φ r m H Q->G):G:=by
 cases o with
 | none=>exact l h
 | some a=>exact j a rfl h
theorem Ed {f:Type}{o:Option f}{k:f->Sx}{r:Sx}{Q:Fl->Loc->Hp->Prop}{X:V->Hp->Prop}{G:Prop}(h:wpS Φ (AH o k r) m H Q X) (j:∀ a,o=some a->wpS Φ (k a) m H Q X->G) (l:wpS Φ r m H Q X->G):G:=by
 cases o with
 | none=>exact l h
 | some a=>exact j a rfl h
theorem Zj {i:Nat}{Q:V->Hp->Prop}(h:bu Φ (az i) m H Q):∃v,m[i]?=some (some v)/\Q v H:=by
 change (match m[i]? with | some (some v)=>Q v H | _=>False) at h;cases e:m[i]? with
 | none=>rw [e] at h;exact h.elim
 | some o=>cases o with
  | none=>rw [e] at h;exact h.elim
  | some v=>rw [e] at h;exact ⟨v,rfl,h⟩
end
theorem tn {e:Expr}{x:Str}(h:nz e=some x):∃p,e=cH x p:=mw (P:=λx=>∃p,e=cH x p) h
theorem Ee {e:Expr}{q:AB}(h:wt e=some q):∃k p,e=jD q.es k p:=mw (P:=λq:AB=>∃k p,e=jD q.es k p) h
theorem Ef {e:Expr}{q:Az}(h:AA e=some q):e=j2 q.o q.x q.p:=mw (P:=λq:Az=>e=j2 q.o q.x q.p) h
theorem Zk {e:Expr}{q:Ay}(h:wr e=some q):∃p,e=xE q.l q.u q.st p:=mw (P:=λq:Ay=>∃p,e=xE q.l q.u q.st p) h
theorem Zl {e:Expr}{q:AK}(h:JL e=some q):∃p,e=rq q.o q.i p:=mw (P:=λq:AK=>∃p,e=rq q.o q.i p) h
theorem Kb {e:Expr}{q:AE}(h:DT e=some q):∃p,e=iX q.f q.as q.ks p:=mw (P:=λq:AE=>∃p,e=iX q.f q.as q.ks p) h
theorem Zm {e:Expr}{k:zE}(h:DN e=some k):∃a p,e=qr k a p:=mw (P:=λk=>∃a p,e=qr k a p) h
theorem Eg {e:Expr}{a:Str}(h:AC e=some a):∃k p,e=qr (.str a) k p:=by
 obtain ⟨c,f,j⟩:=kI.mp h;have l:c= .str a:=mw (P:=λa=>c= .str a) j;rw [<-l];exact Zm f
theorem uO {f:Type}{l:List f}{a:f}(h:sE l=some a):l=[a]:=by
 cases l with
 | nil=>cases h
 | cons b r=>cases r with | nil=>cases h;rfl | cons _ _=>cases h
theorem AY {f:Type}{l:List f}(h:zu l=true):l=[]:=by
 cases l with
 | nil=>rfl
 | cons _ _=>cases h
theorem Kc {e:Expr}{q:Str×List Expr}(h:AF e=some q):∃j p2,e=iX (cH q.1 j) q.2 [] p2:=by
 obtain ⟨c,p,l⟩:=kI.mp h;obtain ⟨p2,rfl⟩:=Kb p;obtain ⟨f,as,r⟩:=c;cases r with
 | nil=>
  obtain ⟨x,u,rfl⟩:=kT.mp (show (nz f).map _=some q from l);obtain ⟨j,e⟩:=tn u;exact ⟨j,p2,by rw [show f=_ from e]⟩
 | cons _ _=>cases l
theorem Kd {c:Ctx}{e:Expr}{t:i8}(h:oj c e=some t):(∃x p i,e=cH x p/\kK c x=some i/\t=iF i)\/∃es k p f,e=jD es k p/\oW c es=some f/\t=j4 f:=by
 unfold oj at h;cases q:nz e with
 | some x=>
  rw [q] at h;obtain ⟨i,j,rfl⟩:=kT.mp h;obtain ⟨p,rfl⟩:=tn q;exact ba ⟨x,p,i,rfl,j,rfl⟩
 | none=>
  rw [q] at h;obtain ⟨u,l,j⟩:=kI.mp h;obtain ⟨f,r,rfl⟩:=kT.mp j;obtain ⟨k,p,rfl⟩:=Ee l;exact aX ⟨u.es,k,p,f,rfl,r,rfl⟩
theorem AZ {c:Ctx}{e:Expr}{r:List Expr}{j:List Nat}(h:oW c (e::r)=some j):∃x p i f,e=cH x p/\kK c x=some i/\oW c r=some f/\j=i::f:=by
 obtain ⟨x,l,h⟩:=kI.mp (show (nz e).bind _=some j from h);obtain ⟨i,u,h⟩:=kI.mp h;obtain ⟨f,v,rfl⟩:=kT.mp h;obtain ⟨p,rfl⟩:=tn l;exact ⟨x,p,i,f,rfl,u,v,rfl⟩
theorem Eh {f:Type}{b:Bool}{o:Option f}{a:f}(h:AJ b o=some a):b=true/\o=some a:=by
 cases b with
 | false=>cases h
 | true=>exact ⟨rfl,h⟩
theorem Ke {f:Type}{o:Option f}(h:D0 o=true):o=none:=by
 cases o with
 | none=>rfl
 | some _=>cases h
theorem Zn {l:List Expr}{q:JJ}(h:JK l=some q):l=[q.a,q.b]:=by
 cases l with
 | nil=>cases h
 | cons a r=>
  obtain ⟨b,f,rfl⟩:=kT.mp (show (sE r).map _=some q from h);rw [uO f]
theorem Zo {s:gA}{q:AI}(h:JF s=some q):∃p,s=j3 q.ts q.v p:=mw (P:=λq:AI=>∃p,s=j3 q.ts q.v p) h
theorem Zp {e:sH}{q:Option Expr×Option Str×List gA}(h:JI e=some q):∃p,e=vG q.1 q.2.1 q.2.2 p:=mw (P:=λq:Option Expr×Option Str×List gA=>∃p,e=vG q.1 q.2.1 q.2.2 p) h
theorem Kf {st:gA}{q:Str×Expr}(h:DY st=some q):∃f p2,st=j3 [cH q.1 f] q.2 p2:=by
 obtain ⟨a,j,h⟩:=kI.mp h;obtain ⟨p2,e⟩:=Zo j;obtain ⟨t,l,h⟩:=kI.mp h;obtain ⟨x,r,rfl⟩:=kT.mp h;obtain ⟨p,u⟩:=tn r;exact ⟨p,p2,by rw [e,uO l,u]⟩
theorem Kg {e:Expr}{q:Str×List Expr}(h:DZ e=some q):∃f p2,e=iX (cH q.1 f) q.2 [] p2:=Kc h
theorem Zq {e:Expr}{q:Str×Str}(h:JG e=some q):∃f p2,e=j2 (cH q.1 f) q.2 p2:=by
 obtain ⟨a,j,h⟩:=kI.mp h;obtain ⟨x,l,rfl⟩:=kT.mp h;obtain ⟨p,e⟩:=tn l;exact ⟨p,a.p,by rw [Ef j,e]⟩
theorem Zr {e:sH}{q:JH}(h:Qr e=some q):∃f p2,e=vG (some<|cH q.ex f) (some q.y) [q.st] p2:=by
 obtain ⟨a,j,h⟩:=kI.mp h;obtain ⟨p2,l⟩:=Zp j;obtain ⟨t,p,h⟩:=kI.mp h;obtain ⟨x,r,h⟩:=kI.mp h;obtain ⟨y,u,h⟩:=kI.mp h;obtain ⟨st,v,rfl⟩:=kT.mp h;obtain ⟨f,z⟩:=tn r;exact ⟨f,p2,by rw [l,p,u,uO v,z]⟩
theorem Zs {r ca:Option Expr}{q:Str×Expr}(h:QA r ca=some q):∃j l p2 p f,r=some (iX (cH q.1 p) [qr (.str j) l p2,q.2] [] f)/\ca=none:=by
 obtain ⟨u,h⟩:=Eh h;obtain ⟨e,v,h⟩:=kI.mp h;obtain ⟨k,y,h⟩:=kI.mp h;obtain ⟨w,z,h⟩:=kI.mp h;obtain ⟨a,F,rfl⟩:=kT.mp h;obtain ⟨p,f,I⟩:=Kg y;obtain ⟨l,p2,J⟩:=Eg F;exact ⟨a,l,p2,p,f,by rw [v,I,Zn z,J],Ke u⟩
inductive Zt (b:List gA) (hs:List sH) (os fs:List gA) (q:wv):Prop
 | mk (p1 p2 p3 p4 p5 p6 p7 p8 p9 pn:b9) (hb:b=[j3 [cH q.x p1] (iX (cH q.f p2) q.as [] p3) p4]) (hh:hs=[vG (some<|cH q.ex p5) (some q.y) [j3 [cH q.z p6] (j2 (cH q.y' p7) q.at_ p8) p9] pn]) (ho:os=[]) (hf:fs=[])
theorem Zu {b:List gA}{hs:List sH}{os f:List gA}{q:wv}(h:D1 b hs os f=some q):Zt b hs os f q:=by
 obtain ⟨j,h⟩:=Eh h;obtain ⟨l,h⟩:=Eh h;obtain ⟨st,u,h⟩:=kI.mp h;obtain ⟨p,v,h⟩:=kI.mp h;obtain ⟨k,y,h⟩:=kI.mp h;obtain ⟨hd,z,h⟩:=kI.mp h;obtain ⟨q',F,h⟩:=kI.mp h;obtain ⟨r,I,h⟩:=kI.mp h;obtain ⟨a,J,rfl⟩:=kT.mp h;obtain ⟨p2,L,O⟩:=Kg y;obtain ⟨P,U,W⟩:=Zq J;obtain ⟨Z,p4,e2⟩:=Kf v;obtain ⟨p6,p9,e6⟩:=Kf I;obtain ⟨p5,pn,e5⟩:=Zr F;exact ⟨Z,p2,L,p4,p5,p6,P,U,p9,pn,by rw [uO u,e2,O],by rw [uO z,e5,e6,W],AY j,AY l⟩
inductive to (T:jS) (c:Ctx) (e:Expr):tc->Prop
 | val:to T c e qs
 | range (a p1 p2) (h:e=iX (cH "range" p1) [a] [] p2) (hg:jT c "range" =true) (hn:[a].all noStar=true):to T c e (xH a)
 | enum (a p1 p2) (h:e=iX (cH "enumerate" p1) [a] [] p2) (hg:jT c "enumerate" =true) (hn:[a].all noStar=true):to T c e (.enum a)
 | zip (a b p1 p2) (h:e=iX (cH "zip" p1) [a,b] [] p2) (hg:jT c "zip" =true) (hn:[a,b].all noStar=true):to T c e (.zip a b)
theorem Zv (T:jS) (c:Ctx) (e:Expr):to T c e (wu T c e):=by
 unfold wu;cases y:AF e with
 | none=>exact .val
 | some q=>
  obtain ⟨u,p2,f⟩:=Kc y;clear y;obtain ⟨x,as⟩:=q;show to T c e (DW T c (x,as));unfold DW;cases p:jT c (x,as).1 && ((T.sX.lookup (x,as).1).isNone && (x,as).2.all noStar) with
  | false=>exact .val
  | true=>
   obtain ⟨j,p⟩:=jl.mp p;have v:=(jl.mp p).2;clear p;cases as with
   | nil=>exact .val
   | cons a r=>cases r with
    | nil=>
     show to T c e (DU x a);unfold DU;cases l:x==("range" :Str) with
     | true=>rw [show x= "range" from beq_iff_eq.mp l] at f j;exact .range a u p2 f j v
     | false=>
      cases l:x==("enumerate" :Str) with
      | true=>rw [show x= "enumerate" from beq_iff_eq.mp l] at f j;exact .enum a u p2 f j v
      | false=>exact .val
    | cons b r=>cases r with
     | nil=>
      show to T c e (DV x a b);unfold DV;cases l:x==("zip" :Str) with
      | true=>rw [show x= "zip" from beq_iff_eq.mp l] at f j;exact .zip a b u p2 f j v
      | false=>exact .val
     | cons _ _=>exact .val
end
noncomputable def Kh:bW:=(aE (bS (aW (hM (az 0)<|aS jO (aD<|aw 0) aT)<|aS eW (hM (az 1)<|aS jO (aD<|aw 0) aT) aT) (aE (cD<|mq<|bq nZ (cA lV<|aC (az 0) aI)<|cA lV<|aC (az 1) aI) aK) aK)<|aE (cD<|bq nZ (cA lV<|aC (az 0) aI)<|cA lV<|aC (az 1) aI) aK)
noncomputable def A0:bW:=(aE (bS (aW (az 1)<|aS jO (aD<|aw 0) aT) (aE (cD<|ce<|aC (bq fV (az 0)<|bq lU (aD<|aw 10)<|mq<|az 1)<|aC (aD<|aw 0) aI) aK) aK)<|aE (tY (jc<|bI (aW (az 1)<|aS gI (aD<|aw 0) aT)<|bI (aW (bq oR (az 0)<|aD<|aw 10)<|aS cG (aD<|aw 0) aT) cM)<|aE (cg 0<|bq nZ (az 0)<|aD<|aw 10)<|aE (cg 1<|bq iZ (az 1)<|aD<|aw 1) aK)<|aE (cD<|ce<|aC (az 0)<|aC (az 1) aI) aK)
noncomputable def Ki:bW:=(aE (bS (aW (az 1)<|aS .ge (c5 (az 0)<|aD<|aw 1) aT) (aE (cD<|bq fV (c5 (az 0)<|aD<|aw 0)<|bq lU (aD<|aw 10)<|bq iZ (az 1)<|c5 (az 0)<|aD<|aw 1) aK) aK)<|aE (cg 3<|bq lU (aD<|aw 10)<|bq iZ (c5 (az 0)<|aD<|aw 1)<|az 1)<|aE (bS (sB<|fW<|az 2) (aE (cD<|cw 28<|aC (c5 (az 0)<|aD<|aw 0)<|aC (az 3) aI) aK) aK)<|aE (cg 4<|bq nZ (bq cU (bq fV (aD<|aw 2)<|cA lV<|aC (c5 (az 0)<|aD<|aw 0) aI)<|az 3)<|bq fV (aD<|aw 2)<|az 3)<|aE (cD<|dC (aW (c5 (az 0)<|aD<|aw 0)<|aS jO (aD<|aw 0) aT) (mq<|az 4)<|az 4) aK)
noncomputable def Kj:bW:=(aE (bS (aW (lG (az 0) (j5<|az 1) (j5<|bq cU (az 1)<|aD<|aw 2) jP)<|aS dU (ce<|aC (aD<|.str [67,82])<|aC (aD<|.str [68,66]) aI) aT) (aE (cD<|lG (az 0) (j5<|az 1) (j5<|bq cU (az 1)<|aD<|aw 2) jP) aK) aK)<|aE (bS (aW (c5 (az 0)<|az 1)<|aS kC (jb<|.str [65,66,80,83,86,88,90,57,48,47,44,46,43,45,42,36]) aT) (aE lH aK) aK)<|aE (cD<|c5 (az 0)<|az 1) aK)
noncomputable def Kk:bW:=(aE (bS (aW (lG (az 0) (j5<|az 1) (j5<|bq cU (az 1)<|aD<|aw 1) jP)<|aS eW (aD<|.str [40]) aT) (aE (cD<|ce<|aC (aD<|aw 1)<|aC (az 1) aI) aK) aK)<|aE (cg 2<|cv (az 0) 4<|aC (aD<|.str [41])<|aC (az 1) aI)<|aE (cg 3<|lG (az 0) (j5<|bq cU (az 1)<|aD<|aw 1) (j5<|cA rA<|aC (az 2)<|aC (az 1) aI) jP)<|aE (bS (kS<|bI (sB<|aW (aD<|aw 1)<|aS mI (cA gV<|aC (az 3) aI)<|aS mI (aD<|aw 4) aT)<|bI (aW (i3 (az 4) (iF 4) (iq<|az 3)<|bI (aW (az 4)<|aS kC (jb<|.str [48,49,50,51,52,53,54,55,56,57]) aT) cM)<|aS eW (fo aI) aT)<|bI (aW (cA .int<|aC (az 3) aI)<|aS cG (aD<|aw 0) aT) cM) (aE lH aK) aK)<|aE (cD<|ce<|aC (cA .int<|aC (az 3) aI)<|aC (bq cU (az 2)<|aD<|aw 1) aI) aK)
noncomputable def Kl:bW:=(aE (jd [1,2]<|ce<|aC (fo aI)<|aC (aD<|aw 0) aI)<|aE (tY (aW (az 2)<|aS jO (cA gV<|aC (az 0) aI) aT)<|aE (cg 3<|cw 164<|aC (az 0)<|aC (az 2) aI)<|aE (jd [4,5]<|cw 169<|aC (az 0)<|aC (bq cU (az 2)<|cA gV<|aC (az 3) aI) aI)<|aE (bS (jc<|bI (aW (az 5)<|aS gI (bq cU (az 2)<|cA gV<|aC (az 3) aI) aT)<|bI (aW (az 3)<|aS dU (cv (jb<|.str [83,32,86,32,46,32,67,82,32,68,66]) 5<|aC (aD<|.str [32]) aI) aT) cM) (aE lH aK) aK)<|aE (dL<|cv (az 1) 0<|aC (sA 153<|aC (az 3)<|aC (az 4)<|aC (az 2) aI) aI)<|aE (cg 2<|az 5) aK)<|aE (cD<|az 1) aK)
noncomputable def Km:bW:=(aE (cg 1<|fo aI)<|aE (ju (iF 2) (iq<|az 0)<|aE (bS (jc<|bI (aW (az 1)<|aS eW (fo aI) aT)<|bI (aW (c5 (c5 (az 1)<|mq<|aD<|aw 1)<|aD<|aw 0)<|aS cG (bF (az 2) 9) aT) cM) (aE (n7 (az 1) (mq<|aD<|aw 1)<|ce<|aC (bF (az 2) 9)<|aC (bq cU (c5 (c5 (az 1)<|mq<|aD<|aw 1)<|aD<|aw 1)<|bF (az 2) 10) aI) aK)<|aE (dL<|cv (az 1) 0<|aC (ce<|aC (bF (az 2) 9)<|aC (bF (az 2) 10) aI) aI) aK) aK)<|aE (cD<|az 1) aK)
noncomputable def Kn:bW:=(aE (cD<|cA sy<|aC (i3 (bq fV (az 2)<|cA gV<|aC (az 1) aI) (j4 [1,2]) (iq<|az 0)<|bI (aW (az 1)<|aS kC (cv (jb<|.str [80,32,83,32,86]) 5<|aC (aD<|.str [32]) aI) aT) cM) aI) aK)
noncomputable def Ko:bW:=(aE (jd [2,3]<|ce<|aC (sA 310 aI)<|aC (cw 183<|aC (az 1) aI) aI)<|aE (ju (iF 4) (iq<|az 1)<|aE (dL<|cv (az 2) 20<|aC (az 4) aI) aK)<|aE (bS (kS<|bI (sB<|fW<|cv (az 2) 21 aI)<|bI (aW (cw 188<|aC (az 3) aI)<|aS gI (jb<|aw 9999) aT) cM) (aE lH aK) aK)<|aE (cg 5<|hM (i3 (az 8) (j4 [8,9]) (iq<|az 3)<|bI (aW (az 8)<|aS kC (cv (jb<|.str [57,32,80,32,83,32,86]) 5<|aC (aD<|.str [32]) aI) aT) cM)<|aS cG (fo aI) aT)<|aE (cg 6<|dC (fW<|az 5) (aD<|.str [110,117,109,101,114,105,99])<|aD<|.str [101,100,105,116,101,100])<|aE (cg 7<|nh false<|aC (bF (az 2) 12)<|aC (hM (bF (az 2) 9)<|aS eW (aD<|.str []) aT) aI)<|aE (cD<|sA 125<|aC (az 0)<|aC (az 3)<|aC (az 6)<|aC (cv (az 2) 8 aI)<|aC (cv (az 2) 22 aI)<|aC (az 7)<|aC (cw 188<|aC (az 3) aI) aI) aK)
noncomputable def Kp:bW:=(aE (bS (aW (cA gV<|aC (az 0) aI)<|aS gI (jb<|aw 30) aT) (aE lH aK) aK)<|aE (cg 1<|cv (aD<|.str []) 6<|aC (i3 (dC (aW (aD<|.str [97])<|aS mI (az 3)<|aS mI (aD<|.str [122]) aT) (cA .chr<|aC (bq iZ (cA oS<|aC (az 3) aI)<|aD<|aw 32) aI)<|az 3) (iF 3) (iq<|az 0) cM) aI)<|aE (cg 2<|cw 176<|aC (az 1) aI)<|aE (bS (aW (i3 (az 3) (iF 3) (iq<|az 2)<|bI (aW (bF (az 3) 9)<|aS dU (ce<|aC (aD<|.str [65])<|aC (aD<|.str [88]) aI) aT) cM)<|aS eW (fo aI) aT) (aE (cD<|cw 331<|aC (az 1)<|aC (az 2) aI) aK) aK)<|aE (cD<|cw 319<|aC (az 1)<|aC (az 2) aI) aK)
noncomputable def Kq:bW:=(aE (cg 1<|fo aI)<|aE (ju (j4 [2,3]) (iq<|bF (az 0) 3)<|aE (dL<|cv (az 1) 1<|aC (bq fV (fo<|aC (az 2) aI)<|az 3) aI) aK)<|aE (cD<|az 1) aK)
noncomputable def Kr:bW:=(aE (ju (iF 1) (iq<|jb<|.str [36,43,45])<|aE (bS (aW (cv (az 0) 2<|aC (az 1) aI)<|aS gI (aD<|aw 1) aT) (aE (cD<|az 1) aK) aK) aK)<|aE (cD<|aD<|.str []) aK)
noncomputable def Ks:bW:=(aE (cg 1<|vL [(.mk [57] [102,105,103,117,114,101]),(.mk [90] [122,101,114,111]),(.mk [42] [115,116,97,114]),(.mk [46] [112,111,105,110,116]),(.mk [86] [109,97,114,107]),(.mk [80] [110,111,110,101])])<|aE (ju (iF 2) (iq<|jb<|.str [66,48,47,44])<|aE (n7 (az 1) (az 2)<|aD<|.str [105,110,115,101,114,116]) aK)<|aE (jd [3,4]<|ce<|aC (cw 350<|aC (az 0) aI)<|aC (fo aI) aI)<|aE (ju (iF 2) (iq<|az 0)<|aE (bS (aW (az 2)<|aS cG (az 3) aT) (aE (dL<|cv (az 4) 0<|aC (dC (aW (aD<|.str [108,101,97,100])<|aS dU (az 4) aT) (aD<|.str [102,108,111,97,116])<|aD<|.str [108,101,97,100]) aI) aK)<|aE (dL<|cv (az 4) 0<|aC (cv (az 1) 7<|aC (az 2)<|aC (aD<|.str [102,105,120,101,100]) aI) aI) aK) aK)<|aE (cD<|az 4) aK)
noncomputable def Kt:bW:=(aE (cD<|hM (az 0)<|aS dU (ce<|aC (aD<|.str [122,101,114,111])<|aC (aD<|.str [115,116,97,114])<|aC (aD<|.str [102,108,111,97,116]) aI) aT) aK)
noncomputable def Ei:bW:=(aE (cg 2<|bq oR (cA lV<|aC (cw 43<|aC (az 1)<|aC (bF (az 0) 6)<|aC (aD<|aZ false) aI) aI)<|bq lU (aD<|aw 10)<|bF (az 0) 5)<|aE (cg 3<|dC (aW (az 2)<|aS gI (aD<|aw 0) aT) (cA .str<|aC (az 2) aI)<|aD<|.str [])<|aE (cD<|ce<|aC (bq cU (bq fV (aD<|.str [48])<|bq iZ (bF (az 0) 5)<|cA gV<|aC (az 3) aI)<|az 3)<|aC (nh true<|aC (hM (c5 (az 1)<|aD<|aw 0)<|aS jO (aD<|aw 0) aT)<|aC (hM (az 2)<|aS gI (aD<|aw 0) aT) aI) aI) aK)
noncomputable def Ku:bW:=(aE (bS (aW (az 0)<|aS cG (aD<|.str [43]) aT) (aE (cD<|dC (fW<|az 1) (aD<|.str [45])<|aD<|.str [43]) aK) aK)<|aE (bS (aW (az 0)<|aS cG (aD<|.str [45]) aT) (aE (cD<|dC (fW<|az 1) (aD<|.str [45])<|jb<|.str [32]) aK) aK)<|aE (bS (aW (az 0)<|aS dU (ce<|aC (aD<|.str [67,82])<|aC (aD<|.str [68,66]) aI) aT) (aE (cD<|dC (fW<|az 1) (az 0)<|bq fV (jb<|.str [32])<|aD<|aw 2) aK) aK)<|aE (cD<|az 0) aK)
noncomputable def Kv:bW:=(aE (cD<|dC (aW (az 0)<|aS cG (aD<|.str [66]) aT) (jb<|.str [32])<|az 0) aK)
noncomputable def Kx:bW:=(aE (bS (aW (aD<|.str [115,116,97,114])<|aS kC (az 2) aT) (aE (cD<|bq fV (jb<|.str [32])<|bF (az 0) 8) aK) aK)<|aE (cD<|cv (aD<|.str []) 6<|aC (i3 (dC (aW (az 3)<|aS dU (ce<|aC (aD<|.str [109,97,114,107])<|aC (aD<|.str [110,111,110,101]) aI) aT) (aD<|.str [])<|dC (aW (az 3)<|aS cG (aD<|.str [112,111,105,110,116]) aT) (az 4)<|bq fV (aD<|.str [42])<|cA gV<|aC (az 4) aI) (j4 [3,4]) (sD (az 2)<|az 1) cM) aI) aK)
noncomputable def A1:bW:=(aE (cg 3<|cw 343<|aC (az 0) aI)<|aE (cg 4<|cw 357<|aC (az 3) aI)<|aE (jd [5,6]<|cw 371<|aC (az 0)<|aC (az 1) aI)<|aE (bS (aW (az 5)<|aS cG (bq fV (aD<|.str [48])<|cA gV<|aC (az 5) aI) aT) (aE (bS (fW<|az 2) (aE (cD<|bq fV (jb<|.str [32])<|bF (az 0) 8) aK) aK)<|aE (bS (aW (aD<|.str [102,105,103,117,114,101])<|aS kC (az 4) aT) (aE (cD<|cw 432<|aC (az 0)<|aC (az 3)<|aC (az 4) aI) aK) aK) aK) aK)<|aE (cg 7<|sA 423<|aC (az 5)<|aC (az 6)<|aC (dC (aW (aD<|.str [115,116,97,114])<|aS dU (az 4) aT) (aD<|.str [42])<|jb<|.str [32]) aI)<|aE (ju (j4 [8,9]) (sD (az 4)<|az 3)<|aE (dL<|cv (az 7) 25<|aC (az 8)<|aC (az 9) aI) aK)<|aE (bS (aW (aD<|.str [108,101,97,100])<|aS dU (az 4) aT) (aE (n7 (bF (az 7) 30) (bF (az 7) 33)<|cw 378<|aC (c5 (az 3)<|cv (az 4) 3<|aC (aD<|.str [108,101,97,100]) aI)<|aC (az 6) aI) aK) aK)<|aE (cD<|cv (aD<|.str []) 6<|aC (bF (az 7) 30) aI) aK)
noncomputable def Ej:bW:=(aE (cD<|cA n5<|aC (i3 (cA oS<|aC (az 3) aI) (iF 3) (iq<|cw 439<|aC (az 0)<|aC (az 1)<|aC (az 2) aI) cM) aI) aK)
noncomputable def Ky:bW:=(aE (jd [1,2]<|ce<|aC (fo aI)<|aC (aD<|aw 0) aI)<|aE (cg 3<|cw 343<|aC (az 0) aI)<|aE (ju (j4 [4,5]) (sD (cw 357<|aC (az 3) aI)<|az 3)<|aE (bS (aW (az 4)<|aS kC (ce<|aC (aD<|.str [109,97,114,107])<|aC (aD<|.str [110,111,110,101]) aI) aT) (aE (dL<|cv (az 1) 0<|aC (ce<|aC (az 4)<|aC (az 5)<|aC (az 2) aI) aI)<|aE (cg 2<|bq cU (az 2)<|cA gV<|aC (az 5) aI) aK) aK) aK)<|aE (cD<|az 1) aK)
noncomputable def Kz:bW:=(aE (cD<|dC (aW (jb<|aw 48)<|aS mI (az 0)<|aS mI (bq cU (jb<|aw 48)<|aD<|aw 9) aT) (bq iZ (az 0)<|jb<|aw 48)<|aD<|aw 0) aK)
noncomputable def KA:bW:=(aE (cg 2<|aD<|aw 0)<|aE (ju (j4 [3,4,5]) (iq<|az 0)<|aE (bS (kS<|bI (aW (az 3)<|aS cG (aD<|.str [102,105,103,117,114,101]) aT)<|bI (fW<|cw 364<|aC (az 3) aI) cM) (aE (cg 2<|bq cU (bq fV (az 2)<|aD<|aw 10)<|cw 459<|aC (c5 (az 1)<|az 5) aI) aK) aK) aK)<|aE (cD<|az 2) aK)
noncomputable def KB:bW:=(aE (bS (aW (az 1)<|aS dU (ce<|aC (aD<|.str [67,82])<|aC (aD<|.str [68,66]) aI) aT) (aE (cD<|hM (cA n5<|aC (lG (az 2) (j5<|az 3) (j5<|bq cU (az 3)<|aD<|aw 2) jP) aI)<|aS cG (cA n5<|aC (i3 (cA oS<|aC (az 4) aI) (iF 4) (iq<|az 1) cM) aI) aT) aK) aK)<|aE (cD<|nh true<|aC (hM (az 0)<|aS cG (aD<|.str [102,105,120,101,100]) aT)<|aC (hM (c5 (az 2)<|az 3)<|aS cG (jb<|aw 45) aT) aI) aK)
noncomputable def KC:bW:=(aE (cg 5<|hM (i3 (az 7) (j4 [6,7,8]) (iq<|az 0)<|bI (jc<|bI (aW (az 6)<|aS cG (aD<|.str [108,101,97,100]) aT)<|bI (aW (az 7)<|aS dU (aD<|.str [43,45]) aT) cM) cM)<|aS eW (fo aI) aT)<|aE (ju (j4 [2,3,4]) (iq<|az 0)<|aE (bS (kS<|bI (fW<|cw 471<|aC (az 2)<|aC (az 3)<|aC (az 1)<|aC (az 4) aI)<|bI (jc<|bI (fW<|az 5)<|bI (aW (c5 (az 1)<|az 4)<|aS cG (jb<|aw 45) aT) cM) cM) (aE (cD<|aD<|aZ true) aK) aK) aK)<|aE (cD<|aD<|aZ false) aK)
noncomputable def KD:bW:=(aE (ju (iF 2) (sC<|cA n6<|aC (cA gV<|aC (az 0) aI)<|aC (cA gV<|aC (az 1) aI) aI)<|aE (bS (aW (c5 (az 0)<|az 2)<|aS eW (c5 (az 1)<|az 2) aT) (aE (cD<|az 2) aK) aK) aK)<|aE (cD<|cA n6<|aC (cA gV<|aC (az 0) aI)<|aC (cA gV<|aC (az 1) aI) aI) aK)
noncomputable def Ek:bW:=(aE (bS (aW (cA gV<|aC (az 1) aI)<|aS eW (bF (az 0) 8) aT) (aE (xF<|ce<|aC (aD<|aw 0)<|aC (cA n6<|aC (cA gV<|aC (az 1) aI)<|aC (bF (az 0) 8) aI) aI) aK) aK)<|aE (cg 3<|cw 452<|aC (az 0) aI)<|aE (cg 4<|cw 466<|aC (az 3)<|aC (az 1) aI)<|aE (cg 5<|cw 36<|aC (dC (fW<|cw 476<|aC (az 3)<|aC (az 1) aI) (mq<|az 4)<|az 4)<|aC (bF (az 0) 6) aI)<|aE (cg 6<|cw 445<|aC (az 0)<|aC (az 5)<|aC (az 2) aI)<|aE (bS (aW (az 6)<|aS eW (cA n5<|aC (az 1) aI) aT) (aE (xF<|ce<|aC (aD<|aw 0)<|aC (cw 483<|aC (az 6)<|aC (az 1) aI) aI) aK) aK)<|aE (cD<|az 5) aK)
noncomputable def A3:bW:=(aE (bS (aW (c5 (az 0)<|aD<|aw 2)<|aS cG (aD<|aw 0) aT) (aE (n7 (az 0) (aD<|aw 1)<|bq cU (c5 (az 0)<|aD<|aw 1)<|aD<|aw 1)<|aE (bS (aW (c5 (az 0)<|aD<|aw 1)<|aS gI (cA gV<|aC (c5 (az 0)<|aD<|aw 0) aI) aT) (aE (cD<|bq oR (bq nZ (bq fV (bq fV (bq cU (c5 (az 0)<|aD<|aw 3)<|aD<|aw 3)<|bq cU (c5 (az 0)<|aD<|aw 1)<|aD<|aw 2)<|bq cU (c5 (az 0)<|aD<|aw 1)<|aD<|aw 9)<|aD<|aw 5)<|az 1) aK) aK)<|aE (cg 2<|c5 (c5 (az 0)<|aD<|aw 0)<|bq iZ (c5 (az 0)<|aD<|aw 1)<|aD<|aw 1)<|aE (bS (aW (cA lV<|aC (az 2) aI)<|aS jO (bq lU (aD<|aw 10)<|aD<|aw 18) aT) (aE (cD<|bq oR (az 2)<|az 1) aK) aK)<|aE (n7 (az 0) (aD<|aw 2)<|bq cU (bq fV (aD<|aw 2)<|bq iZ (cA lV<|aC (az 2) aI)<|bq lU (aD<|aw 10)<|aD<|aw 18)<|dC (aW (az 2)<|aS jO (aD<|aw 0) aT) (aD<|aw 1)<|aD<|aw 0) aK) aK)<|aE (cg 3<|bq oR (c5 (az 0)<|aD<|aw 2)<|az 1)<|aE (n7 (az 0) (aD<|aw 2)<|bq nZ (c5 (az 0)<|aD<|aw 2)<|az 1)<|aE (cD<|az 3) aK)
noncomputable def KF:bW:=(aE (cg 2<|fo aI)<|aE (ju (j4 [3,4]) (pL<|az 1)<|aE (bS (jc<|bI (aW (az 3)<|aS gI (aD<|aw 0) aT)<|bI (aW (cw 499<|aC (az 0)<|aC (aD<|aw 4) aI)<|aS cG (aD<|aw 3) aT) cM) (aE (dL<|cv (az 2) 0<|aC (c5 (ce<|aC (aD<|.str [44])<|aC (aD<|.str [47])<|aC (aD<|.str [66])<|aC (aD<|.str [48]) aI)<|cw 499<|aC (az 0)<|aC (aD<|aw 4) aI) aI) aK) aK)<|aE (dL<|cv (az 2) 0<|aC (az 4) aI) aK)<|aE (cD<|az 2) aK)
noncomputable def l8:bW:=(aE (jd [2,3,4]<|ce<|aC (cw 499<|aC (az 0)<|aC (aD<|aw 6) aI)<|aC (bq cU (aD<|aw 1)<|cw 499<|aC (az 0)<|aC (az 1) aI)<|aC (cw 499<|aC (az 0)<|aC (az 1) aI) aI)<|aE (cg 5<|c5 (ce<|aC (aD<|.str [90])<|aC (aD<|.str [42])<|aC (aD<|.str [36])<|aC (aD<|.str [43])<|aC (aD<|.str [45])<|aC (aD<|.str []) aI)<|az 2)<|aE (cg 6<|dC (aW (az 2)<|aS jO (aD<|aw 5) aT) (bq fV (fo<|aC (az 5) aI)<|bq cU (az 3)<|dC (aW (az 2)<|aS dU (ce<|aC (aD<|aw 2)<|aC (aD<|aw 3)<|aC (aD<|aw 4) aI) aT) (aD<|aw 1)<|aD<|aw 0)<|bq fV (fo<|aC (aD<|.str [57]) aI)<|az 3)<|aE (jd [7,8]<|ce<|aC (cw 499<|aC (az 0)<|aC (aD<|aw 3) aI)<|aC (cw 499<|aC (az 0)<|aC (az 1) aI) aI)<|aE (cg 9<|nh true<|aC (hM (az 4)<|aS cG (aD<|aw 0) aT)<|aC (hM (az 2)<|aS jO (aD<|aw 5) aT)<|aC (hM (cw 499<|aC (az 0)<|aC (aD<|aw 2) aI)<|aS cG (aD<|aw 1) aT) aI)<|aE (cg 10<|cw 506<|aC (az 0)<|aC (bq cU (az 6)<|bq fV (fo<|aC (aD<|.str [57]) aI)<|az 4) aI)<|aE (cg 11<|fo aI)<|aE (bS (jc<|bI (aW (az 7)<|aS gI (aD<|aw 0) aT)<|bI (aW (az 8)<|aS gI (aD<|aw 0) aT) cM) (aE (cg 11<|bq cU (fo<|aC (c5 (ce<|aC (aD<|.str [46])<|aC (aD<|.str [86]) aI)<|bq iZ (az 7)<|aD<|aw 1) aI)<|bq fV (fo<|aC (dC (fW<|az 9) (az 5)<|aD<|.str [57]) aI)<|az 8) aK)<|aE (bS (aW (cw 499<|aC (az 0)<|aC (aD<|aw 4) aI)<|aS cG (aD<|aw 3) aT) (aE (cg 11<|bq fV (fo<|aC (aD<|.str [80]) aI)<|bq cU (aD<|aw 1)<|cw 499<|aC (az 0)<|aC (aD<|aw 2) aI) aK) aK) aK)<|aE (cg 12<|dC (aW (az 2)<|aS kC (ce<|aC (aD<|aw 3)<|aC (aD<|aw 4) aI) aT) (cw 499<|aC (az 0)<|aC (aD<|aw 6) aI)<|aD<|aw 0)<|aE (cg 13<|dC (aW (az 12)<|aS dU (ce<|aC (aD<|aw 1)<|aC (aD<|aw 2) aI) aT) (fo<|aC (c5 (ce<|aC (aD<|.str [43])<|aC (aD<|.str [45]) aI)<|bq iZ (az 12)<|aD<|aw 1) aI)<|fo aI)<|aE (bS (jc<|bI (aW (az 2)<|aS eW (aD<|aw 2) aT)<|bI (aW (az 2)<|aS kC (ce<|aC (aD<|aw 3)<|aC (aD<|aw 4) aI) aT)<|bI (aW (cw 499<|aC (az 0)<|aC (aD<|aw 3) aI)<|aS cG (aD<|aw 2) aT) cM) (aE (dL<|cv (az 13) 0<|aC (aD<|.str [36]) aI) aK) aK)<|aE (cg 14<|dC (aW (az 12)<|aS gI (aD<|aw 2) aT) (fo<|aC (c5 (ce<|aC (aD<|.str [67,82])<|aC (aD<|.str [68,66])<|aC (aD<|.str [45]) aI)<|bq iZ (az 12)<|aD<|aw 3) aI)<|fo aI)<|aE (bS (jc<|bI (aW (bq cU (az 13)<|az 14)<|aS cG (fo aI) aT)<|bI (aW (az 2)<|aS cG (aD<|aw 5) aT)<|bI (aW (aD<|.str [44])<|aS kC (az 10) aT)<|bI (aW (aD<|.str [46])<|aS kC (az 11) aT) cM) (aE (cg 14<|fo<|aC (aD<|.str [43]) aI) aK) aK)<|aE (cD<|bq cU (bq cU (bq cU (az 13)<|az 10)<|az 11)<|az 14) aK)
noncomputable def El:bW:=(aE (cg 5<|i3 (az 12) (j4 [12,13]) (pL<|az 0)<|bI (aW (az 13)<|aS dU (ce<|aC (aD<|.str [46])<|aC (aD<|.str [86]) aI) aT) cM)<|aE (cg 6<|i3 (az 12) (iF 12) (iq<|ce<|aC (aD<|.str [36])<|aC (aD<|.str [43])<|aC (aD<|.str [45]) aI)<|bI (aW (cv (az 0) 2<|aC (az 12) aI)<|aS gI (aD<|aw 1) aT) cM)<|aE (jd [7,8,9]<|ce<|aC (aD<|aw 0)<|aC (aD<|aw 0)<|aC (fo aI) aI)<|aE (ju (j4 [3,4]) (pL<|az 0)<|aE (cg 10<|nh false<|aC (hM (az 4)<|aS dU (ce<|aC (aD<|.str [57])<|aC (aD<|.str [90])<|aC (aD<|.str [42]) aI) aT)<|aC (nh true<|aC (hM (az 4)<|aS dU (az 6) aT)<|aC (hM (az 4)<|aS dU (az 9) aT) aI) aI)<|aE (dL<|cv (az 9) 0<|aC (az 4) aI)<|aE (cg 8<|bq cU (az 8)<|dC (fW<|az 10) (aD<|aw 1)<|aD<|aw 0)<|aE (cg 7<|bq cU (az 7)<|dC (jc<|bI (fW<|az 10)<|bI (aW (az 5)<|aS eW (fo aI) aT)<|bI (aW (az 3)<|aS gI (c5 (az 5)<|aD<|aw 0) aT) cM) (aD<|aw 1)<|aD<|aw 0) aK)<|aE (cg 7<|bq iZ (az 7)<|cv (az 0) 2<|aC (aD<|.str [80]) aI)<|aE (cg 11<|bq oR (bq nZ (bq fV (cA lV<|aC (az 1) aI)<|bq lU (aD<|aw 10)<|cA rA<|aC (az 7)<|aC (aD<|aw 0) aI)<|bq lU (aD<|aw 10)<|bq cU (az 2)<|cA rA<|aC (bq iZ (aD<|aw 0)<|az 7)<|aC (aD<|aw 0) aI)<|bq lU (aD<|aw 10)<|az 8)<|aE (cD<|ce<|aC (dC (aW (az 1)<|aS jO (aD<|aw 0) aT) (bq iZ (aD<|aw 0)<|az 11)<|az 11)<|aC (az 7)<|aC (az 8) aI) aK)
noncomputable def nG:bW:=(aE (cg 3<|i3 (bq oR (bq nZ (cA lV<|aC (az 1) aI)<|bq lU (aD<|aw 10)<|bq iZ (bq iZ (az 2)<|aD<|aw 1)<|az 18)<|aD<|aw 10) (iF 18) (sC<|az 2) cM)<|aE (cg 5<|i3 (az 18) (iF 18) (iq<|ce<|aC (aD<|.str [36])<|aC (aD<|.str [43])<|aC (aD<|.str [45]) aI)<|bI (aW (cv (az 0) 2<|aC (az 18) aI)<|aS gI (aD<|aw 1) aT) cM)<|aE (jd [6,7,8]<|ce<|aC (fo aI)<|aC (mq<|aD<|aw 1)<|aC (aD<|aw 0) aI)<|aE (ju (iF 4) (iq<|az 0)<|aE (jd [9,10]<|ce<|aC (aD<|.str [112,108,97,105,110])<|aC (az 4) aI)<|aE (bS (jc<|bI (aW (az 4)<|aS dU (az 5) aT)<|bI (aW (az 7)<|aS jO (aD<|aw 0) aT) cM) (aE (jd [9,10,7]<|ce<|aC (aD<|.str [108,101,97,100])<|aC (aD<|.str [])<|aC (cA gV<|aC (az 6) aI) aI) aK)<|aE (bS (kS<|bI (aW (az 4)<|aS dU (ce<|aC (aD<|.str [57])<|aC (aD<|.str [90])<|aC (aD<|.str [42]) aI) aT)<|bI (aW (az 4)<|aS dU (az 5) aT) cM) (aE (jd [9,10,8]<|ce<|aC (dC (aW (az 4)<|aS eW (aD<|.str [57]) aT) (aD<|.str [108,111,111,115,101])<|aD<|.str [110,105,110,101])<|aC (cA .str<|aC (c5 (az 3)<|az 8) aI)<|aC (bq cU (az 8)<|aD<|aw 1) aI) aK)<|aE (bS (aW (az 4)<|aS dU (ce<|aC (aD<|.str [44])<|aC (aD<|.str [47])<|aC (aD<|.str [66])<|aC (aD<|.str [48]) aI) aT) (aE (jd [9,10]<|ce<|aC (aD<|.str [112,117,116,32,105,110])<|aC (dC (aW (az 4)<|aS cG (aD<|.str [66]) aT) (aD<|.str [32])<|az 4) aI) aK)<|aE (bS (aW (az 4)<|aS dU (ce<|aC (aD<|.str [43])<|aC (aD<|.str [45]) aI) aT) (aE (cg 10<|dC (aW (az 1)<|aS jO (aD<|aw 0) aT) (aD<|.str [45])<|dC (aW (az 4)<|aS cG (aD<|.str [43]) aT) (aD<|.str [43])<|aD<|.str [32]) aK)<|aE (bS (aW (az 4)<|aS dU (ce<|aC (aD<|.str [67,82])<|aC (aD<|.str [68,66]) aI) aT) (aE (cg 10<|dC (aW (az 1)<|aS jO (aD<|aw 0) aT) (az 4)<|aD<|.str [32,32]) aK)<|aE (bS (aW (az 4)<|aS dU (ce<|aC (aD<|.str [46])<|aC (aD<|.str [86])<|aC (aD<|.str [80]) aI) aT) (aE (jd [9,10]<|ce<|aC (dC (aW (az 4)<|aS eW (aD<|.str [80]) aT) (aD<|.str [112,111,105,110,116])<|aD<|.str [112,108,97,105,110])<|aC (dC (aW (az 4)<|aS cG (aD<|.str [46]) aT) (aD<|.str [46])<|aD<|.str []) aI) aK) aK) aK) aK) aK) aK) aK)<|aE (dL<|cv (az 6) 0<|aC (ce<|aC (az 9)<|aC (az 10) aI) aI) aK)<|aE (cg 11<|dC (aW (aD<|.str [42])<|aS dU (az 0) aT) (aD<|.str [42])<|aD<|.str [32])<|aE (bS (jc<|bI (aW (az 1)<|aS cG (aD<|aw 0) aT)<|bI (aW (aD<|.str [110,105,110,101])<|aS kC (i3 (az 18) (j4 [18,19]) (iq<|az 6) cM) aT) cM) (aE (cD<|cv (aD<|.str []) 6<|aC (i3 (dC (jc<|bI (aW (az 18)<|aS cG (aD<|.str [112,111,105,110,116]) aT)<|bI (aW (az 11)<|aS cG (aD<|.str [42]) aT)<|bI (aW (az 19)<|aS eW (aD<|.str []) aT) cM) (aD<|.str [46])<|bq fV (az 11)<|cA gV<|aC (dC (aW (az 18)<|aS eW (aD<|.str [108,101,97,100]) aT) (az 19)<|aD<|.str [32]) aI) (j4 [18,19]) (iq<|az 6) cM) aI) aK) aK)<|aE (cg 14<|cA n6<|aC (bq cU (i3 (az 18) (j4 [18,19]) (pL<|az 6)<|bI (aW (c5 (az 19)<|aD<|aw 0)<|aS dU (ce<|aC (aD<|.str [108,101,97,100])<|aC (aD<|.str [108,111,111,115,101]) aI) aT) cM)<|fo<|aC (cA gV<|aC (az 6) aI) aI) aI)<|aE (cg 15<|cA n6<|aC (i3 (az 18) (j4 [18,19]) (pL<|az 6)<|bI (kS<|bI (aW (c5 (az 19)<|aD<|aw 0)<|aS dU (ce<|aC (aD<|.str [110,105,110,101])<|aC (aD<|.str [112,111,105,110,116]) aI) aT)<|bI (jc<|bI (aW (c5 (az 19)<|aD<|aw 0)<|aS cG (aD<|.str [108,111,111,115,101]) aT)<|bI (aW (c5 (az 19)<|aD<|aw 1)<|aS eW (aD<|.str [48]) aT) cM) cM) cM) aI)<|aE (cg 16<|fo aI)<|aE (ju (j4 [12,13]) (pL<|az 6)<|aE (cg 17<|nh true<|aC (hM (az 14)<|aS mI (az 12)<|aS jO (az 15) aT)<|aC (hM (c5 (az 13)<|aD<|aw 0)<|aS dU (ce<|aC (aD<|.str [108,101,97,100])<|aC (aD<|.str [108,111,111,115,101])<|aC (aD<|.str [112,117,116,32,105,110]) aI) aT) aI)<|aE (dL<|cv (az 16) 0<|aC (dC (fW<|az 17) (az 11)<|c5 (az 13)<|aD<|aw 1) aI) aK)<|aE (bS (aW (az 5)<|aS eW (fo aI) aT) (aE (n7 (az 16) (bq iZ (az 15)<|aD<|aw 1)<|dC (aW (c5 (az 5)<|aD<|aw 0)<|aS cG (aD<|.str [36]) aT) (c5 (az 5)<|aD<|aw 0)<|dC (aW (az 1)<|aS jO (aD<|aw 0) aT) (aD<|.str [45])<|dC (aW (c5 (az 5)<|aD<|aw 0)<|aS cG (aD<|.str [43]) aT) (aD<|.str [43])<|aD<|.str [32]) aK) aK)<|aE (cD<|cv (aD<|.str []) 6<|aC (az 16) aI) aK)
noncomputable def KG:bW:=(aE (jd [3,4]<|ce<|aC (aD cz)<|aC (aD cz) aI)<|aE (xG 4 491 (aC (az 0)<|aC (az 1)<|aC (az 2) aI) 3 5)<|aE (bS (jc<|bI (aW (az 3)<|aS vJ (aD cz) aT)<|bI (sB<|jc<|bI (aW (c5 (az 3)<|aD<|aw 0)<|aS cG (aD<|aw 0) aT)<|bI (aW (aD<|aw 0)<|aS mI (c5 (az 3)<|aD<|aw 1)<|aS mI (cA rA<|aC (cA gV<|aC (az 1) aI)<|aC (bF (az 0) 8) aI) aT) cM) cM) (aE (cD<|aD<|.str [110,111,32,112,108,97,99,101]) aK) aK)<|aE (cD<|az 4) aK)
noncomputable def KH:bW:=(aE (cg 3<|hM (i3 (az 7) (iF 7) (iq<|az 0)<|bI (aW (az 7)<|aS dU (ce<|aC (aD<|.str [43])<|aC (aD<|.str [45])<|aC (aD<|.str [67,82])<|aC (aD<|.str [68,66]) aI) aT) cM)<|aS eW (fo aI) aT)<|aE (cg 4<|vL [])<|aE (ju (iF 5) (sC<|bq lU (aD<|aw 10)<|az 1)<|aE (ju (iF 6) (iq<|dC (fW<|az 3) (ce<|aC (az 5)<|aC (bq iZ (aD<|aw 0)<|az 5) aI)<|ce<|aC (az 5) aI)<|aE (n7 (az 4) (cw 523<|aC (az 0)<|aC (az 6)<|aC (az 1) aI)<|cw 36<|aC (az 6)<|aC (az 2) aI) aK) aK)<|aE (cD<|az 4) aK)
noncomputable def kg:bW:=(aE (cg 1<|fo<|aC (cA tX<|aC (lG (az 0) jP (j5<|aD<|aw 63) jP) aI)<|aC (aD<|aw 0)<|aC (aD<|aw 0)<|aC (bq oR (cA lV<|aC (cA sy<|aC (lG (az 0) jP (j5<|aD<|aw 63) jP) aI) aI)<|aD<|aw 1009) aI)<|aE (cg 2<|cw 513<|aC (az 1)<|aC (aD<|aw 4) aI)<|aE (jd [3,4,5]<|ce<|aC (cw 336<|aC (cv (aD<|.str []) 6<|aC (az 2) aI) aI)<|aC (bq iZ (cw 499<|aC (az 1)<|aC (bq lU (aD<|aw 10)<|aD<|aw 6) aI)<|aD<|aw 400000)<|aC (cw 499<|aC (az 1)<|aC (aD<|aw 5) aI) aI)<|aE (jd [6,7,8]<|cw 518<|aC (az 2)<|aC (az 4)<|aC (az 5) aI)<|aE (cg 9<|hM (i3 (az 19) (iF 19) (iq<|az 2)<|bI (aW (az 19)<|aS dU (ce<|aC (aD<|.str [43])<|aC (aD<|.str [45])<|aC (aD<|.str [67,82])<|aC (aD<|.str [68,66]) aI) aT) cM)<|aS eW (fo aI) aT)<|aE (cg 10<|cw 445<|aC (az 3)<|aC (cw 36<|aC (az 4)<|aC (az 5) aI) aI)<|aE (bS (aW (cw 530<|aC (az 3)<|aC (az 10)<|aC (aD<|aZ false) aI)<|aS eW (cw 36<|aC (dC (fW<|az 9) (az 6)<|cA lV<|aC (az 6) aI)<|aC (az 7) aI) aT) (aE (cD<|aD<|aZ false) aK) aK)<|aE (bS (jc<|bI (aW (aD<|.str [42])<|aS kC (az 2) aT)<|bI (aW (cw 530<|aC (az 3)<|aC (bq fV (aD<|dw [32])<|bF (az 3) 8)<|aC (aD<|aZ true) aI)<|aS eW (cw 36<|aC (aD<|aw 0) aI) aT) cM) (aE (cD<|aD<|aZ false) aK) aK)<|aE (cg 11<|c5 (jb<|d8 [(.str [90,57]),(.str [42,57]),(.str [36,36,36]),(.str [90,90]),(.str [90,46,57]),(.str [57,47,57]),(.str [42,42]),(.str [46,90,90]),(.str [90,48,57]),(.str [43,43]),(.str [45,45]),(.str [45,57]),(.str [57,67,82]),(.str [36,57,45]),(.str [90,43]),(.str [57,68,66])])<|cw 499<|aC (az 1)<|aC (aD<|aw 16) aI)<|aE (cg 2<|dC (aW (lG (az 11) (j5<|mq<|aD<|aw 2) jP jP)<|aS dU (ce<|aC (aD<|.str [67,82])<|aC (aD<|.str [68,66]) aI) aT) (fo<|aC (lG (az 11) jP (j5<|mq<|aD<|aw 2) jP)<|aC (lG (az 11) (j5<|mq<|aD<|aw 2) jP jP) aI)<|cA tX<|aC (az 11) aI)<|aE (jd [6,7,8]<|cw 518<|aC (az 2)<|aC (aD<|aw 0)<|aC (aD<|aw 0) aI)<|aE (jd [12,13]<|ce<|aC (cw 535<|aC (az 2)<|aC (az 8)<|aC (az 7) aI)<|aC (cw 336<|aC (az 11) aI) aI)<|aE (cg 14<|cA vK<|aC (az 12) aI)<|aE (cg 15<|c5 (az 14)<|cw 499<|aC (az 1)<|aC (cA gV<|aC (az 14) aI) aI)<|aE (ju (iF 16) (sC<|cw 499<|aC (az 1)<|aC (aD<|aw 3) aI)<|aE (cg 17<|cw 499<|aC (az 1)<|aC (cA gV<|aC (az 15) aI) aI)<|aE (cg 15<|bq cU (bq cU (lG (az 15) jP (j5<|az 17) jP)<|c5 (jb<|.str [32,48,49,50,51,52,53,54,55,56,57,43,45,42,36,44,46,47,67,82,68,66])<|cw 499<|aC (az 1)<|aC (aD<|aw 22) aI)<|lG (az 15) (j5<|bq cU (az 17)<|aD<|aw 1) jP jP) aK)<|aE (bS (aW (cw 499<|aC (az 1)<|aC (aD<|aw 8) aI)<|aS cG (aD<|aw 7) aT) (aE (cg 15<|bq cU (az 15)<|aD<|.str [32]) aK) aK)<|aE (bS (aW (cw 530<|aC (az 13)<|aC (cA n5<|aC (i3 (cA oS<|aC (az 19) aI) (iF 19) (iq<|az 15) cM) aI)<|aC (aD<|aZ false) aI)<|aS eW (cv (az 12) 7<|aC (az 15) aI) aT) (aE (cD<|aD<|aZ false) aK) aK)<|aE (ju (iF 18) (iq<|lG (az 14) (j5<|cw 499<|aC (az 1)<|aC (cA gV<|aC (az 14) aI) aI) jP<|j5<|bq cU (bq nZ (cA gV<|aC (az 14) aI)<|aD<|aw 3)<|aD<|aw 1)<|aE (bS (aW (cw 530<|aC (az 13)<|aC (cA n5<|aC (i3 (cA oS<|aC (az 19) aI) (iF 19) (iq<|az 18) cM) aI)<|aC (aD<|aZ false) aI)<|aS eW (c5 (az 12)<|az 18) aT) (aE (cD<|aD<|aZ false) aK) aK) aK)<|aE (cD<|aD<|aZ true) aK)
noncomputable def KJ:bW:=(aE (cD<|bq cU (bq cU (bF (az 0) 16)<|bF (az 0) 18)<|bF (az 0) 19) aK)
noncomputable def KL:bW:=(aE (bS (aW (bF (az 0) 13)<|aS eW (aD<|.str []) aT) (aE (c6 (az 0) 20<|bq cU (bF (az 0) 20)<|az 1)<|aE (c6 (az 0) 21<|nh false<|aC (bF (az 0) 21)<|aC (az 2) aI) aK) aK) aK)
noncomputable def KM:bW:=(aE (bS (kS<|bI (aW (bF (az 0) 15)<|aS gI (aD<|aw 0) aT)<|bI (fW<|bF (az 0) 21) cM) (aE lH aK) aK)<|aE (c6 (az 0) 16<|bq cU (bF (az 0) 16)<|bF (az 1) 10)<|aE (dL<|cv (az 0) 9<|aC (bF (az 1) 10)<|aC (aD<|aZ false) aI) aK)
noncomputable def KN:bW:=(aE (bS (kS<|bI (aW (bF (az 0) 15)<|aS gI (aD<|aw 0) aT)<|bI (aW (bF (az 0) 16)<|aS gI (aD<|aw 0) aT)<|bI (aW (bF (az 0) 19)<|aS gI (aD<|aw 0) aT)<|bI (aW (bF (az 0) 17)<|aS kC (ce<|aC (aD<|.str [])<|aC (bF (az 1) 9) aI) aT) cM) (aE lH aK) aK)<|aE (c6 (az 0) 17<|bF (az 1) 9)<|aE (c6 (az 0) 18<|bq cU (bF (az 0) 18)<|bF (az 1) 10)<|aE (dL<|cv (az 0) 9<|aC (bF (az 1) 10)<|aC (aD<|aZ true) aI) aK)
noncomputable def Em:bW:=(aE (bS (kS<|bI (aW (bF (az 0) 13)<|aS eW (aD<|.str []) aT)<|bI (aW (bF (az 0) 14)<|aS gI (aD<|aw 0) aT)<|bI (jc<|bI (aW (bF (az 1) 9)<|aS cG (aD<|.str [46]) aT)<|bI (aW (bF (az 0) 15)<|aS gI (aD<|aw 0) aT) cM) cM) (aE lH aK) aK)<|aE (c6 (az 0) 13<|bF (az 1) 9) aK)
noncomputable def KO:bW:=(aE (bS (aW (cv (az 0) 8 aI)<|aS gI (aD<|aw 0) aT) (aE (bS (kS<|bI (aW (bF (az 0) 13)<|aS eW (aD<|.str []) aT)<|bI (aW (bF (az 0) 14)<|aS gI (aD<|aw 0) aT) cM) (aE lH aK) aK)<|aE (c6 (az 0) 15<|bq cU (bF (az 0) 15)<|bF (az 1) 10)<|aE (cD<|aD cz) aK) aK)<|aE (bS (kS<|bI (aW (bF (az 0) 13)<|aS cG (aD<|.str [46]) aT)<|bI (fW<|bF (az 0) 25) cM) (aE lH aK) aK)<|aE (c6 (az 0) 14<|bq cU (bF (az 0) 14)<|bF (az 1) 10) aK)
noncomputable def KP:bW:=(aE (bS (aW (bF (az 0) 15)<|aS gI (aD<|aw 0) aT) (aE lH aK) aK)<|aE (c6 (az 0) 25<|aD<|aZ true) aK)
noncomputable def KQ:bW:=(aE (c6 (az 0) 19<|bq cU (bF (az 0) 19)<|az 2)<|aE (dL<|cv (az 0) 9<|aC (az 2)<|aC (aD<|aZ true) aI) aK)
noncomputable def KR:bW:=(aE (cD<|nh true<|aC (hM (bF (az 0) 16)<|aS cG (aD<|aw 0) aT)<|aC (hM (bF (az 0) 18)<|aS cG (aD<|aw 0) aT)<|aC (hM (bF (az 0) 14)<|aS cG (aD<|aw 0) aT)<|aC (hM (bF (az 0) 15)<|aS cG (aD<|aw 0) aT) aI) aK)
noncomputable def KS:bW:=(aE (bS (aW (bF (az 0) 11)<|aS cG (aD<|aw 0) aT) (aE (c6 (az 0) 9<|bF (az 1) 9)<|aE (dL<|cv (az 0) 15<|aC (az 1)<|aC (bq iZ (bF (az 1) 10)<|aD<|aw 1) aI) aK)<|aE (bS (jc<|bI (aW (bF (az 0) 9)<|aS cG (bF (az 1) 9) aT)<|bI (aW (bF (az 0) 22)<|aS cG (aD<|.str []) aT)<|bI (fW<|cv (az 0) 16 aI) cM) (aE (dL<|cv (az 0) 15<|aC (az 1)<|aC (bF (az 1) 10) aI) aK)<|aE (dL<|cv (az 0) 19<|aC (az 1) aI) aK) aK) aK)
noncomputable def KT:bW:=(aE (bS (aW (bF (az 0) 22)<|aS cG (aD<|.str []) aT) (aE (bS (kS<|bI (aW (bF (az 0) 11)<|aS gI (aD<|aw 1) aT)<|bI (jc<|bI (aW (bF (az 0) 11)<|aS cG (aD<|aw 1) aT)<|bI (kS<|bI (aW (bF (az 0) 9)<|aS cG (aD<|.str []) aT)<|bI (aW (bF (az 0) 19)<|aS gI (aD<|aw 0) aT) cM) cM) cM) (aE lH aK) aK)<|aE (c6 (az 0) 22<|bF (az 1) 9)<|aE (dL<|cv (az 0) 15<|aC (az 1)<|aC (bq iZ (bF (az 1) 10)<|aD<|aw 1) aI) aK)<|aE (bS (fW<|cv (az 0) 16 aI) (aE (dL<|cv (az 0) 15<|aC (az 1)<|aC (bF (az 1) 10) aI) aK)<|aE lH aK) aK) aK)
noncomputable def KU:bW:=(aE (bS (kS<|bI (aW (cv (az 0) 8 aI)<|aS cG (aD<|aw 0) aT)<|bI (aW (bF (az 0) 9)<|aS eW (aD<|.str []) aT)<|bI (aW (bF (az 1) 10)<|aS gI (aD<|aw 1) aT) cM) (aE lH aK) aK)<|aE (c6 (az 0) 9<|bF (az 1) 9)<|aE (c6 (az 0) 24<|aD<|aZ true) aK)
noncomputable def En:bW:=(aE (cg 2<|bF (az 1) 9)<|aE (bS (kS<|bI (fW<|bF (az 0) 24)<|bI (jc<|bI (fW<|bF (az 0) 12)<|bI (aW (az 2)<|aS kC (ce<|aC (aD<|.str [57])<|aC (aD<|.str [80])<|aC (aD<|.str [86]) aI) aT) cM)<|bI (jc<|bI (aW (az 2)<|aS cG (aD<|.str [83]) aT)<|bI (aW (bF (az 0) 11)<|aS gI (aD<|aw 0) aT) cM) cM) (aE lH aK) aK)<|aE (bS (aW (az 2)<|aS cG (aD<|.str [83]) aT) (aE (c6 (az 0) 12<|aD<|aZ true) aK)<|aE (bS (aW (az 2)<|aS cG (aD<|.str [57]) aT) (aE (dL<|cv (az 0) 10<|aC (az 1) aI) aK)<|aE (bS (aW (az 2)<|aS dU (ce<|aC (aD<|.str [90])<|aC (aD<|.str [42]) aI) aT) (aE (dL<|cv (az 0) 11<|aC (az 1) aI) aK)<|aE (bS (aW (az 2)<|aS dU (ce<|aC (aD<|.str [86])<|aC (aD<|.str [46]) aI) aT) (aE (dL<|cv (az 0) 12<|aC (az 1) aI) aK)<|aE (bS (aW (az 2)<|aS cG (aD<|.str [80]) aT) (aE (dL<|cv (az 0) 13<|aC (az 1) aI) aK)<|aE (bS (aW (az 2)<|aS dU (ce<|aC (aD<|.str [43])<|aC (aD<|.str [45]) aI) aT) (aE (dL<|cv (az 0) 17<|aC (az 1) aI) aK)<|aE (bS (aW (az 2)<|aS cG (aD<|.str [36]) aT) (aE (dL<|cv (az 0) 18<|aC (az 1) aI) aK)<|aE (bS (aW (az 2)<|aS dU (ce<|aC (aD<|.str [67,82])<|aC (aD<|.str [68,66]) aI) aT) (aE (dL<|cv (az 0) 19<|aC (az 1) aI) aK)<|aE (dL<|cv (az 0) 14<|aC (az 1) aI) aK) aK) aK) aK) aK) aK) aK) aK)<|aE (c6 (az 0) 11<|bq cU (bF (az 0) 11)<|aD<|aw 1)<|aE (c6 (az 0) 23<|az 2) aK)
noncomputable def KV:bW:=(aE (bS (kS<|bI (aW (cv (az 0) 8 aI)<|aS cG (aD<|aw 0) aT)<|bI (aW (bF (az 0) 23)<|aS dU (ce<|aC (aD<|.str [44])<|aC (aD<|.str [46]) aI) aT) cM) (aE (cD<|aD<|aZ false) aK) aK)<|aE (cD<|hM (bq cU (bq cU (cv (az 0) 8 aI)<|bF (az 0) 14)<|bF (az 0) 15)<|aS mI (jb<|aw 18) aT) aK)
noncomputable def KW:bW:=(aE (bS (aW (bF (az 0) 14)<|aS gI (aD<|aw 0) aT) (aE (cD<|bq cU (bF (az 0) 14)<|cv (az 0) 8 aI) aK) aK)<|aE (cD<|bq iZ (bF (az 0) 20)<|bF (az 0) 15) aK)
noncomputable def KX:bW:=(aE (c6 (az 0) 33<|cA gV<|aC (bF (az 0) 30) aI)<|aE (dL<|cv (bF (az 0) 30) 0<|aC (bF (az 0) 28) aI) aK)
noncomputable def KY:bW:=(aE (cg 2<|c5 (bF (az 0) 26)<|bF (az 0) 29)<|aE (c6 (az 0) 29<|bq cU (bF (az 0) 29)<|aD<|aw 1)<|aE (c6 (az 0) 32<|nh false<|aC (bF (az 0) 32)<|aC (cw 364<|aC (az 1) aI) aI)<|aE (c6 (az 0) 31<|nh false<|aC (bF (az 0) 31)<|aC (hM (az 1)<|aS cG (aD<|.str [102,105,103,117,114,101]) aT)<|aC (hM (az 2)<|aS eW (aD<|.str [48]) aT) aI)<|aE (bS (fW<|bF (az 0) 31) (aE (dL<|cv (bF (az 0) 30) 0<|aC (az 2) aI) aK)<|aE (dL<|cv (az 0) 23 aI) aK) aK)
noncomputable def KZ:bW:=(aE (bS (kS<|bI (aW (az 1)<|aS cG (aD<|.str [102,105,103,117,114,101]) aT)<|bI (fW<|cw 364<|aC (az 1) aI) cM) (aE (dL<|cv (az 0) 24<|aC (az 1) aI) aK)<|aE (bS (aW (az 1)<|aS cG (aD<|.str [108,101,97,100]) aT) (aE (c6 (az 0) 32<|aD<|aZ true)<|aE (dL<|cv (az 0) 23 aI) aK)<|aE (bS (jc<|bI (aW (az 1)<|aS cG (aD<|.str [105,110,115,101,114,116]) aT)<|bI (fW<|bF (az 0) 32)<|bI (sB<|fW<|bF (az 0) 31) cM) (aE (dL<|cv (az 0) 23 aI) aK)<|aE (bS (aW (az 1)<|aS cG (aD<|.str [105,110,115,101,114,116]) aT) (aE (dL<|cv (bF (az 0) 30) 0<|aC (cw 385<|aC (az 2) aI) aI) aK)<|aE (bS (aW (az 1)<|aS cG (aD<|.str [102,105,120,101,100]) aT) (aE (dL<|cv (bF (az 0) 30) 0<|aC (cw 378<|aC (az 2)<|aC (bF (az 0) 27) aI) aI) aK)<|aE (bS (aW (az 1)<|aS eW (aD<|.str [110,111,110,101]) aT) (aE (c6 (az 0) 31<|aD<|aZ true)<|aE (dL<|cv (bF (az 0) 30) 0<|aC (dC (aW (az 1)<|aS cG (aD<|.str [112,111,105,110,116]) aT) (az 2)<|aD<|.str []) aI) aK) aK) aK) aK) aK) aK) aK) aK)
noncomputable def K2:bW:=(aE (c6 (az 0) 2<|az 1)<|aE (c6 (az 0) 3<|az 2)<|aE (c6 (az 0) 4<|az 3)<|aE (c6 (az 0) 5<|az 4)<|aE (c6 (az 0) 6<|az 5)<|aE (c6 (az 0) 7<|az 6)<|aE (c6 (az 0) 8<|az 7) aK)
noncomputable def K3:bW:=(aE (c6 (az 0) 9<|az 1)<|aE (c6 (az 0) 10<|az 2)<|aE (c6 (az 0) 1<|az 3) aK)
noncomputable def K4:bW:=(aE (c6 (az 0) 11<|aD<|aw 0)<|aE (c6 (az 0) 12<|aD<|aZ false)<|aE (c6 (az 0) 13<|aD<|.str [])<|aE (c6 (az 0) 14<|aD<|aw 0)<|aE (c6 (az 0) 15<|aD<|aw 0)<|aE (c6 (az 0) 16<|aD<|aw 0)<|aE (c6 (az 0) 17<|aD<|.str [])<|aE (c6 (az 0) 18<|aD<|aw 0)<|aE (c6 (az 0) 19<|aD<|aw 0)<|aE (c6 (az 0) 20<|aD<|aw 0)<|aE (c6 (az 0) 21<|aD<|aZ false)<|aE (c6 (az 0) 9<|aD<|.str [])<|aE (c6 (az 0) 22<|aD<|.str [])<|aE (c6 (az 0) 23<|aD<|.str [])<|aE (c6 (az 0) 24<|aD<|aZ false)<|aE (c6 (az 0) 25<|aD<|aZ false) aK)
noncomputable def K5:bW:=(aE (c6 (az 0) 26<|az 1)<|aE (c6 (az 0) 27<|az 2)<|aE (c6 (az 0) 28<|az 3)<|aE (c6 (az 0) 29<|aD<|aw 0)<|aE (c6 (az 0) 30<|fo aI)<|aE (c6 (az 0) 31<|aD<|aZ false)<|aE (c6 (az 0) 32<|aD<|aZ false)<|aE (c6 (az 0) 33<|mq<|aD<|aw 1) aK)
section
open PySem PySem.W PyProof.Rows PySem.Calls
noncomputable abbrev AO:=bn->Option d9
inductive dX where
 | exact (o:d9)
 | loose (o:d9)
 | pred (P:d9->Prop)
open dX renaming loose->fq,pred->qt
noncomputable def dX.ctorIdx (p:dX):Nat:=dX.casesOn (motive:=λ_=>Nat) p (λ_=>0) (λ_=>1) λ_=>2
noncomputable abbrev TM:=bn->Option dX
def dX.holds (h:eY) (a:bn):dX->Prop
 | .exact o=>h.get? a=some o
 | fq o=>∃f,h.get? a=some {o with slots:=f}
 | qt P=>∃o,h.get? a=some o/\P o
noncomputable abbrev iS (xs:Array Value) (n:Nat):d9:={cls:=cq "list",data:=pK xs n}
noncomputable abbrev pp (xs:Array Value) (n:Nat):d9:={cls:=cq "tuple",data:=pK xs n}
noncomputable abbrev Zw (es:Array lI) (n:Nat):d9:={cls:=cq "dict",data:=sx es n}
mutual
inductive VR (Fz:AO):Value->V->Prop where
 | none:VR Fz bO cz
 | bool (b:Bool):VR Fz (jt b) (aZ b)
 | int (i:Int) (t:i7):VR Fz (eD i t) (aw i)
 | str (s:Str) (t:i7):VR Fz (.str s t) (.str s.cps.toList)
 | bytes (b:Array UInt8) (t:i7):VR Fz (nY b t) (dw<|b.toList.map lg)
 | tup (a:bn) (xs:List Value) (n:Nat) (vs:List V):Fz a=some (pp xs.toArray n)->bK Fz xs vs->VR Fz (aL a) (d8 vs)
 | ref (a:bn):VR Fz (aL a) (aB a)
inductive bK (Fz:AO):List Value->List V->Prop where
 | nil:bK Fz [] []
 | cons {x:Value}{v:V}{xs:List Value}{vs:List V}:VR Fz x v->bK Fz xs vs->bK Fz (x::xs) (v::vs)
end
open VR renaming bool->tZ,bytes->vM,int->jk,none->ua,ref->mJ
open bK renaming cons->i4,nil->ct
def AO.le (A B:AO):Prop:=∀ a o,A a=some o->B a=some o
theorem AO.le.refl (A:AO):A.le A:=λ_ _ e=>e
theorem AO.le.trans {A B C:AO}(x:A.le B) (y:B.le C):A.le C:=λa o e=>y a o<|x a o e
theorem bK.ind {A:AO}{P:List Value->List V->Prop}(f:P [] []) (j:∀ {x v xs vs},VR A x v->bK A xs vs->P xs vs->P (x::xs) (v::vs)){xs:List Value}{vs:List V}(h:bK A xs vs):P xs vs:=
 bK.rec (motive_1:=λ_ _ _=>True) (motive_2:=λxs vs _=>P xs vs) trivial (λ_=>trivial) (λ_ _=>trivial) (λ_ _=>trivial) (λ_ _=>trivial) (λ_ _ _ _ _ _ _=>trivial) (λ_=>trivial) f (λa r _ l=>j a r l) h
theorem VR.mono {A B:AO}(h:A.le B){x:Value}{v:V}(r:VR A x v):VR B x v:=
 VR.rec (motive_1:=λx v _=>VR B x v) (motive_2:=λxs vs _=>bK B xs vs) ua tZ jk .str vM (λa xs n vs e _ f=> .tup a xs n vs (h a _ e) f) mJ ct (λ_ _ a r=>i4 a r) r
theorem bK.mono {A B:AO}(h:A.le B){xs:List Value}{vs:List V}(r:bK A xs vs):bK B xs vs:=bK.ind (P:=bK B) ct (λa _ f=>i4 (a.mono h) f) r
theorem bK.length {A:AO}{xs:List Value}{vs:List V}(r:bK A xs vs):xs.length=vs.length:=bK.ind (P:=λxs vs=>xs.length=vs.length) rfl (λ_ _ f=>congrArg (·+1) f) r
theorem bK.get {A:AO}{xs:List Value}{vs:List V}(r:bK A xs vs):∀ {i:Nat}{v:V},vs[i]?=some v->∃x,xs[i]?=some x/\VR A x v:=by
 refine bK.ind (P:=λxs vs=>∀ {i:Nat}{v:V},vs[i]?=some v->∃x,xs[i]?=some x/\VR A x v) ?_ ?_ r
 .intro i v e;cases e
 .intro _ _ _ _ a r f;intro i v e;cases i with
  | zero=>cases e;exact ⟨_,rfl,a⟩
  | succ i=>exact f (i:=i) e
theorem bK.get' {A:AO}{xs:List Value}{vs:List V}(r:bK A xs vs):∀ {i:Nat}{x:Value},xs[i]?=some x->∃v,vs[i]?=some v/\VR A x v:=by
 refine bK.ind (P:=λxs vs=>∀ {i:Nat}{x:Value},xs[i]?=some x->∃v,vs[i]?=some v/\VR A x v) ?_ ?_ r
 .intro i v e;cases e
 .intro _ _ _ _ a r f;intro i v e;cases i with
  | zero=>cases e;exact ⟨_,rfl,a⟩
  | succ i=>exact f (i:=i) e
theorem bK.append {A:AO}{xs ys:List Value}{vs f:List V}(r:bK A xs vs) (q:bK A ys f):bK A (xs++ys) (vs++f):=bK.ind (P:=λxs vs=>bK A (xs++ys)<|vs++f) q (λa _ j=>i4 a j) r
theorem bK.take {A:AO}(n:Nat){xs:List Value}{vs:List V}(r:bK A xs vs):bK A (xs.take n) (vs.take n):=by
 refine bK.ind (P:=λxs vs=>∀ n:Nat,bK A (xs.take n)<|vs.take n) ?_ ?_ r n
 .intro n;rw [ziD,ziD];exact ct
 .intro _ _ _ _ a r f n;cases n with
  | zero=>exact ct
  | succ n=>exact i4 a<|f n
theorem bK.drop {A:AO}(n:Nat){xs:List Value}{vs:List V}(r:bK A xs vs):bK A (xs.drop n) (vs.drop n):=by
 refine bK.ind (P:=λxs vs=>∀ n:Nat,bK A (xs.drop n)<|vs.drop n) ?_ ?_ r n
 .intro n;rw [ziE,ziE];exact ct
 .intro _ _ _ _ a r f n;cases n with
  | zero=>exact i4 a r
  | succ n=>exact f n
theorem bK.set {A:AO}{x:Value}{v:V}(h:VR A x v) (n:Nat){xs:List Value}{vs:List V}(r:bK A xs vs):bK A (xs.set n x) (vs.set n v):=by
 refine bK.ind (P:=λxs vs=>∀ n:Nat,bK A (xs.set n x)<|vs.set n v) ?_ ?_ r n
 .intro n;exact ct
 .intro _ _ _ _ a r f n;cases n with
  | zero=>exact i4 h r
  | succ n=>exact i4 a<|f n
def attrName (i:Nat):Str:=uC.getD i ""
noncomputable def mx (P:nr) (Fz:AO):List lI->List (Nat×V)->Prop
 | [],f=>(match f with
  | []=>True
  | _::_=>False)
 | e::es,f=>(match f with
  | []=>False
  | p::f=>p.1<34/\(∃t,e.key= .str (attrName p.1) t)/\VR Fz e.val p.2/\mx P Fz es f)
inductive nH (Fz:AO):List (Str×Value)->List (List Nat×V)->Prop where
 | nil:nH Fz [] []
 | cons {k:List Nat}{x:Value}{v:V}{ks:List (Str×Value)}{kvs:List (List Nat×V)}:VR Fz x v->nH Fz ks kvs->nH Fz ((⟨k.toArray⟩,x)::ks) ((k,v)::kvs)
theorem nH.mono {A B:AO}(h:A.le B){f:List (Str×Value)}{kvs:List (List Nat×V)}(r:nH A f kvs):nH B f kvs:=by
 induction r with
 | nil=>exact .nil
 | cons a _ j=>exact .cons (a.mono h) j
def ma (prog:nt) (w:j8) (Fz:AO) (h:eY) (a:bn):MO->Prop
 | aO vs=>∃xs n,h.get? a=some (iS xs n)/\bK Fz xs.toList vs
 | .ro vs=>∃xs n,h.get? a=some (iS xs n)/\Fz a=some (iS xs n)/\bK Fz xs.toList vs
 | fG C d=>h.get? a=some {cls:=aL C,dict:=some d,data:= .plain}
 | bP j=>∃es n,h.get? a=some (Zw es n)/\mx w.params Fz es.toList j
 | gd kvs=>(a==sysModules)=false/\∃f,h.DictOf (strKind prog w) a f/\nH Fz f kvs
theorem mx.mono {P:nr}{A B:AO}(h:A.le B){es:List lI}:∀ {f:List (Nat×V)},mx P A es f->mx P B es f:=by
 induction es with
 | nil=>intro f r;exact r
 | cons e es j=>
  intro f r;cases f with
  | nil=>exact r
  | cons p f=>exact ⟨r.1,r.2.1,r.2.2.1.mono h,j r.2.2.2⟩
noncomputable def MO.K6:MO->Bool
 | .ro _=>true
 | _=>false
structure Gd where
 prog:nt
 w:j8
 h₀:eY
 Zx:vP
 K:iG
def dW:j8:=⟨λ_ _=>0,{strHash:=λ_=>0,shareClass:=λ_=>0,mergeTok:=λt=>t,idOf:=λ_=>0,idOfShared:=λ_ _=>0,followText:=λ_=>false,idOfImm:=λ_=>0}⟩
noncomputable def Eo:aR:={}
noncomputable def Ep:di:={}
def Er:Gd:=⟨bM,dW,bM,bM,[]⟩
noncomputable abbrev Gd.M (g:Gd):rD:=fO g.prog g.w
structure Gd.Ok (g:Gd):Prop where
 K:g.K.In g.h₀
 lim:g.h₀.NoLimit
 mg:∃mg,g.h₀.Ns eP mg
 low:∃a o,1<a/\g.h₀.get? a=some o
 mb:∃mb,g.h₀.Ns Hq mb/\∀ x:Str,x≠ "__name__" ->mb x=xL x
structure aQ (g:Gd) (Fz:AO) (T:TM) (H:Hp) (s:aR):Prop where
 old:∀ a o,g.h₀.get? a=some o->Fz a=some o
 iI:∀ a o,Fz a=some o->s.heap.get? a=some o
 cI:∀ a p,T a=some p->p.holds s.heap a
 gB:∀ a o,H a=some o->ma g.prog g.w Fz s.heap a o
 ft:∀ a p,T a=some p->Fz a=none
 hf:∀ a o,H a=some o->o.K6=false->Fz a=none
 ht:∀ a o p,H a=some o->T a≠some p
 gens:s.gens=#[]
 os:s.os=g.Zx
structure gL (Fz:AO) (T:TM) (H:Hp) (a:bn):Prop where
 f:Fz a=none
 t:T a=none
 h:H a=none
theorem ma.keep {prog:nt}{w:j8}{Fz j:AO}{h h':eY}{a:bn}{o:MO}(hz:Fz.le j) (l:∀ p,h.get? a=some p->h'.get? a=some p) (x:ma prog w Fz h a o):ma prog w j h' a o:=by
 cases o with
 | list vs=>obtain ⟨xs,n,e,r⟩:=x;exact ⟨xs,n,l _ e,r.mono hz⟩
 | ro vs=>obtain ⟨xs,n,e,f,r⟩:=x;exact ⟨xs,n,l _ e,hz _ _ f,r.mono hz⟩
 | inst C d=>exact l _ x
 | attrs u=>obtain ⟨es,n,e,r⟩:=x;exact ⟨es,n,l _ e,r.mono hz⟩
 | dict u=>obtain ⟨lo,v,e,r⟩:=x;obtain ⟨p,y,z⟩:=QM.mp e;exact ⟨lo,v,QM.mpr ⟨p,l _ y,z⟩,r.mono hz⟩
theorem ma.there {prog:nt}{w:j8}{Fz:AO}{h:eY}{a:bn}{o:MO}(x:ma prog w Fz h a o):∃j,h.get? a=some j:=by
 cases o with
 | list vs=>obtain ⟨xs,n,e,r⟩:=x;exact ⟨_,e⟩
 | ro vs=>obtain ⟨xs,n,e,f,r⟩:=x;exact ⟨_,e⟩
 | inst C d=>exact ⟨_,x⟩
 | attrs l=>obtain ⟨es,n,e,r⟩:=x;exact ⟨_,e⟩
 | dict l=>obtain ⟨lo,u,e,r⟩:=x;obtain ⟨j,p,v⟩:=QM.mp e;exact ⟨_,p⟩
theorem dX.there {h:eY}{a:bn}{p:dX}(x:p.holds h a):∃f,h.get? a=some f:=by
 cases p with
 | exact o=>exact ⟨_,x⟩
 | loose o=>obtain ⟨j,e⟩:=x;exact ⟨_,e⟩
 | pred P=>obtain ⟨o,e,_⟩:=x;exact ⟨_,e⟩
theorem dX.keep {h h':eY}{a:bn}{p:dX}(f:∀ j,h.get? a=some j->h'.get? a=some j) (x:p.holds h a):p.holds h' a:=by
 cases p with
 | exact o=>exact f _ x
 | loose o=>obtain ⟨l,e⟩:=x;exact ⟨l,f _ e⟩
 | pred P=>obtain ⟨o,e,q⟩:=x;exact ⟨o,f _ e,q⟩
section
variable {g:Gd}{Fz:AO}{T:TM}{H:Hp}{s:aR}
theorem A4 (I:aQ g Fz T H s){a:bn}(h:s.heap.get? a=none):gL Fz T H a:=by
 refine ⟨?_,?_,?_⟩
 .cases q:Fz a with
  | none=>rfl
  | some o=>rw [I.iI _ _ q] at h;cases h
 .cases q:T a with
  | none=>rfl
  | some p=>obtain ⟨f,e⟩:=dX.there<|I.cI _ _ q;rw [e] at h;cases h
 .cases q:H a with
  | none=>rfl
  | some p=>obtain ⟨f,e⟩:=ma.there<|I.gB _ _ q;rw [e] at h;cases h
theorem aQ.fresh (I:aQ g Fz T H s):gL Fz T H s.heap.objs.size:=A4 I<|zG<|dM _
theorem aQ.step (I:aQ g Fz T H s){h':eY}{tk:Nat}{dr:Drawn}(f:∀ b o,s.heap.get? b=some o->(Fz b≠none\/T b≠none\/H b≠none)->h'.get? b=some o):
  aQ g Fz T H {s with heap:=h',toks:=tk,drawn:=dr} where
 old:=I.old
 iI:=λa o e=>f a o (I.iI a o e) (ba<|by rw [e];intro q;cases q)
 cI:=λa p e=>dX.keep (λj q=>f a j q<|aX<|ba<|by rw [e];intro q;cases q)<|I.cI a p e
 gB:=λa o e=>ma.keep (AO.le.refl _) (λj q=>f a j q<|aX<|aX<|by rw [e];intro q;cases q)<|I.gB a o e
 ft:=I.ft
 hf:=I.hf
 ht:=I.ht
 gens:=I.gens
 os:=I.os
theorem aQ.grow (I:aQ g Fz T H s){h':eY}{tk:Nat}{dr:Drawn}(f:∀ b o,s.heap.get? b=some o->h'.get? b=some o):aQ g Fz T H {s with heap:=h',toks:=tk,drawn:=dr}:=
 I.step λb o e _=>f b o e
theorem aQ.tok (I:aQ g Fz T H s) (tk:Nat):aQ g Fz T H {s with toks:=tk}:=I.grow (h':=s.heap) (dr:=s.drawn) λ_ _ e=>e
theorem aQ.turn (I:aQ g Fz T H s){a:bn}{h':eY}{tk:Nat}(F:gL Fz T H a) (j:Hr a s.heap h'):aQ g Fz T H {s with heap:=h',toks:=tk}:=
 I.step (dr:=s.drawn) λb o e n=>j b o (by
  rintro rfl;rcases n with n | n | n
  .exact n F.f
  .exact n F.t
  .exact n F.h) e
theorem aQ.less (I:aQ g Fz T H s){f:Hp}(l:f.le H):aQ g Fz T f s where
 old:=I.old
 iI:=I.iI
 cI:=I.cI
 gB:=λa o e=>I.gB a o<|l a o e
 ft:=I.ft
 hf:=λa o e=>I.hf a o<|l a o e
 ht:=λa o p e=>I.ht a o p<|l a o e
 gens:=I.gens
 os:=I.os
theorem aQ.freeze (I:aQ g Fz T H s){a:bn}{o:d9}(F:gL Fz T H a) (e:s.heap.get? a=some o):aQ g (λb=>if b=a then some o else Fz b) T H s/\Fz.le (λb=>if b=a then some o else Fz b):=by
 have l:Fz.le (λb=>if b=a then some o else Fz b):=λb u q=>by
  show (if b=a then some o else Fz b)=some u;by_cases j:b=a
  .subst j;rw [F.f] at q;cases q
  .rw [if_neg j];exact q
 refine ⟨⟨λb u q=>l _ _<|I.old b u q,λb u q=>?_,I.cI,λb u q=>ma.keep l (λ_ z=>z)<|I.gB b u q,λb p q=>?_,λb u q r=>?_,I.ht,I.gens,I.os⟩,l⟩
 .by_cases j:b=a
  .subst j;simp only [if_true] at q;cases q;exact e
  .simp only [if_neg j] at q;exact I.iI _ _ q
 .have j:b≠a:=by rintro rfl;rw [F.t] at q;cases q
  simp only [if_neg j];exact I.ft _ _ q
 .have j:b≠a:=by rintro rfl;rw [F.h] at q;cases q
  simp only [if_neg j];exact I.hf _ _ q r
theorem aQ.put (I:aQ g Fz T H s){a:bn}{o:MO}{h':eY}{tk:Nat}(hf:Fz a=none) (ht:T a=none) (l:Hr a s.heap h') (u:ma g.prog g.w Fz h' a o) (v:o.K6=false):
  aQ g Fz T (aN H a o) {s with heap:=h',toks:=tk} where
 old:=I.old
 iI:=λb j e=>l b j (by rintro rfl;rw [hf] at e;cases e)<|I.iI b j e
 cI:=λb p e=>dX.keep (λj q=>l b j (by rintro rfl;rw [ht] at e;cases e) q)<|I.cI b p e
 gB:=λb j e=>by
  unfold aN at e;by_cases f:b=a
  .subst f;simp only [if_true] at e;cases e;exact u
  .simp only [if_neg f] at e;exact ma.keep (AO.le.refl _) (λo' q=>l b o' f q)<|I.gB b j e
 ft:=I.ft
 hf:=λb j e r=>by
  unfold aN at e;by_cases f:b=a
  .subst f;exact hf
  .simp only [if_neg f] at e;exact I.hf _ _ e r
 ht:=λb j p e=>by
  unfold aN at e;by_cases f:b=a
  .subst f;rw [ht];intro q;cases q
  .simp only [if_neg f] at e;exact I.ht _ _ _ e
 gens:=I.gens
 os:=I.os
theorem aQ.guard (I:aQ g Fz T H s){a:bn}{p:dX}(F:gL Fz T H a) (e:p.holds s.heap a):aQ g Fz (λb=>if b=a then some p else T b) H s where
 old:=I.old
 iI:=I.iI
 cI:=λb q z=>by
  by_cases j:b=a
  .subst j;simp only [if_true] at z;cases z;exact e
  .simp only [if_neg j] at z;exact I.cI _ _ z
 gB:=I.gB
 ft:=λb q z=>by
  by_cases j:b=a
  .subst j;exact F.f
  .simp only [if_neg j] at z;exact I.ft _ _ z
 hf:=I.hf
 ht:=λb l q z=>by
  have j:b≠a:=by rintro rfl;rw [F.h] at z;cases z
  simp only [if_neg j];exact I.ht _ _ _ z
 gens:=I.gens
 os:=I.os
end
inductive Zy (c:Ctx) (env:bH) (Fz:AO) (T:TM) (m:Loc):Prop
 | mk (oL:d9) (es:Array lI) (ep:Nat) (h1:T env.locals=some (fq oL)) (h2:oL.data=sx es ep) (h3:zH es) (h4:∀ x i v,c.sc.names.lookup x=some .local->c.loc.lookup x=some i->m[i]?=some (some v)->∃val,xM es x=some val/\VR Fz val v)
inductive Zz (env:bH) (Fz:AO) (T:TM) (x:Str) (o:Option (Option V)):Prop
 | mk (ca:bn) (co:d9) (ov:Option Value) (h1:env.cells.lookup x=some ca) (h2:T ca=some (fq co)) (h3:co.data=vF ov) (h4:∀ v,o=some (some v)->∃val,ov=some val/\VR Fz val v)
structure eI (c:Ctx) (env:bH) (Fz:AO) (T:TM) (m:Loc):Prop where
 kf:env.scope.kind=rt
 eg:env.globals=eP
 eb:env.builtins=Hq
 fr:env.frame≠none
 yA:∀ x k,c.sc.names.lookup x=some k->∃k',env.kindOf x=some k'/\(k'=k\/(k=lb/\k'=iY))
 inj:∀ x y i,c.loc.lookup x=some i->c.loc.lookup y=some i->x=y
 ns:Zy c env Fz T m
 cl:∀ x i,(c.sc.names.lookup x=some iY\/c.sc.names.lookup x=some lb)->c.loc.lookup x=some i->Zz env Fz T x m[i]?
 ci:∀ x y ca,(c.sc.names.lookup x=some iY\/c.sc.names.lookup x=some lb)->(c.sc.names.lookup y=some iY\/c.sc.names.lookup y=some lb)->env.cells.lookup x=some ca->env.cells.lookup y=some ca->x=y
 rd:("__debug__" :Str) ∉ c.sc.names.map (·.1)
 rc:("__classdict__" :Str) ∉ c.sc.names.map (·.1)
 lt:∀ x i,c.loc.lookup x=some i->i<c.next
 hi:∀ (j:Nat) (v:V),c.next<=j->m[j]?≠some (some v)
theorem eI.mono {c:Ctx}{env:bH}{Fz u:AO}{T:TM}{m:Loc}(F:eI c env Fz T m) (l:Fz.le u):eI c env u T m:=by
 obtain ⟨a,b,d,y,e,f,⟨I,es,ep,J,L,O,P⟩,h,i,j,k,lt,U⟩:=F;exact ⟨a,b,d,y,e,f,⟨I,es,ep,J,L,O,λx i v p q r=>(P x i v p q r).imp λ_ z=>⟨z.1,z.2.mono l⟩⟩,
  λx i p q=>let ⟨ca,W,Z,z1,z2,z3,z4⟩:=h x i p q;⟨ca,W,Z,z1,z2,z3,λv r=>(z4 v r).imp λ_ z=>⟨z.1,z.2.mono l⟩⟩,i,j,k,lt,U⟩
theorem Qs {f:Type}{l:List (Str×f)}{x:Str}{v:f}(e:l.lookup x=some v):x∈l.map (·.1):=by
 induction l with
 | nil=>cases e
 | cons p r j=>
  rw [j9] at e;cases q:(x==p.1) with
  | true=>rw [eF,beq_iff_eq.mp q];exact dh
  | false=>rw [q] at e;exact dz _<|j e
theorem eI.nd {c:Ctx}{env:bH}{Fz:AO}{T:TM}{m:Loc}(F:eI c env Fz T m){x:Str}{k:lX}(e:c.sc.names.lookup x=some k):(x==("__debug__" :Str))=false:=by
 rw [beq_eq_false_iff_ne];rintro rfl;exact F.rd<|Qs e
theorem eI.nc {c:Ctx}{env:bH}{Fz:AO}{T:TM}{m:Loc}(F:eI c env Fz T m){x:Str}{k:lX}(e:c.sc.names.lookup x=some k):(x==("__classdict__" :Str))=false:=by
 rw [beq_eq_false_iff_ne];rintro rfl;exact F.rc<|Qs e
structure Ar (A:di) (n:Nat) (FS:List bH):Prop where
 hd:A.handled=none
 dp:A.depth+4*n<900
 un:A.units+40*n<9000
 fr:A.frames=some FS
inductive ZA (T:TM) (env:bH):Prop
 | mk (h0:env.scope.kind≠ .module) (L:bn) (o:d9) (h1:env.frame=some L) (h2:T L=some (fq o)) (h3:∀ vs,o.data≠fj vs)
structure fS (g:Gd) (T:TM) (FS:List bH):Prop where
 all:∀ env∈FS,ZA T env
inductive bA (g:Gd) (Fz:AO) (T:TM) (Q:V->Hp->Prop) (x:Value) (s:aR):Prop
 | mk (fu:AO) (H':Hp) (v:V) (l:Fz.le fu) (I:aQ g fu T H' s) (r:VR fu x v) (q:Q v H')
inductive g4 (g:Gd) (Fz:AO) (T:TM) (Q:Bool->Hp->Prop) (b:Bool) (s:aR):Prop
 | mk (fu:AO) (H':Hp) (l:Fz.le fu) (I:aQ g fu T H' s) (q:Q b H')
inductive K7 (g:Gd) (Fz:AO) (T:TM) (Q:Hp->Prop) (s:aR):Prop
 | mk (fu:AO) (H':Hp) (l:Fz.le fu) (I:aQ g fu T H' s) (q:Q H')
inductive my (g:Gd) (Fz:AO) (T:TM) (Q:List V->Hp->Prop) (xs:List Value) (s:aR):Prop
 | mk (fu:AO) (H':Hp) (vs:List V) (l:Fz.le fu) (I:aQ g fu T H' s) (r:bK fu xs vs) (q:Q vs H')
theorem bA.up {g:Gd}{Fz f:AO}{T:TM}{Q:V->Hp->Prop}{x:Value}{s:aR}(l:Fz.le f) (p:bA g f T Q x s):bA g Fz T Q x s:=
 let ⟨j,H,v,a,b,c,d⟩:=p;⟨j,H,v,l.trans a,b,c,d⟩
theorem g4.up {g:Gd}{Fz f:AO}{T:TM}{Q:Bool->Hp->Prop}{x:Bool}{s:aR}(l:Fz.le f) (p:g4 g f T Q x s):g4 g Fz T Q x s:=
 let ⟨j,H,a,b,d⟩:=p;⟨j,H,l.trans a,b,d⟩
theorem my.up {g:Gd}{Fz f:AO}{T:TM}{Q:List V->Hp->Prop}{x:List Value}{s:aR}(l:Fz.le f) (p:my g f T Q x s):my g Fz T Q x s:=
 let ⟨j,H,v,a,b,c,d⟩:=p;⟨j,H,v,l.trans a,b,c,d⟩
theorem bA.at {g:Gd}{Fz:AO}{T:TM}{H:Hp}{Q:V->Hp->Prop}{x:Value}{v:V}{s:aR}(I:aQ g Fz T H s) (r:VR Fz x v) (q:Q v H):bA g Fz T Q x s:=⟨Fz,H,v, .refl _,I,r,q⟩
theorem g4.at {g:Gd}{Fz:AO}{T:TM}{H:Hp}{Q:Bool->Hp->Prop}{v:Bool}{s:aR}(I:aQ g Fz T H s) (q:Q v H):g4 g Fz T Q v s:=⟨Fz,H, .refl _,I,q⟩
inductive yB (g:Gd) (Fz:AO) (T:TM) (H:Hp) (s:aR) (e:Value) (v:V):Prop
 | mk (ea dx t tb:bn) (oT:d9) (ts:Array Value) (es:List lI) (k:Nat) (val:Value) (h1:e=aL ea) (h2:s.heap.get? ea=some {cls:=aL 94,dict:=some dx,data:=fj #[aL t,aL tb,bO,bO,jt false,bO]}) (h3:s.heap.get? dx=some (gY es k))
  (h4:zI "at" (gY es k)=some (some val)) (h5:VR Fz val v) (h6:gL Fz T H ea) (h7:gL Fz T H dx) (h8:ea≠dx) (h9:s.heap.get? tb=some oT) (ZB:oT.data=fj ts) (ZC:ts[3]?=some bO) (h12:gL Fz T H tb) (h13:tb≠ea) (h14:tb≠dx)
def bj (g:Gd) (n:Nat):bG:=λf vs H R X=>
 ∀ (A:di) (FS:List bH) (Fz:AO) (T:TM) (s:aR) (l:List Value),Ar A n FS->fS g T FS->aQ g Fz T H s->bK Fz l vs->
  rE g.M A (.call (aL f) ⟨l,[]⟩) (λr u=>∃j p,Fz.le j/\aQ g j T p u/\match r with
   | .ok (oQ x)=>∃v,VR j x v/\R v p
   | .ok _=>False
   | .error e=>∃v,yB g j T p u e v/\X v p) s
section
variable {g:Gd}{n:Nat}{c:Ctx}{A:di}{FS:List bH}{env:bH}{m:Loc}{Fz:AO}{T:TM}{H:Hp}{s:aR}{E:Value->aR->Prop}
theorem aQ.ns (I:aQ g Fz T H s) (F:eI c env Fz T m):∃j,s.heap.Ns env.locals j/\∀ x i v,c.sc.names.lookup x=some .local->c.loc.lookup x=some i->m[i]?=some (some v)->∃f,j x=some f/\VR Fz f v:=by
 obtain ⟨y,es,ep,l,p,r,u⟩:=F.ns;obtain ⟨z,e⟩:=I.cI _ _ l;exact ⟨xM es,⟨_,es,ep,e,p,r,λ_=>rfl⟩,u⟩
theorem ZD {x:Str}{i:Nat}{v:V}{Q:Value->aR->Prop}(I:aQ g Fz T H s) (F:eI c env Fz T m) (hs:pW c x=some i) (L:m[i]?=some (some v)) (h:∀ j,VR Fz j v->Q j s):
  wpAny g.M A (loadName env x) Q E s:=by
 unfold pW Ax at hs;cases l:c.sc.names.lookup x with
 | none=>rw [l] at hs;simp at hs
 | some k=>
  rw [l] at hs;obtain ⟨k',u,y⟩:=F.yA x k l;have f:(c.sc.names.lookup x=some iY\/c.sc.names.lookup x=some lb)->c.loc.lookup x=some i->(k'=iY\/k'=lb)->wpAny g.M A (loadName env x) Q E s:=by
   intro p q r;obtain ⟨ca,co,ov,O,U,P,W⟩:=F.cl x i p q;obtain ⟨j,rfl,J⟩:=W v L;obtain ⟨sl,e⟩:=I.cI _ _ U;rcases r with rfl | rfl
   .exact wpAny_loadName_cell F.kf u O ⟨_,e,P⟩<|h j J
   .exact wpAny_loadName_free F.kf u O ⟨_,e,P⟩ (h j J)<|F.nc l
  cases k with
  | «local» =>
   have Z:c.loc.lookup x=some i:=by simpa using hs
   obtain ⟨mm,hn,hm⟩:=I.ns F;obtain ⟨j,z,J⟩:=hm x i v l Z L;have:k'= .local:=y.elim id λe=>nomatch e.1;subst this;exact ziF F.kf u hn z<|h j J
  | cell=>
   exact f (ba l) (by simpa using hs) (y.elim ba λe=>nomatch e.1)
  | free=>
   exact f (aX l) (by simpa using hs)<|y.elim aX λe=>ba e.2
  | globalExplicit=>simp at hs
  | globalImplicit=>simp at hs
theorem yC {x:Str}{pos:b9}{i:Nat}{v:V}{Q:Value->aR->Prop}(I:aQ g Fz T H s) (F:eI c env Fz T m) (hs:pW c x=some i) (l:m[i]?=some (some v)) (h:∀ f,VR Fz f v->Q f s):
  wpAny g.M A (eval (cH x pos) env) Q E s:=by
 have p:(x==("__debug__" :Str))=false:=by
  unfold pW Ax at hs;cases j:c.sc.names.lookup x with
  | none=>rw [j] at hs;simp at hs
  | some k=>exact F.nd j
 exact wpAny_Name (ZD I F hs l h) p
theorem K8 {x:Str}(h:jT c x=true):c.sc.names.lookup x=some CB:=by
 unfold jT at h;split at h
 .assumption
 .cases h
theorem wB (G:g.Ok){x:Str}{pos:b9}{v:Value}{Q:Value->aR->Prop}(I:aQ g Fz T H s) (F:eI c env Fz T m) (y:jT c x=true) (e:gJ g.K eP x=some (some v)) (h:Q v s):
  wpAny g.M A (eval (cH x pos) env) Q E s:=by
 have r:=K8 y;obtain ⟨k',j,l⟩:=F.yA x _ r;have:k'=CB:=l.elim id λe=>nomatch e.1;subst this;obtain ⟨z,u⟩:=G.mg;have f:∀ b o,g.h₀.get? b=some o->s.heap.get? b=some o:=λb o e=>I.iI _ _<|I.old _ _ e;refine ziG F.kf j ?_<|F.nd r;have p:s.heap.Ns env.globals z:=F.eg▸u.keeps f;exact loadGlobal_global p (mg_of G.K u e) h
theorem yD (G:g.Ok){x:Str}{pos:b9}{v:Value}{Q:Value->aR->Prop}(I:aQ g Fz T H s) (F:eI c env Fz T m) (L:jT c x=true) (e:gJ g.K eP x=some none) (O:xL x=some v) (P:x≠ "__name__") (h:Q v s):
  wpAny g.M A (eval (cH x pos) env) Q E s:=by
 have z:=K8 L;obtain ⟨k',l,p⟩:=F.yA x _ z;have:k'=CB:=p.elim id λe=>nomatch e.1;subst this;obtain ⟨U,J⟩:=G.mg;obtain ⟨W,r,j⟩:=G.mb;have f:∀ b o,g.h₀.get? b=some o->s.heap.get? b=some o:=λb o e=>I.iI _ _<|I.old _ _ e;refine ziG F.kf l ?_<|F.nd z;have u:s.heap.Ns env.globals U:=F.eg▸J.keeps f;have y:s.heap.Ns env.builtins W:=F.eb▸r.keeps f;exact loadGlobal_builtin u (mg_none_of G.K J e) y ((j x P).trans O) h
theorem yE (I:aQ g Fz T H s){xs:List Value}{vs:List V}(r:bK Fz xs vs){Q:V->Hp->Prop}{tk:Nat}(h:iQ vs H Q):
  bA g Fz T Q (aL s.heap.objs.size) {s with heap:=s.heap.push<|iS xs.toArray 0,toks:=tk}:=by
 have F:=I.fresh;refine ⟨Fz,aN H s.heap.objs.size<|aO vs,aB s.heap.objs.size, .refl _,?_,mJ _,h.2 _ F.h⟩;refine I.put F.f F.t ((zJ _ _).push _) ⟨xs.toArray,0,sK _ rfl,by simpa using r⟩ rfl
set_option tactic.hygienic true in
theorem rT (I:aQ g Fz T H s){a:bn}{vs:List V}(e:be H a=some vs):∃xs k,s.heap.get? a=some (iS xs k)/\bK Fz xs.toList vs:=by
 unfold be at e;split at e
 .rename_i q;cases e;exact I.gB _ _ q
 .rename_i q;cases e;obtain ⟨xs,k,a,_,b⟩:=I.gB _ _ q;exact ⟨xs,k,a,b⟩
 .cases e
theorem jU (I:aQ g Fz T H s){a:bn}{vs:List V}(e:be H a=some vs):∃xs:Array Value,s.heap.IsList a xs/\bK Fz xs.toList vs/\xs.size=vs.length:=by
 refine g3 (rT I e) λxs k h r=>?_;exact ⟨xs,⟨_,h,rfl,k,rfl⟩,r,by rw [<-r.length];simp⟩
noncomputable def tq:qC->Ho
 | cU=> .Add | iZ=> .Sub | fV=> .Mult | nZ=> .FloorDiv | oR=> .Mod | lU=> .Pow
theorem VR.int_inv {Fz:AO}{x:Value}{i:Int}(r:VR Fz x (aw i)):∃t,x=eD i t:=by cases r;exact ⟨_,rfl⟩
theorem VR.bool_inv {Fz:AO}{x:Value}{i:Bool}(r:VR Fz x (aZ i)):x=jt i:=by cases r;rfl
theorem VR.none_inv {Fz:AO}{x:Value}(r:VR Fz x cz):x=bO:=by cases r;rfl
theorem VR.K9 {Fz:AO}{x:Value}{a:Nat}(r:VR Fz x (aB a)):x=aL a:=by cases r;rfl
theorem VR.str_inv {Fz:AO}{x:Value}{i:List Nat}(r:VR Fz x (.str i)):∃t,x= .str ⟨i.toArray⟩ t:=by cases r with | str s t=>exact ⟨t,by simp⟩
theorem VR.Es {Fz:AO}{x:Value}{i:List Nat}(r:VR Fz x (dw i)):∃b t,x=nY b t/\i=b.toList.map lg:=by cases r with | bytes b t=>exact ⟨b,t,rfl,rfl⟩
theorem VR.ofInt {Fz:AO}{x:Value}{b:V}{i:Int}(r:VR Fz x b) (h:vInt b=some i):∃t,x=eD i t:=VR.int_inv<|AU h▸r
theorem VR.ofStr {Fz:AO}{x:Value}{b:V}{i:List Nat}(r:VR Fz x b) (h:vStr b=some i):∃t,x= .str ⟨i.toArray⟩ t:=VR.str_inv<|AV h▸r
@[elab_as_elim] theorem VR.wC {Fz:AO}{motive:Value->Prop}{x:Value}{b:V}{i:Int}(r:VR Fz x b) (h:vInt b=some i) (k:∀ t,motive<|eD i t):motive x:=by obtain ⟨t,rfl⟩:=r.ofInt h;exact k t
@[elab_as_elim] theorem VR.nI {Fz:AO}{motive:Value->Prop}{x:Value}{b:V}{i:List Nat}(r:VR Fz x b) (h:vStr b=some i) (k:∀ t,motive<|.str ⟨i.toArray⟩ t):motive x:=by obtain ⟨t,rfl⟩:=r.ofStr h;exact k t
@[elab_as_elim] theorem VR.mQ {Fz:AO}{motive:Value->Prop}{x:Value}{i:Int}(r:VR Fz x (aw i)) (k:∀ t,motive<|eD i t):motive x:=by obtain ⟨t,rfl⟩:=r.int_inv;exact k t
@[elab_as_elim] theorem VR.rU {Fz:AO}{motive:Value->Prop}{x:Value}{i:List Nat}(r:VR Fz x (.str i)) (k:∀ t,motive<|.str ⟨i.toArray⟩ t):motive x:=by obtain ⟨t,rfl⟩:=r.str_inv;exact k t
@[elab_as_elim] theorem VR.nJ {Fz:AO}{motive:Value->Prop}{x:Value}{a:Nat}(r:VR Fz x (aB a)) (k:motive (aL a)):motive x:=by obtain rfl:=r.K9;exact k
@[elab_as_elim] theorem VR.Et {Fz:AO}{motive:Value->Prop}{x:Value}{a:Bool}(r:VR Fz x (aZ a)) (k:motive (jt a)):motive x:=by obtain rfl:=r.bool_inv;exact k
@[elab_as_elim] theorem VR.zkk {Fz:AO}{motive:Value->Prop}{x:Value}(r:VR Fz x cz) (k:motive bO):motive x:=by obtain rfl:=r.none_inv;exact k
theorem VR.ofBytes {Fz:AO}{x:Value}{v:V}{i:List Nat}(r:VR Fz x v) (h:uF v=some i):∃b t,x=nY b t/\i=b.toList.map lg:=VR.Es<|Zc h▸r
theorem VR.mR {Fz:AO}{x:Value}{b:V}{i:Nat}(r:VR Fz x b) (h:lM b=some i):x=aL i:=VR.K9<|J8 h▸r
theorem VR.ofBool {Fz:AO}{x:Value}{b:V}{i:Bool}(r:VR Fz x b) (h:vBool b=some i):x=jt i:=VR.bool_inv<|Zd h▸r
theorem VR.uP {Fz:AO}{x:Value}{b:V}(r:VR Fz x b) (h:mu b=true):x=bO:=VR.none_inv<|Ze h▸r
theorem VR.La {Fz:AO}(i:List Nat) (t:i7):VR Fz (.str ⟨i.toArray⟩ t) (.str i):=by
 have:=VR.str (Fz:=Fz) ⟨i.toArray⟩ t;simpa using this
theorem VR.strOf {Fz:AO}{i:List Nat}{x:Str}(e:x.cps.toList=i) (t:i7):VR Fz (.str x t) (.str i):=e▸VR.str x t
theorem ZE {a b:Int}(h:0<b):a.fdiv b=a / b:=Int.fdiv_eq_ediv_of_nonneg _<|qv h
theorem ZF {a b:Int}(h:0<b):a.fmod b=a % b:=Int.fmod_eq_emod_of_nonneg _<|qv h
theorem log2_small {b:Int}(f:0<b) (h:b<2 ^ 64):b.natAbs.log2<9000:=xN ((Nat.log2_lt<|Hs<|Int.natAbs_pos.mpr<|Ht f).mpr (rB.mp<|QK (QH<|ziy<|qv f) h)) (by decide)
theorem A5 {i:Int}{k:Nat}(h:i.natAbs<k):-(k:Int)<i/\i<k:=by exact V1 h
theorem Lb {a:Int}(h:a.natAbs<2 ^ 64):Builtin.Int.intBits a<=64:=intBits_le_64 (A5 h).1 (A5 h).2
theorem Lc (n:Nat) (l:List Nat):∀ f:Array Nat,((bY n l.toArray).foldl (·++·) f)=(f.toList++(bY n l).flatten).toArray:=by
 induction n with
 | zero=>intro f;simp
 | succ k j=>intro f;rw [pO,iH,j,pO];simp
theorem ZG (n:Nat) (l:List Value):∀ f:Array Value,((bY n l.toArray).foldl (·++·) f)=(f.toList++(bY n l).flatten).toArray:=by
 induction n with
 | zero=>intro f;simp
 | succ k j=>intro f;rw [pO,iH,j,pO];simp
theorem bK.rep {Fz:AO}{xs:List Value}{vs:List V}(r:bK Fz xs vs):∀ n:Nat,bK Fz (bY n xs).flatten (bY n vs).flatten
 | 0=>ct
 | n+1=>by rw [pO,pO,lj,lj];exact r.append<|bK.rep r n
theorem zim {l p:Nat}{xs ys:List V}{Q:V->Hp->Prop}(I:aQ g Fz T H s) (z:be H l=some xs) (J:be H p=some ys) (h:iQ (xs++ys) H Q):wpAny g.M A (xO (tq cU) (aL l)<|aL p) (bA g Fz T Q) E s:=by
 refine g3 (rT I z) λf L r u=>g3 (rT I J) λj O v y=>?_;have hz:(f++j).size<=pP:=by
  have:=h.1;rw [cC,<-u.length,<-y.length] at this;rw [jE];simpa using this
 refine concat_meets ⟨_,r,rfl⟩ ⟨_,v,rfl⟩ noFill_list_add seq_list_add PySem.F.slot_list_add PySem.F.entry_list_add (PySem.F.args_list_add_2 _ _) (list_addW _ _ f j L O none none #[] #[] (by simpa using hz)) ⟨r,v,?_⟩;have:=yE (tk:=s.toks) I (u.append y) h;have e:(f.toList++j.toList).toArray=f++j:=by simp
 rw [e] at this;exact this
set_option tactic.hygienic true in
theorem ZH {f:List Nat}{t u:i7}{nn:Int}{Q:V->Hp->Prop}(I:aQ g Fz T H s) (h:f.length*nn.toNat<=16777216/\0<=nn/\nn<=1048576/\Q (.str (bY nn.toNat f).flatten) H):wpAny g.M A (xO (tq fV) (.str ⟨f.toArray⟩ t)<|eD nn u) (bA g Fz T Q) E s:=by
 refine qK h λv y r l=>?_;by_cases j:nn<1
 .refine P.mul_str_none j (by exact V2 y)<|.at (I.tok _) (.strOf ?_ _) l;have:nn.toNat=0:=by exact V3 j
  rw [this];rfl
 .have p:(⟨f.toArray⟩:Str).length=f.length:=by simp [vQ]
  have F:f.length*1<=f.length*nn.toNat:=Nat.mul_le_mul_left _ (by exact V4 j);refine P.mul_str (by simp;exact V5 r j) (λ_ _=>?_) (λ_ _=>?_) ?_
  .rw [p];intro z;have:((2:Int) ^ 63-1) / nn≥16777216:=(Int.le_ediv_iff_mul_le<|by exact lc.mp ‹_›).mpr (by exact V6 r);lia
  .rw [p];simp only [Builtin.Str.tooLong,decide_eq_false_iff_not,jE];exact Nat.not_lt_of_le ‹_›
  .rw [if_neg j];split
   .rename_i q;rw [p] at q;refine .at I (.strOf ?_ _) l;simp only [zK,beq_iff_eq] at q;rcases q with q | q
    .subst q;simp
    .have:f=[]:=QN q;subst this;simp
   .refine ⟨?_, .at (I.tok _) (.strOf ?_ _) l⟩
    .rw [Lc];simp only [vQ,zL,CM,QO,Hu,ziH,jE];rw [QP];exact v
    .rw [Lc];simp
theorem ZI {b:Array UInt8}{t u:i7}{nn:Int}{Q:V->Hp->Prop}(I:aQ g Fz T H s) (h:b.toList.map lg≠[]/\(b.toList.map lg).length<=16/\0<=nn/\nn<=1048576/\Q (dw (bY nn.toNat<|b.toList.map lg).flatten) H):wpAny g.M A (xO (tq fV) (nY b t)<|eD nn u) (bA g Fz T Q) E s:=by
 refine D6 h λf j p r v=>?_;obtain ⟨l⟩:=b;refine bytes_mul_any (b:=l) (by rintro rfl;simp at f) (by exact V7 p) r (by simpa using j) λy k=> .at (I.tok _) ?_ v;have e:(bY nn.toNat<|QQ lg ({toList:=l}:Array UInt8).toList).flatten=QQ lg (bY nn.toNat l).flatten.toArray.toList:=by simp [List.map_flatten]
 rw [e];exact vM _ _
theorem ZJ {l:Nat}{u:i7}{nn:Int}{xs:List V}{Q:V->Hp->Prop}(I:aQ g Fz T H s) (O:be H l=some xs) (h:0<=nn/\nn<2 ^ 62/\iQ (bY nn.toNat xs).flatten H Q):wpAny g.M A (xO (tq fV) (aL l)<|eD nn u) (bA g Fz T Q) E s:=by
 refine g3 (rT I O) λj z p J=>iw h λr P L=>?_;have W:xs.length=j.size:=by rw [<-J.length];simp
 have hz:j.size*nn.toNat<=2 ^ 24:=by
  have:=L.1;simp only [QO,Hu,ziH] at this;rw [<-W,QP];exact this
 refine wpAny_binaryOp_repeat_ref (T:= "list") (U:= "int") (by decide) ⟨_,p,rfl⟩ (λZ=>typeIs_int Z nn u) noFill_list_mul F.fills_int_mul ziI repeat_list F.slot_int_index.lookup
  (zM ziI (typeIs_int s nn u) F.entry_int_rmul (F.args_int_rmul_2 _ _) (int___rmul___int_list nn u _ j z)
   ⟨p,rfl,⟨_,p,rfl⟩,zM F.slot_list_mul ⟨_,p,rfl⟩ F.entry_list_mul (F.args_list_mul_2 _ _)
    (AutoListH.list___mul___list_int_3 _ j z nn u (by simp [zkr];exact V8 r P) (by exact V9 hz) (by simp [QR,pP];assumption)) ⟨p,?_⟩⟩)
 have:=yE (tk:=s.toks) I (J.rep nn.toNat) L;have e:(bY nn.toNat j.toList).flatten.toArray=List.foldl (λv y=>v++y) #[] (bY (if j.isEmpty=true then 0 else nn.toNat) j):=by
  have f:=ZG (if j.isEmpty=true then 0 else nn.toNat) j.toList #[];rw [show j.toList.toArray=j from by simp] at f;rw [show (λv y=>v++y:Array Value->Array Value->Array Value)=(·++·) from rfl,f];by_cases q:j.isEmpty=true
  .have:j=#[]:=by simpa using q
   subst this;simp
  .rw [if_neg q];simp
 rw [e] at this;exact this
theorem yF {x y:Value}{a b:V}{p:Int×Int}(f:VR Fz x a) (j:VR Fz y b) (h:pe a b=some p):∃t u,x=eD p.1 t/\y=eD p.2 u:=by
 obtain ⟨l,r⟩:=Eb h;obtain ⟨t,v⟩:=(l▸f).int_inv;obtain ⟨u,z⟩:=(r▸j).int_inv;exact ⟨t,u,v,z⟩
theorem ZK {x y:Value}{a b:V}{Q:V->Hp->Prop}(I:aQ g Fz T H s) (f:VR Fz x a) (j:VR Fz y b) (h:JS a b H Q):wpAny g.M A (xO (tq cU) x y) (bA g Fz T Q) E s:=by
 refine pY h (λp l h=>?_) λh=>?_
 .refine g3 (yF f j l) λt u r v=>?_;subst r;subst v;exact add_int<|.at (I.tok _) (jk _ _) h
 refine pY h (λO l h=>?_) λh=>?_
 .refine dj h λP z h=>?_;obtain ⟨t,rfl⟩:=f.ofStr l;obtain ⟨u,rfl⟩:=j.ofStr z;refine zks (λU tk=> .at (I.tok _) (.strOf ?_ _) h.2) (by rw [jE];simpa [vQ] using h.1);show ((_:Array Nat)++_).toList=_;simp
 refine dj h λW z h=>dj h λZ F h=>dj h λxs J h=>dj h λys L h=>?_;rw [f.mR z,j.mR F];exact zim I J L h
theorem ZL {x:Value}{a:V}{nn:Int}{u:i7}{Q:V->Hp->Prop}(I:aQ g Fz T H s) (j:VR Fz x a) (h:JT a nn H Q):wpAny g.M A (xO (tq fV) x<|eD nn u) (bA g Fz T Q) E s:=by
 refine pY h (λp f h=>?_) λh=>?_
 .obtain ⟨t,rfl⟩:=j.ofInt f;exact mul_int (.at (I.tok _) (jk _ _) h.2)<|h.1.elim (λz=> .of_left<|Lb z) λz=> .of_right<|Lb z
 refine pY h (λF f h=>?_) λh=>?_
 .obtain ⟨t,rfl⟩:=j.ofStr f;exact ZH I h
 refine pY h (λJ f h=>?_) λh=>?_
 .refine g3 (j.ofBytes f) λb t l r=>?_;subst l;subst r;exact ZI I h
 refine dj h λL v h=>dj h λxs y h=>?_;rw [j.mR v];exact ZJ I y h
theorem ZM {v:qC}{x y:Value}{a b:V}{Q:V->Hp->Prop}(I:aQ g Fz T H s) (l:VR Fz x a) (r:VR Fz y b) (h:lu v a b H Q):
  wpAny g.M A (xO (tq v) x y) (bA g Fz T Q) E s:=by
 cases v with
 | add=>exact ZK I l r h
 | mul=>
  refine dj h λnn q h=>?_;obtain ⟨u,rfl⟩:=r.ofInt q;exact ZL I l h
 | sub=>
  refine dj h λp q h=>g3 (yF l r q) λt u f j=>?_;subst f;subst j;exact zkt<|.at (I.tok _) (jk _ _) h
 | fdiv=>
  refine dj h λp q h=>g3 (yF l r q) λt u f j=>?_;subst f;subst j;refine floordiv_int (Ht h.1) (.at (I.tok _) (jk _ _) ?_)<|ba<|PyProof.noPylong_of_log2<|log2_small h.1 h.2.1;rw [ZE h.1];exact h.2.2
 | mod=>
  refine dj h λp q h=>g3 (yF l r q) λt u f j=>?_;subst f;subst j;refine mod_int' (Ht h.1)<|.at (I.tok _) (jk _ _) ?_;rw [ZF h.1];exact h.2
 | pow=>
  refine dj h λp q h=>g3 (yF l r q) λt u f j=>?_;subst f;subst j;rw [h.1];exact pow_int_small h.2.1 h.2.2.1 (by decide)<|.at (I.tok _) (jk _ _) h.2.2.2
noncomputable def Ld:o6->lh
 | cG=> .Eq | eW=> .NotEq | jO=> .Lt | mI=> .LtE | gI=> .Gt | .ge=> .GtE | dU=> .In | kC=>tW | .isNone=> .Is | vJ=> .IsNot
theorem Ar.cl {A:di}{n:Nat}{FS:List bH}(R:Ar A n FS):A.units<cLine:=by
 have:=R.un;unfold cLine;exact Wf this
theorem strs_cons {v:V}{r:List V}{ss:List (List Nat)}(h:kD (v::r)=some ss):∃l t,v= .str l/\kD r=some t/\ss=l::t:=by
 cases v with
 | str l=>
  exact ot ((show (kD r).map _=some ss from h)) λt f=>⟨l,t,rfl,f,rfl⟩
 | _=>cases h
theorem ints_cons {v:V}{r:List V}{ss:List Int}(h:j6 (v::r)=some ss):∃l t,v=aw l/\j6 r=some t/\ss=l::t:=by
 cases v with
 | int l=>
  exact ot ((show (j6 r).map _=some ss from h)) λt f=>⟨l,t,rfl,f,rfl⟩
 | _=>cases h
theorem uQ {Fz:AO}{xs:List Value}{vs:List V}{ss:List (List Nat)}(r:bK Fz xs vs):kD vs=some ss->xP xs (ss.map λl=>⟨l.toArray⟩):=by
 refine bK.ind (P:=λxs vs=>∀ {ss:List (List Nat)},kD vs=some ss->xP xs (ss.map λl=>⟨l.toArray⟩)) ?_ ?_ r
 .intro ss e;cases e;exact .nil
 .intro _ _ _ _ a r p ss e;refine mv (strs_cons e) λl t f h j=>?_;subst f;subst j;exact a.rU λt=> .cons _ _<|p h
theorem uR {Fz:AO}{xs:List Value}{vs:List V}{ss:List Int}(r:bK Fz xs vs):j6 vs=some ss->IntsAre xs ss:=by
 refine bK.ind (P:=λxs vs=>∀ {ss:List Int},j6 vs=some ss->IntsAre xs ss) ?_ ?_ r
 .intro ss e;cases e;exact .nil
 .intro _ _ _ _ a r p ss e;refine mv (ints_cons e) λl t f h j=>?_;subst f;subst j;exact a.mQ λt=> .cons _ _<|p h
theorem Eu (s:List Nat):∀ ss:List (List Nat),(ss.map λl=>(⟨l.toArray⟩:Str)).any (·==⟨s.toArray⟩)=ss.any (·==s)
 | []=>rfl
 | x::r=>by
  rw [eF,lY,lY,Eu s r];congr 1
  rw [vR,beq_iff_eq,beq_iff_eq];constructor
  .intro h;have:=congrArg (λy:Str=>y.cps.toList) h;simpa using this
  .rintro rfl;rfl
theorem VR.tu {Fz:AO}{x:Value}{vs:List V}(r:VR Fz x (d8 vs)):∃a xs k,x=aL a/\Fz a=some (pp xs.toArray k)/\bK Fz xs vs:=by cases r with | tup a xs n vs e q=>exact ⟨a,xs,n,rfl,e,q⟩
theorem aQ.Le (I:aQ g Fz T H s){a:bn}{xs:List Value}{k:Nat}(e:Fz a=some (pp xs.toArray k)):IsTup s.heap a xs.toArray:=⟨_,I.iI _ _ e,rfl,k,rfl⟩
theorem aQ.ou (I:aQ g Fz T H s){a:bn}{xs:List Value}{k:Nat}(e:Fz a=some (pp xs.toArray k)):s.heap.IsTuple a xs.toArray:=⟨_,I.iI _ _ e,rfl,k,rfl⟩
theorem Lf (a b:List Nat):((⟨a.toArray⟩:Str)==⟨b.toArray⟩)=decide (a=b):=by
 rw [vR,beq_iff_eq,decide_eq_true_eq];constructor
 .intro h;have:=congrArg (λy:Str=>y.cps.toList) h;simpa using this
 .rintro rfl;rfl
theorem ZN (a b:List UInt8):(a==b)=decide (a.map lg=b.map lg):=by
 rw [vR,beq_iff_eq,decide_eq_true_eq];constructor
 .rintro rfl;rfl
 .intro h;have f:∀ (a b:List UInt8),a.map lg=b.map lg->a=b:=by
   intro a;induction a with
   | nil=>intro b h;cases b with | nil=>rfl | cons _ _=>cases h
   | cons x r j=>
    intro b h;cases b with
    | nil=>cases h
    | cons y t=>
     simp only [eF,Hv] at h;rw [UInt8.toNat_inj.mp h.1,j t h.2]
  exact f a b h
theorem Lg {A:di}{s:aR}{a b:Int}{t u:i7}:QS A s (eD a t) (eD b u) (a==b):=QS.int_int a t b u
theorem A6 {f:Type} [BEq f] [LawfulBEq f] [DecidableEq f] (a b:f):decide (a=b)=(a==b):=by rw [vR,beq_iff_eq,decide_eq_true_eq]
def qM (A:di) (s:aR) (x y:Value) (r:Bool):Prop:=SeqAt.RcAt A s x y r/\SeqAt.RcNeAt A s x y (!r)
theorem ZO {n:Nat}(R:Ar A n FS){p q p' f:Int}{r u v y:i7}{a1 a2:bn}{k k2:Nat}(I:aQ g Fz T H s) (F:Fz a1=some (pp [oX p r,eD q u].toArray k)) (J:Fz a2=some (pp [oX p' v,eD f y].toArray k2)):qM A s (aL a1) (aL a2) (decide (p=p'/\q=f)):=by
 have L:∀ (A:di) (j:Nat) (l:j< #[oX p r,eD q u].size) (z:j< #[oX p' v,eD f y].size),QS A s #[oX p r,eD q u][j] #[oX p' v,eD f y][j] (if j=0 then p==p' else q==f):=by
  intro A j l z;cases j with
  | zero=>exact Lg
  | succ j=>cases j with
   | zero=>exact Lg
   | succ j=>exact absurd l (by show ¬j+2<2;contradiction)
 have k1:=SeqAt.RcAt.tuples (I.ou F) (I.ou J) R.cl λj l z=>L A.in1 j l z;have k3:=zku (I.ou F) (I.ou J) R.cl λj l z=>L A.in1 j l z;have e:((j7<|min #[oX p r,eD q u].size #[oX p' v,eD f y].size).all (λj=>if j=0 then p==p' else q==f) && #[oX p r,eD q u].size==#[oX p' v,eD f y].size)=decide (p=p'/\q=f):=by
  show (((p==p') && ((q==f) && true)) && true)=_;rw [sL,sL,Bool.decide_and,A6,A6]
 rw [e] at k1 k3;exact ⟨k1,k3⟩
theorem Lh {xs:List Value}{p:Int×Int}(r:bK Fz xs [aw p.1,aw p.2]):∃t u,xs=[eD p.1 t,eD p.2 u]:=by
 cases r with | cons a r=>cases r with | cons b r=>
 cases r;exact a.mQ λt=>b.mQ λu=>⟨t,u,rfl⟩
theorem Li {vs:List V}(h:D4 vs=true):vs=[]:=by
 cases vs with
 | nil=>rfl
 | cons _ _=>cases h
theorem ZP {n:Nat}(R:Ar A n FS){L O:bn}{xs ys:List V}(I:aQ g Fz T H s) (U:be H L=some xs) (W:be H O=some ys) (u:ys=[]):qM A s (aL L) (aL O) xs.isEmpty:=by
 refine fX (jU I U) λy f r1 P=>fX (jU I W) λz l r2 Z=>?_;have J:z.size=0:=by rw [Z,u];rfl
 cases xs with
 | nil=>
  have F:y.size=0:=P;have u:∀ (A:di) (j:Nat) (f:j<y.size) (l:j<z.size),QS A s y[j] z[j] true:=λA j f _=>absurd f (by rw [F];exact QT j);have k1:=SeqAt.RcAt.lists f l (F.trans J.symm) R.cl (e:=λ_=>true) λj f l=>u A.in1 j f l;have k2:=zkv f l (F.trans J.symm) R.cl (e:=λ_=>true) λj f l=>u A.in1 j f l;rw [F] at k1 k2;exact ⟨k1,k2⟩
 | cons v r=>
  have p:(y.size !=z.size)=true:=by rw [J,P];exact bne_iff_ne.mpr<|Nat.succ_ne_zero _
  exact ⟨.lists_lengths f l p R.cl, .lists_lengths f l p R.cl⟩
theorem ZQ {n:Nat}(R:Ar A n FS){x y:Value}{b:V}{v:List V}{r:Bool}(I:aQ g Fz T H s) (F:VR Fz x (d8 v)) (z:VR Fz y b) (h:(match mu b with
  | true=>some false
  | false=>(rM b).bind λvs=>(yr v).bind λp=>(yr vs).map λq=>decide (p.1=q.1/\p.2=q.2))=some r):qM A s x y r:=by
 refine pZ F.tu λa1 xs k f u J=>?_;subst f;cases l:mu b with
 | true=>
  rw [l] at h;cases h;rw [z.uP l];exact ⟨SeqAt.RcAt.tuple_none (I.ou u) R.cl,zkw (I.ou u) R.cl⟩
 | false=>
  rw [l] at h;refine kM h λvs l h=>kM h λp L h=>ot h λq O=>pZ ((wz l▸z).tu) λa2 ys k2 f P U=>?_;subst f;refine AS (Lh<|J9 L▸J) λW Z j=>?_;subst j;refine AS (Lh<|J9 O▸U) λt3 t4 j=>?_;subst j;exact ZO R I u P
theorem ZR {n:Nat}(R:Ar A n FS){y:Value}{b:V}{r:Bool}(I:aQ g Fz T H s) (l:VR Fz y b) (h:(match mu b with
  | true=>some true
  | false=>(rM b).map λ_=>false)=some r):qM A s bO y r:=by
 cases f:mu b with
 | true=>
  rw [f] at h;cases h;rw [l.uP f];exact ⟨SeqAt.RcAt.none_none,zkx⟩
 | false=>
  rw [f] at h;refine ot h λvs u=>pZ ((wz u▸l).tu) λa1 xs k j p v=>?_;subst j;exact ⟨SeqAt.RcAt.none_tuple (I.ou p) R.cl,zky (I.ou p) R.cl⟩
theorem ZS {n:Nat}(R:Ar A n FS){x y:Value}{a b:V}{r:Bool}(I:aQ g Fz T H s) (f:VR Fz x a) (j:VR Fz y b) (h:JU a b=some r):qM A s x y r:=by
 obtain ⟨l,h⟩:=AX h;rw [f.uP l];exact ZR R I j h
theorem ZT {n:Nat}(R:Ar A n FS){x y:Value}{a b:V}{r:Bool}(I:aQ g Fz T H s) (f:VR Fz x a) (j:VR Fz y b) (h:JV H a b=some r):qM A s x y r:=by
 refine rQ h (λJ l h=>?_) λh=>ZS R I f j h;refine kM h λL p h=>kM h λxs u h=>kM h λys v h=>?_;obtain ⟨z,F⟩:=AX h;cases F;rw [f.mR l,j.mR p];exact ZP R I u v<|Li z
theorem ZU {n:Nat}(R:Ar A n FS){x y:Value}{a b:V}{r:Bool}(I:aQ g Fz T H s) (l:VR Fz x a) (v:VR Fz y b) (h:JW H a b=some r):qM A s x y r:=by
 refine rQ h (λp z h=>?_) λh=>rQ h (λJ z h=>ZQ R I (wz z▸l) v h) λh=>ZT R I l v h;refine ot h λp' F=>g3 (l.ofBytes z) λp t f j=>?_;subst f;subst j;refine g3 (v.ofBytes F) λp' u f j=>?_;subst f;subst j;rw [<-ZN];exact ⟨λprog w E Q h=>eq_bytes h,λprog w E Q h=>ne_bytes h⟩
theorem ZV {n:Nat}(R:Ar A n FS){x y:Value}{a b:V}{r:Bool}(I:aQ g Fz T H s) (f:VR Fz x a) (j:VR Fz y b) (h:JX H a b=some r):qM A s x y r:=by
 refine rQ h (λp l h=>?_) λh=>ZU R I f j h;refine ot h λp' u=>?_;rw [f.ofBool l,j.ofBool u,A6];exact ⟨SeqAt.RcAt.bool_bool _ _,zkz _ _⟩
theorem ZW {n:Nat}(R:Ar A n FS){x y:Value}{a b:V}{r:Bool}(I:aQ g Fz T H s) (f:VR Fz x a) (j:VR Fz y b) (h:JY H a b=some r):qM A s x y r:=by
 refine rQ h (λp l h=>?_) λh=>ZV R I f j h;refine ot h λp' v=>f.nI l λt=>j.nI v λu=>?_;rw [<-Lf];exact ⟨SeqAt.RcAt.str_str _ _ _ _,zkA _ _ _ _⟩
theorem Lj {n:Nat}(R:Ar A n FS){x y:Value}{a b:V}{r:Bool}(I:aQ g Fz T H s) (f:VR Fz x a) (j:VR Fz y b) (h:AP H a b=some r):qM A s x y r:=by
 refine rQ h (λp l h=>?_) λh=>ZW R I f j h;refine ot h λp' v=>f.wC l λt=>j.wC v λu=>?_;rw [A6];exact ⟨SeqAt.RcAt.int_int _ _ _ _,zkB _ _ _ _⟩
def Ev (g:Gd) (Fz:AO) (T:TM) (H:Hp) (Q:Bool->Prop) (x:Value) (s:aR):Prop:=∃r,x=jt r/\aQ g Fz T H s/\Q r
theorem VR.A7 {Fz:AO}{x:Value}{a:V}(r:VR Fz x a) (h:mu a=false):plainIs x bO=true/\x≠bO:=by
 cases r with
 | none=>cases h
 | _=>exact ⟨rfl,λe=>Value.noConfusion e⟩
def wD (g:Gd) (A:di) (E:Value->aR->Prop) (s:aR) (f:lh) (x y:Value) (r:Bool):Prop:=∀ Q:Value->aR->Prop,Q (jt r) s->wpAny g.M A (QU f x y) Q E s
theorem Lk {a:V}{vs:List V}{r:Bool}(h:wx a vs=some r):(∃l ss,a= .str l/\kD vs=some ss/\r=ss.any (·==l))\/∃n f,a=aw n/\j6 vs=some f/\r=f.any (·==n):=by
 cases a with
 | str l=>
  exact ot ((show (kD vs).map _=some r from h)) λss e=>ba ⟨l,ss,rfl,e,rfl⟩
 | int n=>
  exact ot ((show (j6 vs).map _=some r from h)) λss e=>aX ⟨n,ss,rfl,e,rfl⟩
 | _=>cases h
theorem ZX {x:Value}{a:V}{vs:List V}{r:Bool}{xs:List Value}{t:bn}(p:VR Fz x a) (h:wx a vs=some r) (f:bK Fz xs vs) (j:IsTup s.heap t xs.toArray):wD g A E s .In x (aL t) r/\wD g A E s tW x (aL t) (!r):=by
 rcases Lk h with ⟨l,ss,rfl,e,rfl⟩ | ⟨n,v,rfl,e,rfl⟩
 .refine p.rU λu=>?_;rw [<-Eu];exact ⟨λQ q=>in_tuple_strs j (uQ (by simpa using f) e) q,λQ q=>notin_tuple_strs j (uQ (by simpa using f) e) q⟩
 .exact p.mQ λu=>⟨λQ q=>in_tuple_ints j (uR (by simpa using f) e) q,λQ q=>notin_tuple_ints j (uR (by simpa using f) e) q⟩
theorem ZY {x:Value}{a:V}{vs:List V}{r:Bool}{xs:Array Value}{t:bn}(p:VR Fz x a) (h:wx a vs=some r) (f:bK Fz xs.toList vs) (j:s.heap.IsList t xs):wD g A E s .In x (aL t) r/\wD g A E s tW x (aL t) (!r):=by
 rcases Lk h with ⟨l,ss,rfl,e,rfl⟩ | ⟨n,v,rfl,e,rfl⟩
 .refine p.rU λu=>?_;rw [<-Eu];exact ⟨λQ q=>in_list_strs j (uQ f e) q,λQ q=>notin_list_strs j (uQ f e) q⟩
 .exact p.mQ λu=>⟨λQ q=>in_list_ints j (uR f e) q,λQ q=>notin_list_ints j (uR f e) q⟩
theorem Ll {x y:Value}{a b:V}{r:Bool}(I:aQ g Fz T H s) (f:VR Fz x a) (j:VR Fz y b) (h:AQ H a b=some r):wD g A E s .In x y r/\wD g A E s tW x y (!r):=by
 refine rQ h (λvs p h=>?_) λh=>?_
 .refine pZ ((wz p▸j).tu) λa1 xs k v z F=>?_;subst v;exact ZX f h F<|I.Le z
 refine rQ h (λZ p h=>?_) λh=>?_
 .refine kM h λvs z h=>fX (jU I z) λax P F z1=>?_;rw [j.mR p];exact ZY f h F P
 refine kM h λJ U h=>kM h λl O h=>ot h λL W=>j.nI U λu=>?_;rw [Ea W] at O;refine f.nI O λt=>?_;have e:=StrLaws.found_one ⟨J.toArray⟩ L;rw [show decide (L∈(⟨J.toArray⟩:Str).cps.toList)=J.contains L by simp] at e;rw [<-e];exact ⟨λQ q=>zkC q,λQ q=>zkD q⟩
theorem ZZ (a b:Nat):(!decide (([b]:List Nat)< [a]))=decide (a<=b):=by
 rw [vR];simp only [zN,decide_eq_false_iff_not,decide_eq_true_eq];constructor
 .intro h;apply Nat.le_of_not_lt;exact λq=>h<|List.Lex.rel q
 .intro h q;cases q with
  | rel f=>exact absurd f<|qw.mpr h
  | cons f=>cases f
theorem Z0 {n:Nat}(R:Ar A n FS){O:o6}{x y:Value}{a b:V}{Q:Bool->Prop}(I:aQ g Fz T H s) (l:VR Fz x a) (J:VR Fz y b) (h:gq O a b H Q):
  wpAny g.M A (QU (Ld O) x y) (Ev g Fz T H Q) E s:=by
 refine bZ (Zf h) λr e h=>?_;have j:Ev g Fz T H Q (jt r) s:=⟨r,rfl,I,h⟩;clear h;have lt:∀ {f:Int×Int->Bool},(pe a b).map f=some r->∃p t u,x=eD p.1 t/\y=eD p.2 u/\r=f p:=λ{f} e=>by
  refine ot e λp e1=>?_;obtain ⟨a1,b1⟩:=Eb e1;exact (a1▸l).mQ λt=>(b1▸J).mQ λu=>⟨p,t,u,rfl,rfl,rfl⟩
 cases O with
 | eq=>exact (Lj R I l J e).1 _ _ _ _ j
 | ne=>
  obtain ⟨r,U,rfl⟩:=kT.mp e;exact (Lj R I l J U).2 _ _ _ _ j
 | lt=>
  refine pZ (lt e) λp t u v z F=>?_;subst v;subst z;subst F;exact lt_int j
 | le=>
  refine rQ e (λp q1 e=>?_) λe=>?_
  .obtain ⟨q,L,rfl⟩:=kT.mp e;exact l.wC q1 λt=>J.wC L λu=>zkE j
  refine kM e λl1 L e=>kM e λl2 q3 e=>kM e λp q4 e=>?_;obtain ⟨q,q5,rfl⟩:=kT.mp e;rw [Ea q4] at L;rw [Ea q5] at q3;refine l.nI L λt=>J.nI q3 λu=>?_;rw [<-ZZ] at j;exact P.le_str j
 | gt=>
  refine pZ (lt e) λp t u v z F=>?_;subst v;subst z;subst F;exact gt_int j
 | ge=>
  refine pZ (lt e) λp t u v z F=>?_;subst v;subst z;subst F;exact zkF j
 | isNone=>
  obtain ⟨W,Z⟩:=AX e;obtain rfl:=J.uP W;cases Z;cases q:mu a with
  | true=>
   obtain rfl:=l.uP q;rw [q] at j;exact wpAny_is_self rfl j
  | false=>
   rw [q] at j;exact wpAny_is_other (l.A7 q).1 (l.A7 q).2 j
 | isNotNone=>
  obtain ⟨W,Z⟩:=AX e;obtain rfl:=J.uP W;cases Z;cases q:mu a with
  | true=>
   obtain rfl:=l.uP q;rw [q] at j;exact wpAny_isNot_self rfl j
  | false=>
   rw [q] at j;exact wpAny_isNot_other (l.A7 q).1 (l.A7 q).2 j
 | DH=>exact (Ll I l J e).1 _ j
 | DI=>
  obtain ⟨r,U,rfl⟩:=kT.mp e;exact (Ll I l J U).2 _ j
end
set_option tactic.hygienic true in
theorem Lm {r:Type}{l:List r}{i:Int}{x:r}(h:eR l i=some x):∃j,QV i l.length=some j/\l[j]?=some x:=by
 unfold eR at h;split at h
 .rename_i v;have u:=(ug.mp h).1;refine ⟨i.toNat,?_,h⟩;have f:¬i<0:=by exact lc.mpr ‹_›
  have p:(decide (0<=i) && decide (i<(l.length:Int)))=true:=by simp only [fN,decide_eq_true_eq];exact Wg u f
  simp only [QV,f,if_false,p,if_true]
 .rename_i v;split at h
  .rename_i y;have u:=(ug.mp h).1;refine ⟨_,?_,h⟩;have f:i<0:=by exact rC.mp ‹_›
   have p:(decide (0<=i+(l.length:Int)) && decide (i+(l.length:Int)<(l.length:Int)))=true:=by simp only [fN,decide_eq_true_eq];exact Wh y f
   simp only [QV,f,if_true,p]
  .cases h
theorem Z1 (x:Int):(max 0 x).toNat=x.toNat:=by
 rcases zz 0 x with h | h
 .rw [zB h]
 .rw [zA h,ziw h];rfl
set_option tactic.hygienic true in
theorem Ln (n:Nat) (i:Int):yo n i=oY n i:=by
 unfold oY;rw [Z1];unfold yo;split
 .rename_i q;rw [zC<|by exact Wi q]
 .rename_i q;obtain ⟨p,rfl⟩:=xQ<|lc.mp q;rcases Hm p n with h | h
  .rw [zC<|nq.mpr h];exact zD h
  .rw [CI<|nq.mpr h];exact QE h
theorem Z2 (n:Nat) (i:Option Int):uD n i=i.elim 0 (oY n):=by cases i <;> simp [uD,Ln]
theorem Z3 (n:Nat) (i:Option Int):uE n i=i.elim n (oY n):=by cases i <;> simp [uE,Ln]
theorem Ew {j:Type}(l:List j) (lo f:Option Int):eX l lo f=(l.drop<|lo.elim 0<|oY l.length).take (f.elim l.length (oY l.length)-lo.elim 0 (oY l.length)):=by
 unfold eX;rw [ziJ,Z2,Z3]
theorem Z4 (n:Nat) (i:Int):oY n i<=n:=Int.toNat_le.mpr<|Int.max_le.mpr ⟨lf n,Int.min_le_right ..⟩
set_option tactic.hygienic true in
theorem Z5 (x:Str) (lo f:Option Int):(QW x lo f).cps.toList=eX x.cps.toList lo f:=by
 have e:Builtin.Str.strSliceIndices lo f 1 x.length=(j7<|f.elim x.length (oY x.length)-lo.elim 0 (oY x.length)).map (lo.elim 0 (oY x.length)+·):=by
  rw [<-sliceRange_one];have:=sliceBounds_plain lo f x.length;have j:=congrArg (·.1) this;have p:=congrArg (·.2.1) this;simp only at j p;rw [<-j,<-p];cases lo <;> cases f <;> rfl
 have l:x.cps.toList.length=x.length:=by simp [vQ]
 rw [Ew,l];unfold QW;rw [e];split
 .rename_i q;simp only [fN,beq_iff_eq,cN,rF] at q;have r:f.elim x.length (oY x.length)<=x.length:=by cases f with | none=>exact dM _ | some i=>exact Z4 _ _
  have h0:lo.elim 0 (oY x.length)=0/\f.elim x.length (oY x.length)=x.length\/x.length=0:=by exact Wj q.2 r
  rcases h0 with ⟨h0,j⟩ | h0
  .rw [h0,j,ziK,ziL,<-l,QX]
  .have:x.cps.toList=[]:=QN<|l.trans h0;rw [this];simp
 .rw [pick_run]
section
variable {g:Gd}{n:Nat}{c:Ctx}{A:di}{FS:List bH}{env:bH}{m:Loc}{Fz:AO}{T:TM}{H:Hp}{s:aR}{E:Value->aR->Prop}
theorem A8 {i:Int}(h:i.natAbs<2 ^ 62):-(2 ^ 63)<=i/\i<2 ^ 63:=⟨CJ (by decide)<|qv (A5 h).1,ziM (A5 h).2 (by decide)⟩
theorem A9 (x:Str) (t:i7):(strKind g.prog g.w).is x (.str x t)=true:=strKind_is g.prog g.w x t
theorem pairs_at {Fz:AO}{k:List Nat}{f:List (Str×Value)}{kvs:List (List Nat×V)}(r:nH Fz f kvs):
  (∀ v,AM kvs k=some v->∃x,Hw f ⟨k.toArray⟩=some x/\VR Fz x v)/\(AM kvs k=none->Hw f ⟨k.toArray⟩=none):=by
 induction r with
 | nil=>exact ⟨(λv e=>nomatch e),(λ_=>rfl)⟩
 | @cons k' x p f kvs a r j=>
  unfold AM Hw at j ⊢;rw [j9,QY];by_cases h:k=k'
  .subst h;rw [beq_self_eq_true,decide_eq_true rfl];exact ⟨(λv e=>⟨x,rfl,kH e▸a⟩),(λe=>nomatch e)⟩
  .have l:decide ((⟨k'.toArray⟩:Str)=⟨k.toArray⟩)=false:=decide_eq_false λe=>h (by have:=congrArg (λy:Str=>y.cps.toList) e;simpa using this.symm);rw [beq_eq_false_iff_ne.mpr h,l];exact j
theorem Z6 {j f:mK}{r:Array UInt8}{t u:i7}{i:Int}{v:Nat}{Q:V->Hp->Prop}(I:aQ g Fz T H s) (z:(r.toList.map lg).length<=16777216) (F:0<=i) (p:eR (r.toList.map lg) i=some v) (h:Q (aw v) H)
  (hs:∀ o i,sM f false o i=sN [o,i] (sO o i)):wpAny g.M A (vS j f (nY r t)<|eD i u) (bA g Fz T Q) E s:=by
 obtain ⟨l⟩:=r;unfold eR at p;rw [if_pos F] at p;have y:=(ug.mp p).1;simp only [cN] at y z;have e:v=(l.getD i.toNat 0).toNat:=by
  simp only [pQ] at p;have:l[i.toNat]?=some (l.getD i.toNat 0):=by
   rw [sP,lJ<|by simpa using y];rfl
  rw [this] at p;cases p;rfl
 subst e;exact qx (typeIs_bytes _ _ _) QZ.lookup (getItem_bytes (qa z rfl) F (by exact Wk y)<|.at (I.tok _) (jk _ _) h)<|hs _ _
set_option tactic.hygienic true in
theorem Z7 {l f:mK}{x:Nat}{u:i7}{i:Int}{v:V}{vs:List V}{Q:V->Hp->Prop}(I:aQ g Fz T H s) (O:i.natAbs<2 ^ 62) (P:be H x=some vs) (p:eR vs i=some v) (h:Q v H)
  (hs:∀ o i,sM f false o i=sN [o,i] (sO o i)):wpAny g.M A (vS l f (aL x)<|eD i u) (bA g Fz T Q) E s:=by
 refine fX (jU I P) λW r J L=>?_;have b:=A8 O;unfold eR at p;split at p
 .rename_i y;exact bZ (J.get p) λz j F=>qx r.typeIs ziN.lookup (wpAny_getItem_list r y (by exact Wl b.2) (by simpa using j)<|.at I F h)<|hs _ _
 .rename_i y;split at p
  .rename_i U;refine bZ (J.get p) λz j F=>?_;exact qx r.typeIs ziN.lookup (wpAny_getItem_list_neg r (rC.mp y) (by rw [L];exact Jh U) (by exact Wm b.1) (by rw [L];simpa using j)<|.at I F h)<|hs _ _
  .cases p
theorem Z8 (R:Ar A n FS){J f:mK}{x y:Value}{a b:V}{Q:V->Hp->Prop}(I:aQ g Fz T H s) (P:VR Fz x a) (ry:VR Fz y b) (h:td a b H Q)
  (hs:∀ o i,sM f false o i=sN [o,i] (sO o i)):
  wpAny g.M A (vS J f x y) (bA g Fz T Q) E s:=by
 refine pY h (λi q h=>?_) λh=>?_
 .refine ry.wC q λu=>?_;rcases AW h with ⟨vs,p,O,h⟩ | h
  .refine dj h λv z h=>pZ (VR.tu<|wz p▸P) λa1 xs k L U r1=>?_;subst L;refine bZ (Lm z) λj W Z=>bZ (r1.get Z) λa0 l hr=>?_;exact item_tupleT (I.Le U) (A8 O).1 (A8 O).2 (by rw [r1.length];exact W) l (.at I hr h) (hs _ _)
  rcases AW h with ⟨sl,p,O,h⟩ | h
  .refine dj h λv z h=>P.nI p λt=>bZ (Lm z) λj W Z=>?_;have b:=A8 O;refine qx (Hx _ _ _) F.slot_str_getitem.lookup (zkG (c:=v) ?_ ?_<|.at (I.tok _) (.strOf rfl _) h)<|hs _ _
   .rw [decide_eq_false<|lc.mpr b.1,decide_eq_false<|rC.mpr b.2];rfl
   .have:(⟨sl.toArray⟩:Str).length=sl.length:=by simp [vQ]
    rw [this,W];simpa using Z
  rcases AW h with ⟨bl,p,hl,h0,h⟩ | h
  .refine dj h λv z hq=>g3 (P.ofBytes p) λbb t a2 L=>?_;subst a2;subst L;exact Z6 I hl h0 z hq hs
  obtain ⟨x0,p,O,h⟩:=wA h;obtain ⟨vs,U,h⟩:=wA h;refine dj h λv z h=>?_;rw [P.mR p];exact Z7 I O U z h hs
 refine dj h λk q h=>dj h λx0 p h=>dj h λkvs q2 h=>dj h λv z h=>ry.nI q λu=>rR (I.gB _ _<|yy q2) λ_ ks hd r=>bZ ((pairs_at r).1 v z) λa0 l hr=>?_;rw [P.mR p];exact qx hd.typeIs slot_dict_getitem.lookup (wpAny_getItem_of (A9 _ _) hd.mapOf l<|.at (I.tok _) hr h)<|hs _ _
end
def rV (Fz:AO) (x:Value):Option V->Prop
 | none=>x=bO
 | some v=>VR Fz x v
theorem part_of {Fz:AO}{x:Value}{v:Option V}{i:Option Int}(r:rV Fz x v) (h:uG v=some i):sQ x i:=by
 unfold uG at h;split at h
 .cases h;cases r;exact .none
 .split at h
  .cases h;obtain ⟨t,rfl⟩:=r.int_inv;exact .int _ _
  .cases h
abbrev qb (vl f j:Value):d9:={cls:=cq "slice",data:=fj #[vl,f,j]}
theorem Lo {Fz:AO}{xs:List Value}{vs:List V}(r:bK Fz xs vs):∀ l:List Nat,∃f,bK Fz (l.filterMap (xs[·]?)) f/\∀ w∈f,w∈vs
 | []=>⟨[],ct,λ_ h=>nomatch h⟩
 | j::l=>by
  refine bZ (Lo r l) λf p u=>?_;cases q:xs[j]? with
  | none=>exact ⟨f,by simpa [sR,q] using p,u⟩
  | some x=>
   refine bZ (r.get' q) λv y z=>⟨v::f,by simpa [sR,q] using bK.cons z p,λw hw=>?_⟩;rcases cR.mp hw with rfl | hw
   .exact CN y
   .exact u w hw
section
variable {g:Gd}{n:Nat}{c:Ctx}{A:di}{FS:List bH}{env:bH}{m:Loc}{Fz:AO}{T:TM}{H:Hp}{s:aR}{E:Value->aR->Prop}
theorem Z9 {Fz:AO}{xs:List Value}{vs:List V}(r:bK Fz xs vs) (lo f:Option Int):bK Fz (eX xs lo f) (eX vs lo f):=by
 unfold eX;rw [r.length];exact (r.take _).drop _
theorem zaa {u p:mK}{O P:Value}{li ui:Option Int}{F:List Value}{Q:V->Hp->Prop}{r:List Nat}{t:i7}(I:aQ g Fz T H s)  (Z:sQ O li) (U:sQ P ui) (h:r.length<=16777216/\Q (.str<|eX r li ui) H) (hs:sM p false (.str ⟨r.toArray⟩ t) (aL s.heap.objs.size)=sN F (sO (.str ⟨r.toArray⟩ t)<|aL s.heap.objs.size)):
  wpAny g.M A (vS u p (.str ⟨r.toArray⟩ t)<|aL s.heap.objs.size) (bA g Fz T Q) E {s with heap:=s.heap.push (qb O P bO)}:=by
 have hz:(⟨r.toArray⟩:Str).length<=pP:=by rw [jE];simpa [vQ] using h.1
 have f:∀ (h':eY) W k',(∀ b o,s.heap.get? b=some o->h'.get? b=some o)->bA g Fz T Q (.str (QW ⟨r.toArray⟩ li ui) W) {s with heap:=h',toks:=k'}:=λh' W k' hk=>
  .at (I.grow (dr:=s.drawn) hk) (.strOf (by rw [Z5]) _) h.2
 have l:KeptH λh'=>∀ b o,s.heap.get? b=some o->h'.get? b=some o:=λh' ob k b o e=>kU _<|k b o e;cases Z with
 | none=>cases U with
  | none=>
   exact mv (SBH.sliceItem_nn (prog:=g.prog) (w:=g.w) (A:=A) (E:=E) (s:=s) (x:=⟨r.toArray⟩) (t:=t) l (λ_ _ e=>e) f hz) λJ id v y z=>qx y v z hs
  | int j L=>
   exact mv (SBH.sliceItem_ns (prog:=g.prog) (w:=g.w) (A:=A) (E:=E) (s:=s) (x:=⟨r.toArray⟩) (t:=t) (uj:=L) l (λ_ _ e=>e) f hz) λJ id v y z=>qx y v z hs
 | int i ti=>cases U with
  | none=>
   exact mv (SBH.sliceItem_sn (prog:=g.prog) (w:=g.w) (A:=A) (E:=E) (s:=s) (x:=⟨r.toArray⟩) (t:=t) (ui:=ti) l (λ_ _ e=>e) f hz) λJ id v y z=>qx y v z hs
  | int j L=>
   exact mv (SBH.sliceItem_ss (prog:=g.prog) (w:=g.w) (A:=A) (E:=E) (s:=s) (x:=⟨r.toArray⟩) (t:=t) (ui:=ti) (uj:=L) l (λ_ _ e=>e) f hz) λJ id v y z=>qx y v z hs
theorem zab {l f:mK}{p r:Value}{li ui:Option Int}{u:List Value}{Q:V->Hp->Prop}{j:Array UInt8}{t:i7}(I:aQ g Fz T H s)  (v:sQ p li) (y:sQ r ui) (h:(j.toList.map lg).length<=16777216/\Q (dw<|eX (j.toList.map lg) li ui) H) (hs:sM f false (nY j t) (aL s.heap.objs.size)=sN u (sO (nY j t)<|aL s.heap.objs.size)):
  wpAny g.M A (vS l f (nY j t)<|aL s.heap.objs.size) (bA g Fz T Q) E {s with heap:=s.heap.push (qb p r bO)}:=by
 have z:aQ g Fz T H {s with heap:=s.heap.push (qb p r bO)}:=I.grow (dr:=s.drawn) λb o e=>kU _ e;have hz:j.size<=16777216:=by simpa using h.1
 refine qx (T:= "bytes") (typeIs_bytes _ _ _) QZ.lookup (getItem_meets (typeIs_bytes _ _ _) (by decide) QZ FB.entry_bytes_getitem (FB.args_bytes_getitem_2 _ _) (KBc.meets_slice2 j t _ v y)
  ⟨Q0 _ _ _ _,fP (KBc.size_picked_le j li ui) (by rw [jE];exact hz),λF k'=>?_⟩) hs
 refine .at (z.tok k') ?_ h.2;have e:eX (j.toList.map lg) li ui=(KBy.picked j li ui).toList.map lg:=by
  rw [KBc.picked_eq,Ew];simp [ziO,ziP]
 rw [e];exact vM _ _
theorem zac {j f:mK}{l p:Value}{li ui:Option Int}{u:List Value}{Q:V->Hp->Prop}{r:Nat}{vs:List V}(I:aQ g Fz T H s)  (z:sQ l li) (F:sQ p ui) (J:be H r=some vs) (h:vs.length<=16777216/\iQ (eX vs li ui) H Q) (hs:sM f false (aL r) (aL s.heap.objs.size)=sN u (sO (aL r)<|aL s.heap.objs.size)):
  wpAny g.M A (vS j f (aL r)<|aL s.heap.objs.size) (bA g Fz T Q) E {s with heap:=s.heap.push (qb l p bO)}:=by
 have L:aQ g Fz T H {s with heap:=s.heap.push (qb l p bO)}:=I.grow (dr:=s.drawn) λb o e=>kU _ e;refine fX (jU I J) λv y O P=>?_;have hz:v.size<=pP:=by rw [jE,P];exact h.1
 refine qx (ziQ (s:={s with heap:=s.heap.push (qb l p bO)})<|y.push _) ziR (ziS (y.push _) (Q0 ..) z F .none (by simp) ?_ hz) hs;have:=yE (tk:=s.toks) L (Z9 O li ui) h.2;have e:(eX v.toList li ui).toArray=Q1 v li ui none:=by
  rw [slicePick_plain,Ew];simp
 rw [e] at this;exact this
theorem zad {l j:mK}{u v:Value}{li p:Int}{y:Value}{O:List Value}{Q:V->Hp->Prop}{L:Nat}{vs:List V}(I:aQ g Fz T H s)  (pl:sQ u (some li)) (pu:sQ v none) (pk:sQ y (some p)) (e1:be H L=some vs) (h:vs.length<=16777216/\0<p/\∀ r:List V,(∀ w∈r,w∈vs)->r.length<=vs.length->∀ a,H a=none->Q (aB a) (aN H a<|aO r)) (hs:sM j false (aL L) (aL s.heap.objs.size)=sN O (sO (aL L)<|aL s.heap.objs.size)):
  wpAny g.M A (vS l j (aL L)<|aL s.heap.objs.size) (bA g Fz T Q) E {s with heap:=s.heap.push (qb u v y)}:=by
 have U:aQ g Fz T H {s with heap:=s.heap.push (qb u v y)}:=I.grow (dr:=s.drawn) λb o e=>kU _ e;refine fX (jU I e1) λz W r1 Z=>?_;have hz:z.size<=pP:=by rw [jE,Z];exact h.1
 refine iw h λ_ hk h=>?_;refine qx (ziQ (s:={s with heap:=s.heap.push (qb u v y)})<|W.push _) ziR (ziS (W.push _) (Q0 ..) pl pu pk (by intro q;cases q;contradiction) ?_ hz) hs;refine bZ (Lo r1<|sliceRange (Q2 (some li) none (some p) z.size).1 (Q2 (some li) none (some p) z.size).2.1 (Q2 (some li) none (some p) z.size).2.2) λr J P=>?_;have F:=U.fresh;refine ⟨Fz,aN H (s.heap.push<|qb u v y).objs.size (aO r),aB _, .refl _,?_,mJ _,h r P (by have e:=J.length;have:=slicePick_size_le z (some li) none<|some p;unfold Q1 at this;rw [zL] at this;simp only [Hy] at e;exact Wn Z this e) _ F.h⟩;refine U.put (tk:=s.toks) F.f F.t ((zJ _ _).push _) ⟨_,0,sK _ rfl,?_⟩ rfl;unfold Q1;simpa using J
theorem zae {j f:mK}{x L O P:Value}{a:V}{l u k:Option V}{z:List Value}{Q:V->Hp->Prop}(I:aQ g Fz T H s) (y:VR Fz x a) (Z:rV Fz L l) (ru:rV Fz O u) (rk:rV Fz P k)
  (h:rN a l u k H Q) (hs:sM f false x (aL s.heap.objs.size)=sN z (sO x<|aL s.heap.objs.size)):
  wpAny g.M A (vS j f x<|aL s.heap.objs.size) (bA g Fz T Q) E {s with heap:=s.heap.push (qb L O P)}:=by
 refine dj h λli h1 h=>dj h λui h2 h=>?_;obtain ⟨U,h3,h⟩:=wA h;have r:=part_of Z h1;have v:=part_of ru h2;have W:=part_of rk h3;cases U with
 | some U=>
  obtain ⟨l0,e0,hu,h4⟩:=wA (o:=li) h;refine dj h4 λxa q p=>dj p λvs F J=>?_;rw [e0] at r;rw [Ke hu] at v;rw [y.mR q] at hs ⊢;exact zad I r v W F J hs
 | none=>
  cases W;rcases AW (o:=vStr a) h with ⟨tt,q,h4⟩ | h4
  .obtain ⟨t,e⟩:=y.ofStr q;rw [e] at hs ⊢;exact zaa I r v h4 hs
  refine pY h4 (λtt q p=>?_) λp=>?_
  .refine g3 (y.ofBytes q) λbb t e e2=>?_;rw [e2] at p;rw [e] at hs ⊢;exact zab I r v p hs
  refine dj p λxa q J=>dj J λvs F h7=>?_;rw [y.mR q] at hs ⊢;exact zac I r v F h7 hs
end
theorem zaf (r:List Int):∀ x:Int,r.foldl min x<=x/\(∀ y∈r,r.foldl min x<=y)/\r.foldl min x∈x::r:=by
 induction r with
 | nil=>intro x;exact ⟨mL _,(λ_ h=>nomatch h),dh⟩
 | cons z r l=>
  refine λx=>iw (l<|min x z) λj p h3=>?_;refine ⟨by rw [iH];exact Wo j,λy f=>?_,?_⟩
  .rw [iH];rcases cR.mp f with rfl | f
   .exact Wp j
   .exact p y f
  .rw [iH];rcases cR.mp h3 with h3 | h3
   .rw [h3];rcases zz x z with q | q
    .rw [zC q];exact dh
    .rw [CI q];exact dz _ dh
   .exact dz _<|dz _ h3
theorem zag {f:List Int}{M r:Int}(h1:M∈f) (j:∀ a∈f,M<=a) (h:oo f=some r):M=r:=by
 cases f with
 | nil=>cases h
 | cons x t=>
  have e:t.foldl min x=r:=kH h;refine iw (zaf t x) λl p2 p=>?_;have u:=j _ p;have v:t.foldl min x<=M:=by
   rcases cR.mp h1 with rfl | h1
   .exact l
   .exact p2 _ h1
  exact Wq e u v
section
variable {g:Gd}{n:Nat}{c:Ctx}{A:di}{FS:List bH}{env:bH}{m:Loc}{Fz:AO}{T:TM}{H:Hp}{s:aR}{E:Value->aR->Prop}
theorem Lp (I:aQ g Fz T H s){h':eY}{tk j:Nat}{xs:Array Value}{vs:List V}{Q:V->Hp->Prop}(l:∀ b o,s.heap.get? b=some o->h'.get? b=some o)
  (p:h'.get? s.heap.objs.size=some (iS xs j)) (r:bK Fz xs.toList vs) (h:iQ vs H Q):bA g Fz T Q (aL s.heap.objs.size) {s with heap:=h',toks:=tk}:=by
 have F:=I.fresh;exact ⟨Fz,aN H s.heap.objs.size<|aO vs,aB _, .refl _,I.put (o:=aO vs) F.f F.t (λb o _ e=>l b o e) ⟨xs,j,p,r⟩ rfl,mJ _,h.2 _ F.h⟩
theorem zah {Fz:AO}{x:Str}{p:Array Value}(h:ItemsOf (SignAt x) p x.cps.size):bK Fz p.toList (x.cps.toList.map λc=>V.str [c]):=by
 have z:∀ (l:List Value) (f:List Nat),l.length=f.length->(∀ (j:Nat) (v:Value),l[j]?=some v->∃c u,f[j]?=some c/\v=Q3 ⟨#[c]⟩ u)->bK Fz l (f.map λc=>V.str [c]):=by
  intro l;induction l with
  | nil=>intro f y _;cases f with | nil=>exact ct | cons _ _=>cases y
  | cons v r I=>
   intro f y F;cases f with
   | nil=>cases y
   | cons c f=>
    refine g3 (F 0 v rfl) λU u J L=>?_;cases J;subst L;exact i4 (.strOf rfl _) (I f (by simpa using y) λj v e=>F (j+1) v<|by simpa using e)
 exact z _ _ (by simpa using h.1) λj v e=>g3 (h.2 j v<|by simpa using e) λc u O P=>⟨c,u,by simpa using O,P⟩
noncomputable def Ba:Bi->Value
 | lV=>dO "abs"
 | gV=>dO "len"
 | rA=>dO "max"
 | n6=>dO "min"
 | sy=>dO "sum"
 | .str=>cq "str"
 | .int=>cq "int"
 | oS=>dO "ord"
 | .chr=>dO "chr"
 | n5=>cq "bytes"
 | tX=>cq "list"
 | vK=>dO "sorted"
theorem bK.one {Fz:AO}{xs:List Value}{v:V}(r:bK Fz xs [v]):∃x,xs=[x]/\VR Fz x v:=by
 cases r with | cons a q=>cases q;exact ⟨_,rfl,a⟩
theorem bK.two {Fz:AO}{xs:List Value}{v w:V}(r:bK Fz xs [v,w]):∃x y,xs=[x,y]/\VR Fz x v/\VR Fz y w:=by
 cases r with | cons a q=>obtain ⟨y,rfl,b⟩:=q.one;exact ⟨_,_,rfl,a,b⟩
theorem zai {f:List Int}(h:∀ i∈f,0<=i/\i<256):(byteArr f).toList.map lg=f.map CK:=by
 unfold byteArr;rw [lm];refine Q4 λi j=>?_;have:=h i j;show (i.toNat.toUInt8).toNat=i.toNat;rw [Nat.toUInt8_eq,UInt8.toNat_ofNat'];exact Wr this.2
theorem zaj {x:Value}{a:V}{Q:V->Hp->Prop}(R:Ar A n FS) (I:aQ g Fz T H s) (r:VR Fz x a) (h:gr gV [a] H Q):wpAny g.M A (call (dO "len") [x]) (bA g Fz T Q) E s:=by
 cases a with
 | str l=>
  refine r.rU λt=>?_;have f:(⟨l.toArray⟩:Str).length=l.length:=by simp [vQ]
  refine zkH (by rw [f];have:=h.1;exact Ws this)<|.at (I.tok _) (jk _ _) ?_;rw [f];exact h.2
 | bytes l=>
  refine g3 r.Es λb t j p=>?_;subst j;subst p;have f:(b.toList.map lg).length=b.size:=by simp
  refine PySem.W.len_bytes (by have:=h.1;rw [f] at this;exact qa ‹_› rfl)<|.at (I.tok _) (jk _ _) ?_;rw [<-f];exact h.2
 | ref a=>
  refine r.nJ ?_;dsimp only [gr,uH,uI] at h;cases e:be H a with
  | none=>rw [e] at h;exact h.elim
  | some vs=>
   rw [e] at h;refine fX (jU I e) λy v z u=>?_;refine zkI v (by rw [u];have:=h.1;exact Wt this)<|.at (I.tok _) (jk _ _) ?_;rw [u];exact h.2
 | _=>exact h.elim
theorem wE (I:aQ g Fz T H s){h':eY}{tk:Nat}(f:∀ b o,s.heap.get? b=some o->h'.get? b=some o):aQ g Fz T H {s with heap:=h',toks:=tk}:=I.grow (dr:=s.drawn) f
theorem zak {x:Value}{a:V}{Q:V->Hp->Prop}(R:Ar A n FS) (I:aQ g Fz T H s) (r:VR Fz x a) (h:gr n6 [a] H Q):wpAny g.M A (call (dO "min") [x]) (bA g Fz T Q) E s:=by
 cases a with
 | ref a=>
  refine r.nJ ?_;dsimp only [gr,uH,uI] at h;cases e:be H a with
  | none=>rw [e] at h;exact h.elim
  | some vs=>
   rw [e] at h;simp only at h;cases p:j6 vs with
   | none=>rw [p] at h;exact h.elim
   | some u=>
    rw [p] at h;simp only at h;cases l:oo u with
    | none=>rw [l] at h;exact h.elim
    | some P=>
     rw [l] at h;simp only at h;refine fX (jU I e) λax U W z1=>?_;have J:=uR W p;obtain ⟨xs,L⟩:=J.allInts.items;have f:u=xs.toList.map (·.1):=by rw [<-J.numsOf,<-nums_intItems,<-L]
     have y:u≠[]:=by rintro rfl;cases l
     have hsz:0<xs.size:=by
      rcases Nat.eq_zero_or_pos xs.size with q | q
      .have:xs=#[]:=Array.eq_empty_of_size_eq_zero q;subst this;exact absurd (by simpa using f) y
      .exact q
     have z:s.heap.IsList a (intItems xs):=by rw [<-L];simpa using U
     refine min_intList R.hd z hsz λv h' tk Z hk=>?_;obtain ⟨t,rfl⟩:=intItems_at Z;obtain ⟨p1,p2⟩:=argBest_lt (numAt xs)<|xs.size-1;have hm:numAt xs (argBest (λi j=>decide (numAt xs i<numAt xs j))<|xs.size-1)=P:=by
      refine zag ?_ (λa O=>?_) l
      .rw [f,numAt_eq];exact getD_mem (by rw [cN,CO];exact Wu hsz p1)
      .rw [f] at O;refine bZ (mem_getD O) λj hj F=>?_;subst F;rw [cN,CO] at hj;rw [<-numAt_eq];exact p2 j (by exact Nat.le_sub_of_add_le ‹_›)
     rw [hm];exact .at (wE I hk) (jk _ _) h
 | _=>exact h.elim
theorem zal {x:Value}{a:V}{Q:V->Hp->Prop}(R:Ar A n FS) (I:aQ g Fz T H s) (r:VR Fz x a) (h:gr sy [a] H Q):wpAny g.M A (call (dO "sum") [x]) (bA g Fz T Q) E s:=by
 cases a with
 | ref a=>
  refine r.nJ ?_;dsimp only [gr,uH,uI] at h;cases e:be H a with
  | none=>rw [e] at h;exact h.elim
  | some vs=>
   rw [e] at h;simp only at h;cases f:j6 vs with
   | none=>rw [f] at h;exact h.elim
   | some v=>
    rw [f] at h;simp only at h;refine fX (jU I e) λJ y z L=>?_;have p:=uR z f;obtain ⟨xs,u⟩:=p.allInts.items;have j:v=xs.toList.map (·.1):=by rw [<-p.numsOf,<-nums_intItems,<-u]
    have l:s.heap.IsList a (intItems xs):=by rw [<-u];simpa using y
    refine sum_intListG R.hd l λh' tk O F=>?_;rw [preSum_eq,Q5 (by simp),<-j];exact .at (wE I F) (jk _ _) h
 | _=>exact h.elim
theorem zam {x:Value}{a:V}{Q:V->Hp->Prop}(R:Ar A n FS) (I:aQ g Fz T H s) (r:VR Fz x a) (h:gr .str [a] H Q):wpAny g.M A (call (cq "str") [x]) (bA g Fz T Q) E s:=by
 cases a with
 | int a=>
  refine r.mQ λt=>iw h λf j l=>PySem.P.str_of_int ?_<|.at (I.tok _) (.strOf ?_ _) l
  .have p:a.natAbs<2 ^ 1920:=by
    have:(10:Nat) ^ 100<2 ^ 1920:=by decide+kernel
    exact Wv f j
   by_cases hz:a.natAbs=0
   .rw [hz];decide
   .exact (Nat.log2_lt hz).mpr p
  .rw [Str.ofString_eq_toList];simp [nD]
 | _=>exact h.elim
theorem zan {x:Value}{a:V}{Q:V->Hp->Prop}(R:Ar A n FS) (I:aQ g Fz T H s) (r:VR Fz x a) (h:gr tX [a] H Q):wpAny g.M A (call (cq "list") [x]) (bA g Fz T Q) E s:=by
 cases a with
 | ref a=>
  refine r.nJ ?_;dsimp only [gr,uH,uI] at h;cases e:be H a with
  | none=>rw [e] at h;exact h.elim
  | some vs=>
   rw [e] at h;refine g3 (rT I e) λF k y u=>call_list_seq (hsz:=?_) a (ba rfl) y rfl rfl λh' z j p=>?_
   .exact Lp (tk:=s.toks) I j p u h
   .have:=h.1;rw [<-u.length] at this;rw [jE];simpa using this
 | str l=>
  refine r.rU λt=>call_list_str R.hd _ t (λh' tk v z j p f=>Lp (tk:=tk) I j p (zah f) h) ?_
  .have:=h.1;rw [jE];simpa using this
 | _=>exact h.elim
theorem zao {x:Value}{a:V}{Q:V->Hp->Prop}(I:aQ g Fz T H s) (r:VR Fz x a) (h:gr lV [a] H Q):wpAny g.M A (call (dO "abs") [x]) (bA g Fz T Q) E s:=by
 cases a with
 | int a=>
  refine r.mQ λt=>call_abs_int λu tk=> .at (I.tok _) (jk _ _) ?_;have e:(if a<0 then -a else a)=(a.natAbs:Int):=by split <;> lia
  rw [e];exact h
 | _=>exact h.elim
theorem zap {x:Value}{a:V}{Q:V->Hp->Prop}(I:aQ g Fz T H s) (r:VR Fz x a) (h:gr oS [a] H Q):wpAny g.M A (call (dO "ord") [x]) (bA g Fz T Q) E s:=by
 cases a with
 | str l=>
  refine r.rU λt=>?_
  match l,h with
  | [c],h=>exact PySem.P.ord_of_char<|.at (I.tok _) (jk _ _) h
  | [],h=>exact h.elim
  | _::_::_,h=>exact h.elim
 | _=>exact h.elim
theorem zaq {x y:Value}{a b:V}{Q:V->Hp->Prop}(R:Ar A n FS) (I:aQ g Fz T H s) (r:VR Fz x a) (f:VR Fz y b) (h:gr rA [a,b] H Q):wpAny g.M A (call (dO "max") [x,y]) (bA g Fz T Q) E s:=by
 cases a with
 | int a=>
  cases b with
  | int b=>
   refine r.mQ λt=>f.mQ λu=>max_two_ints R.hd λh' tk j=>?_;have e:(if b > a then oX b u else oX a t)=eD (max a b) (if b > a then u else t):=by
    split
    .rw [zB<|by exact qv ‹_›]
    .rw [zA<|by exact lc.mp ‹_›]
   rw [e];exact .at (wE I j) (jk _ _) h
  | _=>exact h.elim
 | _=>exact h.elim
theorem zar {x y:Value}{a b:V}{Q:V->Hp->Prop}(R:Ar A n FS) (I:aQ g Fz T H s) (r:VR Fz x a) (f:VR Fz y b) (h:gr n6 [a,b] H Q):wpAny g.M A (call (dO "min") [x,y]) (bA g Fz T Q) E s:=by
 cases a with
 | int a=>
  cases b with
  | int b=>
   refine r.mQ λt=>f.mQ λu=>min_two_ints R.hd λh' tk j=>?_;have e:(if b<a then oX b u else oX a t)=eD (min a b) (if b<a then u else t):=by
    split
    .rw [CI<|by exact qv ‹_›]
    .rw [zC<|by exact lc.mp ‹_›]
   rw [e];exact .at (wE I j) (jk _ _) h
  | _=>exact h.elim
 | _=>exact h.elim
namespace BB
theorem zas:typeLookup (cq "bytes") "__bytes__" =dP (some (dO "bytes.__bytes__")):=by rw [typeLookup_type,builtinLookup_eq_fast];kernel_rfl
theorem zkl (a:Value):xR "bytes.__new__" ⟨[cq "bytes",a],[]⟩=dP ():=by unfold xR;kernel_rfl
end BB
theorem zat {b:Array UInt8}{t:i7}{Q:Value->aR->Prop}(h:Q (nY b t) s):
  rE g.M A (.call (dO "bytes.__new__") ⟨[cq "bytes",nY b t],[]⟩) (wants Q E) s:=by
 refine codeAny_of_tree ?_;show wpAny _ A.in1 (do xR "bytes.__new__" ⟨[cq "bytes",nY b t],[]⟩;again (vE "bytes.__new__" ⟨[cq "bytes",nY b t],[]⟩)) _ _ s;refine bg (uh (F.bm_newCall _) (cT ⟨plainId_quiet F.bm_plain _,codeAny_builtin F.bm_entry ?_⟩));rw [di.under_plainId F.bm_plain _];have f:s.TypeIs (nY b t) "bytes" :=typeIs_bytes s b t;refine bg (uh (a:=true) rfl ?_);refine Q6 rfl (bg (uh F.bm_sub ?_));refine Q6 rfl (bg (uh (F.bm_bind _) ?_));refine bg (uh (a:=()) rfl ?_);refine bg (uh (a:=()) rfl ?_);refine Q6 rfl (bg (wpAny_specialOf f BB.zas ?_));refine bg (wpAny_rule ?_);refine bg (uh (a:=cq "bytes") rfl ?_);exact bm_if_true rfl (uh (a:= .done (oQ (nY b t))) rfl h)
theorem zau {x:Value}{a:V}{Q:V->Hp->Prop}(R:Ar A n FS) (I:aQ g Fz T H s) (r:VR Fz x a) (h:gr n5 [a] H Q):wpAny g.M A (call (cq "bytes") [x]) (bA g Fz T Q) E s:=by
 cases a with
 | ref a=>
  refine r.nJ ?_;dsimp only [gr,uH,uI] at h;cases e:be H a with
  | none=>rw [e] at h;exact h.elim
  | some vs=>
   rw [e] at h;simp only at h;cases u:j6 vs with
   | none=>rw [u] at h;exact h.elim
   | some P=>
    rw [u] at h;simp only at h;refine fX (jU I e) λU z J L=>call_bytes_ints (by simpa using z) (uR J u) h.1 ?_ R.hd λh' t k O=> .at (wE I O) ?_ h.2.2
    .rw [jE,CO,L];exact h.2.1
    .rw [<-zai h.1];exact vM _ _
 | bytes l=>
  refine g3 r.Es λb t v y=>?_;subst v;subst y;refine callType_codes (Q₁:=λp f=>f.TypeIs p "bytes" /\bA g Fz T Q p f) Q7 (F.bm_typeCall _) F.entry_object_init
   (zat ⟨PySem.W.typeIs_bytes _ _ _, .at I (vM _ _) h⟩) λp f j=>?_
  exact ⟨j.1,F.args_object_init_2 p _,object_init_meets Q7.init.lookup Q7.made (by decide) g.prog g.w A.in1 _ f ⟨j.1,rfl,j.2⟩⟩
 | _=>exact h.elim
end
end
open dX renaming loose->fq,pred->qt
open VR renaming bool->tZ,bytes->vM,int->jk,none->ua,ref->mJ
open bK renaming cons->i4,nil->ct
section
open PySem PySem.W PyProof.Rows PySem.Calls PySem.Spec
theorem Lq:∀ a b:List Nat,jG a b=decide (a<b)
 | [],[]=>by simp [jG]
 | [],_::_=>by simp [jG]
 | _::_,[]=>by simp [jG]
 | a::r,b::t=>by
  show (decide (a<b) || (a==b && jG r t))=_;rw [Lq r t,vR];simp [List.cons_lt_cons_iff]
section
variable {prog:nt}{w:j8}{A:di}{E:Value->aR->Prop}{s:aR}{qd:Array Keyed}{κ:ziU}
noncomputable abbrev qN:=StateT nu lq
noncomputable abbrev tv:=Option Unit×Nat
noncomputable def Ey:{k:nu->qN Unit // sortRuns'=get >>=k}:=⟨_,sortRuns'_eq⟩
noncomputable def Bb (st:nu):{p:(Nat->tv->qN (ForInStep tv))×(tv->qN Unit) // Ey.1 st=zO [0:(kc st).size] ((none,0):tv) p.1 >>=p.2}:=⟨(_,_),rfl⟩
noncomputable abbrev yG:=Option Unit×Unit
noncomputable def Lr (st:nu):{p:(Nat->Nat->yG->qN (ForInStep yG))×(Nat->yG->qN Unit) // ∀ n,(Bb st).1.2 (none,n)=zO [0:(kc st).size] ((none,()):yG) (p.1 n) >>=p.2 n}:=⟨(_,_),λ_=>rfl⟩
noncomputable def srT (st:nu):{k:Nat->nu->qN (ForInStep yG) // ∀ n x,(Lr st).1.1 n x (none,())=get >>=λt=>if (Q8 t).size<=1 then dP (.done (none,())) else k n t}:=⟨_,λ_ _=>rfl⟩
noncomputable def Bc (st:nu):{k:Nat->Option Nat->qN (ForInStep tv) // ∀ x lo,(Bb st).1.1 x (none,lo)=if lo≥(kc st).size then dP (.done (none,lo)) else countRun' lo ((kc st).size-lo) >>=k lo}:=⟨_,λ_ _=>rfl⟩
noncomputable def Ez (st:nu):{p:(Nat->Nat->qN (ForInStep tv))×(Nat->Nat->nu->qN (ForInStep tv)) // ∀ lo n,(Bc st).1 lo (some n)=if n<minRun' (kc st).size (kc st).size 0 then p.1 lo n else get >>=p.2 lo n}:=⟨(_,_),λ_ _=>rfl⟩
noncomputable def srP (lo n:Nat):qN (ForInStep tv):=modify (λs=>setPending s<|(Q8 s).push (lo,n,0)) >>=λ_=>dP<|.yield (none,lo+n)
theorem srE (st f:nu) (lo n:Nat) (h:(Q8 f).back?=none):(Ez st).1.2 lo n f=srP lo n:=by
 dsimp only [Ez,Bc,Bb,Ey];rw [h];rfl
theorem zav {st:nu}{n:Nat}{Q:Option Nat->nu->Prop}(z:κ.OneLt) (F:KeysOf κ qd) (I:SBase qd st) (J:qd.size=n) (L:1<=n)
  (f:∀ i,0<i->i<n->¬κ.klt (KK κ (kc st) i) (KK κ (kc st)<|i-1))
  (h:CP κ (kc st) n->Q (some n) st):ziV (fO prog w) A E s (countRun' 0 n) Q st:=by
 rw [countRun0_eq];refine vT<|wpS_ascLoopK z F (CQ J.symm) (dM 1) L I (λi j p O=>(Q9 p<|fP (Nat.le_of_lt_succ O)<|zP _)▸KeyOrd.kle_refl _) λk r u v y=>?_;have e:k=n:=y.elim id λq=>(Nat.lt_or_eq_of_le u).elim (λl=>absurd q<|f k r l) id;subst e;rw [if_pos<|beq_self_eq_true k];exact CR<|h v
theorem zaw {st:nu}{Q:Unit->nu->Prop}(F:κ.OneLt) (J:KeysOf κ qd) (p:SBase qd st) (r:qd.size=100)
  (u:∀ n,0<n->n<100->¬κ.klt (KK κ (kc st) n) (KK κ (kc st)<|n-1))
  (h:∀ f,(kc f).Perm qd->failedOf f=none->CP κ (kc f) qd.size->Q () f):ziV (fO prog w) A E s sortRuns' Q st:=by
 have y:=p.size.trans r;rw [Ey.2];refine vT<|wpS_get ?_;rw [(Bb st).2];refine vT (wpS_mono (wpS_forRange
  (I:=λx c f=>(x=0/\c=(none,0)/\f=st)\/(1<=x/\c=(none,(kc st).size)/\SDoneK κ qd f))
  (Q:=λc f=>c=(none,(kc st).size)/\SDoneK κ qd f) ?step ?fin (ba ⟨rfl,rfl,rfl⟩)) ?v)
 case fin=>
  rintro c f (⟨z,_⟩ | ⟨_,l⟩)
  .rw [y] at z;exact absurd z (by decide)
  .exact l
 case step=>
  rintro x c f _ z (⟨rfl,rfl,rfl⟩ | ⟨L,rfl,l⟩)
  .rw [(Bc f).2,if_neg<|ziW z];refine vT (zav F J p p.size.symm (by rw [y];decide) (by rw [y];exact u) λhs=>?_);rw [(Ez f).2,if_neg<|by rw [y];decide+kernel];refine vT<|wpS_get ?_;rw [srE _ _ _ _<|by rw [p.pend];rfl];exact vT (wpS_modify<|CR<|aX ⟨dM 1,congrArg _<|pR _,by have:=p.doneK<|p.size▸hs;rw [<-p.size] at this;exact this⟩)
  .rw [(Bc st).2,if_pos<|dM _];exact CR ⟨rfl,l⟩
 case v=>
  rintro c f ⟨rfl,l⟩;rw [(Lr st).2];refine vT<|wpS_mono (wpS_forRange (I:=λ_ c j=>j=f/\c=(none,())) (Q:=λc j=>j=f/\c=(none,())) ?_ (λ_ _ O=>O) ⟨rfl,rfl⟩) ?_
  .rintro x c j _ _ ⟨rfl,rfl⟩;rw [(srT st).2];refine vT<|wpS_get ?_;rw [if_pos<|by rw [l.2.2.1];exact dM 1];exact CR ⟨rfl,rfl⟩
  .rintro c j ⟨rfl,rfl⟩;exact CR<|h _ l.1 l.2.1 l.2.2.2
theorem zax {vs:List Value}(h:vs.length=100):∃a b r,vs=a::b::r:=by
 cases vs with
 | nil=>cases h
 | cons a r=>cases r with
  | nil=>exact absurd h (show ¬1=100 by decide)
  | cons b r=>exact ⟨a,b,r,rfl⟩
theorem zay {κ:ziU}(U:κ.OneLt){a:bn}{vs:List Value}{n:Nat}{P:PySem.Fin->aR->Prop} (z:s.heap.get? a=some (zQ "list" vs.toArray n))
  (W:KeysOf κ (qy vs)) (F:∀ f j l,vs=f::j::l->keyKind' (f::j::l).toArray=dP Ra) (r:vs.length=100)
  (u:∀ n,0<n->n<100->¬κ.klt (KK κ (qy vs) n) (KK κ (qy vs)<|n-1))
  (h:∀ p:nu,(kc p).Perm (qy vs)->CP κ (kc p) (qy vs).size->P (.done<|oQ bO) {s with heap:=sortedHeap s.heap a vs ((kc p).map (·.2))}):
  wpAny (fO prog w) A (Builtin.«list.sort» ⟨[aL a],[]⟩) P E s:=by
 rw [list_sort_plain];have J:a<s.heap.objs.size:=sS z;refine bg (listItems_at z rfl ?_);refine bg (listUpdate_at z rfl ?_);obtain ⟨I,v⟩:∃I,(s.heap.update a (Rb λ_=>#[])).get? a=some (zQ "list" #[] I):=⟨_,CS z (λ_=>#[])⟩;refine bg (seqEpoch_at v rfl ?_);refine bg (Rc ?_);refine bg (Hz ?_);refine oZ ?_;have y:(((s.heap.update a (Rb λ_=>#[])).push (zQ "tuple" vs.toArray 0)).push (zQ "list" #[] 0)).get? a=some (zQ "list" #[] I):=by
  rw [ziX _ _ _ (by rw [size_push',ziY];exact vU<|Rd J),ziX _ _ _<|by rw [ziY];exact vU J];exact v
 have hsz:vs.toArray.size=vs.length:=by simp
 have L:¬vs.toArray.size<2:=by exact Ww r hsz
 rw [if_neg L,if_neg L];obtain ⟨f,j,l,rfl⟩:=zax r;rw [F _ _ _ rfl];refine bg<|cT ?_;refine bg (cW (zaw (κ:=κ) U (qd:=qy (f::j::l)) (st:=nu.mk' Ra ((f::j::l).toArray.zip (f::j::l).toArray) #[] 7 none)
  (Q:=λ_ p=>(kc p).Perm (qy (f::j::l))/\failedOf p=none/\CP κ (kc p) (qy (f::j::l)).size)
  W ⟨Array.Perm.refl _,rfl,rfl,rfl⟩ (by rw [pairsOf_size];exact r) u λp a1 a2 a3=>⟨a1,a2,a3⟩) ?_ λ_ _ e=>e)
 rintro ⟨⟨⟩,p⟩ s' ⟨rfl,O,Z,hs⟩;refine bg<|seqEpoch_at y rfl ?_;refine bg (listUpdate_at y rfl ?_ (hsz2:=by refine fP (CQ<|(Array.size_map ..).trans (O.size_eq.trans<|pairsOf_size _)) ?_;rw [jE];exact Wx r));rw [Z];simp only [bne_self_eq_false,Re,if_false];exact cT<|h p O hs
end
theorem zaz {Fz:AO}{xs:List Value}{ss:List Str}(h:xP xs ss):bK Fz xs (ss.map λx=>V.str x.cps.toList):=by
 induction h with
 | nil=>exact .nil
 | cons x t _ f=>exact i4 (.str x t) f
section
variable {g:Gd}{n:Nat}{c:Ctx}{A:di}{FS:List bH}{env:bH}{m:Loc}{Fz:AO}{T:TM}{H:Hp}{s:aR}{E:Value->aR->Prop}
theorem EA {Fz:AO}{f:List (Str×Value)}{kvs:List (List Nat×V)}(r:nH Fz f kvs):f.map (λp=>p.1.cps.toList)=kvs.map (·.1):=by
 induction r with
 | nil=>rfl
 | cons a r j=>rw [eF,eF,j]
theorem zaA {l:List (Str×Value)}:∀ {f:List Value},f.length=l.length->(∀ (j:Nat) v,f[j]?=some v->∃k x,l[j]?=some (k,x)/\∃t,v=Q3 k t)->xP f (l.map (·.1)):=by
 induction l with
 | nil=>intro f u _;cases f with | nil=>exact .nil | cons _ _=>cases u
 | cons p l F=>
  intro f u z;cases f with
  | nil=>cases u
  | cons v r=>
   refine Za (z 0 v rfl) λk x e t y=>?_;subst y;cases e;exact .cons _ _ (F (by simpa using u) λj v e=>z (j+1) v<|by simpa using e)
theorem zaB {l:List (List Nat)}(e:rL l=true) (i:Nat) (h:i+1<l.length):jG (l.getD (i+1) []) (l.getD i [])=false:=by
 induction l generalizing i with
 | nil=>exact absurd h<|QT _
 | cons a r f=>
  have e:=(fN _ _).mp e;cases i with
  | zero=>
   cases r with
   | nil=>exact absurd h<|CT 1
   | cons b r=>exact zN _ |>.mp (mM.mp e.1 b dh)
  | succ i=>exact f e.2 i<|Rf h
set_option tactic.hygienic true in
theorem zaC {x:Value}{a:V}{Q:V->Hp->Prop}(R:Ar A n FS) (I:aQ g Fz T H s) (r:VR Fz x a) (h:gr vK [a] H Q):wpAny g.M A (call (dO "sorted") [x]) (bA g Fz T Q) E s:=by
 cases a with
 | ref a=>
  refine r.nJ ?_;dsimp only [gr,uH,uI] at h;split at h
  .rename_i kvs e1;refine rR (I.gB _ _ e1) λlo ks hd rp=>?_;obtain ⟨ep,a7⟩:=hd.dictAt;have y:=EA rp;have J:ks.length=kvs.length:=by have:=congrArg pS y;simpa using this
   have z:ks.length<=pP:=by
    rw [jE,J];rcases h.1 with q | q
    .exact Wy q
    .exact Wz q.1
   refine call_function_entry kind_sorted plain_sorted entry_sorted (args_sorted1 _) ?_;refine bg (m:=checkCount "sorted" 1 1 _) (cT ?_);refine bg (kdu_collect (A:=A.in1) (kdl_dict (knd:=CU g.prog g.w) (kvs:=ks) (ep:=ep) lo) R.hd a7 z λh' tk l hk L=>?_);have hl:l.toList.length=ks.length:=by rw [CO];exact L.1
   refine bg (Hz ?_<|by rw [hl];exact z);have hS:xP l.toList (ks.map (·.1)):=zaA hl λj v e=>by
    obtain ⟨k,x,h1,h2⟩:=L.2 j v (by rw [<-Hy];exact e);exact ⟨k,x,h1,ziZ h2⟩
   have I':aQ g Fz T H {s with heap:=h',toks:=tk}:=wE I hk;have F:=I'.fresh;have W:(h'.push (iS l.toList.toArray 0)).get? h'.objs.size=some (zQ "list" l.toList.toArray 0):=sK _ rfl;have a2:∀ u:nu,(kc u).Perm (qy l.toList)->CP zi0 (kc u) (qy l.toList).size->
     bA g Fz T Q (aL h'.objs.size) {s with heap:=sortedHeap (h'.push<|iS l.toList.toArray 0) h'.objs.size l.toList ((kc u).map (·.2)),toks:=tk}:=by
    refine λu Z hs=>fX (sorted_out_str hS Z hs) λa0 p1 p2 _=>?_;obtain ⟨e,he⟩:=sortedHeap_at (vs:=l.toList) (out:=(kc u).map (·.2)) W;have a1:(a0.map λx=>x.cps.toList).Perm (kvs.map (·.1)):=by
     have:=p2.map λx:Str=>x.cps.toList
     rwa [lm,show (λx:Str=>x.cps.toList)∘(λp:Str×Value=>p.1)=(λp:Str×Value=>p.1.cps.toList) from rfl,y] at this
    have hq:=h.2 _ a1 h'.objs.size F.h;refine ⟨Fz,_,aB _, .refl _,?_,mJ _,hq⟩;refine I'.put (o:=aO _) (tk:=tk) F.f F.t (λb o hb eb=>?_) ⟨_,e,he,?_⟩ rfl
    .have a8:=sS eb;rw [sortedHeap_old hb<|by rw [size_push'];exact Rd a8];exact kU _ eb
    .have:=zaz (Fz:=Fz) p1
     rwa [show (a0.map λx=>V.str x.cps.toList)=(a0.map λx=>x.cps.toList).map V.str by rw [lm];rfl] at this
   have a3:∀ O P U,l.toList=O::P::U->keyKind' (O::P::U).toArray=dP Ra:=λO P U e=>keyKind_strs (by rw [<-e];exact hS);have hg:wpAny g.M A.in1 (call (dO "list.sort") [aL h'.objs.size]) (λ_ s'=>bA g Fz T Q (aL h'.objs.size) s') E {s with heap:=h'.push (iS l.toList.toArray 0),toks:=tk}:=by
    refine HA slot_list_sort ⟨_,W,rfl⟩ entry_list_sort ?_<|args_list_sort _;rcases h.1 with q | ⟨q,a4⟩
    .exact list_sort_treeK strKind_oneLt W hS.keysOf a3 (by rw [hl,J];exact q) λu Z hs=>⟨_,rfl,a2 u Z hs⟩
    .have a5:l.toList.length=100:=by rw [hl,J];exact q
     refine zay strKind_oneLt W hS.keysOf a3 a5 (λi h0 h1=>?_) λu Z hs=>⟨_,rfl,a2 u Z hs⟩;have a6:∀ j,j<100->KK zi0 (qy l.toList) j=(kvs.map (·.1)).getD j []:=by
      intro j hj;obtain ⟨v,hv⟩:∃v,l.toList[j]?=some v:=⟨_,lJ<|by rw [a5];exact hj⟩;obtain ⟨k,x,e1,e2⟩:=L.2 j v (by rw [<-Hy];exact hv);obtain ⟨t,rfl⟩:=ziZ e2;have Z:(qy l.toList)[j]?=some (.str k t, .str k t):=by
       rw [<-Hy,pairsOf_toList];exact zi1.mpr ⟨hv,hv⟩
      unfold KK;rw [Z,<-y];simp [List.getD,e1]
     rw [a6 i h1,a6 (i-1)<|by exact WA h1];have:=zaB a4 (i-1) (by rw [cN];exact WB q h1);rw [show i-1+1=i by exact Nat.sub_add_cancel ‹_›,Lq] at this;intro hk;change decide (_ < _)=true at hk;rw [this] at hk;cases hk
   refine bg<|oZ<|cW hg (λ_ s' x=>?_) λ_ _ e=>e;exact cT ⟨_,rfl,x⟩
  .exact h.elim
 | _=>exact h.elim
theorem zaD {b:Bi}{xs:List Value}{vs:List V}{Q:V->Hp->Prop}(R:Ar A n FS) (I:aQ g Fz T H s) (r:bK Fz xs vs) (h:gr b vs H Q):wpAny g.M A (call (Ba b) xs) (bA g Fz T Q) E s:=by
 match vs,r,h with
 | [],_,h=>exact h.elim
 | [v],r,h=>
  refine bZ r.one λx j f=>?_;subst j;cases b with
  | abs=>exact zao I f h
  | len=>exact zaj R I f h
  | max=>exact h.elim
  | min=>exact zak R I f h
  | sum=>exact zal R I f h
  | str=>exact zam R I f h
  | int=>exact h.elim
  | ord=>exact zap I f h
  | chr=>exact h.elim
  | bytes=>exact zau R I f h
  | list=>exact zan R I f h
  | sorted=>exact zaC R I f h
 | [v,w],r,h=>
  refine mv r.two λx y l p u=>?_;subst l;cases b with
  | max=>exact zaq R I p u h
  | min=>exact zar R I p u h
  | _=>exact h.elim
 | _::_::_::_,_,h=>exact h.elim
end
end
section
open PySem PySem.W PyProof.Rows PySem.Calls PySem.Spec PySem.Builtin.Str
section
variable {g:Gd}{n:Nat}{c:Ctx}{A:di}{FS:List bH}{env:bH}{m:Loc}{Fz:AO}{T:TM}{H:Hp}{s:aR}{E:Value->aR->Prop}
theorem uS {h:eY}{a:bn}{f:d9->d9}:Hr a h (h.update a f):=λb o j e=>(eY.get?_update_ne _ _ _ _ j).trans e
theorem yH (I:aQ g Fz T H s){x:bn}{o:MO}(e:H x=some o):T x=none:=by
 cases q:T x with
 | none=>rfl
 | some p=>exact absurd q<|I.ht _ _ p e
theorem zaE {x:bn}{y:Value}{v:V}{Q:V->Hp->Prop}(I:aQ g Fz T H s) (r:VR Fz y v) (h:gZ (aB x) 0 [v] H Q):wpAny g.M A (call (dO "list.append") [aL x,y]) (bA g Fz T Q) E s:=by
 refine dj (show JZ x v H Q from h) λvs e h=>?_;have e:=D8 e;refine g3 (I.gB _ _ e) λxs k f j=>?_;have l:xs.size=vs.length:=by rw [<-j.length];simp
 refine HA Rg ⟨_,f,rfl⟩ zi2 ?_<|zi3 _ _;refine bg (m:=updateSeq x (·.push y)) ?_;refine wpAny_updateSeq f rfl (cT ⟨bO,rfl,?_⟩) (hz:=by rw [jE,l];exact WC h.1);refine ⟨Fz,_,cz, .refl _,I.put (o:=aO<|vs++[v]) (tk:=s.toks) (I.hf _ _ e rfl) (yH I e) uS ⟨_,_,CS f _,?_⟩ rfl,ua,h.2⟩;simpa using j.append (i4 r ct)
theorem zaF {x:bn}{y:Value}{v:V}{Q:V->Hp->Prop}(I:aQ g Fz T H s) (r:VR Fz y v) (h:gZ (aB x) 1 [v] H Q):wpAny g.M A (call (dO "list.extend") [aL x,y]) (bA g Fz T Q) E s:=by
 refine dj (show J0 x v H Q from h) λJ q h=>dj h λvs e h=>dj h λl L h=>?_;have e:=D8 e;rw [r.mR q];refine g3 (I.gB _ _ e) λxs k f p=>g3 (rT I L) λys k2 O u=>?_;have z:xs.size=vs.length:=by rw [<-p.length];simp
 have j:ys.size=l.length:=by rw [<-u.length];simp
 refine iw h λW p2 P=>?_;have U:¬(!xs.isEmpty && QR (xs.size+ys.size))=true:=by
  simp only [QR,fN,decide_eq_true_eq,not_and,jE];lia
 refine zM zi4 ⟨_,f,rfl⟩ PySem.F.entry_list_extend (PySem.F.args_list_extend_2 _ _) (AutoSeq1.list_extend_list_list_0 x xs k J ys k2 U (by rw [jE,z];exact WD p2)<|by rw [jE];exact WE z j p2) ⟨f,O,?_⟩;refine ⟨Fz,_,cz, .refl _,I.put (o:=aO<|vs++l) (tk:=s.toks) (I.hf _ _ e rfl) (yH I e) uS ⟨_,_,CS f _,?_⟩ rfl,ua,P⟩;simpa using p.append u
theorem Ls (s l:List Nat):((⟨l.toArray⟩:Str)==⟨s.toArray⟩)=(l==s):=by
 rw [Lf];by_cases h:l=s <;> simp [h]
theorem zaG (s:List Nat){t:i7}{xs:List Value}{ss:List (List Nat)}(h:xP xs (ss.map λl=>⟨l.toArray⟩)):xs.countP (CV ⟨s.toArray⟩)=ss.count s:=by
 induction ss generalizing xs with
 | nil=>cases h;rfl
 | cons l ss f=>
  cases h with
  | cons _ u h=>
   rw [rG,f h,Rh];show _+(if ((⟨l.toArray⟩:Str)==⟨s.toArray⟩)=true then 1 else 0)=_;rw [Ls]
theorem zaH {x:bn}{y:Value}{v:V}{Q:V->Hp->Prop}(I:aQ g Fz T H s) (r:VR Fz y v) (h:gZ (aB x) 2 [v] H Q):wpAny g.M A (call (dO "list.count") [aL x,y]) (bA g Fz T Q) E s:=by
 refine dj (show J1 x v H Q from h) λvs e h=>dj h λl q h=>dj h λss p h=>g3 (rT I e) λxs k f u=>r.nI q λt=>?_;have j:=uQ u p;refine zM zi5 ⟨_,f,rfl⟩ PySem.F.entry_list_count (PySem.F.args_list_count_2 _ _) (SeqAt.list_countAt x xs k none #[] (.str ⟨l.toArray⟩ t) (CV ⟨l.toArray⟩)) ⟨f,λy z=>(eq_isStrOf _ t j y<|zi6.mpr z).at _ _,?_⟩;rw [zaG l (t:=t) j];exact .at (I.tok _) (jk _ _) h
theorem zaI {l:List Nat}{vs:List Value}{ss:List (List Nat)}(h:xP vs (ss.map λl=>⟨l.toArray⟩)) (j:Nat) (p:j<vs.length) (f:j<ss.length):CV ⟨l.toArray⟩ vs[j]=(ss[j]==l):=by
 induction ss generalizing vs j with
 | nil=>exact absurd f<|QT j
 | cons a ss r=>
  cases h with
  | cons _ u h=>
   cases j with
   | zero=>exact Ls _ _
   | succ j=>exact r h j (Rf p)<|Rf f
theorem zaJ {x:bn}{y:Value}{v:V}{Q:V->Hp->Prop}(I:aQ g Fz T H s) (r:VR Fz y v) (h:gZ (aB x) 3 [v] H Q):wpAny g.M A (call (dO "list.index") [aL x,y]) (bA g Fz T Q) E s:=by
 refine dj (show J2 x v H Q from h) λvs e h=>dj h λl q h=>dj h λss O h=>dj h λP U h=>g3 (rT I e) λxs k L W=>r.nI q λt=>?_;have u:=uQ W O;obtain ⟨Z,hp,z⟩:=zi7.mp U;have hsz:ss.length=xs.size:=by have:=u.length;simpa using this.symm
 have f:∀ (j:Nat) (p:j<xs.size),CV ⟨l.toArray⟩ xs[j]=(ss[j]'(show j<ss.length from Ji hsz p)==l):=λj p=>zaI u j p (show j<ss.length from Ji hsz p);refine zM zi8 ⟨_,L,rfl⟩ PySem.F.entry_list_index (PySem.F.args_list_index_2 _ _) (SeqAt.list_indexAt x xs k none #[] (.str ⟨l.toArray⟩ t) (CV ⟨l.toArray⟩) P (by exact zi9 ‹_› ‹_›) (by have:=h.1;exact WF this)
  (by rw [f];exact hp) (λm hm J=>by rw [f];have:=z m J;simpa using this)) ⟨L,λy hy=>(eq_isStrOf _ t u y (zi6.mpr hy)).at _ _,?_⟩
 exact .at (I.tok _) (jk _ _) h.2
theorem Lu {f:List (Str×Value)}{kvs:List (List Nat×V)}{l:List Nat}{d:Value}{w:V}{Q:V->Hp->Prop}(p:nH Fz f kvs) (r:VR Fz d w) (h:Q ((kvs.lookup l).getD w) H):∃v,VR Fz ((Hw f ⟨l.toArray⟩).getD d) v/\Q v H:=by
 have j:=pairs_at (k:=l) p;cases e:kvs.lookup l with
 | none=>rw [e] at h;rw [j.2 e];exact ⟨w,r,h⟩
 | some v=>
  rw [e] at h;obtain ⟨u,y,z⟩:=j.1 v e;rw [y];exact ⟨v,z,h⟩
theorem zaK {x:bn}{y:Value}{v:V}{Q:V->Hp->Prop}(I:aQ g Fz T H s) (r:VR Fz y v) (h:gZ (aB x) 7 [v] H Q):wpAny g.M A (call (dO "dict.get") [aL x,y]) (bA g Fz T Q) E s:=by
 refine dj (show AR x v cz H Q from h) λl q h=>dj h λkvs e h=>r.nI q λt=>rR (I.gB _ _<|yy e) λlo z j p=>?_;obtain ⟨w,f,u⟩:=Lu p ua h;exact call_meetsIn Ri j.typeIs zja (PySem.F.args_dict_get_2 _ _) (meets_dict_get (CU g.prog g.w) x (A9 _ _) lo) ⟨_,j.mapOf, .at (I.tok _) f u⟩
theorem zaL {x:bn}{y z:Value}{v w:V}{Q:V->Hp->Prop}(I:aQ g Fz T H s) (r:VR Fz y v) (p:VR Fz z w) (h:gZ (aB x) 7 [v,w] H Q):wpAny g.M A (call (dO "dict.get") [aL x,y,z]) (bA g Fz T Q) E s:=by
 refine dj (show AR x v w H Q from h) λl q h=>dj h λkvs e h=>r.nI q λt=>rR (I.gB _ _<|yy e) λlo L j u=>?_;obtain ⟨w,f,J⟩:=Lu u p h;exact call_meetsIn Ri j.typeIs zja (PySem.F.args_dict_get_3 _ _ _) (meets_dict_get_default (CU g.prog g.w) x (A9 _ _) lo z) ⟨_,j.mapOf, .at (I.tok _) f J⟩
theorem Lv:∀ ss:List (List Nat),(Rj ⟨[].toArray⟩<|ss.map λl=>⟨l.toArray⟩).cps.toList=ss.flatten
 | []=>rfl
 | [l]=>by simp [Rj]
 | l::f::r=>by
  have j:=Lv (f::r);show ((l.toArray++#[])++(Rj ⟨[].toArray⟩ ((f::r).map λl:List Nat=>⟨l.toArray⟩)).cps).toList=_;rw [Array.toList_append,j];simp
theorem zaM {x:Value}{y:Value}{f:List Nat}{v:V}{Q:V->Hp->Prop}(I:aQ g Fz T H s) (j:VR Fz x (.str f)) (r:VR Fz y v) (h:gZ (.str f) 6 [v] H Q):wpAny g.M A (call (dO "str.join") [x,y]) (bA g Fz T Q) E s:=by
 refine dj (show J4 f v H Q from h) λF q k1=>dj k1 λvs e k2=>dj k2 λss l k3=>?_;clear h k1 k2;refine j.rU λt=>?_;rw [r.mR q];refine fX (jU I e) λJ p u L=>?_;obtain ⟨rfl,h⟩:=k3;have z:=uQ u l;refine join_list p z ?_ λO k=> .at (I.tok _) (.strOf ?_ _) h.2
 .have:=h.1;rw [QO] at this;simp only [lm,vQ,zL,jQ,Nat.mul_zero,zjb];exact this
 .show (Txt.join _ _).cps.toList=_;unfold Txt.join;rw [StrLaws.glued_eq_join];exact Lv ss
theorem m_split {x:Value}{y:Value}{u:List Nat}{v:V}{Q:V->Hp->Prop}(I:aQ g Fz T H s) (P:VR Fz x (.str u)) (r:VR Fz y v) (h:gZ (.str u) 5 [v] H Q):wpAny g.M A (call (dO "str.split") [x,y]) (bA g Fz T Q) E s:=by
 have z:∀ (l:List Nat) (f:List (List Nat)) (t j:i7),CW ⟨l.toArray⟩ (zR ⟨l.toArray⟩ ⟨[32].toArray⟩ 0 l.toArray.size<|l.toArray.size+1) 1=f.map (λp=>(⟨p.toArray⟩:Str))->
   (decide (l.toArray.size<1) || decide (zjc ⟨l.toArray⟩ <zjc ⟨[32].toArray⟩))=false->(zR ⟨l.toArray⟩ ⟨[32].toArray⟩ 0 l.toArray.size<|l.toArray.size+1).isEmpty=false->l.length<=100->f.length<=100->iQ (f.map V.str) H Q->
   wpAny g.M A (call (dO "str.split") [.str ⟨l.toArray⟩ t, .str ⟨[32].toArray⟩ j]) (bA g Fz T Q) E s:=by
  intro l f t j O U W hl Z hq;have hn:(CW ⟨l.toArray⟩ (zR ⟨l.toArray⟩ ⟨[32].toArray⟩ 0 l.toArray.size<|l.toArray.size+1) 1).length=f.length:=by rw [O];simp
  refine zM zjd (Hx _ _ _) PySem.F.entry_str_split (PySem.F.args_str_split_2 _ _) (meets_str_split_sep ⟨l.toArray⟩ ⟨[32].toArray⟩ t j U (by decide) W (by rw [jE];show l.toArray.size<=_;simp;exact qa ‹_› rfl) (by rw [jE];show (CW ⟨l.toArray⟩ (zR ⟨l.toArray⟩ ⟨[32].toArray⟩ 0 l.toArray.size (l.toArray.size+1)) 1).length<=_;rw [hn];exact qa ‹_› rfl)) ?_;show bA g Fz T Q (aL s.heap.objs.size) {s with toks:=s.toks+(CW ⟨l.toArray⟩ (zR ⟨l.toArray⟩ ⟨[32].toArray⟩ 0 l.toArray.size (l.toArray.size+1)) 1).length,heap:=s.heap.push {cls:=cq "list",data:=pK (strsFrom s.toks (CW ⟨l.toArray⟩ (zR ⟨l.toArray⟩ ⟨[32].toArray⟩ 0 l.toArray.size (l.toArray.size+1)) 1)).toArray}};rw [O];refine yE I ?_ hq;have:∀ (J:List (List Nat)) (k:Nat),bK Fz (strsFrom k (J.map λp=>(⟨p.toArray⟩:Str))) (J.map V.str):=by
   intro J;induction J with
   | nil=>intro k;exact ct
   | cons p J ih=>intro k;exact i4 (.La _ _)<|ih _
  exact this _ _
 refine dj (show J3 u v H Q from h) λt2 q hs=>?_;clear h;obtain ⟨rfl,h⟩:=hs;refine P.rU λt=>r.nI q λj=>?_;by_cases e:u=D2
 .rw [if_pos e] at h;subst e;exact z _ [[57],[80],[83],[86]] t j (by decide+kernel) (by decide+kernel) (by decide+kernel) (by decide) (by decide) h
 .rw [if_neg e] at h;by_cases L:u=D3
  .rw [if_pos L] at h;subst L;exact z _ [[80],[83],[86]] t j (by decide+kernel) (by decide+kernel) (by decide+kernel) (by decide) (by decide) h
  .rw [if_neg L] at h;exact h.elim
end
end
section
open PySem PySem.W PyProof.Rows PySem.Calls
structure At (g:Gd) (nn:Nat) (c:Ctx) (env:bH) (m:Loc) (A:di) (FS:List bH) (Fz:AO) (T:TM) (H:Hp) (s:aR):Prop where
 R:Ar A nn FS
 S:fS g T FS
 F:eI c env Fz T m
 I:aQ g Fz T H s
 sl:A.depth+4*nn+2<900/\A.units+40*nn+30<9000
theorem At.next {g:Gd}{nn:Nat}{c:Ctx}{env:bH}{m:Loc}{A:di}{FS:List bH}{Fz f:AO}{T:TM}{H j:Hp}{s p:aR}(a:At g nn c env m A FS Fz T H s) (l:Fz.le f) (I:aQ g f T j p):At g nn c env m A FS f T j p:=⟨a.R,a.S,a.F.mono l,I,a.sl⟩
def SE (g:Gd) (nn n:Nat):Prop:=∀ {c:Ctx}{e:Expr}{env:bH}{m:Loc}{A:di}{FS:List bH}{Fz:AO}{T:TM}{H:Hp}{s:aR}{E:Value->aR->Prop}{Q:V->Hp->Prop},
 At g nn c env m A FS Fz T H s->bu (bj g nn) (cE bz n c e) m H Q->wpAny g.M A (eval e env) (bA g Fz T Q) E s
def SB (g:Gd) (nn n:Nat):Prop:=∀ {c:Ctx}{e:Expr}{env:bH}{m:Loc}{A:di}{FS:List bH}{Fz:AO}{T:TM}{H:Hp}{s:aR}{E:Value->aR->Prop}{Q:Bool->Hp->Prop},
 At g nn c env m A FS Fz T H s->iR (bj g nn) (cB bz n c e) m H Q->wpAny g.M A (isTrue e env<|eval e env) (g4 g Fz T Q) E s
theorem bA.use {g:Gd}{A:di}{Fz:AO}{T:TM}{s:aR}{E:Value->aR->Prop}{t:lq Value}{Q:V->Hp->Prop}{R:Value->aR->Prop}(p:wpAny g.M A t (bA g Fz T Q) E s)
  (k:∀ f j v x u,Fz.le f->aQ g f T j u->VR f x v->Q v j->R x u):wpAny g.M A t R E s:=
 cW p (λ_ _ ⟨_,_,_,l,I,r,q⟩=>k _ _ _ _ _ l I r q) λ_ _ x=>x
theorem g4.use {g:Gd}{A:di}{Fz:AO}{T:TM}{s:aR}{E:Value->aR->Prop}{t:lq Bool}{Q:Bool->Hp->Prop}{R:Bool->aR->Prop}(p:wpAny g.M A t (g4 g Fz T Q) E s)
  (k:∀ f j b r,Fz.le f->aQ g f T j r->Q b j->R b r):wpAny g.M A t R E s:=
 cW p (λ_ _ ⟨_,_,l,I,q⟩=>k _ _ _ _ l I q) λ_ _ x=>x
theorem my.use {g:Gd}{A:di}{Fz:AO}{T:TM}{s:aR}{E:Value->aR->Prop}{t:lq (List Value)}{Q:List V->Hp->Prop}{R:List Value->aR->Prop}(p:wpAny g.M A t (my g Fz T Q) E s)
  (k:∀ f j vs xs u,Fz.le f->aQ g f T j u->bK f xs vs->Q vs j->R xs u):wpAny g.M A t R E s:=
 cW p (λ_ _ ⟨_,_,_,l,I,r,q⟩=>k _ _ _ _ _ l I r q) λ_ _ x=>x
section
variable {g:Gd}{nn n:Nat}{c:Ctx}{A:di}{FS:List bH}{env:bH}{m:Loc}{Fz:AO}{T:TM}{H:Hp}{s:aR}{E:Value->aR->Prop}
theorem zaN {k:zE}{f:Nat}{pos:b9}{Q:V->Hp->Prop}{Φ:bG}(a:At g nn c env m A FS Fz T H s) (h:bu Φ (JE k) m H Q):wpAny g.M A (eval (qr k f pos) env) (bA g Fz T Q) E s:=by
 cases k with
 | none=>exact wpAny_Constant_none<|.at a.I ua h
 | bool b=>exact wpAny_Constant_bool<|.at a.I (tZ b) h
 | int i=>exact wpAny_Constant_int<|.at (a.I.tok _) (jk _ _) h
 | str x=>exact wpAny_Constant_str<|.at (a.I.tok _) (.str _ _) h
 | bytes b=>exact Constant_bytes<|.at (a.I.tok _) (vM _ _) h
 | float _=>exact i6 h
 | complex _ _=>exact i6 h
 | ellipsis=>exact i6 h
theorem zaO {f:Ho}{o:qC}(h:DM f=some o):f=tq o:=by
 cases f <;> first | (cases h;rfl) | cases h
theorem zaP (f:SE g nn n){l r:Expr}{j:Ho}{o:qC}{pos:b9}{Q:V->Hp->Prop}(a:At g nn c env m A FS Fz T H s) (y:DM j=some o) (h:bu (bj g nn) (bq o (cE bz n c l)<|cE bz n c r) m H Q):
  wpAny g.M A (eval (.BinOp l j r pos) env) (bA g Fz T Q) E s:=by
 obtain rfl:=zaO y;conv at h=>whnf
 refine wpAny_BinOp<|bA.use (f a h) λP U v1 W Z u z F I=>bA.use (f (a.next u z) I) λF2 H2 v2 x2 s2 v J L O=>?_;exact cW (ZM J (F.mono v) L O) (λ_ _ p=>p.up<|u.trans v) λ_ _ x=>x
theorem zaQ (j:SE g nn n){x:Expr}{pos:b9}{Q:V->Hp->Prop}(a:At g nn c env m A FS Fz T H s) (h:bu (bj g nn) (mq<|cE bz n c x) m H Q):
  wpAny g.M A (eval (zt .USub x pos) env) (bA g Fz T Q) E s:=by
 conv at h=>whnf
 refine wpAny_UnaryOp<|bA.use (j a h) λu v v1 y z l p r f=>?_;cases v1 with
 | int i=>
  exact r.mQ λt=>zkJ<|(bA.at (p.tok _) (jk _ _) f).up l
 | _=>exact f.elim
theorem zaR (l:SE g nn n) (j:SB g nn n){t b o:Expr}{pos:b9}{Q:V->Hp->Prop}(a:At g nn c env m A FS Fz T H s) (h:bu (bj g nn) (dC (cB bz n c t) (cE bz n c b)<|cE bz n c o) m H Q):
  wpAny g.M A (eval (zr t b o pos) env) (bA g Fz T Q) E s:=by
 conv at h=>whnf
 refine wpAny_IfExp<|g4.use (j a h) λv y v1 z f r u=>?_;cases v1 with
 | true=>exact cW (l (a.next f r) u) (λ_ _ p=>p.up f) λ_ _ x=>x
 | false=>exact cW (l (a.next f r) u) (λ_ _ p=>p.up f) λ_ _ x=>x
theorem uT {e:Expr}{es:List Expr}(h:noStar e=true):rH (e::es) env=(false,eval e env)::rH es env:=by
 cases e <;> first | rfl | exact absurd (show false=true from h) je
theorem rW (p:SE g nn n){pos:b9}{es:List Expr}(f:es.all noStar=true){Fz:AO}{H:Hp}{s:aR}{Q:List V->Hp->Prop}(a:At g nn c env m A FS Fz T H s) (h:jg (bj g nn) (jn (cE bz n c) es) m H Q):
  wpAny g.M A (spliced<|uk pos<|rH es env) (my g Fz T Q) E s:=by
 induction es generalizing Fz H s Q with
 | nil=>exact spliced_nil ⟨Fz,H,[], .refl _,a.I,ct,h⟩
 | cons e es r=>
  have f:=(fN _ _).mp f;refine CX (bA.use (p a h) λP U v1 W Z j u v y=>my.use (r f.2 (a.next j u) y) λz F v2 x2 s2 l J L O=>?_)<|uT f.1;exact ⟨z,F,_,j.trans l,J,i4 (v.mono l) L,O⟩
theorem zaS (l:SE g nn n){es:List Expr}{pos:b9}{Q:V->Hp->Prop}(p:es.all noStar=true) (a:At g nn c env m A FS Fz T H s) (h:bu (bj g nn) (fo<|jn (cE bz n c) es) m H Q):
  wpAny g.M A (eval (.List es pos) env) (bA g Fz T Q) E s:=by
 conv at h=>whnf
 refine List_<|my.use (rW l p a h) λy z vs xs r u v f j=>?_;refine Hz ((yE (tk:=r.toks) v f j).up u) ?_;have:=j.1;rw [<-f.length] at this;rw [jE];exact this
theorem zaT (v:SE g nn n){es:List Expr}{pos:b9}{k:Nat}{Q:V->Hp->Prop}(y:es.all noStar=true) (a:At g nn c env m A FS Fz T H s) (h:bu (bj g nn) (ce<|jn (cE bz n c) es) m H Q):
  wpAny g.M A (eval (jD es k pos) env) (bA g Fz T Q) E s:=by
 conv at h=>whnf
 refine Tuple_<|my.use (rW v y a h) λz j vs xs f F l p r=>?_;have I:aQ g z T j {f with heap:=f.heap.push (pp xs.toArray 0)}:=l.grow (dr:=f.drawn) λb o e=>kU _ e;obtain ⟨J,u⟩:=I.freeze (a:=f.heap.objs.size) (o:=pp xs.toArray 0) l.fresh<|sK _ rfl;refine Rc ⟨_,j,d8 vs,F.trans u,J, .tup _ xs 0 vs (by simp)<|p.mono u,r.2⟩ ?_;have:=r.1;rw [<-p.length] at this;rw [jE];exact qa ‹_› rfl
theorem zaU (r:SE g nn n){u:BoolOp}{pos:b9}{es:List Expr}{Fz:AO}{H:Hp}{s:aR}{Q:V->Hp->Prop}(a:At g nn c env m A FS Fz T H s) (h:uL (bj g nn) (o7 u) (jn (cE bz n c) es) m H Q):
  wpAny g.M A (eval (vH u es pos) env) (bA g Fz T Q) E s:=by
 induction es generalizing Fz H s with
 | nil=>exact i6 h
 | cons e es y=>
  cases es with
  | nil=>exact BoolOp_one<|r a h
  | cons L es=>
   cases u with
   | And=>
    refine BoolOp_and<|bA.use (r a h) λz F v1 I J f l v j=>?_;cases v1 with
    | bool b=>
     refine v.Et<|zS ?_;cases b with
     | true=>exact cW (y (a.next f l) j) (λ_ _ p=>p.up f) λ_ _ x=>x
     | false=>exact (bA.at l (tZ _) j).up f
    | _=>exact j.elim
   | Or=>
    refine BoolOp_or<|bA.use (r a h) λz F v1 I J f l v j=>?_;cases v1 with
    | bool b=>
     refine v.Et<|zS ?_;cases b with
     | false=>exact cW (y (a.next f l) j) (λ_ _ p=>p.up f) λ_ _ x=>x
     | true=>exact (bA.at l (tZ _) j).up f
    | _=>exact j.elim
theorem zaV (f:lh):Ld (DP f)=f:=by cases f <;> rfl
theorem zaW {f:lh}{e:Expr}(h:sY e=false):Rk f e=false:=by
 cases e <;> first | rfl | cases h
theorem zaX {op:lh}{e:Expr}(h:(op== .In || op==tW)=false):Rk op e=false:=by
 cases e with
 | Set l k p=>
  show (k==0 && (op== .In || op==tW) && l.all (QJ 8))=false;rw [h,rI,zT]
 | _=>rfl
theorem zaY {f:lh}{e:Expr}(h:DQ f e=true):Rk f e=false:=by
 have h:=((fN _ _).mp h).1;cases q:sY e with
 | false=>exact zaW q
 | true=>
  rw [q,sL] at h;refine zaX ?_;cases f <;> first | rfl | cases h
theorem EB {j:lh}{f:List lh}{e:Expr}{es:List Expr}(h:o9 (j::f) (e::es)=true):DQ j e=true/\o9 f es=true:=(fN _ _).mp h
theorem Lw {f:List lh}{es:List Expr}(h:o9 f es=true):lastMarks f es=false:=by
 induction f generalizing es with
 | nil=>rfl
 | cons l f j=>
  cases es with
  | nil=>cases f <;> rfl
  | cons e es=>
   have h:=EB h;have j:=j h.2;cases f with
   | nil=>
    cases es with
    | nil=>exact zaY h.1
    | cons _ _=>exact j
   | cons _ _=>exact j
theorem Bd {f:lh}{x y:Value}{a b:V}{Q:Bool->Prop}(R:Ar A nn FS) (I:aQ g Fz T H s) (j:VR Fz x a) (l:VR Fz y b) (h:gq (DP f) a b H Q):wpAny g.M A (QU f x y) (Ev g Fz T H Q) E s:=by
 have:=Z0 (E:=E) R I j l h;rw [zaV] at this;exact this
theorem zaZ (L:SE g nn n){pos:b9}{f:List lh}{es:List Expr}{Fz:AO}{H:Hp}{s:aR}{x:Value}{v:V}{Q:Bool->Hp->Prop}(u:o9 f es=true) (a:At g nn c env m A FS Fz T H s) (r:VR Fz x v) (h:qI (bj g nn) v (uz (cE bz n c) f es) m H Q):
  wpAny g.M A (testChain pos x f<|CY es env) (g4 g Fz T Q) E s:=by
 induction f generalizing es Fz H s x v with
 | nil=>exact i6 h
 | cons op f O=>
  cases es with
  | nil=>exact i6 h
  | cons e es=>
   have u:=(EB u).2;cases f with
   | nil=>
    cases es with
    | nil=>
     refine test_last<|bA.use (L a h) λP U v1 W Z j I z J=>cW (Bd a.R I (r.mono j) z J) (λy s2 p=>?_) λ_ _ x=>x;refine fX p λb l F q=>?_;subst l;exact zS<|(g4.at F q).up j
    | cons _ _=>cases u
   | cons a0 f=>
    cases es with
    | nil=>cases u
    | cons e2 es=>
     refine test_link<|bA.use (L a h) λP U v1 W Z j I z J=>cW (Bd a.R I (r.mono j) z J) (λy s2 p=>?_) λ_ _ x=>x;refine fX p λb l F q=>?_;subst l;refine zS ?_;cases b with
     | true=>exact cW (O u (a.next j F) z q) (λ_ _ p=>p.up j) λ_ _ x=>x
     | false=>exact (g4.at F q).up j
theorem za0 (L:SE g nn n){pos:b9}{f:List lh}{es:List Expr}{Fz:AO}{H:Hp}{s:aR}{x:Value}{v:V}{Q:V->Hp->Prop}(u:o9 f es=true) (a:At g nn c env m A FS Fz T H s) (r:VR Fz x v) (h:qI (bj g nn) v (uz (cE bz n c) f es) m H (λr H=>Q (aZ r) H)):
  wpAny g.M A (compareChain pos x f<|CY es env) (bA g Fz T Q) E s:=by
 induction f generalizing es Fz H s x v with
 | nil=>exact i6 h
 | cons op f O=>
  cases es with
  | nil=>exact i6 h
  | cons e es=>
   have u:=(EB u).2;cases f with
   | nil=>
    cases es with
    | nil=>
     refine chain_last<|bA.use (L a h) λP U v1 W Z j I z J=>cW (Bd a.R I (r.mono j) z J) (λy s2 p=>?_) λ_ _ x=>x;refine fX p λb l F q=>?_;subst l;exact (bA.at F (tZ _) q).up j
    | cons _ _=>cases u
   | cons a0 f=>
    cases es with
    | nil=>cases u
    | cons e2 es=>
     refine chain_link<|bA.use (L a h) λP U v1 W Z j I z J=>cW (Bd a.R I (r.mono j) z J) (λy s2 p=>?_) λ_ _ x=>x;refine fX p λb l F q=>?_;subst l;refine zS ?_;cases b with
     | true=>exact cW (O u (a.next j F) z q) (λ_ _ p=>p.up j) λ_ _ x=>x
     | false=>exact (bA.at F (tZ _) q).up j
theorem za1 (j:SE g nn n){l:Expr}{f:List lh}{es:List Expr}{pos:b9}{Q:V->Hp->Prop}(r:o9 f es=true) (a:At g nn c env m A FS Fz T H s) (h:bu (bj g nn) (hM (cE bz n c l)<|uz (cE bz n c) f es) m H Q):
  wpAny g.M A (eval (vI l f es pos) env) (bA g Fz T Q) E s:=by
 conv at h=>whnf
 show wpAny g.M A (do compareChain pos (<-eval l env) f (markedEach f es<|CY es env)) _ _ _;rw [zje _ _ _<|Lw r];exact bg<|bA.use (j a h) λF I v1 J L u v y z=>cW (za0 j r (a.next u v) y z) (λ_ _ p=>p.up u) λ_ _ x=>x
theorem za2 (j:SE g nn n){l:Expr}{f:List lh}{es:List Expr}{pos:b9}{Q:Bool->Hp->Prop}(r:o9 f es=true) (a:At g nn c env m A FS Fz T H s) (h:iR (bj g nn) (aW (cE bz n c l)<|uz (cE bz n c) f es) m H Q):
  wpAny g.M A (isTrue (vI l f es pos) env<|eval (vI l f es pos) env) (g4 g Fz T Q) E s:=by
 conv at h=>whnf
 show wpAny g.M A (do testChain pos (<-eval l env) f (markedEach f es<|CY es env)) _ _ _;rw [zje _ _ _<|Lw r];exact bg<|bA.use (j a h) λF I v1 J L u v y z=>cW (zaZ j r (a.next u v) y z) (λ_ _ p=>p.up u) λ_ _ x=>x
theorem za3 {e:Expr}{x:Ex}{Q:Bool->Hp->Prop}(j:∀ {Q:V->Hp->Prop},bu (bj g nn) x m H Q->wpAny g.M A (eval e env) (bA g Fz T Q) E s)
  (l:isTrue e env (eval e env)=(do let v<-eval e env;CZ e.pos;holding [v]<|truthy v)) (h:iR (bj g nn) (fW x) m H Q):
  wpAny g.M A (isTrue e env<|eval e env) (g4 g Fz T Q) E s:=by
 conv at h=>whnf
 refine wpAny_isTrue_value (bA.use (j h) λy z v1 F I p r u f=>?_) l;cases v1 with
 | bool b=>
  exact u.Et<|zS<|(g4.at r f).up p
 | _=>exact f.elim
theorem za4 (f:SB g nn n){pos:b9}{W:lq Value}{es:List Expr}{Fz:AO}{H:Hp}{s:aR}{Q:Bool->Hp->Prop}(a:At g nn c env m A FS Fz T H s) (h:pg (bj g nn) (o8 (cB bz n c) es) m H Q):
  wpAny g.M A (isTrue (vH .And es pos) env W) (g4 g Fz T Q) E s:=by
 induction es generalizing Fz H s with
 | nil=>exact isTrue_and_nil<|.at a.I h
 | cons e es u=>
  refine isTrue_and<|g4.use (f a h) λv y v1 z j l r=>?_;cases v1 with
  | true=>exact cW (u (a.next j l) r) (λ_ _ p=>p.up j) λ_ _ x=>x
  | false=>exact (g4.at l r).up j
theorem za5 (f:SB g nn n){pos:b9}{W:lq Value}{es:List Expr}{Fz:AO}{H:Hp}{s:aR}{Q:Bool->Hp->Prop}(a:At g nn c env m A FS Fz T H s) (h:uM (bj g nn) (o8 (cB bz n c) es) m H Q):
  wpAny g.M A (isTrue (vH .Or es pos) env W) (g4 g Fz T Q) E s:=by
 induction es generalizing Fz H s with
 | nil=>exact isTrue_or_nil<|.at a.I h
 | cons e es u=>
  refine isTrue_or<|g4.use (f a h) λv y v1 z j l r=>?_;cases v1 with
  | false=>exact cW (u (a.next j l) r) (λ_ _ p=>p.up j) λ_ _ x=>x
  | true=>exact (g4.at l r).up j
noncomputable def EC (e:Expr):Bool:=match e with
 | zt .Not _ _=>false
 | vH .. =>false
 | zr .. =>false
 | vI .. =>false
 | _=>true
theorem za6 {T:jS}{n:Nat}{c:Ctx}{e:Expr}(h:EC e=true):cB T (n+1) c e=fW (cE T n c e):=by
 cases e with
 | UnaryOp f _ _=>cases f <;> first | rfl | cases h
 | _=>first | rfl | cases h
theorem za7 {e:Expr}(h:EC e=true):isTrue e env (eval e env)=(do let v<-eval e env;CZ e.pos;holding [v]<|truthy v):=by
 cases e with
 | UnaryOp f _ _=>cases f <;> first | rfl | cases h
 | _=>first | rfl | cases h
inductive wG:Expr->Prop where
 | not (x:Expr) (p:b9):wG (zt .Not x p)
 | bo (op:BoolOp) (vs:List Expr) (p:b9):wG (vH op vs p)
 | ite (t b o:Expr) (p:b9):wG (zr t b o p)
 | cmp (l:Expr) (ops:List lh) (cs:List Expr) (p:b9):wG (vI l ops cs p)
 | val (e:Expr) (h:EC e=true):wG e
theorem za8 (e:Expr):wG e:=by
 cases e with
 | UnaryOp f x p=>cases f <;> first | exact .not x p | exact .val _ rfl
 | BoolOp f vs p=>exact .bo f vs p
 | IfExp t b o p=>exact .ite t b o p
 | Compare l j r p=>exact .cmp l j r p
 | _=>exact .val _ rfl
theorem za9 (z:SE g nn n) (f:SB g nn n):SB g nn (n+1):=by
 intro c e env m A FS Fz T H s E Q a h;cases za8 e with
 | not x p=>exact isTrue_not<|g4.use (f a h) λI J v1 L j u v=>(g4.at u v).up j
 | bo O vs pos=>
  cases O with
  | And=>exact za4 f a h
  | Or=>exact za5 f a h
 | ite t b o pos=>
  refine bg<|g4.use (f a h) λI J v1 L j u v=>?_;cases v1 with
  | true=>exact cW (f (a.next j u) v) (λ_ _ p=>p.up j) λ_ _ x=>x
  | false=>exact cW (f (a.next j u) v) (λ_ _ p=>p.up j) λ_ _ x=>x
 | cmp l r F pos=>
  change iR (bj g nn) (match o9 r F with | true=>_ | false=>_) m H Q at h;cases y:o9 r F with
  | true=>rw [y] at h;exact za2 z y a h
  | false=>rw [y] at h;exact i6 h
 | val e q=>
  rw [za6 q] at h;exact za3 (z a) (za7 q) h
end
structure Lx (K:iG) (C:Nat):Prop where
 ga:jR K (aL C) "__getattribute__" =some (some (dO "object.__getattribute__"))
 gt:jR K (aL C) "__getattr__" =some none
 sa:jR K (aL C) "__setattr__" =some (some (dO "object.__setattr__"))
 po:plainOver K C=true
 hd:(sT K C).any (·.hasDict)=true
 at_:∀ x,attrOk C x=true->jR K (aL C) (attrName x)=some none
 mak:makesIn K C=true
 kp:vV K (aL C)=true
 ED:∀ f,yq C=some f->jR K (aL C) "__init__" =some (some (aL f))/\zU K (aL f)=some (cq "function")
def qO (i:Nat):Str:=ww.getD i ""
structure ef (g:Gd):Prop where
 cls:∀ C,(C==125 || C==153 || C==310 || C==423)=true->Lx g.K C
 yl:∀ C i f,gf C i=some f->(C==125 || C==153 || C==310 || C==423)=true/\jR g.K (aL C) (qO i)=some (some (aL f))/\zU g.K (aL f)=some (cq "function")/\vV g.K (aL f)=true
 fns:∀ x f,bz.fns.lookup x=some f->gJ g.K eP x=some (some<|aL f)/\vV g.K (aL f)=true
 wp:∀ x C,bz.wp.lookup x=some C->gJ g.K eP x=some (some<|aL C)/\(C==125 || C==153 || C==310 || C==423)=true
 wq:∀ x v,bz.wq.lookup x=some v->∃val,gJ g.K eP x=some (some val)/\VR g.h₀.get? val v
 sX:∀ x b,bz.sX.lookup x=some b->gJ g.K eP x=some none/\xL x=some (Ba b)/\x≠ "__name__"
 Ly:gJ g.K eP "range" =some none
 zip:gJ g.K eP "zip" =some none
 Lz:gJ g.K eP "enumerate" =some none
theorem EE (k x:Str) (t:i7):(Q3 k t).isStr x=(k==x):=rfl
theorem LA:uC.length=34:=by decide
theorem LC {i j:Nat}(l:i<34) (p:j<34) (h:attrName i=attrName j):i=j:=by
 have f:∀ i,i<34->∀ j,j<34->attrName i=attrName j->i=j:=by decide+kernel
 exact f i l j p h
theorem yI {P:nr}{Fz:AO}{M:List lI->List (Nat×V)->Prop}(j:M [] []) (l:∀ {e es p f t},p.1<34->e.key= .str (attrName p.1) t->VR Fz e.val p.2->mx P Fz es f->M es f->M (e::es) (p::f)){es:List lI}{f:List (Nat×V)}(r:mx P Fz es f):M es f:=by
 induction es generalizing f with
 | nil=>cases f with
  | nil=>exact j
  | cons _ _=>exact r.elim
 | cons e es u=>cases f with
  | nil=>exact r.elim
  | cons p f=>exact r.2.1.elim λt v=>l r.1 v r.2.2.1 r.2.2.2<|u r.2.2.2
theorem LF {P:nr}{Fz:AO}{es:List lI}{f:List (Nat×V)}(r:mx P Fz es f):es.any (·.refKey)=false:=
 yI (M:=λes _=>es.any (·.refKey)=false) rfl (λ{e es p f t} _ j _ _ l=>by
  rw [lY,l];unfold lI.refKey;rw [j];rfl) r
theorem LG {P:nr}{Fz:AO}{x:Nat}(j:x<34){es:List lI}{f:List (Nat×V)}(r:mx P Fz es f):
  (∀ v,f.lookup x=some v->∃e,es.find? (·.key.isStr (attrName x))=some e/\VR Fz e.val v)/\(f.lookup x=none->es.find? (·.key.isStr (attrName x))=none):=
 yI (M:=λes f=>(∀ v,f.lookup x=some v->∃e,es.find? (·.key.isStr (attrName x))=some e/\VR Fz e.val v)/\(f.lookup x=none->es.find? (·.key.isStr (attrName x))=none)) ⟨(λv h=>nomatch h),(λ_=>rfl)⟩ (λ{e es p f t} l u y _ z=>by
  obtain ⟨k,v⟩:=p;rw [j9,QY,u,EE];by_cases h:x=k
  .subst h;rw [beq_self_eq_true,beq_self_eq_true];exact ⟨(λF h=>⟨e,rfl,kH h▸y⟩),(λh=>nomatch h)⟩
  .rw [beq_eq_false_iff_ne.mpr h,beq_eq_false_iff_ne.mpr λq=>h (LC j l q.symm)];exact z) r
theorem zba {P:nr}{Fz:AO}{y:Str}(l:y ∉ uC){es:List lI}{f:List (Nat×V)}(r:mx P Fz es f):es.find? (·.key.isStr y)=none:=
 yI (M:=λes _=>es.find? (·.key.isStr y)=none) rfl (λ{e es p f t} u v _ _ z=>by
  rw [QY,v,EE,beq_eq_false_iff_ne.mpr λq=>l (by
   rw [<-q];unfold attrName;have j:p.1<uC.length:=by rw [LA];exact u
   rw [sP,lJ j];exact vW j)]
  exact z) r
theorem zbb {P:nr}{Fz:AO}{x:Nat}{f:Value}{v:V}{EF:Int}{t:i7}(y:x<34) (z:VR Fz f v){es:List lI}{j:List (Nat×V)}(r:mx P Fz es j):
  mx P Fz (lZ (attrName x) EF (.str (attrName x) t) f es) (i9 j x v):=
 yI (M:=λes j=>mx P Fz (lZ (attrName x) EF (.str (attrName x) t) f es)<|i9 j x v) ⟨y,⟨t,rfl⟩,z,trivial⟩ (λ{e es p j F} l I u r J=>by
  obtain ⟨k,L⟩:=p;unfold lZ i9;rw [I,EE];by_cases h:k=x
  .subst h;rw [beq_self_eq_true,if_pos rfl,if_pos rfl];exact ⟨l,⟨F,rfl⟩,z,r⟩
  .rw [beq_eq_false_iff_ne.mpr λq=>h (LC l y q),if_neg h];exact ⟨l,⟨F,I⟩,u,J⟩) r
theorem zbc {P:nr}{Fz:AO}{es:List lI}{f:List (Nat×V)}(r:mx P Fz es f):es.length=f.length:=
 yI (M:=λes f=>es.length=f.length) rfl (λ_ _ _ _ j=>congrArg (·+1) j) r
theorem zbd (f:List (Nat×V)) (x:Nat) (v:V):(i9 f x v).length<=f.length+1:=by
 induction f with
 | nil=>exact dM _
 | cons p r j=>
  unfold i9;split
  .exact qz _
  .simp only [eQ];exact C0 ‹_›
theorem EG {C x:Nat}(h:attrOk C x=true):x<34/\(C==125 || C==153 || C==310 || C==423)=true:=by
 unfold attrOk at h;rw [fN,fN] at h;exact ⟨of_decide_eq_true h.2,h.1.1⟩
theorem VR.handed {Fz:AO}{x:Value}{v:V}(r:VR Fz x v):Rl x=true:=by cases r <;> rfl
section
variable {g:Gd}{nn n:Nat}{c:Ctx}{A:di}{FS:List bH}{env:bH}{m:Loc}{Fz:AO}{T:TM}{H:Hp}{s:aR}{E:Value->aR->Prop}
theorem aQ.K (G:g.Ok) (I:aQ g Fz T H s):g.K.In s.heap:=λa o e=>I.iI _ _<|I.old _ _<|G.K _ _ e
theorem EH (I:aQ g Fz T H s){a C d:Nat}{f:List (Nat×V)}(l:H a=some (fG C d)) (p:H d=some (bP f)):
  ∃es k,InstAt s.heap a (HB C d) C (some<|gY es k)/\s.heap.get? d=some (gY es k)/\mx g.w.params Fz es f:=by
 have u:s.heap.get? a=some (HB C d):=I.gB _ _ l;exact g3 (I.gB _ _ p) λes k j r=>⟨es.toList,k,⟨u,rfl,rfl,j⟩,j,r⟩
theorem zbe (G:g.Ok) (TK:ef g){x:Value}{o:V}{i:Nat}{expr:Bool}{Q:V->Hp->Prop}(I:aQ g Fz T H s) (r:VR Fz x o) (h:yw o i H Q):
  wpAny g.M A (getAttr x (attrName i) expr) (bA g Fz T Q) E s:=by
 refine dj h λa q h=>?_;obtain ⟨⟨C,d⟩,u,h⟩:=wA h;refine dj h λP y h=>dj h λv z h=>?_;rw [r.mR q];refine mv (EH I (D9 u)<|yz y) λes k F U J=>?_;obtain ⟨L,O⟩:=EG h.1;have CF:=TK.cls C O;refine bZ ((LG L J).1 v z) λZ j p=>bZ (any_some CF.hd) λcd l f=>get_value (I.K G) F CF.ga ?_ p.handed<|(bA.at (I.tok _) p h.2);unfold HC zjf;rw [l];simp only [ul,CF.at_ i h.1,f,if_true];rw [lookIn_dict];unfold getL;rw [j];rfl
theorem zbf (G:g.Ok) (TK:ef g){x y:Value}{o v:V}{i:Nat}{Q:Hp->Prop}(I:aQ g Fz T H s) (r:VR Fz x o) (U:VR Fz y v) (h:th o i v H Q):
  wpAny g.M A (setAttr x (attrName i) y) (λ_=>K7 g Fz T Q) E s:=by
 refine dj h λa q h=>?_;obtain ⟨⟨C,d⟩,W,h⟩:=wA h;refine dj h λL u h=>?_;rw [r.mR q];refine mv (EH I (D9 W)<|yz u) λes k z F O=>?_;obtain ⟨Z,hC⟩:=EG h.1;have CF:=TK.cls C hC;refine bZ (any_some CF.hd) λcd J j=>?_;have P:=I.tok<|s.toks+1;refine Rm (I.K G) z CF.sa<|osa_open (s:={s with toks:=s.toks+1}) (r:=none) (P.K G) z CF.po ?_ λb=>?_
 .unfold vX;rw [CF.at_ i h.1];rfl
 .have hx:=z.at_;refine bg<|cT<|bg<|bg<|C1 hx<|bg<|(HD (P.K G) J).here ?_;rw [j];refine cT (a:=some d)<|bg<|cT<|bg ?_;refine bg<|bg<|zjg<|cT<|bg<|C2<|bg<|C1 F ?_;dsimp only;have c:(!es.toArray.any (·.key.isStr (attrName i)) && es.toArray.any (·.refKey))=false:=by rw [<-HE,<-HE,show es.toArray.toList=es from rfl,LF O,rI]
  rw [zjh,c];refine zji F ?_;have f:=putName_dict (attrName i) (lK g.w.params<|attrName i) (.str (attrName i)<|s.toks+1) y es k;have l:(s.heap.update d<|d9.putName (attrName i) (lK g.w.params<|attrName i) (.str (attrName i)<|s.toks+1) y).get? d=some (gY (lZ (attrName i) (lK g.w.params<|attrName i) (.str (attrName i)<|s.toks+1) y es)<|qA (attrName i) es k):=by
   rw [xS _ F (by rw [f];rfl),f]
  have p:=zbb (EF:=lK g.w.params<|attrName i) (t:=s.toks+1) Z U O;have hz:(lZ (attrName i) (lK g.w.params<|attrName i) (.str (attrName i)<|s.toks+1) y es).length<=1001:=by
   rw [zbc p];have:=zbd L i v;have:=h.2.1;lia
  refine bg (zjj l (zjk<|by rw [zL,jE];exact qa ‹_› rfl) ?_);refine cT ?_;exact ⟨Fz,_, .refl _,I.put (o:=bP<|i9 L i v) (I.hf _ _ (yz u) rfl) (yH I<|yz u) uS ⟨_,_,l,p⟩ rfl,h.2.2⟩
noncomputable def LI (e:Expr):Bool:= !n8 e.ctorIdx 26
theorem zbg {e:Expr}(h:LI e=true) (o i:Value):sM e false o i=sN [o,i] (sO o i):=by
 cases e <;> first | rfl | cases h
theorem zbh (f:SE g nn n){o i:Expr}{pos:b9}{Q:V->Hp->Prop}(hs:LI i=true) (a:At g nn c env m A FS Fz T H s) (h:bu (bj g nn) (c5 (cE bz n c o)<|cE bz n c i) m H Q):
  wpAny g.M A (eval (rq o i pos) env) (bA g Fz T Q) E s:=by
 conv at h=>whnf
 refine Subscript_<|bA.use (f a h) λI J v1 L O j r u v=>bA.use (f (a.next j r) v) λP U v2 W Z l y z F=>?_;exact cW (Z8 a.R y (u.mono l) z F<|zbg hs) (λ_ _ p=>p.up<|j.trans l) λ_ _ x=>x
def cO (n:Nat) (c:Ctx) (e:Option Expr):Ox:=uA (cE bz n c) e
inductive wH (g:Gd) (Fz:AO) (T:TM) (Q:Option V->Hp->Prop) (x:Value) (s:aR):Prop
 | mk (fu:AO) (H':Hp) (v:Option V) (l:Fz.le fu) (I:aQ g fu T H' s) (r:rV fu x v) (q:Q v H')
theorem wH.use {t:lq Value}{Q:Option V->Hp->Prop}{R:Value->aR->Prop}(p:wpAny g.M A t (wH g Fz T Q) E s)
  (k:∀ f j v x u,Fz.le f->aQ g f T j u->rV f x v->Q v j->R x u):wpAny g.M A t R E s:=
 cW p (λ_ _ ⟨_,_,_,l,I,r,q⟩=>k _ _ _ _ _ l I r q) λ_ _ x=>x
theorem rV.mono {A B:AO}(l:A.le B){x:Value}{v:Option V}(r:rV A x v):rV B x v:=by
 cases v with
 | none=>exact r
 | some v=>exact VR.mono l r
theorem EI (f:SE g nn n){e:Option Expr}{Q:Option V->Hp->Prop}(a:At g nn c env m A FS Fz T H s) (h:rP (bj g nn) (cO n c e) m H Q):wpAny g.M A (evalPart e env) (wH g Fz T Q) E s:=by
 cases e with
 | none=>
  rw [evalPart_none];exact cT ⟨Fz,H,none, .refl _,a.I,rfl,h⟩
 | some e=>
  rw [evalPart_some];exact bA.use (f a<|show bu (bj g nn) (cE bz n c e) m H _ from h) λj l v1 y z p r u v=>⟨j,l,some v1,p,r,u,v⟩
theorem zbi (j:SE g nn n){o:Expr}{l u st:Option Expr}{p pos:b9}{Q:V->Hp->Prop}(a:At g nn c env m A FS Fz T H s) (h:bu (bj g nn) (lG (cE bz n c o) (cO n c l) (cO n c u)<|cO n c st) m H Q):
  wpAny g.M A (eval (rq o (xE l u st p) pos) env) (bA g Fz T Q) E s:=by
 conv at h=>whnf
 refine Subscript_ (bA.use (j a h) λF1 H1 v1 F s1 r J L O=>wpAny_Slice (wH.use (EI j (a.next r J) O) λF2 H2 v2 x2 s2 v P U W=>
  wH.use (EI j (a.next (r.trans v) P) W) λF3 H3 v3 x3 s3 y Z r3 h3=>wH.use (EI j (a.next ((r.trans v).trans y) Z) h3) λF4 H4 v4 x4 I z I4 r4 h4=>?_))
 have ex:∃f,sM (xE l u st p) false F (aL I.heap.objs.size)=sN f (sO F<|aL I.heap.objs.size):=by
  cases st with
  | none=>exact ⟨_,rfl⟩
  | some _=>exact ⟨_,rfl⟩
 obtain ⟨f,hs⟩:=ex;exact cW (zae I4 (L.mono<|(v.trans y).trans z) (U.mono<|y.trans z) (r3.mono z) r4 h4 hs) (λ_ _ p=>p.up<|r.trans<|(v.trans y).trans z) λ_ _ x=>x
theorem Be {l:List Str}{x:Str}{i:Nat}(h:idOf l x=some i):l.getD i "" =x/\i<l.length:=by
 obtain ⟨f,j,_⟩:=zi7.mp h;refine ⟨?_,f⟩;rw [sP,lJ f];exact beq_iff_eq.mp j
theorem zbj (G:g.Ok) (TK:ef g) (f:SE g nn n){o:Expr}{x:Str}{i:Nat}{pos:b9}{Q:V->Hp->Prop}(j:DR o=true) (l:idOf bz.attrs x=some i) (a:At g nn c env m A FS Fz T H s) (h:bu (bj g nn) (bF (cE bz n c o) i) m H Q):
  wpAny g.M A (eval (j2 o x pos) env) (bA g Fz T Q) E s:=by
 conv at h=>whnf
 have r:attrName i=x:=(Be l).1;refine Attribute_any_ (bA.use (f a h) λF I v1 J L u v y z=>?_) ?_
 .rw [<-r];exact cW (zbe G TK v y z) (λ_ _ p=>p.up u) λ_ _ x=>x
 .clear h a f;cases o <;> first | rfl | cases j
theorem LJ {env:bH}{pos:b9}(j:List (Option Expr)):∀ {vs:List Expr}{l:List (List Nat×List Nat)},AD j vs=some l->
  (evalEachOpt j env).zip ((CY vs env).map λv=>do let x<-v;CZ pos;dP x)=(l.map λp=>((HF ⟨p.1.toArray⟩:lq Value),(do let x<-HF ⟨p.2.toArray⟩;CZ pos;dP x:lq Value))).map λp=>(some p.1,p.2):=by
 induction j with
 | nil=>
  intro vs l h;cases vs with
  | nil=>cases h;rfl
  | cons _ _=>cases h
 | cons k j y=>
  intro vs l h;cases vs with
  | nil=>cases h
  | cons v vs=>
   refine kM ((show k.bind _=some l from h)) λP u h=>?_;subst u;refine kM h λa z h=>kM h λb F h=>ot h λr I=>AS (Eg z) λk1 J f=>?_;subst f;refine AS (Eg F) λk2 p2 f=>?_;subst f;have e:=y I;have L:(⟨(zjl a.cps).toArray⟩:Str)=a:=by simp
   have O:(⟨(zjl b.cps).toArray⟩:Str)=b:=by simp
   simp only [eF,L,O];show (some<|eval (qr (.str a) k1 J) env,_)::(evalEachOpt j env).zip _=_;rw [e];rfl
theorem LK {prog:nt}{w:j8}{pos:b9}:∀ {l:List (List Nat×List Nat)}{s:aR}{Q:List (Value×Value)->aR->Prop},
  (∀ vs tk,Carries (CU prog w) vs (vs.zipWith (λv p=>((⟨p.1.toArray⟩:Str),v.2)) l)->(∀ Fz,nH Fz (vs.zipWith (λv p=>((⟨p.1.toArray⟩:Str),v.2)) l)<|l.map λp=>(p.1,V.str p.2))->Q vs {s with toks:=tk})->
  wpAny (fO prog w) A (evalPairs<|l.map λp=>((HF ⟨p.1.toArray⟩:lq Value),(do let x<-HF ⟨p.2.toArray⟩;CZ pos;dP x:lq Value))) Q E s
 | [],s,Q,h=>evalPairs_nil<|h [] s.toks trivial λ_=> .nil
 | p::l,s,Q,h=>by
  rw [eF];refine evalPairs_cons<|C2<|bg<|C2<|bg<|sU<|cT<|LK λvs tk f j=>?_;exact h _ tk ⟨strKind_is _ _ _ _,rfl,f⟩ λFz=> .cons (.La _ _)<|j Fz
theorem zbk {Fz:AO}{f:List (Str×Value)}{kvs:List (List Nat×V)}(r:nH Fz f kvs) (h:(kvs.map (·.1)).Nodup):(f.map (·.1)).Nodup:=by
 have e:=EA r;rw [<-e] at h;have:(f.map (·.1)).map (λx:Str=>x.cps.toList)=f.map λp=>p.1.cps.toList:=by rw [lm];rfl
 rw [<-this] at h;exact zkK _ (λa b q e=>q<|by rw [e]) h
theorem zbl (G:g.Ok){j:List (Option Expr)}{vs:List Expr}{l:List (List Nat×List Nat)}{pos:b9}{Q:V->Hp->Prop}(r:AD j vs=some l) (hz:l.length<=15) (a:At g nn c env m A FS Fz T H s) (h:bu (bj g nn) (vL l) m H Q):
  wpAny g.M A (eval (.Dict j vs pos) env) (bA g Fz T Q) E s:=by
 conv at h=>whnf
 have F:=a.I.fresh;have lo:(s.heap.objs.size==sysModules)=false:=by
  refine g3 G.low λb o y e=>?_;have:=sS<|a.I.iI _ _<|a.I.old _ _ e;rw [beq_eq_false_iff_ne];exact Hs<|xN y this
 by_cases O:l=[]
 .subst O;have Z:=LJ (env:=env) (pos:=pos) j r;have z:j=[]/\vs=[]:=by
   cases j with
   | nil=>cases vs with | nil=>exact ⟨rfl,rfl⟩ | cons _ _=>cases r
   | cons k j=>
    cases vs with
    | nil=>cases r
    | cons v vs=>
     refine kM ((show k.bind _=some [] from r)) λke _ h=>kM h λa _ h=>kM h λb _ h=>oq h λ_ _ q=>?_;cases q
  obtain ⟨rfl,rfl⟩:=z;refine wpAny_Dict_empty ⟨Fz,_,aB _, .refl _,a.I.put (o:=gd []) (tk:=s.toks) F.f F.t ((zJ _ _).push _) ⟨lo,[],?_, .nil⟩ rfl,mJ _,h.2 _ F.h⟩;exact zjm _
 .refine wpAny_Dict_pairs (knd:=CU g.prog g.w) (LJ j r) (by simpa using O) (by simpa using hz)<|LK λJ tk U W=>?_;refine ⟨_,U,zjm _,λh' P hs=>?_⟩
  .have u:=W Fz;have L:((l.map λp=>(p.1,V.str p.2)).map (·.1)).Nodup:=by rw [lm];exact h.1
   rw [merged_nil_of_nodup _<|zbk u L] at P;refine ⟨Fz,_,aB _, .refl _,a.I.put (o:=gd<|l.map λp=>(p.1,V.str p.2)) (tk:=tk+J.length) F.f F.t (λb o y e=>hs.extBut b o y<|kU _ e) ⟨lo,_,P,u⟩ rfl,mJ _,h.2 _ F.h⟩
theorem LM {env:bH}{pos:b9}{as:List Expr}(h:as.all noStar=true):(uk pos<|rH as env).any (·.1)=false:=by
 induction as with
 | nil=>rfl
 | cons e es f=>
  have h:=(fN _ _).mp h;rw [uT h.1];exact f h.2
theorem qe {M:rD}{env:bH}{f:Value}{first:List Value}{as:List Expr}{pos:b9}{P:eY->Prop}{Q:Value->aR->Prop}
  (l:∀ h,P h->∃k,(k=HG\/k=HH\/k=HI)/\rJ M h (HJ f) k) (p:as.all noStar=true)
  (h:wpAny M A (spliced<|uk pos<|rH as env) (λvs j=>P j.heap/\wpAny M A (call f<|first++vs) Q E j) E s):
  wpAny M A (Rn pos f first (uk pos<|rH as env) []) Q E s:=by
 cases as with
 | nil=>
  refine callWith_of rfl l ?_;have h':wpAny M A (spliced []) (λvs j=>P j.heap/\wpAny M A (call f<|first++vs) Q E j) E s:=h;refine bg<|cW h' (λvs r h'=>?_) λ_ _ x=>x;refine oZ ?_;exact bg<|cT<|bg<|cT<|cT h'
 | cons e es=>
  have hs:=LM (env:=env) (pos:=pos) p;rw [uT ((fN _ _).mp p).1] at h hs ⊢;exact callWith_of (by show ((_:Bool) || false)=false;rw [hs];rfl) l<|evalArgs_plain h
theorem zbm {M:rD}{b:Bi}(h:eY) (_:True):∃k,(k=HG\/k=HH\/k=HI)/\rJ M h (HJ<|Ba b) k:=
 ⟨.machine,aX<|ba rfl,C3<|by cases b <;> rfl⟩
set_option tactic.hygienic true in
theorem zbn (G:g.Ok) (TK:ef g) (l:SE g nn n){x:Str}{b:Bi}{as:List Expr}{p pos:b9}{Q:V->Hp->Prop}(f:DL bz c x=some b) (j:as.all noStar=true) (a:At g nn c env m A FS Fz T H s)
  (h:bu (bj g nn) (cA b<|jn (cE bz n c) as) m H Q):wpAny g.M A (eval (iX (cH x p) as [] pos) env) (bA g Fz T Q) E s:=by
 unfold DL at f;split at f
 .rename_i r;refine iw (TK.sX x b f) λu v y=>?_;conv at h=>whnf
  refine vY<|yD G a.I a.F r u v y ?_;refine qe (P:=λ_=>True) (zbm) j<|my.use (rW l j a h) λU W vs xs Z z J L O=>⟨trivial,?_⟩;exact cW (zaD a.R J L O) (λ_ _ p=>p.up z) λ_ _ x=>x
 .cases f
theorem LP {f:Nat}{vs:List V}{xs:List Value}{R:V->Hp->Prop}{Q:V->Hp->Prop}(a:At g nn c env m A FS Fz T H s) (r:bK Fz xs vs) (h:bj g nn f vs H R bR) (k:∀ v j,R v j->Q v j):
  wpAny g.M A (call (aL f) xs) (bA g Fz T Q) E s:=by
 refine vZ<|C4 (h A FS Fz T s xs a.R a.S a.I r) λq F z=>?_;refine mv z λl p u y z=>?_;cases q with
 | ok f=>cases f with
  | ret x=>exact z.elim λv z=>⟨l,p,v,u,y,z.1,k _ _ z.2⟩
  | _=>exact z.elim
 | error e=>exact z.elim λv z=>z.2.elim
set_option tactic.hygienic true in
theorem zbo (G:g.Ok) (TK:ef g) (v:SE g nn n){x:Str}{f:Nat}{as:List Expr}{p pos:b9}{Q:V->Hp->Prop}(j:fnOf bz c x=some f) (l:as.all noStar=true) (a:At g nn c env m A FS Fz T H s)
  (h:bu (bj g nn) (cw f<|jn (cE bz n c) as) m H Q):wpAny g.M A (eval (iX (cH x p) as [] pos) env) (bA g Fz T Q) E s:=by
 unfold fnOf at j;split at j
 .rename_i y;obtain ⟨z,J⟩:=TK.fns x f j;conv at h=>whnf
  refine vY<|wB G a.I a.F y z ?_;refine qe (P:=g.K.In) (C5 J) l<|my.use (rW v l a h) λU W vs xs Z r u L O=>⟨u.K G,?_⟩;exact cW (LP (a.next r u) L O λ_ _ q=>q) (λ_ _ p=>p.up r) λ_ _ x=>x
 .cases j
theorem LS (C:bn) (f:List Value):(A.under (vE "type.__call__" ⟨aL C::f,[]⟩))={A with depth:=A.depth+1,units:=A.units+(HK "type.__call__" ⟨aL C::f,[]⟩).cUnits}:=rfl
theorem LU (C:bn) (f:List Value):(HK "type.__call__" ⟨aL C::f,[]⟩).cUnits<=10:=by
 have e:(HK "type.__call__" ⟨aL C::f,[]⟩).frames=0:=by rfl
 show 1+3*(HK "type.__call__" ⟨aL C::f,[]⟩).frames<=10;rw [e];decide
set_option tactic.hygienic true in
theorem zbp (G:g.Ok) (TK:ef g) (ih:SE g nn n){x:Str}{C:Nat}{as:List Expr}{p pos:b9}{Q:V->Hp->Prop}(r:DK bz c x=some C) (U:as.all noStar=true) (a:At g nn c env m A FS Fz T H s)
  (h:bu (bj g nn) (sA C<|jn (cE bz n c) as) m H Q):wpAny g.M A (eval (iX (cH x p) as [] pos) env) (bA g Fz T Q) E s:=by
 unfold DK at r;split at r
 .rename_i hg;obtain ⟨e1,e2⟩:=TK.wp x C r;have CF:=TK.cls C e2;conv at h=>whnf
  refine vY<|wB G a.I a.F hg e1 ?_;refine qe (P:=g.K.In) (C5 CF.kp) U<|my.use (rW ih U a h) λL W vs xs s1 l1 u r1 O=>⟨u.K G,?_⟩;split at O
  .rename_i f hf;obtain ⟨i1,i2⟩:=CF.ED f hf;obtain ⟨j,gs,dr,tk,os⟩:=s1;have X:=u.K G;refine vZ<|make_core (makes_of X CF.mak) (zV X i1) (λself=>bind_fn X self i2) (ba rfl) ?_;have F:=u.fresh;have Z:aQ g L T (aN W j.objs.size<|bP []) ⟨j.push um,gs,dr,tk,os⟩:=
    u.put (o:=bP []) (h':=j.push um) (tk:=tk) F.f F.t ((zJ _ _).push _) ⟨#[],0,sK _ rfl,trivial⟩ rfl
   have J:=Z.fresh;have hsz:(j.push um).objs.size=j.objs.size+1:=Ro ..;rw [hsz] at J;have I3:aQ g L T (aN (aN W j.objs.size<|bP []) (j.objs.size+1)<|fG C j.objs.size) ⟨(j.push um).push (HB C j.objs.size),gs,dr,tk,os⟩:=
    Z.put (o:=fG C j.objs.size) (h':=(j.push um).push (HB C j.objs.size)) (tk:=tk) J.f J.t ((zJ _ _).push _) (by rw [<-hsz];exact sK _ rfl) rfl
   have l:j.objs.size+1≠j.objs.size:=Nat.succ_ne_self _;have h2:=O (j.objs.size+1) j.objs.size l (by have:=J.h;unfold aN at this;rw [if_neg l] at this;exact this) F.h;have hu:=LU C xs;have R':Ar (A.under (vE "type.__call__" ⟨aL C::xs,[]⟩)) nn FS:=by
    rw [LS];refine ⟨a.R.hd,?_,?_,a.R.fr⟩
    .have:=a.sl.1;show A.depth+1+4*nn<900;exact VD this
    .have:=a.sl.2;show A.units+_+40*nn<9000;exact VE hu this
   refine C4 (h2 _ FS L T _ (aL (j.objs.size+1)::xs) R' a.S I3<|i4 (mJ _) r1) λq s' z=>?_;refine mv z λF4 H4 l4 I4 z=>?_;cases q with
   | ok f=>cases f with
    | ret y=>
     obtain ⟨v,r4,z9⟩:=z;cases v with
     | none=>obtain rfl:=r4.none_inv;exact ⟨rfl,F4,H4,_,l1.trans l4,I4,mJ _,z9⟩
     | _=>exact z9.elim
    | _=>exact z.elim
   | error e=>exact z.elim λv z=>z.2.elim
  .exact O.elim
 .cases r
theorem LV {o:Expr}{name:Str}{f pos:b9}{as:List Expr}{Q:Value->aR->Prop}(L:DS o=true) (O:as.all noStar=true) (hz:as.length<8) (p:(f.endLine==pos.line)=true)
  (h:wpAny g.M A (eval o env) (λJ j=>wpAny g.M A (Rp J name<|do return (<-importBound o env).getD true) (λF l=>wpAny g.M A (Rn pos F.1 F.2 (uk pos<|rH as env) []) Q E l) E j) E s):
  wpAny g.M A (eval (iX (j2 o name f) as [] pos) env) Q E s:=by
 have r:attributeBase o name env (eval o env)=eval o env:=by clear h;cases o <;> first | rfl | cases L
 rw [arm_eval_Call,r];refine bg<|cW h (λJ j v=>?_) λ_ _ e=>e;refine bg<|sU ?_;have u:methodCallForm (as.length+([]:List uf).length) (uk pos<|rH as env) (backToKw pos<|keywordEach [] env)=true:=by
  have P:((uk pos<|rH as env).all λx=>!x.1)=true:=by
   have:=LM (env:=env) (pos:=pos) O;rw [mM];intro x U;have I:=Rq.mp this x U;simpa using I
  have W:decide (as.length+([]:List uf).length+(if ([]:List uf).isEmpty then 0 else 1)<30)=true:=by simp;exact qa ‹_› rfl
  show ((uk pos<|rH as env).all (λx=>!x.1) && (backToKw pos<|keywordEach [] env).all (λx=>x.1.isSome) && decide (as.length+([]:List uf).length+(if ([]:List uf).isEmpty then 0 else 1)<30))=true;rw [P,W];rfl
 have y:methodCallPos true o env f pos=dP pos:=by unfold methodCallPos;simp [p]
 unfold methodCall;rw [u];refine bg<|oZ<|cW v (λF l z=>?_) λ_ _ e=>e;exact bg<|uh y z
theorem EJ {x:Str}{i:Nat}(h:idOf bz.meths x=some i):qO i=x/\ww[i]?=some x:=by
 obtain ⟨l,p⟩:=Be h;refine ⟨l,?_⟩;have f:ww.getD i "" =x:=l;have j:i<ww.length:=p;rw [sP,lJ j] at f;rw [lJ j];exact congrArg some f
theorem zbq {P:nr}{x:Str}{i:Nat}{es:List lI}{l:List (Nat×V)}{k:Nat}(u:idOf bz.meths x=some i) (r:mx P Fz es l) (h:l.lookup (yp i)=none):shadowIn (some<|gY es k) x=some false:=by
 show (zI x<|gY es k).map _=_;rw [lookIn_dict];have v:es.find? (·.key.isStr x)=none:=by
  unfold yp at h;rw [(EJ u).2] at h;simp only at h;cases q:uC.findIdx? (·==x) with
  | some j=>
   rw [q] at h;obtain ⟨y,p⟩:=Be q;rw [LA] at p;have f:attrName j=x:=y;rw [<-f];exact (LG p r).2 h
  | none=>
   refine zba (λz=>?_) r;have:=List.findIdx?_eq_none_iff.mp q x z;simp at this
 unfold getL;rw [v,LF r];rfl
noncomputable def Bf (i:Nat):String:=if i=0 then "list.append" else if i=1 then "list.extend" else if i=2 then "list.count" else "list.index"
structure yJ (T:String) (x:Str) (id:String):Prop where
 pa:PlainAttrs T
 sl:Slot T x id
 ty:HL (dO id)=dP (cq "method_descriptor")
theorem LW {P:Nat->Prop}(f:P 0) (j:P 1) (l:P 2) (p:P 3){i:Nat}(h:i<4):P i:=by
 cases i with
 | zero=>exact f
 | succ i=>cases i with
  | zero=>exact j
  | succ i=>cases i with
   | zero=>exact l
   | succ i=>cases i with
    | zero=>exact p
    | succ i=>exact absurd h<|qw.mpr<|Rr 4 i
theorem zbr {i:Nat}(f:i<4):yJ "list" (qO i) (Bf i):=
 LW (P:=λi=>yJ "list" (qO i) (Bf i)) ⟨HM,Rg,PySem.F.type_list_append⟩ ⟨HM,zi4,PySem.F.type_list_extend⟩ ⟨HM,zi5,PySem.F.type_list_count⟩ ⟨HM,zi8,PySem.F.type_list_index⟩ f
theorem LX {M:rD}{id:String}(h:eY) (_:True):∃k,(k=HG\/k=HH\/k=HI)/\rJ M h (HJ<|dO id) k:=
 ⟨.machine,aX<|ba rfl,C3 rfl⟩
theorem EK {vs:List V}{o:V}{i:Nat}{Q:V->Hp->Prop}(h:gZ o i vs H Q) (f:i≠7):∃v,vs=[v]:=by
 cases vs with
 | nil=>exact h.elim
 | cons v r=>
  cases r with
  | nil=>exact ⟨v,rfl⟩
  | cons w r=>
   cases r with
   | cons _ _=>exact h.elim
   | nil=>
    cases o with
    | ref x=>change (if i=7 then _ else False) at h;rw [if_neg f] at h;exact h.elim
    | _=>exact h.elim
theorem zbs {i x:Nat}{vs:List V}{xs:List Value}{Q:V->Hp->Prop}(l:i<4) (I:aQ g Fz T H s) (r:bK Fz xs vs) (h:gZ (aB x) i vs H Q):
  wpAny g.M A (call (dO<|Bf i)<|[aL x]++xs) (bA g Fz T Q) E s:=by
 obtain ⟨v,rfl⟩:=EK h (by rintro rfl;exact absurd l<|by decide);refine bZ r.one λy j f=>?_;subst j;exact LW (P:=λi=>gZ (aB x) i [v] H Q->wpAny g.M A (call (dO<|Bf i)<|[aL x]++[y]) (bA g Fz T Q) E s) (λh=>zaE I f h) (λh=>zaF I f h) (λh=>zaH I f h) (λh=>zaJ I f h) l h
theorem zbt {x:Nat}{vs:List V}{xs:List Value}{Q:V->Hp->Prop}(I:aQ g Fz T H s) (r:bK Fz xs vs) (h:gZ (aB x) 7 vs H Q):
  wpAny g.M A (call (dO "dict.get") ([aL x]++xs)) (bA g Fz T Q) E s:=by
 cases vs with
 | nil=>exact h.elim
 | cons v w=>
  cases w with
  | nil=>
   refine bZ r.one λy f j=>?_;subst f;exact zaK I j h
  | cons w u=>
   cases u with
   | nil=>
    refine mv r.two λy z l j p=>?_;subst l;exact zaL I j p h
   | cons _ _=>exact h.elim
def wI (g:Gd) (A:di) (env:bH) (o:Expr) (as:List Expr) (pos:b9) (x:Str) (P:Value->aR->Prop) (E:Value->aR->Prop) (l:Value) (s:aR):Prop:=
 wpAny g.M A (Rp l x<|do return (<-importBound o env).getD true) (λj f=>wpAny g.M A (Rn pos j.1 j.2 (uk pos<|rH as env) []) P E f) E s
section
variable {o:Expr}{as:List Expr}{pos:b9}{x:Str}{Q:V->Hp->Prop}
theorem Bg (z:SE g nn n) (u:as.all noStar=true) (a:At g nn c env m A FS Fz T H s){v id:String}(b:yJ v x id){j:Value}(F:s.TypeIs j v) (I:∀ a,j=aL a->∃o,s.heap.get? a=some o/\o.dict=none){R:List V->Hp->Prop}(h:jg (bj g nn) (jn (cE bz n c) as) m H R)
  (k:∀ f l vs xs r,Fz.le f->aQ g f T l r->bK f xs vs->R vs l->wpAny g.M A (call (dO id)<|[j]++xs) (bA g f T Q) E r):wI g A env o as pos x (bA g Fz T Q) E j s:=by
 refine getMethod_builtin F b.pa b.sl b.ty I ?_;refine qe (P:=λ_=>True) LX u<|my.use (rW z u a h) λf l vs xs r y J L O=>⟨trivial,?_⟩;exact cW (k f l vs xs r y J L O) (λ_ _ p=>p.up y) λ_ _ x=>x
theorem zbu (l:SE g nn n) (p:as.all noStar=true) (a:At g nn c env m A FS Fz T H s){i y:Nat}(r:qO i=x) (f:i<4){vs:List V}(e:be H y=some vs) (h:jg (bj g nn) (jn (cE bz n c) as) m H (λvs u=>gZ (aB y) i vs u Q)):
  wI g A env o as pos x (bA g Fz T Q) E (aL y) s:=by
 refine g3 (rT a.I e) λxs k j _=>?_;exact Bg l p a (r▸zbr f) ⟨_,j,rfl⟩ (λb q=>by cases q;exact ⟨_,j,rfl⟩) h λJ L vs xs O P v z F=>zbs f v z F
theorem zbv (j:SE g nn n) (l:as.all noStar=true) (a:At g nn c env m A FS Fz T H s){y:Nat}(p:qO 7=x){kvs:List (List Nat×V)}(e:qG (H y)=some kvs) (h:jg (bj g nn) (jn (cE bz n c) as) m H (λvs r=>gZ (aB y) 7 vs r Q)):
  wI g A env o as pos x (bA g Fz T Q) E (aL y) s:=by
 refine rR (a.I.gB _ _<|yy e) λlo J f _=>?_;exact Bg j l a (p▸⟨PySem.F.plainAttrs_dict,Ri,PySem.F.type_dict_get⟩) f.typeIs f.mapOf.noDict h λL O vs xs P U u v z=>zbt u v z
theorem zbw (J:SE g nn n) (L:as.all noStar=true) (a:At g nn c env m A FS Fz T H s){i:Nat}{l:List Nat}{O:Value}(p:VR Fz O (.str l)) (P:qO i=x) (U:i=5\/i=6) (h:jg (bj g nn) (jn (cE bz n c) as) m H (λvs W=>gZ (.str l) i vs W Q)):
  wI g A env o as pos x (bA g Fz T Q) E O s:=by
 obtain ⟨t,rfl⟩:=p.str_inv;rcases U with rfl | rfl
 .refine Bg J L a (P▸(show yJ "str" (qO 5) "str.split" from ⟨zjn,zjd,PySem.F.type_str_split⟩)) (Hx _ _ _) (λ_ e=>nomatch e) h λZ H2 vs xs s2 r u z j=>?_;obtain ⟨v,rfl⟩:=EK j (by decide);refine bZ z.one λy f I=>?_;subst f;exact m_split u (p.mono r) I j
 .refine Bg J L a (P▸(show yJ "str" (qO 6) "str.join" from ⟨zjn,PySem.F.slot_str_join,PySem.F.type_str_join⟩)) (Hx _ _ _) (λ_ e=>nomatch e) h λZ H2 vs xs s2 r u z j=>?_;obtain ⟨v,rfl⟩:=EK j (by decide);refine bZ z.one λy f I=>?_;subst f;exact zaM u (p.mono r) I j
theorem zbx (G:g.Ok) (TK:ef g) (F:SE g nn n) (j:as.all noStar=true) (a:At g nn c env m A FS Fz T H s){i y f:Nat}{q:Nat×Nat}{l:List (Nat×V)}(r:idOf bz.meths x=some i) (J:pf (H y)=some q) (L:ud (H q.2)=some l) (O:gf q.1 i=some f) (U:l.lookup (yp i)=none)
  (h:jg (bj g nn) (jn (cE bz n c) as) m H (λvs W=>bj g nn f (aB y::vs) W Q bR)):wI g A env o as pos x (bA g Fz T Q) E (aL y) s:=by
 refine qK (TK.yl q.1 i f O) λZ u m2 m3=>?_;have CF:=TK.cls q.1 Z;refine mv (EH a.I (D9 J)<|yz L) λes k IA hd ra=>?_;rw [(EJ r).1] at u;refine method_fn (a.I.K G) IA CF.ga CF.gt u m2 (zbq r ra U) ?_;refine qe (P:=g.K.In) (C5 m3) j<|my.use (rW F j a h) λF2 H2 vs xs s2 v z r2 h3=>⟨z.K G,?_⟩;exact cW (LP (a.next v z) (i4 (mJ _) r2) h3 λ_ _ q=>q) (λ_ _ p=>p.up v) λ_ _ x=>x
theorem zby (G:g.Ok) (TK:ef g) (p:SE g nn n) (r:as.all noStar=true) (a:At g nn c env m A FS Fz T H s){i:Nat}(u:idOf bz.meths x=some i){v:Value}{v1:V}(z:VR Fz v v1) (h:rO (bj g nn) v1 i H λF=>jg (bj g nn) (jn (cE bz n c) as) m H λvs I=>F vs I Q):
  wI g A env o as pos x (bA g Fz T Q) E v s:=by
 have j:=(EJ u).1;refine pY h (λy q h=>?_) λh=>dj h λl q h=>zbw p r a (AV q▸z) j h.1<|AV q▸h.2;obtain rfl:=J8 q;refine z.nJ ?_;refine pY h (λq J h=>dj h λU L h=>dj h λf O h=>zbx G TK p r a u J L O h.1 h.2) λh=>?_;exact pY h (λvs e h=>zbu p r a j h.1 e h.2) λh=>dj h λkvs e h=>by
  obtain ⟨P,h⟩:=h;subst P;exact zbv p r a j e h
end
theorem zbz (G:g.Ok) (TK:ef g) (f:SE g nn n){o:Expr}{x:Str}{i:Nat}{as:List Expr}{j pos:b9}{Q:V->Hp->Prop}(u:DS o=true) (v:idOf bz.meths x=some i) (l:as.all noStar=true) (hz:as.length<8) (y:(j.endLine==pos.line)=true)
  (a:At g nn c env m A FS Fz T H s) (h:bu (bj g nn) (cv (cE bz n c o) i<|jn (cE bz n c) as) m H Q):wpAny g.M A (eval (iX (j2 o x j) as [] pos) env) (bA g Fz T Q) E s:=
 LV u l hz y (bA.use (f a h) λJ L v1 O P r z F I=>cW (zby G TK f l (a.next r z) v F I) (λ_ _ p=>cW p (λ_ _ p=>p.up r) λ_ _ x=>x) λ_ _ x=>x)
end
def TM.add (T G:TM):TM:=λa=>match G a with
 | some p=>some p
 | none=>T a
def Apart (T G:TM):Prop:=∀ a p,G a=some p->T a=none
noncomputable def one (I:bn) (p:dX):TM:=λa=>if a=I then some p else none
theorem TM.rX {T G:TM}(h:Apart T G){a:bn}{p:dX}(e:T a=some p):(T.add G) a=some p:=by
 unfold TM.add;cases q:G a with
 | none=>exact e
 | some p'=>rw [h a p' q] at e;cases e
theorem TM.dJ {T G:TM}{a:bn}{p:dX}(e:G a=some p):(T.add G) a=some p:=by unfold TM.add;rw [e]
theorem TM.jx {T G:TM}{a:bn}(e:G a=none):(T.add G) a=T a:=by unfold TM.add;rw [e]
section
variable {g:Gd}{nn n:Nat}{c:Ctx}{A:di}{FS:List bH}{env:bH}{m:Loc}{Fz:AO}{T G G':TM}{H:Hp}{s:aR}{E:Value->aR->Prop}
theorem aQ.nK {f:TM}(I:aQ g Fz T H s) (l:∀ a p,f a=some p->T a=some p):aQ g Fz f H s:=
 ⟨I.old,I.iI,λa p e=>I.cI a p<|l a p e,I.gB,λa p e=>I.ft a p<|l a p e,I.hf,λa o p e q=>I.ht a o p e<|l a p q,I.gens,I.os⟩
theorem aQ.zbA (I:aQ g Fz (T.add G) H s) (h:Apart T G):aQ g Fz T H s:=I.nK λ_ _ e=>TM.rX h e
theorem aQ.rY (I:aQ g Fz T H s) (h:∀ a p,G a=some p->gL Fz T H a/\p.holds s.heap a):aQ g Fz (T.add G) H s where
 old:=I.old
 iI:=I.iI
 cI:=λa p e=>by
  cases q:G a with
  | none=>rw [TM.jx q] at e;exact I.cI a p e
  | some p'=>rw [TM.dJ q] at e;cases e;exact (h a _ q).2
 gB:=I.gB
 ft:=λa p e=>by
  cases q:G a with
  | none=>rw [TM.jx q] at e;exact I.ft a p e
  | some p'=>exact (h a _ q).1.f
 hf:=I.hf
 ht:=λa o p e r=>by
  cases q:G a with
  | none=>rw [TM.jx q] at r;exact I.ht a o p e r
  | some p'=>rw [(h a _ q).1.h] at e;cases e
 gens:=I.gens
 os:=I.os
theorem Bh (I:aQ g Fz (T.add G) H s) (h:Apart T G){a:bn}{p:dX}(e:G a=some p):gL Fz T H a:=by
 refine ⟨I.ft a p<|TM.dJ e,h a p e,?_⟩;cases q:H a with
 | none=>rfl
 | some o=>exact absurd (TM.dJ e)<|I.ht a o p q
theorem aQ.uU (I:aQ g Fz (T.add G) H s) (h:Apart T G) (hs:∀ a,(G' a).isSome=true->(G a).isSome=true){h':eY}{tk:Nat}(j:∀ b o,G b=none->s.heap.get? b=some o->h'.get? b=some o)
  (l:∀ a p,G' a=some p->p.holds h' a):aQ g Fz (T.add G') H {s with heap:=h',toks:=tk}:=by
 have u:aQ g Fz T H {s with heap:=h',toks:=tk}:=(I.zbA h).step (dr:=s.drawn) λb o e q=>j b o (by
  cases r:G b with
  | none=>rfl
  | some p=>
   have F:=Bh I h r;rcases q with q | q | q
   .exact absurd F.f q
   .exact absurd F.t q
   .exact absurd F.h q) e
 refine u.rY λa p e=>?_;obtain ⟨p',v⟩:=nv.mp (hs a<|by rw [e];rfl);exact ⟨Bh I h v,l a p e⟩
theorem aQ.tz (I:aQ g Fz (T.add G) H s) (h:Apart T G){h':eY}{tk:Nat}(f:∀ b o,G b=none->s.heap.get? b=some o->h'.get? b=some o):aQ g Fz T H {s with heap:=h',toks:=tk}:=
 (I.uU (G':=λ_=>none) h (λa e=>by cases e) f λa p e=>by cases e).nK λa p e=>e
theorem eI.qP {r:TM}(F:eI c env Fz T m) (l:∀ a p,T a=some p->r a=some p):eI c env Fz r m:=by
 obtain ⟨a,b,d,u,e,f,⟨v,es,ep,y,z,I,J⟩,h,i,j,k,lt,L⟩:=F;exact ⟨a,b,d,u,e,f,⟨v,es,ep,l _ _ y,z,I,J⟩,
  λx i p q=>let ⟨ca,O,P,U,W,Z,z4⟩:=h x i p q;⟨ca,O,P,U,l _ _ W,Z,z4⟩,i,j,k,lt,L⟩
theorem fS.qP {f:TM}(S:fS g T FS) (l:∀ a p,T a=some p->f a=some p):fS g f FS:=
 ⟨λenv h=>let ⟨a,L,o,b,d,e⟩:=S.all env h;⟨a,L,o,b,l _ _ d,e⟩⟩
structure oU (g:Gd) (A:di) (target:Expr) (it:Value) (G:Nat->TM) (items:List V) (yK:List (Nat×List V)) (LY:AO):Prop where
 item:∀ {i:Nat}{v:V}{T:TM}{Fz:AO}{H:Hp}{s:aR}{E:Value->aR->Prop}{R:Value->aR->Prop},items[i]?=some v->LY.le Fz->Apart T (G i)->aQ g Fz (T.add<|G i) H s->l6 yK H->
  (∀ fu s' x,Fz.le fu->aQ g fu (T.add<|G<|i+1) H s'->VR fu x v->R x s')->
  wpAny g.M A (C6 it) (λr s1=>∃x,r=some x/\wpAny g.M A (wc target it x) (λ_ s2=>R x s2) E s1) E s
 stop:∀ {i:Nat}{T:TM}{Fz:AO}{H:Hp}{s:aR}{E:Value->aR->Prop}{R:aR->Prop},i=items.length->LY.le Fz->Apart T (G i)->aQ g Fz (T.add<|G i) H s->l6 yK H->
  (∀ s',aQ g Fz T H s'->R s')->wpAny g.M A (C6 it) (λr s1=>r=none/\R s1) E s
 self:∀ {T:TM}{Fz:AO}{H:Hp}{s:aR}{E:Value->aR->Prop}{R:Value->aR->Prop},Apart T (G 0)->aQ g Fz (T.add<|G 0) H s->R it s->wpAny g.M A (xT it) R E s
 rZ:∀ i a,(G i a).isSome=(G 0 a).isSome
 nl:∀ i a p,G i a=some p->∀ o,p≠fq o
theorem oU.apart {f:Expr}{l:Value}{G:Nat->TM}{items:List V}{j:List (Nat×List V)}{r:AO}(S:oU g A f l G items j r) (h:Apart T (G 0)) (i:Nat):Apart T (G i):=λa p e=>by
 have:=S.rZ i a;rw [e] at this;obtain ⟨q,u⟩:=nv.mp this.symm;exact h a q u
noncomputable def EL (e:Expr):Bool:=n8 e.ctorIdx (zjo<|jD [] 0 bM) || n8 e.ctorIdx (zjo<|.List [] bM)
theorem zbB {f:Expr}{j v:Value}(h:EL f=false):wc f j v=dP ():=by
 cases f <;> first | rfl | cases h
theorem zbC {f:Expr}{j v:Value}(h:EL f=true):wc f j v=wc (jD [] 0 bM) j v:=by
 cases f <;> first | rfl | cases h
theorem Bj {f:Expr}{I:bn}{x:Value}{n:String}{vs:Array Value}{o:d9}{Q:Unit->aR->Prop}(j:s.heap.get? I=some o) (l:o.cls=cq n) (p:o.data=fj vs)
  (r:["enumerate", "zip", "dict_itemiterator", "dict_reverseitemiterator", "odict_iterator", "itertools.zip_longest", "itertools.pairwise"].contains n=false) (h:Q () s):wpAny g.M A (wc f (aL I) x) Q E s:=by
 cases q:EL f with
 | false=>rw [zbB q];exact cT h
 | true=>
  rw [zbC q];cases x with
  | ref a=>
   refine bg (m:=load I)<|wpAny_load j ?_;rw [l,p];dsimp only;rw [r,zT];exact cT h
  | _=>exact cT h
theorem wJ {f:Type}{c:Prop} [Decidable c] {x p:f}{r:Option f}(h:(if c then some x else r)=some p):(c/\p=x)\/r=some p:=by
 by_cases q:c
 .exact ba ⟨q,(kH<|(if_pos q).symm.trans h).symm⟩
 .exact aX<|(if_neg q).symm.trans h
theorem EM {f:Type}{c:Prop} [Decidable c] {x p:f}(h:(if c then some x else none)=some p):c/\p=x:=(wJ h).resolve_right (λq=>nomatch q)
noncomputable def ow (l i:Nat):dX:=qt λo=>o.cls=cq "list_iterator" /\o.data=fj #[aL l,eD i 0]
noncomputable def CC (l i:Nat):dX:=qt λo=>o.cls=cq "tuple_iterator" /\o.data=fj #[aL l,eD i 0]
theorem kY {I a:bn}{p q:dX}(e:one I p a=some q):a=I/\q=p:=EM e
theorem qQ {I a:bn}{p:dX}(e:one I p a=none):a≠I:=by
 unfold one at e;intro h;rw [if_pos h] at e;cases e
theorem kh (I:bn) (p:dX):one I p I=some p:=if_pos rfl
theorem zbD (F:A.handled=none){j:Expr}{I a:Nat}{vs:List V}{J:AO}:oU g A j (aL I) (λi=>one I<|ow a i) vs [(a,vs)] J where
 item:=by
  intro i v T Fz H s E R L O y I hs k;refine fX (jU I hs.1) λxs u r hz=>?_;have f:s.heap.IsListIter _ a i:=I.cI _ _<|TM.dJ<|kh _ _;refine bZ (r.get L) λx P U=>wpAny_pyNext_list_item f u (by simpa using P) λh' l z=>⟨x,rfl,?_⟩;have W:=I.uU (G':=one _<|ow a<|i+1) (tk:=s.toks) y (λb e=>by obtain ⟨p,e⟩:=nv.mp e;rw [(kY e).1,kh];rfl) (λb o e q=>z.extBut b o (qQ e) q)
   (λb p e=>by obtain ⟨rfl,rfl⟩:=kY e;exact l)
  exact fX l λo Z hc hd=>Bj Z hc hd (by decide)<|k Fz _ x (.refl _) W U
 stop:=by
  intro i T Fz H s E R hi O y I hs k;refine fX (jU I hs.1) λxs u r hz=>?_;have f:s.heap.IsListIter _ a i:=I.cI _ _<|TM.dJ<|kh _ _;refine wpAny_pyNext_list_end F f u (by rw [zW];exact IX hi hz) λh' hk=>⟨rfl,k _<|I.tz (tk:=s.toks) y λb o e q=>hk b o (qQ e) q⟩
 self:=by
  intro T Fz H s E R y I k;have f:s.heap.IsListIter _ a 0:=I.cI _ _<|TM.dJ<|kh _ _;exact wpAny_pyIter_listiter f k
 rZ:=λi b=>by unfold one;split <;> rfl
 nl:=λi b p e o q=>by obtain ⟨rfl,rfl⟩:=kY e;cases q
theorem zbE (P:A.handled=none){j:Expr}{I a k:Nat}{xs:List Value}{vs:List V}{z:AO}(L:z a=some (pp xs.toArray k)) (O:bK z xs vs):oU g A j (aL I) (λi=>one I<|CC a i) vs [] z where
 item:=by
  intro i v T Fz H s E R U u y I hs F;have r:s.heap.IsTuple a xs.toArray:=I.ou<|u _ _ L;have f:s.heap.IsTupleIter _ a i:=I.cI _ _<|TM.dJ<|kh _ _;refine bZ (O.get U) λx W Z=>wpAny_pyNext_tuple_item f r (by simpa using W) λh' l J=>⟨x,rfl,?_⟩;have I':=I.uU (G':=one _<|CC a<|i+1) (tk:=s.toks) y (λb e=>by obtain ⟨p,e⟩:=nv.mp e;rw [(kY e).1,kh];rfl) (λb o e q=>J.extBut b o (qQ e) q)
   (λb p e=>by obtain ⟨rfl,rfl⟩:=kY e;exact l)
  exact fX l λo ho hc hd=>Bj ho hc hd (by decide)<|F Fz _ x (.refl _) I'<|Z.mono u
 stop:=by
  intro i T Fz H s E R hi u y I hs F;have r:s.heap.IsTuple a xs.toArray:=I.ou<|u _ _ L;have f:s.heap.IsTupleIter _ a i:=I.cI _ _<|TM.dJ<|kh _ _;refine wpAny_pyNext_tuple_end P f r (by rw [zW];rw [hi,<-O.length];simp) λh' hk=>⟨rfl,F _<|I.tz (tk:=s.toks) y λb o e q=>hk b o (qQ e) q⟩
 self:=by
  intro T Fz H s E R y I k;have f:s.heap.IsTupleIter _ a 0:=I.cI _ _<|TM.dJ<|kh _ _;exact wpAny_pyIter_tupleiter f k
 rZ:=λi b=>by unfold one;split <;> rfl
 nl:=λi b p e o q=>by obtain ⟨rfl,rfl⟩:=kY e;cases q
noncomputable def Bk (f:String) (x:Str) (t:i7) (i:Nat):dX:=qt λo=>o.cls=cq f/\o.data=fj #[.str x t,eD i 0]
theorem zbF (O:A.handled=none){l:Expr}{J:Nat}{x:Str}{t:i7}{W:AO}:oU g A l (aL J) (λi=>one J<|Bk (kW x) x t i) (x.cps.toList.map λc=>V.str [c]) [] W where
 item:=by
  intro i v T Fz H s E R P Z y I hs k;have f:s.heap.IsStrIter J (kW x) x t i:=I.cI _ _<|TM.dJ<|kh _ _;rw [pQ] at P;obtain ⟨c,F,rfl⟩:=kT.mp P;have z:x.cps[i]?=some c:=by simpa using F
  have u:∀ h',h'.IsStrIter J (kW x) x t (i+1)->zjp J s.heap h'->wpAny g.M A (wc l (aL J)<|.str ⟨#[c]⟩ s.toks) (λ_ s2=>R (.str ⟨#[c]⟩ s.toks) s2) E {s with heap:=h',toks:=s.toks+1}:=by
   intro h' j r;have I':=I.uU (G':=one J<|Bk (kW x) x t<|i+1) (tk:=s.toks+1) y (λb e=>by obtain ⟨p,e⟩:=nv.mp e;rw [(kY e).1,kh];rfl) (λb o e q=>r.extBut b o (qQ e) q)
    (λb p e=>by obtain ⟨rfl,rfl⟩:=kY e;exact j)
   obtain ⟨o,ho,F,hd⟩:=j;exact Bj ho F hd (by unfold kW;split <;> decide)<|k Fz _ _ (.refl _) I'<|.strOf rfl _
  cases q:x.cps.all (· <128) with
  | true=>
   have e:kW x= "str_ascii_iterator" :=by unfold kW;rw [q];rfl
   rw [e] at f u;exact wpAny_pyNext_ascii_item f z λh' j r=>⟨_,rfl,u h' j r⟩
  | false=>
   have e:kW x= "str_iterator" :=by unfold kW;rw [q];rfl
   rw [e] at f u;exact wpAny_pyNext_wide_item f z λh' j r=>⟨_,rfl,u h' j r⟩
 stop:=by
  intro i T Fz H s E R hi Z y I hs k;have f:s.heap.IsStrIter J (kW x) x t i:=I.cI _ _<|TM.dJ<|kh _ _;have U:x.cps[i]?=none:=by rw [zW];rw [hi];simp
  cases q:x.cps.all (· <128) with
  | true=>
   have e:kW x= "str_ascii_iterator" :=by unfold kW;rw [q];rfl
   rw [e] at f;exact wpAny_pyNext_ascii_end O f U λh' L=>⟨rfl,k _<|I.tz (tk:=s.toks) y λb o e q=>L b o (qQ e) q⟩
  | false=>
   have e:kW x= "str_iterator" :=by unfold kW;rw [q];rfl
   rw [e] at f;exact wpAny_pyNext_wide_end O f U λh' L=>⟨rfl,k _<|I.tz (tk:=s.toks) y λb o e q=>L b o (qQ e) q⟩
 self:=by
  intro T Fz H s E R y I k;have f:s.heap.IsStrIter J (kW x) x t 0:=I.cI _ _<|TM.dJ<|kh _ _;cases q:x.cps.all (· <128) with
  | true=>
   have e:kW x= "str_ascii_iterator" :=by unfold kW;rw [q];rfl
   rw [e] at f;exact wpAny_pyIter_striter_ascii f k
  | false=>
   have e:kW x= "str_iterator" :=by unfold kW;rw [q];rfl
   rw [e] at f;exact wpAny_pyIter_striter_wide f k
 rZ:=λi b=>by unfold one;split <;> rfl
 nl:=λi b p e o q=>by obtain ⟨rfl,rfl⟩:=kY e;cases q
noncomputable def Bl (n i:Nat):dX:= .exact {cls:=cq "range_iterator",dict:=none,data:=fj #[o0 (i:Int),o0 ((n:Int)-i),o0 1],slots:=#[]}
theorem zbG (O:A.handled=none){r:Expr}{I N:Nat}{P:AO}:oU g A r (aL I) (λi=>one I<|Bl N i) ((j7 N).map λ(i:Nat)=>V.int (i:Int)) [] P where
 item:=by
  intro i v T Fz H s E R L U y I hs k;have f:Rs s.heap _ (i:Int) ((N:Int)-i) 1:=I.cI _ _<|TM.dJ<|kh _ _;rw [pQ] at L;obtain ⟨j,W,rfl⟩:=kT.mp L;obtain ⟨z,e⟩:=ug.mp W;rw [zjq] at e;subst e;have u:i<N:=by simpa using z
  refine wpAny_pyNext_range_item f (by exact VF u) λh' l F=>⟨_,rfl,?_⟩;have Z:(i:Int)+1=((i+1:Nat):Int):=by rfl
  have e2:(N:Int)-i-1=(N:Int)- ((i+1:Nat):Int):=by exact VG
  rw [Z,e2] at l;have I':=I.uU (G':=one _<|Bl N<|i+1) (tk:=s.toks+1) y (λb e=>by obtain ⟨p,e⟩:=nv.mp e;rw [(kY e).1,kh];rfl) (λb o e q=>F.extBut b o (qQ e) q)
   (λb p e=>by obtain ⟨rfl,rfl⟩:=kY e;exact l)
  exact Bj (s:={s with heap:=h',toks:=s.toks+1}) l rfl rfl (by decide)<|k Fz _ _ (.refl _) I'<|jk _ _
 stop:=by
  intro i T Fz H s E R hi U y I hs k;have f:Rs s.heap _ (i:Int) ((N:Int)-i) 1:=I.cI _ _<|TM.dJ<|kh _ _;have J:i=N:=by rw [hi];simp
  exact wpAny_pyNext_range_end O f (by exact VH J) λh' hk=>⟨rfl,k _<|I.tz (tk:=s.toks) y λb o e q=>hk b o (qQ e) q⟩
 self:=by
  intro T Fz H s E R y I k;have f:Rs s.heap _ ((0:Nat):Int) ((N:Int)- (0:Nat)) 1:=I.cI _ _<|TM.dJ<|kh _ _;exact wpAny_pyIter_rangeiter f k
 rZ:=λi b=>by unfold one;split <;> rfl
 nl:=λi b p e o q=>by obtain ⟨rfl,rfl⟩:=kY e;cases q
noncomputable def EN (b:Nat):d9:={cls:=cq "zip",dict:=none,data:=fj #[bO,jt false,jt false,aL (b+2),aL (b+3)],slots:=#[]}
noncomputable def wK (x y:Value):d9:={cls:=cq "tuple",data:=pK #[x,y]}
def kj (b f j i:Nat):TM:=λa=>
 if a=b+4 then some (.exact<|EN b) else if a=b+2 then some (.exact<|wK (aL b)<|aL<|b+1) else if a=b+3 then some (qt λo=>∃x y,o=wK x y)
 else if a=b then some (ow f i) else if a=b+1 then some (ow j i) else none
theorem uV (b f j i:Nat):kj b f j i (b+4)=some (.exact<|EN b):=if_pos rfl
theorem LZ (b f j i:Nat):kj b f j i (b+2)=some (.exact<|wK (aL b)<|aL<|b+1):=(if_neg<|show ¬b+2=b+4 from IY).trans (if_pos rfl)
theorem yL (b f j i:Nat):kj b f j i (b+3)=some (qt λo=>∃x y,o=wK x y):=(if_neg<|show ¬b+3=b+4 from IZ).trans ((if_neg<|show ¬b+3=b+2 from λe=>(show ¬b+2=b+3 from Jc) e.symm).trans (if_pos rfl))
theorem yM (b f j i:Nat):kj b f j i b=some (ow f i):=(if_neg<|show ¬b=b+4 from Ja).trans ((if_neg λe=>(show ¬b+2=b from Jd) e.symm).trans ((if_neg λe=>(show ¬b+3=b from Jf) e.symm).trans (if_pos rfl)))
theorem yN (b j f i:Nat):kj b j f i (b+1)=some (ow f i):=(if_neg<|show ¬b+1=b+4 from Jb).trans ((if_neg λe=>(show ¬b+2=b+1 from Je) e.symm).trans ((if_neg λe=>(show ¬b+3=b+1 from Jg) e.symm).trans ((if_neg λe=>(show ¬b=b+1 from DF) e.symm).trans (if_pos rfl))))
theorem EO {b f j i a:Nat}{p:dX}(e:kj b f j i a=some p):(a=b+4/\p= .exact (EN b))\/(a=b+2/\p= .exact (wK (aL b)<|aL<|b+1))\/(a=b+3/\p=qt λo=>∃x y,o=wK x y)\/(a=b/\p=ow f i)\/(a=b+1/\p=ow j i):=
 (wJ e).imp_right λe=>(wJ e).imp_right λe=>(wJ e).imp_right λe=>(wJ e).imp_right λe=>EM e
theorem r5 {b f j i a:Nat}(e:kj b f j i a=none):a≠b+4/\a≠b+3/\a≠b/\a≠b+1:=by
 refine ⟨?_,?_,?_,?_⟩ <;> rintro rfl
 .rw [uV] at e;cases e
 .rw [yL] at e;cases e
 .rw [yM] at e;cases e
 .rw [yN] at e;cases e
theorem Bm (b f l i j a:Nat):(kj b f l i a).isSome=(kj b f l j a).isSome:=by
 unfold kj;repeat (first | split | rfl)
theorem L7 {a:Nat}{vs:List V}(e:be H a=some vs):H a≠none:=by
 intro q;unfold be at e;rw [q] at e;cases e
theorem L8 {b j r i:Nat}{xs ys:List V}(I:aQ g Fz (T.add<|kj b j r i) H s) (y:Apart T (kj b j r i)) (z:be H j=some xs) (F:be H r=some ys):ZipApart (b+4) (b+2) (b+3) b (b+1) j r:=by
 have f:∀ a,(kj b j r i a).isSome=true->∀ l,(H l≠none)->l≠a:=λa q l J e=>by
  obtain ⟨p,L⟩:=nv.mp q;subst e;exact J (Bh I y L).h
 have u:=L7 z;have v:=L7 F;exact ⟨(show (b+2:Nat)≠b+4 by exact IY),(show (b+3:Nat)≠b+4 by exact IZ),(show (b+0:Nat)≠b+4 by exact Ja),(show (b+1:Nat)≠b+4 by exact Jb),(show (b+2:Nat)≠b+3 by exact Jc),(show (b+2:Nat)≠b+0 by exact Jd),(show (b+2:Nat)≠b+1 by exact Je),(show (b+3:Nat)≠b+0 by exact Jf),(show (b+3:Nat)≠b+1 by exact Jg),(show (b+0:Nat)≠b+1 by exact DF),
  f _ (by rw [uV];rfl) _ u,f _ (by rw [yL];rfl) _ u,f _ (by rw [yM];rfl) _ u,f _ (by rw [yN];rfl) _ u,
  f _ (by rw [uV];rfl) _ v,f _ (by rw [yL];rfl) _ v,f _ (by rw [yM];rfl) _ v,f _ (by rw [yN];rfl) _ v⟩
set_option tactic.hygienic true in
theorem zbH (hh:A.handled=none){W:List Expr}{tk:Nat}{tp:b9}{b j l:Nat}{xs ys:List V}{F0:AO}:
  oU g A (jD W tk tp) (aL<|b+4) (λi=>kj b j l i) (CL (λx y=>V.tup [x,y]) xs ys) [(j,xs),(l,ys)] F0 where
 item:=by
  intro i v T Fz H s E R hv hl P I hs k;refine fX (jU I hs.1) λax F r1 z1=>?_;refine fX (jU I hs.2.1) λay J r2 z2=>?_;have D:=L8 I P hs.1 hs.2.1;rw [List.getElem?_zipWith] at hv;split at hv
  .rename_i xv yv hx hy;cases hv;refine bZ (r1.get hx) λx a0 rx=>bZ (r2.get hy) λy a7 ry=>?_;have hz:IsZip s.heap (b+4) (b+2) (b+3) bO:=I.cI _ _<|TM.dJ<|uV b j l i;have u:IsPair s.heap (b+2) (aL b) (aL<|b+1):=I.cI _ _<|TM.dJ<|LZ b j l i;refine J7 (I.cI _ _<|TM.dJ<|yL b j l i) λoT L px py O=>?_;subst O;have h1:s.heap.IsListIter b j i:=I.cI _ _<|TM.dJ<|yM b j l i;have h2:s.heap.IsListIter (b+1) l i:=I.cI _ _<|TM.dJ<|yN b j l i;refine wpAny_pyNext_zip_item D hz u L h1 h2 F J (by simpa using a0) (by simpa using a7) λh' a1 a2 a3 a4 a5 a6 hk=>⟨_,rfl,?_⟩;refine wpAny_letOwnedTupleGo_zip a1 λZ b1 U=>?_;have nf:=I.fresh;have lt:∀ {q},(kj b j l i q).isSome=true->s.heap.objs.size≠q:=λ{q} hq e=>by
    obtain ⟨p,hp⟩:=nv.mp hq;have:=nf.t;rw [e,TM.dJ hp] at this;cases this
   have I':=I.uU (G':=kj b j l<|i+1) (h':=Z) (tk:=s.toks) P (λq hq=>by rw [Bm b j l i<|i+1];exact hq)
    (λq o e z=>U.extBut _ _ (r5 e).1 (hk q o (r5 e).1 (r5 e).2.1 (r5 e).2.2.1 (r5 e).2.2.2 z))
    (λq p e=>by
     rcases EO e with ⟨rfl,rfl⟩ | ⟨rfl,rfl⟩ | ⟨rfl,rfl⟩ | ⟨rfl,rfl⟩ | ⟨rfl,rfl⟩
     .exact b1
     .exact U.extBut _ _ D.TIz<|hk _ _ D.TIz D.TITO D.TIi1 D.TIi2 u
     .exact ⟨_,U.extBut _ _ D.TOz a2,x,y,rfl⟩
     .exact a3.extBut U.extBut D.i1z
     .exact a4.extBut U.extBut D.i2z)
   have ht:Z.get? s.heap.objs.size=some (pp [x,y].toArray 0):=U.extBut _ _ (lt<|by rw [uV];rfl) a5;have Fr:gL Fz (T.add<|kj b j l<|i+1) H s.heap.objs.size:=⟨nf.f,by
    have:=nf.t;cases q:kj b j l (i+1) s.heap.objs.size with
    | none=>
     rw [TM.jx q];have q':kj b j l i s.heap.objs.size=none:=by
      have:=Bm b j l (i+1) i s.heap.objs.size;rw [q] at this;cases r:kj b j l i s.heap.objs.size with
      | none=>rfl
      | some p=>rw [r] at this;cases this
     rw [TM.jx q'] at this;exact this
    | some p=>exact absurd rfl (lt (q:=s.heap.objs.size) (by rw [Bm b j l i (i+1),q];rfl)),nf.h⟩
   obtain ⟨I3,l3⟩:=I'.freeze Fr ht;exact k _ _ _ l3 I3 (.tup _ [x,y] 0 _ (by simp)<|i4 (rx.mono l3)<|i4 (ry.mono l3) ct)
  .cases hv
 stop:=by
  intro i T Fz H s E R hi hl P I hs k;refine fX (jU I hs.1) λax F r1 z1=>?_;refine fX (jU I hs.2.1) λay J r2 z2=>?_;have D:=L8 I P hs.1 hs.2.1;have hz:IsZip s.heap (b+4) (b+2) (b+3) bO:=I.cI _ _<|TM.dJ<|uV b j l i;have u:IsPair s.heap (b+2) (aL b) (aL<|b+1):=I.cI _ _<|TM.dJ<|LZ b j l i;refine J7 (I.cI _ _<|TM.dJ<|yL b j l i) λoT L px py O=>?_;subst O;have h1:s.heap.IsListIter b j i:=I.cI _ _<|TM.dJ<|yM b j l i;have h2:s.heap.IsListIter (b+1) l i:=I.cI _ _<|TM.dJ<|yN b j l i;rw [List.length_zipWith] at hi;refine wpAny_pyNext_zip_end hh D hz u L h1 h2 F J ?_ λh' hk=>⟨rfl,k _<|I.tz (tk:=s.toks) P λq o e z=>hk q o (r5 e).1 (r5 e).2.1 (r5 e).2.2.1 (r5 e).2.2.2 z⟩;by_cases hc:xs.length<=ys.length
  .left;rw [zW];exact VI hi z1 hc
  .right;rw [zW];exact VJ hi z2 hc
 self:=by
  intro T Fz H s E R P I k;have hz:IsZip s.heap (b+4) (b+2) (b+3) bO:=I.cI _ _<|TM.dJ<|uV b j l 0;exact zjr hz k
 rZ:=λi a=>Bm b j l i 0 a
 nl:=λi a p e o q=>by
  subst q;rcases EO e with ⟨_,q⟩ | ⟨_,q⟩ | ⟨_,q⟩ | ⟨_,q⟩ | ⟨_,q⟩ <;> cases q
noncomputable def EP (b i:Nat) (f:Value):d9:={cls:=cq "enumerate",dict:=none,data:=fj #[bO,jt false,aL b,o0 (i:Int),bO,f],slots:=#[]}
def mz (b l i:Nat):TM:=λa=>if a=b+1 then some (qt λo=>∃f,o=EP b i f) else if a=b then some (ow l i) else none
theorem yO (b l i:Nat):mz b l i (b+1)=some (qt λo=>∃f,o=EP b i f):=if_pos rfl
theorem EQ (b l i:Nat):mz b l i b=some (ow l i):=(if_neg<|show ¬b=b+1 from DF).trans (if_pos rfl)
theorem ER {b l i a:Nat}{p:dX}(e:mz b l i a=some p):(a=b+1/\p=qt λo=>∃f,o=EP b i f)\/(a=b/\p=ow l i):=(wJ e).imp_right λe=>EM e
theorem Bn {b l i a:Nat}(e:mz b l i a=none):a≠b+1/\a≠b:=by
 refine ⟨?_,?_⟩ <;> rintro rfl
 .rw [yO] at e;cases e
 .rw [EQ] at e;cases e
theorem Bo (b l i j a:Nat):(mz b l i a).isSome=(mz b l j a).isSome:=by
 unfold mz;repeat (first | split | rfl)
theorem zbI (hh:A.handled=none){y:List Expr}{tk:Nat}{tp:b9}{b l:Nat}{xs:List V}{F0:AO}:
  oU g A (jD y tk tp) (aL<|b+1) (λi=>mz b l i) (xs.zipIdx.map λp=>V.tup [aw p.2,p.1]) [(l,xs)] F0 where
 item:=by
  intro i v T Fz H s E R hv hl O I hs k;refine fX (jU I hs.1) λax j r1 z1=>?_;rw [pQ,zjs] at hv;obtain ⟨p,U,rfl⟩:=kT.mp hv;obtain ⟨xv,hx,rfl⟩:=kT.mp U;obtain ⟨x,W,rx⟩:=r1.get hx;obtain ⟨oE,F,J,rfl⟩:=I.cI _ _<|TM.dJ<|yO b l i;have Z:s.heap.IsListIter b l i:=I.cI _ _<|TM.dJ<|EQ b l i;refine wpAny_pyNext_enum_item F Z j (by simpa using W) (show (b+1:Nat)≠b by exact VK) λh' a1 a2 a3 a4 hk=>⟨_,rfl,?_⟩;refine wpAny_letOwnedTupleGo_enum (s:={s with heap:=h',toks:=s.toks+1}) a1 λL b1 b2=>?_;have P:=I.fresh;have lt:∀ {q},(mz b l i q).isSome=true->s.heap.objs.size≠q:=λ{q} hq e=>by
   obtain ⟨p,U⟩:=nv.mp hq;have:=P.t;rw [e,TM.dJ U] at this;cases this
  have I':=I.uU (G':=mz b l<|i+1) (h':=L) (tk:=s.toks+1) O (λq hq=>by rw [Bo b l i<|i+1];exact hq)
   (λq o e z=>b2.extBut _ _ (Bn e).1 (hk q o (Bn e).1 (Bn e).2 z))
   (λq p e=>by
    rcases ER e with ⟨rfl,rfl⟩ | ⟨rfl,rfl⟩
    .exact ⟨_,b1,x,rfl⟩
    .exact a2.extBut b2.extBut (vU (xU _)))
  have ht:L.get? s.heap.objs.size=some (pp [eD i s.toks,x].toArray 0):=b2.extBut _ _ (lt<|by rw [yO];rfl) a3;have Fr:gL Fz (T.add<|mz b l<|i+1) H s.heap.objs.size:=⟨P.f,by
   have:=P.t;cases q:mz b l (i+1) s.heap.objs.size with
   | none=>
    rw [TM.jx q];have q':mz b l i s.heap.objs.size=none:=by
     have:=Bo b l (i+1) i s.heap.objs.size;rw [q] at this;cases r:mz b l i s.heap.objs.size with
     | none=>rfl
     | some p=>rw [r] at this;cases this
    rw [TM.jx q'] at this;exact this
   | some p=>exact absurd rfl (lt (q:=s.heap.objs.size) (by rw [Bo b l i (i+1),q];rfl)),P.h⟩
  obtain ⟨I3,l3⟩:=I'.freeze Fr ht;refine k _ _ _ l3 I3 (.tup _ [eD i s.toks,x] 0 _ (by simp)<|i4 ?_<|i4 (rx.mono l3) ct);rw [pR];exact jk _ _
 stop:=by
  intro i T Fz H s E R hi hl O I hs k;refine fX (jU I hs.1) λax j r1 z1=>?_;refine J6 (I.cI _ _<|TM.dJ<|yO b l i) λoE F J u=>?_;subst u;have Z:s.heap.IsListIter b l i:=I.cI _ _<|TM.dJ<|EQ b l i;rw [cN,uo] at hi;refine wpAny_pyNext_enum_end hh F Z j (by rw [zW];exact IX hi z1) λh' hk=>⟨rfl,k _<|I.tz (tk:=s.toks) O λq o e z=>hk q o (Bn e).2 z⟩
 self:=by
  intro T Fz H s E R O I k;refine J6 (I.cI _ _<|TM.dJ<|yO b l 0) λoE F J u=>?_;subst u;exact zjt F k
 rZ:=λi a=>Bo b l i 0 a
 nl:=λi a p e o q=>by
  subst q;rcases ER e with ⟨_,q⟩ | ⟨_,q⟩ <;> cases q
end
theorem boot_range:xL "range" =some (cq "range"):=by decide+kernel
theorem boot_zip:xL "zip" =some (cq "zip"):=by decide+kernel
theorem zbJ:xL "enumerate" =some (cq "enumerate"):=by decide+kernel
section
variable {g:Gd}{nn n:Nat}{c:Ctx}{A:di}{FS:List bH}{env:bH}{m:Loc}{Fz:AO}{T:TM}{H:Hp}{s:aR}{E:Value->aR->Prop}
inductive r6 (g:Gd) (A:di) (target:Expr) (Fz:AO) (T:TM) (Q:List V->List (Nat×List V)->Hp->Prop) (it:Value) (s:aR):Prop
 | mk (fu:AO) (H':Hp) (items:List V) (yK:List (Nat×List V)) (G:Nat->TM) (l:Fz.le fu) (ap:Apart T (G 0)) (I:aQ g fu (T.add<|G 0) H' s) (S:oU g A target it G items yK fu) (q:Q items yK H')
theorem r6.up {f:Expr}{j:AO}{Q:List V->List (Nat×List V)->Hp->Prop}{u:Value}(l:Fz.le j) (p:r6 g A f j T Q u s):r6 g A f Fz T Q u s:=
 let ⟨v,y,items,r,G,a,b,c,d,e⟩:=p;⟨v,y,items,r,G,l.trans a,b,c,d,e⟩
theorem ES {M:rD}{id:String}(h:eY) (_:True):∃k,(k=HG\/k=HH\/k=HI)/\rJ M h (HJ<|cq id) k:=
 ⟨.machine,aX<|ba rfl,C3 rfl⟩
theorem CE (I:aQ g Fz T H s){o:d9}{p:dX}{tk:Nat}(f:o.isFreed=false) (j:∀ h:eY,h.get? s.heap.objs.size=some o->p.holds h s.heap.objs.size):
  Apart T (one s.heap.objs.size p)/\aQ g Fz (T.add<|one s.heap.objs.size p) H {s with heap:=s.heap.push o,toks:=tk}:=by
 have F:=I.fresh;refine ⟨λa q e=>by rw [(kY e).1];exact F.t,?_⟩;have l:aQ g Fz T H {s with heap:=s.heap.push o,toks:=tk}:=I.grow (dr:=s.drawn) λb r e=>kU _ e;refine l.rY λa q e=>?_;obtain ⟨rfl,rfl⟩:=kY e;exact ⟨F,j _<|sK _ f⟩
def Ma (v:V) (H:Hp) (Q:List V->List (Nat×List V)->Hp->Prop):Prop:=match v with
 | aB a=>(match be H a with | some vs=>Q vs [(a,vs)] H | none=>False)
 | d8 vs=>Q vs [] H
 | .str s=>Q (s.map λc=> .str [c]) [] H
 | _=>False
theorem zbK {f:Expr}(R:Ar A nn FS){x:Value}{v:V}{Q:List V->List (Nat×List V)->Hp->Prop}(I:aQ g Fz T H s) (r:VR Fz x v)
  (h:Ma v H Q):wpAny g.M A (xT x) (r6 g A f Fz T Q) E s:=by
 cases v with
 | ref a=>
  refine r.nJ ?_;unfold Ma at h;simp only at h;cases e:be H a with
  | none=>rw [e] at h;exact h.elim
  | some vs=>
   rw [e] at h;refine fX (jU I e) λF z y J=>?_;obtain ⟨j,p2⟩:=CE (o:={cls:=cq "list_iterator",data:=fj #[aL a,eD 0 0]}) (p:=ow a 0) (tk:=s.toks) I rfl λh' e=>⟨_,e,rfl,rfl⟩;exact wpAny_pyIter_list z ⟨Fz,H,vs,_,λi=>one s.heap.objs.size (ow a i), .refl _,j,p2,zbD R.hd,h⟩
 | tup vs=>
  refine pZ r.tu λa xs k u e y=>?_;subst u;obtain ⟨j,p2⟩:=CE (o:={cls:=cq "tuple_iterator",data:=fj #[aL a,eD 0 0]}) (p:=CC a 0) (tk:=s.toks) I rfl λh' e=>⟨_,e,rfl,rfl⟩;exact wpAny_pyIter_tuple (I.ou e) ⟨Fz,H,vs,_,λi=>one s.heap.objs.size (CC a i), .refl _,j,p2,zbE R.hd e y,h⟩
 | str l=>
  refine r.rU λt=>?_;obtain ⟨j,p2⟩:=CE (o:={cls:=cq<|kW ⟨l.toArray⟩,data:=fj #[.str ⟨l.toArray⟩ t,eD 0 0]}) (p:=Bk (kW ⟨l.toArray⟩) ⟨l.toArray⟩ t 0) (tk:=s.toks) I rfl λh' e=>⟨_,e,rfl,rfl⟩;refine wpAny_pyIter_strU ⟨Fz,H,_,_,λi=>one s.heap.objs.size<|Bk (kW ⟨l.toArray⟩) ⟨l.toArray⟩ t i, .refl _,j,p2,zbF R.hd,?_⟩;have h':Q (l.map λc=>V.str [c]) [] H:=h;simpa using h'
 | _=>exact h.elim
theorem zbL {f:Expr}(r:SE g nn n){j:Expr}{Q:List V->List (Nat×List V)->Hp->Prop}(a:At g nn c env m A FS Fz T H s) (h:nE (bj g nn) (iq<|cE bz n c j) m H Q):
  wpAny g.M A (eval j env) (λx l=>wpAny g.M A (xT x) (r6 g A f Fz T Q) E l) E s:=by
 conv at h=>whnf
 exact bA.use (r a h) λF I v1 J l u v y z=>cW (zbK a.R v y z) (λ_ _ p=>p.up u) λ_ _ x=>x
theorem zbM {f:Expr}(G:g.Ok) (TK:ef g) (y:SE g nn n){e:Expr}{p pos:b9}{Q:List V->List (Nat×List V)->Hp->Prop} (z:jT c "range" =true) (l:[e].all noStar=true) (a:At g nn c env m A FS Fz T H s) (h:nE (bj g nn) (sC (cE bz n c e)) m H Q):
  wpAny g.M A (eval (iX (cH "range" p) [e] [] pos) env) (λx j=>wpAny g.M A (xT x) (r6 g A f Fz T Q) E j) E s:=by
 conv at h=>whnf
 refine vY (yD G a.I a.F z TK.Ly boot_range (by decide) ?_);simp only [Rt,Ru,sL] at l;refine qe (P:=λ_=>True) ES (by simpa using l)<|CX (bA.use (y a h) λr u v1 x1 j J L O v=>Rv ⟨trivial,?_⟩)<|uT l;cases v1 with
 | int N=>
  refine O.mQ λt=>iw v λU hN W=>call_range_1 (wpAny_pyIter_range (IsRange.new ..) (small_one (by decide) (by decide) (by exact VL U) (by exact qj ‹_› rfl)) ?_);have Z:aQ g r T u {j with heap:=j.heap.push {cls:=cq "range",data:=fj #[eD 0 j.toks,eD N t,eD 1 (j.toks+1)]},toks:=j.toks+1+1}:=L.grow (dr:=j.drawn) λb ob e=>kU _ e;have hsz:zkL 0 N 1=(N.toNat:Int):=by rw [rangeSize_one];split <;> lia
  rw [hsz];obtain ⟨p1,p2⟩:=CE (o:={cls:=cq "range_iterator",data:=fj #[o0 0,o0 (N.toNat:Int),o0 1]}) (p:=Bl N.toNat 0) (tk:=j.toks+1+1) Z rfl λh' e=>by
   show h'.get? _=_;rw [e];simp
  exact ⟨r,u,_,_,λi=>one _<|Bl N.toNat i,J,p1,p2,zbG a.R.hd,W⟩
 | _=>exact v.elim
set_option tactic.hygienic true in
theorem zbN (G:g.Ok) (TK:ef g) (ih:SE g nn n){l:List Expr}{tk:Nat}{tp:b9}{r u:Expr}{p pos:b9}{Q:List V->List (Nat×List V)->Hp->Prop} (hx:jT c "zip" =true) (O:[r,u].all noStar=true)
  (a:At g nn c env m A FS Fz T H s) (h:nE (bj g nn) (sD (cE bz n c r)<|cE bz n c u) m H Q):
  wpAny g.M A (eval (iX (cH "zip" p) [r,u] [] pos) env) (λx s1=>wpAny g.M A (xT x) (r6 g A (jD l tk tp) Fz T Q) E s1) E s:=by
 conv at h=>whnf
 refine vY (yD G a.I a.F hx TK.zip boot_zip (by decide) ?_);have U:=O;simp only [Rt,Ru,sL,fN] at O;refine qe (P:=λ_=>True) ES U<|CX (bA.use (ih a h) λF1 H1 v1 x1 s1 l1 I1 r1 h1=>CX (bA.use (ih (a.next l1 I1) h1) λv y v2 x2 f l2 j r2 z=>Rv ⟨trivial,?_⟩)<|uT O.2)<|uT O.1;split at z
 .rename_i J L;refine (r1.mono l2).nJ (r2.nJ ?_);split at z
  .rename_i xs ys r u;refine fX (jU j r) λax W q1 z1=>fX (jU j u) λay Z q2 z2=>call_zip_2 W Z λh' b1 b2 b3 b4 b5 b6 hk=>zjr b1 ?_;have I3:aQ g v T y {f with heap:=h'}:=j.grow (dr:=f.drawn) (tk:=f.toks) hk;have Fr:∀ q,f.heap.objs.size<=q->gL v T y q:=λq hq=>by
    have no:f.heap.get? q=none:=by
     cases w:f.heap.get? q with
     | none=>rfl
     | some o=>exact absurd (sS w)<|qw.mpr hq
    refine ⟨?_,?_,?_⟩
    .cases w:v q with
     | none=>rfl
     | some o=>rw [j.iI _ _ w] at no;cases no
    .cases w:T q with
     | none=>rfl
     | some o=>obtain ⟨ob,e⟩:=dX.there<|j.cI _ _ w;rw [e] at no;cases no
    .cases w:y q with
     | none=>rfl
     | some o=>obtain ⟨ob,e⟩:=ma.there<|j.gB _ _ w;rw [e] at no;cases no
   have hG:∀ q p,kj f.heap.objs.size J L 0 q=some p->gL v T y q/\p.holds h' q:=λq p e=>by
    rcases EO e with ⟨rfl,rfl⟩ | ⟨rfl,rfl⟩ | ⟨rfl,rfl⟩ | ⟨rfl,rfl⟩ | ⟨rfl,rfl⟩
    .exact ⟨Fr _<|xV _ _,b1⟩
    .exact ⟨Fr _<|xV _ _,b2⟩
    .exact ⟨Fr _<|xV _ _,⟨_,b3,_,_,rfl⟩⟩
    .exact ⟨Fr _<|dM _,b4⟩
    .exact ⟨Fr _<|xV _ _,b5⟩
   exact ⟨v,y,_,_,λi=>kj f.heap.objs.size J L i,l1.trans l2,λq p e=>(hG q p e).1.t,I3.rY hG,zbH a.R.hd,z⟩
  .exact z.elim
 .exact z.elim
set_option tactic.hygienic true in
theorem zbO (G:g.Ok) (TK:ef g) (U:SE g nn n){j:List Expr}{tk:Nat}{W:b9}{e:Expr}{p pos:b9}{Q:List V->List (Nat×List V)->Hp->Prop} (Z:jT c "enumerate" =true) (y:[e].all noStar=true)
  (a:At g nn c env m A FS Fz T H s) (h:nE (bj g nn) (pL<|cE bz n c e) m H Q):
  wpAny g.M A (eval (iX (cH "enumerate" p) [e] [] pos) env) (λx f=>wpAny g.M A (xT x) (r6 g A (jD j tk W) Fz T Q) E f) E s:=by
 conv at h=>whnf
 refine vY (yD G a.I a.F Z TK.Lz zbJ (by decide) ?_);have z:=y;simp only [Rt,Ru,sL] at y;refine qe (P:=λ_=>True) ES z<|CX (bA.use (U a h) λl r v1 x1 f l1 u r1 v=>Rv ⟨trivial,?_⟩)<|uT y;split at v
 .rename_i L;refine r1.nJ ?_;split at v
  .rename_i xs e1;refine fX (jU u e1) λax J q1 z1=>call_enumerate_list J λh' b1 b2 b3 hk=>zjt b1 ?_;have I3:aQ g l T r {f with heap:=h'}:=u.grow (dr:=f.drawn) (tk:=f.toks) hk;have Fr:∀ q,f.heap.objs.size<=q->gL l T r q:=λq hq=>by
    have no:f.heap.get? q=none:=by
     cases w:f.heap.get? q with
     | none=>rfl
     | some o=>exact absurd (sS w)<|qw.mpr hq
    refine ⟨?_,?_,?_⟩
    .cases w:l q with
     | none=>rfl
     | some o=>rw [u.iI _ _ w] at no;cases no
    .cases w:T q with
     | none=>rfl
     | some o=>obtain ⟨ob,e⟩:=dX.there<|u.cI _ _ w;rw [e] at no;cases no
    .cases w:r q with
     | none=>rfl
     | some o=>obtain ⟨ob,e⟩:=ma.there<|u.gB _ _ w;rw [e] at no;cases no
   have O:∀ q p,mz f.heap.objs.size L 0 q=some p->gL l T r q/\p.holds h' q:=λq p e=>by
    rcases ER e with ⟨rfl,rfl⟩ | ⟨rfl,rfl⟩
    .exact ⟨Fr _<|xV _ _,⟨_,b1,_,rfl⟩⟩
    .exact ⟨Fr _<|dM _,b2⟩
   exact ⟨l,r,_,_,λi=>mz f.heap.objs.size L i,l1,λq p e=>(O q p e).1.t,I3.rY O,zbI a.R.hd,v⟩
  .exact v.elim
 .exact v.elim
theorem zbP {e:Expr}{env:bH}(h:sY e=false) (x:Value):zju e env x=dP x:=by
 cases e <;> first | rfl | exact absurd (show true=false from h) Rw
theorem Mb (G:g.Ok) (TK:ef g) (z:SE g nn n){f j:Expr}{Q:List V->List (Nat×List V)->Hp->Prop}(r:ym (mP bz (n+1) c j)=true->∃es k p,f=jD es k p)
  (a:At g nn c env m A FS Fz T H s) (h:nE (bj g nn) (mP bz (n+1) c j) m H Q):
  (∀ x,zju j env x=dP x)/\wpAny g.M A (eval j env) (λx J=>wpAny g.M A (xT x) (r6 g A f Fz T Q) E J) E s:=by
 change nE (bj g nn) (match sY j with | true=>_ | false=>match wu bz c j with | qs=>_ | xH a=>_ | .enum a=>_ | .zip a b=>_) m H Q at h;change ym (match sY j with | true=>_ | false=>match wu bz c j with | qs=>_ | xH a=>_ | .enum a=>_ | .zip a b=>_)=true->_ at r;cases hs:sY j with
 | true=>rw [hs] at h;exact i6 h
 | false=>
  rw [hs] at h r;have F:=Zv bz c j;generalize wu bz c j=k at h r F;cases F with
  | val=>exact ⟨zbP hs,zbL z a h⟩
  | range e I p2 u v y=>
   subst u;exact ⟨λ_=>rfl,zbM G TK z v y a h⟩
  | enum e I p2 u v y=>
   subst u;refine D5 (r rfl) λes k p' l=>?_;subst l;exact ⟨λ_=>rfl,zbO G TK z v y a h⟩
  | zip L O I p2 u v y=>
   subst u;refine D5 (r rfl) λes k p' l=>?_;subst l;exact ⟨λ_=>rfl,zbN G TK z v y a h⟩
end
def iz (c:Ctx) (env:bH) (T j:TM):Prop:=∀ a,j a≠T a->a=env.locals\/∃x f l,c.sc.names.lookup x=some iY/\env.cells.lookup x=some a/\T a=some (fq f)/\f.data=vF l
theorem iz.refl (c:Ctx) (env:bH) (T:TM):iz c env T T:=λ_ h=>absurd rfl h
theorem iz.trans {c:Ctx}{env:bH}{T j f:TM}(x:iz c env T j) (y:iz c env j f):iz c env T f:=λa h=>by
 by_cases q:f a=j a
 .exact x a (by rw [<-q];exact h)
 .by_cases l:j a=T a
  .rw [<-l];exact y a q
  .exact x a l
section
variable {g:Gd}{nn n:Nat}{c:Ctx}{A:di}{FS:List bH}{env:bH}{m:Loc}{Fz:AO}{T:TM}{H:Hp}{s:aR}{E:Value->aR->Prop}
noncomputable def km (T:TM) (a:bn) (p:dX):TM:=λb=>if b=a then some p else T b
theorem oy (T:TM) (a:bn) (p:dX):km T a p a=some p:=by simp [km]
theorem ko {T:TM}{a b:bn}{p:dX}(h:b≠a):km T a p b=T b:=by simp [km,h]
theorem aQ.tA (I:aQ g Fz T H s){a:bn}{p p':dX}{h':eY}{tk:Nat}(e:T a=some p) (j:Hr a s.heap h') (r:p'.holds h' a):aQ g Fz (km T a p') H {s with heap:=h',toks:=tk} where
 old:=I.old
 iI:=λb o q=>j b o (by rintro rfl;rw [I.ft _ _ e] at q;cases q)<|I.iI b o q
 cI:=λb q z=>by
  by_cases f:b=a
  .subst f;rw [oy] at z;cases z;exact r
  .rw [ko f] at z;exact dX.keep (λl w=>j b l f w)<|I.cI b q z
 gB:=λb o z=>by
  have f:b≠a:=by rintro rfl;exact I.ht _ _ _ z e
  exact ma.keep (AO.le.refl _) (λl w=>j b l f w)<|I.gB b o z
 ft:=λb q z=>by
  by_cases f:b=a
  .subst f;exact I.ft _ _ e
  .rw [ko f] at z;exact I.ft _ _ z
 hf:=I.hf
 ht:=λb o q z w=>by
  have f:b≠a:=by rintro rfl;exact I.ht _ _ _ z e
  rw [ko f] at w;exact I.ht _ _ _ z w
 gens:=I.gens
 os:=I.os
theorem fS.km (S:fS g T FS){a:bn}{o:d9}(l:∀ vs,o.data≠fj vs):fS g (km T a<|fq o) FS:=
 ⟨λenv h=>by
  obtain ⟨k,L,p,f,r,u⟩:=S.all env h;by_cases j:L=a
  .exact ⟨k,L,o,f,by rw [j];exact oy ..,l⟩
  .exact ⟨k,L,p,f,(ko j).trans r,u⟩⟩
theorem sF {m:Loc}{i j:Nat}{v w:V}(h:(m.set i<|some v)[j]?=some (some w)):(j=i/\w=v)\/(j≠i/\m[j]?=some (some w)):=by
 by_cases e:i=j
 .subst e;rw [zjv] at h;cases q:m[i]? with
  | none=>rw [q] at h;cases h
  | some o=>rw [q] at h;cases h;exact ba ⟨rfl,rfl⟩
 .rw [zjw e] at h;exact aX ⟨λq=>e q.symm,h⟩
set_option tactic.hygienic true in
abbrev ET (g:Gd) (c:Ctx) (A:di) (FS:List bH) (env:bH) (m:Loc) (Fz:AO) (T:TM) (H:Hp) (s:aR) (E:jv->aR->Prop) (x:zw) (f:jv) (v:V) (Q:aR->Prop):Prop:=∀ {i:Nat}(hs:kK c x=some i) (S:fS g T FS) (F:eI c env Fz T m) (I:aQ g Fz T H s) (r:VR Fz f v) (k:∀ j l,iz c env T j->fS g j FS->aQ g Fz j H l->eI c env Fz j (m.set i<|some v)->Q l),wpAny g.M A (Rx env x f) (λ_=>Q) E s
abbrev Mc (t:zw×bH×aR×jv×Ctx×Loc×V×Gd×di×List bH×AO×TM×Hp×(jv->aR->Prop)×(aR->Prop)):Prop:=ET t.2.2.2.2.2.2.2.1 t.2.2.2.2.1 t.2.2.2.2.2.2.2.2.1 t.2.2.2.2.2.2.2.2.2.1 t.2.1 t.2.2.2.2.2.1 t.2.2.2.2.2.2.2.2.2.2.1 t.2.2.2.2.2.2.2.2.2.2.2.1 t.2.2.2.2.2.2.2.2.2.2.2.2.1 t.2.2.1 t.2.2.2.2.2.2.2.2.2.2.2.2.2.1 t.1 t.2.2.2.1 t.2.2.2.2.2.2.1 t.2.2.2.2.2.2.2.2.2.2.2.2.2.2
@[irreducible] noncomputable def iT:zw×bH×aR×jv×Ctx×Loc×V×Gd×di×List bH×AO×TM×Hp×(jv->aR->Prop)×(aR->Prop):=nB (bM,bM,Eo,bM,JQ,bM,V.none,Er,Ep,bM,bM,bM,bM,bM,bM) Mc
@[irreducible] noncomputable def nL:zw:=iT.1
theorem zbQ:ET iT.2.2.2.2.2.2.2.1 iT.2.2.2.2.1 iT.2.2.2.2.2.2.2.2.1 iT.2.2.2.2.2.2.2.2.2.1 iT.2.1 iT.2.2.2.2.2.1 iT.2.2.2.2.2.2.2.2.2.2.1 iT.2.2.2.2.2.2.2.2.2.2.2.1 iT.2.2.2.2.2.2.2.2.2.2.2.2.1 iT.2.2.1 iT.2.2.2.2.2.2.2.2.2.2.2.2.2.1 nL iT.2.2.2.1 iT.2.2.2.2.2.2.1 iT.2.2.2.2.2.2.2.2.2.2.2.2.2.2:=by
 intro i hs S F I r k;unfold kK at hs;obtain ⟨kf,eg,eb,fr,J,u,ns,cl,ci,rd,rc,lt,hi⟩:=F;have a2:iT.2.2.2.2.1.loc.lookup nL=some i->∀ (j:Nat) (w:V),iT.2.2.2.2.1.next<=j->(iT.2.2.2.2.2.1.set i<|some iT.2.2.2.2.2.2.1)[j]?≠some (some w):=λz j w f e=>by
  rcases sF e with ⟨rfl,_⟩ | ⟨_,e⟩
  .exact absurd (lt nL j z)<|qw.mpr f
  .exact hi j w f e
 obtain ⟨oL,es,ep,t1,t2,t3,t4⟩:=ns;split at hs
 .rename_i z;refine bZ (J nL _ z) λk' W Z=>?_;have:k'= .local:=Z.elim id λe=>nomatch e.1;subst this;obtain ⟨sl,e⟩:=I.cI _ _ t1;have hn:iT.2.2.1.heap.Ns iT.2.1.locals (xM es):=⟨_,es,ep,e,t2,t3,λ_=>rfl⟩;refine Ry W hn (λh' a3 a0=>?_) (by rw [kf];rfl);obtain ⟨L,a4,a5,e',d',a6,f'⟩:=a3;have I':=I.tA (tk:=iT.2.2.1.toks+1) t1 a0.extBut (p':=fq L) ⟨L.slots,e'⟩;refine k _ _ ?_ (S.km (o:=L)<|by rw [d'];intro vs q;cases q) I' ⟨kf,eg,eb,fr,J,u,⟨L,a4,a5,oy ..,d',a6,?_⟩,?_,ci,rd,rc,lt,a2 hs⟩
  .intro a ha;by_cases q:a=iT.2.1.locals
   .exact ba q
   .exact absurd (ko q) ha
  .intro y j w p f l;rcases sF l with ⟨rfl,rfl⟩ | ⟨v,l⟩
   .have:=u y nL _ f hs;subst this;exact ⟨iT.2.2.2.1,(f' _).trans (by simp),r⟩
   .have a7:y≠nL:=by rintro rfl;rw [hs] at f;cases f;exact v rfl
    refine bZ (t4 y j w p f l) λvv hv rr=>?_;exact ⟨vv,(f' _).trans (by show (if y=nL then _ else _)=_;rw [if_neg a7];exact hv),rr⟩
  .intro y j p f;obtain ⟨ca,co,ov,z1,O,U,z4⟩:=cl y j p f;have v:ca≠iT.2.1.locals:=by
    rintro rfl;rw [t1] at O;cases O;rw [t2] at U;cases U
   refine ⟨ca,co,ov,z1,(ko v).trans O,U,λw l=>?_⟩;rcases sF l with ⟨rfl,rfl⟩ | ⟨_,l⟩
   .have:=u y nL _ f hs;subst this;rw [z] at p;rcases p with p | p <;> cases p
   .exact z4 w l
 .rename_i z;refine bZ (J nL _ z) λk' W Z=>?_;have:k'=iY:=Z.elim id λe=>nomatch e.1;subst this;obtain ⟨ca,co,ov,z1,O,U,z4⟩:=cl nL i (ba z) hs;obtain ⟨sl,e⟩:=I.cI _ _ O;refine wpAny_storeName_cell kf W z1 ⟨_,e,U⟩ λh' a8 a0=>bZ a8 λP e' d'=>?_;have I':=I.tA (tk:=iT.2.2.1.toks) O a0.extBut (p':=fq P) ⟨P.slots,e'⟩;have v:iT.2.1.locals≠ca:=by
   rintro rfl;rw [t1] at O;cases O;rw [t2] at U;cases U
  refine k _ _ ?_ (S.km (o:=P)<|by rw [d'];intro vs q;cases q) I' ⟨kf,eg,eb,fr,J,u,⟨oL,es,ep,(ko v).trans t1,t2,t3,?_⟩,?_,ci,rd,rc,lt,a2 hs⟩
  .intro a ha;by_cases q:a=ca
   .subst q;exact aX ⟨nL,co,ov,z,z1,O,U⟩
   .exact absurd (ko q) ha
  .intro y j w p f l;rcases sF l with ⟨rfl,rfl⟩ | ⟨_,l⟩
   .have:=u y nL _ f hs;subst this;rw [z] at p;cases p
   .exact t4 y j w p f l
  .intro y j p f;obtain ⟨cb,a9,aa,y1,y2,y3,y4⟩:=cl y j p f;by_cases a1:cb=ca
   .subst a1;have:=ci y nL _ p (ba z) y1 z1;subst this;rw [hs] at f;cases f;refine ⟨_,P,some iT.2.2.2.1,z1,oy ..,d',λw l=>?_⟩;rcases sF l with ⟨_,rfl⟩ | ⟨h,_⟩
    .exact ⟨iT.2.2.2.1,rfl,r⟩
    .exact absurd rfl h
   .refine ⟨cb,a9,aa,y1,(ko a1).trans y2,y3,λw l=>?_⟩;rcases sF l with ⟨rfl,rfl⟩ | ⟨_,l⟩
    .have:=u y nL _ f hs;subst this;rw [z1] at y1;cases y1;exact absurd rfl a1
    .exact y4 w l
 .cases hs
theorem uW {g:Gd}{c:Ctx}{A:di}{FS:List bH}{env:bH}{m:Loc}{Fz:AO}{T:TM}{H:Hp}{s:aR}{E:jv->aR->Prop}{x:zw}{f:jv}{v:V}{Q:aR->Prop}:ET g c A FS env m Fz T H s E x f v Q:=on (P:=Mc) (by with_unfolding_all exact zbQ) (x,env,s,f,c,m,v,g,A,FS,Fz,T,H,E,Q)
structure xJ (g:Gd) (c:Ctx) (env:bH) (FS:List bH) (Fz:AO) (T:TM) (H:Hp) (m':Loc) (s':aR) (T':TM):Prop where
 t:iz c env T T'
 S:fS g T' FS
 I:aQ g Fz T' H s'
 F:eI c env Fz T' m'
theorem zbR {x:Str}{i:Nat}{f:Value}{v:V}{Q:aR->Prop}(hs:kK c x=some i) (S:fS g T FS) (F:eI c env Fz T m) (I:aQ g Fz T H s) (r:VR Fz f v)
  (k:∀ l j,xJ g c env FS Fz T H (m.set i<|some v) j l->Q j):wpAny g.M A (C7 env x f) (λ_=>Q) E s:=
 wpAny_bindName (uW hs S F I r λl j a b c d=>k l j ⟨a,b,c,d⟩)
theorem Md {m m':Loc}{i:Nat}{f:List Nat}{vs:List V}(h:kX m (i::f) vs=some m'):∃v r,vs=v::r/\kX (m.set i<|some v) f r=some m':=by
 cases vs with
 | nil=>cases h
 | cons v r=>exact ⟨v,r,rfl,h⟩
theorem Me {m m':Loc}{vs:List V}(h:kX m [] vs=some m'):vs=[]/\m'=m:=by
 cases vs with
 | nil=>cases h;exact ⟨rfl,rfl⟩
 | cons _ _=>cases h
theorem zbS {es:List Expr}:∀ {j:List Nat}{xs:List Value}{vs:List V}{T:TM}{m m':Loc}{s:aR}{Q:aR->Prop},oW c es=some j->bK Fz xs vs->kX m j vs=some m'->fS g T FS->eI c env Fz T m->aQ g Fz T H s->
  (∀ z y,xJ g c env FS Fz T H m' y z->Q y)->wpAny g.M A (Rz ((C8 es env).map (·.2)) xs) (λ_=>Q) E s:=by
 induction es with
 | nil=>
  intro j xs vs T m m' s Q h r f S F I k;cases h;obtain ⟨rfl,rfl⟩:=Me f;cases r;exact zjx<|k T s ⟨iz.refl c env T,S,I,F⟩
 | cons e es J=>
  intro j xs vs T m m' s Q h r f S F I k;obtain ⟨x,p,i,L,rfl,O,l,rfl⟩:=AZ h;refine g3 (Md f) λv vs u f=>?_;subst u;cases r with
  | cons P U=>
   refine zjy<|zX<|uW O S F I P λT1 s1 W Z I1 F1=>?_;exact J l U f Z F1 I1 λT2 s2 b=>k T2 s2 ⟨W.trans b.t,b.S,b.I,b.F⟩
theorem Mf {es:List Expr}:∀ {f:List Nat},oW c es=some f->es.length=f.length:=by
 induction es with
 | nil=>intro f h;cases h;rfl
 | cons e es l=>
  intro f h;obtain ⟨x,p,i,r,rfl,u,j,rfl⟩:=AZ h;exact congrArg (·+1)<|l j
theorem Mg {f:List Nat}:∀ {vs:List V}{m m':Loc},kX m f vs=some m'->f.length=vs.length:=by
 induction f with
 | nil=>
  intro vs m m' h;rw [(Me h).1];rfl
 | cons i f l=>
  intro vs m m' h;refine g3 (Md h) λv r j h=>?_;subst j;exact congrArg (·+1)<|l h
theorem zbT {es:List Expr}:∀ {f:List Nat},oW c es=some f->(C8 es env).findIdx? (·.1)=none/\(C8 es env).length=es.length:=by
 induction es with
 | nil=>intro f _;exact ⟨rfl,rfl⟩
 | cons e es l=>
  intro f h;obtain ⟨x,p,i,r,rfl,u,j,rfl⟩:=AZ h;obtain ⟨a,b⟩:=l j;show ((false,assign (cH x p) env)::C8 es env).findIdx? (·.1)=none/\((false,assign (cH x p) env)::C8 es env).length=_;rw [List.findIdx?_cons,a,eQ,b];exact ⟨rfl,rfl⟩
theorem EU (R:Ar A nn FS){f:Expr}{t:i8}{u:Value}{v:V}{m':Loc}{Q:aR->Prop}(O:oj c f=some t) (l:qH t v m=some m') (S:fS g T FS) (F:eI c env Fz T m) (I:aQ g Fz T H s) (r:VR Fz u v)
  (k:∀ z y,xJ g c env FS Fz T H m' y z->Q y):wpAny g.M A (assign f env u) (λ_=>Q) E s:=by
 rcases Kd O with ⟨x,p,i,rfl,P,rfl⟩ | ⟨es,k0,p,U,rfl,j,rfl⟩
 .cases l;exact zX<|uW P S F I r λz y a b c d=>k z y ⟨a,b,c,d⟩
 .cases v with
  | tup vs=>
   have l:kX m U vs=some m':=l;refine pZ r.tu λa xs k' J e L=>?_;subst J;rw [arm_assign_Tuple];refine bg<|sU ?_;obtain ⟨W,p2⟩:=zbT (env:=env) j;refine wpAny_unpack_tuple R.hd (I.ou e) ?_ W λh' Z=>?_
   .rw [p2,Mf j,Mg l,<-L.length];simp
   .have I':aQ g Fz T H {s with heap:=h'}:=I.turn (tk:=s.toks) I.fresh Z;exact zbS j (by simpa using L) l S F I' k
  | _=>cases l
end
section
variable {prog:nt}{w:j8}{A:di}{R:HN->aR->Prop}{s:aR}
def wL:Value->aR->Prop:=λ_ _=>False
def Mh (prog:nt) (w:j8) (A:di) (f u:Expr) (y:List Expr) (z v:Value) (env:bH) (N:aR->Prop) (s:aR):Prop:=
 wpAny (fO prog w) A (assign f env v) (λ_ l=>wpAny (fO prog w) A (zO y true λc r=>if r=true then do let F<-isTrue c env (eval c env);dP (wd F) else dP (wd r)) (λF j=>
  match F with
  | true=>wpAny (fO prog w) A (eval u env) (λx p=>wpAny (fO prog w) A (call (dO "list.append") [z,x]) (λ_=>N) wL p) wL j
  | false=>N j) wL l) wL s
theorem zbU {u f iter:Expr}{y:List Expr}{scope:iv}{pos:b9}{U z:Value}{env:bH}(I:Nat->aR->Prop)
  (J:∀ n s,I n s->wpAny (fO prog w) A (C6 U) (λr j=>match r with
   | none=>R (.ok .next) j
   | some v=>wpAny (fO prog w) A (wc f U v) (λ_=>Mh prog w A f u y z v env λs'=>∃m,m<n/\I m s') wL j) wL s)
  (n:Nat) (h:I n s):
  rE (fO prog w) A (.compLoop (ml u [⟨f,iter,y,0⟩] scope pos) 0 U z env) R s:=by
 refine codeAny_loop rfl I (λn s hI=>?_) n h;show wpAny _ A ((compTurn (ml u [⟨f,iter,y,0⟩] scope pos) 0 U z env).onRaise (λx=>do HO x env;theTreesLotGoes x)) _ _ s;refine wpAny_noted ?_;rw [compTurn_list];refine bg<|sU<|bg<|cW (J n s hI) (λr j l=>?_) λ_ _ h'=>h'.elim;cases r with
 | none=>exact cT l
 | some v=>
  refine bg<|cW l (λ_ W F=>?_) λ_ _ h'=>h'.elim;refine bg<|cW F (λ_ Z L=>bg<|cW L (λok a0 p=>?_) λ_ _ h'=>h'.elim) λ_ _ h'=>h'.elim;cases ok with
  | false=>exact cT ⟨rfl,p⟩
  | true=>
   exact bg<|bg<|cW p (λx a1 O=>bg<|cW O (λ_ a2 P=>cT<|cT ⟨rfl,P⟩) λ_ _ h'=>h'.elim) λ_ _ h'=>h'.elim
end
noncomputable def mc (f:List (Str×bn)):List (Str×lX)->List (Str×bn)->List (Str×bn)
 | [],j=>j
 | (x,k)::r,j=>if k==lb then mc f r ((x,(f.lookup x).getD 0)::j) else mc f r j
theorem zbV (f:List (Str×bn)) (x:Str) (r:List (Str×lX)) (j:List (Str×bn)):mc f ((x,lb)::r) j=mc f r ((x,(f.lookup x).getD 0)::j):=rfl
theorem zbW (f:List (Str×bn)){x:Str}{k:lX}(h:(k==mN)=false) (r:List (Str×lX)) (j:List (Str×bn)):mc f ((x,k)::r) j=mc f r j:=by
 show (if (k==mN)=true then _ else _)=_;rw [h];rfl
theorem EV {f:List (Str×bn)}{x:Str}:∀ {names:List (Str×lX)}{j:List (Str×bn)},
  (mc f names j).lookup x=if (x,mN)∈names then some ((f.lookup x).getD 0) else j.lookup x
 | [],j=>by simp [mc]
 | (y,k)::r,j=>by
  unfold mc;by_cases u:k=lb
  .subst u;simp only [beq_self_eq_true,if_true];rw [EV];by_cases l:(x,mN)∈r
   .rw [if_pos l,if_pos<|dz _ l]
   .rw [if_neg l];by_cases p:x=y
    .subst p;rw [if_pos<|dh];simp [j9]
    .rw [if_neg (by
      intro h;rcases cR.mp h with h | h
      .exact p (RA h).1
      .exact l h)]
     simp [j9,beq_eq_false_iff_ne.mpr p]
  .have:(k==mN)=false:=by simpa using u
   simp only [this,Re,if_false];rw [EV];by_cases l:(x,mN)∈r
   .rw [if_pos l,if_pos<|dz _ l]
   .rw [if_neg l,if_neg (by
     intro h;rcases cR.mp h with h | h
     .exact u (RA h).2.symm
     .exact l h)]
theorem zbX {scope:iv}{env:bH}(h:∀ x,(x,mN)∈scope.names->(env.cells.lookup x).isSome=true):closureFor scope env=dP (mc env.cells scope.names []):=by
 have u:∀ (names:List (Str×lX)) (f:List (Str×bn)),(∀ x,(x,mN)∈names->(env.cells.lookup x).isSome=true)->
   (zO names f λ(p:Str×lX) (l:List (Str×bn))=>(match p with
    | (name,kind)=>if (kind==mN)=true then do let a<-cellOf env name;dP (wd ((name,a)::l)) else dP (wd l):lq (ForInStep (List (Str×bn)))))=(dP (mc env.cells names f):lq (List (Str×bn))):=by
  intro names;induction names with
  | nil=>intro f _;rfl
  | cons p r z=>
   intro f h;obtain ⟨x,k⟩:=p;rw [RB];by_cases F:k=lb
   .subst F;obtain ⟨ca,j⟩:=nv.mp<|h x dh;simp only [beq_self_eq_true,if_true];have e:cellOf env x=dP ca:=by unfold cellOf;rw [j]
    rw [e];simp only [RC];rw [z _ λy v=>h y<|dz _ v,zbV,j];rfl
   .have:(k==mN)=false:=by simpa using F
    simp only [this,Re,if_false,RC];rw [z _ λy v=>h y<|dz _ v,zbW _ this]
 have:=u scope.names [] h;exact (congrArg (λt:lq (List<|Str×bn)=>t >>=λl=>dP l) this).trans (RC _ _)
theorem Mi {env:bH}:∀ {names:List (Str×lX)}{x:Str}{k:lX},names.lookup x=some k->
  ∃k',(names.map λ(n,k)=>if (k==mN && env.scope.kind==rt && env.kindOf n==some iY) then (n,RD) else (n,k)).lookup x=some k'/\(k'=k\/(k=lb/\k'=iY))
 | [],_,_,h=>by simp at h
 | (n,k0)::r,x,k,h=>by
  have l:=@Mi env r x k;show ∃k',RE x ((if (k0==mN && env.scope.kind==rt && env.kindOf n==some iY)=true then (n,RD) else (n,k0))::_)=some k'/\_;cases j:x==n with
  | true=>
   simp only [j9,j,Option.some.injEq] at h;subst h;by_cases f:(k0==mN && env.scope.kind==rt && env.kindOf n==some iY)=true
   .rw [if_pos f];simp only [fN,beq_iff_eq] at f;exact ⟨iY,by simp [j9,j],aX ⟨f.1.1,rfl⟩⟩
   .rw [if_neg f];exact ⟨k0,by simp [j9,j],ba rfl⟩
  | false=>
   simp only [j9,j] at h;by_cases f:(k0==mN && env.scope.kind==rt && env.kindOf n==some iY)=true
   .rw [if_pos f];simp only [j9,j];exact l h
   .rw [if_neg f];simp only [j9,j];exact l h
theorem Mj {xs:List Str}{n:Nat}{x:Str}{i:Nat}(h:(bindAll n xs).lookup x=some i):n<=i/\i<n+xs.length/\xs[i-n]?=some x:=by
 induction xs generalizing n with
 | nil=>exact nomatch h
 | cons y r f=>
  replace h:RE x ((y,n)::bindAll (n+1) r)=some i:=h
  rw [j9] at h;cases q:x==y with
  | true=>
   rw [q] at h;cases h;refine ⟨dM _,Nat.lt_add_of_pos_right<|sV _,?_⟩;rw [zY,beq_iff_eq.mp q];rfl
  | false=>
   rw [q] at h;refine iw (f h) λa b c=>?_;refine ⟨by exact RF ‹_›,by simp only [eQ];exact VM b,?_⟩;rw [show i-n=(i- (n+1))+1 by exact VN a,List.getElem?_cons_succ];exact c
theorem zbY {xs:List Str}{n:Nat}{x:Str}(h:x∈xs):((bindAll n xs).lookup x).isSome=true:=by
 induction xs generalizing n with
 | nil=>exact nomatch h
 | cons y r f=>
  show (RE x ((y,n)::bindAll (n+1) r)).isSome=true;rw [j9];cases q:x==y with
  | true=>rfl
  | false=>exact f ((cR.mp h).resolve_left λe=>absurd (beq_iff_eq.mpr e)<|by rw [q];exact je)
theorem zbZ {f:Type}{l r:List (Str×f)}{x:Str}:(l++r).lookup x=match l.lookup x with | some v=>some v | none=>r.lookup x:=by
 induction l with
 | nil=>rfl
 | cons p l j=>
  rw [zjz,j9,j9];cases x==p.1 <;> simp [j]
structure EW (c:Ctx) (sc:iv) (xs:List Str):Prop where
 kd:sc.kind=rt
 EX:∀ p∈sc.names,p.2≠iY
 nd:("__debug__" :Str) ∉ sc.names.map (·.1)
 nc:("__classdict__" :Str) ∉ sc.names.map (·.1)
 lo:∀ p∈sc.names,p.2= .local->(p.1∈xs\/c.loc.lookup p.1=none)/\sc.names.lookup p.1=some .local
 fr:∀ p∈sc.names,p.2=lb->(c.sc.names.lookup p.1=some iY\/c.sc.names.lookup p.1=some lb)/\∃i,c.loc.lookup p.1=some i
 tg:∀ x∈xs,sc.names.lookup x=some .local
set_option tactic.hygienic true in
theorem zb0 {c:Ctx}{sc:iv}{xs:List Str}(h:uB c sc xs=true):EW c sc xs:=by
 unfold uB at h;rw [fN,fN,mM,mM] at h;obtain ⟨⟨r,y⟩,z⟩:=h;have f:∀ p∈sc.names,p.2≠iY/\p.1≠("__debug__" :Str)/\p.1≠("__classdict__" :Str):=λp j=>by
  have:=r p j;simp only [fN,bne_iff_ne] at this;exact ⟨this.1.1.1,this.1.1.2,this.1.2⟩
 refine ⟨beq_iff_eq.mp y,λp j=>(f p j).1,λu=>?_,λu=>?_,λp j v=>?_,λp j v=>?_,λx F=>beq_iff_eq.mp<|z x F⟩
 .obtain ⟨p,j,e⟩:=kF.mp u;exact (f p j).2.1 e
 .obtain ⟨p,j,e⟩:=kF.mp u;exact (f p j).2.2 e
 .have:=r p j;rw [v] at this;simp only [fN,zK] at this;refine ⟨?_,beq_iff_eq.mp this.2.2⟩;rcases this.2.1 with q | q
  .exact ba<|List.contains_iff_mem.mp q
  .exact aX<|zjA.mp q
 .have:=r p j;rw [v] at this;simp only [fN] at this;have l:=this.2;split at l
  .rename_i e;exact ⟨ba e,nv.mp l⟩
  .rename_i e;exact ⟨aX e,nv.mp l⟩
  .cases l
theorem uX {x:Str}{k:lX}{l:List (Str×lX)}(h:l.lookup x=some k):(x,k)∈l:=by
 induction l with
 | nil=>exact nomatch h
 | cons p r f=>
  rw [j9] at h;cases q:x==p.1 with
  | true=>rw [q] at h;rw [beq_iff_eq.mp q,<-kH h];exact dh
  | false=>rw [q] at h;exact dz _<|f h
section
variable {g:Gd}{nn n:Nat}{c:Ctx}{A:di}{FS:List bH}{env:bH}{m:Loc}{Fz:AO}{T:TM}{H:Hp}{s:aR}{E:Value->aR->Prop}
theorem eI.less {m':Loc}(F:eI c env Fz T m') (l:∀ (j:Nat) (v:V),m[j]?=some (some v)->m'[j]?=some (some v)):eI c env Fz T m:=by
 obtain ⟨r,u,y,z,f,p,⟨I,es,ep,J,L,O,P⟩,U,W,Z,rc,lt,hi⟩:=F;exact ⟨r,u,y,z,f,p,⟨I,es,ep,J,L,O,λx i v a b d=>P x i v a b<|l _ _ d⟩,
  λx i a b=>let ⟨ca,co,ov,z1,z2,z3,z4⟩:=U x i a b;⟨ca,co,ov,z1,z2,z3,λv d=>z4 v (l _ _ d)⟩,W,Z,rc,lt,λj v hj e=>hi j v hj (l _ _ e)⟩
theorem zb1 {sc:iv}{xs:List Str}{C:bn}{oC:d9}{es:Array lI}{ep:Nat}{z:TM}(K:EW c sc xs) (F:eI c env Fz T m) (hT:∀ a p,T a=some p->z a=some p) (hC:z C=some (fq oC)) (hd:oC.data=sx es ep) (hk:zH es):
  eI (kL c sc xs) (C9 sc (mc env.cells sc.names []) C env) Fz z m:=by
 have l:∀ x,(sc.names.lookup x=some iY\/sc.names.lookup x=some lb)->(x,mN)∈sc.names/\(mc env.cells sc.names []).lookup x=env.cells.lookup x/\(c.sc.names.lookup x=some iY\/c.sc.names.lookup x=some lb)/\(∃i,c.loc.lookup x=some i)/\x ∉ xs:=by
  intro x hx;have r:(x,mN)∈sc.names:=by
   rcases hx with hx | hx
   .exact absurd rfl<|K.EX _<|uX hx
   .exact uX hx
  refine J5 (K.fr _ r rfl) λh1 i u=>?_;obtain ⟨ca,U,W,I,_⟩:=F.cl x i h1 u;refine ⟨r,?_,h1,⟨i,u⟩,λJ=>?_⟩
  .rw [EV,if_pos r,I];rfl
  .have:=K.tg x J;rcases hx with hx | hx <;> (rw [this] at hx;cases hx)
 have f:∀ x i,(kL c sc xs).loc.lookup x=some i->(c.next<=i/\i<c.next+xs.length/\xs[i-c.next]?=some x)\/(x ∉ xs/\c.loc.lookup x=some i):=by
  intro x i h;have h':(bindAll c.next xs++c.loc).lookup x=some i:=h;rw [zbZ] at h';cases q:(bindAll c.next xs).lookup x with
  | some j=>rw [q] at h';cases h';exact ba<|Mj q
  | none=>
   rw [q] at h';refine aX ⟨λJ=>?_,h'⟩;have:=zbY (n:=c.next) J;rw [q] at this;cases this
 refine ⟨K.kd,F.eg,F.eb,F.fr,λx k h=>Mi h,?_,⟨oC,es,ep,hC,hd,hk,?_⟩,?_,?_,K.nd,K.nc,?_,?_⟩
 .intro x y i hx L;rcases f x i hx with ⟨a1,a2,a3⟩ | ⟨a1,a2⟩ <;> rcases f y i L with ⟨b1,O,Z⟩ | ⟨b1,O⟩
  .rw [a3] at Z;cases Z;rfl
  .exact absurd (F.lt y i O)<|qw.mpr a1
  .exact absurd (F.lt x i a2)<|qw.mpr b1
  .exact F.inj x y i a2 O
 .intro x i v hx P hv;exfalso;obtain ⟨h1,_⟩:=K.lo _ (uX hx) rfl;rcases f x i P with ⟨a1,_⟩ | ⟨a1,a2⟩
  .exact F.hi i v a1 hv
  .rcases h1 with h1 | h1
   .exact a1 h1
   .rw [h1] at a2;cases a2
 .refine λx i hx P=>D6 (l x hx) λr e h1 _ hn=>?_;rcases f x i P with ⟨a1,a2,a3⟩ | ⟨a1,a2⟩
  .exact absurd (CN a3) hn
  .obtain ⟨ca,U,W,I,z2,z3,z4⟩:=F.cl x i h1 a2;exact ⟨ca,U,W,e.trans I,hT _ _ z2,z3,z4⟩
 .exact λx y ca hx L ex ey=>qK (l x hx) λ_ e1 h1 _=>qK (l y L) λ_ e2 u _=>F.ci x y ca h1 u (e1.symm.trans ex)<|e2.symm.trans ey
 .intro x i h;rcases f x i h with ⟨a1,a2,a3⟩ | ⟨a1,a2⟩
  .exact a2
  .have:=F.lt x i a2;exact VO this
 .exact λj v hj=>F.hi j v<|fP (xV _ _) hj
theorem zb2 {Q:Bool->Hp->Prop}{es:List Expr}{s:aR}(h:g4 g Fz T Q false s):wpAny g.M A (zO es false λc r=>if r=true then do let f<-isTrue c env (eval c env);dP (wd f) else dP (wd r)) (g4 g Fz T Q) E s:=by
 induction es with
 | nil=>exact cT h
 | cons e es j=>
  rw [RB,if_neg je];exact bg<|cT j
theorem zb3 (j:SB g nn n){f:List Expr}{Fz:AO}{H:Hp}{s:aR}{Q:Bool->Hp->Prop}(a:At g nn c env m A FS Fz T H s) (h:pg (bj g nn) (o8 (cB bz n c) f) m H Q):
  wpAny g.M A (zO f true λc r=>if r=true then do let y<-isTrue c env (eval c env);dP (wd y) else dP (wd r)) (g4 g Fz T Q) E s:=by
 induction f generalizing Fz H s with
 | nil=>exact cT<|g4.at a.I h
 | cons e es z=>
  rw [RB,if_pos rfl];refine bg<|bg<|g4.use (j a h) λF J v1 L l u v=>cT ?_;cases v1 with
  | true=>exact cW (z (a.next l u) v) (λ_ _ p=>p.up l) λ_ _ x=>x
  | false=>exact zb2<|(g4.at u v).up l
def kN (C D:Nat) (oC:d9) (ys:Array Value) (k:Nat):TM:=λa=>if a=C then some (fq oC) else if a=D then some (.exact<|iS ys k) else none
theorem Mk (C D:Nat) (oC:d9) (ys:Array Value) (k:Nat):kN C D oC ys k C=some (fq oC):=if_pos rfl
theorem EY {C D:Nat}(h:D≠C) (oC:d9) (ys:Array Value) (k:Nat):kN C D oC ys k D=some (.exact<|iS ys k):=(if_neg h).trans (if_pos rfl)
theorem EZ {C D a:Nat}{oC:d9}{ys:Array Value}{k:Nat}{p:dX}(e:kN C D oC ys k a=some p):(a=C/\p=fq oC)\/(a=D/\p= .exact (iS ys k)):=by
 by_cases f:a=C
 .exact ba ⟨f,(kH<|(if_pos f).symm.trans e).symm⟩
 .replace e:=(if_neg f).symm.trans e
  by_cases j:a=D
  .exact aX ⟨j,(kH<|(if_pos j).symm.trans e).symm⟩
  .exact absurd ((if_neg j).symm.trans e) (λq=>nomatch q)
theorem zb4 {D:bn}{y:Value}{ys:Array Value}{k:Nat}{Q:aR->Prop}(I:aQ g Fz T H s) (e:T D=some (.exact<|iS ys k)) (hz:ys.size<=pP)
  (q:∀ k' j,aQ g Fz (km T D (.exact (iS (ys.push y) k'))) H j->Q j):wpAny g.M A (call (dO "list.append") [aL D,y]) (λ_=>Q) E s:=by
 have f:s.heap.get? D=some (iS ys k):=I.cI _ _ e;refine HA Rg ⟨_,f,rfl⟩ zi2 ?_<|zi3 _ _;show wpAny _ _ (updateSeq D (·.push y) >>=λ_=>ret bO) _ _ s;refine bg<|wpAny_updateSeq f rfl (cT ⟨bO,rfl,?_⟩) (hz:=hz);exact q _ _<|I.tA (tk:=s.toks) e uS (p':= .exact<|iS (ys.push y) _)<|CS f _
theorem Qt {f:Type}{l:List f}{i:Nat}(h:i<l.length):l.drop i=l[i]::l.drop (i+1):=List.drop_eq_getElem_cons h
theorem oU.next {f:Expr}{p:Value}{GG:Nat->TM}{items:List V}{j:List (Nat×List V)}{r:AO}(S:oU g A f p GG items j r){i:Nat}{v:V}{P:Option Value->aR->Prop}{R:Value->aR->Prop}(z:items[i]?=some v) (F:r.le Fz) (J:Apart T (GG i)) (I:aQ g Fz (T.add<|GG i) H s) (hs:l6 j H)
  (L:∀ x u,wpAny g.M A (wc f p x) (λ_ O=>R x O) E u->P (some x) u)
  (k:∀ l y x,Fz.le l->aQ g l (T.add<|GG<|i+1) H y->VR l x v->R x y):wpAny g.M A (C6 p) P E s:=
 cW (S.item z F J I hs k) (λ_ _ ⟨x,e,h⟩=>e▸L x _ h) λ_ _ x=>x
theorem oU.done {f:Expr}{l:Value}{GG:Nat->TM}{items:List V}{j:List (Nat×List V)}{p:AO}(S:oU g A f l GG items j p){i:Nat}{P:Option Value->aR->Prop}(u:i=items.length) (v:p.le Fz) (y:Apart T (GG i)) (I:aQ g Fz (T.add<|GG i) H s) (hs:l6 j H)
  (k:∀ r,aQ g Fz T H r->P none r):wpAny g.M A (C6 l) P E s:=
 cW (S.stop u v y I hs k) (λ_ _ ⟨e,h⟩=>e▸h) λ_ _ x=>x
theorem Ml {C D b:bn}{oC:d9}{ys:Array Value}{k:Nat}(f:b≠C) (j:b≠D):kN C D oC ys k b=none:=by unfold kN;rw [if_neg f,if_neg j]
structure pq (T:TM) (GG:Nat->TM) (C D:bn):Prop where
 tC:T C=none
 tD:T D=none
 gC:∀ i,GG i C=none
 gD:∀ i,GG i D=none
 ne:D≠C
theorem Bp {G:TM}{a:bn}(h:(T.add G) a=none):T a=none/\G a=none:=by
 cases q:G a with
 | some p=>rw [TM.dJ q] at h;cases h
 | none=>rw [TM.jx q] at h;exact ⟨h,rfl⟩
section
variable {GG:Nat->TM}{C D:bn}{oC:d9}{ys:Array Value}{k i:Nat}
theorem zb5 (f:∀ i a,(GG i a).isSome=(GG 0 a).isSome) (j:(T.add<|GG 0) C=none) (l:(T.add<|GG 0) D=none) (p:D≠C):pq T GG C D:=by
 have z:∀ i a,GG 0 a=none->GG i a=none:=λi a h=>by
  have:=f i a;rw [h] at this;exact Option.not_isSome_iff_eq_none.mp (by rw [this];exact je)
 exact ⟨(Bp j).1,(Bp l).1,λi=>z i _ (Bp j).2,λi=>z i _ (Bp l).2,p⟩
variable (K:pq T GG C D)
include K
theorem pq.E0:Apart T (kN C D oC ys k):=λb q e=>by
 rcases EZ e with ⟨h,_⟩ | ⟨h,_⟩
 .rw [h];exact K.tC
 .rw [h];exact K.tD
theorem pq.Bq (f:Apart T (GG i)):Apart (T.add<|kN C D oC ys k) (GG i):=λb q e=>by
 rw [TM.jx<|Ml (λh=>by rw [h,K.gC] at e;cases e) λh=>by rw [h,K.gD] at e;cases e];exact f b q e
theorem pq.atC:((T.add<|kN C D oC ys k).add (GG i)) C=some (fq oC):=by rw [TM.jx<|K.gC _,TM.dJ<|Mk ..]
theorem pq.Mm:((T.add<|kN C D oC ys k).add (GG i)) D=some (.exact<|iS ys k):=by rw [TM.jx<|K.gD _,TM.dJ<|EY K.ne ..]
theorem pq.up (f:Apart T (GG i)):∀ b q,T b=some q->((T.add<|kN C D oC ys k).add (GG i)) b=some q:=λb q e=>TM.rX (K.Bq f)<|TM.rX K.E0 e
theorem pq.start {F:AO}(j:aQ g F (T.add<|GG 0) H s) (l:gL F (T.add<|GG 0) H C) (p:gL F (T.add<|GG 0) H D) (r:(dX.loose oC).holds s.heap C) (u:(dX.exact<|iS ys k).holds s.heap D):aQ g F ((T.add<|kN C D oC ys k).add (GG 0)) H s:=by
 have:=j.rY (G:=kN C D oC ys k) λb q e=>by
  rcases EZ e with ⟨rfl,rfl⟩ | ⟨rfl,rfl⟩
  .exact ⟨l,r⟩
  .exact ⟨p,u⟩
 refine this.nK λb q e=>?_;cases w:kN C D oC ys k b with
 | some v=>
  have g0:GG 0 b=none:=by
   rcases EZ w with ⟨h,_⟩ | ⟨h,_⟩
   .rw [h];exact K.gC 0
   .rw [h];exact K.gD 0
  rw [TM.jx g0,TM.dJ w] at e;rw [TM.dJ w];exact e
 | none=>
  rw [TM.jx w];cases f:GG 0 b with
  | some _=>rw [TM.dJ f] at e ⊢;exact e
  | none=>rw [TM.jx f,TM.jx w] at e;rw [TM.jx f];exact e
theorem pq.back {p:TM}{j:d9}{wM:Array Value}{k':Nat}(r:p C=some (fq j)) (only:∀ b,b≠C->p b=((T.add<|kN C D oC ys k).add (GG i)) b):
  ∀ b q,((T.add<|kN C D j wM k').add (GG i)) b=some q->(km p D<|.exact<|iS wM k') b=some q:=λb q e=>by
 by_cases l:b=D
 .rw [l,K.Mm] at e;rw [l,oy];exact e
 .rw [ko l];by_cases f:b=C
  .rw [f,K.atC] at e;rw [f,r];exact e
  .rw [only b f];cases w:GG i b with
   | some _=>rw [TM.dJ w] at e ⊢;exact e
   | none=>
    rw [TM.jx w,TM.jx<|Ml f l] at e ⊢;exact e
end
inductive Mn (g:Gd) (F1:AO) (T:TM) (GG:Nat->TM) (C D:bn) (J:List V->List V->Hp->Prop) (items:List V) (N:Nat) (s:aR):Prop
 | mk (i:Nat) (acc:List V) (ys:Array Value) (k:Nat) (oC:d9) (fu:AO) (H':Hp) (hN:N=items.length-i) (hi:i<=items.length) (hJ:J (items.drop i) acc H') (l:F1.le fu) (I:aQ g fu ((T.add<|kN C D oC ys k).add (GG i)) H' s) (hd:∃es ep,oC.data=sx es ep/\zH es) (r:bK fu ys.toList acc) (ha:acc.length<=i)
theorem zb6 (TK:ef g) (ih:SE g nn n) (a1:SB g nn n){z f:Expr}{L:List Expr}{scope:iv}{xs:List Str}{tg:i8}{GG:Nat->TM}{C D:bn}{oC:d9}{ys:Array Value}{k i:Nat}{F1 u:AO}{J:List V->List V->Hp->Prop}{items j:List V}{m':Loc}{x:Value}{v:V}
  (CF:EW c scope xs) (a2:oj (kL c scope xs) f=some tg) (a:At g nn c env m A FS Fz T H s) (K:pq T GG C D) (ap:Apart T (GG<|i+1)) (a3:qH tg v m=some m') (l1:Fz.le u) (lF:F1.le u){s7:aR}{y:Hp}(I7:aQ g u ((T.add<|kN C D oC ys k).add (GG<|i+1)) y s7) (rx:VR u x v)
  (hd:∃es ep,oC.data=sx es ep/\zH es) (r:bK u ys.toList j) (ha:j.length<=i) (p:i<items.length) (hz:ys.size<=pP)
  (h:pg (bj g nn) (o8 (cB bz n<|kL c scope xs) L) m' y λb y=>match b with
   | true=>bu (bj g nn) (cE bz n (kL c scope xs) z) m' y λv a4=>J (items.drop<|i+1) (j++[v]) a4
   | false=>J (items.drop (i+1)) j y):
  Mh g.prog g.w A f z L (aL D) x (C9 scope (mc env.cells scope.names []) C env) (λs'=>∃N,N<items.length-i/\Mn g F1 T GG C D J items N s') s7:=by
 refine g3 hd λes ep a5 a6=>?_;have FC:=zb1 CF a.F (K.up ap) (K.atC (oC:=oC) (ys:=ys) (k:=k)) a5 a6;refine EU a.R a2 a3 (a.S.qP<|K.up ap) (FC.mono l1) I7 rx λT8 s8 B=>?_;have l:∀ b,b≠C->T8 b=((T.add<|kN C D oC ys k).add (GG<|i+1)) b:=λb O=>by
  refine QI λne=>?_;rcases B.t b ne with q | ⟨x,_,_,hx,_⟩
  .exact O q
  .exact CF.EX _ (uX hx) rfl
 obtain ⟨P,U,W,t1,t2,t3,_⟩:=B.F.ns;have bk:∀ {wM:Array Value}{k':Nat},_:=λ{wM} {k'}=>K.back (wM:=wM) (k':=k') t1 l;have Z:T8 D=some (.exact<|iS ys k):=(l D K.ne).trans K.Mm;have a8:At g nn (kL c scope xs) (C9 scope (mc env.cells scope.names []) C env) m' A FS u T8 y s8:=⟨a.R,B.S,B.F,B.I,a.sl⟩;have hN:=zjB p<|xU i;refine g4.use (zb3 a1 a8 h) λF9 H9 b s9 l9 I9 h9=>?_;cases b with
 | false=>
  refine ⟨_,hN,i+1,j,ys,k,P,F9,H9,rfl,p,h9,lF.trans l9,I9.nK λb q e=>?_,⟨U,W,t2,t3⟩,r.mono l9,zZ ha⟩;have:=bk b q e;by_cases O:b=D
  .rw [O,oy] at this;rw [O,Z];exact this
  .rwa [ko O] at this
 | true=>
  refine bA.use (ih (a8.next l9 I9) h9) λa7 a9 aa ac ai a0 ae af ag=>zb4 ae Z hz λk' aj ah=>⟨_,hN,i+1,j++[aa],ys.push ac,k',P,a7,a9,rfl,p,ag,(lF.trans l9).trans a0,ah.nK bk,⟨U,W,t2,t3⟩,?_,?_⟩
  .rw [Array.toList_push];exact (r.mono<|l9.trans a0).append (i4 af ct)
  .rw [cC];exact C0 ha
theorem zb7 {GG:Nat->TM}{C D:bn}{oC:d9}{ys:Array Value}{k:Nat}{j:List V}(K:pq T GG C D) (l:aQ g Fz (T.add<|kN C D oC ys k) H s) (p:gL Fz T H D) (r:bK Fz ys.toList j):aQ g Fz (T.add<|one C<|fq oC) (aN H D<|aO j) s:=by
 have u:aQ g Fz (T.add<|one C<|fq oC) H s:=l.nK λb q e=>by
  cases w:one C (dX.loose oC) b with
  | some _=>
   obtain ⟨rfl,rfl⟩:=kY w;rw [TM.dJ w] at e;rw [TM.dJ<|Mk ..];exact e
  | none=>
   rw [TM.jx w] at e;exact TM.rX K.E0 e
 exact u.put (a:=D) (o:=aO j) (h':=s.heap) (tk:=s.toks) p.f (by rw [TM.jx<|by unfold one;rw [if_neg K.ne]];exact K.tD) (zJ _ _) ⟨ys,k,l.cI _ _<|TM.dJ<|EY K.ne oC ys k,r⟩ rfl
theorem Mo {e:Expr}{t:i8}{I:oh}(h:oj c e=some t) (f:sZ t I=true) (q:ym I=true):∃es k p,e=jD es k p:=by
 rcases Kd h with ⟨x,p,i,_,_,j⟩ | ⟨es,k,p,r,l,_,_⟩
 .rw [j] at f;have:(!ym I)=true:=f;rw [q] at this;cases this
 .exact ⟨es,k,p,l⟩
theorem Mp (G:g.Ok) (TK:ef g) (ih:∀ k,k<=n->SE g nn k) (aa:SB g nn n){v f it:Expr}{z:List Expr}{scope:iv}{pos p:b9}{xs:List Str}{tg:i8}{Q:V->Hp->Prop}{I:Option (Value->lq Unit)}{K0:Value->aR->Prop}
  (hx:yn f=some xs) (ac:uB c scope xs=true) (a4:oj (kL c scope xs) f=some tg) (a5:sZ tg (mP bz n c it)=true) (a:At g nn c env m A FS Fz T H s)
  (h:bu (bj g nn) (i3 (cE bz n (kL c scope xs) v) tg (mP bz n c it)<|o8 (cB bz n<|kL c scope xs) z) m H Q)
  (ae:∀ L H' D C oC s',Fz.le L->T C=none->aQ g L (T.add<|one C<|fq oC) H' s'->(∃es ep,oC.data=sx es ep/\zH es)->Q (aB D) H'->RG g.M A E I K0 (aL D) C (.ok .next) s'):
  wpAny g.M A (comprehension (ml v [⟨f,it,z,0⟩] scope pos) scope env p (newList []) false (eval it env) I) K0 E s:=by
 conv at h=>whnf
 have CF:=zb0 ac;cases n with
 | zero=>exact i6 h
 | succ n'=>
 obtain ⟨a0,af⟩:=Mb (E:=E) G TK (ih n'<|qz _) (Mo a4 a5) a h;have ag:∀ x,(x,mN)∈scope.names->(env.cells.lookup x).isSome=true:=λx hx=>by
  refine J5 (CF.fr _ hx rfl) λh1 i h2=>?_;obtain ⟨ca,co,ov,z1,_⟩:=a.F.cl x i h1 h2;rw [z1];rfl
 refine wpAny_comprehension_free rfl a0 (zbX ag) CF.kd (λx hx hl=>(CF.lo x hx hl).2)<|cW af (λx1 s1 h1=>cW h1 (λa6 l h2=>?_) λ_ _ x=>x) λ_ _ x=>x;obtain ⟨F1,H1,items,au,GG,l1,ah,I1,S,hsz,J,ai,aj,ak⟩:=h2;have N1:=I1.fresh;generalize hD:l.heap.objs.size=D at N1;refine Hz ?_ (by rw [jE];simp);rw [hD];refine wpAny_newFunctionEnv CF.EX (λy hy=>by simp at hy) (λh' al am=>?_) CF.kd;have I2:aQ g F1 (T.add<|GG 0) H1 {l with heap:=l.heap.push (iS #[] 0)}:=I1.grow (dr:=l.drawn) (tk:=l.toks) λb o e=>kU _ e;have N2:=I2.fresh;have r:(l.heap.push<|iS #[] 0).objs.size=D+1:=by rw [Ro,hD]
 dsimp only at N2;rw [r] at N2;have a7:h'.Ns (D+1) (λx=>([]:List (Str×Value)).reverse.lookup x):=by rw [<-r];exact al
 have U:zjp (D+1) ((l.heap.push (iS #[] 0)).push {cls:=cq "dict",data:=sx #[]}) h':=by rw [<-r];exact am
 obtain ⟨oC,es,ep,hC,ao,aq,_⟩:=a7;have ar:h'.get? D=some (iS #[] 0):=U.extBut _ _ (vU<|xU _) (kU _<|by rw [<-hD];exact sK _ rfl);have I3:aQ g F1 (T.add<|GG 0) H1 {l with heap:=h',toks:=l.toks+0}:=I1.grow (dr:=l.drawn) λb o e=>U.extBut _ _ (by
  have:=sS e;rw [hD] at this;exact vU (Rd this)) (kU _ (kU _ e))
 have K:pq T GG (D+1) D:=zb5 S.rZ N2.t N1.t<|vU<|xU _;have ap:=S.apart ah;have O:∃es ep,oC.data=sx es ep/\zH es:=⟨es,ep,ao,aq⟩;have I4:aQ g F1 ((T.add<|kN (D+1) D oC #[] 0).add (GG 0)) H1 {l with heap:=h',toks:=l.toks+0}:=K.start I3 N2 N1 ⟨oC.slots,hC⟩ ar;have W:∀ s3:aR,aQ g F1 ((T.add<|kN (D+1) D oC #[] 0).add (GG 0)) H1 s3->
   rE g.M A (.compLoop (ml v [⟨f,it,z,0⟩] scope pos) 0 a6 (aL D)<|C9 scope (mc env.cells scope.names []) (D+1) env) (RG g.M A E I K0 (aL D)<|D+1) s3:=by
  refine λs3 I5=>zbU (Mn g F1 T GG (D+1) D J items) (λN s' p=>?_) items.length ⟨0,[],#[],0,oC,F1,H1,rfl,zP _,ai, .refl _,I5,O,ct,dM _⟩;obtain ⟨i,av,ys,k,oC,L,H',rfl,hi,hJ,lF,I6,O,a1,Z⟩:=p;have a8:ys.size<=pP:=by
   have:=a1.length;rw [CO] at this;rw [jE,this];exact fP Z<|fP hi hsz
  by_cases P:i<items.length
  .rw [Qt P] at hJ;obtain ⟨u,j⟩:=aj _ _ _ _ hJ;cases a2:qH tg items[i] m with
   | none=>rw [a2] at j;exact j.elim
   | some m'=>
    rw [a2] at j;exact S.next (lJ P) lF (K.Bq<|ap i) I6 u (λx s1 hr=>hr) λF7 s7 x a3 I7 rx=>
     zb6 TK (ih (n'+1)<|dM _) aa CF a4 a K (ap<|i+1) a2 ((l1.trans lF).trans a3) (lF.trans a3) I7 rx O (a1.mono a3) Z P a8 j
  .obtain rfl:i=items.length:=Q9 hi<|qw.mp P;rw [zjC] at hJ;obtain ⟨u,a9⟩:=ak _ _ hJ;refine S.done rfl lF (K.Bq<|ap _) I6 u λs7 I7=>?_;have FD:=Bh I7 K.E0<|EY K.ne oC ys k;exact ae L _ D (D+1) oC s7 (l1.trans lF) K.tC (zb7 K I7 FD a1) O<|a9 D FD.h
 show rE g.M A (.compStart (ml v [⟨f,it,z,0⟩] scope pos) 0 a6 (aL D)<|C9 scope (mc env.cells scope.names []) (l.heap.push<|iS #[] 0).objs.size env) (RG g.M A E I K0 (aL D) (l.heap.push<|iS #[] 0).objs.size) {l with heap:=h',toks:=l.toks+0};rw [r];exact codeAny_compStart_list (W _ I4)<|S.self (K.Bq<|ap 0) I4<|W _ I4
theorem E3 {C:bn}{p:dX}(h:T C=none):Apart T (one C p):=λa q e=>by rw [(kY e).1];exact h
theorem zb8 (G:g.Ok) (TK:ef g) (I:∀ k,k<=n->SE g nn k) (r:SB g nn n){j f u:Expr}{l:List Expr}{scope:iv}{pos:b9}{xs:List Str}{v:i8}{Q:V->Hp->Prop}
  (J:yn f=some xs) (y:uB c scope xs=true) (z:oj (kL c scope xs) f=some v) (p:sZ v (mP bz n c u)=true) (a:At g nn c env m A FS Fz T H s)
  (h:bu (bj g nn) (i3 (cE bz n (kL c scope xs) j) v (mP bz n c u)<|o8 (cB bz n<|kL c scope xs) l) m H Q):
  wpAny g.M A (eval (ml j [⟨f,u,l,0⟩] scope pos) env) (bA g Fz T Q) E s:=by
 rw [eval_ListComp];refine Mp G TK I r J y z p a h λL O D C oC P U W F ⟨es,ep,Z,hk⟩ q=>?_;have ap:Apart T (one C<|fq oC):=E3 W;obtain ⟨sl,e⟩:=F.cI _ _<|TM.dJ<|kh _ _;refine ⟨xM es,⟨_,es,ep,e,Z,hk,λ_=>rfl⟩,λh' hs=>?_⟩;exact ⟨L,O,aB D,U,F.tz (tk:=P.toks) ap λb o hb e=>hs.extBut b o (qQ hb) e,mJ D,q⟩
theorem zb9:SE g nn 0:=λa h=>i6 h
theorem zca:SB g nn 0:=λa h=>i6 h
theorem VR.old {x:Value}{v:V}(I:aQ g Fz T H s) (r:VR g.h₀.get? x v):VR Fz x v:=r.mono λa o e=>I.old a o e
theorem zcb (G:g.Ok) (TK:ef g){x:Str}{pos:b9}{Q:V->Hp->Prop}(a:At g nn c env m A FS Fz T H s) (h:bu (bj g nn) (cE bz (n+1) c<|cH x pos) m H Q):wpAny g.M A (eval (cH x pos) env) (bA g Fz T Q) E s:=by
 change bu (bj g nn) (match pW c x with | some i=>az i | none=>om (DJ bz c x) jb) m H Q at h;cases j:pW c x with
 | some i=>
  rw [j] at h;exact bZ (Zj h) λv f h=>yC a.I a.F j f λl r=> .at a.I r h
 | none=>
  rw [j] at h;refine qL h λv f h=>?_;unfold DJ at f;cases p:jT c x with
  | false=>rw [p,if_neg je] at f;cases f
  | true=>
   rw [p,if_pos rfl] at f;exact bZ (TK.wq x v f) λl u y=>wB G a.I a.F p u<|.at a.I (y.old a.I) h
theorem zcc (f:SE g nn n){o i:Expr}{pos:b9}{Q:V->Hp->Prop}(a:At g nn c env m A FS Fz T H s) (h:bu (bj g nn) (cE bz (n+1) c<|rq o i pos) m H Q):wpAny g.M A (eval (rq o i pos) env) (bA g Fz T Q) E s:=by
 change bu (bj g nn) (match wr i with | some q=>lG (cE bz n c o) (uA (cE bz n c) q.l) (uA (cE bz n c) q.u) (uA (cE bz n c) q.st) | none=>c5 (cE bz n c o)<|cE bz n c i) m H Q at h;cases hs:wr i with
 | some q=>
  rw [hs] at h;obtain ⟨p,rfl⟩:=Zk hs;exact zbi f a h
 | none=>
  rw [hs] at h;refine zbh f ?_ a h;clear h a;cases i <;> first | rfl | cases hs
theorem zcd (G:g.Ok) (TK:ef g) (j:SE g nn n){f:Expr}{as:List Expr}{I:List uf}{pos:b9}{Q:V->Hp->Prop}(a:At g nn c env m A FS Fz T H s) (h:bu (bj g nn) (cE bz (n+1) c<|iX f as I pos) m H Q):wpAny g.M A (eval (iX f as I pos) env) (bA g Fz T Q) E s:=by
 obtain ⟨J,L⟩:=Ka h;clear h;obtain ⟨l,r⟩:=jl.mp J;obtain ⟨v,O⟩:=jl.mp l;have hz:=of_decide_eq_true r;clear l r J;obtain rfl:=HP.mp O;clear O;refine Ec L (λx F k1=>?_) λk1=>qL k1 λq F k2=>rS k2 λy k3=>qL k3 λi P U=>?_
 .clear L;obtain ⟨p,rfl⟩:=tn F;exact Ec k1 (λk u z=>zbo G TK j u v a z) λk2=>Ec k2 (λk u z=>zbp G TK j u v a z) λk3=>qL k3 λb u z=>zbn G TK j u v a z
 .have y:=(fN _ _).mp y;rw [Ef F];exact zbz G TK j y.1 P v hz y.2 a U
inductive Mq (Φ:bG) (n:Nat) (c:Ctx) (m:Loc) (H:Hp) (Q:V->Hp->Prop) (elt:Expr) (scope:iv):List xK->Prop
 | mk (target it:Expr) (ifs:List Expr) (xs:List Str) (tg:i8) (hx:yn target=some xs) (hcf:uB c scope xs=true) (htg:oj (kL c scope xs) target=some tg) (zkm:sZ tg (mP bz n c it)=true)
  (h:bu Φ (i3 (cE bz n (kL c scope xs) elt) tg (mP bz n c it)<|o8 (cB bz n<|kL c scope xs) ifs) m H Q):Mq Φ n c m H Q elt scope [⟨target,it,ifs,0⟩]
theorem Mr {Φ:bG}{j:Expr}{f:List xK}{scope:iv}{pos:b9}{Q:V->Hp->Prop}(h:bu Φ (cE bz (n+1) c<|ml j f scope pos) m H Q):Mq Φ n c m H Q j scope f:=by
 refine qL h λv y h=>qL h λxs z h=>rS h λp h=>qL h λF r h=>rS h λl h=>?_;have p:=(fN _ _).mp p;obtain ⟨t,I,u,J⟩:=v;obtain rfl:=beq_iff_eq.mp p.1;rw [uO y];exact .mk t I u xs F z p.2 r l h
theorem zce (G:g.Ok) (TK:ef g) (v:∀ k,k<=n->SE g nn k) (p:SB g nn n){j:Expr}{f:List xK}{scope:iv}{pos:b9}{Q:V->Hp->Prop}(a:At g nn c env m A FS Fz T H s) (h:bu (bj g nn) (cE bz (n+1) c<|ml j f scope pos) m H Q):wpAny g.M A (eval (ml j f scope pos) env) (bA g Fz T Q) E s:=by
 cases Mr h with
 | mk t I y xs J z r u l F=>exact zb8 G TK v p z r u l a F
theorem zcf (G:g.Ok) (TK:ef g) (z:∀ k,k<=n->SE g nn k) (p:SB g nn n):SE g nn (n+1):=by
 intro c e env m A FS Fz T H s E Q a h;have j:SE g nn n:=z n<|dM _;cases e with
 | Constant k W pos=>exact zaN a h
 | Name x pos=>exact zcb G TK a h
 | BinOp l v r pos=>
  exact qL h λo u h=>zaP j a u h
 | UnaryOp v x pos=>
  refine rS h λu h=>?_;cases v with
  | USub=>exact zaQ j a h
  | _=>cases u
 | BoolOp v vs pos=>exact zaU j a h
 | Compare l I Z pos=>
  exact rS h λu h=>za1 j u a h
 | IfExp t b o pos=>exact zaR j p a h
 | List es pos=>
  exact rS h λy h=>zaS j y a h
 | Tuple es k pos=>
  exact rS h λy h=>zaT j y a h
 | Dict J vs pos=>
  exact qL h λl L h=>rS h λhz h=>zbl G L (bC hz) a h
 | Subscript o i pos=>exact zcc j a h
 | Attribute o x pos=>
  exact rS h λO h=>qL h λi P h=>zbj G TK j O P a h
 | Call f as J pos=>exact zcd G TK j a h
 | ListComp U F scope pos=>exact zce G TK z p a h
 | _=>exact i6 h
theorem Br (G:g.Ok) (TK:ef g):∀ n,(∀ k,k<=n->SE g nn k)/\SB g nn n
 | 0=>⟨λk f=>by obtain rfl:=Nat.le_zero.mp f;exact zb9,zca⟩
 | n+1=>by
  obtain ⟨a,b⟩:=Br G TK n;refine ⟨λk f=>?_,za9 (a n<|dM _) b⟩;rcases Nat.le_succ_iff.mp f with f | rfl
  .exact a k f
  .exact zcf G TK a b
theorem pr (G:g.Ok) (TK:ef g) (n:Nat):SE g nn n:=(Br G TK n).1 n (dM _)
theorem E4 (G:g.Ok) (TK:ef g) (n:Nat):SB g nn n:=(Br G TK n).2
theorem zcg {l:bn}{xs:Array Value}{n:Nat}{k:Int}{t:i7}{v:Value}{j:Nat}{Q:Unit->aR->Prop}(u:s.heap.get? l=some (iS xs n)) (f:rK xs.size k=some j) (P:k.natAbs<2 ^ 62)
  (z:Q () {s with heap:=s.heap.update l (Rb (·.setIfInBounds j v))}):wpAny g.M A (setItem (aL l) (eD k t) v) Q E s:=by
 have J:s.heap.IsList l xs:=⟨_,u,rfl,n,rfl⟩;have L:j<xs.size:=by
  unfold rK at f;split at f
  .split at f
   .cases f;lia
   .cases f
  .split at f
   .cases f;lia
   .cases f
 have y:xs[j]?=some xs[j]:=Array.getElem?_eq_getElem L;unfold setItem;try with_reducible refine oZ ?_
 first | refine bg (cT ?_) | skip
 refine bg (wpAny_sequenceKey J.typeIs (by decide) ?_);refine bg (wpAny_callSpecial?_slot (name:=Str.ofString "__setitem__") J.typeIs zjD
  (HA zjD J.typeIs entry_list_setitem ?_ (args_list_setitem _ _ _)))
 show wpAny _ _ (zkM (eD k t) >>=_) _ _ s;by_cases F:0<=k
 .have I:j=k.toNat:=by
   unfold rK at f;rw [if_pos F] at f;split at f <;> cases f;rfl
  refine bg (zjE (fitsIndex_of F<|by exact VP P) ?_);obtain ⟨i,rfl⟩:=xQ F;have O:j=i:=by simpa using I
  subst O;refine bg<|bg<|wpAny_seqItemAt u rfl<|cT ?_;rw [y];refine bg<|zjF u rfl ?_;first
   | exact bg (cT<|cT ⟨bO,rfl,cT z⟩)
   | exact cT ⟨.none,rfl,cT z⟩
 .have r:k<0:=by exact rC.mp ‹_›
  have I:0<=k+xs.size/\j=(k+xs.size).toNat:=by
   unfold rK at f;rw [if_neg F] at f;split at f
   .cases f;exact ⟨by assumption,rfl⟩
   .cases f
  refine bg (zjE (fitsIndex_neg r<|by exact VQ P) ?_);have p:=seqIndex_neg (k:=k) (n:=xs.size) r (by exact Jh I.1);obtain ⟨i,rfl⟩:∃i:Nat,k=we i:=by
   cases k with
   | ofNat n=>exact absurd r<|lc.mpr<|lf n
   | negSucc n=>exact ⟨n,rfl⟩
  rw [<-I.2] at p;refine bg<|bg ?_;refine bg<|wpAny_seqItems u rfl<|cT<|cT ?_;rw [p];simp only [ul,y,RH];refine bg<|zjF u rfl ?_;first
   | exact bg (cT<|cT ⟨bO,rfl,cT z⟩)
   | exact cT ⟨.none,rfl,cT z⟩
theorem zch {x:Value}{v:V}(r:VR Fz x v){k:List Nat}{f:List (Str×Value)}{kvs:List (List Nat×V)}(u:nH Fz f kvs) (L:(f.map (·.1)).Nodup):nH Fz (z8 f ⟨k.toArray⟩ x) (lr kvs k v):=by
 induction u with
 | nil=>exact .cons r .nil
 | @cons k' z F f kvs a u I=>
  have j:=(Da.mp L);have I:=I j.2;by_cases h:k'=k
  .subst h;rw [show lr ((k',F)::kvs) k' v=(k',v)::kvs from if_pos rfl];have J:z8 (((⟨k'.toArray⟩:Str),z)::f) ⟨k'.toArray⟩ x=(⟨k'.toArray⟩,x)::f:=by
    unfold z8;rw [if_pos<|by simp];simp only [eF,if_true];congr 1
    refine (Q4 λp O=>?_).trans (RI _);exact if_neg λe=>j.1 p.1 (xW O) e.symm
   rw [J];exact .cons r u
  .have l:(⟨k'.toArray⟩:Str)≠⟨k.toArray⟩:=λe=>h (by have:=congrArg (λy:Str=>y.cps.toList) e;simpa using this);rw [show lr ((k',F)::kvs) k v=(k',F)::lr kvs k v from if_neg h];have J:z8 (((⟨k'.toArray⟩:Str),z)::f) ⟨k.toArray⟩ x=(⟨k'.toArray⟩,z)::z8 f ⟨k.toArray⟩ x:=by
    unfold z8;simp only [lY,decide_eq_false l,Db];split
    .simp only [eF,if_neg l]
    .rfl
   rw [J];exact .cons a I
theorem zci {x y z:Value}{o i v:V}{Q:Hp->Prop}(I:aQ g Fz T H s) (U:VR Fz x o) (r:VR Fz y i) (u:VR Fz z v) (h:uK o i v H Q):wpAny g.M A (setItem x y z) (λ_=>K7 g Fz T Q) E s:=by
 refine dj h λb q h=>?_;rw [U.mR q];refine pY h (λn q h=>dj h λvs e h=>dj h λj F h=>?_) λh=>dj h λk q h=>dj h λkvs e h=>?_
 .refine r.wC q λt=>?_;have e:=D8 e;refine g3 (I.gB _ _ e) λxs k J L=>?_;have W:vs.length=xs.size:=by rw [<-L.length];simp
  rw [W] at F;refine zcg J F h.1 ⟨Fz,_, .refl _,I.put (o:=aO<|vs.set j v) (tk:=s.toks) (I.hf _ _ e rfl) (yH I e) uS ⟨_,_,CS J _,?_⟩ rfl,h.2⟩;simpa using L.set u j
 .refine r.nI q λt=>?_;have e:=yy e;refine rR (I.gB _ _ e) λlo Z O P=>?_;have f:Z.length=kvs.length:=by have:=congrArg pS<|EA P;simpa using this
  refine wpAny_setItem_pairs (hsz:=by rw [jE,f];have:=h.1;exact VS this) (A9 ⟨k.toArray⟩ t) O λh' l hs=>?_;obtain ⟨_,_,_,_,_,_,_,_,p⟩:=O;exact ⟨Fz,_, .refl _,I.put (o:=gd<|lr kvs k v) (tk:=s.toks+1) (I.hf _ _ e rfl) (yH I e) hs.extBut ⟨lo,_,l,zch u P p⟩ rfl,h.2⟩
theorem iz.rf {c:Ctx}{env:bH}{T:TM}:iz c env T T:=iz.refl c env T
def zcj (f:AO) (j:Hp) (m':Loc) (Q:Fl->Loc->Hp->Prop):xX->Prop
 | .next=>Q .next m' j
 | oQ x=>∃v,VR f x v/\Q (gW v) m' j
 | _=>False
inductive jH (g:Gd) (c:Ctx) (env:bH) (FS:List bH) (Fz:AO) (T:TM) (Q:Fl->Loc->Hp->Prop) (f:xX) (s:aR):Prop
 | mk (fu:AO) (T':TM) (H':Hp) (m':Loc) (l:Fz.le fu) (t:iz c env T T') (S:fS g T' FS) (I:aQ g fu T' H' s) (F:eI c env fu T' m') (q:zcj fu H' m' Q f)
theorem jH.up {j:AO}{u:TM}{Q:Fl->Loc->Hp->Prop}{f:xX}(l:Fz.le j) (t:iz c env T u) (p:jH g c env FS j u Q f s):jH g c env FS Fz T Q f s:=
 let ⟨v,y,z,F,a,b,r,d,e,f⟩:=p;⟨v,y,z,F,l.trans a,t.trans b,r,d,e,f⟩
abbrev oz:=AO->TM->Hp->aR->bH->Value->V->Prop
def XE (g:Gd) (XR:oz) (c:Ctx) (env:bH) (FS:List bH) (Fz:AO) (T:TM) (X:V->Hp->Prop) (E:Value->aR->Prop):Prop:=
 ∀ f j l m' p e v,Fz.le f->iz c env T j->fS g j FS->aQ g f j l p->eI c env f j m'->XR f j l p env e v->X v l->E e p
theorem XE.step {XR:oz}{f:AO}{j:TM}{X:V->Hp->Prop}(x:XE g XR c env FS Fz T X E) (l:Fz.le f) (t:iz c env T j):XE g XR c env FS f j X E:=
 λp r u y z e v a b=>x p r u y z e v (l.trans a)<|t.trans b
theorem XE.no {XR:oz}{c:Ctx}{env:bH}{FS:List bH}{Fz:AO}{T:TM}{E:Value->aR->Prop}:XE g XR c env FS Fz T bR E:=λ_ _ _ _ _ _ _ _ _ _ _ _ _ h=>h.elim
def SS (g:Gd) (XR:oz) (nn n:Nat):Prop:=∀ {c:Ctx}{st:gA}{env:bH}{m:Loc}{A:di}{FS:List bH}{Fz:AO}{T:TM}{H:Hp}{s:aR}{E:Value->aR->Prop}{Q:Fl->Loc->Hp->Prop}{X:V->Hp->Prop},
 At g nn c env m A FS Fz T H s->FS.head?=some env->XE g XR c env FS Fz T X E->wpS (bj g nn) (cS bz n c st) m H Q X->wpAny g.M A (exec st env) (jH g c env FS Fz T Q) E s
variable {XR:oz}
theorem yP (z:SS g XR nn n) (J:FS.head?=some env){bB:List gA}{m:Loc}{Fz:AO}{T:TM}{H:Hp}{s:aR}{Q:Fl->Loc->Hp->Prop}{X:V->Hp->Prop}(a:At g nn c env m A FS Fz T H s) (x:XE g XR c env FS Fz T X E) (h:qJ (bj g nn) (pX (cS bz n c) bB) m H Q X):
  wpAny g.M A (execs bB env) (jH g c env FS Fz T Q) E s:=by
 induction bB generalizing m Fz T H s with
 | nil=>exact xY ⟨Fz,T,H,m, .refl _, .rf,a.S,a.I,a.F,h⟩
 | cons st bB L=>
  refine Aa<|cW (z a J x h) (λf Z p=>?_) λ_ _ x=>x;obtain ⟨O,P,U,W,l,r,u,y,j,q⟩:=p;cases f with
  | next=>exact cW (L ⟨a.R,u,j,y,a.sl⟩ (x.step l r) q) (λ_ _ p=>p.up l r) λ_ _ x=>x
  | ret v=>exact ⟨O,P,U,W,l,r,u,y,j,q⟩
  | _=>exact q.elim
theorem bA.r7 {Q:V->Hp->Prop}{R:Value->aR->Prop}{t:lq Value}(a:At g nn c env m A FS Fz T H s) (p:wpAny g.M A t (bA g Fz T Q) E s)
  (k:∀ f j v x u,Fz.le f->At g nn c env m A FS f T j u->VR f x v->Q v j->R x u):wpAny g.M A t R E s:=
 bA.use p λy z v x F l I r q=>k y z v x F l (a.next l I) r q
theorem zck (G:g.Ok) (TK:ef g){e:Expr}{pos:b9}{Q:Fl->Loc->Hp->Prop}{X:V->Hp->Prop}(a:At g nn c env m A FS Fz T H s) (h:wpS (bj g nn) (cD<|cE bz n c e) m H Q X):
  wpAny g.M A (exec (.Return (some e) pos) env) (jH g c env FS Fz T Q) E s:=by
 conv at h=>whnf
 exact wpAny_Return_some<|bA.r7 a (pr G TK n a h) λf j v x p l a1 r q=>⟨f,T,j,m,l, .rf,a1.S,a1.I,a1.F,v,r,q⟩
theorem zcl (G:g.Ok) (TK:ef g) (j:SS g XR nn n) (l:FS.head?=some env){t:Expr}{b o:List gA}{pos:b9}{Q:Fl->Loc->Hp->Prop}{X:V->Hp->Prop}(a:At g nn c env m A FS Fz T H s) (x:XE g XR c env FS Fz T X E)
  (h:wpS (bj g nn) (bS (cB bz n c t) (pX (cS bz n c) b)<|pX (cS bz n c) o) m H Q X):wpAny g.M A (exec (.If t b o pos) env) (jH g c env FS Fz T Q) E s:=by
 conv at h=>whnf
 refine wpAny_If<|g4.use (E4 G TK n a h) λv y v1 z f r u=>?_;cases v1 with
 | true=>exact cW (yP j l (a.next f r) (x.step f<|.rf) u) (λ_ _ p=>p.up f<|.rf) λ_ _ x=>x
 | false=>exact cW (yP j l (a.next f r) (x.step f<|.rf) u) (λ_ _ p=>p.up f<|.rf) λ_ _ x=>x
theorem zcm (G:g.Ok) (TK:ef g){f:Expr}{as:List Expr}{j:List uf}{p pos:b9}{Q:Fl->Loc->Hp->Prop}{X:V->Hp->Prop}(a:At g nn c env m A FS Fz T H s) (h:wpS (bj g nn) (dL<|cE bz n c<|iX f as j p) m H Q X):
  wpAny g.M A (exec (.Expr (iX f as j p) pos) env) (jH g c env FS Fz T Q) E s:=by
 conv at h=>whnf
 refine wpAny_Expr (bA.r7 a (pr G TK n a h) λu y v x z l a1 r q=>?_) (by unfold interactive;rw [a.F.kf];rfl) rfl;cases v with
 | none=>obtain rfl:=r.none_inv;exact ⟨u,T,y,m,l, .rf,a1.S,a1.I,a1.F,q⟩
 | _=>exact q.elim
theorem zcn (G:g.Ok) (TK:ef g){o i v:Expr}{p pos:b9}{Q:Fl->Loc->Hp->Prop}{X:V->Hp->Prop}(a:At g nn c env m A FS Fz T H s) (h:wpS (bj g nn) (n7 (cE bz n c o) (cE bz n c i)<|cE bz n c v) m H Q X):
  wpAny g.M A (exec (j3 [rq o i p] v pos) env) (jH g c env FS Fz T Q) E s:=by
 conv at h=>whnf
 refine wpAny_Assign_Subscript (bA.r7 a (pr G TK n a h) λZ H1 v1 x1 s1 l a1 u y=>bA.r7 a1 (pr G TK n a1 y) λF2 H2 v2 x2 s2 j a2 z J=>bA.r7 a2 (pr G TK n a2 J) λF3 H3 v3 x3 s3 f a3 L O=>?_) (by clear h;cases v <;> rfl);refine cW (zci a3.I (z.mono f) L (u.mono<|j.trans f) O) (λ_ s4 p=>?_) λ_ _ x=>x;obtain ⟨P,U,r,W,q⟩:=p;exact ⟨P,T,U,m,((l.trans j).trans f).trans r, .rf,a.S,W,a.F.mono<|((l.trans j).trans f).trans r,q⟩
theorem zco (G:g.Ok) (TK:ef g){o v:Expr}{x:Str}{i:Nat}{p pos:b9}{Q:Fl->Loc->Hp->Prop}{X:V->Hp->Prop}(y:idOf bz.attrs x=some i) (a:At g nn c env m A FS Fz T H s) (h:wpS (bj g nn) (c6 (cE bz n c o) i<|cE bz n c v) m H Q X):
  wpAny g.M A (exec (j3 [j2 o x p] v pos) env) (jH g c env FS Fz T Q) E s:=by
 conv at h=>whnf
 have z:attrName i=x:=(Be y).1;have hs:Ab [j2 o x p] v pos.line env=dP false:=by clear h;cases v <;> rfl
 refine Dc (bA.r7 a (pr G TK n a h) λF1 H1 v1 l s1 r a1 J L=>?_) hs rfl;show wpAny g.M A (assign (j2 o x p) env l) _ _ _;rw [zjG];refine bg<|oZ<|bA.r7 a1 (pr G TK n a1 L) λF2 H2 v2 O P j a2 U W=>bg<|sU ?_;rw [<-z];have f:wpAny g.M A (setAttr O (attrName i) l) (λ_=>jH g c env FS Fz T Q .next) E P:=by
  refine cW (zbf G TK a2.I U (J.mono j) W) (λ_ s4 p=>?_) λ_ _ x=>x;obtain ⟨Z,H4,u,I4,q⟩:=p;exact ⟨Z,T,H4,m,(r.trans j).trans u, .rf,a.S,I4,a.F.mono<|(r.trans j).trans u,q⟩
 first
  | exact oZ f
  | exact bg (oZ<|cW f (λ_ _ x=>wpAny_release' x) λ_ _ x=>x)
end
section
variable {g:Gd}{nn n:Nat}{c:Ctx}{A:di}{FS:List bH}{env:bH}{m:Loc}{Fz:AO}{T:TM}{H:Hp}{s:aR}{E:Value->aR->Prop}{XR:oz}
theorem eI.E5 {u:TM}(F:eI c env Fz T m) (l:∀ a o,T a=some (fq o)->((∃es ep,o.data=sx es ep/\a=env.locals)\/(∃r,o.data=vF r))->u a=some (fq o)):eI c env Fz u m:=by
 obtain ⟨a,b,d,z,e,f,⟨I,es,ep,J,v,L,O⟩,h,i,j,k,lt,P⟩:=F;exact ⟨a,b,d,z,e,f,⟨I,es,ep,l _ _ J<|ba ⟨es,ep,v,rfl⟩,v,L,O⟩,
  λx i p q=>let ⟨ca,U,r,W,Z,y,z4⟩:=h x i p q;⟨ca,U,r,W,l _ _ Z (aX ⟨r,y⟩),y,z4⟩,i,j,k,lt,P⟩
noncomputable def r8 (T:TM) (C:bn):TM:=λa=>if a=C then none else T a
theorem Bs {T:TM}{C a:bn}(h:a≠C):r8 T C a=T a:=by simp [r8,h]
theorem E6 (T:TM) (C:bn):r8 T C C=none:=by simp [r8]
theorem zcp (G:g.Ok) (TK:ef g){x:Str}{i:Nat}{px p:b9}{y f Z:Expr}{I:List Expr}{scope:iv}{pos:b9}{xs:List Str}{tg:i8}{Q:Fl->Loc->Hp->Prop}(hs:kK c x=some i)
  (hx:yn f=some xs) (a0:uB c scope xs=true) (a1:oj (kL c scope xs) f=some tg) (J:sZ tg (mP bz n c Z)=true) (a:At g nn c env m A FS Fz T H s)
  (h:bu (bj g nn) (i3 (cE bz n (kL c scope xs) y) tg (mP bz n c Z)<|o8 (cB bz n<|kL c scope xs) I) m H (λv H=>Q .next (m.set i<|some v) H)):
  wpAny g.M A (comprehension (ml y [⟨f,Z,I,0⟩] scope pos) scope env p (newList []) false (eval Z env)<|some λv=>assign (cH x px) env v) (λ_=>jH g c env FS Fz T Q .next) E s:=by
 refine Mp G TK (Br G TK n).1 (E4 G TK n) hx a0 a1 J a h λF1 H1 D C oC s1 l1 hC I1 ⟨es,ep,hd,hk⟩ q=>?_;have ap:Apart T (one C<|fq oC):=E3 hC;have up:∀ b p,T b=some p->(T.add<|one C<|fq oC) b=some p:=λb p e=>TM.rX ap e;refine zX<|uW hs (a.S.qP up) ((a.F.mono l1).qP up) I1 (mJ D) λu s2 t1 S1 I2 F2=>?_;have O:C≠env.locals:=by
  rintro rfl;obtain ⟨oL,_,_,z,_⟩:=a.F.ns;rw [hC] at z;cases z
 have P:(T.add<|one C<|fq oC) C=some (fq oC):=TM.dJ<|kh _ _;have r:u C=some (fq oC):=by
  cases QG (u C=(T.add<|one C<|fq oC) C) with
  | inl e=>rw [e];exact P
  | inr ne=>
   rcases t1 C ne with e | ⟨_,co,ov,_,_,z,zd⟩
   .exact absurd e O
   .rw [P] at z;cases z;rw [hd] at zd;cases zd
 obtain ⟨sl,e⟩:=I2.cI _ _ r;refine ⟨xM es,⟨_,es,ep,e,hd,hk,λ_=>rfl⟩,λh' a2=>?_⟩;have I3:aQ g F1 (r8 u C) H1 {s2 with heap:=h'}:=by
  have a3:aQ g F1 (r8 u C) H1 s2:=I2.nK λb p e=>by
   by_cases j:b=C
   .subst j;rw [E6] at e;cases e
   .rw [Bs j] at e;exact e
  refine a3.turn (tk:=s2.toks) ⟨I2.ft _ _ r,E6 ..,?_⟩ a2.extBut;cases w:H1 C with
  | none=>rfl
  | some o=>exact absurd r<|I2.ht _ _ _ w
 have t':iz c env T (r8 u C):=λb j=>by
  by_cases l:b=C
  .subst l;rw [E6,hC] at j;exact absurd rfl j
  .rw [Bs l] at j;have e0:(T.add<|one C<|fq oC) b=T b:=TM.jx (by unfold one;rw [if_neg l]);have:=t1 b (by rw [e0];exact j);rw [e0] at this;exact this
 have S':fS g (r8 u C) FS:=⟨λe he=>by
  obtain ⟨k1,L,o,hf,hT,a4⟩:=S1.all e he;obtain ⟨_,L',o',U,W,_⟩:=a.S.all e he;rw [hf] at U;cases U;have a5:L≠C:=by rintro rfl;rw [hC] at W;cases W
  exact ⟨k1,L,o,hf,(Bs a5).trans hT,a4⟩⟩
 have F':eI c env F1 (r8 u C) (m.set i<|some<|aB D):=F2.E5 λb o eb j=>by
  have l:b≠C:=by
   rintro rfl;rw [r] at eb;cases eb;rcases j with ⟨_,_,_,j⟩ | ⟨_,j⟩
   .exact O j
   .rw [hd] at j;cases j
  rw [Bs l];exact eb
 exact ⟨F1,_,H1,_,l1,t',S',I3,F',q⟩
theorem Ms {f:AO}{p:TM}{j:Hp}{m':Loc}{Q:Fl->Loc->Hp->Prop}{r:aR}(l:Fz.le f) (B:xJ g c env FS f T j m' r p) (q:Q .next m' j):jH g c env FS Fz T Q .next r:=⟨f,p,j,m',l,B.t,B.S,B.I,B.F,q⟩
noncomputable def Mt (v:Expr):Bool:=n8 v.ctorIdx 8 || (n8 v.ctorIdx 9 || n8 v.ctorIdx 10)
theorem zcq {v:Expr}(h:Mt v=false){x:Str}{p:b9}{l:Nat}:Ab [cH x p] v l env=dP false:=by
 cases v <;> first | rfl | cases h
inductive Bt:Expr->Prop where
 | list (elt:Expr) (gens:List xK) (scope:iv) (lp:b9):Bt (ml elt gens scope lp)
 | no (v:Expr) (h:∀ T n c,cE T n c v= .bad):Bt v
 | plain (v:Expr) (h:Mt v=false):Bt v
theorem zcr (v:Expr):Bt v:=by
 cases v with
 | ListComp j f scope l=>exact .list j f scope l
 | SetComp j f scope l=>exact .no _ λ_ n _=>by cases n <;> rfl
 | DictComp k j f scope l=>exact .no _ λ_ n _=>by cases n <;> rfl
 | _=>exact .plain _ rfl
theorem Mu (G:g.Ok) (TK:ef g){x:Str}{i:Nat}{v:Expr}{p pos:b9}{Q:Fl->Loc->Hp->Prop}(f:kK c x=some i) (a:At g nn c env m A FS Fz T H s) (h:bu (bj g nn) (cE bz n c v) m H λv H=>Q .next (m.set i<|some v) H)
  (hs:Ab [cH x p] v pos.line env=dP false):wpAny g.M A (exec (j3 [cH x p] v pos) env) (jH g c env FS Fz T Q) E s:=
 Dc (bA.r7 a (pr G TK n a h) λj l v1 J L r a1 u y=>
  zX (uW f a1.S a1.F a1.I u λz O t S I F=>⟨j,z,l,_,r,t,S,I,F,y⟩)) hs rfl
theorem zcs (G:g.Ok) (TK:ef g){x:Str}{i:Nat}{j:Expr}{f:List xK}{scope:iv}{r:b9}{p pos:b9}{Q:Fl->Loc->Hp->Prop}(z:kK c x=some i) (a:At g nn c env m A FS Fz T H s) (h:bu (bj g nn) (cE bz n c<|ml j f scope r) m H λv H=>Q .next (m.set i<|some v) H)
  (hs:Ab [cH x p] (ml j f scope r) pos.line env=dP true):wpAny g.M A (exec (j3 [cH x p] (ml j f scope r) pos) env) (jH g c env FS Fz T Q) E s:=by
 cases n with
 | zero=>exact i6 h
 | succ n=>
  cases Mr h with
  | mk t L F xs O I u y l J=>
   rw [exec_Assign_arm];refine bg<|sU ?_;rw [hs];refine bg<|cT ?_;rw [if_pos rfl];refine bg ?_;rw [arm_evalThenUse_ListComp];exact bg<|cW (zcp (px:=p) G TK z I u y l a J) (λ_ _ q=>cT<|cT q) λ_ _ x=>x
theorem zct (G:g.Ok) (TK:ef g){x:Str}{i:Nat}{v:Expr}{p pos:b9}{Q:Fl->Loc->Hp->Prop}{X:V->Hp->Prop}(j:kK c x=some i) (a:At g nn c env m A FS Fz T H s) (h:wpS (bj g nn) (cg i<|cE bz n c v) m H Q X):
  wpAny g.M A (exec (j3 [cH x p] v pos) env) (jH g c env FS Fz T Q) E s:=by
 cases zcr v with
 | list l f scope r=>
  have hs:∃b,Ab [cH x p] (ml l f scope r) pos.line env=dP b:=⟨_,rfl⟩;obtain ⟨b,hs⟩:=hs;cases b with
  | false=>exact Mu G TK j a h hs
  | true=>exact zcs G TK j a h hs
 | no v q=>
  replace h:bu (bj g nn) (cE bz n c v) m H _:=h
  rw [q] at h;exact i6 h
 | plain v q=>exact Mu G TK j a h<|zcq q
end
theorem zcu {i:Nat}{v:Option V}{f:List Nat}{vs:List V}{m:Loc}(h:i ∉ f):kX (m.set i v) f vs=(kX m f vs).map (·.set i v):=by
 induction f generalizing vs m with
 | nil=>cases vs <;> rfl
 | cons j f l=>
  cases vs with
  | nil=>rfl
  | cons w vs=>
   show kX ((m.set i v).set j (some w)) f vs=(kX (m.set j<|some w) f vs).map _;rw [zjH _ _ λe:i=j=>h<|e▸dh];exact l λe=>h<|dz _ e
theorem zcv {i:Nat}{v:V}{f:List Nat}{vs:List V}{m:Loc}(h:f.length=vs.length):kX m (f++[i]) (vs++[v])=(kX m f vs).map (·.set i (some v)):=by
 induction f generalizing vs m with
 | nil=>cases vs with
  | nil=>rfl
  | cons _ _=>cases h
 | cons j f l=>cases vs with
  | nil=>cases h
  | cons w vs=>exact l<|HQ h
theorem zcw {f:List Nat}{vs:List V}{m:Loc}(l:f.Nodup) (j:f.length=vs.length):kX m f.reverse vs.reverse=kX m f vs:=by
 induction f generalizing vs m with
 | nil=>cases vs with
  | nil=>rfl
  | cons _ _=>cases j
 | cons i f p=>cases vs with
  | nil=>cases j
  | cons v vs=>
   have j:=HQ j;have l:=Ac.mp l;rw [Ad,Ad,zcv (by rw [zjI,zjI];exact j),p l.2 j];exact (zcu l.1).symm
theorem bK.reverse {A:AO}{xs:List Value}{vs:List V}(h:bK A xs vs):bK A xs.reverse vs.reverse:=
 bK.ind (P:=λxs vs=>bK A xs.reverse vs.reverse) ct (λa _ f=>by rw [Ad,Ad];exact f.append<|i4 a ct) h
section
variable {g:Gd}{nn n:Nat}{c:Ctx}{A:di}{FS:List bH}{env:bH}{m:Loc}{Fz:AO}{T:TM}{H:Hp}{s:aR}{E:Value->aR->Prop}{XR:oz}
inductive pN (c:Ctx):List Str->List Nat->Prop where
 | nil:pN c [] []
 | cons {x:Str}{i:Nat}{xs:List Str}{is:List Nat}:kK c x=some i->pN c xs is->pN c (x::xs) (i::is)
theorem pN.snoc {x:Str}{i:Nat}(h:kK c x=some i){xs:List Str}{f:List Nat}(r:pN c xs f):pN c (xs++[x]) (f++[i]):=by
 induction r with
 | nil=>exact .cons h .nil
 | cons a _ j=>exact .cons a j
theorem pN.reverse {xs:List Str}{f:List Nat}(r:pN c xs f):pN c xs.reverse f.reverse:=by
 induction r with
 | nil=>exact .nil
 | cons a _ j=>rw [Ad,Ad];exact j.snoc a
theorem zcx {ns:List Str}{j:List Nat}{xs:List Value}{vs:List V}{T:TM}{m m':Loc}{s:aR}{Q:aR->Prop}(h:pN c ns j) (r:bK Fz xs vs) (f:kX m j vs=some m') (S:fS g T FS) (F:eI c env Fz T m) (I:aQ g Fz T H s)
  (k:∀ p l,xJ g c env FS Fz T H m' l p->Q l):wpAny g.M A (Rz (ns.map λn=>C7 env n) xs) (λ_=>Q) E s:=by
 induction h generalizing xs vs T m s Q with
 | nil=>cases r with
  | nil=>cases f;exact zjx<|k T s ⟨.rf,S,I,F⟩
  | cons _ _=>cases f
 | cons u v y=>cases r with
  | nil=>cases f
  | cons z J=>exact zjy<|zbR u S F I z λP U b1=>y J f b1.S b1.F b1.I λL O b=>k L O ⟨b1.t.trans b.t,b.S,b.I,b.F⟩
theorem zcy {f:Expr->Option Str}(v:∀ x p y,f (cH x p)=some y->y=x){es:List Expr}:∀ {l:List Nat},oW c es=some l->(es.filterMap f).length=es.length->pN c (es.filterMap f) l:=by
 induction es with
 | nil=>intro l h _;cases h;exact .nil
 | cons e es z=>
  intro l h j;obtain ⟨x,p,i,F,rfl,I,r,rfl⟩:=AZ h;rw [sR] at j ⊢;cases u:f (cH x p) with
  | none=>
   rw [u] at j;have:=zjJ f es;have j:(es.filterMap f).length=es.length+1:=j;lia
  | some y=>
   rw [u] at j;obtain rfl:=v _ _ _ u;exact .cons I<|z r<|HQ j
theorem zcz {es:List Expr}{k:Nat}{p:b9}{v:Expr}(h:wt v=none):HR [jD es k p] v env=dP none:=by
 cases v <;> first | rfl | cases h
theorem zcA {f:Type}{ns:List f}{n:Nat}{j l:Bool}{b1 r p:Bool}{u:lq (Option<|List f)}(h:(!l || j)=true):∀ {X:lq (Option<|List f)},(X=if b1=true then dP none else if r=true then dP none else if (ns.length !=n || p)=true then dP none else if j=true then dP none else if l=true then u else dP (some ns))->X=dP none\/(X=dP (some ns)/\ns.length=n):=by
 rintro X rfl;cases b1 with
 | true=>exact ba rfl
 | false=>cases r with
  | true=>exact ba rfl
  | false=>cases j with
   | true=>cases (ns.length !=n || p) <;> exact ba rfl
   | false=>cases l with
    | true=>cases h
    | false=>
     cases e:(ns.length !=n || p) with
     | true=>exact ba rfl
     | false=>exact aX ⟨rfl,by have:=(zjK.mp e).1;simpa using this⟩
theorem zcB {es vs:List Expr}{k k2:Nat}{p p2:b9}:∃(b1 j:Bool) (f:Expr->Option Str) (u:lq (Option<|List Str)),(∀ x p y,f (cH x p)=some y->y=x)/\HR [jD es k p] (jD vs k2 p2) env=if b1=true then dP none else if j=true then dP none else
  if ((es.filterMap f).length !=es.length || (es.filterMap f).eraseDups.length !=(es.filterMap f).length)=true then dP none else if vs.all (foldedForSure 8)=true then dP none else if vs.all (QJ 8)=true then u else dP (some<|es.filterMap f):=by
 refine ⟨_,_,_,_,?_,rfl⟩;intro x p y e;dsimp only at e;split at e
 .cases e;rfl
 .cases e
theorem zcC (y:env.scope.kind=rt){es:List Expr}{j:List Nat}{k:Nat}{p:b9}{v:Expr}(hs:oW c es=some j) (l:DX v=true):
  HR [jD es k p] v env=dP none\/∃ns,HR [jD es k p] v env=dP (some ns)/\pN c ns j/\ns.length=es.length:=by
 cases q:wt v with
 | none=>exact ba<|zcz q
 | some w=>
  obtain ⟨k2,p2,rfl⟩:=Ee q;obtain ⟨b1,F,f,u,r,e⟩:=zcB (env:=env) (es:=es) (vs:=w.es) (k:=k) (k2:=k2) (p:=p) (p2:=p2);exact (zcA l e).imp_right λz=>⟨_,z.1,zcy r hs z.2,z.2⟩
set_option tactic.hygienic true in
theorem zcD (G:g.Ok) (TK:ef g){es:List Expr}{y:List Nat}{k:Nat}{v:Expr}{p pos:b9}{Q:Fl->Loc->Hp->Prop}{X:V->Hp->Prop}(hs:oW c es=some y) (P:DX v=true) (a:At g nn c env m A FS Fz T H s)
  (h:wpS (bj g nn) (jd y<|cE bz n c v) m H Q X):wpAny g.M A (exec (j3 [jD es k p] v pos) env) (jH g c env FS Fz T Q) E s:=by
 conv at h=>whnf
 have z:Ab [jD es k p] v pos.line env=dP false:=by clear h P;cases v <;> rfl
 rw [exec_Assign_arm];refine bg<|sU ?_;rw [z];refine bg<|cT ?_;rw [if_neg<|by decide];refine bg<|bA.r7 a (pr G TK n a h) λF1 H1 v1 U W Z a1 r1 f=>?_;split at f
 .rename_i vs;obtain ⟨J,f⟩:=f;split at f
  .rename_i m' j;rcases zcC (env:=env) (k:=k) (p:=p) a.F.kf hs P with e | ⟨ns,e,L,l⟩
   .rw [e];refine bg<|cT ?_;show wpAny g.M A (do assignAll U [assign (jD es k p) env];dP xX.next) _ _ _;have ht:oj c (jD es k p)=some (j4 y):=by show (oW c es).map _=_;rw [hs];rfl
    refine bg<|cW (EU (Q:=λr=>jH g c env FS Fz T Q .next r) a.R ht (v:=d8 vs) j a1.S a1.F a1.I r1 λT' r b=>Ms Z b f) (λ_ _ q=>cT q) λ_ _ x=>x
   .rw [e];refine bg (cT ?_);show wpAny g.M A (do rule "assign.swapped-stores";let items<-unpackItems U ns.length none;Rz (ns.reverse.map λn=>C7 env n) items.reverse;dP xX.next) _ _ _;refine bg (wpAny_rule ?_);refine pZ r1.tu λb xs k' O e2 rs=>?_;subst O;have u:y.length=vs.length:=Mg j;have hsz:ns.length=xs.toArray.size:=by rw [l,Mf hs,u,<-rs.length];simp
    rw [hsz];refine bg<|wpAny_unpackItems_tuple a.R.hd (a1.I.ou e2) λh' hk=>?_;have I':aQ g F1 T H1 {W with heap:=h'}:=a1.I.turn (tk:=W.toks) a1.I.fresh hk;refine bg (cW (zcx (Q:=λr=>jH g c env FS Fz T Q .next r) L.reverse (xs:=xs.toArray.toList.reverse) (by simpa using rs.reverse) (by rw [zcw J u];exact j) a1.S a1.F I' λT' r b=>Ms Z b f) (λ_ _ q=>cT q) λ_ _ x=>x)
  .exact f.elim
 .exact f.elim
def oA (T G:TM):TM:=λa=>match G a with
 | some _=>none
 | none=>T a
theorem yQ {T G:TM}{a:bn}(h:G a=none):oA T G a=T a:=by unfold oA;rw [h]
theorem E7 {T G:TM}{a:bn}{p:dX}(h:G a=some p):oA T G a=none:=by unfold oA;rw [h]
structure Bu (c:Ctx) (env:bH) (T G:TM):Prop where
 ap:Apart T G
 lo:G env.locals=none
theorem Mv (F:eI c env Fz T m){G:TM}(h:Apart T G):Bu c env T G:=⟨h,by
 obtain ⟨f,_,_,z,_⟩:=F.ns;cases q:G env.locals with
 | none=>rfl
 | some p=>rw [h _ _ q] at z;cases z⟩
theorem Bv {G j:TM}(M:Bu c env T G) (r:∀ a p,G a=some p->∀ f l,p=fq f->f.data≠vF l) (t:iz c env (T.add G) j){a:bn}{p:dX}(e:G a=some p):j a=some p:=by
 cases QG (j a=(T.add G) a) with
 | inl q=>rw [q];exact TM.dJ e
 | inr q=>
  rcases t a q with q | ⟨x,f,l,_,_,z,u⟩
  .subst q;rw [M.lo] at e;cases e
  .rw [TM.dJ e] at z;cases z;exact absurd u<|r a _ e f l rfl
theorem zcE {G f:TM}(h:∀ a p,G a=some p->f a=some p):∀ a p,((oA f G).add G) a=some p->f a=some p:=λa p e=>by
 cases q:G a with
 | some p'=>rw [TM.dJ q] at e;cases e;exact h a _ q
 | none=>rw [TM.jx q,yQ q] at e;exact e
theorem Mw {G j:TM}(M:Bu c env T G) (t:iz c env (T.add G) j):iz c env T (oA j G):=λa f=>by
 cases q:G a with
 | some p=>rw [E7 q,M.ap a p q] at f;exact absurd rfl f
 | none=>
  rw [yQ q] at f;have e:(T.add G) a=T a:=TM.jx q;rcases t a (by rw [e];exact f) with w | ⟨x,l,r,a1,a2,a3,a4⟩
  .exact ba w
  .exact aX ⟨x,l,r,a1,a2,by rw [<-e];exact a3,a4⟩
theorem Mx {G l:TM}(v:fS g T FS) (h:Apart T G) (S:fS g l FS):fS g (oA l G) FS:=⟨λe r=>by
 obtain ⟨k1,L,o,u,y,z⟩:=S.all e r;obtain ⟨_,L',o',f,j,_⟩:=v.all e r;rw [u] at f;cases f;have F:G L=none:=by
  cases q:G L with
  | none=>rfl
  | some p=>rw [h _ _ q] at j;cases j
 exact ⟨k1,L,o,u,(yQ F).trans y,z⟩⟩
theorem My {G f:TM}{m':Loc}(M:Bu c env T G) (u:∀ a p,G a=some p->∀ r j,p=fq r->r.data≠vF j) (v:∀ a p,G a=some p->f a=some p) (F:eI c env Fz f m'):eI c env Fz (oA f G) m':=F.E5 λa o e l=>by
 cases q:G a with
 | none=>rw [yQ q];exact e
 | some p=>
  have:=v a p q;rw [e] at this;cases this;rcases l with ⟨_,_,_,rfl⟩ | ⟨j,l⟩
  .rw [M.lo] at q;cases q
  .exact absurd l<|u a _ q o j rfl
theorem E8 {T G:TM}(h:Apart T G):∀ a p,T a=some p->(T.add G) a=some p:=λ_ _ e=>TM.rX h e
theorem Mz {G f:TM}:∀ a p,(oA f G) a=some p->f a=some p:=λa p e=>by
 cases q:G a with
 | some _=>rw [E7 q] at e;cases e
 | none=>rw [yQ q] at e;exact e
inductive zcF (g:Gd) (c:Ctx) (env:bH) (FS:List bH) (F1:AO) (T:TM) (GG:Nat->TM) (J:List V->Loc->Hp->Prop) (items:List V) (N:Nat) (s:aR):Prop
 | mk (i:Nat) (m:Loc) (T':TM) (fu:AO) (H':Hp) (hN:N=items.length-i) (hi:i<=items.length) (hJ:J (items.drop i) m H') (l:F1.le fu) (t:iz c env T T') (S:fS g T' FS) (ap:Apart T' (GG 0)) (I:aQ g fu (T'.add<|GG i) H' s) (F:eI c env fu T' m)
inductive zcG (g:Gd) (c:Ctx) (env:bH) (FS:List bH) (Fz:AO) (T:TM) (J:Nat->Loc->Hp->Prop) (N:Nat) (s:aR):Prop
 | mk (m:Loc) (T':TM) (fu:AO) (H':Hp) (hJ:J N m H') (l:Fz.le fu) (t:iz c env T T') (S:fS g T' FS) (I:aQ g fu T' H' s) (F:eI c env fu T' m)
abbrev E9 (g:Gd) (nn:Nat) (c:Ctx) (A:di) (FS:List bH) (env:bH) (m:Loc) (Fz:AO) (T:TM) (H:Hp) (s:aR) (E:jv->aR->Prop) (XR:oz) (f:mK) (j:mK) (b:List gA) (pos:b9) (l:i8) (Q:Fl->Loc->Hp->Prop) (X:V->Hp->Prop):Prop:=∀ {n:Nat}(G:g.Ok) (TK:ef g) (u:SS g XR nn n) (v:FS.head?=some env) (r:oj c f=some l) (p:sZ l (mP bz n c j)=true) (a:At g nn c env m A FS Fz T H s) (h:wpS (bj g nn) (ju l (mP bz n c j)<|pX (cS bz n c) b) m H Q X),wpAny g.M A (exec (.For f j b [] pos) env) (jH g c env FS Fz T Q) E s
abbrev MA (t:Ctx×bH×TM×Gd×List bH×(jv->aR->Prop)×Nat×di×Loc×i8×AO×Hp×aR×oz×mK×mK×List gA×b9×(Fl->Loc->Hp->Prop)×(V->Hp->Prop)):Prop:=E9 t.2.2.2.1 t.2.2.2.2.2.2.1 t.1 t.2.2.2.2.2.2.2.1 t.2.2.2.2.1 t.2.1 t.2.2.2.2.2.2.2.2.1 t.2.2.2.2.2.2.2.2.2.2.1 t.2.2.1 t.2.2.2.2.2.2.2.2.2.2.2.1 t.2.2.2.2.2.2.2.2.2.2.2.2.1 t.2.2.2.2.2.1 t.2.2.2.2.2.2.2.2.2.2.2.2.2.1 t.2.2.2.2.2.2.2.2.2.2.2.2.2.2.1 t.2.2.2.2.2.2.2.2.2.2.2.2.2.2.2.1 t.2.2.2.2.2.2.2.2.2.2.2.2.2.2.2.2.1 t.2.2.2.2.2.2.2.2.2.2.2.2.2.2.2.2.2.1 t.2.2.2.2.2.2.2.2.2.1 t.2.2.2.2.2.2.2.2.2.2.2.2.2.2.2.2.2.2.1 t.2.2.2.2.2.2.2.2.2.2.2.2.2.2.2.2.2.2.2
@[irreducible] noncomputable def fY:Ctx×bH×TM×Gd×List bH×(jv->aR->Prop)×Nat×di×Loc×i8×AO×Hp×aR×oz×mK×mK×List gA×b9×(Fl->Loc->Hp->Prop)×(V->Hp->Prop):=nB (JQ,bM,bM,Er,bM,bM,bM,Ep,bM,i8.one 0,bM,bM,Eo,(λ_ _ _ _ _ _ _=>True:oz),JP,JP,bM,bM,bM,bM) MA
@[irreducible] def MB:jv->aR->Prop:=fY.2.2.2.2.2.1
@[irreducible] noncomputable def MC:i8:=fY.2.2.2.2.2.2.2.2.2.1
theorem zcH:E9 fY.2.2.2.1 fY.2.2.2.2.2.2.1 fY.1 fY.2.2.2.2.2.2.2.1 fY.2.2.2.2.1 fY.2.1 fY.2.2.2.2.2.2.2.2.1 fY.2.2.2.2.2.2.2.2.2.2.1 fY.2.2.1 fY.2.2.2.2.2.2.2.2.2.2.2.1 fY.2.2.2.2.2.2.2.2.2.2.2.2.1 MB fY.2.2.2.2.2.2.2.2.2.2.2.2.2.1 fY.2.2.2.2.2.2.2.2.2.2.2.2.2.2.1 fY.2.2.2.2.2.2.2.2.2.2.2.2.2.2.2.1 fY.2.2.2.2.2.2.2.2.2.2.2.2.2.2.2.2.1 fY.2.2.2.2.2.2.2.2.2.2.2.2.2.2.2.2.2.1 MC fY.2.2.2.2.2.2.2.2.2.2.2.2.2.2.2.2.2.2.1 fY.2.2.2.2.2.2.2.2.2.2.2.2.2.2.2.2.2.2.2:=by
 intro n G TK ih hF P U a h;conv at h=>whnf
 cases n with
 | zero=>exact i6 h
 | succ n'=>
 obtain ⟨z,a2⟩:=Mb (E:=MB) G TK (pr G TK n') (Mo P U) a h;refine wpAny_For (cW a2 (λx1 s1 h1=>cW h1 (λae s2 h2=>?_) λ_ _ x=>x) λ_ _ x=>x) z;obtain ⟨F1,H1,items,ac,GG,l1,a3,I1,S,hsz,J,a4,a5,a6⟩:=h2;refine codeAny_forLoop_any (zcF fY.2.2.2.1 fY.1 fY.2.1 fY.2.2.2.2.1 F1 fY.2.2.1 GG J items) (λN s' p=>?_) items.length ⟨0,fY.2.2.2.2.2.2.2.2.1,fY.2.2.1,F1,H1,rfl,zP _,a4, .refl _, .rf,a.S,a3,I1,a.F.mono l1⟩;obtain ⟨i,m',T',a7,H',rfl,hi,hJ,W,tS,S',l,I6,F6⟩:=p;by_cases r:i<items.length
 .rw [Qt r] at hJ;obtain ⟨u,j⟩:=a5 _ _ _ _ hJ;cases L:qH MC items[i] m' with
  | none=>rw [L] at j;exact j.elim
  | some m2=>
   rw [L] at j;have y:=S.apart l<|i+1;have M:=Mv F6 y;have hn:∀ a p,GG (i+1) a=some p->∀ co ov,p=dX.loose co->co.data≠vF ov:=λa p e co ov q=>absurd q<|S.nl _ _ _ e co;refine S.next (i:=i) (lJ r) W (S.apart l i) I6 u (λx s1 hr=>hr) λF7 s7 x O I7 rx=>EU a.R P L (S'.qP<|E8 y) ((F6.mono O).qP (E8 y)) I7 rx λT8 s8 B=>?_;have a8:At fY.2.2.2.1 fY.2.2.2.2.2.2.1 fY.1 fY.2.1 m2 fY.2.2.2.2.2.2.2.1 fY.2.2.2.2.1 F7 T8 H' s8:=⟨a.R,B.S,B.F,B.I,a.sl⟩;refine cW (yP ih hF a8 .no j) (λf s9 p=>?_) λ_ _ x=>x;obtain ⟨F9,T9,H9,m9,l9,t9,S9,I9,a9,q9⟩:=p;have Z:iz fY.1 fY.2.1 (T'.add<|GG<|i+1) T9:=B.t.trans t9;have hk:=λa p e=>Bv M hn Z (a:=a) (p:=p) e;have a0:iz fY.1 fY.2.1 fY.2.2.1 (oA T9<|GG<|i+1):=tS.trans<|Mw M Z;have Sf:=Mx S' y S9;have Ff:=My M hn hk a9;cases f with
   | next=>
    refine ⟨items.length- (i+1),zjB r<|xU i,i+1,m9,oA T9<|GG<|i+1,F9,H9,rfl,r,q9,(W.trans O).trans l9,a0,Sf,λa p e=>?_,I9.nK<|zcE hk,Ff⟩;have:=S.rZ (i+1) a;rw [e] at this;obtain ⟨p',e'⟩:=nv.mp this;exact E7 e'
   | ret v=>
    exact bZ q9 λw aa q=>⟨F9,oA T9<|GG<|i+1,H9,m9,((l1.trans W).trans O).trans l9,a0,Sf,I9.nK Mz,Ff,w,aa,q⟩
   | _=>exact q9.elim
 .obtain rfl:i=items.length:=Q9 hi<|qw.mp r;rw [zjC] at hJ;obtain ⟨u,a1⟩:=a6 _ _ hJ;exact S.done rfl W (S.apart l _) I6 u λs7 I7=>xY ⟨a7,T',H',m',l1.trans W,tS,S',I7,F6,a1⟩
theorem zcI {g:Gd}{nn:Nat}{c:Ctx}{A:di}{FS:List bH}{env:bH}{m:Loc}{Fz:AO}{T:TM}{H:Hp}{s:aR}{E:jv->aR->Prop}{XR:oz}{f:mK}{j:mK}{b:List gA}{pos:b9}{l:i8}{Q:Fl->Loc->Hp->Prop}{X:V->Hp->Prop}:E9 g nn c A FS env m Fz T H s E XR f j b pos l Q X:=on (P:=MA) (by with_unfolding_all exact zcH) (c,env,T,g,FS,E,nn,A,m,l,Fz,H,s,XR,f,j,b,pos,Q,X)
theorem zcJ (G:g.Ok) (TK:ef g) (ih:SS g XR nn n) (hF:FS.head?=some env){t:Expr}{b:List gA}{pos:b9}{Q:Fl->Loc->Hp->Prop}{X:V->Hp->Prop}(a:At g nn c env m A FS Fz T H s)
  (h:wpS (bj g nn) (tY (cB bz n c t)<|pX (cS bz n c) b) m H Q X):wpAny g.M A (exec (.While t b [] pos) env) (jH g c env FS Fz T Q) E s:=by
 conv at h=>whnf
 obtain ⟨J,⟨N0,r⟩,hJ⟩:=h;refine wpAny_While<|codeAny_whileLoop (zcG g c env FS Fz T J) (λN s' p=>?_) N0 ⟨m,T,Fz,H,r, .refl _, .rf,a.S,a.I,a.F⟩;obtain ⟨m',W,u,H',y,z,L,Z,I6,F6⟩:=p;have a6:At g nn c env m' A FS u W H' s':=⟨a.R,Z,F6,I6,a.sl⟩;refine g4.use (E4 G TK n a6<|hJ _ _ _ y) λF7 H7 v7 s7 j I7 h7=>?_;cases v7 with
 | false=>
  exact xY ⟨F7,W,H7,m',z.trans j,L,Z,I7,F6.mono j,h7⟩
 | true=>
  refine cW (yP ih hF (a6.next j I7) .no h7) (λf s9 p=>?_) λ_ _ x=>x;obtain ⟨F9,T9,H9,m9,l9,t9,S9,I9,l,O⟩:=p;cases f with
  | next=>
   exact bZ O λN' P q=>⟨N',P,m9,T9,F9,H9,q,(z.trans j).trans l9,L.trans t9,S9,I9,l⟩
  | ret v=>
   exact bZ O λw U q=>⟨F9,T9,H9,m9,(z.trans j).trans l9,L.trans t9,S9,I9,l,w,U,q⟩
  | _=>exact O.elim
end
theorem zcK {f:Str->Option lX}{x:Str}{bs:List (Str×Value)}{m:Str->Option Value}(h:x ∉ bs.map (·.1)):bindL f bs m x=m x:=by
 induction bs generalizing m with
 | nil=>rfl
 | cons p r j=>
  have l:x≠p.1:=λe=>h (by rw [e];exact dh);show bindL f r _ x=_;rw [j λe=>h<|dz _ e];split
  .exact if_neg l
  .rfl
theorem zcL {f:Str->Option lX}{x:Str}{bs:List (Str×Value)}{m:Str->Option Value}(h:x ∉ bs.map (·.1)):bindC f bs m x=m x:=by
 induction bs generalizing m with
 | nil=>rfl
 | cons p r j=>
  have l:x≠p.1:=λe=>h (by rw [e];exact dh);show bindC f r _ x=_;rw [j λe=>h<|dz _ e];split
  .rfl
  .exact if_neg l
theorem zcM {j:Str->Option lX}{x:Str}{v:Value}(l:j x=some .local){bs:List (Str×Value)}{m:Str->Option Value}(f:(bs.map (·.1)).Nodup) (h:(x,v)∈bs):bindL j bs m x=some v:=by
 induction bs generalizing m with
 | nil=>exact nomatch h
 | cons p r u=>
  have f:=Ac.mp f;rcases cR.mp h with e | h
  .subst e;show bindL j r _ x=_;rw [zcK f.1,if_pos l];exact if_pos rfl
  .exact u f.2 h
theorem zcN {j:Str->Option lX}{x:Str}{v:Value}(l:j x≠some .local){bs:List (Str×Value)}{m:Str->Option Value}(f:(bs.map (·.1)).Nodup) (h:(x,v)∈bs):bindC j bs m x=some v:=by
 induction bs generalizing m with
 | nil=>exact nomatch h
 | cons p r u=>
  have f:=Ac.mp f;rcases cR.mp h with e | h
  .subst e;show bindC j r _ x=_;rw [zcL f.1,if_neg l];exact if_pos rfl
  .exact u f.2 h
theorem Fa {x:Str}:∀ {l:List (Str×lX)}{n:Nat}{f:List (Str×bn)},(f.lookup x).isSome=true->((Dd n l f).lookup x).isSome=true
 | [],_,_,h=>h
 | (y,k)::r,n,f,h=>by
  unfold Dd;split
  .refine Fa ?_;rw [j9];split
   .rfl
   .exact h
  .exact Fa h
theorem Bw {x:Str}:∀ {l:List (Str×lX)}{n:Nat}{f:List (Str×bn)},(x,RD)∈l->((Dd n l f).lookup x).isSome=true
 | [],_,_,h=>nomatch h
 | (y,k)::r,n,f,h=>by
  unfold Dd;rcases cR.mp h with e | h
  .cases e;rw [if_pos<|by rfl];refine Fa ?_;rw [j9,beq_self_eq_true];rfl
  .split
   .exact Bw h
   .exact Bw h
theorem MD {jo:Nat}{vs:List V}{i:Nat}{v:V}(h:(frame jo vs)[i]?=some (some v)):vs[i]?=some v:=by
 unfold frame at h;rw [List.getElem?_append] at h;split at h
 .rw [pQ] at h;cases q:vs[i]? with
  | none=>rw [q] at h;cases h
  | some w=>rw [q] at h;cases h;rfl
 .rw [RJ] at h;split at h <;> cases h
def r9 (sc:iv) (names:List Str):Bool:=
 sc.kind==rt && !sc.isCoroutine && !sc.isGenerator && sc.names.all (λp=>p.2 !=lb && p.1 !=("__debug__" :Str) && p.1 !=("__classdict__" :Str)) &&
  decide names.Nodup && names.zipIdx.all (λp=>(nC sc).loc.lookup p.1==some p.2 && (sc.names.lookup p.1==some .local || sc.names.lookup p.1==some iY))
structure Fb (sc:iv) (names:List Str):Prop where
 k:sc.kind=rt
 co:sc.isCoroutine=false
 ge:sc.isGenerator=false
 nf:∀ x k,(x,k)∈sc.names->k≠lb/\x≠ "__debug__" /\x≠ "__classdict__"
 nd:names.Nodup
 at_:∀ i x,names[i]?=some x->(nC sc).loc.lookup x=some i/\(sc.names.lookup x=some .local\/sc.names.lookup x=some iY)
theorem ME {sc:iv}{names:List Str}(h:r9 sc names=true):Fb sc names:=by
 unfold r9 at h;simp only [fN,zN,beq_iff_eq,decide_eq_true_eq,mM,bne_iff_ne,ne_eq,zK] at h;obtain ⟨⟨⟨⟨⟨f,j⟩,l⟩,p⟩,r⟩,u⟩:=h;refine ⟨f,j,l,λx k m=>?_,r,λi x e=>?_⟩
 .have:=p (x,k) m;exact ⟨this.1.1,this.1.2,this.2⟩
 .have:=u (x,i) (by rw [List.mem_zipIdx_iff_getElem?];exact e);exact this
inductive yR (g:Gd) (f k:Nat) (names:List Str) (dv:List Value) (dm:List V) (sc:iv) (body:List gA):Prop
 | mk (o:d9) (fd:RK) (h1:g.K.lookup f=some o) (h2:o.data= .func fd) (h3:fd.scope=sc) (h4:fd.body= .stmts body) (h5:fd.closure=[]) (h6:fd.globals=eP) (h7:fd.builtins=Hq) (h8:codeIn g.K fd.code fd.qualname=true)
  (h9:bK g.h₀.get? dv dm) (ZB:names.length=k+dv.length) (ZC:∀ (s:aR) (vals:List Value),g.K.In s.heap->vals.length=k->BindsTo s fd ⟨vals,[]⟩ (names.zip<|vals++dv))
noncomputable def qR (L:bn) (f:List (Str×bn)) (h:eY):TM:=λa=>if a=L\/a∈f.map (·.2) then (h.get? a).map fq else none
set_option tactic.hygienic true in
theorem MF {L:bn}{f:List (Str×bn)}{h:eY}{a:bn}{p:dX}(e:qR L f h a=some p):(a=L\/a∈f.map (·.2))/\∃o,h.get? a=some o/\p=fq o:=by
 unfold qR at e;split at e
 .rename_i q;exact oq e λo j l=>⟨q,o,j,l.symm⟩
 .cases e
theorem MG {L:bn}{f:List (Str×bn)}{h:eY}{a:bn}{o:d9}(q:a=L\/a∈f.map (·.2)) (e:h.get? a=some o):qR L f h a=some (fq o):=by
 unfold qR;rw [if_pos q,e];rfl
theorem zip_get {f j:Type}{l:List f}{r:List j}{i:Nat}{x:f}{y:j}(h:l[i]?=some x) (h':r[i]?=some y):(x,y)∈l.zip r:=by
 have e:(l.zip r)[i]?=some (x,y):=zi1.mpr ⟨h,h'⟩;exact CN e
section
variable {g:Gd}{nn n:Nat}{c:Ctx}{A:di}{FS:List bH}{env:bH}{m:Loc}{Fz:AO}{T:TM}{H:Hp}{s:aR}{E:Value->aR->Prop}
theorem wN {sc:iv}{x:Str}{i:Nat}(h:(nC sc).loc.lookup x=some i):i<(nC sc).next/\((sc.names.filter λx=>match x.2 with | .local=>true | iY=>true | _=>false).map (·.1))[i]?=some x:=by
 refine iw (Mj<|show (bindAll 0 _).lookup x=some i from h) λ_ j f=>?_;refine ⟨?_,by rw [ziL] at f;exact f⟩;exact VT j
theorem zcO {sc:iv}{names:List Str}{j:List Value}{p:List V}{jo:Nat}(y:Fb sc names) (r:bK Fz j p) (z:j.length=names.length) (x:Str) (i:Nat) (v:V) (h:(nC sc).loc.lookup x=some i) (F:(frame jo p)[i]?=some (some v)):∃f,(x,f)∈names.zip j/\VR Fz f v:=by
 refine bZ (r.get<|MD F) λf u I=>?_;have J:i<names.length:=by rw [<-z];exact (ug.mp u).1
 have l:=lJ J;rw [kH<|(wN (y.at_ i _ l).1).2.symm.trans (wN h).2] at l;exact ⟨f,zip_get l u,I⟩
theorem Qx (G:g.Ok){f k jo:Nat}{names:List Str}{dv:List Value}{dm:List V}{sc:iv}{body:List gA}(X:yR g f k names dv dm sc body) (ai:r9 sc names=true){l:List Value}{vs:List V}
  (R0:Ar A (n+1) FS) (S:fS g T FS) (I:aQ g Fz T H s) (r:bK Fz l vs) (hk:vs.length=k){R:HN->aR->Prop}
  (h:∀ env s1 T1,At g n (nC sc) env (frame jo<|vs++dm) (A.deeper env) (env::FS) Fz T1 H s1->env.scope=sc->env.frame=some env.locals->(∀ a p,T a=some p->T1 a=some p)->(∀ a,(a=env.locals\/∃x,env.cells.lookup x=some a)->T a=none)->
   wpAny g.M (A.deeper env) (execs body env) (λf s'=>R (.ok<|oQ<|match f with | oQ v=>v | _=>bO) s')
    (λe s'=>wpAny g.M (A.deeper env) (De env e) (λ_ a4=>R (.error e) a4) (λe' a4=>R (.error e') a4) s') s1):
  rE g.M A (.call (aL f) ⟨l,[]⟩) R s:=by
 obtain ⟨o,fd,ho,hd,rfl,hb,ae,aj,ak,a5,al,L,a6⟩:=X;have KI:=I.K G;have J:=ME ai;have Z:l.length=k:=r.length.trans hk;have a7:∀ b o,g.h₀.get? b=some o->s.heap.get? b=some o:=λb o e=>I.iI _ _<|I.old _ _ e;have af:(names.zip<|l++dv).map (·.1)=names:=by
  rw [List.map_fst_zip];rw [cC,Z,L];exact dM _
 have a8:A.depth<recursionLimit:=by
  have:=R0.dp;show A.depth<1000;exact VU this
 refine codeAny_call_function a8 (KI _ _ ho) hd J.co J.ge hb (codeRec_of KI a5)<|a6 s l KI Z _ _ _ _ ?_;rw [ae];have a9:∀ x∈names,fd.scope.names.lookup x=some .local\/fd.scope.names.lookup x=some iY:=λx hx=>by
  obtain ⟨i,hi⟩:=List.getElem?_of_mem hx;exact (J.at_ i x hi).2
 refine wpAny_newFunctionEnv_cells J.k (λx hx=>?_) λenv he s' x=>?_
 .have a0:x.1∈names:=by rw [<-af];exact xW hx
  rcases a9 _ a0 with q | q
  .exact ba q
  .exact aX ⟨q,Bw<|uX q⟩
 refine g3 x.done λu tk am kp=>?_;subst am;refine ⟨(G.lim.keeps a7).keeps kp,codeAny_func ?_⟩;have a2:env.locals=s.heap.objs.size:=by rw [he];rfl
 have ag:env.cells=Dd (s.heap.objs.size+1) fd.scope.names []:=by rw [he];rfl
 have z:env.scope=fd.scope:=by rw [he];rfl
 have O:env.frame=some env.locals:=by rw [he];rfl
 have aa:∀ y,env.kindOf y=fd.scope.names.lookup y:=λy=>by unfold bH.kindOf;rw [z]
 obtain ⟨oL,es,ep,e1,e2,e3,e4⟩:=x.toInCall.ns;dsimp only at e1;have I1:aQ g Fz T H {s with heap:=u,toks:=tk}:=I.grow (dr:=s.drawn) kp;have fresh:∀ a,(a=env.locals\/a∈env.cells.map (·.2))->s.heap.get? a=none:=λa ha=>by
  have hs:s.heap.objs.size<=a:=by
   rcases ha with rfl | ha
   .rw [a2];exact dM _
   .obtain ⟨⟨n,c⟩,hm,rfl⟩:=kF.mp ha;have:=x.above n c hm;rw [a2] at this;exact RF this
  exact zG hs
 have P:∀ a,(a=env.locals\/a∈env.cells.map (·.2))->gL Fz T H a:=λa ha=>A4 I<|fresh a ha;have ap:Apart T (qR env.locals env.cells u):=λa p e=>(P a (MF e).1).t;have I2:aQ g Fz (T.add<|qR env.locals env.cells u) H {s with heap:=u,toks:=tk}:=I1.rY λa p e=>by
  refine rR (MF e) λq ob e1 ao=>?_;subst ao;exact ⟨P a q,ob.slots,e1⟩
 have up:∀ a p,T a=some p->(T.add<|qR env.locals env.cells u) a=some p:=λa p e=>TM.rX ap e;have tL:(T.add<|qR env.locals env.cells u) env.locals=some (fq oL):=TM.dJ<|MG (ba rfl) e1;have a3:bK Fz (l++dv) (vs++dm):=r.append<|al.mono λa o e=>I.old a o e;have U:=zcO (jo:=jo) J a3 (by rw [cC,Z,L]);have ah:((names.zip<|l++dv).map (·.1)).Nodup:=by rw [af];exact J.nd
 have F:eI (nC fd.scope) env Fz (T.add<|qR env.locals env.cells u) (frame jo<|vs++dm):={
  kf:=by rw [z];exact J.k
  eg:=by rw [he];exact aj
  eb:=by rw [he];exact ak
  fr:=by rw [O];exact λq=>nomatch q
  yA:=λx k e=>⟨k,(aa x).trans e,ba rfl⟩
  inj:=λx y i hx hy=>kH<|(wN hx).2.symm.trans (wN hy).2
  ns:=⟨oL,es,ep,tL,e2,e3,λx i v hx hl hm=>by
   refine bZ (U x i v hl hm) λa1 h1 h2=>⟨a1,?_,h2⟩;rw [e4 x];exact zcM ((aa x).trans hx) ah h1⟩
  cl:=λy i hx hl=>by
   have a0:fd.scope.names.lookup y=some iY:=by
    rcases hx with hx | hx
    .exact hx
    .exact absurd rfl (J.nf _ _<|uX hx).1
   have:(env.cells.lookup y).isSome=true:=by rw [ag];exact Bw<|uX a0
   obtain ⟨ca,ac⟩:=nv.mp this;refine bZ (x.cell y ca ac) λco a5 aq=>⟨ca,co,_,ac,TM.dJ<|MG (aX<|xW<|mem_of_lookup ac) a5,aq,λv hm=>?_⟩;refine bZ (U y i v hl hm) λa1 h1 h2=>?_;exact ⟨a1,zcN (by rw [aa y,a0];exact λq=>nomatch q) ah h1,h2⟩
  ci:=λa b ca _ _ ha hb=>name_of_addr x.apart (mem_of_lookup ha)<|mem_of_lookup hb
  rd:=λhm=>by
   obtain ⟨⟨a,k⟩,hm,e⟩:=kF.mp hm;exact (J.nf a k hm).2.1 e
  rc:=λhm=>by
   obtain ⟨⟨a,k⟩,hm,e⟩:=kF.mp hm;exact (J.nf a k hm).2.2 e
  lt:=λx i hl=>(wN hl).1
  hi:=λj v hj hm=>by
   have hv:=MD hm;refine bZ (a3.get hv) λa1 h1 h2=>?_;have hi:j<names.length:=by
    have:j<(l++dv).length:=by
     rw [ug] at h1;exact h1.1
    rw [cC,Z] at this;exact VV L this
   have:=(wN (J.at_ j _ (lJ hi)).1).1;exact absurd this (qw.mpr hj)}
 have W:∀ vs,oL.data≠fj vs:=λvs q=>by rw [e2] at q;cases q
 have R1:Ar (A.deeper env) n (env::FS):=⟨R0.hd,by have:=R0.dp;show A.depth+1+4*n<900;exact VW this,by have:=R0.un;show A.units+3+40*n<9000;exact VX this,zjL R0.fr⟩;refine h env _ (T.add<|qR env.locals env.cells u) ⟨R1,⟨λe hm=>?_⟩,F,I2,?_,?_⟩ z O up λa ha=>(P a ?_).t
 .rcases cR.mp hm with rfl | hm
  .exact ⟨by rw [z,J.k];decide,_,oL,O,tL,W⟩
  .exact (S.qP up).all e hm
 .have:=R0.dp;show A.depth+1+4*n+2<900;exact VY this
 .have:=R0.un;show A.units+3+40*n+30<9000;exact VZ this
 .rcases ha with rfl | ⟨x,hx⟩
  .exact ba rfl
  .exact aX<|xW<|mem_of_lookup hx
theorem iz.back {sc:iv}{f j:TM}(t:iz (nC sc) env f j) (r:∀ a p,T a=some p->f a=some p) (l:∀ a,(a=env.locals\/∃x,env.cells.lookup x=some a)->T a=none):∀ a p,T a=some p->j a=some p:=λa p e=>by
 by_cases q:j a=f a
 .rw [q];exact r a p e
 .rcases t a q with h | ⟨x,_,_,_,h,_⟩
  .rw [l a<|ba h] at e;cases e
  .rw [l a<|aX ⟨x,h⟩] at e;cases e
end
end
section
open PySem PySem.W PyProof.Rows PySem.Calls Builtin Builtin.ObjectAttr
section
variable {prog:nt}{w:j8}{A:di}{E:Value->aR->Prop}{s:aR}{K:iG}{x C:bn}{ox:d9}{od:Option d9}{name:Str}{expr:Bool}
theorem zcP {v:Value}{Q:Value->aR->Prop}(X:K.In s.heap) (I:InstAt s.heap x ox C od) (j:jR K (aL C) "__getattribute__" =some (some (dO "BaseException.__getattribute__")))
  (l:jR K (aL C) "__getattr__" =some none) (O:Ae K C (cq "BaseException")=some true) (P:HC K C od name=some (.value v)) (U:Rl v=true) (h:Q v {s with toks:=s.toks+1}):
  wpAny (fO prog w) A (getAttr (aL x) name expr) Q E s:=by
 have FB:=PySem.F.attr_Exception;obtain ⟨f,g,d,t,os⟩:=s;have J:rJ (fO prog w) f (HL (aL x)) (aL C):=I.type;have W:=zV (M:=fO prog w) X j;have Z:=zV (M:=fO prog w) X l;have L3:=looks_find (M:=fO prog w) X I P;have L4:rJ (fO prog w) f (isInstance (aL x) (cq "BaseException")) true:=I.type.andThen (looks_mroIn X O);have f3:=FB.ga.bind (aL x);have p:rE (fO prog w) A (.call (dO "BaseException.__getattribute__") ⟨[aL x, .str name t],[]⟩) (λr L=>r= .ok (oQ v)/\L=⟨f,g,d,t+1,os⟩) ⟨f,g,d,t+1,os⟩:=by
  have hk:builtinKind "BaseException.__getattribute__" =some .slot:=by decide+kernel
  have u:splitId "BaseException.__getattribute__" =some ("BaseException", "__getattribute__"):=by decide+kernel
  refine RL FB.ga.plain PySem.F.entry_bexc_ga (@check_slot (fO prog w) _ _ ⟨f,g,d,t+1,os⟩ "BaseException.__getattribute__" "BaseException" "__getattribute__" (aL x) [.str name t] [] _ hk u L4 (PySem.F.args_bexc_ga _ _) ?_);refine bg (cT (bg (cT (bg (J.at (bg (L3.at ?_)))))));exact cT ⟨rfl,rfl⟩
 refine bg (C2 (oZ (bg (J.at (bg (W.at ?_))))));unfold getAttrByItsOwn hookBefore;rw [if_pos (show onTheHeap (aL C)=true from rfl)];refine bg (Z.at ?_);have y:(expr && onTheHeap (Value.builtin "BaseException.__getattribute__"))=false:=by cases expr <;> rfl
 unfold callGetattribute;rw [y];refine bg<|wpAny_attempt<|oZ<|bg ?_;rw [f3];refine cT<|vZ<|C4 p λr L z=>?_;obtain ⟨rfl,rfl⟩:=z;show wpAny _ _ (handedOut v) _ _ _;rw [handedOut_of U];exact cT h
noncomputable def Fc (C C':bn):List Value:=[aL C,aL C',cq "Exception",cq "BaseException",cq "object"]
theorem MH {tk:i7}{v:Value}{p:RM}{C':bn}{R:HN->aR->Prop}(X:K.In s.heap) (I:InstAt s.heap x ox C od) (L:sT K C=some p) (j:p.mro=Fc C C') (P:vX K C name=some none)
  (h:∀ b,wpAny (fO prog w) A.in1 (RN (aL x) (aL C) (.str name tk) name v b)
   (λy u=>match y with | .done f=>R (.ok f) u | .again O=>O.quiet=true/\rE (fO prog w) A O R u) (λe u=>R (.error e) u) s):
  rE (fO prog w) A (.call (dO "object.__setattr__") ⟨[aL x, .str name tk,v],[]⟩) R s:=by
 have r:=PySem.F.store_object;have SE:=PySem.F.store_Exception;have U:p.mro.isEmpty=false:=by rw [j];rfl
 have z:p.mro.contains (cq "object")=true:=by rw [j];simp [Fc]
 have sub:rJ (fO prog w) s.heap (isInstance (aL x) (cq "object")) true:=I.type.andThen (looks_mroIn X (by unfold Ae;rw [L,ul,if_neg (by rw [U];decide),z]));refine RL r.slot.plain r.entry (@check_slot (fO prog w) _ _ s "object.__setattr__" "object" "__setattr__" (aL x) [.str name tk,v] [] _ r.kind r.split sub (r.args (aL x) (.str name tk) v) ?_);refine kM P λl W J=>?_;have Z:rJ (fO prog w) s.heap (mroOf (aL C)) p.mro:=(HD X L).andThen .now;have L3:rJ (fO prog w) s.heap (storeTaker? l) none:=by
  cases l with
  | none=>exact .now
  | some a=>
   refine oq J λb hb J=>(looks_takesIn X hb).andThen ?_;cases b with
   | false=>exact .now
   | true=>cases J
 rw [osa_eq,refuse_eq];refine bg<|bg<|I.type.here<|bg<|Z.here ?_;rw [j,Fc,refuseLoop_ref,refuseLoop_ref,SE.passes];refine cT<|bg<|I.type.here<|bg<|(zV X W).here (bg<|L3.here ?_);exact h _
theorem MI {tk:i7}{v:Value}{p:bn}{es:List lI}{k:Nat}{Q:Fin->aR->Prop}
  (j:s.heap.get? p=some (gY es k)) (y:es.any (·.refKey)=false) (z:es.length<100)
  (h:∀ h':eY,(∀ b o,b≠p->s.heap.get? b=some o->h'.get? b=some o)->h'.get? p=some (gY (lZ name (lK w.params name) (.str name s.toks) v es)<|qA name es k)->Q (.done<|oQ bO) {s with heap:=h',toks:=s.toks+1}):
  wpAny (fO prog w) A (storeInDict p (.str name tk) name v) Q E s:=by
 refine bg<|cT<|bg ?_;refine bg<|bg<|zjg<|cT<|bg<|C2<|bg<|C1 j ?_;dsimp only;have c:(!es.toArray.any (·.key.isStr name) && es.toArray.any (·.refKey))=false:=by rw [<-HE,<-HE,show es.toArray.toList=es from rfl,y,rI]
 rw [zjh,c];refine zji j ?_;have f:=putName_dict name (lK w.params name) (.str name s.toks) v es k;have u:(s.heap.update p<|d9.putName name (lK w.params name) (.str name s.toks) v).get? p=some (gY (lZ name (lK w.params name) (.str name s.toks) v es)<|qA name es k):=by
  rw [xS _ j (by rw [f];rfl),f]
 have hz:(lZ name (lK w.params name) (.str name s.toks) v es).length<=1001:=by
  have:∀ l:List lI,(lZ name (lK w.params name) (.str name s.toks) v l).length<=l.length+1:=by
   intro l;induction l with
   | nil=>exact dM _
   | cons e r I=>unfold lZ;split <;> simp only [eQ] <;> lia
  have:=this es;exact V0 z this
 refine bg (zjj u (zjk<|by rw [zL,jE];exact qa ‹_› rfl) ?_);exact cT (h _ (λb o F e=>by rw [pT _ _<|uq F];exact e) u)
theorem zcQ {tk:i7}{v:Value}{b:Bool}{p:RM}{f:bn}{es:List lI}{k:Nat}{Q:Fin->aR->Prop}(X:K.In s.heap) (r:s.heap.get? x=some ox) (j:ox.cls=aL C) (u:sT K C=some p) (y:p.hasDict=true) (z:ox.dict=some f)
  (l:s.heap.get? f=some (gY es k)) (F:es.any (·.refKey)=false) (I:es.length<100)
  (h:∀ h':eY,(∀ b o,b≠f->s.heap.get? b=some o->h'.get? b=some o)->h'.get? f=some (gY (lZ name (lK w.params name) (.str name s.toks) v es)<|qA name es k)->Q (.done<|oQ bO) {s with heap:=h',toks:=s.toks+1}):
  wpAny (fO prog w) A (RN (aL x) (aL C) (.str name tk) name v b) Q E s:=by
 refine bg<|cT<|bg<|bg<|C1 r ?_;rw [j];refine bg<|(HD X u).here ?_;rw [y,z];exact cT (a:=some f)<|MI l F I h
theorem zcR {tk:i7}{v:Value}{b:Bool}{z:RM}{vs:Array Value}{Q:Fin->aR->Prop}(X:K.In s.heap) (l:s.heap.get? x=some {cls:=aL C,data:=fj vs}) (I:sT K C=some z) (J:z.hasDict=true)
  (h:∀ (h':eY) (p:bn),s.heap.get? p=none->x≠p->(∀ b o,b≠x->s.heap.get? b=some o->h'.get? b=some o)->h'.get? x=some {cls:=aL C,dict:=some p,data:=fj vs}->
   h'.get? p=some (gY (lZ name (lK w.params name) (.str name s.toks) v []) (qA name [] 0))->Q (.done (oQ bO)) {s with heap:=h',toks:=s.toks+1}):
  wpAny (fO prog w) A (RN (aL x) (aL C) (.str name tk) name v b) Q E s:=by
 have f:x≠s.heap.objs.size:=vU<|sS l;refine bg<|cT<|bg<|bg<|C1 l ?_;refine bg<|(HD X I).here ?_;rw [J];rw [if_neg<|by decide];refine bg<|wpAny_alloc<|bg<|wpAny_update (kU _ l) ?_;have r:((s.heap.push um).update x (λo=>{o with dict:=some s.heap.objs.size})).get? x=some {cls:=aL C,dict:=some s.heap.objs.size,data:=fj vs}:=xS _ (kU _ l) rfl;have u:((s.heap.push um).update x (λo=>{o with dict:=some s.heap.objs.size})).get? s.heap.objs.size=some (gY [] 0):=(pT _ _ f).trans (sK _ rfl);have j:∀ b o,b≠x->s.heap.get? b=some o->((s.heap.push um).update x (λo=>{o with dict:=some s.heap.objs.size})).get? b=some o:=λb o y e=>by
  rw [pT _ _<|uq y];exact kU _ e
 refine cT (a:=some s.heap.objs.size) (MI (s:={s with heap:=(s.heap.push um).update x (λo=>{o with dict:=some s.heap.objs.size})}) u rfl (by decide) λh' F L=>h h' _ (zG<|dM _) f (λb o y e=>F b o ?_<|j b o y e) (F _ _ f r) L);exact vU<|sS e
noncomputable def lv (C':bn):List Value:=[aL C',cq "Exception",cq "BaseException",cq "object"]
inductive zcS (K:iG) (C C':bn):Prop
 | mk (nm q:Str) (N:bn) (bs:List Value) (sn:List Str) (sub:List Value) (ab:Bool) (col:Option Bool) (dd:Option bn) (k0 k1 k2 k3 k5:Option Value) (h:K.lookup C=some (ur nm q C N bs (lv C') true sn sub ab col dd k0 k1 k2 k3 k5 "Exception.__new__"))
structure uY (K:iG) (C C' fI:bn):Prop where
 obj:zcS K C C'
 ga:jR K (aL C) "__getattribute__" =some (some (dO "BaseException.__getattribute__"))
 gt:jR K (aL C) "__getattr__" =some none
 sa:jR K (aL C) "__setattr__" =some (some (dO "object.__setattr__"))
 ED:jR K (aL C) "__init__" =some (some (aL fI))
 fn:zU K (aL fI)=some (cq "function")
 tw:vX K C "what" =some none
 ta:vX K C "at" =some none
 at_:jR K (aL C) "at" =some none
 typ:instIn K (aL C) (cq "type")=some true
 call:specialIn K (aL C) "__call__" =some (some (dO "type.__call__"))
section
variable {h:eY}{g:Array HS}{d:Drawn}{t:Nat}{os:vP}{nm q:Str}{N:bn}{bs bm:List Value}{sn:List Str}{sub:List Value}{ab:Bool}{col:Option Bool}{dd:Option bn}{k0 k1 k2 k3 k5:Option Value}{C':bn}
theorem By {M:rD}{f:Value}{j:String}{l:Bool}{Q:Bool->aR->Prop}(p:h.get? C=some (ur nm q C N bs bm l sn sub ab col dd k0 k1 k2 k3 k5 j)) (r:(nw C::bm).contains f=true) (u:Q true ⟨h,g,d,t,os⟩):wpAny M A (isSubtype (aL C) f) Q E ⟨h,g,d,t,os⟩:=RO p<|r.symm▸u
theorem MJ {M:rD}{f:Value}{j:String}{l:Bool}{Q:Bool->aR->Prop}(p:h.get? C=some (ur nm q C N bs bm l sn sub ab col dd k0 k1 k2 k3 k5 j)) (r:(nw C::bm).contains f=false) (u:Q false ⟨h,g,d,t,os⟩):wpAny M A (isSubtype (aL C) f) Q E ⟨h,g,d,t,os⟩:=RO p<|r.symm▸u
theorem zcT {M:rD}{e:bn}{r:d9}{f:List Value}{Q:Unit->aR->Prop}
  (u:h.get? C=some (ur nm q C N bs (lv C') true sn sub ab col dd k0 k1 k2 k3 k5 "Exception.__new__")) (v:h.get? e=some r) (j:r.cls=aL C) (y:Q () ⟨h,g,d,t,os⟩):
  wpAny M A (xR "Exception.__init__" ⟨aL e::f,[]⟩) Q E ⟨h,g,d,t,os⟩:=by
 have F:=Df;have p:(nw C::lv C').contains (cq "Exception")=true:=by simp [lv]
 have l:=F.noStar;unfold xR;rw [F.initKind,F.initSplit,F.initRow];dsimp only;repeat (first | (with_reducible refine ut v ?_;rw [j]) | with_reducible refine ut u ?_ | with_reducible refine By u p ?_ | wp_step)
 refine wpAny_onRaise ?_;rw [show ∀ (a b:String) (n:Nat),Bind.check ⟨.positional, "*", "Exception", .self,[⟨"args", .varPos,false⟩]⟩ a b n (QQ (λx=>x.fst) ({pos:=nw e::f}:Args).kw)=dP () from
  λa b n=>check_star_args _ _ _ _ _ _]
 exact cT y
theorem zcU {l u:bn}{p:Option bn}{a1 a2 a3 a4 a5:Value}{f:Value}{Q:Value->aR->Prop}(v:h.get? C=some (ur nm q C N bs (lv C') true sn sub ab col dd k0 k1 k2 k3 k5 "Exception.__new__"))
  (r:h.get? l=some {cls:=aL C,dict:=p,data:=fj #[aL u,a1,a2,a3,a4,a5]})
  (y:∀ (h':eY) (z:bn),(∀ b o,b≠l->h.get? b=some o->h'.get? b=some o)->h'.get? l=some {cls:=aL C,dict:=p,data:=fj #[aL z,a1,a2,a3,a4,a5]}->Q bO ⟨h',g,d,t,os⟩):
  wpAny (fO prog w) A (call (dO "Exception.__init__") [aL l,f]) Q E ⟨h,g,d,t,os⟩:=by
 have F:=Df;refine vZ (RL F.init.plain F.initEntry (zcT v r rfl ?_));refine bg (Rc ?_);have j:=kU {cls:=cq "tuple",data:=pK [f].toArray} r;refine bg (bg (Dh j rfl (i:=0) rfl (bg (HT j rfl (by show 0<6;exact sV _) ?_))));have I:=y ((h.push {cls:=cq "tuple",data:=pK [f].toArray}).update l (pU (·.setIfInBounds 0 (aL h.objs.size)))) h.objs.size (λb o J e=>by rw [pT _ _ (uq J)];exact kU _ e)
  (xS _ j rfl)
 repeat (first | assumption | wp_step)
end
end
end
section
open PySem PySem.W
section
variable {prog:nt}{w:j8}{A:di}{E:Value->aR->Prop}{R:HN->aR->Prop}{h:eY}{g:Array HS}{d:Drawn}{t:Nat}{os:vP}{K:iG}{C C':bn}
variable {nm q:Str}{N:bn}{bs bm:List Value}{sn:List Str}{sub:List Value}{ab:Bool}{col:Option Bool}{dd:Option bn}{k0 k1 k2 k3 k5:Option Value}
theorem zcV {M:rD}{j:List Value}{Q:Unit->aR->Prop}(l:h.get? C=some (ur nm q C N bs (lv C') true sn sub ab col dd k0 k1 k2 k3 k5 "Exception.__new__"))
  (r:Q () ⟨h,g,d,t,os⟩):wpAny M A (xR "Exception.__new__" ⟨aL C::j,[]⟩) Q E ⟨h,g,d,t,os⟩:=by
 have F:=Df;have f:(nw C::lv C').contains (cq "Exception")=true:=by simp [lv]
 have p:=F.noStar;unfold xR;rw [F.newKind,F.newSplit];repeat (first | refine ut l ?_ | refine By l f ?_ | refine wpAny_staticBase_exc l ?_ | refine zjM l ?_ | rw [bne_self_eq_false,if_neg je] | wp_step)
 exact r
theorem zcW {v:List Value}{r:Bool}{B f l:String}(F:ExcBaseFacts B f l v){j:List Value}(u:h.get? C=some (ur nm q C N bs bm r sn sub ab col dd k0 k1 k2 k3 k5 f))
  (y:(nw C::bm).contains (cq B)=true) (z:(nw C::bm).contains (cq "AttributeError")=false) (I:(nw C::bm).contains (cq "NameError")=false)
  (O:R (.ok (oQ (aL (h.objs.size+1)))) ⟨(h.push {cls:=cq "tuple",data:=pK j.toArray}).push
   {cls:=aL C,data:=fj #[aL h.objs.size,bO,bO,bO,jt false,bO]},g,d,t,os⟩) (tB:j.length<=pP):
  rE (fO prog w) A (vE f ⟨aL C::j,[]⟩) R ⟨h,g,d,t,os⟩:=by
 have J:=F.ends;refine codeAny_builtinAt F.entry ?_;refine wpAt_bind ?_;refine wpAt_bind<|wpAt_stack λp L=>wpAt_of_wpAny ?_
 wp_walk
 refine wpAt_of_wpAny ?_;rw [F.owner];repeat (first | with_reducible refine wpAny_madeHere_exc F.canon u ?_ | with_reducible refine ut u ?_ | with_reducible refine By u y ?_ | with_reducible refine MJ u z ?_ | with_reducible refine MJ u I ?_ | wp_step)
 rw [Ro];exact O
theorem new_exc {f:List Value}(j:h.get? C=some (ur nm q C N bs (lv C') true sn sub ab col dd k0 k1 k2 k3 k5 "Exception.__new__"))
  (l:R (.ok (oQ (aL (h.objs.size+1)))) ⟨(h.push {cls:=cq "tuple",data:=pK f.toArray}).push
   {cls:=aL C,data:=fj #[aL h.objs.size,bO,bO,bO,jt false,bO]},g,d,t,os⟩) (tB:f.length<=pP):
  rE (fO prog w) A (vE "Exception.__new__" ⟨aL C::f,[]⟩) R ⟨h,g,d,t,os⟩:=
 zcW Df j (by simp [lv]) (by simp [lv]) (by simp [lv]) l tB
theorem zcX {f:List Value}{z:bn}{Q:Fin->aR->Prop}(X:K.In h) (v:uY K C C' z)
  (J:∀ h' e L,(∀ b o,h.get? b=some o->h'.get? b=some o)->h.get? e=none->h'.get? e=some {cls:=aL C,data:=fj #[aL L,bO,bO,bO,jt false,bO]}->
   wpAny (fO prog w) A (call (aL z) (aL e::f)) (λr I=>r=bO/\Q (.done (oQ (aL e))) I) E ⟨h',g,d,t,os⟩) (tB:f.length<=pP):
  wpAny (fO prog w) A (Builtin.«type.__call__» ⟨aL C::f,[]⟩) Q E ⟨h,g,d,t,os⟩:=by
 have F:=Df;obtain ⟨nm,q,N,bs,sn,sub,ab,col,dd,k0,k1,k2,k3,k5,O⟩:=v.obj;have p:=X _ _ O;repeat (first | with_reducible refine ut p ?_ | with_reducible refine zjM p ?_ | wp_step)
 refine codeAny_call_builtin_code (zjN _ F.quiet) (zcV p ?_);refine new_exc p ?_ tB;have u:∀ b o,h.get? b=some o->((h.push {cls:=cq "tuple",data:=pK f.toArray}).push {cls:=aL C,data:=fj #[aL h.objs.size,bO,bO,bO,jt false,bO]}).get? b=some o:=λb o e=>kU _ (kU _ e);have l:=u _ _ p;have j:((h.push {cls:=cq "tuple",data:=pK f.toArray}).push
   {cls:=aL C,data:=fj #[aL h.objs.size,bO,bO,bO,jt false,bO]}).get? (h.objs.size+1)=some
   {cls:=aL C,data:=fj #[aL h.objs.size,bO,bO,bO,jt false,bO]}:=by heap_get
 have y:(nw C::lv C').contains (aL C)=true:=by simp
 have P:=(zV (M:=fO prog w) X v.ED).keeps u;have U:=(bind_fn (M:=fO prog w) X (aL<|h.objs.size+1) v.fn).keeps u;repeat (first | with_reducible refine ut j ?_ | with_reducible refine By l y ?_ | wp_step)
 refine P.at<|oZ<|bg<|U.at ?_;refine bg<|cW (J _ (h.objs.size+1) h.objs.size u (zG<|qz _) j) (λr I W=>?_) λ_ _ x=>x;obtain ⟨rfl,Z⟩:=W
 wp_walk
 exact Z
theorem call_exc {f:List Value}{p:bn}{Q:Value->aR->Prop}(X:K.In h) (u:uY K C C' p)
  (v:∀ h' e j,(∀ b o,h.get? b=some o->h'.get? b=some o)->h.get? e=none->h'.get? e=some {cls:=aL C,data:=fj #[aL j,bO,bO,bO,jt false,bO]}->
   wpAny (fO prog w) (A.under (vE "type.__call__" ⟨aL C::f,[]⟩)) (call (aL p) (aL e::f)) (λr y=>r=bO/\Q (aL e) y) E ⟨h',g,d,t,os⟩) (tB:f.length<=pP):
  wpAny (fO prog w) A (call (aL C) f) Q E ⟨h,g,d,t,os⟩:=by
 obtain ⟨nm,q,N,bs,sn,sub,ab,col,dd,k0,k1,k2,k3,k5,z⟩:=u.obj;have l:=X _ _ z;have F:=tc_lookup;have I:=tc_bind (aL C);have J:(⟨h,g,d,t,os⟩:aR).TypeIs (aL C) "type" :=⟨_,l,rfl⟩;refine vZ (codeAny_of_tree ?_);show wpAny _ _ (callAny (aL C) _) _ _ _;repeat (any_goals (first | assumption | with_reducible refine ut l ?_ | wp_step))
 refine ⟨rfl,?_⟩;refine codeAny_call_builtin_at (zjN _<|by decide+kernel) entry_typeCall<|wpAny_check_type_call_sub l<|zcX (tB:=tB) X u λh' e j a b c=>?_;exact v h' e j a b c
end
section
variable {M:rD}{A:di}{E:Value->aR->Prop}{env:bH}{C C':bn}
theorem zcY {s:aR}{x:lq Value}{K:iG}{u:bn}{Q:xX->aR->Prop}(y:uY K C C' u) (z:A.handled=none)
  (h:wpAny M A x (λv f=>∃e t p,v=aL e/\K.In f.heap/\
   f.heap.get? e=some {cls:=aL C,dict:=some p,data:=fj #[aL t,bO,bO,bO,jt false,bO]}/\E (aL e) f) E s):
  wpAny M A (raiseStmt env (some x) none) Q E s:=by
 obtain ⟨nm,q,N,bs,sn,sub,ab,col,dd,k0,k1,k2,k3,k5,F⟩:=y.obj;have l:(nw C::lv C').contains (cq "BaseException")=true:=by simp [lv]
 refine bg<|cW h (λv f j=>?_) λ_ _ x=>x;obtain ⟨e,t,p,rfl,I,J,L⟩:=j;have r:=I _ _ F;obtain ⟨O,g,d,tk,os⟩:=f;repeat (first | with_reducible refine ut J ?_ | with_reducible refine ut r ?_ | (with_reducible refine RO r ?_;rw [l]) | wp_step)
 exact wpAny_raiseNew_none z L
end
section
open PySem.Calls PyProof.Rows
variable {prog:nt}{w:j8}{A:di}{E:Value->aR->Prop}{s:aR}{K:iG}{name:Str}
theorem zcZ {T:String}{v:Value}{p:lq Bool}{Q:Value×List Value->aR->Prop}(X:K.In s.heap) (u:HL (cq T)=dP (cq "type")) (hs:Manifest.isStub T=false)
  (e:findCls K (cq T) (cq "type") name=some (.val v)) (y:Rl v=true) (h:Q (v,[]) {s with toks:=s.toks+1}):wpAny (fO prog w) A (Rp (cq T) name p) Q E s:=by
 have f:RP (cq T)=dP none:=by unfold RP;dsimp only;rw [hs];rfl
 have j:rJ (fO prog w) s.heap (HL (cq T)) (cq "type"):=C3 u;have l:jR K (cq "type") "__getattribute__" =some (some (dO "type.__getattribute__")):=type_tga;refine bg (bg (j.here ((zV X l).here ?_)));dsimp only;rw [if_pos canon_tga];refine bg (cW (Q:=λv=>Q (v,[])) (E:=E) ?_ (λ_ _ z=>cT z) λ_ _ z=>z);have F:rJ (fO prog w) s.heap (RP (cq T)) none:=C3 f;refine cls_open X F j l (looks_hook X (r:=none) (by rfl)) (by show subIn K _ _=_;rfl) e
  (cT<|by show wpAny _ _ (handedOut v) _ _ _;rw [handedOut_of y];exact cT h)
end
section
open PySem.Calls PyProof.Rows
variable {g:Gd}{nn n:Nat}{c:Ctx}{A:di}{FS:List bH}{env:bH}{m:Loc}{Fz:AO}{T:TM}{H:Hp}{s:aR}{E:Value->aR->Prop}
noncomputable abbrev jV (dd:Option bn) (t:bn):d9:={cls:=aL 94,dict:=dd,data:=fj #[aL t,bO,bO,bO,jt false,bO]}
theorem zc0 (G:g.Ok) (u:uY g.K 94 69 59){j t:bn}{name:Str}{v:Value}{Q:Unit->aR->Prop}(O:vX g.K 94 name=some none) (I:aQ g Fz T H s) (y:T j=some (.exact<|jV none t))
  (h:∀ (f:bn) (h':eY),f≠j->T f=none->aQ g Fz ((km T j<|.exact<|jV (some f) t).add (one f<|.exact<|gY (lZ name (lK g.w.params name) (.str name<|s.toks+1) v [])<|qA name [] 0)) H {s with heap:=h',toks:=s.toks+2}->Q () {s with heap:=h',toks:=s.toks+2}):
  wpAny g.M A (setAttr (aL j) name v) Q E s:=by
 have z:s.heap.get? j=some (jV none t):=I.cI _ _ y;have X:=I.K G;obtain ⟨nm,q,N,bs,sn,sub,ab,col,dd,k0,k1,k2,k3,k5,P⟩:=u.obj;have F:sT g.K 94=some {name:=nm,bases:=bs,mro:=aL 94::lv 69,ns:=N,qualname:=q,hasDict:=true,slotNames:=sn,subclasses:=sub,abstract:=ab,collection:=col,hasDel:=false}:=by unfold sT;rw [P]
 have J:InstAt s.heap j (jV none t) 94 none:=⟨z,rfl,rfl,trivial⟩;refine Rm X J u.sa<|MH (s:={s with toks:=s.toks+1}) X J F rfl O λb=>?_;refine zcR (s:={s with toks:=s.toks+1}) X z F rfl λh' f r l U W Z=>?_;have I1:aQ g Fz (km T j<|.exact<|jV (some f) t) H {s with heap:=h',toks:=s.toks+2}:=I.tA y (λb o hb e=>U b o hb e) W;refine h f h' l.symm ?_<|I1.rY λa p e=>?_
 .cases q:T f with
  | none=>rfl
  | some p=>obtain ⟨L,e⟩:=dX.there<|I.cI _ _ q;rw [show s.heap.get? f=none from r] at e;cases e
 .obtain ⟨rfl,rfl⟩:=kY e;refine ⟨⟨?_,?_,?_⟩,Z⟩
  .cases q:Fz a with
   | none=>rfl
   | some o=>have:=I.iI _ _ q;rw [show s.heap.get? a=none from r] at this;cases this
  .rw [ko l.symm];cases q:T a with
   | none=>rfl
   | some p=>obtain ⟨L,e⟩:=dX.there<|I.cI _ _ q;rw [show s.heap.get? a=none from r] at e;cases e
  .cases q:H a with
   | none=>rfl
   | some p=>obtain ⟨L,e⟩:=ma.there<|I.gB _ _ q;rw [show s.heap.get? a=none from r] at e;cases e
theorem zc1 (G:g.Ok) (p:uY g.K 94 69 59){l t f:bn}{es:List lI}{k:Nat}{name:Str}{v:Value}{Q:Unit->aR->Prop}(F:vX g.K 94 name=some none) (I:aQ g Fz T H s) (J:T l=some (.exact<|jV (some f) t))
  (r:T f=some (.exact<|gY es k)) (L:es.any (·.refKey)=false) (O:es.length<100)
  (h:∀ (h':eY),aQ g Fz (km T f<|.exact<|gY (lZ name (lK g.w.params name) (.str name<|s.toks+1) v es)<|qA name es k) H {s with heap:=h',toks:=s.toks+2}->Q () {s with heap:=h',toks:=s.toks+2}):
  wpAny g.M A (setAttr (aL l) name v) Q E s:=by
 have u:s.heap.get? l=some (jV (some f) t):=I.cI _ _ J;have j:s.heap.get? f=some (gY es k):=I.cI _ _ r;have X:=I.K G;obtain ⟨nm,q,N,bs,sn,sub,ab,col,dd,k0,k1,k2,k3,k5,P⟩:=p.obj;have y:sT g.K 94=some {name:=nm,bases:=bs,mro:=aL 94::lv 69,ns:=N,qualname:=q,hasDict:=true,slotNames:=sn,subclasses:=sub,abstract:=ab,collection:=col,hasDel:=false}:=by unfold sT;rw [P]
 have z:InstAt s.heap l (jV (some f) t) 94 (some<|gY es k):=⟨u,rfl,rfl,j⟩;refine Rm X z p.sa<|MH (s:={s with toks:=s.toks+1}) X z y rfl F λb=>?_;exact zcQ (s:={s with toks:=s.toks+1}) X u rfl y rfl rfl j L O λh' U W=>h h'<|I.tA r (λb o Z e=>U b o Z e) W
end
end
section
open PySem PySem.W PyProof.Rows PySem.Calls
inductive zc2 (g:Gd):Prop
 | mk (sc:iv) (p1 p2 p3 p4 p5 p6 q1 q2 q3 q4 r1 r2 r3 r4:b9) (h:yR g 59 3 ["self", "what", "at"] [] [] sc
    [.Expr (iX (j2 (cH "Exception" p1) "__init__" p2) [cH "self" p3,cH "what" p4] [] p5) p6,
     j3 [j2 (cH "self" q1) "what" q2] (cH "what" q3) q4,
     j3 [j2 (cH "self" r1) "at" r2] (cH "at" r3) r4]) (hs:r9 sc ["self", "what", "at"]=true) (hg:jT (nC sc) "Exception" =true) (hl:(p2.endLine==p5.line)=true)
structure nM (g:Gd):Prop where
 cls:uY g.K 94 69 59
 kp:vV g.K (aL 94)=true
 base:Ae g.K 94 (cq "BaseException")=some true
 self:Ae g.K 94 (aL 94)=some true
 glob:gJ g.K eP "RunFault" =some (some (aL 94))
 exc:gJ g.K eP "Exception" =some none
 fn:zc2 g
section
variable {g:Gd}{nn n:Nat}{c:Ctx}{A:di}{FS:List bH}{env:bH}{m:Loc}{Fz:AO}{T:TM}{H:Hp}{s:aR}{E:Value->aR->Prop}
theorem fS.yS {f:TM}(S:fS g T FS) (l:∀ a o,T a=some (fq o)->f a=some (fq o)):fS g f FS:=
 ⟨λenv h=>let ⟨a,L,o,b,d,e⟩:=S.all env h;⟨a,L,o,b,l _ _ d,e⟩⟩
theorem At.yS {f:TM}{j:aR}(a:At g nn c env m A FS Fz T H s) (l:∀ a o,T a=some (fq o)->f a=some (fq o)) (I:aQ g Fz f H j):At g nn c env m A FS Fz f H j:=
 ⟨a.R,a.S.yS l,a.F.E5 λb o e _=>l b o e,I,a.sl⟩
theorem Fd {sc:iv}{names:List Str}(h:Fb sc names){i:Nat}{x:Str}(e:names[i]?=some x):pW (nC sc) x=some i:=by
 obtain ⟨f,h2⟩:=h.at_ i x e;unfold pW Ax;rcases h2 with h2 | h2
 .rw [show (nC sc).sc=sc from rfl,h2];exact f
 .rw [show (nC sc).sc=sc from rfl,h2];exact f
theorem MK {x y nm:Str}{p p2 u z:b9}{i j:Nat}{v w:V}{Q:xX->aR->Prop}(a:At g nn c env m A FS Fz T H s) (J:pW c x=some i) (L:m[i]?=some (some v)) (O:pW c y=some j) (P:m[j]?=some (some w))
  (h:∀ o f,VR Fz o v->VR Fz f w->wpAny g.M A (setAttr o nm f) (λ_=>Q .next) E s):wpAny g.M A (exec (j3 [j2 (cH x p) nm p2] (cH y u) z) env) Q E s:=by
 refine Dc (yC a.I a.F O P λf r=>?_) rfl rfl;show wpAny g.M A (assign (j2 (cH x p) nm p2) env f) _ _ _;rw [zjG];refine bg<|oZ<|yC a.I a.F J L λo U=>bg<|sU ?_;have l:=h o f U r;first
  | exact oZ l
  | exact bg (oZ<|cW l (λ_ _ x=>wpAny_release' x) λ_ _ x=>x)
abbrev Fe (g:Gd) (n:Nat) (A:di) (FS:List bH) (Fz:AO) (T:TM) (H:Hp) (s:aR) (E:jv->aR->Prop) (j:bn) (t:bn) (l:jv) (vw:V) (v:V) (Q:jv->aR->Prop):Prop:=∀ (G:g.Ok) (X:nM g){f:Value}(F:Ar A (n+1) FS) (S:fS g T FS) (I:aQ g Fz T H s) (J:gL Fz T H j) (L:s.heap.get? j=some (jV none t)) (y:VR Fz f vw) (O:VR Fz l v) (h:∀ r u z es k p,aQ g Fz T H r->r.heap.get? j=some (jV (some u) z)->r.heap.get? u=some (gY es k)->zI "at" (gY es k)=some (some p)->VR Fz p v->gL Fz T H u->j≠u->Q bO r),wpAny g.M A (call (aL 59) [aL j,f,l]) Q E s
abbrev ML (t:bn×Gd×TM×V×V×Hp×bn×AO×aR×Nat×di×List bH×(jv->aR->Prop)×jv×(jv->aR->Prop)):Prop:=Fe t.2.1 t.2.2.2.2.2.2.2.2.2.1 t.2.2.2.2.2.2.2.2.2.2.1 t.2.2.2.2.2.2.2.2.2.2.2.1 t.2.2.2.2.2.2.2.1 t.2.2.1 t.2.2.2.2.2.1 t.2.2.2.2.2.2.2.2.1 t.2.2.2.2.2.2.2.2.2.2.2.2.1 t.1 t.2.2.2.2.2.2.1 t.2.2.2.2.2.2.2.2.2.2.2.2.2.1 t.2.2.2.1 t.2.2.2.2.1 t.2.2.2.2.2.2.2.2.2.2.2.2.2.2
@[irreducible] noncomputable def dK:bn×Gd×TM×V×V×Hp×bn×AO×aR×Nat×di×List bH×(jv->aR->Prop)×jv×(jv->aR->Prop):=nB ((0:Nat),Er,bM,V.none,V.none,bM,(0:Nat),bM,Eo,bM,Ep,bM,bM,bM,bM) ML
@[irreducible] noncomputable def sf:TM:=dK.2.2.1
@[irreducible] noncomputable def Bz:Hp:=dK.2.2.2.2.2.1
@[irreducible] noncomputable def BA:bn:=dK.2.2.2.2.2.2.1
theorem zc3:Fe dK.2.1 dK.2.2.2.2.2.2.2.2.2.1 dK.2.2.2.2.2.2.2.2.2.2.1 dK.2.2.2.2.2.2.2.2.2.2.2.1 dK.2.2.2.2.2.2.2.1 sf Bz dK.2.2.2.2.2.2.2.2.1 dK.2.2.2.2.2.2.2.2.2.2.2.2.1 dK.1 BA dK.2.2.2.2.2.2.2.2.2.2.2.2.2.1 dK.2.2.2.1 dK.2.2.2.2.1 dK.2.2.2.2.2.2.2.2.2.2.2.2.2.2:=by
 intro G X ah R0 S I hf he a9 ra h;obtain ⟨sc,p1,p2,p3,p4,p5,p6,q1,q2,q3,q4,r1,r2,r3,r4,aa,W,hg,hl⟩:=X.fn;have SF:=ME W;have s0:=Fd SF (i:=0) (x:= "self") rfl;have s1:=Fd SF (i:=1) (x:= "what") rfl;have s2:=Fd SF (i:=2) (x:= "at") rfl;have ap:Apart sf (one dK.1 (.exact (jV none BA))):=E3 hf.t;have I0:aQ dK.2.1 dK.2.2.2.2.2.2.2.1 (sf.add (one dK.1 (.exact (jV none BA)))) Bz dK.2.2.2.2.2.2.2.2.1:=I.rY λa p e=>by
  obtain ⟨rfl,rfl⟩:=kY e;exact ⟨hf,he⟩
 refine vZ (Qx (jo:=0) G aa W R0 (S.qP λa p e=>TM.rX ap e) I0 (i4 (mJ dK.1) (i4 a9 (i4 ra ct))) rfl λenv j Z a1 ai aj up fr=>?_);have m0:(frame 0 ([aB dK.1,dK.2.2.2.1,dK.2.2.2.2.1]++[]))[0]?=some (some (aB dK.1)):=rfl;have m1:(frame 0 ([aB dK.1,dK.2.2.2.1,dK.2.2.2.2.1]++[]))[1]?=some (some dK.2.2.2.1):=rfl;have m2:(frame 0 ([aB dK.1,dK.2.2.2.1,dK.2.2.2.2.1]++[]))[2]?=some (some dK.2.2.2.2.1):=rfl;have z:Z dK.1=some (.exact (jV none BA)):=up _ _ (TM.dJ (kh _ _));have ac:∀ a p,sf a=some p->Z a=some p:=λa p e=>up a p (TM.rX ap e);refine Aa (wpAny_Expr (LV rfl rfl (by show 2<8;exact Rr ..) hl (yD G a1.I a1.F hg X.exc (v:=cq "Exception") rfl (by decide) (zcZ (K:=dK.2.1.K) (v:=dO "Exception.__init__") (a1.I.K G) (by kernel_rfl) (by decide+kernel) (by kernel_rfl) rfl ?_))) (by unfold interactive;rw [a1.F.kf];rfl) rfl);have a2:=a1.yS (λ_ _ e=>e) (a1.I.tok (j.toks+1));refine qe (P:=λ_=>True) LX rfl (spliced_more (yC a2.I a2.F s0 m0 λv0 w0=>spliced_more (yC a2.I a2.F s1 m1 λv1 w1=>spliced_none ⟨trivial,?_⟩) rfl) rfl);refine w0.nJ ?_;obtain ⟨nm,q,N,bs,sn,sub,ab,col,dd,k0,k1,k2,k3,k5,hK⟩:=X.cls.obj;refine zcU (a1:=bO) (a2:=bO) (a3:=bO) (a4:=jt false) (a5:=bO) ((a2.I.K G) _ _ hK) (a2.I.cI _ _ z) λJ u ae af=>?_;have I3:=a2.I.tA (h':=J) (tk:=j.toks+1) (p':= .exact (jV none u)) z (λb o hb e=>ae b o hb e) af;have a3:=a2.yS (λb o e=>by
  by_cases hb:b=dK.1
  .subst hb;rw [z] at e;cases e
  .rw [ko hb];exact e) I3
 have L:=oy Z dK.1<|.exact<|jV none u;have y:∀ a p,sf a=some p->km Z dK.1 (.exact<|jV none u) a=some p:=λa p e=>by
  have:a≠dK.1:=by rintro rfl;rw [hf.t] at e;cases e
  rw [ko this];exact ac a p e
 generalize km Z dK.1 (.exact<|jV none u)=T2 at a3 L y I3;refine Aa<|MK a3 s0 m0 s1 m1 λo l ro rv=>?_;refine ro.nJ<|zc0 G X.cls X.cls.tw a3.I L λf h3 O r I4=>?_;have a4:=a3.yS (λb o e=>by
  have h1:b≠dK.1:=by rintro rfl;rw [L] at e;cases e
  have J:b≠f:=by rintro rfl;rw [r] at e;cases e
  unfold TM.add one;rw [if_neg J];rw [ko h1];exact e) I4
 have U:((km T2 dK.1 (.exact (jV (some f) u))).add (one f (.exact (gY (lZ "what" (lK dK.2.1.w.params "what") (.str "what" (j.toks+1+1)) l []) (qA "what" [] 0))))) dK.1=some (.exact (jV (some f) u)):=by
  unfold TM.add one;rw [if_neg O.symm];exact oy ..
 have a0:((km T2 dK.1 (.exact (jV (some f) u))).add (one f (.exact (gY (lZ "what" (lK dK.2.1.w.params "what") (.str "what" (j.toks+1+1)) l []) (qA "what" [] 0))))) f=some (.exact (gY (lZ "what" (lK dK.2.1.w.params "what") (.str "what" (j.toks+1+1)) l []) (qA "what" [] 0))):=TM.dJ (kh _ _);have a6:∀ a p,sf a=some p->((km T2 dK.1 (.exact (jV (some f) u))).add (one f (.exact (gY (lZ "what" (lK dK.2.1.w.params "what") (.str "what" (j.toks+1+1)) l []) (qA "what" [] 0))))) a=some p:=λb p e=>by
  have h1:b≠dK.1:=by rintro rfl;rw [hf.t] at e;cases e
  have J:b≠f:=by rintro rfl;rw [y _ _ e] at r;cases r
  unfold TM.add one;rw [if_neg J];rw [ko h1];exact y b p e
 have a7:sf f=none:=by
  cases q:sf f with
  | none=>rfl
  | some p=>rw [y _ _ q] at r;cases r
 generalize ((km T2 dK.1 (.exact (jV (some f) u))).add (one f (.exact (gY (lZ "what" (lK dK.2.1.w.params "what") (.str "what" (j.toks+1+1)) l []) (qA "what" [] 0)))))=T3 at a4 U a0 a6 I4;refine Aa (MK a4 s0 m0 s2 m2 λo a8 ro ag=>?_);refine ro.nJ ?_;refine zc1 G X.cls X.cls.ta a4.I U a0 rfl (by show 1<100;exact Rr ..) λh5 I5=>xY ?_;have e5:=I5.cI _ _ ((ko O.symm).trans U);have d5:=I5.cI _ _ (oy T3 f _);have I6:aQ dK.2.1 dK.2.2.2.2.2.2.2.1 sf Bz _:=I5.nK λb p e=>by
  have J:b≠f:=by rintro rfl;rw [a7] at e;cases e
  rw [ko J];exact a6 b p e
 refine h _ f u _ _ a8 I6 e5 d5 (by kernel_rfl) ag ⟨I5.ft _ _<|oy T3 f _,a7,?_⟩ O.symm;cases q:Bz f with
 | none=>rfl
 | some o=>exact absurd (oy T3 f _)<|I5.ht _ _ _ q
theorem zc4 {g:Gd}{n:Nat}{A:di}{FS:List bH}{Fz:AO}{T:TM}{H:Hp}{s:aR}{E:jv->aR->Prop}{j:bn}{t:bn}{f:jv}{vw:V}{l:V}{Q:jv->aR->Prop}:Fe g n A FS Fz T H s E j t f vw l Q:=on (P:=ML) (by with_unfolding_all exact zc3) (j,g,T,vw,l,H,t,Fz,s,n,A,FS,E,f,Q)
end
def wO:oz:=λFz T H s _ e v=>∃j l t es k f,e=aL j/\s.heap.get? j=some (jV (some l) t)/\s.heap.get? l=some (gY es k)/\zI "at" (gY es k)=some (some f)/\VR Fz f v/\
 gL Fz T H j/\gL Fz T H l/\j≠l
section
variable {g:Gd}{nn n:Nat}{c:Ctx}{A:di}{FS:List bH}{env:bH}{m:Loc}{Fz:AO}{T:TM}{H:Hp}{s:aR}{E:Value->aR->Prop}
def MM (P:V->Prop) (vs:List V):Prop:=match vs with
 | []=>False
 | _::r=>(match r with
  | []=>False
  | v::r=>(match r with
   | []=>P v
   | _::_=>False))
theorem zc5 {P:V->Prop}{vs:List V}(h:MM P vs):∃w v,vs=[w,v]/\P v:=by
 cases vs with
 | nil=>exact i6 h
 | cons w r=>
  cases r with
  | nil=>exact i6 h
  | cons v r=>
   cases r with
   | nil=>exact ⟨w,v,rfl,h⟩
   | cons _ _=>exact i6 h
theorem bK.zc6 {Fz:AO}{xs:List Value}{w v:V}(r:bK Fz xs [w,v]):∃f j,xs=[f,j]/\VR Fz f w/\VR Fz j v:=by
 cases r with
 | cons l r=>cases r with
  | cons p r=>cases r;exact ⟨_,_,rfl,l,p⟩
theorem zc7 {e:bn}(I:aQ g Fz T H s) (f:s.heap.get? e=none):gL Fz T H e:=by
 refine ⟨?_,?_,?_⟩
 .cases q:Fz e with
  | none=>rfl
  | some o=>rw [I.iI _ _ q] at f;cases f
 .cases q:T e with
  | none=>rfl
  | some p=>obtain ⟨j,e⟩:=dX.there<|I.cI _ _ q;rw [e] at f;cases f
 .cases q:H e with
  | none=>rfl
  | some p=>obtain ⟨j,e⟩:=ma.there<|I.gB _ _ q;rw [e] at f;cases f
theorem zc8 {Φ:bG}{n:Nat}{c:Ctx}{e:Expr}{m:Loc}{H:Hp}{Q:V->Hp->Prop}(h:bu Φ (cE bz n c e) m H Q):noStar e=true:=by
 cases e <;> first | rfl | (cases n <;> exact i6 h)
theorem zc9 (G:g.Ok) (TK:ef g) (XO:nM g){j:Str}{f:Expr}{Z:Nat}{p2 np p pos:b9}{X:V->Hp->Prop}{Q:xX->aR->Prop} (hg:jT c "RunFault" =true) (a:At g (nn+1) c env m A FS Fz T H s) (x:XE g wO c env FS Fz T X E)
  (h:bu (bj g (nn+1)) (cE bz n c f) m H X):wpAny g.M A (exec (.Raise (some (iX (cH "RunFault" np) [qr (.str j) Z p2,f] [] p)) none pos) env) Q E s:=by
 have r:=zc8 h;obtain ⟨n,rfl⟩:∃k,n=k+1:=by
  cases n with
  | zero=>exact i6 h
  | succ k=>exact ⟨k,rfl⟩
 have y:jg (bj g (nn+1)) (jn (cE bz (n+1) c) [qr (.str j) Z p2,f]) m H (λvs H'=>MM (λv=>X v H') vs):=h;rw [arm_exec_Raise];refine bg (sU ?_);refine zcY XO.cls a.R.hd (bg (vY (wB G a.I a.F hg XO.glob ?_)));refine qe (P:=g.K.In) (C5 XO.kp) (by show (true && (noStar f && true))=true;rw [r];rfl) (my.use (rW (pr G TK (n+1)) (by show (true && (noStar f && true))=true;rw [r];rfl) a y) λz J vs xs s1 l1 u L O=>⟨u.K G,?_⟩);refine g3 (zc5 O) λvw va U O=>?_;subst U;obtain ⟨y1,y2,rfl,L,r2⟩:=L.zc6;obtain ⟨hh,gs,dr,tk,os⟩:=s1;refine call_exc (tB:=by size_fits) (u.K G) XO.cls λh' e t0 hk r he=>?_;have I2:aQ g z T J ⟨h',gs,dr,tk,os⟩:=u.grow (h':=h') (tk:=tk) (dr:=dr) hk;have l:gL z T J e:=zc7 u r;have hu:=LU 94 [y1,y2];have R':Ar (A.under (vE "type.__call__" ⟨[aL 94,y1,y2],[]⟩)) (0+1) FS:=by
  rw [LS];refine ⟨a.R.hd,?_,?_,a.R.fr⟩
  .have:=a.sl.1;show A.depth+1+4*(0+1)<900;exact Wa this
  .have:=a.sl.2;show A.units+_+40*(0+1)<9000;exact Wb hu this
 refine zc4 G XO R' a.S I2 l he L r2 λs' dx t' es k W I3 e1 e2 e3 rv fd ne=>⟨rfl,?_⟩;exact bg<|sU<|cT ⟨e,t',dx,rfl,I3.K G,e1,x z T J m s' (aL e) va l1 .rf a.S I3 (a.F.mono l1) ⟨e,dx,t',es,k,W,rfl,e1,e2,e3,rv,l,fd,ne⟩ O⟩
end
end
section
open PySem PySem.W
noncomputable abbrev wP:eY:={objs:=#[]}
theorem zda (a:bn):wP.get? a=none:=zG<|zP a
section
variable {M:rD}{A:di}{E:Value->aR->Prop}{s:aR}
structure BC (fs:List bn) (e T:bn) (oe:d9) (h h':eY):Prop where
 new:h.get? T=none
 ne:T≠e
 keep:∀ b o,b ∉ fs->b≠e->h.get? b=some o->h'.get? b=some o
 slots:∀ b o,b≠e->h.get? b=some o->∃sl,h'.get? b=some {o with slots:=sl}
 exc:h'.get? e=some (oe.mapFields (·.setIfInBounds 1 (aL T)))
 tb:∃oT ts,h'.get? T=some oT/\oT.data=fj ts/\ts[3]?=some bO
theorem MN {env:bH}{outer:List bH}{L e:bn}{oe:d9}{vs:Array Value}{p:Value}{r:Bool}{Q:Unit->aR->Prop}
  (a0:A.frames=some (env::outer)) (hl:s.heap.FunFrames wP (env::outer)) (hf:env.frame=some L)
  (he:s.heap.get? e=some oe) (hd:oe.data=fj vs) (hsz:1<vs.size)
  (h:∀ h' T,BC ((env::outer).filterMap (·.frame)) e T oe s.heap h'->Q () {s with heap:=h'}):
  wpAny M A (do let a<-frameOf env;let J<-entryPlaceOf L r;let b<-EntryCells.newEntry p a bO (o0 L) bO J;setField (aL e) 1 b) (λ_ s'=>wpAny M A (setFlight (aL e) none) Q E s') E s:=by
 have W:e ∉ (env::outer).filterMap (·.frame):=λhm=>by
  refine rR (hl.mem hm) λ_ o ho a1=>?_;rw [he] at ho;injection ho with ho;subst ho;exact a1 vs hd
 refine bg (wpAny_frameOf_fun a0 hl hf λj l=>?_);refine bg (wpAny_entryPlaceOf λJ Z=>?_);refine bg (wpAny_newObj_type ?_ (Z.sizeOk5 _ _ _ _ _));have u:j.get? e=some oe:=(l.2.1 e W).trans he;have v:=kU (h:=j) {cls:=cq "traceback",dict:=none,data:=fj ([p,aL L,bO,o0 L,bO]++(if J.isEmpty then bY 6 oa else J)).toArray} u;refine HT v hd hsz ?_;have P:j.objs.size≠e:=Hs (sS u);have y:=HU hd (·.setIfInBounds 1 (nw j.objs.size));have z:=xS (pU (·.setIfInBounds 1 (nw j.objs.size))) v (RQ y);have F:=(pT (j.push {cls:=cq "traceback",dict:=none,data:=fj ([p,aL L,bO,o0 L,bO]++(if J.isEmpty then bY 6 oa else J)).toArray})
  (pU (·.setIfInBounds 1 (nw j.objs.size))) (uq P)).trans (sK j rfl)
 refine bg (Dh z y (x:=aL j.objs.size) (by simp [hsz]) ?_);rw [if_pos<|show (nw j.objs.size !=oa)=true from by simp];refine HT F rfl (by simp only [zL,cC,eQ,jQ] <;> exact Wc)<|h _ j.objs.size ?_;have O:∀ b o,b≠e->j.get? b=some o->
   (((j.push {cls:=cq "traceback",dict:=none,data:=fj ([p,aL L,bO,o0 L,bO]++(if J.isEmpty then bY 6 oa else J)).toArray}).update e (pU (·.setIfInBounds 1 (nw j.objs.size)))).update j.objs.size
    (pU (·.setIfInBounds 3 ((none:Option bn).elim oa λf=>o0 f)))).get? b=some o:=λb o I hb=>by
  have a2:j.objs.size≠b:=Hs<|sS hb;rw [pT _ _ a2,pT _ _<|uq I];exact kU _ hb
 refine ⟨zG<|CQ l.1.symm,P,λb o hb I U=>O b o I<|(l.2.1 b hb).trans U,λb o I U=>?_,?_,⟨_,_,xS _ F<|RQ<|HU rfl _,HU rfl _,?_⟩⟩
 .obtain ⟨sl,hs⟩:=l.2.2 b o U;exact ⟨sl,O b _ I hs⟩
 .rw [pT _ _ P];exact z
 .first | (simp;done) | (rcases Z with rfl | ⟨_,_,_,_,_,_,_,rfl⟩ <;> simp)
theorem zdb {env:bH}{outer:List bH}{L e:bn}{f:d9}{vs:Array Value}{Q:Unit->aR->Prop}
  (j:A.frames=some (env::outer)) (v:s.heap.FunFrames wP (env::outer)) (l:env.frame=some L)
  (p:s.heap.get? e=some f) (r:f.data=fj vs) (u:vs[1]?=some bO)
  (h:∀ h' T,BC ((env::outer).filterMap (·.frame)) e T f s.heap h'->Q () {s with heap:=h'}):wpAny M A (De env<|aL e) Q E s:=by
 unfold De HO;simp only [l];refine bg<|bg<|Dh p r u ?_;rw [if_neg<|by decide];exact MN j v l p r (HV.mp u).1 h
theorem zdc {env:bH}{outer:List bH}{L e T:bn}{y J:d9}{vs z:Array Value}{Q:Unit->aR->Prop}
  (F:A.frames=some (env::outer)) (hl:s.heap.FunFrames wP (env::outer)) (O:env.frame=some L)
  (P:s.heap.get? e=some y) (U:y.data=fj vs) (W:vs[1]?=some (aL T)) (I:T≠e) (u:s.heap.get? T=some J) (l:J.data=fj z) (Z:z[3]?=some bO)
  (h:∀ h' v,v≠T->BC ((env::outer).filterMap (·.frame)) e v y (s.heap.update T (pU (·.setIfInBounds 3 oa))) h'->Q () {s with heap:=h'}):
  wpAny M A (HO (aL e) env) (λ_ s'=>wpAny M A (setFlight (aL e) none) Q E s') E s:=by
 unfold HO;simp only [O];refine bg<|Dh P U W ?_;rw [if_pos<|show (nw T !=oa)=true from by simp];refine bg<|Dh u l Z ?_;rw [if_neg<|show ¬((oa==o0 L)=true) from by simp [o0]];refine bg<|HT u l (HV.mp Z).1 ?_;have j:∀ b,b≠T->(s.heap.update T (pU (·.setIfInBounds 3 oa))).get? b=s.heap.get? b:=λb p=>pT _ _<|uq p;have f:∀ b o,s.heap.get? b=some o->(∀ vs,o.data≠fj vs)->b≠T:=λb o p r q=>by
  rw [q,u] at p;injection p with p;subst p;exact r z l
 refine MN (s:={s with heap:=s.heap.update T (pU (·.setIfInBounds 3 oa))}) F (hl.of_keeps λb o p r=>⟨o,(j b<|f b o p r).trans p,rfl⟩) O ((j e<|uq I).trans P) U (HV.mp W).1
  λh' v N=>h h' v (λq=>?_) N
 subst q;have:=N.new;rw [xS _ u<|RQ<|HU l _] at this;cases this
end
section
variable {g:Gd}{nn n:Nat}{c:Ctx}{A:di}{FS:List bH}{env:bH}{m:Loc}{Fz:AO}{T:TM}{H:Hp}{s:aR}{E:Value->aR->Prop}
theorem fS.fun (S:fS g T FS) (I:aQ g Fz T H s):s.heap.FunFrames wP FS:=by
 have:∀ l:List bH,(∀ e∈l,e∈FS)->s.heap.FunFrames wP l:=by
  intro l;induction l with
  | nil=>intro _;trivial
  | cons e r f=>
   intro h;obtain ⟨k,L,o,j,p,u⟩:=S.all e<|h e dh;obtain ⟨z,v⟩:=I.cI _ _ p;exact ⟨k,⟨L,_,j,zda L,v,u⟩,f λx y=>h x<|dz _ y⟩
 exact this FS λ_ h=>h
theorem fS.mem (S:fS g T FS){b:bn}(j:b∈FS.filterMap (·.frame)):∃o,T b=some (fq o):=by
 refine bZ (RR.mp j) λe l p=>?_;obtain ⟨k,L,o,f,r,u⟩:=S.all e l;rw [p] at f;cases f;exact ⟨o,r⟩
theorem aQ.MP (I:aQ g Fz T H s) (S:fS g T FS){e t:bn}{y:d9}{h':eY}(N:BC (FS.filterMap (·.frame)) e t y s.heap h') (F:gL Fz T H e):aQ g Fz T H {s with heap:=h'} where
 old:=I.old
 iI:=λa o q=>N.keep a o (λj=>by obtain ⟨o',l⟩:=S.mem j;rw [I.ft _ _ l] at q;cases q) (by rintro rfl;rw [F.f] at q;cases q)<|I.iI a o q
 cI:=λa p q=>by
  have r:a≠e:=by rintro rfl;rw [F.t] at q;cases q
  by_cases j:a∈FS.filterMap (·.frame)
  .obtain ⟨o',l⟩:=S.mem j;rw [l] at q;cases q;obtain ⟨L,z⟩:=I.cI _ _ l;obtain ⟨u,J⟩:=N.slots a _ r z;exact ⟨u,J⟩
  .exact dX.keep (λv z=>N.keep a v j r z)<|I.cI a p q
 gB:=λa o q=>ma.keep (AO.le.refl _) (λv z=>N.keep a v (λj=>by obtain ⟨o',l⟩:=S.mem j;exact I.ht _ _ _ q l) (by rintro rfl;rw [F.h] at q;cases q) z)<|I.gB a o q
 ft:=I.ft
 hf:=I.hf
 ht:=I.ht
 gens:=I.gens
 os:=I.os
theorem zdd {e:Value}{v:V}{Q:Unit->aR->Prop}(f:A.frames=some (env::FS)) (S:fS g T (env::FS)) (I:aQ g Fz T H s) (x:wO Fz T H s env e v)
  (h:∀ j,aQ g Fz T H j->yB g Fz T H j e v->Q () j):wpAny g.M A (De env e) Q E s:=by
 obtain ⟨J,l,t,es,k,p,rfl,O,r,P,U,y,z,F⟩:=x;obtain ⟨_,L,_,W,_,_⟩:=S.all env dh;refine zdb f (S.fun I) W O rfl rfl λh' Z N=>?_;have u:l ∉ (env::FS).filterMap (·.frame):=λhm=>by obtain ⟨o,e⟩:=S.mem hm;rw [z.t] at e;cases e
 refine mv N.tb λoT ts t1 t2 t3=>h _ (I.MP S N y) ⟨J,l,t,Z,oT,ts,es,k,p,rfl,N.exc,N.keep l _ u F.symm r,P,U,y,z,F,t1,t2,t3,A4 I N.new,N.ne,?_⟩;rintro rfl;rw [N.new] at r;cases r
end
end
section
open PySem PySem.W PyProof.Rows PySem.Calls
theorem Fg {m:Loc}{i j:Nat}{w:V}(h:(m.set i none)[j]?=some (some w)):j≠i/\m[j]?=some (some w):=by
 by_cases e:i=j
 .subst e;rw [zjv] at h;cases q:m[i]? with
  | none=>rw [q] at h;cases h
  | some o=>rw [q] at h;cases h
 .rw [zjw e] at h;exact ⟨λq=>e q.symm,h⟩
section
variable {g:Gd}{nn n:Nat}{c:Ctx}{A:di}{FS:List bH}{env:bH}{m:Loc}{Fz:AO}{T:TM}{H:Hp}{s:aR}{E:Value->aR->Prop}
theorem zde {y:Str}{k:Nat}{pos:b9}{Q:aR->Prop}(hl:c.sc.names.lookup y=some .local) (hk:c.loc.lookup y=some k) (S:fS g T FS) (F:eI c env Fz T m) (I:aQ g Fz T H s)
  (h:∀ T' s',xJ g c env FS Fz T H (m.set k none) s' T'->Q s'):wpAny g.M A (do C7 env y bO;zjO env y pos) (λ_=>Q) E s:=by
 obtain ⟨P,eg,eb,fr,J,U,⟨oL,es,ep,W,u2,u3,u4⟩,cl,ci,rd,rc,lt,hi⟩:=F;obtain ⟨k',L,Z⟩:=J y _ hl;have:k'= .local:=Z.elim id λe=>nomatch e.1;subst this;obtain ⟨sl,e⟩:=I.cI _ _ W;have hn:s.heap.Ns env.locals (xM es):=⟨_,es,ep,e,u2,u3,λ_=>rfl⟩;refine bg (wpAny_bindName<|Ry L hn (λh1 a0 a1=>?_)<|by rw [P];rfl);refine wpAny_onRaise (wpAny_unbindName_local (v:=bO) L a0 (by simp) (by rw [P];rfl) λh' u a2 a3=>?_);obtain ⟨f,a4,a5,e',d',a6,f'⟩:=a2;have I':=I.tA (tk:=s.toks+1) W (λb o hb e=>a3.extBut b o hb<|a1.extBut b o hb e) (p':=fq f) ⟨f.slots,e'⟩;refine h _ _ ⟨?_,S.km (o:=f) (by rw [d'];intro vs q;cases q),I',⟨P,eg,eb,fr,J,U,⟨f,a4,a5,oy ..,d',a6,?_⟩,?_,ci,rd,rc,lt,?_⟩⟩
 .intro a ha;by_cases q:a=env.locals
  .exact ba q
  .exact absurd (ko q) ha
 .intro z j w hz l p;obtain ⟨r,p⟩:=Fg p;have O:z≠y:=by rintro rfl;rw [hk] at l;cases l;exact r rfl
  obtain ⟨vv,hv,rr⟩:=u4 z j w hz l p;exact ⟨vv,(f' _).trans (by show (if z=y then _ else _)=_;rw [if_neg O,if_neg O];exact hv),rr⟩
 .intro z j hz l;obtain ⟨ca,co,ov,z1,z2,z3,z4⟩:=cl z j hz l;have r:ca≠env.locals:=by
   rintro rfl;rw [W] at z2;cases z2;rw [u2] at z3;cases z3
  exact ⟨ca,co,ov,z1,(ko r).trans z2,z3,λw p=>z4 w (Fg p).2⟩
 .exact λj w l p=>hi j w l (Fg p).2
theorem zdf {y:Str}{k:Nat}{p:Value}{v:V}{Q:aR->Prop}(hl:c.sc.names.lookup y=some .local) (W:c.loc.lookup y=some k) (S:fS g T FS) (F:eI c env Fz T m) (I:aQ g Fz T H s) (r:VR Fz p v)
  (h:∀ Z s' mm,iz c env T Z->fS g Z FS->aQ g Fz Z H s'->eI c env Fz Z (m.set k<|some v)->s'.heap.Ns env.locals mm->mm y=some p->Q s'):wpAny g.M A (Rx env y p) (λ_=>Q) E s:=by
 obtain ⟨kf,eg,eb,fr,O,J,⟨oL,es,ep,u1,u2,u3,u4⟩,cl,ci,rd,rc,lt,hi⟩:=F;obtain ⟨k',a0,a1⟩:=O y _ hl;have:k'= .local:=a1.elim id λe=>nomatch e.1;subst this;obtain ⟨sl,e⟩:=I.cI _ _ u1;have hn:s.heap.Ns env.locals (xM es):=⟨_,es,ep,e,u2,u3,λ_=>rfl⟩;refine Ry a0 hn (λh' P a2=>?_) (by rw [kf];rfl);have U:=P;obtain ⟨u,a3,a4,e',d',a5,f'⟩:=P;have I':=I.tA (tk:=s.toks+1) u1 a2.extBut (p':=fq u) ⟨u.slots,e'⟩;refine h _ _ _ ?_ (S.km (o:=u)<|by rw [d'];intro vs q;cases q) I' ⟨kf,eg,eb,fr,O,J,⟨u,a3,a4,oy ..,d',a5,?_⟩,?_,ci,rd,rc,lt,?_⟩ U (by simp)
 .intro a ha;by_cases q:a=env.locals
  .exact ba q
  .exact absurd (ko q) ha
 .intro z j w hz l f;rcases sF f with ⟨rfl,rfl⟩ | ⟨L,f⟩
  .have:=J z y _ l W;subst this;exact ⟨p,(f' _).trans (by simp),r⟩
  .have a6:z≠y:=by rintro rfl;rw [W] at l;cases l;exact L rfl
   obtain ⟨vv,hv,rr⟩:=u4 z j w hz l f;exact ⟨vv,(f' _).trans (by show (if z=y then _ else _)=_;rw [if_neg a6];exact hv),rr⟩
 .intro z j hz l;obtain ⟨ca,co,ov,z1,z2,z3,z4⟩:=cl z j hz l;have L:ca≠env.locals:=by
   rintro rfl;rw [u1] at z2;cases z2;rw [u2] at z3;cases z3
  refine ⟨ca,co,ov,z1,(ko L).trans z2,z3,λw f=>?_⟩;rcases sF f with ⟨rfl,rfl⟩ | ⟨_,f⟩
  .have:=J z y _ l W;subst this;rw [hl] at hz;rcases hz with hz | hz <;> cases hz
  .exact z4 w f
 .intro j w l f;rcases sF f with ⟨rfl,_⟩ | ⟨_,f⟩
  .exact absurd (lt y _ W)<|qw.mpr l
  .exact hi j w l f
set_option tactic.hygienic true in
theorem zdg (G:g.Ok) (TK:ef g){x:Str}{f:Nat}{as:List Expr}{p pos:b9}{R X:V->Hp->Prop}(l:fnOf bz c x=some f) (y:as.all noStar=true) (a:At g nn c env m A FS Fz T H s)
  (h:jg (bj g nn) (jn (cE bz n c) as) m H (λvs H=>bj g nn f vs H R X)):
  wpAny g.M A (eval (iX (cH x p) as [] pos) env) (bA g Fz T R) (λe r=>∃j u v,Fz.le j/\aQ g j T u r/\yB g j T u r e v/\X v u) s:=by
 unfold fnOf at l;split at l
 .rename_i hg;obtain ⟨e1,e2⟩:=TK.fns x f l;refine vY<|wB G a.I a.F hg e1 ?_;refine qe (P:=g.K.In) (C5 e2) y<|my.use (rW (pr G TK n) y a h) λF1 H1 vs xs s1 J L r1 h1=>⟨L.K G,?_⟩;refine vZ<|C4 (h1 A FS F1 T s1 xs a.R a.S L r1) λq r z=>?_;obtain ⟨O,U,W,Z,z⟩:=z;cases q with
  | ok f=>cases f with
   | ret x=>exact z.elim λv z=>⟨O,U,v,J.trans W,Z,z.1,z.2⟩
   | _=>exact z.elim
  | error e=>exact z.elim λv z=>⟨O,U,v,J.trans W,Z,z.1,z.2⟩
 .cases l
theorem zdh {j f:bn}{r l:d9}(I:aQ g Fz T H s) (y:gL Fz T H j) (z:gL Fz T H f) (J:j≠f) (x:s.heap.get? j=some r) (d:s.heap.get? f=some l):
  ∃GG:TM,GG j=some (.exact r)/\GG f=some (.exact l)/\Apart T GG/\(∀ a p,GG a=some p->∀ u F,p=fq u->u.data≠vF F)/\aQ g Fz (T.add GG) H s:=by
 have v:∀ b p,((one j<|.exact r).add (one f<|.exact l)) b=some p->(b=j/\p= .exact r)\/(b=f/\p= .exact l):=λb p e=>by
  cases q:one f (.exact l) b with
  | some p'=>rw [TM.dJ q] at e;cases e;exact aX<|kY q
  | none=>rw [TM.jx q] at e;exact ba<|kY e
 refine ⟨(one j<|.exact r).add (one f<|.exact l),?_,TM.dJ<|kh _ _,λb p e=>?_,λb p e u F q=>?_,I.rY λb p e=>?_⟩
 .rw [TM.jx<|by unfold one;rw [if_neg J]];exact kh _ _
 .rcases v b p e with ⟨rfl,_⟩ | ⟨rfl,_⟩
  .exact y.t
  .exact z.t
 .rcases v b p e with ⟨_,rfl⟩ | ⟨_,rfl⟩ <;> cases q
 .rcases v b p e with ⟨rfl,rfl⟩ | ⟨rfl,rfl⟩
  .exact ⟨y,x⟩
  .exact ⟨z,d⟩
theorem zdi (XO:nM g){es:List lI}{k:Nat}{f:Value} (e:zI "at" (gY es k)=some (some f)):HC g.K 94 (some (gY es k)) "at" =some (.value f):=by
 obtain ⟨nm,q,l,bs,sn,sub,ab,col,dd,k0,k1,k2,k3,k5,j⟩:=XO.cls.obj;unfold HC zjf sT;rw [j];simp only [ul,XO.cls.at_,if_true,e]
theorem zdj {x:Str}{i:Nat}{y:Str}{k:Nat}(F:eI c env Fz T m) (f:kK c x=some i) (l:c.loc.lookup y=some k) (j:x≠y):i≠k:=by
 rintro rfl;refine j<|F.inj x y i ?_ l;unfold kK at f;split at f
 .exact f
 .exact f
 .cases f
theorem zdk (G:g.Ok) (XO:nM g){y z:Str}{j k:Nat}{p6 p7 p8 p9 pn:b9}{A2:di}{E1 E2:Value->aR->Prop}{Q:xX->aR->Prop}(hj:kK c z=some j) (hk:c.loc.lookup y=some k) (a0:z≠y) (P:c.sc.names.lookup y=some .local) (S:fS g T FS) (F:eI c env Fz T m) (I:aQ g Fz T H s)
  {u U:bn}{W:d9}{es:List lI}{k':Nat}{v:Value}{v1:V}(f1:gL Fz T H u) (f2:gL Fz T H U) (ne:u≠U) (x4:s.heap.get? u=some W) (hc:W.cls=aL 94) (hn:notCls W=true) (hd:W.dict=some U) (d4:s.heap.get? U=some (gY es k')) (e3:zI "at" (gY es k')=some (some v)) (rv:VR Fz v v1)
  (a1:∀ Z s',iz c env T Z->fS g Z FS->aQ g Fz Z H s'->eI c env Fz Z ((m.set k none).set j (some v1))->Q .next s'):
  wpAny g.M A (Rx env y (aL u)) (λ_ J=>wpAny g.M A (execs [j3 [cH z p6] (j2 (cH y p7) "at" p8) p9] env) (λf L=>wpAny g.M A2 (do C7 env y bO;zjO env y pn) (λ_ O=>Q f O) E2 L) E1 J) E s:=by
 refine wy (zdh I f1 f2 ne x4 d4) λGG gX gD ap l I5=>?_;have up:=E8 ap;have M:=Mv F ap;refine zdf P hk (S.qP up) (F.qP up) I5 (mJ u) λT6 s6 mm t6 S6 I6 r a2 a3=>?_;have x6:=I6.cI _ _<|Bv M l t6 gX;have d6:=I6.cI _ _<|Bv M l t6 gD;refine bZ (r.yA y _ P) λkk a4 a5=>?_;have:kk= .local:=a5.elim id λe=>nomatch e.1;subst this;refine Aa<|Dc (Attribute_any_ (wpAny_Name (ziF r.kf a4 a2 a3 ?_)<|r.nd P) rfl) rfl rfl;refine zcP (I6.K G) ⟨x6,hc,hn,hd▸d6⟩ XO.cls.ga XO.cls.gt XO.base (zdi XO e3) rv.handed<|zX<|uW hj S6 r (I6.tok<|s6.toks+1) rv λT7 s7 t7 S7 I7 a6=>xY ?_;refine zde P hk S7 a6 I7 λT8 s8 B=>?_;have t8:iz c env (T.add GG) T8:=(t6.trans t7).trans B.t;have hm:((m.set k<|some<|aB u).set j (some v1)).set k none=(m.set k none).set j (some v1):=by rw [zjH _ _<|zdj F hj hk a0,List.set_set]
 exact a1 (oA T8 GG) s8 (Mw M t8) (Mx S ap B.S) (B.I.nK Mz)<|My M l (λb p e=>Bv M l t8 e)<|hm▸B.F
theorem zdl (G:g.Ok) (TK:ef g) (XO:nM g){x y z f:Str}{i j k fa:Nat}{as:List Expr}{p1 p2 p3 p4 p5 p6 p7 p8 p9 pn a0:b9}{Q:Fl->Loc->Hp->Prop}{X:V->Hp->Prop}(hi:kK c x=some i) (hf:fnOf bz c f=some fa) (hj:kK c z=some j) (hk:c.loc.lookup y=some k)
  (a1:jT c "RunFault" =true) (hn:as.all noStar=true) (a2:z≠y) (hy:c.sc.names.lookup y=some .local) (hF:FS.head?=some env) (a:At g nn c env m A FS Fz T H s)
  (h:wpS (bj g nn) (xG i fa (jn (cE bz n c) as) j k) m H Q X):
  wpAny g.M A (exec (.Try [j3 [cH x p1] (iX (cH f p2) as [] p3) p4] [vG (some (cH "RunFault" p5)) (some y) [j3 [cH z p6] (j2 (cH y p7) "at" p8) p9] pn] [] [] a0) env) (jH g c env FS Fz T Q) E s:=by
 conv at h=>whnf
 refine wpAny_Try_except<|Aa<|Dc (cW (zdg G TK hf hn a h) (λx1 u p=>?_) λe u p=>?_) rfl rfl
 .obtain ⟨J,O,v1,P,I1,r1,h1⟩:=p;exact zX<|uW hi a.S (a.F.mono P) I1 r1 λl s' t S I F=>xY<|xY ⟨J,l,O,_,P,t,S,I,F,h1⟩
 .obtain ⟨J,O,v1,P,I1,⟨ea,v,t,tb,oT,ts,es,k',a7,rfl,e1,e2,e3,rv,f1,f2,ne,t1,t2,t3,f3,n1,n2⟩,h1⟩:=p;obtain ⟨U,rfl⟩:∃r,FS=env::r:=by
   cases FS with
   | nil=>cases hF
   | cons a r=>cases hF;exact ⟨r,rfl⟩
  obtain ⟨_,L,_,a3,_,_⟩:=a.S.all env dh;refine zdc (outer:=U) a.R.fr (a.S.fun I1) a3 e1 rfl rfl n1 t1 t2 t3 λh' l a8 N=>?_;have I2:aQ g J T O {u with heap:=u.heap.update tb (pU (·.setIfInBounds 3 oa))}:=I1.turn (tk:=u.toks) f3 uS;have I3:aQ g J T O {u with heap:=h'}:=I2.MP a.S N f1;have a4:v≠ea:=ne.symm;have a5:v ∉ (env::U).filterMap (·.frame):=λhm=>by obtain ⟨o,e⟩:=a.S.mem hm;rw [f2.t] at e;cases e
  have d3:h'.get? v=some (gY es k'):=N.keep v _ a5 a4<|(pT _ _ n2).trans e2;have x3:h'.get? ea=some {cls:=aL 94,dict:=some v,data:=fj #[aL t,aL l,bO,bO,jt false,bO]}:=N.exc;refine mv N.tb λa9 aa u1 u2 u3=>?_;have a6:gL J T O l:=A4 I2 N.new;have W:l≠v:=by
   rintro rfl;have:=N.new;rw [show (u.heap.update tb (pU (·.setIfInBounds 3 oa))).get? l=some (gY es k') from (pT _ _ n2).trans e2] at this;cases this
  obtain ⟨nm,q,N',bs,sn,sub,ab,col,dd,k0,k1,k2,k3,k5,hK⟩:=XO.cls.obj;have Z:=a.F.mono P;refine wpAny_handleBy_cons (codeAny_handlers_test<|wB G I3 Z a1 XO.glob ?_) (by intro q;cases q);refine wpAny_excMatches_sub_self ((I3.K G) _ _ hK) x3 rfl (by simp [lv])<|codeAny_handlers_suite_as ?_;refine wpAny_setFlight_none x3 rfl rfl u1 u2 (by
   rw [HV] at u3;exact u3.1) ?_
  have I4:aQ g J T O {u with heap:=h'.update l (pU (·.setIfInBounds 3 oa))}:=I3.turn (tk:=u.toks) a6 uS;have x4:(h'.update l (pU (·.setIfInBounds 3 oa))).get? ea=some {cls:=aL 94,dict:=some v,data:=fj #[aL t,aL l,bO,bO,jt false,bO]}:=(pT _ _ N.ne).trans x3;have d4:(h'.update l (pU (·.setIfInBounds 3 oa))).get? v=some (gY es k'):=(pT _ _ W).trans d3;exact zdk G XO hj hk a2 hy a.S Z I4 f1 f2 ne x4 rfl rfl rfl d4 e3 rv λl s' t S I F=>⟨J,l,O,_,P,t,S,I,F,h1⟩
theorem Fh {Q:Fl->Loc->Hp->Prop}{X:V->Hp->Prop}{P:Prop}(h:wpS (bj g nn) lH m H Q X):P:=i6 h
theorem zdm:SS g wO nn 0:=by
 intro c st env m A FS Fz T H s E Q X a f x h;exact Fh h
theorem zdn (G:g.Ok) (TK:ef g){t v:Expr}{pos:b9}{Q:Fl->Loc->Hp->Prop}{X:V->Hp->Prop}(a:At g (nn+1) c env m A FS Fz T H s) (h:wpS (bj g<|nn+1) (JM bz c (cE bz n c) t v) m H Q X):wpAny g.M A (exec (j3 [t] v pos) env) (jH g c env FS Fz T Q) E s:=by
 refine Ed h (λx f k1=>pj k1 λi j z=>?_) λk1=>Ed k1 (λq f k2=>pj k2 λF l k3=>tm k3 λr z=>?_) λk2=>Ed k2 (λq f k3=>tm k3 λ_ u=>pj u λi j z=>?_) λk3=>pj k3 λq y z=>?_
 .clear h;obtain ⟨p,rfl⟩:=tn f;exact zct G TK j a z
 .clear h k1;obtain ⟨k,p,rfl⟩:=Ee f;exact zcD G TK l r a z
 .rw [Ef f];exact zco G TK j a z
 .clear h k1 k2 k3;obtain ⟨p,rfl⟩:=Zl y;cases f:wr q.i with
  | some _=>rw [f] at z;exact Fh z
  | none=>rw [f] at z;exact zcn G TK a z
theorem zdo (G:g.Ok) (TK:ef g) (XO:nM g) (v:FS.head?=some env){b:List gA}{hs:List sH}{os u:List gA}{pos:b9}{q:wv}{Q:Fl->Loc->Hp->Prop}{X:V->Hp->Prop}(F:D1 b hs os u=some q) (a:At g (nn+1) c env m A FS Fz T H s) (h:wpS (bj g<|nn+1) (JO bz c (cE bz n c) q) m H Q X):wpAny g.M A (exec (.Try b hs os u pos) env) (jH g c env FS Fz T Q) E s:=by
 refine pj h λi I h=>pj h λfa J h=>pj h λj L h=>pj h λk O h=>tm h λl h=>?_;obtain ⟨x',f,as,ex,y,z,y',P⟩:=q;unfold JN at l;simp only [fN,beq_iff_eq,bne_iff_ne,ne_eq] at l;obtain ⟨⟨⟨⟨⟨⟨⟨l,rfl⟩,rfl⟩,rfl⟩,U⟩,W⟩,p⟩,Z⟩:=l;cases Zu F with
 | mk p1 p2 p3 p4 p5 p6 p7 p8 p9 pn hb hh ho r=>
  subst hb;subst hh;subst ho;subst r;exact zdl G TK XO I J L O l U p Z v a h
theorem zdp (G:g.Ok) (TK:ef g) (XO:nM g) (y:SS g wO (nn+1) n):SS g wO (nn+1) (n+1):=by
 intro c st env m A FS Fz T H s E Q X a l x h;cases st with
 | Assign Z v pos=>
  refine pj h λt U h=>?_;rw [uO U];exact zdn G TK a h
 | Expr v pos=>
  refine tm h λW h=>?_;obtain ⟨q,f⟩:=nv.mp W;obtain ⟨p,rfl⟩:=Kb f;exact zcm G TK a h
 | If t b o pos=>exact zcl G TK y l a x h
 | For t it b o pos=>
  refine tm h λJ k1=>pj k1 λtg L k2=>tm k2 λj z=>?_;clear h;obtain rfl:=AY J;exact zcI G TK y l L j a z
 | While t b o pos=>
  refine tm h λJ z=>?_;clear h;obtain rfl:=AY J;exact zcJ G TK y l a z
 | Return r pos=>
  cases r with
  | some e=>exact zck G TK a h
  | none=>exact wpAny_Return_none ⟨Fz,T,H,m, .refl _, .rf,a.S,a.I,a.F,cz,ua,h⟩
 | Raise ex ca pos=>
  refine pj h λq f k1=>tm k1 λu z=>?_;clear h k1;obtain ⟨u,e⟩:=jl.mp u;obtain ⟨O,p1,p2,np,P,rfl,rfl⟩:=Zs f;have e:=beq_iff_eq.mp e;rw [e] at u ⊢;exact zc9 G TK XO u a x z
 | Try b hs os fs pos=>
  exact pj h λq f h=>zdo G TK XO l f a h
 | _=>exact Fh h
theorem MQ (G:g.Ok) (TK:ef g) (XO:nM g):∀ n,SS g wO (nn+1) n
 | 0=>zdm
 | n+1=>zdp G TK XO<|MQ G TK XO n
theorem bj.mono {n u:Nat}(j:n<=u){f:Nat}{vs:List V}{H:Hp}{R X:V->Hp->Prop}(h:bj g n f vs H R X):bj g u f vs H R X:=
 λA FS Fz T s l p S I r=>h A FS Fz T s l ⟨p.hd,by have:=p.dp;exact Wd j this,by have:=p.un;exact We j this,p.fr⟩ S I r
theorem zdq (G:g.Ok) (TK:ef g) (XO:nM g){f k jo:Nat}{names:List Str}{dv:List Value}{dm:List V}{sc:iv}{body:List gA}{b:bW}(XF:yR g f k names dv dm sc body) (L:r9 sc names=true) (hb:AL sc body=b){vs:List V}{H:Hp}{R X:V->Hp->Prop}
  (hk:vs.length=k) (h:c7 (bj g<|n+1) jo b (vs++dm) H R X):bj g (n+2) f vs H R X:=by
 intro A FS Fz T s a3 R0 S I r;subst hb;refine Qx (jo:=jo) G XF L R0 S I r hk λenv s1 T1 a L a4 up fr=>?_;refine cW (yP (E:=λe U=>wpAny g.M (A.deeper env) (De env e) (λ_ u=>∃l y,Fz.le l/\aQ g l T y u/\∃v,yB g l T y u e v/\X v y) (λe' u=>∃l y,Fz.le l/\aQ g l T y u/\∃v,yB g l T y u e' v/\X v y) U)
  (MQ G TK XO Qy) rfl a ?_ h) (λfl U p=>?_) λe U p=>p
 .intro F T2 H2 m2 s2 e v O W S2 P Z xr hx;obtain ⟨z,J,hx⟩:=hx;have j:=iz.back W up fr;refine zdd (zjL R0.fr) S2 P xr λs3 I3 a0=>?_;obtain ⟨ea,dx,t,tb,oT,ts,es,k',a1,rfl,e1,e2,e3,rv,f1,f2,ne,t1,a2,t3,f3,n1,n2⟩:=a0;have less:∀ {b},gL F T2 H2 b->gL F T z b:=by
   intro b fb;refine ⟨fb.f,?_,?_⟩
   .cases q:T b with
    | none=>rfl
    | some p=>have:=j _ _ q;rw [fb.t] at this;cases this
   .cases q:z b with
    | none=>rfl
    | some p=>have:=J _ _ q;rw [fb.h] at this;cases this
  exact ⟨F,z,O,(I3.nK j).less J,v,⟨ea,dx,t,tb,oT,ts,es,k',a1,rfl,e1,e2,e3,rv,less f1,less f2,ne,t1,a2,t3,less f3,n1,n2⟩,hx⟩
 .obtain ⟨F,T2,H2,m2,O,W,S2,P,Z,q⟩:=p;have j:=iz.back W up fr;cases fl with
  | next=>
   obtain ⟨z,J,q⟩:=q;exact ⟨F,z,O,(P.nK j).less J,cz,ua,q⟩
  | ret x=>
   obtain ⟨v,rv,z,J,q⟩:=q;exact ⟨F,z,O,(P.nK j).less J,v,rv,q⟩
  | _=>exact q.elim
end
noncomputable def zdr:RK:={name:= "",qualname:= "",params:={posonlyargs:=[],args:=[],vararg:=none,kwonlyargs:=[],kw_defaults:=[],kwarg:=none,defaults:=[]},body:= .stmts [],scope:={kind:= .module,names:=[],isGenerator:=false,isCoroutine:=false},globals:=0,closure:=[],defaults:=bO,kwdefaults:=bO}
def fdOf (K:iG) (f:Nat):RK:=match K.lookup f with
 | some ⟨_,_, .func j,_⟩=>j
 | _=>zdr
def tE (K:iG) (f:Nat):List gA:=match (fdOf K f).body with
 | .stmts b=>b
 | _=>[]
def pv (K:iG) (f:Nat):iv:=(fdOf K f).scope
def uZ (K:iG) (f:Nat):Bool:=(match K.lookup f with
 | some ⟨_,_, .func j,_⟩=>true
 | _=>false) && (fdOf K f).closure.isEmpty && (fdOf K f).globals==eP && (fdOf K f).builtins==Hq && codeIn K (fdOf K f).code (fdOf K f).qualname &&
 (match (fdOf K f).body with | .stmts b=>true | _=>false)
structure zds (K:iG) (f:Nat) (names:List Str) (b:bW):Prop where
 yi:uZ K f=true
 sc:r9 (pv K f) names=true
 bo:AL (pv K f) (tE K f)=b
set_option tactic.hygienic true in
theorem zkn {g:Gd}{f k:Nat}{names:List Str}{b:bW}{dv:List Value}{dm:List V}(F:zds g.K f names b) (v:bK g.h₀.get? dv dm) (y:names.length=k+dv.length)
  (z:∀ s j,g.K.In s.heap->j.length=k->BindsTo s (fdOf g.K f) ⟨j,[]⟩ (names.zip<|j++dv)):yR g f k names dv dm (pv g.K f) (tE g.K f):=by
 have h:=F.yi;unfold uZ at h;simp only [fN,beq_iff_eq,HP] at h;obtain ⟨⟨⟨⟨⟨p,I⟩,J⟩,L⟩,O⟩,l⟩:=h;split at p
 .rename_i U od r W u;have e:fdOf g.K f=r:=by unfold fdOf;rw [u]
  refine ⟨_,r,u,rfl,by unfold pv;rw [e],?_,?_,?_,?_,?_,v,y,by rw [<-e];exact z⟩
  .unfold tE;rw [e] at l ⊢;split at l
   .rename_i b P;rw [P]
   .cases l
  .rw [<-e];exact I
  .rw [<-e];exact J
  .rw [<-e];exact L
  .rw [<-e];exact O
 .cases p
noncomputable def BD (st:pV->Di->Option (pV×Di)) (f:Di->Bool):Nat->pV->Di->Option pV
 | 0,_,_=>none
 | n+1,s,t=>match through t with
  | true=>some s
  | false=>match f t with
   | false=>none
   | true=>match st s t with
    | some (j,l)=>BD st f n j l
    | none=>none
theorem MR {v:String->Option Builtin}{p:nt}{w:j8}{f:Nat}{j:Option Value}:∀ (n:Nat) (s:pV) (t:Di){r:pV},BD (stepT (denote v) p w) (stepOk f j) n s t=some r->Dj v p w f j n s.abs t=some r.abs
 | 0,_,_,_,h=>by cases h
 | n+1,s,t,r,h=>by
  unfold BD at h;unfold Dj;cases y:through t with
  | true=>rw [y] at h;cases h;rfl
  | false=>
   rw [y] at h;cases z:stepOk f j t with
   | false=>rw [z] at h;cases h
   | true=>
    rw [z] at h;cases hs:stepT (denote v) p w s t with
    | none=>rw [hs] at h;cases h
    | some q=>obtain ⟨l,u⟩:=q;rw [hs] at h;rw [stepT_spec hs];exact MR n l u h
noncomputable abbrev lw:OpenLaw:=PySem.Challenge.rw_pc0139_01
noncomputable abbrev pw:nt:=PySem.Challenge.pw_pc0139_01
noncomputable def MS:Nat->List d9->BT->BT
 | _,[],t=>t
 | i,o::r,t=>MS (i+1) r<|t.ins i o
def s0 (w:j8) (os:vP):pV:=
 ⟨MS 0 [boot_o_0 w.params,boot_o_1 w.params,boot_o_2 w.params,boot_o_3 w.params,boot_o_4 w.params,boot_o_5 w.params,boot_o_6 w.params,boot_o_7 w.params,boot_o_8 w.params,boot_o_9 w.params,boot_o_10 w.params] .nil,11,(wf w.params).life,#[],RS,RT,os⟩
theorem zdt (w:j8) (os:vP):(s0 w os).abs=⟨wf w.params,#[],RS,RT,os⟩:=by kernel_rfl
def BE (w:j8) (os:vP):Option pV:=
 BD (zkN (zkO zkP) pw w) (zkQ 11<|some<|aL 6) 4000 (s0 w os) (HW pw)
theorem zdu {w:j8}{os:vP}{r:pV}(h:BE w os=some r):Dj Dk pw w 11 (some<|aL 6) 4000 ⟨wf w.params,#[],RS,RT,os⟩ (HW pw)=some r.abs:=by
 unfold BE at h;rw [<-zkR,<-zkS,<-zkT,<-zkU] at h;rw [<-zdt];exact MR _ _ _ h
def vw:nt:=view pw [0,2,4,6,7,8,10,11,12,13,14,15,16,17,18,19,20,21,22,23,24,25,26,27,28,29,30,31,33,34,35,36,37,38,39,40,41,42,43,44,47,48,49,50,51,52,53,54,57,58,59,60,61,62,63,64,65,66]
noncomputable def loose:List Str:=[bv "decimal",bv "LedgerError",bv "edited",bv "number_of_edited"]
def Xt (s:aR):Bool:=xlAt vw [] s && recOk (RowW.records lw.row.toRowW) s
theorem zdv:lw.wellSaid=true:=by
 rw [zkV];kernel_rfl
theorem okL:(chainsOk vw && opensWell pw && (frees lw.row.toRowW && lw.row.within.isEmpty))=true:=by decide+kernel
theorem zdw:pw.bare:=⟨rfl,rfl,rfl,rfl,rfl,by decide+kernel⟩
theorem zdx:lw.row.toRowW.promised:=⟨[.list []],by decide+kernel,by decide+kernel⟩
end
section
open PySem PySem.W PyProof.Rows PySem.Calls
set_option backward.match.sparseCases false
noncomputable def zdy (x:Value):Option {q:Int×i7 // x=eD q.1 q.2}:=match x with
 | eD i t=>some ⟨(i,t),rfl⟩
 | _=>none
noncomputable def MT (x:Value):Option {q:Str×i7 // x= .str q.1 q.2}:=match x with
 | .str i t=>some ⟨(i,t),rfl⟩
 | _=>none
noncomputable def zdz (x:Value):Option {a:bn // x=aL a}:=match x with
 | .ref a=>some ⟨a,rfl⟩
 | _=>none
noncomputable def MU (d:Data):Option {q:Array Value×Nat // d=pK q.1 q.2}:=match d with
 | pK i t=>some ⟨(i,t),rfl⟩
 | _=>none
noncomputable def yT {f:Type}(o:Option f) (k:f->Bool) (r:Bool):Bool:=match o with
 | some a=>k a
 | none=>r
theorem BF {f:Type}{o:Option f}{k:f->Bool}{r:Bool}(h:yT o k r=true):(∃a,o=some a/\k a=true)\/r=true:=by
 cases o with
 | none=>exact aX h
 | some a=>exact ba ⟨a,rfl,h⟩
def strOk (x:Value) (v:V):Bool:=match MT x with
 | some q=>vStr v==some q.1.1.cps.toList
 | none=>false
theorem MV {F:AO}{x:Value}{v:V}(h:strOk x v=true):VR F x v:=by
 unfold strOk at h;cases q:MT x with
 | none=>rw [q] at h;cases h
 | some z=>
  rw [q] at h;obtain ⟨⟨i,t⟩,hz⟩:=z;have f:v= .str i.cps.toList:=AV<|beq_iff_eq.mp h;rw [f,hz];exact .str _ _
noncomputable def strsOk:List Value->List V->Bool
 | [],vs=>D4 vs
 | x::xs,vs=>(match vs with
  | []=>false
  | v::vs=>strOk x v && strsOk xs vs)
theorem zdA {F:AO}(xs:List Value):∀ (vs:List V),strsOk xs vs=true->bK F xs vs:=by
 induction xs with
 | nil=>intro vs h;rw [Li h];exact ct
 | cons x xs f=>
  intro vs h;cases vs with
  | nil=>cases h
  | cons v vs=>
   have h:(strOk x v && strsOk xs vs)=true:=h;rw [fN] at h;exact i4 (MV h.1)<|f vs h.2
def Fi (o:d9) (vs:List V):Bool:=match MU o.data with
 | some q=>o.cls==cq "tuple" && o.dict==none && o.slots.isEmpty && strsOk q.1.1.toList vs
 | none=>false
theorem zdB {F:AO}{o:d9}{vs:List V}(h:Fi o vs=true):∃xs n,o=pp xs n/\bK F xs.toList vs:=by
 unfold Fi at h;cases q:MU o.data with
 | none=>rw [q] at h;cases h
 | some z=>
  rw [q] at h;simp only [fN,beq_iff_eq,Array.isEmpty_iff] at h;obtain ⟨⟨⟨f,j⟩,l⟩,r⟩:=h;obtain ⟨⟨xs,n⟩,p⟩:=z;refine ⟨xs,n,?_,zdA _ _ r⟩;clear q;obtain ⟨c,d,u,v⟩:=o;dsimp only at f j l p;rw [f,j,l,p]
def MW (K:iG) (x:Value) (v:V):Bool:=yT (zdy x) (λq=>vInt v==some q.1.1)<|yT (zdz x) (λa=>yT (K.lookup a.1) (λo=>yT (rM v) (λvs=>Fi o vs) false) false)<|strOk x v
theorem zdC {K:iG}{h:eY}(X:K.In h){x:Value}{v:V}(e:MW K x v=true):VR h.get? x v:=by
 rcases BF e with ⟨⟨q,f⟩,_,e⟩ | e
 .have j:v=aw q.1:=AU<|beq_iff_eq.mp e;rw [j,f];exact jk _ _
 rcases BF e with ⟨⟨a,l⟩,_,e⟩ | e
 .rcases BF e with ⟨o,p,e⟩ | e
  .rcases BF e with ⟨vs,u,e⟩ | e
   .obtain ⟨xs,n,rfl,r⟩:=zdB (F:=h.get?) e;rw [wz u,l];exact .tup a xs.toList n vs (X _ _ p) r
   .cases e
  .cases e
 .exact MV e
def qS (K:iG) (C:Nat):Bool:=
 (jR K (aL C) "__getattribute__" ==some (some (dO "object.__getattribute__"))) && (jR K (aL C) "__getattr__" ==some none) && (jR K (aL C) "__setattr__" ==some (some (dO "object.__setattr__"))) &&
 plainOver K C && (sT K C).any (·.hasDict) && (j7 34).all (λx=>!attrOk C x || (jR K (aL C) (attrName x)==some none)) && makesIn K C && vV K (aL C) &&
 (match yq C with
  | some f=>(jR K (aL C) "__init__" ==some (some (aL f))) && (zU K (aL f)==some (cq "function"))
  | none=>true)
theorem BG {K:iG}{C:Nat}(h:qS K C=true):Lx K C:=by
 unfold qS at h;simp only [fN,beq_iff_eq,mM,xZ,zK,zN] at h;obtain ⟨⟨⟨⟨⟨⟨⟨⟨p,r⟩,u⟩,v⟩,y⟩,z⟩,F⟩,I⟩,j⟩:=h;refine ⟨p,r,u,v,y,λx l=>?_,F,I,λf J=>?_⟩
 .rcases z x (EG l).1 with q | q
  .rw [l] at q;cases q
  .exact q
 .rw [J] at j;simp only [fN,beq_iff_eq] at j;exact j
def Fj (K:iG):Bool:=JR.all λp=>(p.1==125 || p.1==153 || p.1==310 || p.1==423) && (jR K (aL p.1) (qO p.2.1)==some (some (aL p.2.2))) && (zU K (aL p.2.2)==some (cq "function")) && vV K (aL p.2.2)
def MX (K:iG):Bool:=bz.fns.all λp=>(gJ K eP p.1==some (some<|aL p.2)) && vV K (aL p.2)
def MY (K:iG):Bool:=bz.wp.all λp=>(gJ K eP p.1==some (some<|aL p.2)) && (p.2==125 || p.2==153 || p.2==310 || p.2==423)
def MZ (K:iG):Bool:=bz.wq.all λp=>match gJ K eP p.1 with
 | some (some f)=>MW K f p.2
 | _=>false
def M0 (K:iG):Bool:=bz.sX.all λp=>(gJ K eP p.1==some none) && (xL p.1==some (Ba p.2)) && (p.1 !=("__name__" :Str))
set_option tactic.hygienic true in
theorem zdD {g:Gd}(X:g.K.In g.h₀) (y:qS g.K 125=true) (F:qS g.K 153=true) (I:qS g.K 310=true) (J:qS g.K 423=true) (m:Fj g.K=true) (f:MX g.K=true) (L:MY g.K=true) (O:MZ g.K=true) (b:M0 g.K=true)
  (r:gJ g.K eP "range" =some none) (z:gJ g.K eP "zip" =some none) (e:gJ g.K eP "enumerate" =some none):ef g where
 cls:=λC h=>by
  simp only [zK,beq_iff_eq] at h;rcases h with ((rfl | rfl) | rfl) | rfl
  .exact BG y
  .exact BG F
  .exact BG I
  .exact BG J
 yl:=λC i f h=>by
  unfold gf at h;obtain ⟨⟨C',W,l⟩,p,rfl⟩:=kT.mp h;have P:=List.mem_of_find?_eq_some p;have u:=List.find?_some p;simp only [fN,beq_iff_eq] at u;obtain ⟨rfl,rfl⟩:=u;unfold Fj at m;have:=mM.mp m _ P;simp only [fN,beq_iff_eq] at this;exact ⟨this.1.1.1,this.1.1.2,this.1.2,this.2⟩
 fns:=λx l h=>by
  have:=mM.mp f _<|mem_of_lookup h;simp only [fN,beq_iff_eq] at this;exact this
 wp:=λx l h=>by
  have:=mM.mp L _<|mem_of_lookup h;rw [fN,beq_iff_eq] at this;exact this
 wq:=λx v h=>by
  have:=mM.mp O _<|mem_of_lookup h;dsimp only at this;split at this
  .rename_i j U;exact ⟨j,U,zdC X this⟩
  .cases this
 sX:=λx Z h=>by
  have:=mM.mp b _<|mem_of_lookup h;simp only [fN,beq_iff_eq,bne_iff_ne,ne_eq] at this;exact ⟨this.1.1,this.1.2,this.2⟩
 Ly:=r
 zip:=z
 Lz:=e
structure wQ where
 f:Nat
 k:Nat
 jo:Nat
 names:List Str
 b:bW
 dv:List Value
 dm:List V
def rows:List wQ:=[
 ⟨28,2,2,["top", "bottom"],Kh,[],[]⟩,
 ⟨36,2,2,["units", "scale"],A0,[],[]⟩,
 ⟨36,1,2,["units", "scale"],A0,[eD 0 204],[aw 0]⟩,
 ⟨43,3,5,["a", "scale", "is_rounded"],Ki,[],[]⟩,
 ⟨164,2,2,["text", "at"],Kj,[],[]⟩,
 ⟨169,2,4,["text", "at"],Kk,[],[]⟩,
 ⟨176,1,6,["text"],Kl,[],[]⟩,
 ⟨183,1,3,["signs"],Km,[],[]⟩,
 ⟨188,1,1,["symbols"],Kn,[],[]⟩,
 ⟨319,2,8,["text", "signs"],Ko,[],[]⟩,
 ⟨336,1,3,["text"],Kp,[],[]⟩,
 ⟨343,1,4,["picture"],Kq,[],[]⟩,
 ⟨350,1,2,["signs"],Kr,[],[]⟩,
 ⟨357,1,5,["signs"],Ks,[],[]⟩,
 ⟨364,1,1,["role"],Kt,[],[]⟩,
 ⟨371,2,4,["picture", "number"],Ei,[],[]⟩,
 ⟨378,2,2,["sign", "is_negative"],Ku,[],[]⟩,
 ⟨385,1,1,["sign"],Kv,[],[]⟩,
 ⟨432,3,3,["picture", "signs", "roles"],Kx,[],[]⟩,
 ⟨439,3,10,["picture", "number", "is_blank_zero"],A1,[],[]⟩,
 ⟨445,3,3,["picture", "number", "is_blank_zero"],Ej,[],[]⟩,
 ⟨445,2,3,["picture", "number", "is_blank_zero"],Ej,[jt false],[aZ false]⟩,
 ⟨452,1,6,["picture"],Ky,[],[]⟩,
 ⟨459,1,1,["code"],Kz,[],[]⟩,
 ⟨466,2,6,["rows", "octets"],KA,[],[]⟩,
 ⟨471,4,4,["role", "sign", "octets", "at"],KB,[],[]⟩,
 ⟨476,2,6,["rows", "octets"],KC,[],[]⟩,
 ⟨483,2,3,["one", "other"],KD,[],[]⟩,
 ⟨491,3,7,["picture", "octets", "is_blank_zero"],Ek,[],[]⟩,
 ⟨499,2,4,["pen", "many"],A3,[],[]⟩,
 ⟨506,2,5,["pen", "signs"],KF,[],[]⟩,
 ⟨513,2,15,["pen", "most"],l8,[],[]⟩,
 ⟨518,3,12,["signs", "units", "scale"],El,[],[]⟩,
 ⟨523,3,18,["signs", "units", "digits"],nG,[],[]⟩,
 ⟨530,3,6,["picture", "octets", "is_blank_zero"],KG,[],[]⟩,
 ⟨535,3,7,["signs", "digits", "behind"],KH,[],[]⟩,
 ⟨540,1,19,["script"],kg,[],[]⟩,
 ⟨209,1,1,["self"],KJ,[],[]⟩,
 ⟨216,3,3,["self", "count", "is_loose"],KL,[],[]⟩,
 ⟨223,2,2,["self", "one"],KM,[],[]⟩,
 ⟨230,2,2,["self", "one"],KN,[],[]⟩,
 ⟨237,2,2,["self", "one"],Em,[],[]⟩,
 ⟨244,2,2,["self", "one"],KO,[],[]⟩,
 ⟨251,2,2,["self", "one"],KP,[],[]⟩,
 ⟨258,3,3,["self", "one", "count"],KQ,[],[]⟩,
 ⟨265,1,1,["self"],KR,[],[]⟩,
 ⟨272,2,2,["self", "one"],KS,[],[]⟩,
 ⟨279,2,2,["self", "one"],KT,[],[]⟩,
 ⟨286,2,2,["self", "one"],KU,[],[]⟩,
 ⟨293,2,3,["self", "one"],En,[],[]⟩,
 ⟨300,1,1,["self"],KV,[],[]⟩,
 ⟨307,1,1,["self"],KW,[],[]⟩,
 ⟨406,1,1,["self"],KX,[],[]⟩,
 ⟨413,2,3,["self", "role"],KY,[],[]⟩,
 ⟨420,3,3,["self", "role", "sign"],KZ,[],[]⟩,
 ⟨110,8,8,["self", "text", "symbols", "category", "digits", "scale", "is_signed", "size"],K2,[],[]⟩,
 ⟨143,4,4,["self", "sign", "count", "at"],K3,[],[]⟩,
 ⟨202,1,1,["self"],K4,[],[]⟩,
 ⟨399,4,4,["self", "figures", "is_negative", "fill"],K5,[],[]⟩]
noncomputable def tF (k:Nat) (v:Nat->Value):List Value:=(j7 k).map v
def Fk (K:iG) (r:wQ):Bool×bW×((Nat->Value)->HX->Option (List<|Str×Value)):=
 (uZ K r.f && r9 (pv K r.f) r.names,AL (pv K r.f)<|tE K r.f,λv S=>peek K S<|RU (fdOf K r.f) ⟨tF r.k v,[]⟩)
def Fm (r:wQ):Bool×bW×((Nat->Value)->HX->Option (List<|Str×Value)):=
 (true,r.b,λv S=>some<|r.names.zip<|tF r.k v++r.dv)
noncomputable def nN (l c e:Nat):b9:={line:=l,col:=c,endLine:=l,endCol:=e}
def zdE:List gA:=[.Expr (iX (j2 (cH "Exception" (nN 28 8 17)) "__init__" (nN 28 8 26)) [cH "self" (nN 28 27 31),cH "what" (nN 28 33 37)] [] (nN 28 8 38)) (nN 28 8 38),
  j3 [j2 (cH "self" (nN 29 8 12)) "what" (nN 29 8 17)] (cH "what" (nN 29 20 24)) (nN 29 8 24),
  j3 [j2 (cH "self" (nN 30 8 12)) "at" (nN 30 8 15)] (cH "at" (nN 30 18 20)) (nN 30 8 20)]
noncomputable def Fn:List Str:=["self", "what", "at"]
def Fo (K:iG):Bool:=qS K 125 && qS K 153 && qS K 310 && qS K 423 && Fj K && MX K && MY K && MZ K && M0 K
def M3:d9:=ur "RunFault" "RunFault" 94 93 [aL 69] (lv 69) true [] [] false none none (some (aL 85)) none (some (.str "RunFault" 282)) (some (.str "RunFault" 290)) (some (jt true)) "Exception.__new__"
noncomputable def wR (K:iG):=(K.lookup 94,[jR K (aL 94) "__getattribute__",jR K (aL 94) "__getattr__",jR K (aL 94) "__setattr__",jR K (aL 94) "__init__",jR K (aL 94) "at",specialIn K (aL 94) "__call__"],zU K (aL 59),[vX K 94 "what",vX K 94 "at"],
 instIn K (aL 94) (cq "type"),vV K (aL 94),Ae K 94 (cq "BaseException"),Ae K 94 (aL 94),[gJ K eP "RunFault",gJ K eP "Exception",gJ K eP "range",gJ K eP "zip",gJ K eP "enumerate",gJ K eP "law"])
def u5:type_of% (wR []):=(some M3,[some (some (dO "BaseException.__getattribute__")),some none,some (some (dO "object.__setattr__")),some (some (aL 59)),some none,some (some (dO "type.__call__"))],some (cq "function"),[some none,some none],
 some true,true,some true,some true,[some (some (aL 94)),some none,some none,some none,some none,some (some (aL 540))])
def BH (K:iG):=(uZ K 59 && r9 (pv K 59) Fn && jT (nC (pv K 59)) "Exception",tE K 59,λ(v:Nat->Value) (S:HX)=>peek K S (RU (fdOf K 59) ⟨tF 3 v,[]⟩))
def Fp:type_of% (BH []):=(true,zdE,λv S=>some<|Fn.zip<|tF 3 v++[])
def oB (K:iG):=(rows.map<|Fk K,Fo K,wR K,BH K)
def pz:type_of% (oB []):=(rows.map Fm,true,u5,Fp)
noncomputable def Fq (s:pV) (a:Nat):Option d9:=match Nat.blt a s.n with
 | true=>(s.tree.get a).bind alive
 | false=>none
set_option tactic.hygienic true in
theorem zdF {s:pV}{a:Nat}{o:d9}(h:Fq s a=some o):s.abs.heap.get? a=some o:=by
 unfold Fq at h;split at h
 .rename_i q;obtain ⟨x,f,j⟩:=kI.mp h;exact (abs_get (bC q) f).trans j
 .cases h
noncomputable def yU (s:pV):List Nat->iG
 | []=>[]
 | a::r=>match Fq s a with
  | some o=>(a,o)::yU s r
  | none=>yU s r
set_option tactic.hygienic true in
theorem Fs (s:pV):∀ as,(yU s as).In s.abs.heap
 | [],a,o,h=>by cases h
 | b::r,a,o,h=>by
  unfold yU at h;split at h
  .rename_i f q;rw [j9] at h;split at h
   .rename_i e;rw [beq_iff_eq.mp e];cases h;exact zdF q
   .exact Fs s r a o h
  .exact Fs s r a o h
noncomputable def addrs:List Nat:=(j7 541).filter λi=>Nat.testBit 5805411458634098391913308538891398291521705185066140345876684528664147761284385262115322169989143992160763228705446910102324629055376379727898847968094399032098828 i
theorem zdG:∀ w os,(BE w os).map (λs=>oB<|yU s addrs)=some pz:=λw os=>by kernel_rfl
end
section
open PySem PySem.W PyProof.Rows PySem.Calls
def zdH (w:j8) (s:aR):=
 (RV (Dl pw.main.body) (wf w.params) s.heap && RW pw s.heap && RX s && RY (wf w.params) s.heap,
  zkW vw loose (Dl pw.main.body) Xt true s)
theorem zdI:∀ w os,(BE w os).map (λs=>zdH w s.abs)=some (true,openGood vw loose):=λw os=>by kernel_rfl
abbrev LR:RowW:=lw.row.toRowW
def Yf (s:aR):Prop:=∃K:iG,oB K=pz/\K.In s.heap
theorem zdJ:opening pw=plainProg pw.main.scope.names:=by kernel_rfl
theorem zdK:∀ s,fenceModules? pw s=some s:=λs=>by kernel_rfl
theorem zdL (w:j8):((wf w.params).isNs eP && (#[]:Array HS).size==0,(wf w.params).objs.size,(wf w.params).nsMap eP "__annotations__")=(true,11,some (aL 6)):=by kernel_rfl
theorem zdM {p:nt}{w:j8}{N n:Nat}{a:Option Value}{f j:aR}(u:(f.heap.isNs eP && f.gens.size==0)=true) (v:f.heap.objs.size=n) (y:f.heap.nsMap eP "__annotations__" =a)
  (r:Dj Dk p w n a N f (HW p)=some j) (l:(RV (Dl p.main.body) f.heap j.heap && RW p j.heap && RX j && RY f.heap j.heap)=true):topFrom Dk p w N f=some j:=by
 unfold topFrom;rw [u,v,y,r];dsimp only [ul];rw [l]
theorem zdN {p q:nt}{loose:List Str}{Xt:aR->Bool}{y:Type}{Yf:aR->y}{Ya:j8->y}{N n:Nat}{a:Option Value}{f:nr->eY}{j:Drawn}{l:Nat}
  (u:∀ w:j8,(fencedOpening Dk p w N).map (λs=>(s.heap,s.gens,s.drawn,s.toks))=some (f w.params,#[],j,l))
  (v:∀ w:j8,((f w.params).isNs eP && (#[]:Array HS).size==0,(f w.params).objs.size,(f w.params).nsMap eP "__annotations__")=(true,n,a))
  (run:∀ (w:j8) (os:vP),∃r:aR,Dj Dk p w n a N ⟨f w.params,#[],j,l,os⟩ (HW p)=some r/\
   (RV (Dl p.main.body) (f w.params) r.heap && RW p r.heap && RX r && RY (f w.params) r.heap)=true/\openSeen q loose (Dl p.main.body) Xt true r=openGood q loose/\Yf r=Ya w):LeftO p q loose Xt Yf Ya N:=λw=>by
 obtain ⟨⟨h,gs,d,k,os⟩,e,z⟩:=kT.mp<|u w;obtain ⟨rfl,rfl,rfl,rfl⟩:h=f w.params/\gs=#[]/\d=j/\k=l:=by simpa using z
 obtain ⟨F,I,J⟩:_/\_/\_:=by simpa only [zjP] using v w
 refine nF (run w os) λr L O P U=>?_;unfold openEnds;rw [e,ul,zdM F I J L O,RH];exact congrArg some<|Prod.ext P U
theorem zdO:LeftO pw vw loose Xt Yf (λ_=>True) 4000:=by
 refine zdN (boot_open zdJ (by decide) zdK) zdL λw os=>?_;refine oq ((zdI w os)) λr j p=>?_;refine oq ((zdG w os)) λy f u=>?_;rw [j] at f;obtain rfl:=kH f;obtain ⟨v,l⟩:=RA p;rw [<-zkX] at l;exact ⟨r.abs,zdu j,v,l,eq_true ⟨_,u,Fs r addrs⟩⟩
theorem zdP:∃d f,Af vw lw.name=some (d,f)/\lw.row.prog.theDef lw.name=some (d.params,d.body,d.scope)/\kwWritten? d.params.kwonlyargs d.params.kw_defaults=some f/\d.name=bv "law" :=by
 have r:(Af vw lw.name).isSome=true:=by kernel_rfl
 obtain ⟨⟨d,f⟩,h⟩:=nv.mp r;have j:lw.row.prog.theDef lw.name=(Af vw lw.name).map λx=>(x.1.params,x.1.body,x.1.scope):=by kernel_rfl
 have l:((Af vw lw.name).bind λx=>kwWritten? x.1.params.kwonlyargs x.1.params.kw_defaults)=(Af vw lw.name).map (·.2):=by kernel_rfl
 have p:(Af vw lw.name).map (λx=>x.1.name)=some (bv "law"):=by kernel_rfl
 rw [h] at j l p;exact ⟨d,f,h,j,l,kH p⟩
theorem hdN (call:∀ d j,d.name=bv "law" ->WalkO vw loose (XL vw []) (λ_ h=>∃K:iG,oB K=pz/\K.In h) LR d j λf vs=>PySem.call f vs):PySem.Challenge.rw_pc0139_01.Holds:=by
 refine Zb zdP λd j l p u v=>?_;refine holds_law zdv λy=>?_;exact holds_open (r:=lw.row) (q:=vw) (loose:=loose) (Xt:=Xt) (XP:=XL vw []) (Yf:=Yf) (Ya:=λ_=>True) (YP:=λ_ h=>∃K:iG,oB K=pz/\K.In h) (N:=4000) zdO
  (λw s e=>of_eq_true e) (λw h h' ⟨K,a,b⟩ k=>⟨K,a,b.keeps k⟩) (λs e=>xl_of s (jl.mp e).1) XL.keeps l p u
  (λs e=>recFacts_of (jl.mp e).2) rfl y okL zdw zdx (call d j v)
structure GF (g:Gd):Prop where
 e:oB g.K=pz
theorem zdQ {K:iG}(e:oB K=pz){r:wQ}(h:r∈rows):Fk K r=Fm r:=by
 have f:rows.map (Fk K)=rows.map Fm:=congrArg RZ e;exact List.map_inj_left.mp f r h
theorem zdR {k:Nat}{f:List Value}(h:f.length=k):tF k (λi=>f.getD i bO)=f:=by
 subst h;unfold tF;refine List.ext_getElem (by simp) λi l j=>?_;simp [List.getElem_map,zjq,List.getD,j]
set_option tactic.hygienic true in
theorem M4 {g:Gd}{f k:Nat}{names:List Str}{dv:List Value}{dm:List V}(y:uZ g.K f=true)
  (z:(λv S=>peek g.K S<|RU (fdOf g.K f) ⟨tF k v,[]⟩)=λ(v:Nat->Value) (S:HX)=>some<|names.zip<|tF k v++dv)
  (F:bK g.h₀.get? dv dm) (I:names.length=k+dv.length):yR g f k names dv dm (pv g.K f) (tE g.K f):=by
 have h:=y;unfold uZ at h;simp only [fN,beq_iff_eq,HP] at h;obtain ⟨⟨⟨⟨⟨p,J⟩,L⟩,O⟩,P⟩,l⟩:=h;have U:∀ s j,g.K.In s.heap->j.length=k->BindsTo s (fdOf g.K f) ⟨j,[]⟩ (names.zip<|j++dv):=λs j X W=>by
  refine kp_binds X λS=>?_;have:=congrFun (congrFun z λi=>j.getD i bO) S;rw [zdR W] at this;exact this
 split at p
 .rename_i oc od r sl u;have e:fdOf g.K f=r:=by unfold fdOf;rw [u]
  refine ⟨_,r,u,rfl,by unfold pv;rw [e],?_,?_,?_,?_,?_,F,I,by rw [<-e];exact U⟩
  .unfold tE;rw [e] at l ⊢;split at l
   .rename_i b Z;rw [Z]
   .cases l
  .rw [<-e];exact J
  .rw [<-e];exact L
  .rw [<-e];exact O
  .rw [<-e];exact P
 .cases p
theorem zdS {g:Gd}(G:g.Ok) (TK:ef g) (XO:nM g) (e:oB g.K=pz){n jo:Nat}(r:wQ) (p:r∈rows) (u:r.names.length=r.k+r.dv.length) (v:bK g.h₀.get? r.dv r.dm){vs:List V}{H:Hp}{R X:V->Hp->Prop}(y:vs.length=r.k)
  (h:c7 (bj g<|n+1) jo r.b (vs++r.dm) H R X):bj g (n+2) r.f vs H R X:=by
 have j:=zdQ e p;have l:(uZ g.K r.f && r9 (pv g.K r.f) r.names)=true:=congrArg RZ j;have z:AL (pv g.K r.f) (tE g.K r.f)=r.b:=congrArg (λx=>x.2.1) j;have F:=congrArg (λx=>x.2.2) j;rw [fN] at l;exact zdq G TK XO (M4 l.1 F v u) l.2 z y h
theorem zdT {g:Gd}(G:g.Ok) (e:oB g.K=pz):ef g:=by
 have t:Fo g.K=true:=congrArg (λx=>x.2.1) e;have x:wR g.K=u5:=congrArg (λx=>x.2.2.1) e;unfold Fo at t;simp only [fN] at t;obtain ⟨⟨⟨⟨⟨⟨⟨⟨j,l⟩,p⟩,r⟩,m⟩,f⟩,u⟩,v⟩,b⟩:=t;have z:[gJ g.K eP "RunFault",gJ g.K eP "Exception",gJ g.K eP "range",gJ g.K eP "zip",gJ g.K eP "enumerate",gJ g.K eP "law"]=_:=congrArg (λx=>x.2.2.2.2.2.2.2.2) x;simp only [u5,Hv,and_true] at z;exact zdD G.K j l p r m f u v b z.2.2.1 z.2.2.2.1 z.2.2.2.2.1
theorem zdU {g:Gd}(e:oB g.K=pz):nM g:=by
 have x:wR g.K=u5:=congrArg (λx=>x.2.2.1) e;have y:BH g.K=Fp:=congrArg (λx=>x.2.2.2) e;simp only [wR,u5,BH,Fp,zjP,Hv,and_true,fN] at x y;obtain ⟨I,⟨J,L,O,P,U,W⟩,Z,⟨x9,j⟩,l,p,r,u,v,z,_⟩:=x;obtain ⟨⟨⟨y1,y2⟩,y3⟩,y4,y5⟩:=y;have F:=M4 (g:=g) (f:=59) (k:=3) (names:=Fn) (dv:=[]) (dm:=[]) y1 y5 ct rfl;rw [y4] at F;have c:uY g.K 94 69 59:=⟨⟨"RunFault", "RunFault",93,[aL 69],[],[],false,none,none,some (aL 85),none,some (.str "RunFault" 282),some (.str "RunFault" 290),some (jt true),I⟩,J,L,O,P,Z,x9,j,U,l,W⟩;exact ⟨c,p,r,u,v,z,⟨_,_,_,_,_,_,_,_,_,_,_,_,_,_,_,F,y2,y3,rfl⟩⟩
theorem zdV {args:List Dm}(h:LR.claim.pre args=true):∃f:List Int,args=[.list<|f.map .int]/\f.length<=63:=by
 obtain ⟨l,p⟩:=pre_splitW h;obtain ⟨d,r,rfl,u,v⟩:=hasAllW_cons (show WShape.hasAll LR.records args (.list .int::[])=true from l);obtain rfl:=hasAllW_nil v;obtain ⟨xs,rfl,y⟩:=hasW_list u;obtain ⟨f,rfl⟩:=items_int y;refine ⟨f,rfl,?_⟩;have j:HY LR.records (.and (.not<|.lt (.lit<|.int (63:Nat))<|.len<|.arg 0)<|.lit<|.bool true) {args:=[.list<|f.map .int]}=true:=p;simp [HY,WTm.value,less?] at j
 have e:Num.less? (Dm.int 63) (Dm.int ↑f.length)=some (decide ((63:Int)<f.length)):=rfl;rw [e] at j;by_cases q:(63:Int)<f.length
 .rw [decide_eq_true q] at j;cases j
 .exact VC q
def zdW (P:nr) (h:eY) (v:Value) (d:Dm):Prop:=match d with
 | .int i=>∃t,v=eD i t
 | .list xs=>∃a vs,v=aL a/\h.get? a=some (iS vs.toArray 0)/\Dn P h vs xs
 | _=>True
theorem M5 {P:nr}{h:eY}{v:Value}{d:Dm}(w:Well P h v d):zdW P h v d:=by
 cases w with
 | int i t=>exact ⟨t,rfl⟩
 | list f j=>exact ⟨_,_,rfl,f,j⟩
 | _=>exact trivial
def zdX (P:nr) (h:eY) (vs:List Value) (f:List Dm):Prop:=match f with
 | []=>vs=[]
 | d::f=>∃v r,vs=v::r/\Well P h v d/\Dn P h r f
theorem BI {P:nr}{h:eY}{vs:List Value}{f:List Dm}(w:Dn P h vs f):zdX P h vs f:=by
 cases w with
 | nil=>exact rfl
 | cons a b=>exact ⟨_,_,rfl,a,b⟩
theorem zdY {P:nr}{h:eY}{f:List Int}{vs:List Value}(j:Dn P h vs (f.map .int)):bK h.get? vs (f.map aw):=by
 induction f generalizing vs with
 | nil=>obtain rfl:=BI j;exact ct
 | cons i f l=>
  obtain ⟨v,r,rfl,w,p⟩:=BI j;obtain ⟨t,rfl⟩:=M5 w;exact i4 (jk _ _)<|l p
theorem zdZ {P:nr}{h:eY}{f:List Value}{p:List Int}(W:Dn P h f [.list<|p.map .int]):∃l xs,f=[aL l]/\h.get? l=some (iS xs 0)/\bK h.get? xs.toList (p.map aw):=by
 obtain ⟨v,r,rfl,w,j⟩:=BI W;obtain rfl:=BI j;obtain ⟨a,vs,rfl,u,j⟩:=M5 w;exact ⟨a,vs.toArray,rfl,u,zdY j⟩
noncomputable def H0 (l:Nat) (f:List Int):Hp:=λa=>if a=l then some (.ro<|f.map aw) else none
set_option tactic.hygienic true in
theorem zd0 (spec:∀ (g:Gd),g.Ok->ef g->nM g->oB g.K=pz->∀ (l:Nat) (L:List Int),L.length<=63->bj g 100 540 [aB l] (H0 l L) (λv _=>v=aZ true) bR):
  PySem.Challenge.rw_pc0139_01.Holds:=by
 refine hdN λd a6 Z=>?_;intro w a2 j mg mb Gr Y a o pm cd a7 dV kV ha a3 a8 a9 u y args a4 as O a5 aa F ac;obtain ⟨K,U,KI⟩:=Y;obtain ⟨L,rfl,P⟩:=zdV O;obtain ⟨l,xs,rfl,hl,a0⟩:=zdZ F;have T:=Gr.T;have x:wR K=u5:=congrArg (λx=>x.2.2.1) U;have z:[gJ K eP "RunFault",gJ K eP "Exception",gJ K eP "range",gJ K eP "zip",gJ K eP "enumerate",gJ K eP "law"]=_:=congrArg (λx=>x.2.2.2.2.2.2.2.2) x;simp only [u5,Hv,and_true] at z;have J:a=540:=by
  have:mg "law" =some (aL 540):=mg_of KI T.g z.2.2.2.2.2;rw [Z] at u;rw [show mg "law" =some (aL a) from u] at this;cases this;rfl
 subst J;have a1:K.lookup 94=some M3:=congrArg RZ x;have G:Gd.Ok ⟨LR.prog,w,j.heap,j.os,K⟩:=
  ⟨KI,T.nolimit,⟨mg,T.g⟩,⟨94,_,by decide,KI 94 _ a1⟩,⟨mb,T.b,T.builtins⟩⟩
 have ph:=spec _ G (zdT G U) (zdU U) U l L P;have I:aQ ⟨LR.prog,w,j.heap,j.os,K⟩ j.heap.get? (λ_=>none) (H0 l L) j:={
  old:=λa o e=>e
  iI:=λa o e=>e
  cI:=λa p e=>nomatch e
  gB:=λa o e=>by
   unfold H0 at e;split at e
   .rename_i q;subst q;cases e;exact ⟨xs,0,hl,hl,a0⟩
   .cases e
  ft:=λa p e=>nomatch e
  hf:=λa o e q=>by
   unfold H0 at e;split at e
   .cases e;cases q
   .cases e
  ht:=λa o p _ q=>nomatch q
  gens:=y
  os:=rfl}
 refine vZ (C4 (ph callerA [] j.heap.get? (λ_=>none) j [aL l] ⟨rfl,by decide,by decide,rfl⟩ ⟨λ_ h=>nomatch h⟩ I<|i4 (mJ l) ct) λr s' z=>?_);obtain ⟨F',H',le,W,z⟩:=z;cases r with
 | error e=>exact z.elim λv z=>z.2.elim
 | ok f=>cases f with
  | ret x=>
   obtain ⟨v,rv,hv⟩:=z;subst hv;cases rv;refine GoodW.toG ⟨ba ⟨_, .bool true,[],rfl,λcls=>rfl, .bool true,?_,λ_=>⟨HZ,λ_ h=>nomatch h⟩⟩,λb o e=>W.iI _ _<|W.old _ _ e,W.os,W.gens⟩;show (zjQ [] (.bool true) .bool && HY [] (.eq .res<|.lit<|.bool true) _)=true;have e:same (zjR true) (zjR true)=true:=by first | rfl | decide+kernel | simp [same]
   simp [zjQ,WShape.arms,HY,WTm.value,e]
  | _=>exact z.elim
end
section
theorem Hp.le.rf (H:Hp):H.le H:=λ_ _ e=>e
theorem Hp.le.tr {A B C:Hp}(x:A.le B) (y:B.le C):A.le C:=λa o e=>y a o<|x a o e
theorem bw (H:Hp) (a:Nat) (o:MO):aN H a o a=some o:=by simp [aN]
theorem dQ {H:Hp}{a b:Nat}{o:MO}(h:b≠a):aN H a o b=H b:=by simp [aN,h]
theorem b8 {H:Hp}{a:Nat}(o:MO) (h:H a=none):H.le (aN H a o):=λb f e=>by
 have:b≠a:=by rintro rfl;rw [h] at e;cases e
 rw [dQ this];exact e
theorem mS {H:Hp}{a b:Nat}{o:MO}(h:H b=some o) (h':H a=none):b≠a:=by rintro rfl;rw [h'] at h;cases h
theorem lN {H:Hp}{a b:Nat}{o o':MO}(h:H b=some o) (h':H a=none):aN H a o' b=some o:=(dQ<|mS h h').trans h
theorem CH {H f:Hp}(l:H.le f){a:Nat}(h:f a=none):H a=none:=by
 cases q:H a with
 | none=>rfl
 | some o=>rw [l _ _ q] at h;cases h
set_option tactic.hygienic true in
theorem zd1 {H f:Hp}(l:H.le f){a:Nat}{o:MO}:(aN H a o).le (aN f a o):=λb j e=>by
 unfold aN at e ⊢;split
 .rename_i q;rw [if_pos q] at e;exact e
 .rename_i q;rw [if_neg q] at e;exact l _ _ e
variable (Φ:bG)
noncomputable def oF (a:Int) (b:Int):Int:=if decide (a<0) !=decide (b<0) then -((a.natAbs:Int) / (b.natAbs:Int)) else (a.natAbs:Int) / (b.natAbs:Int)
noncomputable def iU:Nat->Int->Int×Nat
 | 0,u=>(u,0)
 | s+1,u=>if u % 10=0 then iU s (u / 10) else (u,s+1)
def c9 (u s:Int):Int×Int:=if s<0 then (u*10 ^ (-s).toNat,0) else ((iU s.toNat u).1,((iU s.toNat u).2:Int))
noncomputable abbrev g5 (d:Int×Int):V:=d8 [aw d.1,aw d.2]
end
section
variable (Φ:bG)
noncomputable def jy:List Nat:=[102,105,103,117,114,101]
noncomputable def sh:List Nat:=[122,101,114,111]
noncomputable def lx:List Nat:=[115,116,97,114]
noncomputable def qf:List Nat:=[102,108,111,97,116]
noncomputable def dG:List Nat:=[108,101,97,100]
noncomputable def mA:List Nat:=[112,111,105,110,116]
noncomputable def jp:List Nat:=[109,97,114,107]
noncomputable def ja:List Nat:=[110,111,110,101]
noncomputable def kq:List Nat:=[105,110,115,101,114,116]
noncomputable def gg:List Nat:=[102,105,120,101,100]
def ly (r:List Nat):Bool:=r==sh || r==lx || r==qf
noncomputable def kr (c:Int):Int:=if 48<=c/\c<=57 then c-48 else 0
noncomputable def oG (s:List Nat):List Nat:=if s=[66] then [32] else s
noncomputable def fJ (s:List Nat) (neg:Bool):List Nat:=
 if s=[43] then (if neg then [45] else [43]) else if s=[45] then (if neg then [45] else [32]) else if s=[67,82]\/s=[68,66] then (if neg then s else [32,32]) else s
theorem gE {f:Type}(x:f) (l:List f):eR (x::l) 0=some x:=rfl
theorem gM {f:Type}(x y:f) (l:List f):eR (x::y::l) 1=some y:=rfl
theorem iJ {f:Type}(x y z:f) (l:List f):eR (x::y::z::l) 2=some z:=rfl
theorem iK {f:Type}(x y z u:f) (l:List f):eR (x::y::z::u::l) 3=some u:=rfl
def M6 (Φ:bG):Prop:=∀ (a b:Int) (H:Hp) (R:V->Hp->Prop),0<b->b<2 ^ 64->R (aw<|oF a b) H->Φ 28 [aw a,aw b] H R bR
def oH (d:Int×Int) (sc:Int):Int:=if d.2<=sc then d.1*10 ^ (sc-d.2).toNat else oF d.1 (10 ^ (d.2-sc).toNat)
theorem M7 {n:Nat}(h:n<=18):(10:Int) ^ n<2 ^ 64:=by
 have:((10 ^ n:Nat):Int)<=((10 ^ 18:Nat):Int):=by exact_mod_cast Do (by decide) h
 rw [H8] at this;exact QK this (by decide)
theorem pow10_pos (n:Nat):(0:Int)<10 ^ n:=Int.pow_pos (by decide)
end
noncomputable def bx:Nat->Nat->List Nat
 | 0,_=>[]
 | D+1,u=>bx D (u / 10)++[48+u % 10]
theorem wS:∀ (D u:Nat),(bx D u).length=D
 | 0,_=>rfl
 | D+1,u=>by rw [bx,cC,wS];rfl
theorem BJ:∀ D:Nat,bx D 0=bY D 48
 | 0=>rfl
 | D+1=>by rw [bx,show 0 / 10=0 from rfl,BJ,R2]
theorem M8 {k:Nat}(h:k<10):(zjS k).toNat=48+k:=by
 have:∀ k,k<10->(zjS k).toNat=48+k:=by decide
 exact this k h
theorem Ft (n:Nat):nD (n:Int)=(Nat.toDigits 10 n).map QL:=by
 show (Nat.repr n).toList.map QL=_;rw [Nat.toList_repr]
theorem M9 {n:Nat}(h:n<10):nD (n:Int)=[48+n]:=by rw [Ft,Nat.toDigits_of_lt_base h,eF,zjT,M8 h]
theorem zd2 {n:Nat}(h:10<=n):nD (n:Int)=nD ((n / 10:Nat):Int)++[48+n % 10]:=by rw [Ft,Ft,Nat.toDigits_of_base_le (by decide) h,jw,eF,zjT,M8<|Ia _<|by decide]
theorem Na:∀ (D u:Nat),0<u->u<10 ^ D->(nD (u:Int)).length<=D/\bY (D- (nD (u:Int)).length) 48++nD (u:Int)=bx D u
 | 0,u,h,h'=>by rw [R3] at h';lia
 | D+1,u,h,h'=>by
  by_cases q:u<10
  .rw [M9 q];refine ⟨by simp,?_⟩;rw [bx,show u / 10=0 by exact Sv q,BJ,show u % 10=u by exact Sw q];rfl
  .have f:u / 10<10 ^ D:=by rw [R4] at h';exact Ix h'
   obtain ⟨j,l⟩:=Na D (u / 10) (by exact Sy q) f;rw [zd2<|by exact qw.mp ‹_›];refine ⟨by rw [cC];exact C0 j,?_⟩;rw [cC,eQ,jQ,Nat.add_sub_add_right,<-lL,l,bx]
inductive zd3 (H:Hp) (p:Nat) (syms:List (List Nat×Nat)) (D:Nat) (sc:Int) (size:Nat):Prop
 | mk (d:Nat) (fs:List (Nat×V)) (y:Nat) (h1:H p=some (fG 125 d)) (h2:H d=some (bP fs)) (h3:fs.lookup 3=some (aB y)) (h4:H y=some (aO<|syms.map λq=>d8 [.str q.1,aw q.2]))
  (h5:fs.lookup 5=some (aw D)) (h6:fs.lookup 6=some (aw sc)) (h7:fs.lookup 8=some (aw size))
structure hV (H:Hp) (p:Nat) (syms:List (List Nat×Nat)) (D:Nat) (sc:Int) (size:Nat):Prop where
 h:zd3 H p syms D sc size
theorem hV.mono {H r:Hp}{p:Nat}{f:List (List Nat×Nat)}{D:Nat}{sc:Int}{j:Nat}(x:hV H p f D sc j) (l:H.le r):hV r p f D sc j:=
 let ⟨d,u,y,a,b,c,e,v,z,F⟩:=x.h;⟨⟨d,u,y,l _ _ a,l _ _ b,c,l _ _ e,v,z,F⟩⟩
def Nb (Φ:bG):Prop:=∀ (d:Int×Int) (sc:Int) (H:Hp) (R:V->Hp->Prop),d.2-sc<=18->sc-d.2<=1000->d.1.natAbs<2 ^ 64->R (aw<|oH d sc) H->Φ 43 [g5 d,aw sc,aZ false] H R bR
section
variable (Φ:bG) (H:Hp) (Q:V->Hp->Prop) (a b:Int) (s t:List Nat)
theorem cZ:lu cU (aw a) (aw b) H Q=Q (aw<|a+b) H:=rfl
theorem eZ:lu iZ (aw a) (aw b) H Q=Q (aw<|a-b) H:=rfl
theorem gu:lu fV (aw a) (aw b) H Q=((a.natAbs<2 ^ 64\/b.natAbs<2 ^ 64)/\Q (aw<|a*b) H):=rfl
theorem gF:lu nZ (aw a) (aw b) H Q=(0<b/\b<2 ^ 64/\Q (aw<|a / b) H):=rfl
theorem gv:lu oR (aw a) (aw b) H Q=(0<b/\Q (aw<|a % b) H):=rfl
theorem gN:lu lU (aw a) (aw b) H Q=(a=10/\0<=b/\b<=1000000/\Q (aw<|10 ^ b.toNat) H):=rfl
theorem g6:lu cU (.str s) (.str t) H Q=(s.length+t.length<=16777216/\Q (.str<|s++t) H):=rfl
theorem gG:lu fV (.str s) (aw a) H Q=(s.length*a.toNat<=16777216/\0<=a/\a<=1048576/\Q (.str (bY a.toNat s).flatten) H):=rfl
theorem gw:gr lV [aw a] H Q=Q (aw a.natAbs) H:=rfl
theorem fK:gr gV [.str s] H Q=(s.length<=16777216/\Q (aw s.length) H):=rfl
theorem gx:gr gV [dw s] H Q=(s.length<=16777216/\Q (aw s.length) H):=rfl
theorem hW:gr rA [aw a,aw b] H Q=Q (aw<|max a b) H:=rfl
theorem g7:gr n6 [aw a,aw b] H Q=Q (aw<|min a b) H:=rfl
theorem iL:gr .str [aw a] H Q=(0<=a/\a<10 ^ 100/\Q (.str<|nD a) H):=rfl
theorem iA (c:Nat):gr oS [.str [c]] H Q=Q (aw c) H:=rfl
theorem hY:gr n5 [dw s] H Q=Q (dw s) H:=rfl
theorem fv (vs:List V):td (d8 vs) (aw a) H Q=(a.natAbs<2 ^ 62/\cF (eR vs a) λv=>Q v H):=rfl
theorem eN {f:Type}(a:f) (k:f->Prop):cF (some a) k=k a:=rfl
variable (K:Bool->Prop)
theorem fy:gq jO (aw a) (aw b) H K=K (decide (a<b)):=rfl
theorem gO:gq mI (aw a) (aw b) H K=K (decide (a<=b)):=rfl
theorem eJ:gq gI (aw a) (aw b) H K=K (decide (b<a)):=rfl
theorem iM:gq .ge (aw a) (aw b) H K=K (decide (b<=a)):=rfl
theorem e8:gq cG (aw a) (aw b) H K=K (decide (a=b)):=rfl
theorem g8:gq eW (aw a) (aw b) H K=K (!decide (a=b)):=rfl
theorem dB:gq cG (.str s) (.str t) H K=K (decide (s=t)):=rfl
theorem fL:gq eW (.str s) (.str t) H K=K (!decide (s=t)):=rfl
theorem iB:gq cG (dw s) (dw t) H K=K (decide (s=t)):=rfl
theorem iC:gq eW (dw s) (dw t) H K=K (!decide (s=t)):=rfl
end
section
variable (Φ:bG)
def eS (d:Int×Int) (sc:Int) (D:Nat):Nat:=(oH d sc).natAbs % 10 ^ D
theorem zd4 (n:Nat):(bY n [48]).flatten=bY n 48:=by
 induction n with
 | zero=>rfl
 | succ n f=>rw [pO,lj,f];rfl
end
def cJ (Φ:bG) (ss:bW) (m:Loc) (H:Hp) (Q:Fl->Loc->Hp->Prop) (X:V->Hp->Prop):Prop:=qJ Φ ss m H Q X
def cQ (R:V->Hp->Prop) (j:Fl) (m:Loc) (l:Hp):Prop:=∃f:Hp,f.le l/\match j with
 | gW v=>R v f
 | .next=>R cz f
def cP (X:V->Hp->Prop) (v:V) (j:Hp):Prop:=∃f:Hp,f.le j/\X v f
def go (Φ:bG) (ss:bW) (Q:Fl->Loc->Hp->Prop) (X:V->Hp->Prop) (f:Fl) (m:Loc) (H:Hp):Prop:=match f with
 | .next=>cJ Φ ss m H Q X
 | gW v=>Q (gW v) m H
section
variable {Φ:bG}{ss:bW}{m:Loc}{H:Hp}{Q:Fl->Loc->Hp->Prop}{X:V->Hp->Prop}
theorem wF {jo:Nat}{b:bW}{args:List V}{R:V->Hp->Prop}(e:frame jo args=m) (h:cJ Φ b m H (cQ R) (cP X)):c7 Φ jo b args H R X:=by
 subst e;refine (congrArg (λQ=>qJ Φ b (frame jo args) H Q<|cP X) ?_).mp h;funext f _ j
 cases f <;> rfl
theorem eG {m:Loc}{R:V->Hp->Prop}{v:V}(h:R v H):cQ R (gW v) m H:=⟨H, .rf H,h⟩
theorem kZ {R:V->Hp->Prop}{v:V}{f:Hp}(l:f.le H) (h:R v f):cQ R (gW v) m H:=⟨f,l,h⟩
theorem iV {R:V->Hp->Prop}(h:R cz H):cQ R .next m H:=⟨H, .rf H,h⟩
theorem aH {s:Sx}(h:wpS Φ s m H (go Φ ss Q X) X):cJ Φ (aE s ss) m H Q X:=h
theorem aM (h:Q .next m H):cJ Φ aK m H Q X:=h
theorem dR:∀ {b:Bool}{A B:Prop},(b=true->A)->(b=false->B)->(match b with | true=>A | false=>B)
 | true,_,_,f,_=>f rfl
 | false,_,_,_,j=>j rfl
theorem c0:∀ {p:Prop}{d:Decidable p}{A B:Prop},(p->A)->(¬p->B)->(match decide p with | true=>A | false=>B):=
 λf j=>dR (λh=>f<|of_decide_eq_true h) λh=>j<|of_decide_eq_false h
theorem BK:∀ {b:Bool}{A B:Prop},b=true->A->(match b with | true=>A | false=>B)
 | true,_,_,_,h=>h
theorem jI:∀ {b:Bool}{A B:Prop},b=false->B->(match b with | true=>A | false=>B)
 | false,_,_,_,h=>h
theorem aY:go Φ ss Q X .next m H=cJ Φ ss m H Q X:=rfl
theorem cx (v:V):go Φ ss Q X (gW v) m H=Q (gW v) m H:=rfl
end
theorem g0 (a:Option V) (l:Loc):(a::l)[0]?=some a:=rfl
theorem gs (a:Option V) (l:Loc) (n:Nat):(a::l)[n+1]?=l[n]?:=rfl
theorem bD (a b:Option V) (l:Loc):(a::l).set 0 b=b::l:=rfl
theorem bB (a b:Option V) (l:Loc) (n:Nat):(a::l).set (n+1) b=a::l.set n b:=rfl
def Fu (Φ:bG) (t:i8) (b:bW) (m:Loc) (Q:Fl->Loc->Hp->Prop) (items:List V) (f:List (Nat×List V)) (H:Hp):Prop:=
 items.length<=16777216/\∃I:List V->Loc->Hp->Prop,I items m H/\
   (∀ x j m H,I (x::j) m H->l6 f H/\match qH t x m with
    | some m'=>qJ Φ b m' H (λr l p=>match r with
     | .next=>I j l p
     | gW v=>Q (gW v) l p) bR
    | none=>False)/\
   (∀ m H,I [] m H->l6 f H/\Q .next m H)
theorem lz {z:Type}{Φ:bG}{t:i8}{b:bW}{m:Loc}{H:Hp}{Q:Fl->Loc->Hp->Prop}{items:List V}{j:List (Nat×List V)}{xs:List z}(p:z->V) (F:items=xs.map p) (I:xs.length<=16777216)
  (St:List z->Loc->Hp->Prop) (J:St [] m H)
  (hs:∀ done x f m H,done++x::f=xs->St done m H->l6 j H/\∃m',qH t (p x) m=some m'/\∀ K:Fl->Loc->Hp->Prop,(∀ m H,St (done++[x]) m H->K .next m H)->(∀ v m H,Q (gW v) m H->K (gW v) m H)->cJ Φ b m' H K bR)
  (hz:∀ m H,St xs m H->l6 j H/\Q .next m H):Fu Φ t b m Q items j H:=by
 subst F;refine ⟨by rw [cN];exact I,λl m H=>∃done f,done++f=xs/\l=f.map p/\St done m H,⟨[],xs,rfl,rfl,J⟩,?_,?_⟩
 .rintro x l m H ⟨done,f,r,u,h⟩;cases f with
  | nil=>cases u
  | cons y f=>
   cases u;refine rR (hs done y f m H r h) λL m' O P=>⟨L,?_⟩;rw [O];exact P _ (λm H q=>⟨done++[y],f,by rw [lL];exact r,rfl,q⟩) λv m H q=>q
 .rintro m H ⟨done,f,r,u,h⟩;cases f with
  | cons _ _=>cases u
  | nil=>rw [of] at r;subst r;exact hz m H h
def BL (Φ:bG) (p:Ex) (t:i8) (r:mr) (m:Loc) (Q:V->Hp->Prop) (items:List V) (l:List (Nat×List V)) (H:Hp):Prop:=
 items.length<=16777216/\∃I:List V->List V->Hp->Prop,I items [] H/\
   (∀ x j f H,I (x::j) f H->l6 l H/\match qH t x m with
    | some m'=>pg Φ r m' H λb y=>match b with
     | true=>bu Φ p m' y λv u=>I j (f++[v]) u
     | false=>I j f y
    | none=>False)/\
   (∀ f H,I [] f H->l6 l H/\∀ a,H a=none->Q (aB a) (aN H a<|aO f))
theorem md {U:Type}{Φ:bG}{L:Ex}{t:i8}{O:mr}{m:Loc}{H:Hp}{Q:V->Hp->Prop}{items:List V}{u:List (Nat×List V)}{xs:List U}(r:U->V) (he:items=xs.map r) (hl:xs.length<=16777216)
  (f:U->Option V) (Inv:Hp->Prop) (h0:Inv H)
  (hs:∀ x H,x∈xs->Inv H->l6 u H/\∃m',qH t (r x) m=some m'/\∀ (Z:V->Hp->Prop) (K0:Hp->Prop),(∀ v H,f x=some v->Inv H->Z v H)->(∀ H,f x=none->Inv H->K0 H)->pg Φ O m' H λb H'=>match b with
   | true=>bu Φ L m' H' Z
   | false=>K0 H')
  (hz:∀ H,Inv H->l6 u H/\∀ a,H a=none->Q (aB a) (aN H a<|aO<|xs.filterMap f)):BL Φ L t O m Q items u H:=by
 subst he;refine ⟨by rw [cN];exact hl,λF I H=>∃done j,done++j=xs/\F=j.map r/\I=done.filterMap f/\Inv H,⟨[],xs,rfl,rfl,rfl,h0⟩,?_,?_⟩
 .rintro x F I H ⟨done,j,J,P,W,h⟩;cases j with
  | nil=>cases P
  | cons y j=>
   cases P;subst W;obtain ⟨s1,m',e3,h3⟩:=hs y H (by rw [<-J];simp) h;refine ⟨s1,?_⟩;rw [e3];exact h3 (λv z=>∃l p,l++p=xs/\j.map r=p.map r/\done.filterMap f++[v]=l.filterMap f/\Inv z) (λz=>∃l p,l++p=xs/\j.map r=p.map r/\done.filterMap f=l.filterMap f/\Inv z)
    (λv z e q=>⟨done++[y],j,by rw [lL];exact J,rfl,by rw [R5];simp [e],q⟩)
    λz e q=>⟨done++[y],j,by rw [lL];exact J,rfl,by rw [R5];simp [e],q⟩
 .rintro I H ⟨done,j,J,P,W,h⟩;cases j with
  | cons _ _=>cases P
  | nil=>rw [of] at J;subst J;subst W;exact hz H h
theorem bN {a d C x:Nat}{f:List (Nat×V)}{v:V}{H:Hp}{Q:V->Hp->Prop}(j:H a=some (fG C d)) (l:H d=some (bP f)) (p:f.lookup x=some v) (r:attrOk C x=true) (q:Q v H):yw (aB a) x H Q:=fH (a:=a) rfl<|fH (congrArg pf j)<|fH (congrArg ud l)<|fH p ⟨r,q⟩
theorem dH {a d C x:Nat}{f:List (Nat×V)}{v:V}{H:Hp}{Q:Hp->Prop}(j:H a=some (fG C d)) (l:H d=some (bP f)) (p:f.length<1000) (r:attrOk C x=true) (q:Q (aN H d<|bP<|i9 f x v)):th (aB a) x v H Q:=fH (a:=a) rfl<|fH (congrArg pf j)<|fH (congrArg ud l) ⟨r,p,q⟩
theorem hZ {Φ:bG}{a d C i f:Nat}{j:List (Nat×V)}{H:Hp}{k:(List V->Hp->(V->Hp->Prop)->Prop)->Prop}(l:H a=some (fG C d)) (p:H d=some (bP j)) (r:gf C i=some f) (u:j.lookup (yp i)=none)
  (h:k (λvs v Q=>Φ f (aB a::vs) v Q bR)):rO Φ (aB a) i H k:=by
 show jf (pf<|H a) _ _;rw [l];exact fH (congrArg ud p)<|fH r ⟨u,h⟩
theorem me {Φ:bG}{a i:Nat}{vs:List V}{H:Hp}{k:(List V->Hp->(V->Hp->Prop)->Prop)->Prop}(f:H a=some (aO vs)) (j:i<4) (h:k (λvs l Q=>gZ (aB a) i vs l Q)):rO Φ (aB a) i H k:=by
 show jf (pf<|H a) _ (jf (be H a) _ _);unfold be;rw [f];exact ⟨j,h⟩
theorem Nc {Φ:bG}{a:Nat}{kvs:List (List Nat×V)}{H:Hp}{k:(List V->Hp->(V->Hp->Prop)->Prop)->Prop}(f:H a=some (gd kvs)) (h:k (λvs j Q=>gZ (aB a) 7 vs j Q)):rO Φ (aB a) 7 H k:=by
 show jf (pf<|H a) _ (jf (be H a) _<|cF (qG<|H a) _);unfold be;rw [f];exact ⟨rfl,h⟩
theorem si {Φ:bG}{s:List Nat}{i:Nat}{H:Hp}{k:(List V->Hp->(V->Hp->Prop)->Prop)->Prop}(f:i=5\/i=6) (h:k (λvs j Q=>gZ (.str s) i vs j Q)):rO Φ (.str s) i H k:=⟨f,h⟩
theorem lO {a:Nat}{vs:List V}{v:V}{H:Hp}{Q:V->Hp->Prop}(f:H a=some (aO vs)) (j:vs.length<16777216) (q:Q cz (aN H a<|aO<|vs++[v])):gZ (aB a) 0 [v] H Q:=fH (congrArg uJ f) ⟨j,q⟩
theorem zd5 {a y:Nat}{vs f:List V}{H:Hp}{Q:V->Hp->Prop}(j:H a=some (aO vs)) (l:be H y=some f) (p:a≠y) (r:vs.length+f.length<=16777216) (q:Q cz (aN H a<|aO<|vs++f)):gZ (aB a) 1 [aB y] H Q:=fH (congrArg uJ j)<|fH l ⟨p,r,q⟩
def Fv (v:V) (vs:List V):Option Nat:=(vStr v).bind λs=>(kD vs).map λss=>ss.count s
def zd6 (v:V) (vs:List V):Option Nat:=(vStr v).bind λs=>(kD vs).bind λss=>ss.findIdx? (·==s)
theorem BM {a n:Nat}{vs:List V}{v:V}{H:Hp}{Q:V->Hp->Prop}(f:be H a=some vs) (j:Fv v vs=some n) (q:Q (aw n) H):gZ (aB a) 2 [v] H Q:=
 kM j λs e h=>oq h λss l p=>fH f<|fH e<|fH l<|p▸q
theorem zd7 {a n:Nat}{vs:List V}{v:V}{H:Hp}{Q:V->Hp->Prop}(f:be H a=some vs) (j:zd6 v vs=some n) (l:n<=16777216) (q:Q (aw n) H):gZ (aB a) 3 [v] H Q:=
 kM j λs e h=>kM h λss p r=>fH f<|fH e<|fH p<|fH r ⟨l,q⟩
theorem Nd {a:Nat}{kvs:List (List Nat×V)}{s:List Nat}{d:V}{H:Hp}{Q:V->Hp->Prop}(f:H a=some (gd kvs)) (q:Q ((kvs.lookup s).getD d) H):gZ (aB a) 7 [.str s,d] H Q:=fH (congrArg qG f) q
theorem zd8 {a:Nat}{kvs:List (List Nat×V)}{s:List Nat}{H:Hp}{Q:V->Hp->Prop}(f:H a=some (gd kvs)) (q:Q ((kvs.lookup s).getD cz) H):gZ (aB a) 7 [.str s] H Q:=Nd f q
theorem u6 {a:Nat}{vs:List V}{ss:List (List Nat)}{H:Hp}{Q:V->Hp->Prop}(f:be H a=some vs) (j:kD vs=some ss) (l:ss.flatten.length<=16777216) (q:Q (.str ss.flatten) H):gZ (.str []) 6 [aB a] H Q:=fH f<|fH j ⟨rfl,l,q⟩
theorem strs_map:∀ ss:List (List Nat),kD (ss.map .str)=some ss
 | []=>rfl
 | s::r=>by rw [eF];show (kD<|r.map .str).map (s::·)=_;rw [strs_map r];rfl
theorem bE {H:Hp}{a:Nat}{vs:List V}(h:H a=some (aO vs)):be H a=some vs:=by unfold be;rw [h]
theorem Nf {x y:Nat}{xs ys:List V}{H:Hp}{Q:V->Hp->Prop}(f:be H x=some xs) (j:be H y=some ys) (q:iQ (xs++ys) H Q):lu cU (aB x) (aB y) H Q:=by
 show cF (be H x) λxs=>cF (be H y) λys=>iQ (xs++ys) H Q;rw [f];rw [j];exact q
theorem Ng {x:Nat}{n:Int}{xs:List V}{H:Hp}{Q:V->Hp->Prop}(f:be H x=some xs) (j:0<=n) (l:n<2 ^ 62) (q:iQ (bY n.toNat xs).flatten H Q):lu fV (aB x) (aw n) H Q:=by
 show cF (be H x) λxs=>0<=n/\n<2 ^ 62/\iQ (bY n.toNat xs).flatten H Q;rw [f];exact ⟨j,l,q⟩
section
variable (Φ:bG) (m:Loc) (H:Hp)
section
variable (Q:V->Hp->Prop)
theorem aV (v:V):bu Φ (aD v) m H Q=Q v H:=rfl
theorem eL (v:V):bu Φ (jb v) m H Q=Q v H:=rfl
theorem aJ (i:Nat):bu Φ (az i) m H Q=(match m[i]? with | some (some v)=>Q v H | _=>False):=rfl
theorem bT (f:qC) (l r:Ex):bu Φ (bq f l r) m H Q=bu Φ l m H λa H=>bu Φ r m H λb H=>lu f a b H Q:=rfl
theorem gH (e:Ex):bu Φ (mq e) m H Q=bu Φ e m H λa H=>(match a with | aw a=>Q (aw (-a)) H | _=>False):=rfl
theorem fT (b:Bool) (es:jF):bu Φ (nh b es) m H Q=uL Φ b es m H Q:=rfl
theorem fe (l:Ex) (f:qD):bu Φ (hM l f) m H Q=bu Φ l m H λa H=>qI Φ a f m H λr H=>Q (aZ r) H:=rfl
theorem dA (t:Bx) (b o:Ex):bu Φ (dC t b o) m H Q=iR Φ t m H λr H=>(match r with | true=>bu Φ b m H Q | false=>bu Φ o m H Q):=rfl
theorem bX (es:jF):bu Φ (ce es) m H Q=jg Φ es m H λvs H=>vs.length<=1000/\Q (d8 vs) H:=rfl
theorem c8 (es:jF):bu Φ (fo es) m H Q=jg Φ es m H λvs H=>iQ vs H Q:=rfl
theorem ib (kvs:List (List Nat×List Nat)):bu Φ (vL kvs) m H Q=((kvs.map (·.1)).Nodup/\∀ a,H a=none->Q (aB a) (aN H a<|gd<|kvs.map λp=>(p.1, .str p.2))):=rfl
theorem cV (o i:Ex):bu Φ (c5 o i) m H Q=bu Φ o m H λo H=>bu Φ i m H λi H=>td o i H Q:=rfl
theorem fZ (o:Ex) (l u s:Ox):bu Φ (lG o l u s) m H Q=bu Φ o m H λo H=>rP Φ l m H λl H=>rP Φ u m H λu H=>rP Φ s m H λs H=>rN o l u s H Q:=rfl
theorem bQ (o:Ex) (x:Nat):bu Φ (bF o x) m H Q=bu Φ o m H λo H=>yw o x H Q:=rfl
theorem cj (f:Nat) (es:jF):bu Φ (cw f es) m H Q=jg Φ es m H λvs H=>Φ f vs H Q bR:=rfl
theorem cK (b:Bi) (es:jF):bu Φ (cA b es) m H Q=jg Φ es m H λvs H=>gr b vs H Q:=rfl
theorem bU (o:Ex) (i:Nat) (es:jF):bu Φ (cv o i es) m H Q=bu Φ o m H λo H=>rO Φ o i H λc=>jg Φ es m H λvs f=>c vs f Q:=rfl
theorem dY (f:Ex) (t:i8) (l:oh) (j:mr):bu Φ (i3 f t l j) m H Q=nE Φ l m H (BL Φ f t j m Q):=rfl
def BN (C:Nat) (Q:V->Hp->Prop) (vs:List V) (H:Hp):Prop:=match yq C with
  | some f=>∀ a d,a≠d->H a=none->H d=none->Φ f (aB a::vs) (aN (aN H d<|bP []) a<|fG C d) (λr j=>match r with | cz=>Q (aB a) j | _=>False) bR
  | none=>False
theorem gP (C:Nat) (es:jF):bu Φ (sA C es) m H Q=jg Φ es m H (BN Φ C Q):=rfl
end
theorem aP (Q:List V->Hp->Prop):jg Φ aI m H Q=Q [] H:=rfl
theorem aU (e:Ex) (es:jF) (Q:List V->Hp->Prop):jg Φ (aC e es) m H Q=bu Φ e m H λv H=>jg Φ es m H λvs H=>Q (v::vs) H:=rfl
theorem f7 (Q:Option V->Hp->Prop):rP Φ jP m H Q=Q none H:=rfl
theorem f8 (e:Ex) (Q:Option V->Hp->Prop):rP Φ (j5 e) m H Q=bu Φ e m H λv H=>Q (some v) H:=rfl
section
variable (Q:Bool->Hp->Prop)
theorem gQ (b:Bx):iR Φ (sB b) m H Q=iR Φ b m H λr H=>Q (!r) H:=rfl
theorem dN (bs:mr):iR Φ (jc bs) m H Q=pg Φ bs m H Q:=rfl
theorem eT (bs:mr):iR Φ (kS bs) m H Q=uM Φ bs m H Q:=rfl
theorem br (l:Ex) (f:qD):iR Φ (aW l f) m H Q=bu Φ l m H λa H=>qI Φ a f m H Q:=rfl
theorem iN (t b o:Bx):iR Φ (.ite t b o) m H Q=iR Φ t m H λr H=>(match r with | true=>iR Φ b m H Q | false=>iR Φ o m H Q):=rfl
theorem ee (e:Ex):iR Φ (fW e) m H Q=bu Φ e m H λv H=>(match v with | aZ b=>Q b H | _=>False):=rfl
theorem cX:pg Φ cM m H Q=Q true H:=rfl
theorem db (b:Bx) (bs:mr):pg Φ (bI b bs) m H Q=iR Φ b m H λr H=>(match r with | true=>pg Φ bs m H Q | false=>Q false H):=rfl
theorem eU:uM Φ cM m H Q=Q false H:=rfl
theorem eV (b:Bx) (bs:mr):uM Φ (bI b bs) m H Q=iR Φ b m H λr H=>(match r with | true=>Q true H | false=>uM Φ bs m H Q):=rfl
end
section
variable (Q:Fl->Loc->Hp->Prop) (X:V->Hp->Prop)
theorem bV (i:Nat) (e:Ex):wpS Φ (cg i e) m H Q X=bu Φ e m H λv H=>Q .next (m.set i<|some v) H:=rfl
def Fw (f:List Nat) (m:Loc) (Q:Fl->Loc->Hp->Prop) (v:V) (H:Hp):Prop:=match v with
  | d8 vs=>f.Nodup/\(match kX m f vs with | some m'=>Q .next m' H | none=>False)
  | _=>False
theorem dZ (f:List Nat) (e:Ex):wpS Φ (jd f e) m H Q X=bu Φ e m H (Fw f m Q):=rfl
theorem ev (o:Ex) (x:Nat) (e:Ex):wpS Φ (c6 o x e) m H Q X=bu Φ e m H λv H=>bu Φ o m H λo H=>th o x v H λH=>Q .next m H:=rfl
theorem gb (o i e:Ex):wpS Φ (n7 o i e) m H Q X=bu Φ e m H λv H=>bu Φ o m H λo H=>bu Φ i m H λi H=>uK o i v H λH=>Q .next m H:=rfl
theorem cL (e:Ex):wpS Φ (dL e) m H Q X=bu Φ e m H λv H=>(match v with | cz=>Q .next m H | _=>False):=rfl
theorem bL (t:Bx) (b o:bW):wpS Φ (bS t b o) m H Q X=iR Φ t m H λr H=>(match r with | true=>cJ Φ b m H Q X | false=>cJ Φ o m H Q X):=rfl
theorem eA (t:i8) (f:oh) (b:bW):wpS Φ (ju t f b) m H Q X=nE Φ f m H (Fu Φ t b m Q):=rfl
theorem cy (e:Ex):wpS Φ (cD e) m H Q X=bu Φ e m H λv H=>Q (gW v) m H:=rfl
theorem ig (e:Ex):wpS Φ (xF e) m H Q X=bu Φ e m H λv H=>X v H:=rfl
end
section
variable (Q:List V->List (Nat×List V)->Hp->Prop)
def yV (v:V) (H:Hp) (Q:List V->List (Nat×List V)->Hp->Prop):Prop:=match v with
  | aB a=>(match be H a with | some vs=>Q vs [(a,vs)] H | none=>False)
  | d8 vs=>Q vs [] H
  | .str s=>Q (s.map λc=> .str [c]) [] H
  | _=>False
theorem dI (e:Ex):nE Φ (iq e) m H Q=bu Φ e m H λv H=>yV v H Q:=rfl
theorem gR (e:Ex):nE Φ (sC e) m H Q=bu Φ e m H λv H=>(match v with
  | aw n=>0<=n/\n<=1000000/\Q ((j7 n.toNat).map λ(i:Nat)=>V.int (i:Int)) [] H
  | _=>False):=rfl
def Fx (a b:V) (H:Hp) (Q:List V->List (Nat×List V)->Hp->Prop):Prop:=match a,b with
  | aB x,aB y=>(match be H x,be H y with | some xs,some ys=>Q (CL (λx y=>d8 [x,y]) xs ys) [(x,xs),(y,ys)] H | _,_=>False)
  | _,_=>False
theorem g9 (a b:Ex):nE Φ (sD a b) m H Q=bu Φ a m H λa H=>bu Φ b m H λb H=>Fx a b H Q:=rfl
def Fy (v:V) (H:Hp) (Q:List V->List (Nat×List V)->Hp->Prop):Prop:=match v with
  | aB x=>(match be H x with | some xs=>Q (xs.zipIdx.map λp=>d8 [aw p.2,p.1]) [(x,xs)] H | none=>False)
  | _=>False
theorem gy (e:Ex):nE Φ (pL e) m H Q=bu Φ e m H λv H=>Fy v H Q:=rfl
end
end
theorem mB {a:Nat}{vs:List V}{H:Hp}{Q:List V->List (Nat×List V)->Hp->Prop}(f:be H a=some vs) (q:Q vs [(a,vs)] H):yV (aB a) H Q:=by dsimp only [yV];rw [f];exact q
theorem FA {a b:Nat}{xs ys:List V}{H:Hp}{Q:List V->List (Nat×List V)->Hp->Prop}(f:be H a=some xs) (j:be H b=some ys) (q:Q (CL (λx y=>d8 [x,y]) xs ys) [(a,xs),(b,ys)] H):Fx (aB a) (aB b) H Q:=by dsimp only [Fx];rw [f,j];exact q
theorem wT {a:Nat}{vs:List V}{H:Hp}{Q:List V->List (Nat×List V)->Hp->Prop}(f:be H a=some vs) (q:Q (vs.zipIdx.map λp=>d8 [aw p.2,p.1]) [(a,vs)] H):Fy (aB a) H Q:=by dsimp only [Fy];rw [f];exact q
theorem gh (s:List Nat) (H:Hp) (Q:List V->List (Nat×List V)->Hp->Prop):yV (.str s) H Q=Q (s.map λc=> .str [c]) [] H:=rfl
theorem hH (vs:List V) (H:Hp) (Q:List V->List (Nat×List V)->Hp->Prop):yV (d8 vs) H Q=Q vs [] H:=rfl
theorem FE:∀ {b c:Bool}{T F B:Prop},((match c with | true=>T | false=>F)->B)->(match (b && c) with | true=>T | false=>F)->(match b with | true=>B | false=>F)
 | true,_,_,_,_,f,q=>f q
 | false,_,_,_,_,_,q=>q
theorem FF:∀ {b c:Bool}{T F B:Prop},((match c with | true=>T | false=>F)->B)->(match (b || c) with | true=>T | false=>F)->(match b with | true=>T | false=>B)
 | true,_,_,_,_,_,q=>q
 | false,_,_,_,_,f,q=>f q
theorem oI:∀ {p:Prop}{d:Decidable p}{A B:Prop},(¬p->A)->(p->B)->(match !decide p with | true=>A | false=>B)
 | _, .isTrue h,_,_,_,f=>f h
 | _, .isFalse h,_,_,j,_=>j h
theorem Nh {Φ:bG}{ss:bW}{R X:V->Hp->Prop}{v:V}{m:Loc}{H:Hp}(h:R v H):go Φ ss (cQ R) X (gW v) m H:=eG (m:=m) h
theorem zd9 {Φ:bG}{ss:bW}{R X:V->Hp->Prop}{v:V}{m:Loc}{H f:Hp}(l:f.le H) (h:R v f):go Φ ss (cQ R) X (gW v) m H:=kZ (m:=m) l h
theorem zea {f:Type}{v:f}:[v].length<=16777216:=bC rfl
theorem jz {f:List Nat}{vs:List V}{m m':Loc}{H:Hp}{Q:Fl->Loc->Hp->Prop}(j:f.Nodup) (l:kX m f vs=some m') (q:Q .next m' H):Fw f m Q (d8 vs) H:=by dsimp only [Fw];rw [l];exact ⟨j,q⟩
theorem iD {vs:List V}{H:Hp}{Q:V->Hp->Prop}(h:vs.length<=16777216) (q:∀ a,H a=none->Q (aB a) (aN H a<|aO vs)):iQ vs H Q:=⟨h,q⟩
section
variable {Φ:bG}
noncomputable def placesOf (f:List (List Nat×Nat)):List (List Nat):=(f.map λq=>bY q.2 q.1).flatten
set_option tactic.hygienic true in
theorem BO {H j:Hp}{f:Nat}{o:MO}(l:H.le j) (h:j f=some o):(aN H f o).le j:=λb p e=>by
 unfold aN at e;split at e
 .rename_i q;subst q;cases e;exact h
 .exact l _ _ e
theorem mT {H j:Hp}{f:Nat}(o:MO) (l:H.le j) (h:H f=none):H.le (aN j f o):=λb p e=>by
 have:b≠f:=by rintro rfl;rw [h] at e;cases e
 rw [dQ this];exact l _ _ e
theorem BP (a:List (List Nat×Nat)) (q:List Nat×Nat):placesOf (a++[q])=placesOf a++bY q.2 q.1:=by simp [placesOf]
theorem wU {f:Type}(x:f) (n:Nat):(bY n [x]).flatten=bY n x:=by
 induction n with
 | zero=>rfl
 | succ n j=>rw [pO,lj,j];rfl
theorem zeb {done f:List (List Nat×Nat)}{q:List Nat×Nat} {syms}(h:done++q::f=syms):(placesOf done).length+q.2<=(placesOf syms).length:=by
 subst h;simp only [placesOf,jw,eF,Ag,lj,cC,kJ];exact Iy
theorem zec {p:Nat}{j:List (List Nat×Nat)}{Dg:Nat}{sc:Int}{u:Nat}{H:Hp}{R X:V->Hp->Prop}(P:hV H p j Dg sc u) (J:(placesOf j).length<=1000) (hs:j.length<=1000)
  (h:∀ a,H a=none->R (aB a) (aN H a<|aO<|(placesOf j).map .str)):c7 Φ 4 Kq [aB p] H R X:=by
 obtain ⟨dd,fs,y,e1,e2,e3,L,_⟩:=P.h;refine wF (m:=[some<|aB p,none,none,none,none,none,none]) rfl<|aH ?_;dsimp only [bV,bB,bD,aY,c8,aP];refine iD (by decide) λf O=>aH ?_;dsimp only [eA,dI,bQ,aJ,g0];have z:=b8 (aO []) O;refine bN (z _ _ e1) (z _ _ e2) e3 rfl<|mB (bE<|z _ _ L) ?_;refine lz (λq:List Nat×Nat=>V.tup [.str q.1,aw q.2]) rfl (by exact qa ‹_› rfl) (λdone m F=>∃U W,m=[some<|aB p,some<|aB f,U,W,none,none,none]/\H.le F/\F f=some (aO<|(placesOf done).map .str)) ⟨none,none,rfl,z,bw ..⟩ ?_ ?_
 .rintro done q Z m F hd ⟨U,W,rfl,v,l⟩;have r:=zeb hd;refine ⟨⟨bE<|v _ _ L,trivial⟩,_,rfl,λK k1 k2=>aH ?_⟩;dsimp only [bB,bD,cL,aY,bU,aU,aP,bT,aJ,gs,g0,c8];refine me l (by decide) ?_;refine iD zea λa I=>Ng (bE<|bw ..) (by exact lf _) (by exact Sz J r) (iD (by rw [wU,kJ];exact SC J r) λb hb=>?_);have na:f≠a:=mS l I;have nb:f≠b:=mS (lN l I) hb;refine zd5 ((dQ nb).trans (lN l I)) (bE<|bw ..) nb (by rw [wU,kJ,cN];exact SD J r)<|aM<|k1 _ _ ⟨_,_,rfl,?_,?_⟩
  .exact mT _ (v.tr<|(b8 _ I).tr (b8 _ hb)) O
  .rw [bw,BP,wU,jw,Hu];rfl
 .rintro m F ⟨U,W,rfl,v,l⟩;refine ⟨⟨bE<|v _ _ L,trivial⟩,aH ?_⟩;dsimp only [cy,cx,aJ,gs,g0];exact kZ (BO v l)<|h _ O
noncomputable def de (aA:List (List Nat)):List Nat:=if 1<aA.count [36] then [36] else if 1<aA.count [43] then [43] else if 1<aA.count [45] then [45] else []
theorem zio {aA:List (List Nat)}{done j:List Nat}{c:Nat}(f:done++c::j=[36,43,45]) (l:∀ b∈done,¬1<aA.count [b]) (p:1<aA.count [c]):de aA=[c]:=by
 unfold de;cases done with
 | nil=>cases f;exact if_pos p
 | cons a done=>
  rw [show a=36 from (R6 f).1] at l;rw [if_neg<|l 36 dh];cases done with
  | nil=>cases f;exact if_pos p
  | cons b done=>
   rw [show b=43 from (R6 (R6 f).2).1] at l;rw [if_neg<|l 43<|dz _ dh];cases done with
   | nil=>cases f;exact if_pos p
   | cons _ done=>exact absurd (congrArg pS f) (by simp)
set_option tactic.hygienic true in
theorem zed {a:Nat}{aA:List (List Nat)}{H:Hp}{R X:V->Hp->Prop}(l:be H a=some (aA.map .str)) (h:R (.str<|de aA) H):c7 Φ 2 Kr [aB a] H R X:=by
 have u:∀ s:List Nat,Fv (.str s) (aA.map .str)=some (aA.count s):=λs=>by show (kD<|aA.map .str).map _=_;rw [strs_map];rfl
 refine wF (m:=[some<|aB a,none,none,none,none]) rfl<|aH ?_;dsimp only [eA,dI,eL,gh];refine lz (xs:=[36,43,45]) (λc:Nat=>V.str [c]) rfl (by decide) (λdone m f=>∃x,m=[some<|aB a,x,none,none,none]/\f=H/\∀ c∈done,¬1<aA.count [c]) ⟨none,rfl,rfl,λ_ h=>nomatch h⟩ ?_ ?_
 .rintro done c p m f v ⟨x,rfl,rfl,j⟩;refine ⟨trivial,_,rfl,λK k1 k2=>aH ?_⟩;dsimp only [bB,bD,bL,br,bf,aV,bU,aU,aP,aJ,gs,g0];have y:∀ {k:(List V->Hp->(V->Hp->Prop)->Prop)->Prop},k (λvs f Q=>gZ (aB a) 2 vs f Q)->rO Φ (aB a) 2 f k:=λ{k} r=>by
   unfold be at l;show jf (pf<|f a) _ (jf (be f a) _ _);unfold be;split at l
   .rename_i vs e;rw [e];exact ⟨by decide,r⟩
   .rename_i vs e;rw [e];exact ⟨by decide,r⟩
   .cases l
  refine y ?_;dsimp only;refine BM l (u _) ?_;dsimp only [eJ];refine c0 (λq=>aH ?_) λq=>aM ?_
  .dsimp only [cy,cx,aJ,gs,g0];refine k2 _ _ _ ?_;have e:de aA=[c]:=by
    have z:1<aA.count [c]:=by exact rB.mp ‹_›
    exact zio v j z
   rw [e] at h;exact Nh h
  .refine aM<|k1 _ _ ⟨_,rfl,rfl,λb hb=>?_⟩;rcases kG.mp hb with hb | hb
   .exact j b hb
   .rw [gp.mp hb];exact Dz q
 .rintro m f ⟨x,rfl,rfl,j⟩;refine ⟨trivial,aH ?_⟩;dsimp only [cy,cx,aV];refine eG ?_;have e:de aA=[]:=by
   unfold de;rw [if_neg (j 36<|by simp),if_neg (j 43<|by simp),if_neg<|j 45<|by simp]
  rw [<-e];exact h
set_option tactic.hygienic true in
theorem d7 {H f:Hp}{a:Nat}{vs:List V}(l:H.le f) (h:be H a=some vs):be f a=some vs:=by
 unfold be at h ⊢;split at h
 .rename_i e;rw [l _ _ e];exact h
 .rename_i e;rw [l _ _ e];exact h
 .cases h
theorem zee (s:List Nat) (ss:List (List Nat)):wx (.str s) (ss.map .str)=some (ss.any (·==s)):=by
 show (kD<|ss.map .str).map _=_;rw [strs_map];rfl
theorem Ni {j u v:Type} [BEq j] (f:u->v) (k:j):∀ l:List (j×u),(l.map λp=>(p.1,f p.2)).lookup k=(l.lookup k).map f
 | []=>rfl
 | (a,b)::r=>by
  rw [eF,j9,j9,Ni f k r];cases k==a <;> rfl
theorem BQ {f:o6}{a b:V}{H:Hp}{K:Bool->Prop}{r:Bool}(e:yu f a b H=some r) (q:K r):gq f a b H K:=by
 show (match yu f a b H with | some r=>K r | none=>False);rw [e];exact q
theorem Nj {a:Nat}{s:List Nat}{ss:List (List Nat)}{H:Hp}(h:be H a=some (ss.map .str)):AQ H (.str s) (aB a)=some (ss.any (·==s)):=by
 show (be H a).bind _=_;rw [h];exact zee s ss
theorem tG {a:Nat}{s:List Nat}{ss:List (List Nat)}{H:Hp}{K:Bool->Prop}(h:be H a=some (ss.map .str)) (q:K (ss.any (·==s))):gq dU (.str s) (aB a) H K:=BQ (Nj h) q
theorem tH {a:Nat}{s:List Nat}{ss:List (List Nat)}{H:Hp}{K:Bool->Prop}(h:be H a=some (ss.map .str)) (q:K (!ss.any (·==s))):gq kC (.str s) (aB a) H K:=BQ (congrArg (zjU not)<|Nj h) q
theorem Nk {a:Nat}{kvs:List (List Nat×V)}{s:List Nat}{v:V}{H:Hp}{Q:Hp->Prop}(f:H a=some (gd kvs)) (j:kvs.length<1000000) (q:Q (aN H a<|gd<|lr kvs s v)):uK (aB a) (.str s) v H Q:=fH (a:=a) rfl<|fH (congrArg qG f) ⟨j,q⟩
theorem wV {a k:Nat}{vs:List V}{i:Int}{v:V}{H:Hp}{Q:Hp->Prop}(f:H a=some (aO vs)) (j:rK vs.length i=some k) (l:i.natAbs<2 ^ 62) (q:Q (aN H a<|aO<|vs.set k v)):uK (aB a) (aw i) v H Q:=fH (a:=a) rfl<|fH (congrArg uJ f)<|fH j ⟨l,q⟩
theorem kt {a:Nat}{vs:List V}{i:Int}{v:V}{H:Hp}{Q:V->Hp->Prop}(f:be H a=some vs) (j:eR vs i=some v) (l:i.natAbs<2 ^ 62) (q:Q v H):td (aB a) (aw i) H Q:=⟨l,fH f<|fH j q⟩
set_option tactic.hygienic true in
theorem BR {a i:Nat}{vs:List V}{H:Hp}{k:(List V->Hp->(V->Hp->Prop)->Prop)->Prop}(f:be H a=some vs) (j:i<4) (h:k (λvs l Q=>gZ (aB a) i vs l Q)):rO Φ (aB a) i H k:=by
 unfold be at f;show jf (pf<|H a) _ (jf (be H a) _ _);unfold be;split at f
 .rename_i vs e;rw [e];exact ⟨j,h⟩
 .rename_i vs e;rw [e];exact ⟨j,h⟩
 .cases f
def tI:List (List Nat×List Nat):=[([57],jy),([90],sh),([42],lx),([46],mA),([86],jp),([80],ja),([66],kq),([48],kq),([47],kq),([44],kq)]
def lA (s:List Nat):List Nat:=(tI.lookup s).getD gg
def qT (j:List Nat) (f:List (List Nat)) (s:List Nat):List (List Nat):=f++[if s=j then (if f.any (·==dG) then qf else dG) else lA s]
def cu (aA:List (List Nat)):List (List Nat):=aA.foldl (qT<|de aA) []
theorem BS (j:List Nat):∀ (l:List (List Nat)) (f:List (List Nat)),(l.foldl (qT j) f).length=f.length+l.length
 | [],f=>rfl
 | s::r,f=>by rw [iH,BS j r,qT,cC,eQ,eQ,jQ];exact DB
def Nl (Φ:bG):Prop:=∀ (a:Nat) (aA:List (List Nat)) (H:Hp) (R:V->Hp->Prop),be H a=some (aA.map .str)->R (.str<|de aA) H->Φ 350 [aB a] H R bR
def wW:List (List Nat×V):=[([57], .str jy),([90], .str sh),([42], .str lx),([46], .str mA),([86], .str jp),([80], .str ja)]
def wX (d:List (List Nat×V)) (c:Nat):List (List Nat×V):=lr d [c]<|.str kq
theorem zef:[66,48,47,44].foldl wX wW=tI.map λp=>(p.1,V.str p.2):=rfl
theorem zeg:∀ (done f:List Nat) (c:Nat),done++c::f=[66,48,47,44]->(done.foldl wX wW).length<1000000:=by
 intro done f c h;have:done=[]\/done=[66]\/done=[66,48]\/done=[66,48,47]:=by
  cases done with
  | nil=>exact ba rfl
  | cons a r=>cases r with
   | nil=>cases h;exact aX<|ba rfl
   | cons b r=>cases r with
    | nil=>cases h;exact aX<|aX<|ba rfl
    | cons d r=>cases r with
     | nil=>cases h;exact aX<|aX<|aX rfl
     | cons e r=>simp at h
 rcases this with rfl | rfl | rfl | rfl <;> decide
theorem zeh (J:Nl Φ){a:Nat}{aA:List (List Nat)}{H:Hp}{R X:V->Hp->Prop}(U:be H a=some (aA.map .str)) (hl:aA.length<=1000) (h:∀ r,H r=none->R (aB r) (aN H r<|aO<|(cu aA).map .str)):c7 Φ 5 Ks [aB a] H R X:=by
 refine wF (m:=[some<|aB a,none,none,none,none,none,none,none]) rfl<|aH ?_;dsimp only [bV,bB,bD,aY,ib];refine ⟨by decide,λb hb=>aH ?_⟩;dsimp only [eA,dI,eL,gh];refine lz (xs:=[66,48,47,44]) (λc:Nat=>V.str [c]) rfl (by decide) (λdone m v=>∃x,m=[some<|aB a,some<|aB b,x,none,none,none,none,none]/\v=aN H b (gd<|done.foldl wX wW)) ⟨none,rfl,rfl⟩ ?_ ?_
 .rintro done c L m v W ⟨x,rfl,rfl⟩;refine ⟨trivial,_,rfl,λK k1 k2=>aH ?_⟩;dsimp only [bB,bD,gb,aY,aJ,gs,g0,aV];refine Nk (bw ..) (zeg _ _ _ W)<|aM<|k1 _ _ ⟨_,rfl,?_⟩;rw [qB];funext z;unfold aN;split <;> rfl
 .rintro m v ⟨x,rfl,rfl⟩;refine ⟨trivial,aH ?_⟩;have l:H.le (aN H b<|gd<|[66,48,47,44].foldl wX wW):=b8 _ hb;have F:aN H b (gd<|[66,48,47,44].foldl wX wW) b=some (gd<|tI.map λp=>(p.1,V.str p.2)):=by rw [bw,zef]
  generalize aN H b (gd<|[66,48,47,44].foldl wX wW)=H1 at l F;dsimp only [dZ,bX,aU,aP,c8,cj,aJ,g0];refine J _ aA _ _ (d7 l U) (iD (by decide) λf O=>⟨bC rfl,jz (m':=[some<|aB a,some<|aB b,x,some<|.str<|de aA,some<|aB f,none,none,none]) (by decide) rfl<|aH ?_⟩);dsimp only [eA,dI,aJ,g0];have l2:=l.tr<|b8 (aO []) O;have fb:f≠b:=(mS F O).symm;refine mB (d7 l2 U) (lz (xs:=aA) (λc:List Nat=>V.str c) rfl (by exact qa ‹_› rfl) (λdone m v=>∃x,m=[some<|aB a,some<|aB b,x,some<|.str<|de aA,some<|aB f,none,none,none]/\H.le v/\v b=some (gd<|tI.map λp=>(p.1,V.str p.2))/\v f=some (aO<|(done.foldl (qT<|de aA) []).map .str)) ⟨x,rfl,l2,lN F O,bw ..⟩ ?_ ?_)
  .rintro done c L m v W ⟨x,rfl,P,y,j⟩;refine ⟨⟨d7 P U,trivial⟩,_,rfl,λK k1 k2=>aH ?_⟩;have u:(done.foldl (qT<|de aA) []).length<16777216:=by
    have:=congrArg pS W;rw [BS];simp only [cC,eQ,jQ] at this ⊢;exact SG hl this
   have I:∀ r:List Nat,r=(if c=de aA then (if (done.foldl (qT<|de aA) []).any (·==dG) then qf else dG) else lA c)->
     K .next [some<|V.ref a,some<|aB b,some<|.str c,some<|.str<|de aA,some<|aB f,none,none,none] (aN v f<|aO<|(done.foldl (qT<|de aA) []).map .str++[.str r]):=by
    refine λr hr=>k1 _ _ ⟨_,rfl,mT _ P<|CH l O,(dQ fb.symm).trans y,?_⟩;rw [bw,qB,iH,zjV,qT,jw,hr];rfl
   dsimp only [bB,bD,bL,br,bf,aJ,gs,g0,dB];refine c0 (λq=>aH ?_) λq=>aH ?_
   .dsimp only [cL,aY,bU,aU,aP,dA,aV,br,bf,aJ,gs,g0];refine me j (by decide) ?_;dsimp only;refine tG (bE j)<|dR (λZ=>?_) λZ=>?_
    .refine lO j (by rw [cN];exact u)<|aM<|aM<|I _ ?_;rw [if_pos q];exact (if_pos Z).symm
    .refine lO j (by rw [cN];exact u)<|aM<|aM<|I _ ?_;rw [if_pos q];exact (if_neg λz=>Rw<|Z.symm.trans z).symm
   .dsimp only [cL,aY,bU,aU,aP,aV,aJ,gs,g0];refine me j (by decide) ?_;dsimp only;refine Nc y ?_;dsimp only;refine Nd y ?_;rw [Ni];have e:((tI.lookup c).map V.str).getD (.str gg)= .str (lA c):=by unfold lA;cases tI.lookup c <;> rfl
    refine lO j (by rw [cN];exact u)<|aM<|aM ?_;rw [show ([102,105,120,101,100]:List Nat)=gg from rfl,e];exact I _ (by rw [if_neg q])
  .rintro m v ⟨x,rfl,P,y,j⟩;refine ⟨⟨d7 P U,trivial⟩,aH ?_⟩;dsimp only [cy,cx,aJ,gs,g0];exact kZ (BO P j)<|h _<|CH l O
theorem BU {f:Type}(l:List f) (k:Nat):eR l (k:Int)=l[k]?:=by
 unfold eR;rw [if_pos (by exact lf _),jm]
theorem u7 {x:Nat}{vs:List V}{H:Hp}{Q:V->Hp->Prop}(f:be H x=some vs) (j:vs.length<=16777216) (q:Q (aw vs.length) H):gr gV [aB x] H Q:=by
 show (match be H x with | some vs=>vs.length<=16777216/\Q (aw vs.length) H | none=>False);rw [f];exact ⟨j,q⟩
theorem BV {s:List Nat}{i:Int}{c:Nat}{H:Hp}{Q:V->Hp->Prop}(f:eR s i=some c) (j:i.natAbs<2 ^ 62) (q:Q (.str [c]) H):td (.str s) (aw i) H Q:=⟨j,fH f q⟩
theorem wY {b c:Bool}{P:Bool->Prop}{B:Prop}(f:P c->B) (h:P (b || c)):if b=false then B else P b:=by
 cases b
 .exact f h
 .exact h
structure Lay where
 bx:List Nat
 neg:Bool
 fill:List Nat
 next:Nat
 cnt:Bool
 gT:Bool
 fz:Int
 found:List (List Nat)
noncomputable def zko:Lay:=⟨[],false,[],0,false,false,0,[]⟩
noncomputable def fM (L:Lay) (f:Nat):List (Nat×V):=[(26, .str L.bx),(27,aZ L.neg),(28, .str L.fill),(29,aw L.next),(30,aB f),(31,aZ L.cnt),(32,aZ L.gT),(33,aw L.fz)]
structure jh (H:Hp) (a d f:Nat) (L:Lay):Prop where
 h1:H a=some (fG 423 d)
 h2:H d=some (bP<|fM L f)
 h3:H f=some (aO<|L.found.map .str)
def SameBut (d f:Nat) (H j:Hp):Prop:=∀ b,b≠d->b≠f->j b=H b
theorem SameBut.rf {d f:Nat}{H:Hp}:SameBut d f H H:=λ_ _ _=>rfl
theorem SameBut.tr {d f:Nat}{A B C:Hp}(x:SameBut d f A B) (y:SameBut d f B C):SameBut d f A C:=λb j l=>(y b j l).trans (x b j l)
theorem jh.ad {H:Hp}{a d f:Nat}{L:Lay}(x:jh H a d f L):a≠d:=by rintro rfl;have:=x.h1.symm.trans x.h2;cases this
theorem jh.af {H:Hp}{a d f:Nat}{L:Lay}(x:jh H a d f L):a≠f:=by rintro rfl;have:=x.h1.symm.trans x.h3;cases this
theorem jh.df {H:Hp}{a d f:Nat}{L:Lay}(x:jh H a d f L):d≠f:=by rintro rfl;have:=x.h2.symm.trans x.h3;cases this
theorem jh.wZ {H:Hp}{a d f:Nat}{L L':Lay}(x:jh H a d f L) (e:L'.found=L.found):jh (aN H d<|bP<|fM L' f) a d f L'/\SameBut d f H (aN H d<|bP<|fM L' f):=
 ⟨⟨(dQ x.ad).trans x.h1,bw ..,by rw [dQ x.df.symm,e];exact x.h3⟩,λb j l=>dQ j⟩
theorem jh.put {H:Hp}{a d f:Nat}{L:Lay}(x:jh H a d f L) (t:List Nat):jh (aN H f<|aO<|L.found.map .str++[.str t]) a d f {L with found:=L.found++[t]}/\SameBut d f H (aN H f<|aO<|L.found.map .str++[.str t]):=
 ⟨⟨(dQ x.af).trans x.h1,(dQ x.df).trans x.h2,by rw [bw,jw];rfl⟩,λb l j=>dQ j⟩
noncomputable def lB (L:Lay):Lay:={L with fz:=L.found.length,found:=L.found++[L.fill]}
def FG (Φ:bG):Prop:=∀ (a d f:Nat) (L:Lay) (H:Hp) (R:V->Hp->Prop),jh H a d f L->L.found.length<10000->(∀ j,SameBut d f H j->jh j a d f (lB L)->R cz j)->Φ 406 [aB a] H R bR
theorem zei {a d f:Nat}{L:Lay}{H:Hp}{R X:V->Hp->Prop}(x:jh H a d f L) (p:L.found.length<10000) (h:∀ l,SameBut d f H l->jh l a d f (lB L)->R cz l):c7 Φ 1 KX [aB a] H R X:=by
 refine wF (m:=[some<|aB a,none,none,none]) rfl<|aH ?_;refine bN x.h1 x.h2 (rfl:(fM L f).lookup 30=some (aB f)) rfl (u7 (bE x.h3) (by rw [cN];exact SH p)<|dH x.h1 x.h2 (by decide:8<1000) rfl<|aH ?_);rw [cN];obtain ⟨j,r⟩:=x.wZ (L':={L with fz:=L.found.length}) rfl;rw [show i9 (fM L f) 33 (aw L.found.length)=fM {L with fz:=L.found.length} f from rfl];generalize aN H d (bP<|fM {L with fz:=L.found.length} f)=y at j r;dsimp only [cL,aY,bU,aU,aP,bQ,aJ,g0];refine bN j.h1 j.h2 (rfl:(fM {L with fz:=(L.found.length:Int)} f).lookup 30=some (aB f)) rfl (me j.h3 (by decide) ?_);refine bN j.h1 j.h2 (rfl:(fM {L with fz:=(L.found.length:Int)} f).lookup 28=some (.str L.fill)) rfl (lO j.h3 (by rw [cN];exact xN p<|by decide)<|aM<|iV ?_);obtain ⟨u,v⟩:=j.put L.fill;exact h _ (r.tr v) u
def nO (L:Lay) (f:List Nat):Lay:=
 let c:=L.bx.getD L.next 0
 let L':={L with next:=L.next+1,gT:=L.gT || ly f,cnt:=L.cnt || (decide (f=jy) || !decide ([c]=[48]))}
 if L'.cnt then {L' with found:=L'.found++[[c]]} else lB L'
def BW (Φ:bG):Prop:=∀ (r:List Nat) (H:Hp) (R:V->Hp->Prop),R (aZ<|ly r) H->Φ 364 [.str r] H R bR
def Nm (Φ:bG):Prop:=∀ (a d f:Nat) (L:Lay) (j:List Nat) (H:Hp) (R:V->Hp->Prop),jh H a d f L->L.found.length<10000->L.next<L.bx.length->L.bx.length<10000->(∀ l,SameBut d f H l->jh l a d f (nO L j)->R cz l)->Φ 413 [aB a, .str j] H R bR
theorem zej (u:BW Φ) (v:FG Φ){a d f:Nat}{L:Lay}{j:List Nat}{H:Hp}{R X:V->Hp->Prop}(x:jh H a d f L) (W:L.found.length<10000) (Z:L.next<L.bx.length) (hf:L.bx.length<10000)
  (h:∀ y,SameBut d f H y->jh y a d f (nO L j)->R cz y):c7 Φ 3 KY [aB a, .str j] H R X:=by
 obtain ⟨c,hc⟩:∃c,L.bx[L.next]?=some c:=⟨_,lJ Z⟩;have F:L.bx.getD L.next 0=c:=by rw [sP,hc];rfl
 refine wF (m:=[some<|aB a,some<|.str j,none,none,none,none]) rfl<|aH ?_;dsimp only [bV,bB,bD,aY,cV,bQ,aJ,g0];refine bN x.h1 x.h2 (rfl:(fM L f).lookup 26=some (.str L.bx)) rfl (bN x.h1 x.h2 (rfl:(fM L f).lookup 29=some (aw L.next)) rfl<|BV ((BU _ _).trans hc) (by exact SI Z hf)<|aH ?_);dsimp only [ev,aY,aJ,g0,bT,aV,bQ];refine bN x.h1 x.h2 (rfl:(fM L f).lookup 29=some (aw L.next)) rfl ?_;dsimp only [cZ];refine dH x.h1 x.h2 (by decide:8<1000) rfl<|aH ?_;obtain ⟨r,s2⟩:=x.wZ (L':={L with next:=L.next+1}) rfl;rw [show i9 (fM L f) 29 (aw<|(L.next:Int)+1)=fM {L with next:=L.next+1} f from rfl];generalize aN H d (bP<|fM {L with next:=L.next+1} f)=H2 at r s2;dsimp only [ev,aY,aJ,g0,fT,fR,fQ,cj,aU,aP,gs,bQ];refine bN r.h1 r.h2 (rfl:(fM {L with next:=L.next+1} f).lookup 32=some (aZ L.gT)) rfl (wY (P:=λb=>th (aB a) 32 (aZ b) H2 _) (c:=ly j) (λq=>u _ _ _ q)<|dH r.h1 r.h2 (by decide:8<1000) rfl<|aH ?_);obtain ⟨p,I⟩:=r.wZ (L':={L with next:=L.next+1,gT:=L.gT || ly j}) rfl;rw [show i9 (fM {L with next:=L.next+1} f) 32 (aZ<|L.gT || ly j)=fM {L with next:=L.next+1,gT:=L.gT || ly j} f from rfl];have e:nO L j=(if (L.cnt || (decide (j=jy) || !decide ([c]=[48])))=true then {L with next:=L.next+1,gT:=L.gT || ly j,cnt:=L.cnt || (decide (j=jy) || !decide ([c]=[48])),found:=L.found++[[c]]}
   else lB {L with next:=L.next+1,gT:=L.gT || ly j,cnt:=L.cnt || (decide (j=jy) || !decide ([c]=[48]))}):=by unfold nO;rw [F]
 generalize (L.gT || ly j)=b at p I e ⊢;generalize aN H2 d (bP<|fM {L with next:=L.next+1,gT:=b} f)=J at p I;dsimp only [ev,aY,aJ,g0,fT,fR,fQ,fe,bf,aV,gs,fL,dB,bQ];refine bN p.h1 p.h2 (rfl:(fM {L with next:=L.next+1,gT:=b} f).lookup 31=some (aZ L.cnt)) rfl<|wY (P:=λb=>th (aB a) 31 (aZ b) J _) (c:=decide (j=jy) || !decide ([c]=[48])) (λq=>wY (P:=λb=>th (aB a) 31 (aZ b) J _) (λq=>q) q) ?_;generalize (L.cnt || (decide (j=jy) || !decide ([c]=[48])))=k at e ⊢;refine dH p.h1 p.h2 (by decide:8<1000) rfl<|aH ?_;obtain ⟨l,s4⟩:=p.wZ (L':={L with next:=L.next+1,gT:=b,cnt:=k}) rfl;rw [show i9 (fM {L with next:=L.next+1,gT:=b} f) 31 (aZ k)=fM {L with next:=L.next+1,gT:=b,cnt:=k} f from rfl];generalize aN J d (bP<|fM {L with next:=L.next+1,gT:=b,cnt:=k} f)=H4 at l s4;have s0:=(s2.tr I).tr s4;dsimp only [bL,ee,bQ,aJ,g0];refine bN l.h1 l.h2 (rfl:(fM {L with next:=L.next+1,gT:=b,cnt:=k} f).lookup 31=some (aZ k)) rfl<|dR (λq=>aH ?_) λq=>aH ?_
 .dsimp only [cL,aY,bU,aU,aP,aJ,gs,g0,bQ];refine bN l.h1 l.h2 (rfl:(fM {L with next:=L.next+1,gT:=b,cnt:=k} f).lookup 30=some (aB f)) rfl (me l.h3 (by decide) ?_);refine lO l.h3 (by rw [cN];exact xN W<|by decide)<|aM<|aM<|iV ?_;obtain ⟨O,U⟩:=l.put [c];refine h _ (s0.tr U) ?_;rw [e,if_pos q];exact O
 .dsimp only [cL,aY,bU,aP,aJ,g0];refine hZ l.h1 l.h2 (rfl:gf 423 23=some 406) rfl ?_;refine v a d f _ _ _ l W λy U O=>aM<|aM<|iV<|h _ (s0.tr U) ?_;rw [e,if_neg λz:k=true=>Rw<|(show k=false from q).symm.trans z];exact O
def nP (L:Lay) (f sign:List Nat):Lay:=
 if (decide (f=jy) || ly f)=true then nO L f
 else if f=dG then lB {L with gT:=true}
 else if (decide (f=kq) && (L.gT && !L.cnt))=true then lB L
 else if f=kq then {L with found:=L.found++[oG sign]}
 else if f=gg then {L with found:=L.found++[fJ sign L.neg]}
 else if f≠ja then {L with cnt:=true,found:=L.found++[if f=mA then sign else []]}
 else L
def Nn (Φ:bG):Prop:=∀ (s:List Nat) (H:Hp) (R:V->Hp->Prop),R (.str<|oG s) H->Φ 385 [.str s] H R bR
def FI (Φ:bG):Prop:=∀ (s:List Nat) (neg:Bool) (H:Hp) (R:V->Hp->Prop),R (.str<|fJ s neg) H->Φ 378 [.str s,aZ neg] H R bR
def No (Φ:bG):Prop:=∀ (a d f:Nat) (L:Lay) (j sign:List Nat) (H:Hp) (R:V->Hp->Prop),jh H a d f L->L.found.length<10000->((decide (j=jy) || ly j)=true->L.next<L.bx.length)->L.bx.length<10000->
 (∀ l,SameBut d f H l->jh l a d f (nP L j sign)->R cz l)->Φ 420 [aB a, .str j, .str sign] H R bR
theorem zek (I:BW Φ) (J:FI Φ) (O:Nn Φ) (u:FG Φ) (P:Nm Φ){a d f:Nat}{L:Lay}{j sign:List Nat}{H:Hp}{R X:V->Hp->Prop}(x:jh H a d f L) (hl:L.found.length<10000)
  (hn:(decide (j=jy) || ly j)=true->L.next<L.bx.length) (hf:L.bx.length<10000) (h:∀ y,SameBut d f H y->jh y a d f (nP L j sign)->R cz y):c7 Φ 3 KZ [aB a, .str j, .str sign] H R X:=by
 have p:(L.found.map V.str).length<16777216:=by rw [cN];exact xN hl (by decide)
 refine wF (m:=[some<|aB a,some<|.str j,some<|.str sign,none,none,none]) rfl<|aH ?_;dsimp only [bL,eT,eV,eU,ee,cj,aU,aP,aJ,gs,g0,br,bf,aV,dB];refine FF (c:=ly j) (λq=>I _ _ _ q)<|dR (λv=>aH ?_) λv=>aH ?_
 .dsimp only [cL,aY,bU,aU,aP,aJ,gs,g0];refine hZ x.h1 x.h2 (rfl:gf 423 24=some 413) rfl ?_;dsimp only;refine P a d f L j _ _ x hl (hn v) hf λy s U=>aM<|aM<|iV<|h _ s ?_;rw [show nP L j sign=nO L j from if_pos v];exact U
 dsimp only [bL,br,bf,aV,aJ,gs,g0,dB];refine c0 (λF=>aH ?_) λF=>aH ?_
 .dsimp only [ev,aY,aJ,g0,aV];refine dH x.h1 x.h2 (by decide:8<1000) rfl<|aH ?_;obtain ⟨l,r⟩:=x.wZ (L':={L with gT:=true}) rfl;rw [show i9 (fM L f) 32 (aZ true)=fM {L with gT:=true} f from rfl];generalize aN H d (bP<|fM {L with gT:=true} f)=H2 at l r;dsimp only [cL,aY,bU,aP,aJ,g0];refine hZ l.h1 l.h2 (rfl:gf 423 23=some 406) rfl ?_;dsimp only;refine u a d f _ _ _ l hl λy s U=>aM<|aM<|aM<|iV<|h _ (r.tr s) ?_;rw [show nP L j sign=lB {L with gT:=true} from (if_neg<|ne_true_of_eq_false v).trans (if_pos F)];exact U
 dsimp only [bL,dN,db,cX,gQ,ee,bQ,aJ,g0,br,bf,aV,gs,dB];refine FE (c:=L.gT && !L.cnt) (λq=>bN x.h1 x.h2 (rfl:(fM L f).lookup 32=some (aZ L.gT)) rfl<|FE (c:= !L.cnt) (λq=>bN x.h1 x.h2 (rfl:(fM L f).lookup 31=some (aZ L.cnt)) rfl q) q)<|dR (λW=>aH ?_) λW=>aH ?_
 .dsimp only [cL,aY,bU,aP,aJ,g0];refine hZ x.h1 x.h2 (rfl:gf 423 23=some 406) rfl ?_;dsimp only;refine u a d f _ _ _ x hl λy s U=>aM<|aM<|aM<|aM<|iV<|h _ s ?_;rw [show nP L j sign=lB L from (if_neg<|ne_true_of_eq_false v).trans ((if_neg F).trans (if_pos W))];exact U
 dsimp only [bL,br,bf,aV,aJ,gs,g0,dB];refine c0 (λq4=>aH ?_) λq4=>aH ?_
 .dsimp only [cL,aY,bU,aU,aP,cj,aJ,gs,g0,bQ];refine bN x.h1 x.h2 (rfl:(fM L f).lookup 30=some (aB f)) rfl (me x.h3 (by decide) ?_);dsimp only;refine O _ _ _<|lO x.h3 p<|aM<|aM<|aM<|aM<|aM<|iV ?_;obtain ⟨l,r⟩:=x.put<|oG sign;refine h _ r ?_;rw [show nP L j sign={L with found:=L.found++[oG sign]} from (if_neg<|ne_true_of_eq_false v).trans ((if_neg F).trans ((if_neg<|ne_true_of_eq_false W).trans (if_pos q4)))];exact l
 dsimp only [bL,br,bf,aV,aJ,gs,g0,dB];refine c0 (λq5=>aH ?_) λq5=>aH ?_
 .dsimp only [cL,aY,bU,aU,aP,cj,bQ,aJ,g0,gs];refine bN x.h1 x.h2 (rfl:(fM L f).lookup 30=some (aB f)) rfl (me x.h3 (by decide) ?_);dsimp only;refine bN x.h1 x.h2 (rfl:(fM L f).lookup 27=some (aZ L.neg)) rfl<|J _ _ _ _<|lO x.h3 p<|aM<|aM<|aM<|aM<|aM<|aM<|iV ?_;obtain ⟨l,r⟩:=x.put<|fJ sign L.neg;refine h _ r ?_;rw [show nP L j sign={L with found:=L.found++[fJ sign L.neg]} from (if_neg<|ne_true_of_eq_false v).trans ((if_neg F).trans ((if_neg<|ne_true_of_eq_false W).trans ((if_neg q4).trans (if_pos q5))))];exact l
 dsimp only [bL,br,bf,aV,aJ,gs,g0,fL];have e5:nP L j sign=if j≠ja then {L with cnt:=true,found:=L.found++[if j=mA then sign else []]} else L:=(if_neg<|ne_true_of_eq_false v).trans ((if_neg F).trans ((if_neg<|ne_true_of_eq_false W).trans ((if_neg q4).trans (if_neg q5))))
 refine oI (λq6=>aH ?_) λq6=>?_
 .rw [if_pos<|show j≠ja from q6] at e5;dsimp only [ev,aY,aJ,g0,aV];refine dH x.h1 x.h2 (by decide:8<1000) rfl<|aH ?_;obtain ⟨l,r⟩:=x.wZ (L':={L with cnt:=true}) rfl;rw [show i9 (fM L f) 31 (aZ true)=fM {L with cnt:=true} f from rfl];generalize aN H d (bP<|fM {L with cnt:=true} f)=H2 at l r;have Z:∀ t:List Nat,t=(if j=mA then sign else [])->R cz (aN H2 f<|aO<|L.found.map .str++[.str t]):=λt ht=>by
   obtain ⟨x3,s3⟩:=l.put t;refine h _ (r.tr s3) ?_;rw [e5,<-ht];exact x3
  dsimp only [cL,aY,bU,aU,aP,dA,aJ,gs,g0,aV,br,bf,dB,bQ];refine bN l.h1 l.h2 (rfl:(fM {L with cnt:=true} f).lookup 30=some (aB f)) rfl (me l.h3 (by decide) ?_);dsimp only;exact c0 (λq7=>lO l.h3 p<|aM<|aM<|aM<|aM<|aM<|aM<|aM<|iV<|Z _ (if_pos q7).symm) λq7=>lO l.h3 p<|aM<|aM<|aM<|aM<|aM<|aM<|aM<|iV<|Z _ (if_neg q7).symm
 .rw [if_neg λz:j≠ja=>z q6] at e5;refine aM<|aM<|aM<|aM<|aM<|aM<|aM<|iV<|h _ .rf ?_;rw [e5];exact x
theorem BX {C f:Nat}{vs:List V}{H:Hp}{Q:V->Hp->Prop}(j:yq C=some f) (h:∀ a d,a≠d->H a=none->H d=none->Φ f (aB a::vs) (aN (aN H d<|bP []) a<|fG C d) (λr l=>match r with | cz=>Q (aB a) l | _=>False) bR):BN Φ C Q vs H:=by
 dsimp only [BN];rw [j];exact h
theorem nQ (s a b:List Nat) (H:Hp) (K:Bool->Prop):gq dU (.str s) (d8 [.str a, .str b]) H K=K ([a,b].any (·==s)):=rfl
theorem yW (s a b c:List Nat) (H:Hp) (K:Bool->Prop):gq dU (.str s) (d8 [.str a, .str b, .str c]) H K=K ([a,b,c].any (·==s)):=rfl
theorem FJ (s a b c d:List Nat) (H:Hp) (K:Bool->Prop):gq dU (.str s) (d8 [.str a, .str b, .str c, .str d]) H K=K ([a,b,c,d].any (·==s)):=rfl
theorem zel (s a b:List Nat) (H:Hp) (K:Bool->Prop):gq kC (.str s) (d8 [.str a, .str b]) H K=K (!([a,b].any (·==s))):=rfl
def qu (bx:List Nat) (neg:Bool) (fill:List Nat):Lay:=⟨bx,neg,fill,0,false,false,-1,[]⟩
def Np (Φ:bG):Prop:=∀ (a d:Nat) (bx:List Nat) (neg:Bool) (fill:List Nat) (H:Hp) (R:V->Hp->Prop),H a=some (fG 423 d)->H d=some (bP [])->
 (∀ j f,H f=none->SameBut d f H j->jh j a d f (qu bx neg fill)->R cz j)->Φ 399 [aB a, .str bx,aZ neg, .str fill] H R bR
theorem zem {a d:Nat}{bx:List Nat}{neg:Bool}{fill:List Nat}{H:Hp}{R X:V->Hp->Prop}(r:H a=some (fG 423 d)) (u:H d=some (bP []))
  (h:∀ y f,H f=none->SameBut d f H y->jh y a d f (qu bx neg fill)->R cz y):c7 Φ 4 K5 [aB a, .str bx,aZ neg, .str fill] H R X:=by
 have ad:a≠d:=by rintro rfl;rw [r] at u;cases u
 refine wF (m:=[some<|aB a,some<|.str bx,some<|aZ neg,some<|.str fill,none,none,none]) rfl<|aH ?_;have v:∀ (H:Hp) (l j:List (Nat×V)),aN (aN H d<|bP l) d (bP j)=aN H d (bP j):=λH l j=>by funext z;unfold aN;split <;> rfl
 have A:∀ l,aN H d (bP l) a=some (fG 423 d):=λl=>(dQ ad).trans r;refine dH r u (by decide:0<1000) rfl<|aH ?_;refine dH (A _) (bw ..) (by decide:1<1000) rfl<|aH ?_;rw [v];refine dH (A _) (bw ..) (by decide:2<1000) rfl<|aH ?_;rw [v];refine dH (A _) (bw ..) (by decide:3<1000) rfl<|aH ?_;rw [v];rw [show i9 (i9 (i9 (i9 [] 26<|.str bx) 27<|aZ neg) 28<|.str fill) 29 (aw 0)=[(26, .str bx),(27,aZ neg),(28, .str fill),(29,aw 0)] from rfl];dsimp only [ev,aY,aJ,g0,c8,aP];refine iD (bC rfl) λf F=>?_;have I:d≠f:=mS (bw H d _) F;have L:a≠f:=mS (A _) F;have J:H f=none:=(dQ I.symm).symm.trans F;have B:∀ l,aN (aN H f<|aO []) d (bP l) a=some (fG 423 d):=λl=>(dQ ad).trans ((dQ L).trans r);have O:∀ l,aN (aN H d<|bP l) f (aO [])=aN (aN H f<|aO []) d (bP l):=λl=>by
  funext z;unfold aN
  by_cases q:z=f
  .subst q;rw [if_pos rfl,if_neg I.symm,if_pos rfl]
  .rw [if_neg q,if_neg q]
 rw [O];have p:∀ (l j:List (Nat×V)),aN (aN (aN H f<|aO []) d<|bP l) d (bP j)=aN (aN H f<|aO []) d (bP j):=λl j=>v _ l j;refine dH (B _) (bw ..) (by decide:4<1000) rfl<|aH ?_;rw [p];refine dH (B _) (bw ..) (by decide:5<1000) rfl<|aH ?_;rw [p];refine dH (B _) (bw ..) (by decide:6<1000) rfl<|aH ?_;rw [p];refine dH (B _) (bw ..) (by decide:7<1000) rfl<|aM ?_;rw [p];refine iV<|h _ f J (λb r u=>(dQ r).trans (dQ u)) ⟨B _,bw ..,(dQ I.symm).trans (bw ..)⟩
def oJ (q:List Nat×List Nat):List Nat:=if [jp,ja].any (·==q.1)=true then [] else if q.1=mA then q.2 else bY q.2.length 42
def u8 (f aA:List (List Nat)) (j:Nat):List Nat:=if f.any (·==lx)=true then ((f.zip aA).map oJ).flatten else bY j 32
theorem yX (c n:Nat):(bY n [c]).flatten=bY n c:=wU c n
def Nq (Φ:bG):Prop:=∀ (p a b:Nat) (l:List (List Nat×Nat)) (Dg:Nat) (sc:Int) (f:Nat) (aA j:List (List Nat)) (H:Hp) (R:V->Hp->Prop),hV H p l Dg sc f->be H a=some (aA.map .str)->be H b=some (j.map .str)->f<=9999->aA.length<=1000->(∀ s∈aA,s.length<=2)->
 R (.str<|u8 j aA f) H->Φ 432 [aB p,aB a,aB b] H R bR
theorem zen (l:List (List Nat×List Nat)) (h:∀ q∈l,q.2.length<=2):(l.map oJ).flatten.length<=2*l.length:=by
 induction l with
 | nil=>exact dM _
 | cons q r j=>
  rw [eF,lj,cC,eQ];have f:=h q dh;have p:=j λq u=>h q<|dz _ u;have v:(oJ q).length<=2:=by
   unfold oJ;split
   .exact zP _
   .split
    .exact f
    .rw [kJ];exact f
  exact SJ p v
theorem BY:∀ (xs ys:List (List Nat)),CL (λx y=>V.tup [x,y]) (xs.map V.str) (ys.map V.str)=(xs.zip ys).map λq=>V.tup [.str q.1, .str q.2]
 | [],_=>rfl
 | _::_,[]=>rfl
 | x::xs,y::ys=>by rw [eF,eF,List.zipWith_cons_cons,List.zip_cons_cons,eF,BY xs ys]
theorem u9 {j p:Type}(f:j->p):∀ l:List j,l.filterMap (λx=>some<|f x)=l.map f
 | []=>rfl
 | x::r=>by rw [sR,eF,u9 f r]
theorem zeo {p a b:Nat}{r:List (List Nat×Nat)}{Dg:Nat}{sc:Int}{l:Nat}{aA j:List (List Nat)}{H:Hp}{R X:V->Hp->Prop}(P:hV H p r Dg sc l) (F:be H a=some (aA.map .str)) (u:be H b=some (j.map .str))
  (hs:l<=9999) (L:aA.length<=1000) (O:∀ s∈aA,s.length<=2) (h:R (.str<|u8 j aA l) H):c7 Φ 3 Kx [aB p,aB a,aB b] H R X:=by
 obtain ⟨dd,fs,y,U,W,e3,e4,e5,e6,Z⟩:=P.h;refine wF (m:=[some<|aB p,some<|aB a,some<|aB b,none,none,none]) rfl<|aH ?_;dsimp only [bL,br,bf,aJ,gs,g0,aV];refine tH u<|dR (λq=>aH ?_) λq=>aM<|aH ?_
 .dsimp only [cy,cx,bT,bQ,aJ,g0,eL];refine bN U W Z rfl ?_;dsimp only [gG];refine ⟨by rw [jm];exact fP (zjW (dM 1) hs) (by decide),by exact lf _,by exact nq.mpr (qa ‹_› rfl),eG ?_⟩;rw [jm,yX];have e:u8 j aA l=bY l 32:=if_neg (by
   intro z;rw [show ([115,116,97,114]:List Nat)=lx from rfl,z] at q;cases q)
  rw [e] at h;exact h
 .have e:u8 j aA l=((j.zip aA).map oJ).flatten:=if_pos (by
   rw [show ([115,116,97,114]:List Nat)=lx from rfl] at q;cases z:j.any (·==lx) with
   | true=>rfl
   | false=>rw [z] at q;cases q)
  rw [e] at h;have hz:(j.zip aA).length<=1000:=by rw [ya];exact yj L
  have v:∀ q∈j.zip aA,q.2.length<=2:=λq v=>O _ (zjX v).2;dsimp only [cy,cx,bU,aU,aP,dY,g9,aJ,gs,g0,aV];refine si (aX rfl) ?_;dsimp only;refine FA u F ?_;rw [BY];refine md (xs:=j.zip aA) (λq=>V.tup [.str q.1, .str q.2]) rfl (by exact qa ‹_› rfl) (λq=>some<|.str<|oJ q) (λI=>I=H) rfl ?_ ?_
  .rintro q I hm rfl;refine ⟨⟨u,F,trivial⟩,_,rfl,λK1 K0 k1 k0=>?_⟩;dsimp only [bB,bD,dA,aV,aJ,gs,g0,bT,cK,aU,aP,fK,gG,br,bf,dB,bX,nQ,cX];refine ⟨bC rfl,dR (λz=>k1 _ _ (congrArg (λx=>some<|V.str x)<|if_pos z) rfl) λz=>?_⟩
   .refine c0 (λJ=>k1 _ _ (congrArg (λx=>some<|V.str x)<|(if_neg<|ne_true_of_eq_false z).trans (if_pos J)) rfl) λJ=>?_
    .have:=v q hm;refine ⟨by exact qa ‹_› rfl,?_,by exact lf _,by exact nq.mpr (qa ‹_› rfl),k1 _ _ (congrArg (λx=>some<|V.str x)<|(if_neg<|ne_true_of_eq_false z).trans ((if_neg J).trans ?_)) rfl⟩
     .rw [jm];show 1*q.2.length<=_;exact Iz this
     .rw [jm,yX]
  .rintro I rfl;refine ⟨⟨u,F,trivial⟩,λf hf=>?_⟩;refine u6 (bE<|bw ..) ((congrArg kD<|(u9 (λq=>V.str<|oJ q) _).trans (lm (f:=oJ) (g:=V.str)).symm).trans (strs_map _)) ?_<|kZ (b8 _ hf) h;have:=zen _ v;exact IB hz this
noncomputable def dy:Nat->bW->bW
 | 0,s=>s
 | n+1,s=>match s with
  | aE _ r=>dy n r
  | aK=>aK
def ii (r:List Nat):Bool:=decide (r=jy) || ly r
def jA (L:Lay) (q:List Nat×List Nat):Lay:=nP L q.1 q.2
theorem FK (L:Lay):(lB L).next=L.next/\(lB L).bx=L.bx/\(lB L).neg=L.neg/\(lB L).fill=L.fill/\(lB L).found.length=L.found.length+1/\(lB L).fz=L.found.length:=⟨rfl,rfl,rfl,rfl,by simp [lB],rfl⟩
def sG (L:Lay):Prop:=0<=L.fz/\L.fz<L.found.length
theorem Nr (L:Lay):sG (lB L):=by
 unfold sG;rw [(FK L).2.2.2.2.1,(FK L).2.2.2.2.2];exact SK
structure vb (L L':Lay) (k:Nat):Prop where
 nx:L'.next=L.next+k
 fg:L'.bx=L.bx
 ng:L'.neg=L.neg
 fl:L'.fill=L.fill
 ln:L.found.length<=L'.found.length/\L'.found.length<=L.found.length+1
 va:sG L->sG L'
theorem FL {L L':Lay}{k:Nat}(h:vb L L' k) (e:L'.found=L.found):vb L (lB L') k:=
 ⟨h.nx,h.fg,h.ng,h.fl,by rw [(FK L').2.2.2.2.1,e];exact SL,λ_=>Nr L'⟩
theorem FM {L:Lay}{t:List Nat}{c:Bool}:vb L {L with cnt:=c,found:=L.found++[t]} 0:=
 ⟨rfl,rfl,rfl,rfl,by simp,λ⟨a,b⟩=>⟨a,by simp only [cC,eQ,jQ];exact IC b⟩⟩
theorem zep (L:Lay) (f:List Nat):vb L (nO L f) 1:=by
 unfold nO;dsimp only;split
 .exact ⟨rfl,rfl,rfl,rfl,by simp,λ⟨a,b⟩=>⟨a,by simp only [cC,eQ,jQ];exact IC b⟩⟩
 .exact FL ⟨rfl,rfl,rfl,rfl,⟨dM _,qz _⟩,λh=>h⟩ rfl
theorem FN (L:Lay) (f sign:List Nat):vb L (nP L f sign) (if ii f then 1 else 0):=by
 unfold nP ii;split
 .exact zep L f
 .split
  .exact FL ⟨rfl,rfl,rfl,rfl,⟨dM _,qz _⟩,λh=>h⟩ rfl
  .split
   .exact FL ⟨rfl,rfl,rfl,rfl,⟨dM _,qz _⟩,λh=>h⟩ rfl
   .split
    .exact FM
    .split
     .exact FM
     .split
      .exact FM
      .exact ⟨rfl,rfl,rfl,rfl,⟨dM _,qz _⟩,λh=>h⟩
theorem zeq (L:Lay) (sign:List Nat):sG (nP L dG sign):=by
 rw [show nP L dG sign=lB {L with gT:=true} from rfl];exact Nr _
def jW (l:List (List Nat×List Nat)):Nat:=l.countP λq=>ii q.1
theorem Nt (L:Lay):∀ done:List (List Nat×List Nat),(done.foldl jA L).next=L.next+jW done/\(done.foldl jA L).bx=L.bx/\(done.foldl jA L).neg=L.neg/\(done.foldl jA L).fill=L.fill/\(done.foldl jA L).found.length<=L.found.length+done.length/\((sG L\/∃q∈done,q.1=dG)->sG (done.foldl jA L)):=by
 intro done;induction done generalizing L with
 | nil=>exact ⟨rfl,rfl,rfl,rfl,dM _,λh=>h.elim id λ⟨_,h,_⟩=>nomatch h⟩
 | cons q r f=>
  rw [iH];refine D7 (f<|jA L q) λa1 a2 a3 a4 a5 j=>?_;have n:vb L (jA L q) _:=FN L q.1 q.2;refine ⟨?_,a2.trans n.fg,a3.trans n.ng,a4.trans n.fl,?_,λh=>j ?_⟩
  .rw [a1,n.nx,jW,jW,rG,Dp];exact congrArg (L.next+·)<|yb _ _
  .have:=n.ln.2;rw [eQ];exact ID a5 this
  .rcases h with h | ⟨l,hm,e⟩
   .exact ba<|n.va h
   .rcases cR.mp hm with rfl | hm
    .left;unfold jA;rw [e];exact zeq _ _
    .exact aX ⟨l,hm,e⟩
def jJ (f aA:List (List Nat)) (bx:List Nat) (neg:Bool):Lay:=(f.zip aA).foldl jA (qu bx neg (if f.any (·==lx)=true then [42] else [32]))
def qU (f:List (List Nat)):Nat:=f.findIdx (·==dG)
def mf (aA:List (List Nat)) (bx:List Nat) (neg:Bool):List (List Nat):=
 if (cu aA).any (·==dG)=true then (jJ (cu aA) aA bx neg).found.set (jJ (cu aA) aA bx neg).fz.toNat (fJ (aA.getD (qU<|cu aA) []) neg)
 else (jJ (cu aA) aA bx neg).found
def pA (aA:List (List Nat)) (f:Nat) (bx:List Nat) (neg j:Bool):List Nat:=
 if bx=bY bx.length 48 then (if j=true then bY f 32 else if (cu aA).any (·==jy)=true then (mf aA bx neg).flatten else u8 (cu aA) aA f)
 else (mf aA bx neg).flatten
def FO (Φ:bG):Prop:=∀ (p:Nat) (f:List (List Nat×Nat)) (Dg:Nat) (sc:Int) (j:Nat) (H:Hp) (R:V->Hp->Prop),hV H p f Dg sc j->(placesOf f).length<=1000->f.length<=1000->(∀ a,H a=none->R (aB a) (aN H a<|aO<|(placesOf f).map .str))->Φ 343 [aB p] H R bR
def FP (Φ:bG):Prop:=∀ (a:Nat) (aA:List (List Nat)) (H:Hp) (R:V->Hp->Prop),be H a=some (aA.map .str)->aA.length<=1000->(∀ r,H r=none->R (aB r) (aN H r<|aO<|(cu aA).map .str))->Φ 357 [aB a] H R bR
def Nu (Φ:bG):Prop:=∀ (p:Nat) (f:List (List Nat×Nat)) (Dg:Nat) (sc:Int) (j:Nat) (d:Int×Int) (H:Hp) (R:V->Hp->Prop),hV H p f Dg sc j->Dg<=18->d.2-sc<=18->sc-d.2<=1000->d.1.natAbs<2 ^ 64->
 R (d8 [.str<|bx Dg<|eS d sc Dg,aZ<|decide (d.1<0) && decide (0<eS d sc Dg)]) H->Φ 371 [aB p,g5 d] H R bR
structure Good (syms:List (List Nat×Nat)) (Dg:Nat) (size:Nat):Prop where
 h1:(placesOf syms).length<=1000
 h2:syms.length<=1000
 h3:Dg<=18
 h4:size<=9999
 h5:∀ s∈placesOf syms,s.length<=2
 h6:jW ((cu<|placesOf syms).zip (placesOf syms))<=Dg
def iO (f:List (List Nat×Nat)) (Dg:Nat) (sc:Int) (j:Nat) (d:Int×Int) (l:Bool):List Nat:=pA (placesOf f) j (bx Dg<|eS d sc Dg) (decide (d.1<0) && decide (0<eS d sc Dg)) l
theorem zes {xs:List (List Nat×List Nat)}{done f:List (List Nat×List Nat)}{q:List Nat×List Nat}(h:done++q::f=xs) (j:ii q.1=true):jW done<jW xs:=by
 subst h;unfold jW;rw [List.countP_append,rG,j,if_pos rfl];exact SM
abbrev FQ (Φ:bG) (p:Nat) (f:List (List Nat×Nat)) (Dg:Nat) (sc:Int) (j:Nat) (d:Int×Int) (l:Bool) (H:Hp) (R:V->Hp->Prop) (X:V->Hp->Prop):Prop:=∀ (r:FO Φ) (u:FP Φ) (v:Nu Φ) (y:FI Φ) (z:Np Φ) (F:No Φ) (I:Nq Φ) (P:hV H p f Dg sc j) (G:Good f Dg j) (L:d.2-sc<=18) (O:sc-d.2<=1000) (U:d.1.natAbs<2 ^ 64) (J:(mf (placesOf f) (bx Dg<|eS d sc Dg)<|decide (d.1<0) && decide (0<eS d sc Dg)).flatten.length<=16777216) (h:R (.str<|iO f Dg sc j d l) H),c7 Φ 10 A1 [aB p,g5 d,aZ l] H R X
abbrev Nv (t:(List<|List Nat×Nat)×(Int×Int)×Nat×Nat×Bool×Nat×Int×Hp×bG×(V->Hp->Prop)×(V->Hp->Prop)):Prop:=FQ t.2.2.2.2.2.2.2.2.1 t.2.2.2.2.2.1 t.1 t.2.2.1 t.2.2.2.2.2.2.1 t.2.2.2.1 t.2.1 t.2.2.2.2.1 t.2.2.2.2.2.2.2.1 t.2.2.2.2.2.2.2.2.2.1 t.2.2.2.2.2.2.2.2.2.2
@[irreducible] noncomputable def cr:(List<|List Nat×Nat)×(Int×Int)×Nat×Nat×Bool×Nat×Int×Hp×bG×(V->Hp->Prop)×(V->Hp->Prop):=nB (bM,bM,bM,bM,bM,bM,bM,bM,bM,bM,bM) Nv
@[irreducible] noncomputable def w3:Hp:=cr.2.2.2.2.2.2.2.1
theorem zet:FQ cr.2.2.2.2.2.2.2.2.1 cr.2.2.2.2.2.1 cr.1 cr.2.2.1 cr.2.2.2.2.2.2.1 cr.2.2.2.1 cr.2.1 cr.2.2.2.2.1 w3 cr.2.2.2.2.2.2.2.2.2.1 cr.2.2.2.2.2.2.2.2.2.2:=by
 intro a5 a6 a7 a8 a9 aa ac P G n1 n2 n3 l h;refine wF (m:=[some<|aB cr.2.2.2.2.2.1,some<|g5 cr.2.1,some<|aZ cr.2.2.2.2.1,none,none,none,none,none,none,none,none,none,none]) rfl<|aH ?_;refine a5 cr.2.2.2.2.2.1 cr.1 cr.2.2.1 cr.2.2.2.2.2.2.1 cr.2.2.2.1 _ _ P G.h1 G.h2 λa3 am=>aH ?_;have l1:=b8 (aO<|(placesOf cr.1).map .str) am;have F:be (aN w3 a3<|aO<|(placesOf cr.1).map .str) a3=some ((placesOf cr.1).map .str):=bE<|bw ..;generalize aN w3 a3 (aO<|(placesOf cr.1).map .str)=H1 at l1 F;refine a6 a3 _ _ _ F G.h1 λa4 ao=>aH ?_;have ae:=b8 (aO<|(cu<|placesOf cr.1).map .str) ao;have I:be (aN H1 a4<|aO<|(cu<|placesOf cr.1).map .str) a4=some ((cu<|placesOf cr.1).map .str):=bE<|bw ..;have F:=d7 ae F;have W:=l1.tr ae;generalize aN H1 a4 (aO<|(cu<|placesOf cr.1).map .str)=Z at W F I;have P2:=P.mono W;have au:(cu<|placesOf cr.1).length<=1000:=by unfold cu;rw [BS];simpa using G.h1
 dsimp only [dZ,cj,aU,aP,aJ,gs,g0];refine a7 cr.2.2.2.2.2.1 cr.1 cr.2.2.1 cr.2.2.2.2.2.2.1 cr.2.2.2.1 cr.2.1 _ _ P2 G.h3 n1 n2 n3 ?_;unfold iO at h;have J:(bx cr.2.2.1<|eS cr.2.1 cr.2.2.2.2.2.2.1 cr.2.2.1).length=cr.2.2.1:=wS _ _;have hD:=G.h3;generalize (decide (cr.2.1.1<0) && decide (0<eS cr.2.1 cr.2.2.2.2.2.2.1 cr.2.2.1))=neg at h l ⊢;generalize bx cr.2.2.1 (eS cr.2.1 cr.2.2.2.2.2.2.1 cr.2.2.1)=fg at h l J ⊢;have hs:=G.h1;have h6:=G.h6;have h5:=G.h5;have h4:=G.h4;generalize placesOf cr.1=aA at*;refine jz (m':=[some<|aB cr.2.2.2.2.2.1,some<|g5 cr.2.1,some<|aZ cr.2.2.2.2.1,some<|aB a3,some<|aB a4,some<|.str fg,some<|aZ neg,none,none,none,none,none,none]) (by decide) rfl<|aH ?_;have O:cr.2.2.2.2.2.2.2.2.2.1 (.str (mf aA fg neg).flatten) w3->cJ cr.2.2.2.2.2.2.2.2.1 (dy 4 A1) [some<|aB cr.2.2.2.2.2.1,some<|g5 cr.2.1,some<|aZ cr.2.2.2.2.1,some<|aB a3,some<|aB a4,some<|.str fg,some<|aZ neg,none,none,none,none,none,none] Z (cQ cr.2.2.2.2.2.2.2.2.2.1) (cP cr.2.2.2.2.2.2.2.2.2.2):=by
  refine λh=>aH ?_;dsimp only [bV,bB,bD,aY,gP,aU,aP,dA,aV,eL,br,bf,aJ,gs,g0];have mk:∀ fill:List Nat,fill=(if (cu aA).any (·==lx)=true then [42] else [32])->BN cr.2.2.2.2.2.2.2.2.1 423 (λv w3=>go cr.2.2.2.2.2.2.2.2.1 (dy 5 A1) (cQ cr.2.2.2.2.2.2.2.2.2.1) (cP cr.2.2.2.2.2.2.2.2.2.2) .next [some<|aB cr.2.2.2.2.2.1,some<|g5 cr.2.1,some<|aZ cr.2.2.2.2.1,some<|aB a3,some<|aB a4,some<|.str fg,some<|aZ neg,some v,none,none,none,none,none] w3) [.str fg,aZ neg, .str fill] Z:=by
   refine λfill a0=>BX rfl λa dd ag ha hd=>?_;have ap:aN Z dd (bP []) a=none:=(dQ ag).trans ha;refine a9 a dd fg neg fill _ _ (bw ..) ((dQ ag.symm).trans (bw ..)) λH3 f hf s3 x3=>aH ?_;have l3:Z.le (aN (aN Z dd<|bP []) a<|fG 423 dd):=(b8 _ hd).tr (b8 _ ap);have ah:Z f=none:=CH l3 hf;have j:∀ {L},SameBut dd f H3 L->Z.le L:=λ{L} s b o e=>by
    have b1:b≠dd:=mS e hd;have b2:b≠f:=mS e ah;rw [s b b1 b2,s3 b b1 b2];exact l3 _ _ e
   dsimp only [eA,g9,aJ,gs,g0];refine FA (d7 (j .rf) I) (d7 (j .rf) F) ?_;rw [BY];have ai:((cu aA).zip aA).length<=1000:=by rw [ya];exact yj hs
   refine lz (xs:=(cu aA).zip aA) (λq=>V.tup [.str q.1, .str q.2]) rfl (by exact qa ‹_› rfl) (λdone m L=>∃x8 x9,m=[some<|aB cr.2.2.2.2.2.1,some<|g5 cr.2.1,some<|aZ cr.2.2.2.2.1,some<|aB a3,some<|aB a4,some<|.str fg,some<|aZ neg,some<|aB a,x8,x9,none,none,none]/\SameBut dd f H3 L/\jh L a dd f (done.foldl jA (qu fg neg fill))) ⟨none,none,rfl, .rf,x3⟩ ?_ ?_
   .rintro done q ar m L aj ⟨x8,x9,rfl,y,p⟩;refine ⟨⟨d7 (j y) I,d7 (j y) F,trivial⟩,_,rfl,λK k1 k2=>aH ?_⟩;refine D7 (Nt (qu fg neg fill) done) λb1 b2 b3 b4 b5 _=>?_;have aq:done.length<1000:=by have:=congrArg pS aj;rw [cC,eQ] at this;exact IE ai this
    dsimp only [bB,bD,cL,aY,bU,aU,aP,aJ,gs,g0];refine hZ p.h1 p.h2 (rfl:gf 423 25=some 420) rfl ?_;refine aa a dd f _ _ _ _ _ p (by rw [show (qu fg neg fill).found.length=0 from rfl] at b5;exact SN b5 aq) (λhq=>?_) (by rw [b2];show fg.length< _;exact SO hD J) λH5 s5 x5=>aM (k1 _ _ ⟨_,_,rfl,y.tr s5,by rw [qB];exact x5⟩);rw [b1,b2];have:=zes aj hq;exact SP J h6 this
   .rintro m L ⟨x8,x9,rfl,y,p⟩;refine ⟨⟨d7 (j y) I,d7 (j y) F,trivial⟩,aH ?_⟩;refine D7 (Nt (qu fg neg fill)<|(cu aA).zip aA) λb1 b2 b3 b4 b5 b6=>?_;have hL:(((cu aA).zip aA).foldl jA (qu fg neg fill))=jJ (cu aA) aA fg neg:=by unfold jJ;rw [a0]
    rw [hL] at p b5 b6;have ak:(cu aA).length=aA.length:=by unfold cu;rw [BS];simp
    dsimp only [bL,br,bf,aJ,gs,g0,aV];refine tG (d7 (j y) I)<|dR (λq=>aH ?_) λq=>aM<|aH ?_
    .have q':(cu aA).any (·==dG)=true:=q;have al:(cu aA).findIdx? (·==dG)=some (qU<|cu aA):=by
      rw [List.findIdx?_eq_guard_findIdx_lt];have:(cu aA).findIdx (·==dG)<(cu aA).length:=R7 (by simpa using q');simp [Option.guard,qU,this]
     have a1:qU (cu aA)<aA.length:=by
      rw [<-ak];exact R7 (by simpa using q')
     have u:=b6 (aX (by
      refine bZ (o5.mp q') λr hr e=>?_;obtain ⟨i,hi,rfl⟩:=List.getElem_of_mem hr;exact ⟨((cu aA)[i],aA[i]'(by exact zi9 ‹_› ‹_›)),by
       have hz:i<((cu aA).zip aA).length:=by rw [ya];exact SQ ak hi
       have:=List.getElem_zip (h:=hz);rw [<-this];exact vW _,beq_iff_eq.mp e⟩))
     dsimp only [gb,aY,bQ,aJ,gs,g0,cj,aU,aP,cV,bU,aV];refine BR (d7 (j y) I) (by decide) (zd7 (n:=qU<|cu aA) (d7 (j y) I) ?_ (by exact SR hs a1) ?_)
     .show (kD _).bind _=_;rw [strs_map];exact al
     refine kt (v:= .str<|aA.getD (qU<|cu aA) []) (d7 (j y) F) ?_ (by exact SU hs a1) ?_
     .rw [BU,pQ,sP,lJ a1];rfl
     refine a8 _ _ _ _<|bN p.h1 p.h2 (rfl:(fM (jJ (cu aA) aA fg neg) f).lookup 30=some (aB f)) rfl<|bN p.h1 p.h2 (rfl:(fM (jJ (cu aA) aA fg neg) f).lookup 33=some (aw (jJ (cu aA) aA fg neg).fz)) rfl ?_;have a2:mf aA fg neg=_:=if_pos q';rw [a2] at h l;refine wV (k:=(jJ (cu aA) aA fg neg).fz.toNat) p.h3 ?_ (by unfold sG at u;rw [show (qu fg neg fill).found.length=0 from rfl] at b5;exact SV ai b5 u.1 u.2)<|aM<|aH ?_
     .unfold rK sG at*;rw [if_pos u.1,cN,if_pos u.2]
     have x5:aN L f (aO<|((jJ (cu aA) aA fg neg).found.map .str).set (jJ (cu aA) aA fg neg).fz.toNat (.str<|fJ (aA.getD (qU<|cu aA) []) neg)) f=some (aO<|((jJ (cu aA) aA fg neg).found.set (jJ (cu aA) aA fg neg).fz.toNat (fJ (aA.getD (qU<|cu aA) []) neg)).map .str):=by rw [bw,R8]
     dsimp only [cy,cx,bU,aU,aP,bQ,aJ,gs,g0,aV];exact si (aX rfl)<|bN ((dQ p.af).trans p.h1) ((dQ p.df).trans p.h2) (rfl:(fM (jJ (cu aA) aA fg neg) f).lookup 30=some (aB f)) rfl<|u6 (bE x5) (strs_map _) l<|kZ (mT _ (W.tr<|j y)<|CH W ah) h
    .have a2:mf aA fg neg=(jJ (cu aA) aA fg neg).found:=if_neg<|ne_true_of_eq_false q;rw [a2] at h l;dsimp only [cy,cx,bU,aU,aP,bQ,aJ,gs,g0,aV];exact si (aX rfl)<|bN p.h1 p.h2 (rfl:(fM (jJ (cu aA) aA fg neg) f).lookup 30=some (aB f)) rfl<|u6 (bE p.h3) (strs_map _) l<|kZ (W.tr<|j y) h
  exact tG I<|dR (λq=>mk _<|(if_pos q).symm) λq=>mk _<|(if_neg<|ne_true_of_eq_false q).symm
 have U:fg.length<=18:=by exact SW hD J
 dsimp only [bL,br,bf,bT,cK,aU,aP,aJ,gs,g0,fK,aV,gG,dB];refine ⟨by exact qa ‹_› rfl,?_,by exact lf _,by exact SX U,?_⟩
 .rw [jm];show 1*fg.length<=_;exact SY U
 rw [jm,yX];refine c0 (λq=>aH ?_) λq=>?_
 .dsimp only [bL,ee,aJ,gs,g0];refine dR (λq2=>aH ?_) λq2=>aM<|aH ?_
  .dsimp only [cy,cx,bT,bQ,aJ,g0,eL];obtain ⟨d2,av,y2,z1,z2,z3,z4,z5,z6,z7⟩:=P2.h;refine bN z1 z2 z7 rfl ?_;dsimp only [gG];refine ⟨by rw [jm];exact fP (zjW (dM 1) h4) (by decide),by exact lf _,by exact SZ h4,?_⟩;rw [jm,yX];have e:pA aA cr.2.2.2.1 fg neg cr.2.2.2.2.1=bY cr.2.2.2.1 32:=(if_pos q).trans (if_pos q2);rw [e] at h;exact kZ W h
  .dsimp only [bL,br,bf,aJ,gs,g0,aV];refine tH I<|dR (λq3=>aH ?_) λq3=>aM<|aM<|O ?_
   .dsimp only [cy,cx,cj,aU,aP,aJ,gs,g0];have e:pA aA cr.2.2.2.1 fg neg cr.2.2.2.2.1=u8 (cu aA) aA cr.2.2.2.1:=(if_pos q).trans ((if_neg<|ne_true_of_eq_false q2).trans (if_neg λz=>by
     rw [show ([102,105,103,117,114,101]:List Nat)=jy from rfl,z] at q3;cases q3))
    rw [e] at h;exact ac cr.2.2.2.2.2.1 a3 a4 cr.1 cr.2.2.1 cr.2.2.2.2.2.2.1 cr.2.2.2.1 aA _ _ _ P2 F I h4 hs h5<|kZ W h
   .have e:pA aA cr.2.2.2.1 fg neg cr.2.2.2.2.1=(mf aA fg neg).flatten:=(if_pos q).trans ((if_neg<|ne_true_of_eq_false q2).trans (if_pos (by
     rw [show ([102,105,103,117,114,101]:List Nat)=jy from rfl] at q3;cases z:(cu aA).any (·==jy) with
     | true=>rfl
     | false=>rw [z] at q3;cases q3)))
    rw [e] at h;exact h
 .refine aM<|O ?_;have e:pA aA cr.2.2.2.1 fg neg cr.2.2.2.2.1=(mf aA fg neg).flatten:=if_neg q;rw [e] at h;exact h
theorem zeu {Φ:bG}{p:Nat}{f:List (List Nat×Nat)}{Dg:Nat}{sc:Int}{j:Nat}{d:Int×Int}{l:Bool}{H:Hp}{R:V->Hp->Prop}{X:V->Hp->Prop}:FQ Φ p f Dg sc j d l H R X:=on (P:=Nv) (by with_unfolding_all exact zet) (f,d,Dg,j,l,p,sc,H,Φ,R,X)
theorem ints_map:∀ f:List Int,j6 (f.map aw)=some f
 | []=>rfl
 | i::r=>by rw [eF];show (j6<|r.map aw).map (i::·)=_;rw [ints_map r];rfl
theorem FR {x:Nat}{f:List Int}{H:Hp}{Q:V->Hp->Prop}(j:be H x=some (f.map aw)) (l:∀ i∈f,0<=i/\i<256) (p:f.length<=16777216) (q:Q (dw<|f.map CK) H):gr n5 [aB x] H Q:=by
 show (match be H x with
   | some vs=>(match j6 vs with | some f=>(∀ i∈f,0<=i/\i<256)/\vs.length<=16777216/\Q (dw<|f.map CK) H | none=>False)
   | none=>False)
 rw [j];dsimp only;rw [ints_map];exact ⟨l,by rw [cN];exact p,q⟩
theorem yY {s:List Nat}{i c:Nat}{H:Hp}{Q:V->Hp->Prop}(f:s.length<=16777216) (j:s[i]?=some c) (q:Q (aw c) H):td (dw s) (aw i) H Q:=⟨f,lf _,fH ((BU ..).trans j) q⟩
theorem FT {t:List Nat}{H:Hp}{Q:V->Hp->Prop}{i:Nat}{m m':Loc}(l:∀ c:Nat,(m.set i<|some<|.str [c])[i]?=some (some<|.str [c])) (p:t.length<=16777216) (j:∀ c∈t,c<256)
  (h:∀ a,H a=none->Q (aB a) (aN H a<|aO<|(t.map λc:Nat=>(c:Int)).map aw)):BL Φ (cA oS<|aC (az i) aI) (iF i) cM m Q (t.map λc=> .str [c]) [] H:=by
 refine md (xs:=t) (λc:Nat=>V.str [c]) rfl p (λc=>some<|aw c) (λf=>f=H) rfl ?_ ?_
 .rintro c f u rfl;refine ⟨trivial,_,rfl,λv y k1 k0=>?_⟩;dsimp only [cK,aU,aP,aJ,cX];rw [l];exact k1 _ _ rfl rfl
 .rintro f rfl;refine ⟨trivial,λa r=>?_⟩;rw [u9,show (t.map λc:Nat=>V.int c)=(t.map λc:Nat=>(c:Int)).map aw by rw [lm];rfl];exact h a r
theorem FU (t:List Nat):(t.map λc:Nat=>(c:Int)).map CK=t:=by
 rw [lm];conv=>rhs;rw [<-RI t]
 exact Q4 λc _=>jm c
theorem FV {t:List Nat}(h:∀ c∈t,c<256):∀ i∈(t.map λc:Nat=>(c:Int)),0<=i/\i<256:=λi j=>by
 refine bZ (kF.mp j) λc l f=>?_;subst f;have:=h c l;exact S3 this
def Nw (Φ:bG):Prop:=∀ (p:Nat) (f:List (List Nat×Nat)) (Dg:Nat) (sc:Int) (j:Nat) (d:Int×Int) (l:Bool) (H:Hp) (R:V->Hp->Prop),hV H p f Dg sc j->Good f Dg j->d.2-sc<=18->sc-d.2<=1000->d.1.natAbs<2 ^ 64->
 (mf (placesOf f) (bx Dg<|eS d sc Dg)<|decide (d.1<0) && decide (0<eS d sc Dg)).flatten.length<=16777216->R (.str<|iO f Dg sc j d l) H->Φ 439 [aB p,g5 d,aZ l] H R bR
theorem Nx (u:Nw Φ){p:Nat}{f:List (List Nat×Nat)}{Dg:Nat}{sc:Int}{j:Nat}{d:Int×Int}{l:Bool}{H:Hp}{R X:V->Hp->Prop}
  (P:hV H p f Dg sc j) (G:Good f Dg j) (z:d.2-sc<=18) (F:sc-d.2<=1000) (I:d.1.natAbs<2 ^ 64)
  (v:(mf (placesOf f) (bx Dg<|eS d sc Dg)<|decide (d.1<0) && decide (0<eS d sc Dg)).flatten.length<=16777216) (y:(iO f Dg sc j d l).length<=16777216) (r:∀ c∈iO f Dg sc j d l,c<256)
  (h:R (dw<|iO f Dg sc j d l) H):c7 Φ 3 Ej [aB p,g5 d,aZ l] H R X:=by
 refine wF (m:=[some<|aB p,some<|g5 d,some<|aZ l,none,none,none]) rfl<|aH ?_;dsimp only [cy,cx,cK,aU,aP,dY,dI,cj,aJ,gs,g0];refine u p f Dg sc j d l _ _ P G z F I v ?_;dsimp only [gh];refine FT (m':=[]) (λc=>rfl) y r λa J=>?_;refine FR (bE<|bw ..) (FV r) (by rw [cN];exact y)<|kZ (b8 _ J) ?_;rw [FU];exact h
structure Row where
 role:List Nat
 sign:List Nat
 at_:Nat
noncomputable def nR (r:Row):V:=d8 [.str r.role, .str r.sign,aw r.at_]
def jK (s:List Row×Nat) (q:List Nat×List Nat):List Row×Nat:=if [jp,ja].any (·==q.1)=true then s else (s.1++[⟨q.1,q.2,s.2⟩],s.2+q.2.length)
def jL (aA:List (List Nat)):List Row×Nat:=((cu aA).zip aA).foldl jK ([],0)
theorem zev (s:List Row×Nat):∀ l:List (List Nat×List Nat),(∀ q∈l,q.2.length<=2)->(l.foldl jK s).1.length<=s.1.length+l.length/\(l.foldl jK s).2<=s.2+2*l.length:=by
 intro l;induction l generalizing s with
 | nil=>intro _;exact ⟨dM _,dM _⟩
 | cons q r p=>
  intro h;rw [iH];have v:=h q dh;have f:=p (jK s q) λq u=>h q<|dz _ u;have j:(jK s q).1.length<=s.1.length+1/\(jK s q).2<=s.2+2:=by
   unfold jK;split
   .exact ⟨qz _,by exact xV ..⟩
   .exact ⟨by simp,by dsimp only;exact zjY ‹_› _⟩
  rw [eQ];exact S4 f.1 f.2 j.1 j.2
def Ny (Φ:bG):Prop:=∀ (p:Nat) (f:List (List Nat×Nat)) (Dg:Nat) (sc:Int) (j:Nat) (H:Hp) (R:V->Hp->Prop),hV H p f Dg sc j->Good f Dg j->(∀ a,H a=none->R (aB a) (aN H a<|aO<|(jL<|placesOf f).1.map nR))->Φ 452 [aB p] H R bR
set_option tactic.hygienic true in
theorem zew (I:FO Φ) (J:FP Φ){p:Nat}{j:List (List Nat×Nat)}{Dg:Nat}{sc:Int}{r:Nat}{H:Hp}{R X:V->Hp->Prop}(P:hV H p j Dg sc r) (G:Good j Dg r)
  (h:∀ a,H a=none->R (aB a) (aN H a<|aO<|(jL<|placesOf j).1.map nR)):c7 Φ 6 Ky [aB p] H R X:=by
 refine wF (m:=[some<|aB p,none,none,none,none,none,none,none,none]) rfl<|aH ?_;dsimp only [dZ,bX,aU,aP,aV,c8];refine iD (by decide) λf hf=>⟨bC rfl,jz (m':=[some<|aB p,some<|aB f,some<|aw 0,none,none,none,none,none,none]) (by decide) rfl<|aH ?_⟩;have U:=b8 (aO []) hf;have ff:aN H f (aO []) f=some (aO ([]:List V)):=bw ..;generalize aN H f (aO [])=H1 at U ff;dsimp only [bV,bB,bD,aY,cj,aU,aP,aJ,g0];refine I p j Dg sc r _ _ (P.mono U) G.h1 G.h2 λa3 F=>aH ?_;have l2:=U.tr<|b8 (aO<|(placesOf j).map .str) F;have W:=lN (o':=aO<|(placesOf j).map .str) ff F;have Z:be (aN H1 a3<|aO<|(placesOf j).map .str) a3=some ((placesOf j).map .str):=bE<|bw ..;have n3:f≠a3:=mS ff F;generalize aN H1 a3 (aO<|(placesOf j).map .str)=H2 at l2 W Z;have hs:=G.h1;have h5:=G.h5;generalize placesOf j=aA at*;dsimp only [eA,g9,aJ,gs,g0,cj,aU,aP];refine J a3 _ _ _ Z hs λa4 u=>?_;have l3:=l2.tr<|b8 (aO<|(cu aA).map .str) u;have f3:=lN (o':=aO<|(cu aA).map .str) W u;have v:=d7 (b8 (aO<|(cu aA).map .str) u) Z;have L:be (aN H2 a4<|aO<|(cu aA).map .str) a4=some ((cu aA).map .str):=bE<|bw ..;have n4:f≠a4:=mS W u;generalize aN H2 a4 (aO<|(cu aA).map .str)=H3 at l3 f3 v L;have hz:((cu aA).zip aA).length<=1000:=by rw [ya];exact yj hs
 have O:∀ q∈(cu aA).zip aA,q.2.length<=2:=λq O=>h5 _ (zjX O).2;have l:∀ {a:Nat}{vs:List V}{o:MO},f≠a->be H3 a=some vs->be (aN H3 f o) a=some vs:=λ{a vs o} n h=>by
  unfold be at h ⊢;rw [dQ n.symm];exact h
 refine FA L v ?_;rw [BY];refine lz (xs:=(cu aA).zip aA) (λq=>V.tup [.str q.1, .str q.2]) rfl (by exact qa ‹_› rfl) (λdone m H'=>∃x4 x5,m=[some<|aB p,some<|aB f,some<|aw (done.foldl jK ([],0)).2,some<|aB a3,x4,x5,none,none,none]/\H'=aN H3 f (aO<|(done.foldl jK ([],0)).1.map nR)) ⟨none,none,rfl,?_⟩ ?_ ?_
 .funext z;unfold aN;split
  .rename_i e;subst e;exact f3
  .rfl
 .rintro done q a1 m H' hd ⟨x4,x5,rfl,rfl⟩;refine ⟨⟨l n4 L,l n3 v,trivial⟩,_,rfl,λK k1 k2=>aH ?_⟩;obtain ⟨b1,b2⟩:=zev ([],0) done (λq hm=>O q<|by rw [<-hd];exact vO _ hm);have a0:done.length<1000:=by have:=congrArg pS hd;rw [cC,eQ] at this;exact IE hz this
  have a2:=O q (by rw [<-hd];simp);dsimp only [bB,bD,bL,br,bf,bX,aU,aP,aV,aJ,gs,g0,zel];refine ⟨bC rfl,dR (λz=>aH ?_) λz=>aM<|aM<|k1 _ _ ?_⟩
  .have e:(done++[q]).foldl jK ([],0)=((done.foldl jK ([],0)).1++[⟨q.1,q.2,(done.foldl jK ([],0)).2⟩],(done.foldl jK ([],0)).2+q.2.length):=by
    rw [qB];exact if_neg λy=>by rw [show ([[109,97,114,107],[110,111,110,101]]:List (List Nat))=[jp,ja] from rfl,y] at z;cases z
   dsimp only [cL,aY,bU,aU,aP,bX,aJ,gs,g0];refine me (bw ..) (by decide) ?_;dsimp only;refine ⟨bC rfl,lO (bw ..) ?_<|aH ?_⟩
   .rw [cN];rw [show ([]:List Row).length=0 from rfl] at b1;exact S5 b1 a0
   dsimp only [bV,bB,bD,aY,bT,cK,aU,aP,aJ,gs,g0,fK,cZ];refine ⟨by exact qa ‹_› rfl,aM<|aM<|k1 _ _ ⟨_,_,by rw [e];rfl,?_⟩⟩;rw [e,jw];funext y;unfold aN;split <;> rfl
  .have e:(done++[q]).foldl jK ([],0)=done.foldl jK ([],0):=by
    rw [qB];exact if_pos (by
     rw [show ([[109,97,114,107],[110,111,110,101]]:List (List Nat))=[jp,ja] from rfl] at z;cases y:[jp,ja].any (·==q.1) with
     | true=>rfl
     | false=>rw [y] at z;cases z)
   exact ⟨_,_,by rw [e],by rw [e]⟩
 .rintro m H' ⟨x4,x5,rfl,rfl⟩;refine ⟨⟨l n4 L,l n3 v,trivial⟩,aH ?_⟩;dsimp only [cy,cx,aJ,gs,g0];exact kZ (λb o e=>(zd1 l3) b o e)<|h f hf
def nS (oct:List Nat) (u:Int) (r:Row):Int:=if ii r.role=true then u*10+kr (oct.getD r.at_ 0) else u
def oK (rows:List Row) (oct:List Nat):Int:=rows.foldl (nS oct) 0
theorem yZ {oct:List Nat}{k:Nat}(h:k<oct.length):oct[k]?=some (oct.getD k 0):=by
 rw [sP,lJ h];rfl
def Nz (Φ:bG):Prop:=∀ (c:Int) (H:Hp) (R:V->Hp->Prop),R (aw<|kr c) H->Φ 459 [aw c] H R bR
def NA (Φ:bG):Prop:=∀ (a:Nat) (rows:List Row) (oct:List Nat) (H:Hp) (R:V->Hp->Prop),be H a=some (rows.map nR)->rows.length<=1000->oct.length<=16777216->(∀ r∈rows,r.at_ <oct.length)->R (aw<|oK rows oct) H->Φ 466 [aB a,dw oct] H R bR
theorem zex (f:BW Φ) (j:Nz Φ){a:Nat}{rows:List Row}{oct:List Nat}{H:Hp}{R X:V->Hp->Prop}(l:be H a=some (rows.map nR)) (O:rows.length<=1000) (F:oct.length<=16777216) (I:∀ r∈rows,r.at_ <oct.length)
  (h:R (aw<|oK rows oct) H):c7 Φ 6 KA [aB a,dw oct] H R X:=by
 refine wF (m:=[some<|aB a,some<|dw oct,none,none,none,none,none,none,none]) rfl<|aH ?_;refine aH ?_;refine mB l (lz (xs:=rows) nR rfl (by exact qa ‹_› rfl) (λdone m p=>∃u v y,m=[some<|aB a,some<|dw oct,some<|aw<|done.foldl (nS oct) 0,u,v,y,none,none,none]/\p=H) ⟨none,none,none,rfl,rfl⟩ ?_ ?_)
 .rintro done r z m p J ⟨u,v,y,rfl,rfl⟩;refine ⟨⟨l,trivial⟩,_,rfl,λK k1 k2=>aH ?_⟩;have L:=I r (by rw [<-J];simp);have e:(done++[r]).foldl (nS oct) 0=nS oct (done.foldl (nS oct) 0) r:=by rw [qB];rfl
  dsimp only [bB,bD,bL,eT,eV,eU,ee,cj,aU,aP,aJ,gs,g0,br,bf,aV,dB];refine FF (c:=ly r.role) (λq=>f _ _ _ q) (dR (λq=>aH ?_) λq=>aM<|aM<|k1 _ _ ⟨some<|.str r.role,some<|.str r.sign,some<|aw r.at_,by rw [e,nS,if_neg<|show ¬ii r.role=true from ne_true_of_eq_false q],rfl⟩)
  .dsimp only [bV,bB,bD,aY,bT,cj,aU,aP,cV,aJ,gs,g0,aV,gu];refine ⟨aX (by decide),yY F (yZ L)<|j _ _ _ ?_⟩;dsimp only [cZ];refine aM<|aM<|k1 _ _ ?_;exact ⟨some<|.str r.role,some<|.str r.sign,some<|aw r.at_,by rw [e,nS,if_pos<|show ii r.role=true from q],rfl⟩
 .rintro m p ⟨u,v,y,rfl,rfl⟩;refine ⟨⟨l,trivial⟩,aH ?_⟩;dsimp only [cy,cx,aJ,gs,g0];exact eG h
theorem zey {t:List Nat}{i j:Int}{H:Hp}{Q:V->Hp->Prop}(f:t.length<=16777216) (q:Q (dw<|eX t (some i)<|some j) H):rN (dw t) (some<|aw i) (some<|aw j) none H Q:=⟨f,q⟩
noncomputable def ji:List (List Nat):=[[67,82],[68,66]]
def vc (oct:List Nat) (r:Row):Bool:=if ji.any (·==r.sign)=true then decide (eX oct (some (r.at_:Int)) (some<|(r.at_:Int)+2)=r.sign) else (decide (r.role=gg) && decide (((oct.getD r.at_ 0:Nat):Int)=45))
theorem y0 {b c:Bool}{P:Bool->Prop}{B:Prop}(f:P c->B) (h:P (b && c)):if b=true then B else P b:=by
 cases b
 .exact h
 .exact f h
def NB (Φ:bG):Prop:=∀ (r:Row) (oct:List Nat) (H:Hp) (R:V->Hp->Prop),oct.length<=16777216->r.at_ <oct.length->(∀ c∈r.sign,c<256)->r.sign.length<=2->R (aZ<|vc oct r) H->Φ 471 [.str r.role, .str r.sign,dw oct,aw r.at_] H R bR
theorem zez {r:Row}{oct:List Nat}{H:Hp}{R X:V->Hp->Prop}(l:oct.length<=16777216) (j:r.at_ <oct.length) (f:∀ c∈r.sign,c<256) (p:r.sign.length<=2) (h:R (aZ<|vc oct r) H):c7 Φ 4 KB [.str r.role, .str r.sign,dw oct,aw r.at_] H R X:=by
 refine wF (m:=[some<|.str r.role,some<|.str r.sign,some<|dw oct,some<|aw r.at_,none,none,none]) rfl<|aH ?_;refine ⟨bC rfl,?_⟩;refine dR (b:=ji.any (·==r.sign)) (λq=>?_) λq=>?_
 .have e:vc oct r=decide (eX oct (some (r.at_:Int)) (some<|(r.at_:Int)+2)=r.sign):=if_pos q;rw [e] at h;refine aH ?_;dsimp only [cy,cx,fe,bf,cK,aU,aP,dY,dI,aJ,gs,g0,gh,fZ,f7,f8,bT,aV,cZ];refine zey l ?_;dsimp only [hY];refine FT (m':=[]) (λc=>rfl) (by exact qa ‹_› rfl) f λa j=>?_;refine FR (bE<|bw ..) (FV f) (by rw [cN];exact qa ‹_› rfl) ?_;dsimp only [iB];refine kZ (b8 _ j) ?_;rw [FU];exact h
 .have e:vc oct r=(decide (r.role=gg) && decide (((oct.getD r.at_ 0:Nat):Int)=45)):=if_neg<|ne_true_of_eq_false q;rw [e] at h;refine aM<|aH ?_;dsimp only [cy,cx,fT,fR,fQ,fe,bf,eL,cV,aJ,gs,g0,aV,dB];refine y0 (P:=λb=>cQ R (gW<|aZ b) _ H) (c:=decide (((oct.getD r.at_ 0:Nat):Int)=45)) (λq=>yY l (yZ j) q)<|eG h
def mU (r:Row):Option V:=if (decide (r.role=dG) && [43,45].contains (r.sign.headD 0))=true then some (.str r.sign) else none
def qg (rows:List Row):Bool:= !(rows.filterMap mU).isEmpty
def w4 (f:Bool) (oct:List Nat) (r:Row):Bool:=vc oct r || (f && decide (((oct.getD r.at_ 0:Nat):Int)=45))
def qV (rows:List Row) (oct:List Nat):Bool:=rows.any<|w4 (qg rows) oct
structure BZ (rows:List Row) (n:Nat):Prop where
 h1:rows.length<=1000
 h2:∀ r∈rows,r.at_ <n
 h3:∀ r∈rows,∀ c∈r.sign,c<256
 h4:∀ r∈rows,r.sign.length<=2
 h5:∀ r∈rows,r.role=dG->∃c,r.sign=[c]
theorem NC {x y:Nat}{xs:List V}{H:Hp}(f:be H x=some xs) (j:be H y=some []):AP H (aB x) (aB y)=some xs.isEmpty:=by
 show (be H x).bind _=_;rw [f];rw [j];rfl
theorem vd {x y:Nat}{xs:List V}{H:Hp}{K:Bool->Prop}(f:be H x=some xs) (j:be H y=some []) (q:K (!xs.isEmpty)):gq eW (aB x) (aB y) H K:=BQ (congrArg (zjU not)<|NC f j) q
theorem ND {x y:Nat}{xs:List V}{H:Hp}{K:Bool->Prop}(f:be H x=some xs) (j:be H y=some []) (q:K xs.isEmpty):gq cG (aB x) (aB y) H K:=BQ (NC f j) q
theorem zeA (c:Nat) (t:List Nat) (H:Hp) (K:Bool->Prop):gq dU (.str [c]) (.str t) H K=K (t.contains c):=rfl
def NE (Φ:bG):Prop:=∀ (a:Nat) (rows:List Row) (oct:List Nat) (H:Hp) (R:V->Hp->Prop),be H a=some (rows.map nR)->oct.length<=16777216->BZ rows oct.length->R (aZ<|qV rows oct) H->Φ 476 [aB a,dw oct] H R bR
theorem zeB (p:NB Φ){a:Nat}{rows:List Row}{oct:List Nat}{H:Hp}{R X:V->Hp->Prop}(j:be H a=some (rows.map nR)) (O:oct.length<=16777216) (G:BZ rows oct.length) (h:R (aZ<|qV rows oct) H):c7 Φ 6 KC [aB a,dw oct] H R X:=by
 have hl:=G.h1;refine wF (m:=[some<|aB a,some<|dw oct,none,none,none,none,none,none,none]) rfl<|aH ?_;dsimp only [bV,bB,bD,aY,fe,bf,c8,aP,dY,dI,aJ,g0];refine mB j (md (xs:=rows) nR rfl (by exact qa ‹_› rfl) mU (λu=>u=H) rfl ?_ ?_)
 .rintro r u f rfl;refine ⟨⟨j,trivial⟩,_,rfl,λK1 K0 k1 k0=>?_⟩;dsimp only [bB,bD,aJ,gs,g0,db,cX,dN,br,bf,aV,dB];refine c0 (λq=>?_) λq=>?_
  .obtain ⟨c,v⟩:=G.h5 r f q;rw [v];dsimp only [zeA];refine dR (λy=>k1 _ _ ?_ rfl) λy=>k0 _ ?_ rfl
   .unfold mU;rw [decide_eq_true (show r.role=dG from q),v];exact if_pos y
   .unfold mU;rw [decide_eq_true (show r.role=dG from q),v];exact if_neg<|ne_true_of_eq_false y
  .refine k0 _ ?_ rfl;unfold mU;rw [decide_eq_false<|show ¬r.role=dG from q];rfl
 .rintro u rfl;refine ⟨⟨j,trivial⟩,λb hb=>?_⟩;have P:=b8 (aO<|rows.filterMap mU) hb;have U:be (aN u b<|aO<|rows.filterMap mU) b=some (rows.filterMap mU):=bE<|bw ..;generalize aN u b (aO<|rows.filterMap mU)=H1 at P U;refine iD (bC rfl) λe W=>vd (d7 (b8 _ W) U) (bE<|bw ..)<|aH ?_;have l:=P.tr<|b8 (aO []) W;generalize aN H1 e (aO [])=H2 at l;rw [show (!(rows.filterMap mU).isEmpty)=qg rows from rfl];dsimp only [eA,dI,aJ,g0];refine mB (d7 l j) (lz (xs:=rows) nR rfl (by exact qa ‹_› rfl) (λdone m z=>∃F I J,m=[some<|aB a,some<|dw oct,F,I,J,some<|aZ<|qg rows,none,none,none]/\z=H2/\done.any (w4 (qg rows) oct)=false) ⟨_,_,_,rfl,rfl,rfl⟩ ?_ ?_)
  .rintro done r Z m z hd ⟨F,I,J,rfl,rfl,L⟩;have f:r∈rows:=by rw [<-hd];simp
   refine ⟨⟨d7 l j,trivial⟩,_,rfl,λK k1 k2=>aH ?_⟩;dsimp only [bB,bD,bL,eT,eV,eU,dN,db,cX,br,bf,eL,cV,aJ,gs,g0,ee,cj,aU,aP];refine p r oct _ _ O (G.h2 r f) (G.h3 r f) (G.h4 r f)<|FF (c:=qg rows && decide (((oct.getD r.at_ 0:Nat):Int)=45)) (λq=>FE (c:=decide (((oct.getD r.at_ 0:Nat):Int)=45)) (λq=>yY O (yZ<|G.h2 r f) q) q)<|dR (λq=>aH ?_) λq=>aM<|aM<|k1 _ _ ⟨_,_,_,rfl,rfl,?_⟩
   .dsimp only [cy,cx,aV];refine k2 _ _ _<|zd9 l ?_;have e:qV rows oct=true:=o5.mpr ⟨r,f,q⟩;rw [e] at h;exact h
   .rw [R9,L];rw [lY,Dq,yc];exact q
  .rintro m z ⟨F,I,J,rfl,rfl,L⟩;refine ⟨⟨d7 l j,trivial⟩,aH ?_⟩;dsimp only [cy,cx,aV];refine kZ l ?_;rw [show qV rows oct=false from L] at h;exact h
def NF (Φ:bG):Prop:=∀ (x y:List Nat) (H:Hp) (R:V->Hp->Prop),x.length<=16777216->y.length<=100000->(∀ k:Nat,k<=y.length->R (aw k) H)->Φ 483 [dw x,dw y] H R bR
theorem zeC {x y:List Nat}{H:Hp}{R X:V->Hp->Prop}(l:x.length<=16777216) (r:y.length<=100000) (h:∀ k:Nat,k<=y.length->R (aw k) H):c7 Φ 3 KD [dw x,dw y] H R X:=by
 have j:y.length<=16777216:=fP r (by decide);have f:(min (x.length:Int) (y.length:Int))=((min x.length y.length:Nat):Int):=by exact IF
 refine wF (m:=[some<|dw x,some<|dw y,none,none,none,none]) rfl<|aH ?_;dsimp only [eA,gR,cK,aU,aP,aJ,gs,g0,gx,g7];refine ⟨l,j,?_⟩;rw [f];have F:min x.length y.length<=y.length:=Nat.min_le_right _ _;refine ⟨by exact lf _,by exact S8 r,?_⟩;rw [jm];refine lz (xs:=j7<|min x.length y.length) (λi:Nat=>V.int i) rfl (by rw [rF];exact fP ‹_› ‹_›) (λdone m p=>∃z,m=[some<|dw x,some<|dw y,z,none,none,none]/\p=H) ⟨_,rfl,rfl⟩ ?_ ?_
 .rintro done k u m p I ⟨z,rfl,rfl⟩;have v:k<min x.length y.length:=by
   have:k∈j7 (min x.length y.length):=by rw [<-I];simp
   exact xZ.mp this
  refine ⟨trivial,_,rfl,λK k1 k2=>aH ?_⟩;dsimp only [bB,bD,bL,br,bf,cV,aJ,gs,g0];refine yY l (yZ (k:=k)<|by exact Ta v) (yY j (yZ (k:=k)<|by exact fP ‹_› ‹_›) ?_);dsimp only [g8];refine oI (λq=>aH ?_) λq=>aM<|aM<|k1 _ _ ⟨_,rfl,rfl⟩;exact k2 _ _ _ (Nh<|h k<|by exact Tb v)
 .rintro m p ⟨z,rfl,rfl⟩;refine ⟨trivial,aH ?_⟩;dsimp only [cy,cx,cK,aU,aP,aJ,gs,g0,gx,g7];refine ⟨l,j,eG ?_⟩;rw [f];exact h _ F
theorem FW:∀ (s:Nat) (u:Int),(iU s u).1.natAbs<=u.natAbs/\(iU s u).2<=s
 | 0,u=>⟨dM _,dM _⟩
 | s+1,u=>by
  unfold iU;split
  .obtain ⟨a,b⟩:=FW s<|u / 10;exact ⟨fP a<|Int.natAbs_ediv_le_natAbs ..,zZ b⟩
  .exact ⟨dM _,dM _⟩
theorem zeD {u sc:Int}{Dg:Nat}(h:u.natAbs<10 ^ Dg) (j:-6<=sc) (l:sc<=18) (p:Dg+(-sc).toNat<=19):(c9 u sc).1.natAbs<2 ^ 64/\(c9 u sc).2-sc<=18/\sc- (c9 u sc).2<=1000:=by
 have f:(10:Nat) ^ 19<2 ^ 64:=by decide
 unfold c9;split
 .refine ⟨?_,by dsimp only;exact Tc j,by dsimp only;exact Td l⟩;rw [Ib,zjZ];have:u.natAbs*(10:Int).natAbs ^ (-sc).toNat<10 ^ Dg*10 ^ (-sc).toNat:=Nat.mul_lt_mul_of_pos_right h (Ah<|by decide);rw [<-Dr] at this;exact Sa this (fP (Do (by decide) p)<|RF f)
 .obtain ⟨a,b⟩:=FW sc.toNat u;refine ⟨?_,by dsimp only;exact Te j b,by dsimp only;exact IH l⟩;have:u.natAbs<10 ^ 19:=Sa h (Do (by decide)<|by exact Tf p);exact Tg a this
structure oV (syms:List (List Nat×Nat)) (Dg:Nat) (sc:Int) (size:Nat):Prop where
 G:Good syms Dg size
 rk:BZ (jL<|placesOf syms).1 size
 ub:∀ oct,(oK (jL<|placesOf syms).1 oct).natAbs<10 ^ Dg
 s1:-6<=sc
 s2:sc<=18
 s3:Dg+(-sc).toNat<=19
 tx:∀ fg neg,fg.length=Dg->(∀ c∈fg,48<=c/\c<=57)->(mf (placesOf syms) fg neg).flatten.length<=16777216
 t2:∀ d NG,(iO syms Dg sc size d NG).length<=16777216/\∀ c∈iO syms Dg sc size d NG,c<256
def tJ (f:List (List Nat×Nat)) (oct:List Nat):Int:=if qV (jL<|placesOf f).1 oct=true then -(oK (jL<|placesOf f).1 oct) else oK (jL<|placesOf f).1 oct
def mV (f:List (List Nat×Nat)) (sc:Int) (oct:List Nat):Int×Int:=c9 (tJ f oct) sc
def y6 (Φ:bG):Prop:=∀ (u s:Int) (H:Hp) (R:V->Hp->Prop),-1000<s->u.natAbs<2 ^ 64->R (g5<|c9 u s) H->Φ 36 [aw u,aw s] H R bR
def FX (Φ:bG):Prop:=∀ (u:Int) (H:Hp) (R:V->Hp->Prop),u.natAbs<2 ^ 64->R (g5<|c9 u 0) H->Φ 36 [aw u] H R bR
def NH (Φ:bG):Prop:=∀ (p:Nat) (f:List (List Nat×Nat)) (Dg:Nat) (sc:Int) (j:Nat) (d:Int×Int) (l:Bool) (H:Hp) (R:V->Hp->Prop),hV H p f Dg sc j->oV f Dg sc j->d.2-sc<=18->sc-d.2<=1000->d.1.natAbs<2 ^ 64->
 R (dw<|iO f Dg sc j d l) H->Φ 445 [aB p,g5 d,aZ l] H R bR
def NI (Φ:bG):Prop:=∀ (p:Nat) (f:List (List Nat×Nat)) (Dg:Nat) (sc:Int) (j:Nat) (oct:List Nat) (l:Bool) (H:Hp) (R X:V->Hp->Prop),hV H p f Dg sc j->oV f Dg sc j->oct.length<=100000->
 (oct.length=j->iO f Dg sc j (mV f sc oct) l=oct->R (g5<|mV f sc oct) H)->(¬(oct.length=j/\iO f Dg sc j (mV f sc oct) l=oct)->∀ k:Nat,k<=max oct.length j->X (d8 [aw 0,aw k]) H)->Φ 491 [aB p,dw oct,aZ l] H R X
theorem NJ {X:V->Hp->Prop}{v:V}{H f:Hp}(l:f.le H) (h:X v f):cP X v H:=⟨f,l,h⟩
theorem zeE (a1:y6 Φ) (J:NH Φ) (L:Ny Φ) (O:NA Φ) (U:NE Φ) (W:NF Φ){p:Nat}{f:List (List Nat×Nat)}{Dg:Nat}{sc:Int}{j:Nat}{oct:List Nat}{l:Bool}{H:Hp}{R X:V->Hp->Prop}
  (P:hV H p f Dg sc j) (F:oV f Dg sc j) (ho:oct.length<=100000) (hR:oct.length=j->iO f Dg sc j (mV f sc oct) l=oct->R (g5<|mV f sc oct) H)
  (hX:¬(oct.length=j/\iO f Dg sc j (mV f sc oct) l=oct)->∀ k:Nat,k<=max oct.length j->X (d8 [aw 0,aw k]) H):c7 Φ 7 Ek [aB p,dw oct,aZ l] H R X:=by
 have r:oct.length<=16777216:=fP ho (by decide);obtain ⟨dd,fs,y,e1,e2,e3,e4,e5,e6,e7⟩:=P.h;refine wF (m:=[some<|aB p,some<|dw oct,some<|aZ l,none,none,none,none,none,none,none]) rfl<|aH ?_;dsimp only [bL,br,bf,bQ,aJ,g0,cK,aU,aP,gs,gx];refine ⟨r,bN e1 e2 e7 rfl ?_⟩;dsimp only [g8];refine oI (λq=>aH ?_) λq=>aM<|aH ?_
 .dsimp only [ig,bX,aU,aP,cK,bQ,aJ,g0,gs,gx,aV];refine ⟨r,bN e1 e2 e7 rfl ?_⟩;dsimp only [g7];refine ⟨bC rfl,NJ (.rf H) ?_⟩;rw [show (min (oct.length:Int) (j:Int))=((min oct.length j:Nat):Int) by exact IF];exact hX (λz=>q<|by rw [z.1]) _ (by exact Th)
 have hsz:oct.length=j:=by exact zj0 ‹_›
 have hD:10 ^ Dg<=10 ^ 18:=Do (by decide) F.G.h3;have hu:=F.ub oct;have u:=F.rk;rw [<-hsz] at u;dsimp only [bV,bB,bD,aY,cj,aU,aP,aJ,g0];refine L p f Dg sc j _ _ P F.G λa ha=>aH ?_;have I:=b8 (aO<|(jL<|placesOf f).1.map nR) ha;have ra:be (aN H a<|aO<|(jL<|placesOf f).1.map nR) a=some ((jL<|placesOf f).1.map nR):=bE<|bw ..;generalize aN H a (aO<|(jL<|placesOf f).1.map nR)=H1 at I ra;have P1:=P.mono I;dsimp only [bV,bB,bD,aY,cj,aU,aP,aJ,gs,g0];refine O a _ oct _ _ ra u.h1 r u.h2<|aH ?_;dsimp only [bV,bB,bD,aY,cj,aU,aP,bQ,aJ,g0,dA,gH,gs,ee];have Z:∀ t:Int,t=tJ f oct->yw (aB p) 6 H1 (λv H=>Φ 36 [aw t,v] H (λv H=>go Φ (dy 4 Ek) (cQ R) (cP X) .next [some<|aB p,some<|dw oct,some<|aZ l,some<|aB a,some<|aw<|oK (jL<|placesOf f).1 oct,some v,none,none,none,none] H) bR):=by
  intro t ht;have a0:t.natAbs<10 ^ Dg:=by
   rw [ht];unfold tJ;split
   .rw [Ic];exact hu
   .exact hu
  refine iw (zeD a0 F.s1 F.s2 F.s3) λk1 k2 k3=>?_;refine bN (I _ _ e1) (I _ _ e2) e6 rfl (a1 _ _ _ _ (by have:=F.s1;exact DC this) (by exact Ti hD a0)<|aH ?_);rw [show c9 t sc=mV f sc oct by rw [ht];rfl] at k1 k2 k3 ⊢;have a2:=F.t2 (mV f sc oct) l;dsimp only [bV,bB,bD,aY,cj,aU,aP,aJ,gs,g0];refine J p f Dg sc j _ l _ _ P1 F k2 k3 k1<|aH ?_;dsimp only [bL,br,bf,cK,aU,aP,aJ,gs,g0,hY,iC];refine oI (λq2=>aH ?_) λq2=>aM<|aH ?_
  .dsimp only [ig,bX,aU,aP,cj,aJ,gs,g0,aV];refine W _ _ _ _ a2.1 ho λk hk=>⟨bC rfl,NJ I<|hX (λz=>q2 z.2) k<|by exact Tj hk⟩
  .dsimp only [cy,cx,aJ,gs,g0];exact kZ I<|hR hsz q2
 exact U a _ oct _ _ ra r u<|dR (λz=>Z _<|(if_pos z).symm) λz=>Z _<|(if_neg<|ne_true_of_eq_false z).symm
def w6:Option (Int×Int)->V
 | none=>cz
 | some d=>g5 d
def mh (f:List (List Nat×Nat)) (Dg:Nat) (sc:Int) (j:Nat) (oct:List Nat) (l:Bool):Option (Int×Int):=
 if oct.length=j/\iO f Dg sc j (mV f sc oct) l=oct then some (mV f sc oct) else none
def ve (Φ:bG):Prop:=∀ (p:Nat) (f:List (List Nat×Nat)) (Dg:Nat) (sc:Int) (j:Nat) (oct:List Nat) (l:Bool) (H:Hp) (R:V->Hp->Prop),hV H p f Dg sc j->oV f Dg sc j->oct.length<=100000->
 R (w6<|mh f Dg sc j oct l) H->Φ 530 [aB p,dw oct,aZ l] H R bR
theorem zeF (m:Loc) (H:Hp) (Q:Fl->Loc->Hp->Prop) (X:V->Hp->Prop) (i f:Nat) (es:jF) (j k:Nat):wpS Φ (xG i f es j k) m H Q X=jg Φ es m H λvs H=>Φ f vs H (λv l=>Q .next (m.set i<|some v) l) (λv l=>Q .next ((m.set k none).set j (some v)) l):=rfl
theorem zeG (H:Hp) (K:Bool->Prop):gq vJ cz cz H K=K false:=rfl
theorem zeH (vs:List V) (H:Hp) (K:Bool->Prop):gq vJ (d8 vs) cz H K=K true:=rfl
theorem zeI (r:NI Φ){p:Nat}{f:List (List Nat×Nat)}{Dg:Nat}{sc:Int}{j:Nat}{oct:List Nat}{l:Bool}{H:Hp}{R X:V->Hp->Prop}
  (P:hV H p f Dg sc j) (F:oV f Dg sc j) (u:oct.length<=100000) (h:R (w6<|mh f Dg sc j oct l) H):c7 Φ 6 KG [aB p,dw oct,aZ l] H R X:=by
 obtain ⟨dd,W,y,v,I,Z,e4,e5,e6,J⟩:=P.h;refine wF (m:=[some<|aB p,some<|dw oct,some<|aZ l,none,none,none,none,none,none]) rfl<|aH ?_;dsimp only [dZ,bX,aU,aP,aV];refine ⟨bC rfl,jz (m':=[some<|aB p,some<|dw oct,some<|aZ l,some cz,some cz,none,none,none,none]) (by decide) rfl<|aH ?_⟩;dsimp only [zeF,bB,bD,aY,aU,aP,aJ,gs,g0];refine r p f Dg sc j oct l _ _ _ P F u (λL O=>aH ?_) λz k U=>aH ?_
 .dsimp only [bL,dN,db,cX,gQ,br,gK,bf,cK,aU,aP,bQ,aJ,g0,gs,gx,cV,aV,zeG];refine aM<|aH ?_;dsimp only [cy,cx,aJ,gs,g0];refine eG ?_;rw [show mh f Dg sc j oct l=some (mV f sc oct) from if_pos ⟨L,O⟩] at h;exact h
 .dsimp only [bL,dN,db,cX,gQ,br,gK,bf,cK,aU,aP,bQ,aJ,g0,gs,gx,cV,aV,fv,eN,gM,gO,gE,e8,zeH];refine ⟨by decide,by decide,?_⟩;show oct.length<=16777216/\_;refine ⟨fP u (by decide),bN v I J rfl ?_⟩;dsimp only [hW,gO];refine BK (decide_eq_true<|show (k:Int)<=max (oct.length:Int) (j:Int) by exact Tk U) ?_;show cJ Φ aK _ _ _ _;refine aM<|aH ?_;dsimp only [cy,cx,aJ,gs,g0];refine eG ?_;rw [show mh f Dg sc j oct l=none from if_neg z] at h;exact h
theorem zeJ {t:Bx}{b:bW}{m:Loc}{H:Hp}{Q:Fl->Loc->Hp->Prop}{X:V->Hp->Prop}(I:Nat->Loc->Hp->Prop) (l:Nat) (p:I l m H)
  (hs:∀ n m H,I n m H->∀ K:Fl->Loc->Hp->Prop,(∀ j m' f,j<n->I j m' f->K .next m' f)->(∀ v m' f,Q (gW v) m' f->K (gW v) m' f)->iR Φ t m H λr H=>match r with | true=>cJ Φ b m H K bR | false=>Q .next m H):wpS Φ (tY t b) m H Q X:=by
 refine ⟨I,⟨l,p⟩,λn m H u=>?_⟩;exact hs n m H u (λy m' f=>match y with
     | .next=>∃j,j<n/\I j m' f
     | gW v=>Q (gW v) m' f) (λj m' f z F=>⟨j,z,F⟩) λv m' f h=>h
theorem NK {f:Type}(t:List f) (k j:Nat) (l:k<=t.length):eX t (some (k:Int)) (some (j:Int))=(t.take j).drop k:=by
 dsimp only [eX,uE,uD,yo];rw [if_neg (by exact uy),if_neg (by exact uy),jm,jm,zD l];by_cases h:j<=t.length
 .rw [zD h]
 .rw [QE (by exact II h),QX,Q5<|by exact II h]
theorem FY {t:List Nat}{i j:Int}{H:Hp}{Q:V->Hp->Prop}(f:t.length<=16777216) (q:Q (.str<|eX t (some i)<|some j) H):rN (.str t) (some<|aw i) (some<|aw j) none H Q:=⟨f,q⟩
noncomputable def y7:List Nat:=[65,66,80,83,86,88,90,57,48,47,44,46,43,45,42,36]
def tK (s:List Nat):Prop:=s=[67,82]\/s=[68,66]\/∃c,c∈y7/\s=[c]
theorem qW {s:List Nat}(h:tK s):1<=s.length/\s.length<=2:=by
 rcases h with rfl | rfl | ⟨c,_,rfl⟩
 .exact ⟨by decide,by decide⟩
 .exact ⟨by decide,by decide⟩
 .exact ⟨dM 1,qz 1⟩
def NL (Φ:bG):Prop:=∀ (j s f:List Nat) (H:Hp) (R:V->Hp->Prop),tK s->(j++(s++f)).length<=1000->R (.str s) H->Φ 164 [.str<|j++(s++f),aw j.length] H R bR
theorem zeK {j s f:List Nat}{H:Hp}{R X:V->Hp->Prop}(hs:tK s) (p:(j++(s++f)).length<=1000) (h:R (.str s) H):c7 Φ 2 Kj [.str<|j++(s++f),aw j.length] H R X:=by
 have l:(j++(s++f)).length<=16777216:=fP p (by decide);have u:eX (j++(s++f)) (some (j.length:Int)) (some<|(j.length:Int)+2)=(s++f).take 2:=by
  rw [show (j.length:Int)+2=((j.length+2:Nat):Int) from rfl,NK _ _ _ (by simp),ziJ,zj1];congr 1;exact Tl
 refine wF (m:=[some<|.str<|j++(s++f),some<|aw j.length,none,none,none]) rfl<|aH ?_;dsimp only [bL,br,bf,bX,aU,aP,aV,fZ,f7,f8,bT,aJ,gs,g0,cZ];refine FY l ?_;dsimp only [nQ];rw [u];refine ⟨bC rfl,dR (λq=>aH ?_) λq=>aM<|aH ?_⟩
 .dsimp only [cy,cx,fZ,f7,f8,bT,aV,aJ,gs,g0,cZ];refine FY l<|eG ?_;rw [u];have e:(s++f).take 2=s:=by
   rcases hs with rfl | rfl | ⟨c,hc,rfl⟩
   .rfl
   .rfl
   .exfalso;cases f with
    | nil=>simp at q
    | cons d r=>
     simp at q
     rcases q with ⟨rfl,_⟩ | ⟨rfl,_⟩ <;> exact absurd hc (by decide)
  rw [e];exact h
 .have hc:∃c,c∈y7/\s=[c]:=by
   rcases hs with rfl | rfl | hc
   .simp at q
   .simp at q
   .exact hc
  obtain ⟨c,hc,rfl⟩:=hc;have v:eR (j++([c]++f)) (j.length:Int)=some c:=by rw [BU];simp
  dsimp only [bL,br,bf,eL,cV,aJ,gs,g0];refine BV v (by have:=p;simp at this;exact IJ this) ?_;show (match !y7.contains c with | true=>_ | false=>_);rw [show y7.contains c=true from List.elem_eq_true_of_mem hc];refine aM<|aH ?_;dsimp only [cy,cx,cV,aJ,gs,g0];exact BV v (by have:=p;simp at this;exact IJ this)<|eG h
def FZ (t:List Nat):Prop:=40 ∉ t
def NM (Φ:bG):Prop:=∀ (t:List Nat) (k:Nat) (H:Hp) (R:V->Hp->Prop),FZ t->k<=t.length->t.length<=1000->R (d8 [aw 1,aw k]) H->Φ 169 [.str t,aw k] H R bR
theorem zeL {t:List Nat}{k:Nat}{H:Hp}{R X:V->Hp->Prop}(f:FZ t) (j:k<=t.length) (l:t.length<=1000) (h:R (d8 [aw 1,aw k]) H):c7 Φ 4 Kk [.str t,aw k] H R X:=by
 refine wF (m:=[some<|.str t,some<|aw k,none,none,none,none,none]) rfl<|aH ?_;dsimp only [bL,br,bf,aV,fZ,f7,f8,bT,aJ,gs,g0,cZ];refine FY (fP l<|by decide) ?_;dsimp only [fL];rw [show (k:Int)+1=((k+1:Nat):Int) from rfl,NK _ _ _ j];refine oI (λq=>aH ?_) λq=>?_
 .dsimp only [cy,cx,bX,aU,aP,aJ,gs,g0,aV];exact ⟨bC rfl,eG h⟩
 .exfalso;refine f ?_;have:(40:Nat)∈(t.take<|k+1).drop k:=by rw [q];simp
  exact zj2<|zj3 this
noncomputable def tM (s:List Nat) (k:Nat):List (Nat×V):=[(9, .str s),(10,aw 1),(1,aw k)]
def NN (Φ:bG):Prop:=∀ (a d:Nat) (s:List Nat) (k:Nat) (H:Hp) (R:V->Hp->Prop),H a=some (fG 153 d)->H d=some (bP [])->R cz (aN H d<|bP<|tM s k)->Φ 143 [aB a, .str s,aw 1,aw k] H R bR
theorem gi (H:Hp) (d:Nat) (o o':MO):aN (aN H d o) d o'=aN H d o':=by funext z;unfold aN;split <;> rfl
theorem zeM {a d:Nat}{s:List Nat}{k:Nat}{H:Hp}{R X:V->Hp->Prop}(f:H a=some (fG 153 d)) (j:H d=some (bP [])) (h:R cz (aN H d<|bP<|tM s k)):c7 Φ 4 K3 [aB a, .str s,aw 1,aw k] H R X:=by
 have ad:a≠d:=by rintro rfl;rw [f] at j;cases j
 have A:∀ l,aN H d (bP l) a=some (fG 153 d):=λl=>(dQ ad).trans f;refine wF (m:=[some<|aB a,some<|.str s,some<|aw 1,some<|aw k,none,none,none]) rfl<|aH ?_;refine dH f j (by decide:0<1000) rfl<|aH ?_;refine dH (A _) (bw ..) (by decide:1<1000) rfl<|aH ?_;rw [gi];refine dH (A _) (bw ..) (by decide:2<1000) rfl<|aM<|iV ?_;rw [gi];exact h
inductive ij (H:Hp) (b:Nat) (s:List Nat):Prop
 | mk (d k:Nat) (h1:H b=some (fG 153 d)) (h2:H d=some (bP<|tM s k))
theorem ij.mono {H f:Hp}{b:Nat}{s:List Nat}(l:H.le f) (x:ij H b s):ij f b s:=let ⟨d,k,a,b⟩:=x;⟨d,k,l _ _ a,l _ _ b⟩
inductive jX (H:Hp):List Nat->List (List Nat)->Prop
 | nil:jX H [] []
 | cons {b:Nat}{s:List Nat}{bs:List Nat}{ss:List (List Nat)}(x:ij H b s) (r:jX H bs ss):jX H (b::bs) (s::ss)
open jX renaming cons->uc
theorem jX.mono {H f:Hp}(l:H.le f){bs:List Nat}{ss:List (List Nat)}(h:jX H bs ss):jX f bs ss:=by
 induction h with
 | nil=>exact .nil
 | cons x _ j=>exact uc (x.mono l) j
theorem jX.app {H:Hp}{b:Nat}{s:List Nat}(x:ij H b s):∀ {bs:List Nat}{ss:List (List Nat)},jX H bs ss->jX H (bs++[b]) (ss++[s])
 | _,_, .nil=>uc x .nil
 | _,_,uc y r=>uc y<|r.app x
theorem jX.len {H:Hp}:∀ {bs:List Nat}{ss:List (List Nat)},jX H bs ss->bs.length=ss.length
 | _,_, .nil=>rfl
 | _,_,uc _ r=>congrArg (·+1) r.len
theorem zeN {H:Hp}{f:Nat}{vs:List V}{o:MO}(p:H f=some (aO vs)){bs:List Nat}{ss:List (List Nat)}(h:jX H bs ss):jX (aN H f o) bs ss:=by
 induction h with
 | nil=>exact .nil
 | cons x _ r=>
  obtain ⟨d,k,j,l⟩:=x;exact uc ⟨d,k,(dQ<|by rintro rfl;rw [p] at j;cases j).trans j,(dQ<|by rintro rfl;rw [p] at l;cases l).trans l⟩ r
def NO (Φ:bG):Prop:=∀ (aA:List (List Nat)) (H:Hp) (R:V->Hp->Prop),(∀ s∈aA,tK s)->aA.flatten.length<=1000->(∀ (f:Hp) (a:Nat) (bs:List Nat),H.le f->f a=some (aO<|bs.map aB)->jX f bs aA->R (aB a) f)->Φ 176 [.str aA.flatten] H R bR
theorem zeO {aA:List (List Nat)}(h:∀ s∈aA,tK s):FZ aA.flatten:=by
 refine λj=>bZ (Sb.mp j) λs hs f=>?_;rcases h s hs with rfl | rfl | ⟨c,l,rfl⟩
 .exact absurd f (by decide)
 .exact absurd f (by decide)
 .rw [gp] at f;subst f;exact absurd l (by decide)
abbrev F8 (Φ:bG) (aA:List (List Nat)) (H:Hp) (R:V->Hp->Prop) (X:V->Hp->Prop):Prop:=∀ (j:NN Φ) (l:NL Φ) (p:NM Φ) (r:∀ s∈aA,tK s) (u:aA.flatten.length<=1000) (h:∀ (f:Hp) (a:Nat) (bs:List Nat),H.le f->f a=some (aO<|bs.map aB)->jX f bs aA->R (aB a) f),c7 Φ 6 Kl [.str aA.flatten] H R X
abbrev NP (t:List (List Nat)×bG×Hp×(V->Hp->Prop)×(V->Hp->Prop)):Prop:=F8 t.2.1 t.1 t.2.2.1 t.2.2.2.1 t.2.2.2.2
@[irreducible] noncomputable def lC:List (List Nat)×bG×Hp×(V->Hp->Prop)×(V->Hp->Prop):=nB (bM,bM,bM,bM,bM) NP
theorem zeP:F8 lC.2.1 lC.1 lC.2.2.1 lC.2.2.2.1 lC.2.2.2.2:=by
 intro J L O ok W h;have P:lC.1.flatten.length<=16777216:=fP W (by decide);have hp:=zeO ok;refine wF (m:=[some<|.str lC.1.flatten,none,none,none,none,none,none,none,none]) rfl<|aH ?_;dsimp only [dZ,bX,aU,aP,aV,c8];refine iD (by decide) λf hf=>⟨bC rfl,jz (m':=[some<|.str lC.1.flatten,some<|aB f,some<|aw 0,none,none,none,none,none,none]) (by decide) rfl<|aH ?_⟩;refine zeJ (λn m p=>∃done j bs x3 x4 x5,done++j=lC.1/\n=j.length/\m=[some<|.str lC.1.flatten,some<|aB f,some<|aw done.flatten.length,x3,x4,x5,none,none,none]/\lC.2.2.1.le p/\p f=some (aO<|bs.map aB)/\jX p bs done) lC.1.length ⟨[],lC.1,[],_,_,_,rfl,rfl,rfl,b8 _ hf,bw .., .nil⟩ ?_;rintro n m p ⟨done,j,bs,x3,x4,x5,e,rfl,rfl,l1,u,sg⟩ K k1 k2;cases j with
 | nil=>
  rw [of] at e;subst e;dsimp only [aY,br,bf,cK,aU,aP,aJ,g0,fK,gs,fy];refine ⟨P,?_⟩;rw [decide_eq_false<|zj4 _];refine aH ?_;dsimp only [cy,cx,aJ,gs,g0];exact eG<|h _ _ bs l1 u sg
 | cons s j=>
  have et:lC.1.flatten=done.flatten++(s++j.flatten):=by rw [<-e];simp
  have hs:=ok s (by rw [<-e];simp);have F:=qW hs;have v:lC.1.flatten.length=done.flatten.length+s.length+j.flatten.length:=by rw [et];simp;exact Tn
  have a0:bs.length<1001:=by
   rw [sg.len];have:∀ l:List (List Nat),(∀ s∈l,tK s)->l.length<=l.flatten.length:=by
    intro l;induction l with
    | nil=>intro _;exact dM _
    | cons x r ih=>
     intro hx;rw [lj,cC,eQ];have:=ih λs hs=>hx s<|dz _ hs;have:=(qW<|hx x dh).1;lia
   have:=this done λs hs=>ok s (by rw [<-e];exact vO _ hs);exact To W v this
  dsimp only [aY,br,bf,cK,aU,aP,aJ,g0,fK,gs,fy];refine ⟨P,?_⟩;rw [decide_eq_true<|show (done.flatten.length:Int)<lC.1.flatten.length by exact Tp F.1 v];refine aH ?_;dsimp only [bV,bB,bD,aY,cj,aU,aP,aJ,gs,g0];have A:∀ {Q:V->Hp->Prop},Q (.str s) p->lC.2.1 164 [.str lC.1.flatten,aw done.flatten.length] p Q bR:=λ{Q} q=>by
   rw [et];exact L _ _ _ _ _ hs (by rw [<-et];exact W) q
  refine A<|aH ?_;dsimp only [dZ,cj,aU,aP,bT,cK,aJ,gs,g0,fK,cZ];refine ⟨by exact IK F.2,?_⟩;rw [show (done.flatten.length:Int)+(s.length:Int)=((done.flatten.length+s.length:Nat):Int) from rfl];refine O _ _ _ _ hp (by exact Tq v) W (jz (m':=[some<|.str lC.1.flatten,some<|aB f,some<|aw done.flatten.length,some<|.str s,some<|aw 1,some<|aw ((done.flatten.length+s.length:Nat):Int),none,none,none]) (by decide) rfl<|aH ?_);dsimp only [bL,dN,db,cX,br,bf,bU,aU,aP,aV,eL,aJ,gs,g0,bT,cK,fK,cZ,eJ];refine ⟨by exact IK F.2,?_⟩;rw [show (done.flatten.length:Int)+(s.length:Int)=((done.flatten.length+s.length:Nat):Int) from rfl,decide_eq_false<|zj4 _];refine aM<|aH ?_;dsimp only [cL,aY,bU,aU,aP,gP,aJ,gs,g0];refine me u (by decide)<|BX rfl λa d y ha hd=>?_;have a2:aN p d (bP []) a=none:=(dQ y).trans ha;refine J a d s _ _ _ (bw ..) ((dQ y.symm).trans (bw ..)) ?_;have fa:f≠a:=mS u ha;have fd:f≠d:=mS u hd;have a1:aN (aN (aN p d<|bP []) a<|fG 153 d) d (bP<|tM s done.flatten.length)=aN (aN p d<|bP<|tM s done.flatten.length) a (fG 153 d):=by
   funext z;unfold aN
   by_cases Z:z=d
   .subst Z;rw [if_pos rfl,if_neg y.symm,if_pos rfl]
   .rw [if_neg Z];by_cases q2:z=a
    .subst q2;rw [if_pos rfl,if_pos rfl]
    .rw [if_neg q2,if_neg q2,if_neg Z,if_neg Z]
  rw [a1];have l2:p.le (aN (aN p d<|bP<|tM s done.flatten.length) a<|fG 153 d):=(b8 _ hd).tr (b8 _<|(dQ y).trans ha);have xs:ij (aN (aN p d<|bP<|tM s done.flatten.length) a<|fG 153 d) a s:=⟨d,_,bw ..,(dQ y.symm).trans (bw ..)⟩;have U:=(sg.mono l2).app xs;have I:=l2 _ _ u;generalize aN (aN p d<|bP<|tM s done.flatten.length) a (fG 153 d)=H2 at l2 U I;refine lO I (by rw [cN];exact xN a0<|by decide)<|aH ?_;dsimp only [bV,bB,bD,aY,aJ,gs,g0];refine aM (k1 j.length _ _ (xU _) ⟨done++[s],j,bs++[a],some<|.str s,some<|aw 1,some<|aw ((done.flatten.length+s.length:Nat):Int),by rw [<-e];simp,rfl,?_,mT _ (l1.tr l2) hf,?_,?_⟩)
  .rw [Ag,cC];simp
  .rw [bw,jw];rfl
  .exact zeN I U
theorem zeQ {Φ:bG}{aA:List (List Nat)}{H:Hp}{R:V->Hp->Prop}{X:V->Hp->Prop}:F8 Φ aA H R X:=on (P:=NP) (by with_unfolding_all exact zeP) (aA,Φ,H,R,X)
structure Ord where
 seen:Int
 isPlain:Bool
 point:List Nat
 lead:Int
 trail:Int
 bJ:Int
 zero:List Nat
 zeros:Int
 floats:Int
 behind:Int
 jj:Bool
 sign:List Nat
 iW:List Nat
 last:List Nat
 qX:Bool
 vf:Bool
noncomputable def B0:Ord:=⟨0,false,[],0,0,0,[],0,0,0,false,[],[],[],false,false⟩
noncomputable def dD (o:Ord):List (Nat×V):=[(11,aw o.seen),(12,aZ o.isPlain),(13, .str o.point),(14,aw o.lead),(15,aw o.trail),(16,aw o.bJ),(17, .str o.zero),(18,aw o.zeros),(19,aw o.floats),(20,aw o.behind),(21,aZ o.jj),(9, .str o.sign),(22, .str o.iW),(23, .str o.last),(24,aZ o.qX),(25,aZ o.vf)]
structure gc (H:Hp) (a d:Nat) (o:Ord):Prop where
 h1:H a=some (fG 310 d)
 h2:H d=some (bP<|dD o)
theorem gc.ad {H:Hp}{a d:Nat}{o:Ord}(x:gc H a d o):a≠d:=by rintro rfl;have:=x.h1.symm.trans x.h2;cases this
theorem gc.put {H:Hp}{a d:Nat}{o o':Ord}(x:gc H a d o):gc (aN H d<|bP<|dD o') a d o':=⟨(dQ x.ad).trans x.h1,bw ..⟩
theorem ij.put {H:Hp}{a d b:Nat}{o o':Ord}{s:List Nat}(y:ij H b s) (x:gc H a d o):ij (aN H d<|bP<|dD o') b s:=by
 obtain ⟨l,k,f,j⟩:=y;refine ⟨l,k,(dQ ?_).trans f,(dQ ?_).trans j⟩
 .rintro rfl;have:=f.symm.trans x.h2;cases this
 .rintro rfl;have:=j.symm.trans x.h2;cases this
noncomputable def dS (o:Ord):Int:=o.bJ+o.zeros+o.floats
noncomputable def gU (o:Ord) (c:Int) (l:Bool):Ord:=if o.point=[] then o else {o with behind:=o.behind+c,jj:=o.jj || l}
def w7 (Φ:bG):Prop:=∀ (a d:Nat) (o:Ord) (H:Hp) (R:V->Hp->Prop),gc H a d o->R (aw<|dS o) H->Φ 209 [aB a] H R bR
theorem zeR {a d:Nat}{o:Ord}{H:Hp}{R X:V->Hp->Prop}(x:gc H a d o) (h:R (aw<|dS o) H):c7 Φ 1 KJ [aB a] H R X:=by
 refine wF (m:=[some<|aB a,none,none,none]) rfl<|aH ?_;dsimp only [cy,cx,bT,bQ,aJ,g0];refine bN x.h1 x.h2 (v:=aw o.bJ) rfl rfl<|bN x.h1 x.h2 (v:=aw o.zeros) rfl rfl ?_;dsimp only [cZ];refine bN x.h1 x.h2 (v:=aw o.floats) rfl rfl ?_;dsimp only [cZ];exact eG h
def B3 (Φ:bG):Prop:=∀ (a d:Nat) (o:Ord) (c:Int) (l:Bool) (H:Hp) (R:V->Hp->Prop),gc H a d o->R cz (aN H d<|bP<|dD<|gU o c l)->Φ 216 [aB a,aw c,aZ l] H R bR
set_option tactic.hygienic true in
theorem zeS {H:Hp}{d:Nat}{o:MO}(h:H d=some o):aN H d o=H:=by
 funext z;unfold aN;split
 .rename_i e;rw [e,h]
 .rfl
theorem zeT {a d:Nat}{o:Ord}{c:Int}{l:Bool}{H:Hp}{R X:V->Hp->Prop}(x:gc H a d o) (h:R cz (aN H d<|bP<|dD<|gU o c l)):c7 Φ 3 KL [aB a,aw c,aZ l] H R X:=by
 refine wF (m:=[some<|aB a,some<|aw c,some<|aZ l,none,none,none]) rfl<|aH ?_;dsimp only [bL,br,bf,aV,bQ,aJ,g0];refine bN x.h1 x.h2 (v:= .str o.point) rfl rfl ?_;dsimp only [fL];refine oI (λq=>aH ?_) λq=>aM<|aM<|iV ?_
 .have e:gU o c l={o with behind:=o.behind+c,jj:=o.jj || l}:=if_neg q;rw [e] at h;dsimp only [ev,aY,aJ,g0,bT,gs,bQ];refine bN x.h1 x.h2 (v:=aw o.behind) rfl rfl ?_;dsimp only [cZ];refine dH x.h1 x.h2 (by decide:16<1000) rfl<|aH ?_;rw [show i9 (dD o) 20 (aw<|o.behind+c)=dD {o with behind:=o.behind+c} from rfl];have f:=x.put (o':={o with behind:=o.behind+c});dsimp only [ev,aY,aJ,g0,fT,fR,fQ,gs,bQ];refine bN f.h1 f.h2 (v:=aZ o.jj) rfl rfl (wY (P:=λb=>th (aB a) 21 (aZ b) _ _) (c:=l) (λq=>q)<|dH f.h1 f.h2 (by decide:16<1000) rfl<|aM<|aM<|iV ?_);rw [gi];exact h
 .have e:gU o c l=o:=if_pos q;rw [e,zeS x.h2] at h;exact h
def B4 (o:Ord):Ord:=gU {o with bJ:=o.bJ+1} 1 false
def NQ (Φ:bG):Prop:=∀ (a d b:Nat) (o:Ord) (s:List Nat) (H:Hp) (R:V->Hp->Prop),gc H a d o->ij H b s->o.trail<=0->o.jj=false->R cz (aN H d<|bP<|dD<|B4 o)->Φ 223 [aB a,aB b] H R bR
theorem zeU (f:B3 Φ){a d b:Nat}{o:Ord}{s:List Nat}{H:Hp}{R X:V->Hp->Prop}(x:gc H a d o) (y:ij H b s) (u:o.trail<=0) (p2:o.jj=false) (h:R cz (aN H d<|bP<|dD<|B4 o)):c7 Φ 2 KM [aB a,aB b] H R X:=by
 refine wF (m:=[some<|aB a,some<|aB b,none,none,none]) rfl<|aH ?_;dsimp only [bL,eT,eV,eU,ee,bQ,aJ,g0,br,bf,aV];refine bN x.h1 x.h2 (v:=aw o.trail) rfl rfl ?_;dsimp only [eJ];refine jI (decide_eq_false<|lc.mpr u)<|bN x.h1 x.h2 (v:=aZ o.jj) rfl rfl ?_;refine jI p2<|aM<|aH ?_;dsimp only [ev,aY,aJ,g0,bT,bQ,gs];obtain ⟨r,k,j,l⟩:=y;refine bN x.h1 x.h2 (v:=aw o.bJ) rfl rfl<|bN j l (v:=aw 1) rfl rfl ?_;dsimp only [cZ];refine dH x.h1 x.h2 (by decide:16<1000) rfl<|aH ?_;rw [show i9 (dD o) 16 (aw<|o.bJ+1)=dD {o with bJ:=o.bJ+1} from rfl];have p:=x.put (o':={o with bJ:=o.bJ+1});obtain ⟨r,k,j,l⟩:=ij.put (o':={o with bJ:=o.bJ+1}) ⟨r,k,j,l⟩ x;dsimp only [cL,aY,bU,aU,aP,aV,bQ,aJ,gs,g0];refine hZ p.h1 p.h2 (rfl:gf 310 9=some 216) rfl<|bN j l (v:=aw 1) rfl rfl<|f a d _ _ _ _ _ p<|aM<|iV ?_;rw [gi];exact h
def B5 (o:Ord) (s:List Nat):Ord:=gU {o with zero:=s,zeros:=o.zeros+1} 1 true
def NR (Φ:bG):Prop:=∀ (a d b:Nat) (o:Ord) (s:List Nat) (H:Hp) (R:V->Hp->Prop),gc H a d o->ij H b s->o.trail<=0->o.bJ<=0->o.floats<=0->(o.zero=[]\/o.zero=s)->R cz (aN H d<|bP<|dD<|B5 o s)->Φ 230 [aB a,aB b] H R bR
theorem zeV (l:B3 Φ){a d b:Nat}{o:Ord}{s:List Nat}{H:Hp}{R X:V->Hp->Prop}(x:gc H a d o) (y:ij H b s) (F:o.trail<=0) (p2:o.bJ<=0) (I:o.floats<=0) (J:o.zero=[]\/o.zero=s) (h:R cz (aN H d<|bP<|dD<|B5 o s)):c7 Φ 2 KN [aB a,aB b] H R X:=by
 refine wF (m:=[some<|aB a,some<|aB b,none,none,none]) rfl<|aH ?_;obtain ⟨u,k,f,j⟩:=y;dsimp only [bL,eT,eV,eU,br,bf,bX,aU,aP,bQ,aJ,gs,g0,aV];refine bN x.h1 x.h2 (v:=aw o.trail) rfl rfl ?_;refine jI (decide_eq_false<|lc.mpr F)<|bN x.h1 x.h2 (v:=aw o.bJ) rfl rfl ?_;refine jI (decide_eq_false<|lc.mpr p2)<|bN x.h1 x.h2 (v:=aw o.floats) rfl rfl ?_;refine jI (decide_eq_false<|lc.mpr I)<|bN x.h1 x.h2 (v:= .str o.zero) rfl rfl<|bN f j (v:= .str s) rfl rfl ?_;refine ⟨bC rfl,jI ?_<|aM<|aH ?_⟩
 .rcases J with p | p <;> rw [p] <;> simp
 dsimp only [ev,aY,aJ,g0,bQ,gs];refine bN f j (v:= .str s) rfl rfl (dH x.h1 x.h2 (by decide:16<1000) rfl<|aH ?_);rw [show i9 (dD o) 17 (.str s)=dD {o with zero:=s} from rfl];have r:=x.put (o':={o with zero:=s});obtain ⟨u,k,f,j⟩:=ij.put (o':={o with zero:=s}) ⟨u,k,f,j⟩ x;dsimp only [ev,aY,aJ,g0,bT,bQ,gs];refine bN r.h1 r.h2 (v:=aw o.zeros) rfl rfl<|bN f j (v:=aw 1) rfl rfl ?_;dsimp only [cZ];refine dH r.h1 r.h2 (by decide:16<1000) rfl<|aH ?_;rw [gi,show i9 (dD {o with zero:=s}) 18 (aw<|o.zeros+1)=dD {o with zero:=s,zeros:=o.zeros+1} from rfl];have z:=x.put (o':={o with zero:=s,zeros:=o.zeros+1});obtain ⟨u,k,f,j⟩:=ij.put (o':={o with zero:=s,zeros:=o.zeros+1}) ⟨u,k,f,j⟩ r;rw [gi] at f j;dsimp only [cL,aY,bU,aU,aP,aV,bQ,aJ,gs,g0];refine hZ z.h1 z.h2 (rfl:gf 310 9=some 216) rfl<|bN f j (v:=aw 1) rfl rfl<|l a d _ _ _ _ _ z<|aM<|iV ?_;rw [gi];exact h
noncomputable def y8 (o:Ord) (s:List Nat):Ord:={o with point:=s}
def NS (Φ:bG):Prop:=∀ (a d b:Nat) (o:Ord) (s:List Nat) (H:Hp) (R:V->Hp->Prop),gc H a d o->ij H b s->o.point=[]->o.lead<=0->o.trail<=0->R cz (aN H d<|bP<|dD<|y8 o s)->Φ 237 [aB a,aB b] H R bR
theorem zeW {a d b:Nat}{o:Ord}{s:List Nat}{H:Hp}{R X:V->Hp->Prop}(x:gc H a d o) (y:ij H b s) (p:o.point=[]) (p2:o.lead<=0) (r:o.trail<=0) (h:R cz (aN H d<|bP<|dD<|y8 o s)):c7 Φ 2 Em [aB a,aB b] H R X:=by
 refine wF (m:=[some<|aB a,some<|aB b,none,none,none]) rfl<|aH ?_;obtain ⟨u,k,j,l⟩:=y;have f:cJ Φ (dy 1 Em) [some<|aB a,some<|aB b,none,none,none] H (cQ R) (cP X):=by
  refine aH ?_;dsimp only [ev,aY,aJ,g0,bQ,gs];exact bN j l (v:= .str s) rfl rfl (dH x.h1 x.h2 (by decide:16<1000) rfl<|aM<|iV h)
 dsimp only [bL,eT,eV,eU,dN,db,cX,br,bf,aV,bQ,aJ,g0,gs];refine bN x.h1 x.h2 (v:= .str o.point) rfl rfl ?_;dsimp only [fL];refine jI (by rw [decide_eq_true p];rfl)<|bN x.h1 x.h2 (v:=aw o.lead) rfl rfl ?_;refine jI (decide_eq_false<|lc.mpr p2)<|bN j l (v:= .str s) rfl rfl ?_;refine c0 (λq=>bN x.h1 x.h2 (v:=aw o.trail) rfl rfl ?_) λq=>aM f;exact jI (decide_eq_false<|lc.mpr r)<|aM f
def NT (Φ:bG):Prop:=∀ (a d b:Nat) (o:Ord) (s:List Nat) (H:Hp) (R:V->Hp->Prop),gc H a d o->ij H b s->0<dS o->o.point=[]->o.lead<=0->R cz (aN H d<|bP<|dD {o with trail:=o.trail+1})->Φ 244 [aB a,aB b] H R bR
theorem zeX (f:w7 Φ){a d b:Nat}{o:Ord}{s:List Nat}{H:Hp}{R X:V->Hp->Prop}(x:gc H a d o) (y:ij H b s) (j:0<dS o) (l:o.point=[]) (p2:o.lead<=0) (h:R cz (aN H d<|bP<|dD {o with trail:=o.trail+1})):c7 Φ 2 KO [aB a,aB b] H R X:=by
 refine wF (m:=[some<|aB a,some<|aB b,none,none,none]) rfl<|aH ?_;obtain ⟨u,k,p,r⟩:=y;dsimp only [bL,br,bf,aV,bU,aP,aJ,g0];refine hZ x.h1 x.h2 (rfl:gf 310 8=some 209) rfl<|f a d o _ _ x ?_;dsimp only [eJ];refine BK (decide_eq_true j)<|aH ?_;dsimp only [bL,eT,eV,eU,br,bf,aV,bQ,aJ,g0];refine bN x.h1 x.h2 (v:= .str o.point) rfl rfl ?_;dsimp only [fL];refine jI (by rw [decide_eq_true l];rfl)<|bN x.h1 x.h2 (v:=aw o.lead) rfl rfl ?_;dsimp only [eJ];refine jI (decide_eq_false<|lc.mpr p2)<|aM<|aH ?_;dsimp only [ev,aY,aJ,g0,bT,bQ,gs];refine bN x.h1 x.h2 (v:=aw o.trail) rfl rfl<|bN p r (v:=aw 1) rfl rfl ?_;dsimp only [cZ];refine dH x.h1 x.h2 (by decide:16<1000) rfl<|aH ?_;dsimp only [cy,cx,aV];exact eG h
def NU (Φ:bG):Prop:=∀ (a d b:Nat) (o:Ord) (H:Hp) (R:V->Hp->Prop),gc H a d o->o.trail<=0->R cz (aN H d<|bP<|dD {o with vf:=true})->Φ 251 [aB a,aB b] H R bR
theorem zeY {a d b:Nat}{o:Ord}{H:Hp}{R X:V->Hp->Prop}(x:gc H a d o) (f:o.trail<=0) (h:R cz (aN H d<|bP<|dD {o with vf:=true})):c7 Φ 2 KP [aB a,aB b] H R X:=by
 refine wF (m:=[some<|aB a,some<|aB b,none,none,none]) rfl<|aH ?_;dsimp only [bL,br,bf,aV,bQ,aJ,g0];refine bN x.h1 x.h2 (v:=aw o.trail) rfl rfl ?_;refine jI (decide_eq_false<|lc.mpr f)<|aM<|aH ?_;exact dH x.h1 x.h2 (by decide:16<1000) rfl<|aM<|iV h
def sj (o:Ord) (c:Int):Ord:=gU {o with floats:=o.floats+c} c true
def Ga (Φ:bG):Prop:=∀ (a d b:Nat) (o:Ord) (c:Int) (H:Hp) (R:V->Hp->Prop),gc H a d o->R cz (aN H d<|bP<|dD<|sj o c)->Φ 258 [aB a,aB b,aw c] H R bR
theorem zeZ (f:B3 Φ){a d b:Nat}{o:Ord}{c:Int}{H:Hp}{R X:V->Hp->Prop}(x:gc H a d o) (h:R cz (aN H d<|bP<|dD<|sj o c)):c7 Φ 3 KQ [aB a,aB b,aw c] H R X:=by
 refine wF (m:=[some<|aB a,some<|aB b,some<|aw c,none,none,none]) rfl<|aH ?_;dsimp only [ev,aY,aJ,g0,bT,gs,bQ];refine bN x.h1 x.h2 (v:=aw o.floats) rfl rfl ?_;dsimp only [cZ];refine dH x.h1 x.h2 (by decide:16<1000) rfl<|aH ?_;rw [show i9 (dD o) 19 (aw<|o.floats+c)=dD {o with floats:=o.floats+c} from rfl];have j:=x.put (o':={o with floats:=o.floats+c});dsimp only [cL,aY,bU,aU,aP,aV,aJ,gs,g0];refine hZ j.h1 j.h2 (rfl:gf 310 9=some 216) rfl<|f a d _ _ _ _ _ j<|aM<|iV ?_;rw [gi];exact h
noncomputable def sk (o:Ord):Bool:=decide (o.bJ=0) && (decide (o.zeros=0) && (decide (o.lead=0) && decide (o.trail=0)))
def Gb (Φ:bG):Prop:=∀ (a d:Nat) (o:Ord) (H:Hp) (R:V->Hp->Prop),gc H a d o->R (aZ<|sk o) H->Φ 265 [aB a] H R bR
theorem ze0 {a d:Nat}{o:Ord}{H:Hp}{R X:V->Hp->Prop}(x:gc H a d o) (h:R (aZ<|sk o) H):c7 Φ 1 KR [aB a] H R X:=by
 refine wF (m:=[some<|aB a,none,none,none]) rfl<|aH ?_;dsimp only [cy,cx,fT,fR,fQ,fe,bf,aV,bQ,aJ,g0];refine bN x.h1 x.h2 (v:=aw o.bJ) rfl rfl ?_;dsimp only [e8];refine y0 (P:=λb=>cQ R (gW<|aZ b) _ H) (c:=decide (o.zeros=0) && (decide (o.lead=0) && decide (o.trail=0))) (λq=>bN x.h1 x.h2 (v:=aw o.zeros) rfl rfl ?_)<|eG h;dsimp only [e8];refine y0 (P:=λb=>cQ R (gW<|aZ b) _ H) (c:=decide (o.lead=0) && decide (o.trail=0)) (λq=>bN x.h1 x.h2 (v:=aw o.lead) rfl rfl ?_) q;dsimp only [e8];refine y0 (P:=λb=>cQ R (gW<|aZ b) _ H) (c:=decide (o.trail=0)) (λq=>bN x.h1 x.h2 (v:=aw o.trail) rfl rfl ?_) q;exact q
noncomputable def qh (o:Ord) (s:List Nat):Ord:={o with sign:=s,qX:=true}
def Gc (Φ:bG):Prop:=∀ (a d b:Nat) (o:Ord) (s:List Nat) (H:Hp) (R:V->Hp->Prop),gc H a d o->ij H b s->dS o≠0->o.sign=[]->R cz (aN H d<|bP<|dD<|qh o s)->Φ 286 [aB a,aB b] H R bR
theorem ze1 (f:w7 Φ){a d b:Nat}{o:Ord}{s:List Nat}{H:Hp}{R X:V->Hp->Prop}(x:gc H a d o) (y:ij H b s) (r:dS o≠0) (p2:o.sign=[]) (h:R cz (aN H d<|bP<|dD<|qh o s)):c7 Φ 2 KU [aB a,aB b] H R X:=by
 refine wF (m:=[some<|aB a,some<|aB b,none,none,none]) rfl<|aH ?_;obtain ⟨u,k,j,l⟩:=y;dsimp only [bL,eT,eV,eU,br,bf,aV,bQ,aJ,gs,g0,bU,aP];refine hZ x.h1 x.h2 (rfl:gf 310 8=some 209) rfl<|f a d o _ _ x ?_;refine jI (decide_eq_false r)<|bN x.h1 x.h2 (v:= .str o.sign) rfl rfl ?_;dsimp only [fL];refine jI (by rw [decide_eq_true p2];rfl)<|bN j l (v:=aw 1) rfl rfl ?_;refine aM<|aH ?_;dsimp only [ev,aY,aJ,g0,bQ,gs];refine bN j l (v:= .str s) rfl rfl (dH x.h1 x.h2 (by decide:16<1000) rfl<|aH ?_);rw [show i9 (dD o) 9 (.str s)=dD {o with sign:=s} from rfl];have p:=x.put (o':={o with sign:=s});refine dH p.h1 p.h2 (by decide:16<1000) rfl<|aM<|iV ?_;rw [gi];exact h
def vg (o:Ord) (s:List Nat):Option Ord:=
 if o.seen=0 then some (sj {o with sign:=s} 0)
 else if o.sign=s/\o.iW=[]/\sk o=true then some (sj o 1)
 else if dS o≠0/\o.sign=[] then some (qh o s) else none
def NV (Φ:bG):Prop:=∀ (a d b:Nat) (o o':Ord) (s:List Nat) (H:Hp) (R:V->Hp->Prop),gc H a d o->ij H b s->vg o s=some o'->R cz (aN H d<|bP<|dD o')->Φ 272 [aB a,aB b] H R bR
abbrev Ge (Φ:bG) (a:Nat) (d:Nat) (b:Nat) (o:Ord) (s:List Nat) (H:Hp) (R:V->Hp->Prop) (X:V->Hp->Prop):Prop:=∀ (f:Ga Φ) (j:Gb Φ) (l:Gc Φ){o':Ord}(x:gc H a d o) (y:ij H b s) (p:vg o s=some o') (h:R cz (aN H d<|bP<|dD o')),c7 Φ 2 KS [aB a,aB b] H R X
abbrev NW (t:Ord×List Nat×Nat×Nat×Nat×bG×(V->Hp->Prop)×Hp×(V->Hp->Prop)):Prop:=Ge t.2.2.2.2.2.1 t.2.2.1 t.2.2.2.2.1 t.2.2.2.1 t.1 t.2.1 t.2.2.2.2.2.2.2.1 t.2.2.2.2.2.2.2.2 t.2.2.2.2.2.2.1
@[irreducible] noncomputable def ik:Ord×List Nat×Nat×Nat×Nat×bG×(V->Hp->Prop)×Hp×(V->Hp->Prop):=nB (B0,bM,bM,bM,bM,bM,bM,bM,bM) NW
@[irreducible] noncomputable def mW:Ord:=ik.1
@[irreducible] noncomputable def sm:List Nat:=ik.2.1
theorem ze2:Ge ik.2.2.2.2.2.1 ik.2.2.1 ik.2.2.2.2.1 ik.2.2.2.1 mW sm ik.2.2.2.2.2.2.2.1 ik.2.2.2.2.2.2.2.2 ik.2.2.2.2.2.2.1:=by
 intro f r u o' x y p h;refine wF (m:=[some<|aB ik.2.2.1,some<|aB ik.2.2.2.1,none,none,none]) rfl<|aH ?_;obtain ⟨I,k,j,l⟩:=y;dsimp only [bL,br,bf,aV,bQ,aJ,g0];refine bN x.h1 x.h2 (v:=aw mW.seen) rfl rfl ?_;dsimp only [e8];refine c0 (λq=>aH ?_) λq=>aH ?_
 .rw [vg,if_pos q] at p;cases p;dsimp only [ev,aY,aJ,g0,bQ,gs];refine bN j l (v:= .str sm) rfl rfl (dH x.h1 x.h2 (by decide:16<1000) rfl<|aH ?_);rw [show i9 (dD mW) 9 (.str sm)=dD {mW with sign:=sm} from rfl];have J:=x.put (o':={mW with sign:=sm});obtain ⟨I,k,j,l⟩:=ij.put (o':={mW with sign:=sm}) ⟨I,k,j,l⟩ x;dsimp only [cL,aY,bU,aU,aP,bT,aV,bQ,aJ,gs,g0];refine hZ J.h1 J.h2 (rfl:gf 310 15=some 258) rfl<|bN j l (v:=aw 1) rfl rfl<|f ik.2.2.1 ik.2.2.2.2.1 ik.2.2.2.1 _ 0 _ _ J<|aM<|aM<|iV ?_;rw [gi];exact h
 .rw [vg,if_neg q] at p;have fin2:¬(mW.sign=sm/\mW.iW=[]/\sk mW=true)->cJ ik.2.2.2.2.2.1 (aE (dL<|cv (az 0) 19<|aC (az 1) aI) aK) [some<|aB ik.2.2.1,some<|aB ik.2.2.2.1,none,none,none] ik.2.2.2.2.2.2.2.1 (go ik.2.2.2.2.2.1 aK (go ik.2.2.2.2.2.1 aK (cQ ik.2.2.2.2.2.2.2.2)<|cP ik.2.2.2.2.2.2.1)<|cP ik.2.2.2.2.2.2.1) (cP ik.2.2.2.2.2.2.1):=by
   intro z;rw [if_neg z] at p;refine aH ?_;by_cases F:dS mW≠0/\mW.sign=[]
   .rw [if_pos F] at p;cases p;dsimp only [cL,aY,bU,aU,aP,aJ,gs,g0];exact hZ x.h1 x.h2 (rfl:gf 310 19=some 286) rfl<|u ik.2.2.1 ik.2.2.2.2.1 ik.2.2.2.1 mW sm _ _ x ⟨I,k,j,l⟩ F.1 F.2<|aM<|aM<|aM<|iV h
   .rw [if_neg F] at p;cases p
  dsimp only [bL,dN,db,cX,ee,bU,aP,aJ,g0,br,bf,aV,bQ,gs];refine bN x.h1 x.h2 (v:= .str mW.sign) rfl rfl<|bN j l (v:= .str sm) rfl rfl ?_;refine c0 (λL=>bN x.h1 x.h2 (v:= .str mW.iW) rfl rfl ?_) λL=>fin2 λz=>L z.1;dsimp only [dB];refine c0 (λO=>hZ x.h1 x.h2 (rfl:gf 310 16=some 265) rfl ?_) λO=>fin2 λz=>O z.2.1;refine r ik.2.2.1 ik.2.2.2.2.1 mW _ _ x ?_;refine dR (λP=>aH ?_) λP=>fin2 λz=>by rw [P] at z;cases z.2.2
  rw [if_pos ⟨L,O,P⟩] at p;cases p;dsimp only [cL,aY,bU,aU,aP,bQ,aJ,gs,g0];exact hZ x.h1 x.h2 (rfl:gf 310 15=some 258) rfl<|bN j l (v:=aw 1) rfl rfl<|f ik.2.2.1 ik.2.2.2.2.1 ik.2.2.2.1 _ 1 _ _ x<|aM<|aM<|aM<|iV h
theorem ze3 {Φ:bG}{a:Nat}{d:Nat}{b:Nat}{o:Ord}{s:List Nat}{H:Hp}{R:V->Hp->Prop}{X:V->Hp->Prop}:Ge Φ a d b o s H R X:=on (P:=NW) (by with_unfolding_all exact ze2) (o,s,a,b,d,Φ,X,H,R)
def vh (o:Ord) (s:List Nat):Option Ord:=
 if o.iW=[] then (if ¬1<o.seen/\¬(o.seen=1/\(o.sign=[]\/0<o.floats)) then some (sj {o with iW:=s} 0) else none)
 else if sk o=true then some (sj o 1) else none
def NX (Φ:bG):Prop:=∀ (a d b:Nat) (o o':Ord) (s:List Nat) (H:Hp) (R:V->Hp->Prop),gc H a d o->ij H b s->vh o s=some o'->R cz (aN H d<|bP<|dD o')->Φ 279 [aB a,aB b] H R bR
theorem ze4 (f:Ga Φ) (l:Gb Φ){a d b:Nat}{o o':Ord}{s:List Nat}{H:Hp}{R X:V->Hp->Prop}(x:gc H a d o) (y:ij H b s) (p:vh o s=some o') (h:R cz (aN H d<|bP<|dD o')):c7 Φ 2 KT [aB a,aB b] H R X:=by
 refine wF (m:=[some<|aB a,some<|aB b,none,none,none]) rfl<|aH ?_;obtain ⟨J,k,r,u⟩:=y;dsimp only [bL,br,bf,aV,bQ,aJ,g0];refine bN x.h1 x.h2 (v:= .str o.iW) rfl rfl ?_;dsimp only [dB];refine c0 (λq=>aH ?_) λq=>aH ?_
 .rw [vh,if_pos q] at p;by_cases z:¬1<o.seen/\¬(o.seen=1/\(o.sign=[]\/0<o.floats))
  .rw [if_pos z] at p;cases p;obtain ⟨O,L⟩:=z;have j:cJ Φ (aE (c6 (az 0) 22<|bF (az 1) 9)<|aE (dL<|cv (az 0) 15<|aC (az 1)<|aC (bq iZ (bF (az 1) 10)<|aD<|aw 1) aI) aK) [some<|aB a,some<|aB b,none,none,none] H (go Φ aK (cQ R)<|cP X) (cP X):=by
    refine aH ?_;dsimp only [ev,aY,aJ,g0,bQ,gs];refine bN r u (v:= .str s) rfl rfl (dH x.h1 x.h2 (by decide:16<1000) rfl<|aH ?_);rw [show i9 (dD o) 22 (.str s)=dD {o with iW:=s} from rfl];have F:=x.put (o':={o with iW:=s});obtain ⟨J,k,r,u⟩:=ij.put (o':={o with iW:=s}) ⟨J,k,r,u⟩ x;dsimp only [cL,aY,bU,aU,aP,bT,aV,bQ,aJ,gs,g0];refine hZ F.h1 F.h2 (rfl:gf 310 15=some 258) rfl<|bN r u (v:=aw 1) rfl rfl<|f a d b _ 0 _ _ F<|aM<|aM<|iV ?_;rw [gi];exact h
   dsimp only [bL,eT,eV,eU,dN,db,cX,br,bf,aV,bQ,aJ,g0];refine bN x.h1 x.h2 (v:=aw o.seen) rfl rfl<|jI (decide_eq_false O)<|bN x.h1 x.h2 (v:=aw o.seen) rfl rfl ?_;refine c0 (λI=>bN x.h1 x.h2 (v:= .str o.sign) rfl rfl ?_) λI=>aM j;dsimp only [dB];refine jI (decide_eq_false λe=>L ⟨I,ba e⟩)<|bN x.h1 x.h2 (v:=aw o.floats) rfl rfl ?_;dsimp only [eJ];exact jI (decide_eq_false λe=>L ⟨I,aX e⟩)<|aM j
  .rw [if_neg z] at p;cases p
 .rw [vh,if_neg q] at p;by_cases z:sk o=true
  .rw [if_pos z] at p;cases p;dsimp only [bL,ee,bU,aP,aJ,g0];refine hZ x.h1 x.h2 (rfl:gf 310 16=some 265) rfl<|l a d o _ _ x<|BK z<|aH ?_;dsimp only [cL,aY,bU,aU,aP,bQ,aJ,gs,g0];exact hZ x.h1 x.h2 (rfl:gf 310 15=some 258) rfl<|bN r u (v:=aw 1) rfl rfl<|f a d b _ 1 _ _ x<|aM<|aM<|aM<|iV h
  .rw [if_neg z] at p;cases p
noncomputable def Gf (o:Ord):Option Ord:=if o.trail<=0 then some {o with vf:=true} else none
def Gg (o:Ord) (s:List Nat):Option Ord:=if ji.any (·==s)=true then (if dS o≠0/\o.sign=[] then some (qh o s) else none) else Gf o
def Gh (o:Ord) (s:List Nat):Option Ord:=if s=[36] then vh o s else Gg o s
def Gi (o:Ord) (s:List Nat):Option Ord:=if [[43],[45]].any (·==s)=true then vg o s else Gh o s
def Gj (o:Ord) (s:List Nat):Option Ord:=if s=[80] then (if 0<dS o/\o.point=[]/\o.lead<=0 then some {o with trail:=o.trail+1} else none) else Gi o s
def Gk (o:Ord) (s:List Nat):Option Ord:=if [[86],[46]].any (·==s)=true then (if o.point=[]/\o.lead<=0/\o.trail<=0 then some (y8 o s) else none) else Gj o s
def Gl (o:Ord) (s:List Nat):Option Ord:=if [[90],[42]].any (·==s)=true then (if o.trail<=0/\o.bJ<=0/\o.floats<=0/\(o.zero=[]\/o.zero=s) then some (B5 o s) else none) else Gk o s
def mC (o:Ord) (s:List Nat):Option Ord:=if s=[57] then (if o.trail<=0/\o.jj=false then some (B4 o) else none) else Gl o s
def gj (o:Ord) (s:List Nat):Option Ord:=if o.qX=false/\o.isPlain=false/\s≠[83] then (mC o s).map λo'=>{o' with seen:=o'.seen+1,last:=s} else none
def NY (Φ:bG):Prop:=∀ (a d b:Nat) (o o':Ord) (s:List Nat) (H:Hp) (R:V->Hp->Prop),gc H a d o->ij H b s->gj o s=some o'->R cz (aN H d<|bP<|dD o')->Φ 293 [aB a,aB b] H R bR
theorem B6 {f:Type}{p:Prop} [Decidable p] {x y:f}(h:(if p then some x else none)=some y):p/\x=y:=by
 by_cases q:p
 .rw [if_pos q] at h;exact ⟨q,kH h⟩
 .rw [if_neg q] at h;cases h
theorem w8 {f:Type}{p:Prop} [Decidable p] {x y:f}{G:Prop}(h:(if p then some x else none)=some y) (k:p->x=y->G):G:=k (B6 h).1 (B6 h).2
abbrev Gm (Φ:bG) (a:Nat) (d:Nat) (b:Nat) (o:Ord) (o':Ord) (s:List Nat) (H:Hp) (R:V->Hp->Prop) (X:V->Hp->Prop):Prop:=∀ (f:NQ Φ) (j:NR Φ) (l:NS Φ) (r:NT Φ) (u:NU Φ) (v:NV Φ) (z:NX Φ) (F:Gc Φ) (x:gc H a d o) (y:ij H b s) (p:gj o s=some o') (h:R cz (aN H d<|bP<|dD o')),c7 Φ 3 En [aB a,aB b] H R X
abbrev NZ (t:List Nat×Ord×Nat×Nat×Nat×Hp×Ord×(V->Hp->Prop)×bG×(V->Hp->Prop)):Prop:=Gm t.2.2.2.2.2.2.2.2.1 t.2.2.2.1 t.2.2.2.2.1 t.2.2.1 t.2.1 t.2.2.2.2.2.2.1 t.1 t.2.2.2.2.2.1 t.2.2.2.2.2.2.2.1 t.2.2.2.2.2.2.2.2.2
@[irreducible] noncomputable def eB:List Nat×Ord×Nat×Nat×Nat×Hp×Ord×(V->Hp->Prop)×bG×(V->Hp->Prop):=nB (bM,B0,bM,bM,bM,bM,B0,bM,bM,bM) NZ
@[irreducible] noncomputable def kO:Ord:=eB.2.1
@[irreducible] noncomputable def jM:List Nat:=eB.1
theorem ze5:Gm eB.2.2.2.2.2.2.2.2.1 eB.2.2.2.1 eB.2.2.2.2.1 eB.2.2.1 kO eB.2.2.2.2.2.2.1 jM eB.2.2.2.2.2.1 eB.2.2.2.2.2.2.2.1 eB.2.2.2.2.2.2.2.2.2:=by
 intro l r u F I J L O x y p h;unfold gj at p;by_cases U:kO.qX=false/\kO.isPlain=false/\jM≠[83];case neg=>rw [if_neg U] at p;cases p
 rw [if_pos U] at p;refine oq p λo2 f eo=>iw U λp1 p2 W=>?_;have j:∀ o2,mC kO jM=some o2->eB.2.2.2.2.2.2.2.1 cz (aN eB.2.2.2.2.2.1 eB.2.2.2.2.1<|bP<|dD {o2 with seen:=o2.seen+1,last:=jM})->cJ eB.2.2.2.2.2.2.2.2.1 (dy 3 En) [some<|aB eB.2.2.2.1,some<|aB eB.2.2.1,some<|.str jM,none,none,none] (aN eB.2.2.2.2.2.1 eB.2.2.2.2.1<|bP<|dD o2) (cQ eB.2.2.2.2.2.2.2.1) (cP eB.2.2.2.2.2.2.2.2.2):=by
  refine λo2 _ h=>aH ?_;have P:=x.put (o':=o2);dsimp only [ev,aY,aJ,g0,bT,aV,bQ];refine bN P.h1 P.h2 (v:=aw o2.seen) rfl rfl ?_;dsimp only [cZ];refine dH P.h1 P.h2 (by decide:16<1000) rfl<|aH ?_;rw [gi,show i9 (dD o2) 11 (aw<|o2.seen+1)=dD {o2 with seen:=o2.seen+1} from rfl];have Z:=x.put (o':={o2 with seen:=o2.seen+1});refine dH Z.h1 Z.h2 (by decide:16<1000) rfl<|aM<|iV ?_;rw [gi];exact h
 have j:=j o2 f<|eo▸h;refine wF (m:=[some<|aB eB.2.2.2.1,some<|aB eB.2.2.1,none,none,none,none]) rfl<|aH ?_;obtain ⟨d',k,y1,y2⟩:=y;have y:ij eB.2.2.2.2.2.1 eB.2.2.1 jM:=⟨d',k,y1,y2⟩;dsimp only [bV,bB,bD,aY,bQ,aJ,gs,g0];refine bN y1 y2 (v:= .str jM) rfl rfl<|aH ?_;dsimp only [bL,eT,eV,eU,dN,db,cX,br,bf,aV,bQ,aJ,g0,gs,dB,bX,aU,aP,ee];refine bN x.h1 x.h2 (v:=aZ kO.qX) rfl rfl<|jI p1<|bN x.h1 x.h2 (v:=aZ kO.isPlain) rfl rfl<|jI p2 ?_;refine jI (decide_eq_false W)<|aM<|aH ?_;dsimp only [bL,br,bf,aV,aJ,gs,g0,dB];refine jI (decide_eq_false W)<|aH ?_;dsimp only [bL,br,bf,aV,aJ,gs,g0,dB];refine c0 (λq=>aH ?_) λq=>aH ?_
 .replace f:=(if_pos q).symm.trans f
  refine w8 f λz e=>?_;dsimp only [cL,aY,bU,aU,aP,aJ,gs,g0];exact hZ x.h1 x.h2 (rfl:gf 310 10=some 223) rfl<|l eB.2.2.2.1 eB.2.2.2.2.1 eB.2.2.1 kO jM _ _ x y z.1 z.2<|aM<|aM<|e▸j
 replace f:Gl kO jM=some o2:=(if_neg q).symm.trans f
 dsimp only [bL,br,bf,bX,aU,aP,aV,aJ,gs,g0,nQ];refine ⟨bC rfl,?_⟩;refine dR (b:=[[90],[42]].any (·==jM)) (λq=>?_) λq=>?_
 .replace f:=(if_pos q).symm.trans f
  refine w8 f λz e=>aH ?_;dsimp only [cL,aY,bU,aU,aP,aJ,gs,g0];exact hZ x.h1 x.h2 (rfl:gf 310 11=some 230) rfl<|r eB.2.2.2.1 eB.2.2.2.2.1 eB.2.2.1 kO jM _ _ x y z.1 z.2.1 z.2.2.1 z.2.2.2<|aM<|aM<|aM<|e▸j
 replace f:Gk kO jM=some o2:=(if_neg<|ne_true_of_eq_false q).symm.trans f
 refine aH ?_;dsimp only [bL,br,bf,bX,aU,aP,aV,aJ,gs,g0,nQ];refine ⟨bC rfl,?_⟩;refine dR (b:=[[86],[46]].any (·==jM)) (λq=>?_) λq=>?_
 .replace f:=(if_pos q).symm.trans f
  refine w8 f λz e=>aH ?_;dsimp only [cL,aY,bU,aU,aP,aJ,gs,g0];exact hZ x.h1 x.h2 (rfl:gf 310 12=some 237) rfl<|u eB.2.2.2.1 eB.2.2.2.2.1 eB.2.2.1 kO jM _ _ x y z.1 z.2.1 z.2.2<|aM<|aM<|aM<|aM<|e▸j
 replace f:Gj kO jM=some o2:=(if_neg<|ne_true_of_eq_false q).symm.trans f
 refine aH ?_;dsimp only [bL,br,bf,aV,aJ,gs,g0,dB];refine c0 (λq=>aH ?_) λq=>aH ?_
 .replace f:=(if_pos q).symm.trans f
  refine w8 f λz e=>?_;dsimp only [cL,aY,bU,aU,aP,aJ,gs,g0];exact hZ x.h1 x.h2 (rfl:gf 310 13=some 244) rfl<|F eB.2.2.2.1 eB.2.2.2.2.1 eB.2.2.1 kO jM _ _ x y z.1 z.2.1 z.2.2<|aM<|aM<|aM<|aM<|aM<|e▸j
 replace f:Gi kO jM=some o2:=(if_neg q).symm.trans f
 dsimp only [bL,br,bf,bX,aU,aP,aV,aJ,gs,g0,nQ];refine ⟨bC rfl,?_⟩;refine dR (b:=[[43],[45]].any (·==jM)) (λq=>?_) λq=>?_
 .replace f:=(if_pos q).symm.trans f
  refine aH ?_;dsimp only [cL,aY,bU,aU,aP,aJ,gs,g0];exact hZ x.h1 x.h2 (rfl:gf 310 17=some 272) rfl<|J eB.2.2.2.1 eB.2.2.2.2.1 eB.2.2.1 kO _ jM _ _ x y f<|aM<|aM<|aM<|aM<|aM<|aM j
 replace f:Gh kO jM=some o2:=(if_neg<|ne_true_of_eq_false q).symm.trans f
 refine aH ?_;dsimp only [bL,br,bf,aV,aJ,gs,g0,dB];refine c0 (λq=>aH ?_) λq=>aH ?_
 .replace f:=(if_pos q).symm.trans f
  dsimp only [cL,aY,bU,aU,aP,aJ,gs,g0];exact hZ x.h1 x.h2 (rfl:gf 310 18=some 279) rfl<|L eB.2.2.2.1 eB.2.2.2.2.1 eB.2.2.1 kO _ jM _ _ x y f<|aM<|aM<|aM<|aM<|aM<|aM<|aM j
 replace f:Gg kO jM=some o2:=(if_neg q).symm.trans f
 dsimp only [bL,br,bf,bX,aU,aP,aV,aJ,gs,g0,nQ];refine ⟨bC rfl,?_⟩;refine dR (b:=ji.any (·==jM)) (λq=>?_) λq=>?_
 .replace f:=(if_pos q).symm.trans f
  refine w8 f λz e=>aH ?_;dsimp only [cL,aY,bU,aU,aP,aJ,gs,g0];exact hZ x.h1 x.h2 (rfl:gf 310 19=some 286) rfl<|O eB.2.2.2.1 eB.2.2.2.2.1 eB.2.2.1 kO jM _ _ x y z.1 z.2<|aM<|aM<|aM<|aM<|aM<|aM<|aM<|aM<|e▸j
 .replace f:Gf kO=some o2:=(if_neg<|ne_true_of_eq_false q).symm.trans f
  refine w8 f λz1 e=>aH ?_;dsimp only [cL,aY,bU,aU,aP,aJ,gs,g0];exact hZ x.h1 x.h2 (rfl:gf 310 14=some 251) rfl<|I eB.2.2.2.1 eB.2.2.2.2.1 eB.2.2.1 kO _ _ x z1<|aM<|aM<|aM<|aM<|aM<|aM<|aM<|aM<|e▸j
theorem ze6 {Φ:bG}{a:Nat}{d:Nat}{b:Nat}{o:Ord}{o':Ord}{s:List Nat}{H:Hp}{R:V->Hp->Prop}{X:V->Hp->Prop}:Gm Φ a d b o o' s H R X:=on (P:=NZ) (by with_unfolding_all exact ze5) (s,o,b,a,d,H,o',R,Φ,X)
def vi (o:Ord):Bool:=if dS o=0 then false else if [[44],[46]].any (·==o.last)=true then false else decide (dS o+o.lead+o.trail<=18)
def N3 (Φ:bG):Prop:=∀ (a d:Nat) (o:Ord) (H:Hp) (R:V->Hp->Prop),gc H a d o->R (aZ<|vi o) H->Φ 300 [aB a] H R bR
theorem ze7 (f:w7 Φ){a d:Nat}{o:Ord}{H:Hp}{R X:V->Hp->Prop}(x:gc H a d o) (h:R (aZ<|vi o) H):c7 Φ 1 KV [aB a] H R X:=by
 refine wF (m:=[some<|aB a,none,none,none]) rfl<|aH ?_;unfold vi at h;dsimp only [bL,eT,eV,eU,br,bf,bX,aU,aP,aV,bQ,aJ,g0,bU];refine hZ x.h1 x.h2 (rfl:gf 310 8=some 209) rfl<|f a d o _ _ x ?_;dsimp only [e8];refine c0 (λq=>aH ?_) λq=>?_
 .rw [if_pos q] at h;dsimp only [cy,cx,aV];exact eG h
 rw [if_neg q] at h;refine bN x.h1 x.h2 (v:= .str o.last) rfl rfl ⟨bC rfl,?_⟩;refine dR (b:=[[44],[46]].any (·==o.last)) (λq=>?_) λq=>?_
 .rw [if_pos q] at h;refine aH ?_;dsimp only [cy,cx,aV];exact eG h
 .rw [if_neg<|ne_true_of_eq_false q] at h;refine aM<|aH ?_;dsimp only [cy,cx,fe,bf,eL,bT,bQ,aJ,g0,bU,aP];refine hZ x.h1 x.h2 (rfl:gf 310 8=some 209) rfl<|f a d o _ _ x<|bN x.h1 x.h2 (v:=aw o.lead) rfl rfl ?_;dsimp only [cZ];refine bN x.h1 x.h2 (v:=aw o.trail) rfl rfl ?_;dsimp only [cZ,gO];exact eG h
def jY (o:Ord):Int:=if 0<o.lead then o.lead+dS o else o.behind-o.trail
def N4 (Φ:bG):Prop:=∀ (a d:Nat) (o:Ord) (H:Hp) (R:V->Hp->Prop),gc H a d o->R (aw<|jY o) H->Φ 307 [aB a] H R bR
theorem ze8 (f:w7 Φ){a d:Nat}{o:Ord}{H:Hp}{R X:V->Hp->Prop}(x:gc H a d o) (h:R (aw<|jY o) H):c7 Φ 1 KW [aB a] H R X:=by
 refine wF (m:=[some<|aB a,none,none,none]) rfl<|aH ?_;unfold jY at h;dsimp only [bL,br,bf,aV,bQ,aJ,g0];refine bN x.h1 x.h2 (v:=aw o.lead) rfl rfl ?_;dsimp only [eJ];refine c0 (λq=>aH ?_) λq=>aM<|aH ?_
 .rw [if_pos q] at h;dsimp only [cy,cx,bT,bU,aP,aJ,g0,bQ];refine bN x.h1 x.h2 (v:=aw o.lead) rfl rfl<|hZ x.h1 x.h2 (rfl:gf 310 8=some 209) rfl ?_;refine f a d o _ _ x ?_;dsimp only [cZ];exact eG h
 .rw [if_neg q] at h;dsimp only [cy,cx,bT,bQ,aJ,g0];refine bN x.h1 x.h2 (v:=aw o.behind) rfl rfl<|bN x.h1 x.h2 (v:=aw o.trail) rfl rfl ?_;dsimp only [eZ];exact eG h
noncomputable def lD:Ord:=⟨0,false,[],0,0,0,[],0,0,0,false,[],[],[],false,false⟩
def N5 (Φ:bG):Prop:=∀ (a d:Nat) (H:Hp) (R:V->Hp->Prop),H a=some (fG 310 d)->H d=some (bP [])->R cz (aN H d<|bP<|dD lD)->Φ 202 [aB a] H R bR
theorem ze9 {a d:Nat}{H:Hp}{R X:V->Hp->Prop}(f:H a=some (fG 310 d)) (j:H d=some (bP [])) (h:R cz (aN H d<|bP<|dD lD)):c7 Φ 1 K4 [aB a] H R X:=by
 have ad:a≠d:=by rintro rfl;rw [f] at j;cases j
 have A:∀ l,aN H d (bP l) a=some (fG 310 d):=λl=>(dQ ad).trans f;refine wF (m:=[some<|aB a,none,none,none]) rfl<|aH ?_;refine dH f j (by decide:0<1000) rfl<|aH ?_;refine dH (A _) (bw ..) (bC rfl) rfl<|aH ?_;rw [gi];refine dH (A _) (bw ..) (bC rfl) rfl<|aH ?_;rw [gi];refine dH (A _) (bw ..) (bC rfl) rfl<|aH ?_;rw [gi];refine dH (A _) (bw ..) (bC rfl) rfl<|aH ?_;rw [gi];refine dH (A _) (bw ..) (bC rfl) rfl<|aH ?_;rw [gi];refine dH (A _) (bw ..) (bC rfl) rfl<|aH ?_;rw [gi];refine dH (A _) (bw ..) (bC rfl) rfl<|aH ?_;rw [gi];refine dH (A _) (bw ..) (bC rfl) rfl<|aH ?_;rw [gi];refine dH (A _) (bw ..) (bC rfl) rfl<|aH ?_;rw [gi];refine dH (A _) (bw ..) (bC rfl) rfl<|aH ?_;rw [gi];refine dH (A _) (bw ..) (bC rfl) rfl<|aH ?_;rw [gi];refine dH (A _) (bw ..) (bC rfl) rfl<|aH ?_;rw [gi];refine dH (A _) (bw ..) (bC rfl) rfl<|aH ?_;rw [gi];refine dH (A _) (bw ..) (bC rfl) rfl<|aH ?_;rw [gi];refine dH (A _) (bw ..) (bC rfl) rfl<|aM<|iV ?_;rw [gi];exact h
noncomputable def Gn (t:V) (y:Nat) (j:List Nat) (Dg sc:Int) (l:Bool) (f:Int):List (Nat×V):=[(2,t),(3,aB y),(4, .str j),(5,aw Dg),(6,aw sc),(7,aZ l),(8,aw f)]
def N6 (Φ:bG):Prop:=∀ (a d:Nat) (t:V) (y:Nat) (j:List Nat) (Dg sc:Int) (l:Bool) (f:Int) (H:Hp) (R:V->Hp->Prop),H a=some (fG 125 d)->H d=some (bP [])->R cz (aN H d<|bP<|Gn t y j Dg sc l f)->Φ 110 [aB a,t,aB y, .str j,aw Dg,aw sc,aZ l,aw f] H R bR
theorem zfa {a d:Nat}{t:V}{y:Nat}{j:List Nat}{Dg sc:Int}{l:Bool}{f:Int}{H:Hp}{R X:V->Hp->Prop}(p:H a=some (fG 125 d)) (r:H d=some (bP [])) (h:R cz (aN H d<|bP<|Gn t y j Dg sc l f)):c7 Φ 8 K2 [aB a,t,aB y, .str j,aw Dg,aw sc,aZ l,aw f] H R X:=by
 have ad:a≠d:=by rintro rfl;rw [p] at r;cases r
 have A:∀ u,aN H d (bP u) a=some (fG 125 d):=λu=>(dQ ad).trans p;refine wF (m:=[some<|aB a,some t,some<|aB y,some<|.str j,some<|aw Dg,some<|aw sc,some<|aZ l,some<|aw f,none,none,none]) rfl<|aH ?_;refine dH p r (by decide:0<1000) rfl<|aH ?_;refine dH (A _) (bw ..) (bC rfl) rfl<|aH ?_;rw [gi];refine dH (A _) (bw ..) (bC rfl) rfl<|aH ?_;rw [gi];refine dH (A _) (bw ..) (bC rfl) rfl<|aH ?_;rw [gi];refine dH (A _) (bw ..) (bC rfl) rfl<|aH ?_;rw [gi];refine dH (A _) (bw ..) (bC rfl) rfl<|aH ?_;rw [gi];refine dH (A _) (bw ..) (bC rfl) rfl<|aM<|iV ?_;rw [gi];exact h
noncomputable def k8 (q:List Nat×Nat):V:=d8 [.str q.1,aw q.2]
noncomputable def ku (f:List (List Nat×Nat)) (s:List Nat):List (List Nat×Nat):=match f.getLast? with
 | some q=>if q.1=s then f.dropLast++[(s,q.2+1)] else f++[(s,1)]
 | none=>[(s,1)]
def b7 (aA:List (List Nat)):List (List Nat×Nat):=aA.foldl ku []
theorem B7 {H:Hp}:∀ {bs:List Nat}{ss:List (List Nat)},jX H bs ss->bs.map V.ref=(bs.zip ss).map (λq=>V.ref q.1)/\(bs.zip ss).map (·.2)=ss/\∀ q∈bs.zip ss,ij H q.1 q.2
 | _,_, .nil=>⟨rfl,rfl,λ_ h=>nomatch h⟩
 | _,_,uc (b:=b) (s:=s) x r=>by
  refine iw (B7 r) λj l p=>⟨congrArg (V.ref b::·) j,congrArg (s::·) l,λq f=>?_⟩;rcases cR.mp f with rfl | f
  .exact x
  .exact p q f
theorem zfb (f:List (List Nat×Nat)) (s:List Nat):(ku f s).length<=f.length+1:=by
 unfold ku;split
 .split
  .rw [cC,List.length_dropLast];show _+1<=_;exact Tr
  .exact CQ cC
 .show 1<=_;exact sV _
theorem B8:∀ (aA:List (List Nat)) (f:List (List Nat×Nat)),(aA.foldl ku f).length<=f.length+aA.length
 | [],f=>dM _
 | s::r,f=>by
  have:=B8 r<|ku f s;have:=zfb f s;rw [iH,eQ];lia
set_option tactic.hygienic true in
theorem N7:∀ (aA:List (List Nat)) (j:List (List Nat×Nat)) (n:Nat),(∀ q∈j,q.2<=n)->∀ q∈aA.foldl ku j,q.2<=n+aA.length
 | [],j,n,h=>h
 | s::r,j,n,h=>by
  have:∀ q∈ku j s,q.2<=n+1:=by
   intro q f;unfold ku at f;split at f
   .rename_i p l;have l:=h p<|List.mem_of_getLast? l;split at f
    .rcases kG.mp f with f | f
     .have:=h q<|zj5 _ f;exact zZ ‹_›
     .rw [gp.mp f];show p.2+1<=_;exact C0 ‹_›
    .rcases kG.mp f with f | f
     .have:=h q f;exact zZ ‹_›
     .rw [gp.mp f];show 1<=_;exact sV _
   .rw [gp.mp f];show 1<=_;exact sV _
  intro q f;have:=N7 r (ku j s) (n+1) this q f;rw [eQ];exact Ts this
theorem zfc {f:Type}(l:List f) (v:f):eR (l++[v]) (-1)=some v:=by
 unfold eR;rw [if_neg (by decide),cC,if_pos (by show (0:Int)<=-1+((l.length+1:Nat):Int);exact Tt),show (-1+((l.length+[v].length:Nat):Int)).toNat=l.length by show (-1+((l.length+1:Nat):Int)).toNat=_;exact Tu];exact List.getElem?_concat_length
def N8 (Φ:bG):Prop:=∀ (a:Nat) (bs:List Nat) (aA:List (List Nat)) (H:Hp) (R:V->Hp->Prop),be H a=some (bs.map aB)->jX H bs aA->aA.length<=1000->(∀ f,H f=none->R (aB f) (aN H f<|aO<|(b7 aA).map k8))->Φ 183 [aB a] H R bR
theorem zfd {a:Nat}{bs:List Nat}{aA:List (List Nat)}{H:Hp}{R X:V->Hp->Prop}(W:be H a=some (bs.map aB)) (sg:jX H bs aA) (hl:aA.length<=1000)
  (h:∀ f,H f=none->R (aB f) (aN H f<|aO<|(b7 aA).map k8)):c7 Φ 3 Km [aB a] H R X:=by
 refine iw (B7 sg) λz1 z2 z3=>?_;have zl:(bs.zip aA).length<=1000:=by rw [ya];exact yj hl
 refine wF (m:=[some<|aB a,none,none,none,none,none]) rfl<|aH ?_;dsimp only [bV,bB,bD,aY,c8,aP];refine iD (bC rfl) λf Z=>aH ?_;dsimp only [eA,dI,aJ,g0];have l1:=b8 (aO []) Z;refine mB (d7 l1 W) ?_;rw [z1] at W ⊢;refine lz (xs:=bs.zip aA) (λq=>V.ref q.1) rfl (fP zl<|by decide) (λdone m L=>∃x,m=[some<|aB a,some<|aB f,x,none,none,none]/\H.le L/\L f=some (aO ((b7 (done.map (·.2))).map k8))) ⟨none,rfl,l1,bw ..⟩ ?_ ?_
 .rintro done q a0 m L hd ⟨x,rfl,F,j⟩;refine ⟨⟨d7 F W,trivial⟩,_,rfl,λK k1 k2=>aH ?_⟩;obtain ⟨d',k,O,P⟩:=(z3 q<|by rw [<-hd];simp).mono F;have dl:(done.map (·.2)).length<=999:=by
   rw [<-hd,cC,eQ] at zl;rw [cN];exact Tv zl
  have cl:(b7 (done.map (·.2))).length<=999:=by
   have:=B8 (done.map (·.2)) [];rw [jQ,pR] at this;exact fP this dl
  have cc:=N7 (done.map (·.2)) [] 0 (λ_ h=>nomatch h);have en:b7 ((done++[q]).map (·.2))=ku (b7 (done.map (·.2))) q.2:=by
   rw [jw];exact qB
  change ∀ p∈b7 (done.map (·.2)),_ at cc;generalize b7 (done.map (·.2))=r at cl cc en j;have I:∀ H2:Hp,L.le H2->ku r q.2=r++[(q.2,1)]->cJ Φ (aE (dL<|cv (az 1) 0<|aC (ce<|aC (bF (az 2) 9)<|aC (bF (az 2) 10) aI) aI) aK) [some<|aB a,some<|aB f,some<|aB q.1,none,none,none] H2 (go Φ aK K bR) bR:=by
   refine λH2 J u=>aH ?_;dsimp only [cL,aY,bU,aU,aP,bX,bQ,aJ,gs,g0];refine me (J _ _ j) (by decide) ?_;dsimp only;refine bN (J _ _ O) (J _ _ P) (v:= .str q.2) rfl rfl<|bN (J _ _ O) (J _ _ P) (v:=aw 1) rfl rfl ⟨bC rfl,?_⟩;refine lO (J _ _ j) (by rw [cN];exact qc ‹_› rfl)<|aM<|aM<|k1 _ _ ⟨_,rfl,mT _ (F.tr J) Z,?_⟩;rw [bw,en,u,jw];rfl
  dsimp only [bB,bD,bL,dN,db,cX,br,bf,bQ,aJ,gs,g0,cV,aV,gH,c8,aP];refine iD (bC rfl) λe U=>vd (bE<|lN j U) (bE<|bw ..) ?_;have y:=b8 (aO []) U;rcases List.eq_nil_or_concat r with u | ⟨l,p,u⟩
  .rw [u] at I ⊢;exact I _ y rfl
  .rw [List.concat_eq_append] at u;have hn:(!((r.map k8).isEmpty))=true:=by rw [u,jw];cases l.map k8 <;> rfl
   have nx:eR (r.map k8) (-1)=some (k8 p):=by
    rw [u,jw];exact zfc _ _
   have gl:r.getLast?=some p:=by rw [u,List.getLast?_append];rfl
   refine BK hn (kt (bE<|lN j U) nx (by decide) ?_);dsimp only [k8,fv,eN,gE];refine ⟨by decide,bN (y _ _ O) (y _ _ P) (v:= .str q.2) rfl rfl ?_⟩;dsimp only [dB];refine c0 (λz=>aH ?_) λz=>I _ y ?_
   .dsimp only [gb,aY,gH,aV,aJ,gs,g0,bX,aU,aP,bT,bQ,cV];refine bN (y _ _ O) (y _ _ P) (v:= .str q.2) rfl rfl (kt (bE<|lN j U) nx (by decide) ?_);dsimp only [k8,fv,eN,gM];refine ⟨by decide,bN (y _ _ O) (y _ _ P) (v:=aw 1) rfl rfl ?_⟩;have pc:=cc p (by rw [u];simp);refine ⟨bC rfl,?_⟩;refine wV (k:=l.length) (lN j U) ?_ (by decide)<|aM<|aM<|k1 _ _ ⟨_,rfl,mT _ (F.tr y) Z,?_⟩
    .rw [u,cN,cC];unfold rK;rw [if_neg<|by decide];dsimp only [eQ,jQ];rw [if_pos<|by exact Tw];congr 1;exact Tx
    .rw [bw,en];unfold ku;rw [gl];dsimp only;rw [if_pos z,u,zj6,jw,jw];refine congrArg (λx=>some<|MO.list x) ?_;have e9:l.length=(l.map k8).length:=(cN ..).symm;rw [e9];rw [List.set_append_right _ _<|dM _,zY];rfl
   .unfold ku;rw [gl];exact if_neg z
 .rintro m L ⟨x,rfl,F,j⟩;refine ⟨⟨d7 F W,trivial⟩,aH ?_⟩;dsimp only [cy,cx,aJ,gs,g0];refine kZ (BO F j) ?_;rw [z2];exact h f Z
noncomputable def y9 (q:List Nat×Nat):Option Nat:=if [[80],[83],[86]].any (·==q.1)=true then none else some (q.2*q.1.length)
def dT (f:List (List Nat×Nat)):Nat:=(f.filterMap y9).sum
theorem zfe {H:Hp}{Q:V->Hp->Prop}(q:iQ [.str [80], .str [83], .str [86]] H Q):gZ (.str [80,32,83,32,86]) 5 [.str [32]] H Q:=by
 exact ⟨rfl,by rw [if_neg (by decide),if_pos<|show [80,32,83,32,86]=D3 from rfl];exact q⟩
theorem zff {H:Hp}{Q:V->Hp->Prop}(q:iQ [.str [57], .str [80], .str [83], .str [86]] H Q):gZ (.str [57,32,80,32,83,32,86]) 5 [.str [32]] H Q:=by
 exact ⟨rfl,by rw [if_pos<|show [57,32,80,32,83,32,86]=D2 from rfl];exact q⟩
theorem N9:∀ l:List Nat,j6 (l.map λn:Nat=>V.int n)=some (l.map λn:Nat=>(n:Int))
 | []=>rfl
 | n::r=>by rw [eF];show (j6<|r.map _).map _=_;rw [N9 r];rfl
theorem Oa:∀ l:List Nat,(l.map λn:Nat=>(n:Int)).sum=(l.sum:Nat)
 | []=>rfl
 | n::r=>by rw [eF,uu,uu,Oa r];rfl
theorem zfg {x:Nat}{l:List Nat}{H:Hp}{Q:V->Hp->Prop}(f:be H x=some (l.map λn:Nat=>V.int n)) (q:Q (aw (l.sum:Nat)) H):gr sy [aB x] H Q:=by
 show (match be H x with | some vs=>(match j6 vs with | some j=>Q (aw j.sum) H | none=>False) | none=>False);rw [f];dsimp only;rw [N9];dsimp only;rw [Oa];exact q
theorem tN {j p u:Type}(f:j->Option p) (g:p->u):∀ l:List j,l.filterMap (λx=>(f x).map g)=(l.filterMap f).map g
 | []=>rfl
 | x::r=>by
  rw [sR,sR];cases f x with
  | none=>exact tN f g r
  | some y=>exact congrArg (g y::·)<|tN f g r
def Ob (Φ:bG):Prop:=∀ (a:Nat) (f:List (List Nat×Nat)) (H:Hp) (R:V->Hp->Prop),be H a=some (f.map k8)->f.length<=1000->(∀ q∈f,q.1.length<=2)->R (aw<|dT f) H->Φ 188 [aB a] H R bR
theorem zil {a:Nat}{j:List (List Nat×Nat)}{H:Hp}{R X:V->Hp->Prop}(p:be H a=some (j.map k8)) (v:j.length<=1000) (y:∀ q∈j,q.1.length<=2) (h:R (aw<|dT j) H):c7 Φ 1 Kn [aB a] H R X:=by
 refine wF (m:=[some<|aB a,none,none,none]) rfl<|aH ?_;dsimp only [cy,cx,cK,aU,aP,dY,dI,aJ,g0];refine mB p (md (xs:=j) k8 rfl (fP v<|by decide) (λq=>(y9 q).map λn:Nat=>V.int n) (λr=>H.le r) (.rf H) ?_ ?_)
 .rintro q r F l;refine ⟨⟨d7 l p,trivial⟩,_,rfl,λL O k1 k0=>?_⟩;dsimp only [bB,bD,bT,cK,aU,aP,aJ,gs,g0,fK,gu,db,cX,br,bf,bU,aV,eL];refine si (ba rfl) ?_;refine zfe<|iD (bC rfl) λe I=>?_;refine tH (ss:=[[80],[83],[86]]) (bE<|bw ..) ?_;have u:=l.tr<|b8 (aO [.str [80], .str [83], .str [86]]) I;cases z:[[80],[83],[86]].any (·==q.1) with
  | true=>exact k0 _ (by unfold y9;rw [if_pos z];rfl) u
  | false=>
   have P:=y q F;refine ⟨by exact qa ‹_› rfl,aX (by exact qc ‹_› rfl),k1 _ _ (by unfold y9;rw [if_neg<|ne_true_of_eq_false z];rfl) u⟩
 .refine λr l=>⟨⟨d7 l p,trivial⟩,λf J=>?_⟩;rw [tN];exact zfg (bE<|bw ..)<|kZ (l.tr<|b8 _ J) h
noncomputable def im:List (List Nat)->Ord->Option Ord
 | [],o=>some o
 | s::r,o=>match gj o s with
  | some o=>im r o
  | none=>none
theorem so:∀ (a b:List (List Nat)) (o:Ord),im (a++b) o=(im a o).bind (im b)
 | [],b,o=>rfl
 | s::r,b,o=>by
  show (match gj o s with | some o=>im (r++b) o | none=>none)=zj7 (match gj o s with | some o=>im r o | none=>none) _;cases gj o s with
  | none=>rfl
  | some o=>exact so r b o
structure qY (aA:List (List Nat)) (o:Ord) (Dg:Nat):Prop where
 t:im aA lD=some o
 w:vi o=true
 d:dS o=Dg
 s:dT (b7 aA)<=9999
theorem ue {H f:Hp}{a:Nat}(l:H.le f) (h:f a=none):H a=none:=by
 cases e:H a with
 | none=>rfl
 | some o=>rw [l _ _ e] at h;cases h
theorem Oc {H:Hp}{a d:Nat}{o1 o2 p:MO}(j:a≠d):aN (aN (aN H d o1) a o2) d p=aN (aN H d p) a o2:=by
 funext z;unfold aN
 by_cases f:z=d
 .subst f;rw [if_pos rfl,if_neg j.symm,if_pos rfl]
 .rw [if_neg f];by_cases l:z=a
  .subst l;rw [if_pos rfl,if_pos rfl]
  .rw [if_neg l,if_neg l,if_neg f,if_neg f]
theorem Od:∀ (aA:List (List Nat)) (j:List (List Nat×Nat)),(∀ s∈aA,s.length<=2)->(∀ q∈j,q.1.length<=2)->∀ q∈aA.foldl ku j,q.1.length<=2
 | [],j,h,l=>l
 | s::r,j,h,l=>by
  refine Od r _ (λs hs=>h s<|dz _ hs) λq f=>?_;have hs:=h s dh;unfold ku at f;split at f
  .split at f
   .rcases kG.mp f with f | f
    .exact l q<|zj5 _ f
    .rw [gp.mp f];exact hs
   .rcases kG.mp f with f | f
    .exact l q f
    .rw [gp.mp f];exact hs
  .rw [gp.mp f];exact hs
def pM (H f:Hp):Hp:=λa=>match H a with
 | none=>f a
 | some _=>none
theorem CD {H f:Hp}{a:Nat}(h:H a=none):pM H f a=f a:=by unfold pM;rw [h]
set_option tactic.hygienic true in
theorem zfh {f j p:Hp}(l:f.le j):(pM j p).le (pM f p):=λa o e=>by
 unfold pM at e;split at e
 .rename_i q;rw [CD<|ue l q];exact e
 .cases e
def Oe (Φ:bG):Prop:=∀ (t:List Nat) (a:Nat) (bs:List Nat) (aA:List (List Nat)) (o:Ord) (Dg:Nat) (H:Hp) (R:V->Hp->Prop),be H a=some (bs.map aB)->jX H bs aA->aA.length<=1000->(∀ s∈aA,s.length<=2)->qY aA o Dg->
 (∀ f p,H.le f->hV (pM H f) p (b7 aA) Dg (jY o) (dT<|b7 aA)->R (aB p) f)->Φ 319 [.str t,aB a] H R bR
theorem zfi (a0:N6 Φ) (a1:N8 Φ) (I:Ob Φ) (a2:N5 Φ) (a3:w7 Φ) (a4:NY Φ) (a5:N3 Φ) (a6:N4 Φ){t:List Nat}{a:Nat}{bs:List Nat}{aA:List (List Nat)}{o:Ord}{Dg:Nat}{H:Hp}{R X:V->Hp->Prop}(h1:be H a=some (bs.map aB)) (sg:jX H bs aA) (hl:aA.length<=1000) (h2:∀ s∈aA,s.length<=2) (P:qY aA o Dg)
  (h:∀ j p,H.le j->hV (pM H j) p (b7 aA) Dg (jY o) (dT<|b7 aA)->R (aB p) j):c7 Φ 10 Ko [.str t,aB a] H R X:=by
 refine iw (B7 sg) λz1 z2 z3=>?_;have zl:(bs.zip aA).length<=1000:=by rw [ya];exact yj hl
 have sl:(b7 aA).length<=1000:=by
  have:=B8 aA [];rw [jQ,pR] at this;exact fP this hl
 have s2:∀ q∈b7 aA,q.1.length<=2:=Od aA [] h2 (λ_ h=>nomatch h);refine wF (m:=[some<|.str t,some<|aB a,none,none,none,none,none,none,none,none,none,none,none]) rfl<|aH ?_;dsimp only [dZ,bX,aU,aP,cj,aJ,gs,g0,gP];refine BX rfl λx d l ha hd=>?_;have O:aN H d (bP []) x=none:=(dQ l).trans ha;refine a2 x d _ _ (bw ..) ((dQ l.symm).trans (bw ..)) ?_;rw [Oc l];have U:H.le (aN (aN H d<|bP<|dD lD) x<|fG 310 d):=(b8 _ hd).tr (b8 _<|(dQ l).trans ha);refine a1 a bs aA _ _ (d7 U h1) (sg.mono U) hl λf Z=>⟨bC rfl,?_⟩;have O0:gc (aN (aN (aN H d<|bP<|dD lD) x<|fG 310 d) f<|aO<|(b7 aA).map k8) x d lD:=
  ⟨lN (bw ..) Z,lN ((dQ l.symm).trans (bw ..)) Z⟩
 have F0:aN (aN (aN H d<|bP<|dD lD) x<|fG 310 d) f (aO<|(b7 aA).map k8) f=some (aO<|(b7 aA).map k8):=bw ..;have L0:H.le (aN (aN (aN H d<|bP<|dD lD) x<|fG 310 d) f<|aO<|(b7 aA).map k8):=U.tr<|b8 _ Z;have fd:f≠d:=by rintro rfl;rw [(dQ l.symm).trans (bw ..)] at Z;cases Z
 have Hf:=ue U Z;generalize aN (aN (aN H d<|bP<|dD lD) x<|fG 310 d) f (aO<|(b7 aA).map k8)=H1 at O0 F0 L0;have LH:∀ fs,H.le (aN H1 d<|bP fs):=λfs=>mT _ L0 hd;have FH:∀ fs,aN H1 d (bP fs) f=some (aO<|(b7 aA).map k8):=λfs=>(dQ fd).trans F0;refine jz (m':=[some<|.str t,some<|aB a,some<|aB x,some<|aB f,none,none,none,none,none,none,none,none,none]) (by decide) rfl<|aH ?_;dsimp only [eA,dI,aJ,gs,g0];refine mB (d7 L0 h1) ?_;rw [z1] at h1 ⊢;refine lz (xs:=bs.zip aA) (λq=>V.ref q.1) rfl (fP zl<|by decide) (λdone m j=>∃y od,m=[some<|.str t,some<|aB a,some<|aB x,some<|aB f,y,none,none,none,none,none,none,none,none]/\im (done.map (·.2)) lD=some od/\j=aN H1 d (bP<|dD od)) ⟨none,lD,rfl,rfl,?_⟩ ?_ ?_
 .funext z;unfold aN;by_cases q:z=d
  .subst q;rw [if_pos rfl];exact O0.h2
  .rw [if_neg q]
 .rintro done q a7 m j O ⟨y,od,rfl,e1,rfl⟩;refine ⟨⟨d7 (LH _) h1,trivial⟩,_,rfl,λK k1 k2=>aH ?_⟩;have e2:=P.t;rw [<-z2,<-O,jw,so,e1] at e2;have e3:im ((done++[q]).map (·.2)) lD=im [q.2] od:=by rw [jw,so,e1];rfl
  change (match gj od q.2 with | some o=>im (a7.map (·.2)) o | none=>none)=some o at e2;change _=(match gj od q.2 with | some o=>some o | none=>none) at e3;have u:=O0.put (o':=od);cases e4:gj od q.2 with
  | none=>rw [e4] at e2;cases e2
  | some o2=>
   rw [e4] at e3;dsimp only [bB,bD,cL,aY,bU,aU,aP,aJ,gs,g0];refine hZ u.h1 u.h2 (rfl:gf 310 20=some 293) rfl ?_;dsimp only;refine a4 x d q.1 od o2 q.2 _ _ u ((z3 q<|by rw [<-O];simp).mono (LH _)) e4<|aM<|k1 _ _ ⟨_,o2,rfl,e3,?_⟩;rw [gi]
 .rintro m j ⟨y,od,rfl,e1,rfl⟩;rw [z2,P.t] at e1;cases e1;refine ⟨⟨d7 (LH _) h1,trivial⟩,aH ?_⟩;have u:=O0.put (o':=o);dsimp only [bL,eT,eV,eU,br,bf,eL,cj,aU,aP,aJ,gs,g0,gQ,ee,bU];refine hZ u.h1 u.h2 (rfl:gf 310 21=some 300) rfl ?_;dsimp only;refine a5 x d o _ _ u ?_;rw [P.w];dsimp only;refine I f _ _ _ (bE<|FH _) sl s2 ?_;dsimp only [eJ];refine jI (decide_eq_false (by have:=P.s;exact Tz this))<|aM<|aH ?_;dsimp only [bV,bB,bD,aY,fe,bf,c8,aP,dY,dI,aJ,gs,g0];refine mB (bE<|FH _) (md (xs:=b7 aA) k8 rfl (fP sl<|by decide) (λq=>if [[57],[80],[83],[86]].any (·==q.1)=true then none else some (V.str q.1)) (λj=>(aN H1 d<|bP<|dD o).le j) (.rf _) ?_ ?_)
  .rintro q j hm U;refine ⟨⟨d7 U<|bE<|FH _,trivial⟩,_,rfl,λK1 K0 k1 k0=>?_⟩;dsimp only [bB,bD,aJ,gs,g0,db,cX,br,bf,bU,aU,aP,aV,eL];refine si (ba rfl) ?_;dsimp only;refine zff<|iD (bC rfl) λe W=>?_;refine tH (ss:=[[57],[80],[83],[86]]) (bE<|bw ..) ?_;have J:=U.tr<|b8 (aO [.str [57], .str [80], .str [83], .str [86]]) W;cases z:[[57],[80],[83],[86]].any (·==q.1) with
   | true=>exact k0 _ (if_pos z) J
   | false=>exact k1 _ _ (if_neg<|ne_true_of_eq_false z) J
  .refine λj J=>⟨⟨d7 J<|bE<|FH _,trivial⟩,λc hc=>?_⟩;refine iD (bC rfl) λe W=>ND (d7 (b8 _ W)<|bE<|bw ..) (bE<|bw ..) ?_;have r:gc (aN (aN j c (aO ((b7 aA).filterMap λq=>if [[57],[80],[83],[86]].any (·==q.1)=true then none else some (V.str q.1)))) e<|aO []) x d o:=
    ⟨((J.tr<|b8 _ hc).tr (b8 _ W)) _ _ u.h1,((J.tr<|b8 _ hc).tr (b8 _ W)) _ _ u.h2⟩
   have F2:=((J.tr<|b8 _ hc).tr (b8 (aO []) W)) _ _ (FH<|dD o);have L2:=((LH<|dD o).tr (J.tr<|b8 _ hc)).tr (b8 (aO []) W);generalize aN (aN j c (aO ((b7 aA).filterMap λq=>if [[57],[80],[83],[86]].any (·==q.1)=true then none else some (V.str q.1)))) e (aO [])=H2 at r F2 L2;generalize List.isEmpty _=plain;refine aH ?_;have a9:∀ (b:Bool){A:V->Prop},(∀ s,A<|.str s)->(match b with | true=>A (.str [110,117,109,101,114,105,99]) | false=>A<|.str [101,100,105,116,101,100]):=λb A k=>by cases b <;> exact k _
   dsimp only [bV,bB,bD,aY,dA,aV,ee,aJ,gs,g0];refine a9 plain (A:=λv=>go Φ _ _ _ .next [some<|.str t,some<|aB a,some<|aB x,some<|aB f,_,some<|aZ plain,some v,none,none,none,none,none,none] H2) λs=>aH ?_;dsimp only [bV,bB,bD,aY,fT,fR,fQ,fe,bf,aV,bQ,aJ,gs,g0];refine bN r.h1 r.h2 (v:=aZ o.isPlain) rfl rfl<|wY (P:=λb=>go Φ _ _ _ .next [some<|.str t,some<|aB a,some<|aB x,some<|aB f,_,some<|aZ plain,some<|.str s,some<|aZ b,none,none,none,none,none] H2) (c:= !decide (o.sign=[])) (λq=>bN r.h1 r.h2 (v:= .str o.sign) rfl rfl q) ?_;generalize (o.isPlain || !decide (o.sign=[]))=a8;refine aH ?_;dsimp only [cy,cx,gP,aU,aP,cj,aJ,gs,g0,bU];refine hZ r.h1 r.h2 (rfl:gf 310 8=some 209) rfl ?_;dsimp only;refine a3 x d o _ _ r<|hZ r.h1 r.h2 (rfl:gf 310 22=some 307) rfl ?_;dsimp only;refine a6 x d o _ _ r<|I f _ _ _ (bE F2) sl s2 ?_;refine BX rfl λp pd F hp L=>a0 p pd _ f s _ _ a8 _ _ _ (bw ..) ((dQ F.symm).trans (bw ..)) ?_;rw [Oc F];have l5:=(b8 (bP<|Gn (.str t) f s (dS o) (jY o) a8 (dT (b7 aA):Nat)) L).tr (b8 (fG 125 pd)<|(dQ F).trans hp);refine eG<|h _ _ (L2.tr l5) ⟨⟨pd,_,f,(CD<|ue L2 hp).trans (bw ..),(CD<|ue L2 L).trans ((dQ F.symm).trans (bw ..)),rfl,(CD Hf).trans (l5 _ _ F2),?_,rfl,rfl⟩⟩;rw [<-P.d];rfl
noncomputable def vj:List Nat:=[66,80,86,90,57,48,47,44,46,43,45,42,36]
def gk (s:List Nat):Prop:=s=[67,82]\/s=[68,66]\/∃c,c∈vj/\s=[c]
theorem Go:∀ c∈vj,c∈y7/\c<97/\[[65],[88]].any (·==[c])=false:=by decide
theorem gk.ok {s:List Nat}(h:gk s):tK s:=by
 rcases h with h | h | ⟨c,f,j⟩
 .exact ba h
 .exact aX<|ba h
 .exact aX<|aX ⟨c,(Go c f).1,j⟩
theorem gk.low {s:List Nat}(h:gk s):∀ c∈s,c<97:=by
 rcases h with rfl | rfl | ⟨c,f,rfl⟩
 .decide
 .decide
 .intro d j;rw [gp.mp j];exact (Go c f).2.1
theorem gk.ax {s:List Nat}(h:gk s):[[65],[88]].any (·==s)=false:=by
 rcases h with rfl | rfl | ⟨c,f,rfl⟩
 .rfl
 .rfl
 .exact (Go c f).2.2
theorem zfj (a b:Nat) (H:Hp) (K:Bool->Prop):gq mI (.str [a]) (.str [b]) H K=K (decide (a<=b)):=rfl
theorem Gp:∀ t:List Nat,(t.map λc=>[c]).flatten=t
 | []=>rfl
 | c::r=>by rw [eF,lj,Gp r];rfl
theorem Of {f j:Type}:∀ l:List f,l.filterMap (λ_=>(none:Option j))=[]
 | []=>rfl
 | x::r=>Of r
def B9 (Φ:bG):Prop:=∀ (aA:List (List Nat)) (o:Ord) (Dg:Nat) (H:Hp) (R:V->Hp->Prop),(∀ s∈aA,gk s)->aA.flatten.length<=30->qY aA o Dg->
 (∀ f p,H.le f->hV (pM H f) p (b7 aA) Dg (jY o) (dT<|b7 aA)->R (aB p) f)->Φ 336 [.str aA.flatten] H R bR
theorem za:∀ (l:List (List Nat)),(∀ s∈l,gk s)->l.length<=l.flatten.length
 | [],_=>dM _
 | s::r,h=>by
  have:=za r λs hs=>h s<|dz _ hs;have:=(qW (h s dh).ok).1;rw [lj,cC,eQ];lia
theorem zfk (r:NO Φ) (u:Oe Φ){aA:List (List Nat)}{o:Ord}{Dg:Nat}{H:Hp}{R X:V->Hp->Prop}(y:∀ s∈aA,gk s) (z:aA.flatten.length<=30) (P:qY aA o Dg)
  (h:∀ j p,H.le j->hV (pM H j) p (b7 aA) Dg (jY o) (dT<|b7 aA)->R (aB p) j):c7 Φ 4 Kp [.str aA.flatten] H R X:=by
 have F:∀ c∈aA.flatten,c<97:=λc l=>bZ (Sb.mp l) λs hs l=>(y s hs).low c l;have ll:=fP (za aA y) z;generalize O:aA.flatten=t at z F;refine wF (m:=[some<|.str t,none,none,none,none,none,none]) rfl<|aH ?_;dsimp only [bL,br,bf,eL,cK,aU,aP,aJ,g0,fK,eJ];refine ⟨fP z (by decide),jI (decide_eq_false<|by exact TA z)<|aM<|aH ?_⟩;dsimp only [bV,bB,bD,aY,bU,aU,aP,dY,dI,aJ,g0,gh,aV];refine si (aX rfl) ?_;dsimp only;refine md (xs:=t) (λc:Nat=>V.str [c]) rfl (fP z<|by decide) (λc=>some<|.str [c]) (λj=>j=H) rfl ?_ ?_
 .rintro c j J rfl;refine ⟨trivial,_,rfl,λK1 K0 k1 k0=>?_⟩;dsimp only [bB,bD,dA,cK,aU,aP,bT,aV,aJ,gs,g0,iA,eZ,br,gK,bf,zfj,cX];have l:=F c J;rw [decide_eq_false<|show ¬97<=c by exact ziW ‹_›];exact k1 _ _ rfl rfl
 .rintro j rfl;refine ⟨trivial,λf hf=>?_⟩;refine u6 (ss:=t.map λc=>[c]) (bE<|bw ..) ?_ (by rw [Gp];exact qa ‹_› rfl) ?_
  .rw [u9 λc:Nat=>V.str [c]];have:=strs_map<|t.map λc=>[c];rw [lm] at this;exact this
  rw [Gp,<-O];refine aH ?_;dsimp only [bV,bB,bD,aY,cj,aU,aP,aJ,gs,g0];have U:=b8 (aO<|t.filterMap λc=>some<|V.str [c]) hf;rw [<-O] at U;refine r aA _ _ (λs hs=>(y s hs).ok) (by rw [O];exact qa ‹_› rfl) λH2 a bs W I Z=>aH ?_;refine iw (B7 Z) λz1 z2 z3=>?_;have ra:=bE I;dsimp only [bL,br,bf,c8,aP,dY,dI,aJ,gs,g0];refine mB (bE I) ?_;have zl:(bs.zip aA).length<=1000:=by rw [ya];exact TB ll
  rw [z1] at I ⊢;refine md (xs:=bs.zip aA) (λq=>V.ref q.1) rfl (fP zl<|by decide) (λ_=>none) (λj=>j=H2) rfl ?_ ?_
  .rintro q j J rfl;refine ⟨⟨bE I,trivial⟩,_,rfl,λK1 K0 k1 k0=>?_⟩;obtain ⟨d',k,y1,y2⟩:=z3 q J;have hq:gk q.2:=y q.2 (by rw [<-z2];exact xW J);dsimp only [bB,bD,aJ,gs,g0,db,cX,br,bf,bX,aU,aP,aV,bQ];refine bN y1 y2 (v:= .str q.2) rfl rfl ?_;dsimp only [nQ];refine ⟨bC rfl,?_⟩;rw [hq.ax];exact k0 _ rfl rfl
  .rintro j rfl;refine ⟨⟨bE I,trivial⟩,λc l=>?_⟩;rw [Of];refine iD (bC rfl) λe he=>vd (d7 (b8 _ he)<|bE<|bw ..) (bE<|bw ..)<|aM<|aH ?_;have L:=(b8 (aO []) l).tr (b8 (aO []) he);dsimp only [cy,cx,cj,aU,aP,aJ,gs,g0];refine u _ a bs aA o Dg _ _ (d7 L ra) (Z.mono L) (by exact qa ‹_› rfl) (λs hs=>(qW (y s hs).ok).2) P λH3 p l5 Pp=>eG<|h _ _ (((U.tr W).tr L).tr l5)<|Pp.mono<|zfh<|(U.tr W).tr L
noncomputable def cY (H:Hp) (p:Nat):Hp:=λa=>if a=p then none else H a
theorem tO {H:Hp}{p a:Nat}(h:a≠p):cY H p a=H a:=if_neg h
theorem Gq (H:Hp) (p:Nat):(cY H p).le H:=λa o e=>by
 unfold cY at e;split at e
 .cases e
 .exact e
theorem Og (H:Hp) (p:Nat) (o:MO):cY (aN H p o) p=cY H p:=by
 funext a;unfold cY aN;split <;> rfl
set_option tactic.hygienic true in
theorem qZ {H f:Hp}{p:Nat}(l:H.le f):(cY H p).le (cY f p):=λa o e=>by
 unfold cY at e ⊢;split at e
 .cases e
 .rename_i q;rw [if_neg q];exact l _ _ e
noncomputable def qk (ca:Nat) (i r s:Int):List V:=[aB ca,aw i,aw r,aw s]
structure fF (H:Hp) (pa ca:Nat) (k:Int):Prop where
 h:∃i r s,H pa=some (aO<|qk ca i r s)/\0<=i/\i<=k/\0<=r
 c:∃is:List Int,is.length<=63/\H ca=some (aO<|is.map aw)
theorem fF.mono {H f:Hp}{pa ca:Nat}{k:Int}(x:fF H pa ca k) (l:H.le f):fF f pa ca k:=
 ⟨let ⟨i,r,s,a,b⟩:=x.h;⟨i,r,s,l _ _ a,b⟩,let ⟨j,a,b⟩:=x.c;⟨j,a,l _ _ b⟩⟩
theorem fF.ne {H:Hp}{pa ca:Nat}{k:Int}(x:fF H pa ca k):ca≠pa:=by
 rintro rfl;refine AT x.h λi r s f _=>bZ x.c λl _ p=>?_;have:=f.symm.trans p;cases l with
 | nil=>cases this
 | cons j r=>injection this with this;injection this with this;injection this with this;cases this
theorem fF.put {H:Hp}{pa ca:Nat}{k j:Int}{i r s:Int}(x:fF H pa ca k) (f:0<=i) (l:i<=j) (p:0<=r):fF (aN H pa<|aO<|qk ca i r s) pa ca j:=
 ⟨⟨i,r,s,bw ..,f,l,p⟩,let ⟨u,a,b⟩:=x.c;⟨u,a,(dQ x.ne).trans b⟩⟩
theorem Oh {H:Hp}{Q:V->Hp->Prop}(q:∀ b:Int,b=10 ^ (18:Int).toNat->Q (aw b) H):lu lU (aw 10) (aw 18) H Q:=⟨rfl,by decide,by decide,q _ rfl⟩
def mD (Φ:bG):Prop:=∀ (pa ca:Nat) (k f:Int) (H:Hp) (R:V->Hp->Prop),fF H pa ca k->k<=1000->0<f->f<2 ^ 64->(∀ n j,0<=n->n<f->fF j pa ca (k+1)->cY j pa=cY H pa->R (aw n) j)->Φ 499 [aB pa,aw f] H R bR
theorem zfl {pa ca:Nat}{k f:Int}{H:Hp}{R X:V->Hp->Prop}(x:fF H pa ca k) (hk:k<=1000) (u:0<f) (m1:f<2 ^ 64) (h:∀ n Z,0<=n->n<f->fF Z pa ca (k+1)->cY Z pa=cY H pa->R (aw n) Z):c7 Φ 4 A3 [aB pa,aw f] H R X:=by
 obtain ⟨i,r,s,U,F,I,r0⟩:=x.h;refine bZ x.c λW il e2=>wF (m:=[some<|aB pa,some<|aw f,none,none,none,none,none]) rfl<|aH ?_;have y:∀ (J:Option V) (j r:Int),0<=j->j<=k+1->0<=r->cJ Φ (dy 1 A3) [some<|aB pa,some<|aw f,J,none,none,none,none] (aN H pa<|aO<|qk ca j r s) (cQ R) (cP X):=by
  refine λJ j r j0 j1 r0=>aH ?_;dsimp only [bV,bB,bD,aY,bT,aJ,gs,g0,cV,aV];refine kt (bE<|bw ..) (v:=aw r) rfl (by decide) ?_;dsimp only [gv];refine ⟨u,aH ?_⟩;dsimp only [gb,aY,aV,aJ,g0,bT,gs,cV];refine kt (bE<|bw ..) (v:=aw r) rfl (by decide) ?_;dsimp only [gF];refine ⟨u,m1,wV (k:=2) (bw ..) rfl (by decide)<|aH ?_⟩;rw [gi];dsimp only [cy,cx,aJ,gs,g0];refine eG (h _ _ (Ds _<|by exact DD u) (Dt _ u) (x.put j0 j1<|Int.ediv_nonneg r0<|by exact qv ‹_›)<|Og ..)
 dsimp only [bL,br,bf,aV,cV,aJ,g0];refine kt (bE U) (v:=aw r) rfl (by decide) ?_;dsimp only [e8];refine c0 (λq=>aH ?_) λq=>aM ?_
 .subst q;dsimp only [gb,aY,aV,aJ,g0,bT,cV];refine kt (bE U) (v:=aw i) rfl (by decide) ?_;dsimp only [cZ];refine wV (k:=1) U rfl (by decide)<|aH ?_;have p:aN H pa (aO<|(qk ca i 0 s).set 1 (aw<|i+1)) pa=some (aO<|qk ca (i+1) 0 s):=bw ..;have e4:aN H pa (aO<|(qk ca i 0 s).set 1 (aw<|i+1)) ca=some (aO<|W.map aw):=(dQ x.ne).trans e2;have J:fF (aN H pa<|aO<|(qk ca i 0 s).set 1 (aw<|i+1)) pa ca (k+1):=x.put (by exact IL F) (by exact IM I)<|mL _;have em:cY (aN H pa<|aO<|(qk ca i 0 s).set 1 (aw<|i+1)) pa=cY H pa:=Og ..;have eu:∀ o,aN (aN H pa<|aO<|(qk ca i 0 s).set 1 (aw<|i+1)) pa o=aN H pa o:=λo=>gi ..;generalize aN H pa (aO<|(qk ca i 0 s).set 1 (aw<|i+1))=H1 at p e4 J em eu;have L:∀ z:Int,R (aw<|z % f) H1:=λz=>h _ _ (Ds _<|by exact DD u) (Dt _ u) J em;dsimp only [bL,br,bf,cK,aU,aP,cV,aV,aJ,g0];refine kt (bE p) (v:=aw<|i+1) rfl (by decide) (kt (bE p) (v:=aB ca) rfl (by decide)<|u7 (bE e4) (by rw [cN];exact qa ‹_› rfl) ?_);dsimp only [eJ];refine c0 (λq=>aH ?_) λq=>aM<|aH ?_
  .dsimp only [cy,cx,bT,aJ,gs,g0,aV,cV];refine kt (bE p) (v:=aw s) rfl (by decide) ?_;dsimp only [cZ];refine kt (bE p) (v:=aw<|i+1) rfl (by decide) ?_;dsimp only [cZ,gu];refine ⟨aX (by exact TV hk I q),kt (bE p) (v:=aw<|i+1) rfl (by decide) ?_⟩;dsimp only [cZ,gu,gF,gv];exact ⟨aX (by exact TW hk I q),by decide,by decide,u,eG<|L _⟩
  .rw [cN] at q;have hn:∃c:Int,eR (W.map V.int) (i+1-1)=some (aw c):=by
    have hi:i.toNat<W.length:=by exact TX F q
    refine ⟨W[i.toNat],?_⟩;unfold eR;rw [if_pos (by exact TY F),show (i+1-1).toNat=i.toNat by exact TZ,pQ,lJ hi];rfl
   obtain ⟨c,hn⟩:=hn;dsimp only [bV,bB,bD,aY,cV,bT,aV,aJ,g0];refine kt (bE p) (v:=aB ca) rfl (by decide) (kt (bE p) (v:=aw<|i+1) rfl (by decide) ?_);dsimp only [eZ];refine kt (bE e4) hn (by exact T0 F il q)<|aH ?_;dsimp only [bL,br,bf,bT,aV,cK,aU,aP,aJ,gs,g0,gw];refine Oh λa0 hb=>?_;dsimp only [fy];refine c0 (λq2=>aH ?_) λq2=>aM<|aH ?_
   .dsimp only [cy,cx,bT,aJ,gs,g0,gv];exact ⟨u,eG<|L _⟩
   .dsimp only [gb,aY,aV,aJ,g0,bT,dA,br,bf,gs,fy,cK,aU,aP,gw];refine Oh λl O=>?_;have eb:l=a0:=O.trans hb.symm;subst eb;clear O;dsimp only [eZ,gu,cZ];refine ⟨ba (by decide),?_⟩;have q3:0<=2*((c.natAbs:Int)-l):=by
     have:l<=(c.natAbs:Int):=lc.mp q2;exact T4 this
    have P:∀ z:Int,0<=z->uK (aB pa) (aw 2) (aw<|2*((c.natAbs:Int)-l)+z) H1 λH=>go Φ aK (go Φ (dy 1 A3) (cQ R)<|cP X) (cP X) .next [some<|aB pa,some<|aw f,some<|aw c,none,none,none,none] H:=λz z0=>by
     refine wV (k:=2) p rfl (by decide)<|aM ?_;rw [eu];exact y _ (i+1) _ (by exact IL F) (by exact IM I) (by exact T5 q3 z0)
    refine c0 (λ_=>P 1<|by decide) λ_=>P 0 (by decide)
 .have eh:aN H pa (aO<|qk ca i r s)=H:=by
   funext a;unfold aN;by_cases q:a=pa
   .subst q;rw [if_pos rfl];exact U.symm
   .rw [if_neg q]
  have:=y none i r F (by exact Ua I) r0;rw [eh] at this;exact this
noncomputable def q8:List Nat:=[44,47,66,48]
inductive mX:List (List Nat)->List (List Nat)->Prop
 | nil:mX [] []
 | one {b w:List (List Nat)}(s:List Nat) (r:mX b w):mX (b++[s]) (w++[s])
 | ins {b w:List (List Nat)}{c:Nat}(s:List Nat) (h:b≠[]) (hc:c∈q8) (r:mX b w):mX (b++[s]) (w++[[c]]++[s])
theorem mX.len {b w:List (List Nat)}(h:mX b w):w.length<=2*b.length:=by
 induction h with
 | nil=>exact dM _
 | one s r f=>rw [cC,cC,eQ,jQ];exact Ub f
 | ins s h j r f=>rw [cC,cC,cC,eQ,jQ,eQ,jQ];exact Uc f
theorem fF.up {H:Hp}{pa ca:Nat}{k j:Int}(x:fF H pa ca k) (h:k<=j):fF H pa ca j:=by
 obtain ⟨⟨i,r,s,a,b,c,d⟩,e⟩:=x;exact ⟨⟨i,r,s,a,b,CJ c h,d⟩,e⟩
theorem Ca (f:List Nat->V):∀ (l:List (List Nat)) (k:Nat),((l.map f).zipIdx k).map (λp=>V.tup [aw p.2,p.1])=(l.zipIdx k).map λp=>V.tup [aw p.2,f p.1]
 | [],_=>rfl
 | s::r,k=>congrArg (_::·)<|Ca f r<|k+1
theorem zfm {f:Type}(l:List f) (k:Nat) (d:List (f×Nat)) (q:f×Nat) (t:List (f×Nat)) (h:d++q::t=l.zipIdx k):q.2=k+d.length:=by
 have e:(l.zipIdx k)[d.length]?=some q:=by rw [<-h,Ie<|dM _,zY];rfl
 rw [zjs] at e;refine oq e λa _ e=>?_;rw [<-e]
theorem Oi {f:Type}:∀ (l:List f) (k:Nat),(l.zipIdx k).map (·.1)=l
 | [],_=>rfl
 | x::r,k=>congrArg (x::·)<|Oi r<|k+1
set_option tactic.hygienic true in
theorem mE {H:Hp}{p a:Nat}{o:MO}(h:cY H p a=some o):a≠p/\H a=some o:=by
 unfold cY at h;split at h
 .cases h
 .rename_i q;exact ⟨q,h⟩
theorem Oj {H:Hp}{p a:Nat}(q:a≠p) (h:H a=none):cY H p a=none:=(tO q).trans h
theorem fF.fresh {H:Hp}{pa ca a:Nat}{k:Int}(x:fF H pa ca k) (h:H a=none):pa≠a:=AT x.h λi r s e _=>mS e h
theorem w9 {H:Hp}{p a:Nat}{o:MO}(q:a≠p):cY (aN H a o) p=aN (cY H p) a o:=by
 funext z;unfold cY aN
 by_cases e:z=p
 .subst e;rw [if_pos rfl,if_neg<|uq q];exact (if_pos rfl).symm
 .rw [if_neg e];by_cases f:z=a
  .rw [if_pos f,if_pos f]
  .rw [if_neg f,if_neg f];exact (if_neg e).symm
theorem fF.Gs {H:Hp}{pa ca a:Nat}{k:Int}{o:MO}(x:fF H pa ca k) (f:a≠pa) (j:a≠ca):fF (aN H a o) pa ca k:=
 ⟨let ⟨i,r,s,a,b⟩:=x.h;⟨i,r,s,(dQ f.symm).trans a,b⟩,let ⟨l,a,b⟩:=x.c;⟨l,a,(dQ j.symm).trans b⟩⟩
theorem fF.cells {H:Hp}{pa ca a:Nat}{k:Int}(x:fF H pa ca k) (h:H a=none):ca≠a:=bZ x.c λf _ e=>mS e h
def xc (Φ:bG):Prop:=∀ (pa ca a:Nat) (k:Int) (j:List (List Nat)) (H:Hp) (R:V->Hp->Prop),fF H pa ca k->k+2*j.length<=1000->cY H pa a=some (aO<|j.map .str)->
 (∀ w f l,mX j w->fF l pa ca (k+2*j.length)->(cY H pa).le (cY l pa)->cY H pa f=none->cY l pa f=some (aO<|w.map .str)->R (aB f) l)->Φ 506 [aB pa,aB a] H R bR
abbrev Gu (Φ:bG) (pa:Nat) (ca:Nat) (a:Nat) (k:Int) (j:List (List Nat)) (H:Hp) (R:V->Hp->Prop) (X:V->Hp->Prop):Prop:=∀ (p:mD Φ) (x:fF H pa ca k) (r:k+2*j.length<=1000) (u:cY H pa a=some (aO<|j.map .str)) (h:∀ w f l,mX j w->fF l pa ca (k+2*j.length)->(cY H pa).le (cY l pa)->cY H pa f=none->cY l pa f=some (aO<|w.map .str)->R (aB f) l),c7 Φ 5 KF [aB pa,aB a] H R X
abbrev Ol (t:Nat×Int×Nat×Hp×Nat×List (List Nat)×bG×(V->Hp->Prop)×(V->Hp->Prop)):Prop:=Gu t.2.2.2.2.2.2.1 t.1 t.2.2.1 t.2.2.2.2.1 t.2.1 t.2.2.2.2.2.1 t.2.2.2.1 t.2.2.2.2.2.2.2.1 t.2.2.2.2.2.2.2.2
@[irreducible] noncomputable def dE:Nat×Int×Nat×Hp×Nat×List (List Nat)×bG×(V->Hp->Prop)×(V->Hp->Prop):=nB (bM,bM,bM,bM,bM,bM,bM,bM,bM) Ol
@[irreducible] noncomputable def xd:Nat:=dE.2.2.2.2.1
theorem zfn:Gu dE.2.2.2.2.2.2.1 dE.1 dE.2.2.1 xd dE.2.1 dE.2.2.2.2.2.1 dE.2.2.2.1 dE.2.2.2.2.2.2.2.1 dE.2.2.2.2.2.2.2.2:=by
 intro y x hk ha h;obtain ⟨_,a3⟩:=mE ha;have x0:∃i:Int,0<=i/\i<=dE.2.1:=by obtain ⟨i,r,s,_,xd,b,_⟩:=x.h;exact ⟨i,xd,b⟩
 refine wF (m:=[some<|aB dE.1,some<|aB xd,none,none,none,none,none,none]) rfl<|aH ?_;dsimp only [bV,bB,bD,aY,c8,aP];refine iD (bC rfl) λf O=>aH ?_;have F:=x.fresh O;have I:cY dE.2.2.2.1 dE.1 f=none:=Oj F.symm O;have l1:(cY dE.2.2.2.1 dE.1).le (cY (aN dE.2.2.2.1 f<|aO []) dE.1):=qZ<|b8 _ O;dsimp only [eA,gy,aJ,gs,g0];refine wT (bE<|lN a3 O) ?_;rw [Ca];refine lz (xs:=dE.2.2.2.2.2.1.zipIdx) (λq:List Nat×Nat=>V.tup [aw q.2, .str q.1]) rfl (by rw [uo];lia) (λdone m P=>∃x3 x4 w,m=[some<|aB dE.1,some<|aB xd,some<|aB f,x3,x4,none,none,none]/\mX (done.map (·.1)) w/\fF P dE.1 dE.2.2.1 (dE.2.1+2*done.length)/\f≠dE.2.2.1/\(cY dE.2.2.2.1 dE.1).le (cY P dE.1)/\cY P dE.1 f=some (aO<|w.map .str)) ⟨none,none,[],rfl, .nil,(x.mono<|b8 _ O).up (by show dE.2.1<=dE.2.1+2*(0:Nat);exact Ud),(x.cells O).symm,l1,(tO F.symm).trans (bw ..)⟩ ?_ ?_
 .rintro done q W m P hd ⟨x3,x4,w,rfl,U,Z,fc,J,l⟩;have hi:=zfm dE.2.2.2.2.2.1 0 done q W hd;rw [pR] at hi;have a0:done.length+1<=dE.2.2.2.2.2.1.length:=by
   have:=congrArg pS hd;rw [cC,eQ,uo] at this;exact Ue this
  have a4:=U.len;rw [cN] at a4;refine ⟨⟨bE (mE<|J _ _ ha).2,trivial⟩,_,rfl,λK k1 k2=>aH ?_⟩;have L:∀ (u:Hp) (w2:List (List Nat)),w2.length<=w.length+1->mX ((done++[q]).map (·.1)) (w2++[q.1])->fF u dE.1 dE.2.2.1 (dE.2.1+2*(done++[q]).length)->(cY dE.2.2.2.1 dE.1).le (cY u dE.1)->cY u dE.1 f=some (aO<|w2.map .str)->
    cJ dE.2.2.2.2.2.2.1 (aE (dL<|cv (az 2) 0<|aC (az 4) aI) aK) [some<|aB dE.1,some<|aB xd,some<|aB f,some<|aw q.2,some<|.str q.1,none,none,none] u K bR:=by
   refine λu w2 wl i2 v l3 f2=>aH ?_;dsimp only [cL,aY,bU,aU,aP,aJ,gs,g0];refine me (mE f2).2 (by decide) ?_;dsimp only;refine lO (mE f2).2 (by rw [cN];lia) (aM<|k1 _ _ ⟨_,_,w2++[q.1],rfl,i2,v.Gs F.symm fc,fc,?_,?_⟩)
   .rw [w9 F.symm];exact mT _ l3 I
   .rw [w9 F.symm,bw,jw];rfl
  have up:∀ {u:Hp}{j:Int},j<=dE.2.1+2*done.length+2->fF u dE.1 dE.2.2.1 j->fF u dE.1 dE.2.2.1 (dE.2.1+2*(done++[q]).length):=λ{u j} hj p=>p.up (by rw [cC];show j<=dE.2.1+2*((done.length+1:Nat):Int);exact Uf hj);have one:mX ((done++[q]).map (·.1)) (w++[q.1]):=by rw [jw];exact .one q.1 U
  dsimp only [bB,bD,bL,dN,db,cX,br,bf,aV,cj,aU,aP,aJ,g0,gs,eJ];refine c0 (λq1=>?_) λq1=>aM (L _ w (by exact qz _) one (up (by exact Ug) Z) J l);refine y dE.1 dE.2.2.1 _ 4 _ _ Z (by exact Uh hk a0) (by decide) (by decide) λn u n0 n1 v em=>?_;dsimp only [e8];refine c0 (λq2=>aH ?_) λq2=>aM (L _ w (by exact qz _) one (up (by exact Ui) v) (em▸J)<|em▸l);have f2:cY u dE.1 f=some (aO<|w.map .str):=em▸l;dsimp only [cL,aY,bU,aU,aP,cV,cj,aV,aJ,g0,bX,gs];refine me (mE f2).2 (by decide) ?_;dsimp only;refine ⟨bC rfl,y dE.1 dE.2.2.1 _ 4 _ _ v (by exact Uj hk a0) (by decide) (by decide) λn H3 n0 n1 a5 a1=>?_⟩;have f3:cY H3 dE.1 f=some (aO<|w.map .str):=a1▸f2;have l3:(cY dE.2.2.2.1 dE.1).le (cY H3 dE.1):=by rw [a1,em];exact J
  have a2:∃c,c∈q8/\eR [V.str [44],V.str [47],V.str [66],V.str [48]] n=some (.str [c]):=by
   have:n=0\/n=1\/n=2\/n=3:=by exact Uk n0 n1
   rcases this with rfl | rfl | rfl | rfl
   .exact ⟨44,by decide,rfl⟩
   .exact ⟨47,by decide,rfl⟩
   .exact ⟨66,by decide,rfl⟩
   .exact ⟨48,by decide,rfl⟩
  refine bZ a2 λc hc hn=>?_;dsimp only [fv];rw [hn,eN];refine ⟨by exact Ul n0 n1,lO (mE f3).2 (by rw [cN];lia) (aM ?_)⟩;refine L _ (w++[[c]]) (by rw [cC];exact dM _) ?_ (up (by exact Um)<|a5.Gs F.symm fc) ?_ ?_
  .rw [jw];refine .ins q.1 ?_ hc U;intro z;have:=congrArg pS z;rw [cN] at this;change done.length=0 at this;lia
  .rw [w9 F.symm];exact mT _ l3 I
  .rw [w9 F.symm,bw,jw];rfl
 .rintro m P ⟨x3,x4,w,rfl,U,Z,fc,J,l⟩;rw [Oi] at U;rw [uo] at Z;refine ⟨⟨bE (mE<|J _ _ ha).2,trivial⟩,aH ?_⟩;dsimp only [cy,cx,aJ,gs,g0];exact eG<|h w f P U Z J I l
theorem zfo {Φ:bG}{pa:Nat}{ca:Nat}{a:Nat}{k:Int}{f:List (List Nat)}{H:Hp}{R:V->Hp->Prop}{X:V->Hp->Prop}:Gu Φ pa ca a k f H R X:=on (P:=Ol) (by with_unfolding_all exact zfn) (pa,k,ca,H,a,f,Φ,R,X)
structure Cx (M H:Hp) (pa ca:Nat) (k:Int) (F:List (Nat×List (List Nat))):Prop where
 p:fF H pa ca k
 l:M.le (cY H pa)
 n:(F.map (·.1)).Nodup
 f:∀ q∈F,M q.1=none/\cY H pa q.1=some (aO<|q.2.map .str)
 c:∃o,M ca=some o
theorem Cx.rd {M H:Hp}{pa ca a:Nat}{k:Int}{F:List (Nat×List (List Nat))}{vs:List (List Nat)}(x:Cx M H pa ca k F) (h:(a,vs)∈F):H a=some (aO<|vs.map .str):=(mE (x.f _ h).2).2
theorem Cx.alloc {M H:Hp}{pa ca a:Nat}{k:Int}{F:List (Nat×List (List Nat))}(x:Cx M H pa ca k F) (h:H a=none) (vs:List (List Nat)):Cx M (aN H a<|aO<|vs.map .str) pa ca k ((a,vs)::F) where
 p:=x.p.mono<|b8 _ h
 l:=x.l.tr<|qZ<|b8 _ h
 n:=by
  refine Ac.mpr ⟨λq=>?_,x.n⟩;refine bZ (kF.mp q) λq j e=>?_;have:=(mE (x.f q j).2).2;rw [e,h] at this;cases this
 f q j:=by
  have r:a≠pa:=(x.p.fresh h).symm;rcases cR.mp j with rfl | j
  .exact ⟨ue x.l<|Oj r h,(tO r).trans (bw ..)⟩
  .obtain ⟨u,v⟩:=x.f q j;exact ⟨u,qZ (b8 _ h) _ _ v⟩
 c:=x.c
theorem Cx.draw {M H p:Hp}{pa ca:Nat}{k j:Int}{F:List (Nat×List (List Nat))}(x:Cx M H pa ca k F) (h:fF p pa ca j) (e:cY p pa=cY H pa):Cx M p pa ca j F:=
 ⟨h,e▸x.l,x.n,λq r=>⟨(x.f q r).1,e▸(x.f q r).2⟩,x.c⟩
theorem Cx.up {M H:Hp}{pa ca:Nat}{k j:Int}{F:List (Nat×List (List Nat))}(x:Cx M H pa ca k F) (h:k<=j):Cx M H pa ca j F:=⟨x.p.up h,x.l,x.n,x.f,x.c⟩
theorem Cx.sub {M H:Hp}{pa ca:Nat}{k:Int}{F G:List (Nat×List (List Nat))}(x:Cx M H pa ca k F) (h:G.Sublist F):Cx M H pa ca k G:=⟨x.p,x.l,x.n.sublist<|h.map _,λq j=>x.f q<|h.subset j,x.c⟩
theorem Cx.put {M H:Hp}{pa ca a:Nat}{k:Int}{F:List (Nat×List (List Nat))}{vs:List (List Nat)}(x:Cx M H pa ca k ((a,vs)::F)) (y:List (List Nat)):Cx M (aN H a<|aO<|y.map .str) pa ca k ((a,y)::F):=by
 obtain ⟨u,z⟩:=x.f _ dh;obtain ⟨j,O⟩:=mE z;have I:a≠ca:=by
  rintro rfl;obtain ⟨o,e⟩:=x.c;rw [u] at e;cases e
 refine ⟨x.p.Gs j I,?_,x.n,λq r=>?_,x.c⟩
 .rw [w9 j];exact mT _ x.l u
 .rcases cR.mp r with rfl | r
  .exact ⟨u,(tO j).trans (bw ..)⟩
  .obtain ⟨J,L⟩:=x.f q<|dz _ r;have v:q.1≠a:=λe=>(Ac.mp x.n).1 (by show a∈_;rw [<-e];exact xW r);rw [w9 j];exact ⟨J,(dQ v).trans L⟩
noncomputable def dF (w:Int):List Nat:=if w=0 then [90] else if w=1 then [42] else if w=2 then [36] else if w=3 then [43] else if w=4 then [45] else []
noncomputable def pB (w:Int):Bool:=[2,3,4].any (·==w)
noncomputable def sq (w:Int):Bool:=[3,4].any (·==w)
def zb (way bJ:Int) (b:List (List Nat)):Prop:=b=[]\/b=[[80]]\/b=[[80],[80]]\/
 ∃j s,∃f:Nat,(j=[46]\/j=[86])/\1<=f/\f<=3/\(s=[57]\/(bJ=0/\way<5/\s=dF way))/\b=j::bY f s
def zii (way:Int) (s0 last:List (List Nat)):Prop:=(s0=[]/\last=[])\/(sq way=false/\(((s0=[[43]]\/s0=[[45]])/\last=[])\/(s0=[]/\(last=[[67,82]]\/last=[[68,66]]\/last=[[45]]\/last=[[43]]))))
def CG (way loose bJ:Int):List (List Nat):=(if way<5 then bY (loose+(if pB way=true then 1 else 0)).toNat (dF way) else bY loose.toNat [57])++bY bJ.toNat [57]
structure xe (way loose bJ:Int) (whole behind:List (List Nat)):Prop where
 w0:0<=way
 w1:way<6
 l0:1<=loose
 l1:loose<=4
 n0:0<=bJ
 n1:bJ<4
 i:mX (CG way loose bJ) whole
 b:zb way bJ behind
structure Gv (way loose bJ:Int) (s0 eH whole behind last:List (List Nat)):Prop where
 q:xe way loose bJ whole behind
 s:zii way s0 last
 d:eH=[]\/(eH=[[36]]/\pB way=false)
inductive Drawn (aA:List (List Nat)):Prop
 | mk (way loose bJ:Int) (s0 eH whole behind last:List (List Nat)) (h:Gv way loose bJ s0 eH whole behind last) (e:aA=s0++eH++whole++behind++last)
theorem xf {x y:Nat}{xs ys:List (List Nat)}{H:Hp}{Q:V->Hp->Prop}(f:H x=some (aO<|xs.map .str)) (j:H y=some (aO<|ys.map .str)) (p:xs.length+ys.length<=1000) (q:∀ a,H a=none->Q (aB a) (aN H a<|aO<|(xs++ys).map .str)):lu cU (aB x) (aB y) H Q:=by
 refine Nf (bE f) (bE j)<|iD ?_ λa l=>?_
 .rw [cC,cN,cN];exact qa ‹_› rfl
 .rw [<-jw];exact q a l
theorem nT {vs:List (List Nat)}{H:Hp}{Q:V->Hp->Prop}(f:vs.length<=1000) (q:∀ a,H a=none->Q (aB a) (aN H a<|aO<|vs.map .str)):iQ (vs.map .str) H Q:=iD (by rw [cN];exact qa ‹_› rfl) q
theorem Cb {x:Nat}{n:Int}{s:List Nat}{H:Hp}{Q:V->Hp->Prop}(f:H x=some (aO [.str s])) (j:0<=n) (l:n<=1000) (q:∀ a,H a=none->Q (aB a) (aN H a<|aO<|(bY n.toNat s).map .str)):lu fV (aB x) (aw n) H Q:=by
 refine Ng (bE f) j (by exact qj ‹_› rfl)<|iD ?_ λa p=>?_
 .rw [wU,kJ];exact Un l
 .have:=q a p;rw [Hu] at this;rw [wU];exact this
theorem zfp (a b n:Int) (H:Hp) (K:Bool->Prop):gq dU (aw n) (d8 [aw a,aw b]) H K=K ([a,b].any (·==n)):=rfl
theorem zfq (a b c n:Int) (H:Hp) (K:Bool->Prop):gq dU (aw n) (d8 [aw a,aw b,aw c]) H K=K ([a,b,c].any (·==n)):=rfl
theorem Om (a b n:Int) (H:Hp) (K:Bool->Prop):gq kC (aw n) (d8 [aw a,aw b]) H K=K (!([a,b].any (·==n))):=rfl
variable {M H:Hp}{pa ca:Nat}{R X:V->Hp->Prop}
def oM (M:Hp) (pa ca:Nat) (R:V->Hp->Prop):Prop:=∀ aA f j,Drawn aA->Cx M j pa ca 26 [(f,aA)]->R (aB f) j
theorem On {way loose bJ:Int}{s0 eH f behind last:List (List Nat)}{j l p r:Nat}(P:Gv way loose bJ s0 eH f behind last) (x:Cx M H pa ca 26 [(r,last),(p,s0++eH),(l,behind),(j,f)]) (U:f.length<=20/\behind.length<=5/\(s0++eH).length<=5/\last.length<=5) (h:oM M pa ca R)
  {m:Loc}(u:m[10]?=some (some<|aB j)) (v:m[11]?=some (some<|aB l)) (y:m[13]?=some (some<|aB p)) (z:m[14]?=some (some<|aB r)):cJ Φ (dy 13 l8) m H (cQ R) (cP X):=by
 refine qK U λF O I W=>aH ?_;dsimp only [cy,cx,bT,aJ];rw [y];dsimp only;rw [u];dsimp only;refine xf (x.rd<|lT _<|jN _) (x.rd<|lT _<|lT _<|lT _<|jN _) (by exact Uo F I) λa Z=>?_;have J:=x.alloc Z<|s0++eH++f;rw [v];dsimp only;refine xf (J.rd<|jN _) (J.rd<|lT _<|lT _<|lT _<|jN _) (by rw [cC];exact Up F O I) λb hb=>?_;have L:=J.alloc hb<|s0++eH++f++behind;rw [z];dsimp only;refine xf (L.rd<|jN _) (L.rd<|lT _<|lT _<|jN _) (by rw [cC,cC];exact Uq F O I W) λc hc=>?_;have x3:=L.alloc hc<|s0++eH++f++behind++last;exact eG<|h _ c _ ⟨way,loose,bJ,s0,eH,f,behind,last,P,rfl⟩<|x3.sub<|tV _<|List.nil_sublist _
theorem zfr (l:List (List Nat)):(l.map V.str).isEmpty=l.isEmpty:=by cases l <;> rfl
theorem Oo {way loose bJ:Int}{s0 eH f behind last:List (List Nat)}{l p r u:Nat}(L:Gv way loose bJ s0 eH f behind last) (x:Cx M H pa ca 26 [(u,last),(r,s0++eH),(p,behind),(l,f)]) (v:f.length<=20/\behind.length<=5/\(s0++eH).length<=5/\last.length<=5) (h:oM M pa ca R){v3 v4 v5 v6 v7 v8 O z F I J:Option V}:
  cJ Φ (dy 12 l8) [some<|aB pa,some<|aw 4,some<|aw way,v3,v4,v5,v6,v7,v8,O,some<|aB l,some<|aB p,z,some<|aB r,some<|aB u,F,I,J] H (cQ R) (cP X):=by
 refine aH ?_;dsimp only [bL,dN,db,cX,br,bf,aJ,gs,g0,aV,e8,c8,aP,bT];refine xf (x.rd<|lT _<|jN _) (x.rd<|jN _) (by exact Ur v.2.2.1 v.2.2.2) λa W=>?_;have Z:=x.alloc W<|s0++eH++last;refine iD (bC rfl) λe P=>ND (d7 (b8 _ P)<|bE<|bw ..) (bE<|bw ..) ?_;rw [zfr];have y:=(Z.alloc P []).sub (rn _<|rn _<|wg _);change Cx M (aN (aN H a<|aO<|(s0++eH++last).map .str) e<|aO []) pa ca 26 _ at y;generalize aN (aN H a<|aO<|(s0++eH++last).map .str) e (aO [])=H2 at y;have no:cJ Φ (dy 13 l8) [some<|aB pa,some<|aw 4,some<|aw way,v3,v4,v5,v6,v7,v8,O,some<|aB l,some<|aB p,z,some<|aB r,some<|aB u,F,I,J] H2 (cQ R) (cP X):=On L y v h rfl rfl rfl rfl;refine dR (λj=>?_) λj=>aM no;refine c0 (λU=>?_) λU=>aM no;refine tH (bE<|y.rd<|lT _<|lT _<|lT _<|jN _)<|dR (λq3=>?_) λq3=>aM no;refine tH (bE<|y.rd<|lT _<|lT _<|jN _)<|dR (λq4=>aH ?_) λq4=>aM no;have j:=HP.mp j;obtain ⟨j,q5⟩:=zj8.mp j;obtain ⟨j,q6⟩:=zj8.mp j;subst j;subst q5;subst q6;dsimp only [bV,bB,bD,aY,c8,aU,aP,aV];refine nT (vs:=[[43]]) (by decide) λb hb=>aM ?_;have x3:=(y.alloc hb [[43]]).sub (tV _<|rn _<|wg _);exact On (s0:=[]) (eH:=[]) (last:=[[43]]) ⟨L.q,aX ⟨by rw [U];rfl,aX ⟨rfl,aX<|aX<|aX rfl⟩⟩,ba rfl⟩ x3 ⟨v.1,v.2.1,v.2.2.1,by decide⟩ h rfl rfl rfl rfl
noncomputable def f0 (sign:Int):List (List Nat):=if sign=1 then [[43]] else if sign=2 then [[45]] else []
theorem Op (sign:Int):(f0 sign).length<=1:=by
 unfold f0;split
 .decide
 .split <;> decide
theorem Oq {way loose bJ sign:Int}{eH f behind:List (List Nat)}{j l p:Nat}(P:xe way loose bJ f behind) (v:0<=sign) (U:sign<6) (y:sign≠0->sq way=false) (z:eH=[]\/(eH=[[36]]/\pB way=false)) (x:Cx M H pa ca 26 [(p,f0 sign++eH),(l,behind),(j,f)]) (u:f.length<=20/\behind.length<=5) (h:oM M pa ca R){v3 v4 v5 v6 v7 v8 W F I J L:Option V}:
  cJ Φ (dy 11 l8) [some<|aB pa,some<|aw 4,some<|aw way,v3,v4,v5,v6,v7,v8,W,some<|aB j,some<|aB l,some<|aw sign,some<|aB p,F,I,J,L] H (cQ R) (cP X):=by
 have dl:(f0 sign++eH).length<=5:=by
  have:=Op sign;rw [cC];rcases z with rfl | ⟨rfl,_⟩
  .rw [jQ];exact qa ‹_› rfl
  .rw [eQ,jQ];exact qc ‹_› rfl
 refine aH ?_;dsimp only [bV,bB,bD,aY,dA,c8,aU,aP,cV,bT,aV,aJ,gs,g0,eZ,bX,fv,eN,br,bf,eJ];refine c0 (λq=>?_) λq=>?_
 .have r:∃c,eR [V.str [67,82],V.str [68,66],V.str [45]] (sign-3)=some (.str c)/\([c]=[[67,82]]\/[c]=[[68,66]]\/[c]=[[45]]\/[c]=[[43]])/\f0 sign=[]:=by
   have:sign=3\/sign=4\/sign=5:=by exact Us U q
   rcases this with rfl | rfl | rfl
   .exact ⟨_,rfl,ba rfl,rfl⟩
   .exact ⟨_,rfl,aX<|ba rfl,rfl⟩
   .exact ⟨_,rfl,aX<|aX<|ba rfl,rfl⟩
  refine fX r λc Z hc hf=>⟨bC rfl,by exact Ut U q,?_⟩;rw [Z,eN];exact nT (vs:=[c]) (bC rfl) λb O=>Oo ⟨P,aX ⟨y (by exact Uu q),aX ⟨hf,hc⟩⟩,z⟩ (x.alloc O [c]) ⟨u.1,u.2,dl,bC rfl⟩ h
 .refine nT (vs:=[]) (by decide) λb O=>Oo ⟨P,?_,z⟩ (x.alloc O []) ⟨u.1,u.2,dl,by decide⟩ h;have:sign=0\/sign=1\/sign=2:=by exact Uv v q
  rcases this with rfl | rfl | rfl
  .exact ba ⟨rfl,rfl⟩
  .exact aX ⟨y (by decide),ba ⟨ba rfl,rfl⟩⟩
  .exact aX ⟨y (by decide),ba ⟨aX rfl,rfl⟩⟩
theorem Gw (u:mD Φ){way loose bJ sign:Int}{f behind:List (List Nat)}{j l r:Nat}(P:xe way loose bJ f behind) (v:0<=sign) (U:sign<6) (W:sign≠0->sq way=false) (x:Cx M H pa ca 25 [(r,f0 sign),(l,behind),(j,f)]) (Z:f.length<=20/\behind.length<=5) (h:oM M pa ca R){v3 v4 v5 v6 v7 v8 v9 y z F I:Option V}:
  cJ Φ (dy 10 l8) [some<|aB pa,some<|aw 4,some<|aw way,v3,v4,v5,v6,v7,v8,v9,some<|aB j,some<|aB l,some<|aw sign,some<|aB r,y,z,F,I] H (cQ R) (cP X):=by
 have no:∀ {O:Hp},Cx M O pa ca 26 [(r,f0 sign),(l,behind),(j,f)]->cJ Φ (dy 11 l8) [some<|aB pa,some<|aw 4,some<|aw way,v3,v4,v5,v6,v7,v8,v9,some<|aB j,some<|aB l,some<|aw sign,some<|aB r,y,z,F,I] O (cQ R) (cP X):=λ{O} x=>Oq (eH:=[]) P v U W (ba rfl) (by rw [of];exact x) Z h;refine aH ?_;dsimp only [bL,dN,db,cX,br,bf,aV,cj,aU,aP,aJ,g0,bX,gs,g8];refine oI (λq1=>?_) λq1=>?_;case refine_2=>
  exact aM (no<|x.up<|by decide)
 refine ⟨bC rfl,?_⟩;rw [Om];refine dR (λJ=>?_) λJ=>aM (no<|x.up<|by decide);refine u pa ca 25 3 _ _ x.p (by decide) (by decide) (by decide) λn H2 n0 n1 p2 em=>?_;have L:=x.draw p2 em;dsimp only [e8];refine c0 (λq3=>aH ?_) λq3=>aM<|no L;dsimp only [cL,aY,bU,aU,aP,aV,aJ,gs,g0];refine me (L.rd<|jN _) (by decide) ?_;refine lO (L.rd<|jN _) (by have:=Op sign;rw [cN];exact qc ‹_› rfl)<|aM ?_;have x3:=L.put<|f0 sign++[[36]];rw [jw] at x3;refine Oq (eH:=[[36]]) P v U W (aX ⟨rfl,?_⟩) x3 Z h;unfold pB;rw [lY];have J:[3,4].any (·==way)=false:=by
  cases e:[3,4].any (·==way) with
  | false=>rfl
  | true=>rw [e] at J;cases J
 rw [J,beq_eq_false_iff_ne.mpr λe=>q1 e.symm];rfl
theorem Os (j:mD Φ){way loose bJ sign:Int}{f behind:List (List Nat)}{p r:Nat}(v:xe way loose bJ f behind) (l:0<=sign) (y:sign<6) (z:sign≠0->sq way=false) (x:Cx M H pa ca 25 [(r,behind),(p,f)]) (F:f.length<=20/\behind.length<=5) (h:oM M pa ca R){v3 v4 v5 v6 v7 v8 Z I J L O P:Option V}:
  cJ Φ (dy 9 l8) [some<|aB pa,some<|aw 4,some<|aw way,v3,v4,v5,v6,v7,v8,Z,some<|aB p,some<|aB r,some<|aw sign,I,J,L,O,P] H (cQ R) (cP X):=by
 refine aH ?_;dsimp only [bV,bB,bD,aY,dA,c8,aU,aP,cV,bT,aV,aJ,gs,g0,eZ,bX,fv,eN,br,bf,zfp];have hs:sign=1\/sign=2\/(sign≠1/\sign≠2):=by exact Uw
 refine ⟨bC rfl,?_⟩;rcases hs with rfl | rfl | ⟨U,W⟩
 .refine ⟨bC rfl,by decide,fH (a:= .str [43]) rfl ?_⟩;exact nT (vs:=[[43]]) (by decide) λb u=>Gw j v l y z (x.alloc u [[43]]) F h
 .refine ⟨bC rfl,by decide,fH (a:= .str [45]) rfl ?_⟩;exact nT (vs:=[[45]]) (by decide) λb u=>Gw j v l y z (x.alloc u [[45]]) F h
 .refine jI (by rw [lY,lY,beq_eq_false_iff_ne.mpr U.symm,beq_eq_false_iff_ne.mpr W.symm];rfl) ?_;refine nT (vs:=[]) (by decide) λb u=>Gw j v l y z ?_ F h;have e:f0 sign=[]:=by unfold f0;rw [if_neg U,if_neg W]
  rw [e];exact x.alloc u []
theorem zfs (j:mD Φ){way loose bJ:Int}{f behind:List (List Nat)}{l r:Nat}(J:xe way loose bJ f behind) (x:Cx M H pa ca 24 [(r,behind),(l,f)]) (L:f.length<=20/\behind.length<=5) (h:oM M pa ca R){v3 v4 v5 v6 v7 v8 O u v y z F I:Option V}:
  cJ Φ (dy 8 l8) [some<|aB pa,some<|aw 4,some<|aw way,v3,v4,v5,v6,v7,v8,O,some<|aB l,some<|aB r,u,v,y,z,F,I] H (cQ R) (cP X):=by
 refine aH ?_;dsimp only [bV,bB,bD,aY,dA,cj,aU,aP,aV,aJ,g0,br,bf,bX,gs,Om];refine ⟨bC rfl,?_⟩;refine dR (λq=>?_) λq=>Os j J (by decide) (by decide) (λq=>absurd rfl q) (x.up<|by decide) L h
 .refine j pa ca 24 6 _ _ x.p (by decide) (by decide) (by decide) λn Z P U p2 W=>Os j J P U (λ_=>?_) (x.draw p2 W) L h;show [3,4].any (·==way)=false;cases e:[3,4].any (·==way) with
  | false=>rfl
  | true=>rw [e] at q;cases q
end
open jX renaming cons->uc
section
variable {Φ:bG}{M H:Hp}{pa ca:Nat}{R X:V->Hp->Prop}
theorem zft (y:mD Φ){way loose bJ I f:Int}{F:Bool}{j:List (List Nat)}{u:Nat}(dq:∀ b,zb way bJ b->xe way loose bJ j b) (p0:0<=I) (p1:I<3) (t0:0<=f) (t1:f<4) (q9:F=true->bJ=0/\way<5) (x:Cx M H pa ca 22 [(u,j)]) (hl:j.length<=20) (h:oM M pa ca R){v3 v4 v6 a3 L O P U W Z:Option V}:
  cJ Φ (dy 6 l8) [some<|aB pa,some<|aw 4,some<|aw way,v3,v4,some<|.str<|dF way,v6,some<|aw I,some<|aw f,some<|aZ F,some<|aB u,a3,L,O,P,U,W,Z] H (cQ R) (cP X):=by
 refine aH ?_;dsimp only [bV,bB,bD,aY,c8,aP];refine nT (vs:=[]) (by decide) λc hc=>aH ?_;have x:=x.alloc hc [];generalize aN H c (aO<|([]:List (List Nat)).map .str)=H at x;have z:∀ {J:Hp}{c':Nat}{b:List (List Nat)},zb way bJ b->b.length<=5->Cx M J pa ca 24 [(c',b),(u,j)]->cJ Φ (dy 8 l8) [some<|aB pa,some<|aw 4,some<|aw way,v3,v4,some<|.str<|dF way,v6,some<|aw I,some<|aw f,some<|aZ F,some<|aB u,some<|aB c',L,O,P,U,W,Z] J (cQ R) (cP X):=λ{J c' b} hb a4 x=>zfs y (dq b hb) x ⟨hl,a4⟩ h;have a0:wpS Φ (bS (aW (cw 499<|aC (az 0)<|aC (aD<|aw 4) aI)<|aS cG (aD<|aw 3) aT) (aE (cg 11<|bq fV (fo<|aC (aD<|.str [80]) aI)<|bq cU (aD<|aw 1)<|cw 499<|aC (az 0)<|aC (aD<|aw 2) aI) aK) aK) [some<|aB pa,some<|aw 4,some<|aw way,v3,v4,some<|.str<|dF way,v6,some<|aw I,some<|aw f,some<|aZ F,some<|aB u,some<|aB c,L,O,P,U,W,Z] H (go Φ aK (go Φ (dy 8 l8) (cQ R)<|cP X)<|cP X) (cP X):=by
  dsimp only [bL,br,bf,aV,cj,aU,aP,aJ,g0];refine y pa ca 22 4 _ _ x.p (by decide) (by decide) (by decide) λn H2 n0 n1 p2 em=>?_;have x2:=x.draw p2 em;refine c0 (λq3=>aH ?_) λq3=>?_;case refine_2=>
   refine aM<|aM ?_;exact z (ba rfl) (by decide) (x2.up<|by decide)
  dsimp only [bV,bB,bD,aY,bT,cj,aU,aP,aV,aJ,g0,c8];refine nT (vs:=[[80]]) (by decide) λb hb=>?_;have x3:=(x2.alloc hb [[80]]).sub (tV _<|rn _<|wg _);refine y pa ca _ 2 _ _ x3.p (by decide) (by decide) (by decide) λn H4 n0 n1 p4 em=>?_;have x4:=x3.draw p4 em;dsimp only [cZ];refine Cb (s:=[80]) (x4.rd<|jN _) (by exact Ux n0) (by exact Uy n1) λd hd=>aM<|aM ?_;have x5:=(x4.alloc hd<|bY (1+n).toNat [80]).sub (tV _<|rn _<|wg _);have:n=0\/n=1:=by exact Uz n0 n1
  rcases this with rfl | rfl
  .exact z (aX<|ba rfl) (by decide) x5
  .exact z (aX<|aX<|ba rfl) (by decide) x5
 dsimp only [bL,dN,db,cX,br,bf,aV,aJ,gs,g0,eJ];refine c0 (λq1=>?_) λq1=>aH a0;refine c0 (λq2=>aH ?_) λq2=>aH a0;dsimp only [bV,bB,bD,aY,bT,aJ,gs,g0,c8,aU,aP,dA,aV,ee,cV,eZ,bX,fv,eN];have a1:∃v,(v=[46]\/v=[86])/\eR [V.str [46],V.str [86]] (I-1)=some (.str v):=by
  have:I=1\/I=2:=by exact UA p1 q1
  rcases this with rfl | rfl
  .exact ⟨_,ba rfl,rfl⟩
  .exact ⟨_,aX rfl,rfl⟩
 refine bZ a1 λv a5 hn=>⟨bC rfl,by exact UB p1 q1,?_⟩;rw [hn,eN];refine nT (vs:=[v]) (bC rfl) λb hb=>?_;have x3:=(x.alloc hb [v]).sub (tV _<|rn _<|wg _);have a2:∀ s,(s=[57]\/(bJ=0/\way<5/\s=dF way))->∀ {Q:V->Hp->Prop},(∀ d J,Cx M J pa ca 24 [(d,v::bY f.toNat s),(u,j)]->Q (aB d) J)->iQ [V.str s] (aN H b<|aO<|[v].map .str) λl H=>lu fV l (aw f) H λr H=>lu cU (aB b) r H Q:=by
  refine λs hs Q q=>nT (vs:=[s]) (bC rfl) λd hd=>?_;have x4:=(x3.alloc hd [s]);refine Cb (s:=s) (x4.rd<|jN _) t0 (by exact IN t1) λe he=>?_;have x5:=(x4.alloc he<|bY f.toNat s).sub (tV _<|rn _<|wg _);refine xf (x5.rd<|lT _<|jN _) (x5.rd<|jN _) (by rw [kJ];show 1+_<=1000;exact UC t1) λg hg=>?_;exact q g _ (((x5.alloc hg<|[v]++bY f.toNat s).sub (tV _<|rn _<|rn _<|wg _)).up (by decide))
 have hk:∀ s,(s=[57]\/(bJ=0/\way<5/\s=dF way))->zb way bJ (v::bY f.toNat s)/\(v::bY f.toNat s).length<=5:=λs hs=>⟨aX (aX<|aX ⟨v,s,f.toNat,a5,by exact UD q2,by exact UE t1,hs,rfl⟩),by rw [eQ,kJ];exact UF t1⟩;refine dR (λq=>?_) λq=>a2 _ (ba rfl) λd J x6=>aM<|z (hk _<|ba rfl).1 (hk _<|ba rfl).2 x6
 .have hs:dF way=[57]\/(bJ=0/\way<5/\dF way=dF way):=aX ⟨(q9 q).1,(q9 q).2,rfl⟩;exact a2 _ hs λd J x6=>aM<|z (hk _ hs).1 (hk _ hs).2 x6
theorem Cc:∀ {b:Bool}{A B:Prop},(b=true->A)->(b=false->B)->(if b=true then A else B)
 | true,_,_,h,_=>h rfl
 | false,_,_,_,h=>h rfl
def nU (way loose:Int):List (List Nat):=if way<5 then bY (loose+(if pB way=true then 1 else 0)).toNat (dF way) else bY loose.toNat [57]
theorem zfu {way loose:Int}(f:1<=loose) (h:loose<=4):(nU way loose).length<=5:=by
 unfold nU;split
 .rw [kJ];split <;> lia
 .rw [kJ];exact UG h
theorem Gx (r:mD Φ) (u:xc Φ){way loose bJ F j:Int}{v:Bool}{a6:Nat}(w0:0<=way) (w1:way<6) (l0:1<=loose) (l1:loose<=4) (n0:0<=bJ) (y:bJ<4) (p0:0<=F) (p1:F<3) (t0:0<=j) (t1:j<4) (q9:v=true->bJ=0/\way<5) (x:Cx M H pa ca 6 [(a6,nU way loose)]) (h:oM M pa ca R){v3 I J L O P U W Z:Option V}:
  cJ Φ (dy 5 l8) [some<|aB pa,some<|aw 4,some<|aw way,v3,some<|aw bJ,some<|.str<|dF way,some<|aB a6,some<|aw F,some<|aw j,some<|aZ v,I,J,L,O,P,U,W,Z] H (cQ R) (cP X):=by
 refine aH ?_;dsimp only [bV,bB,bD,aY,cj,aU,aP,bT,aJ,gs,g0,c8,aV];refine nT (vs:=[[57]]) (by decide) λb hb=>?_;have x2:=x.alloc hb [[57]];refine Cb (s:=[57]) (x2.rd<|jN _) n0 (by exact IN y) λc hc=>?_;have x3:=x2.alloc hc<|bY bJ.toNat [57];have al:=zfu (way:=way) l0 l1;refine xf (x3.rd<|lT _<|lT _<|jN _) (x3.rd<|jN _) (by rw [kJ];exact UH y al) λd hd=>?_;have z:=x3.alloc hd<|nU way loose++bY bJ.toNat [57];have bl:(nU way loose++bY bJ.toNat [57]).length<=8:=by rw [cC,kJ];exact UI y al
 refine u pa ca d 6 (nU way loose++bY bJ.toNat [57]) _ _ z.p (by exact UJ bl) (z.f _<|jN _).2 λw f H5 i5 p5 l5 f5 e5=>?_;refine zft r (λb hb=>⟨w0,w1,l0,l1,n0,y,i5,hb⟩) p0 p1 t0 t1 q9 ⟨p5.up (by exact UK bl),z.l.tr l5,Ac.mpr ⟨(λh=>nomatch h),HZ⟩,λq hq=>?_,x.c⟩ (by have:=i5.len;exact UL bl this) h;cases gp.mp hq;exact ⟨ue z.l f5,e5⟩
theorem zfv (f:mD Φ) (j:xc Φ){way loose bJ r l:Int}{a6:Nat}(u:0<=way) (v:way<6) (y:1<=loose) (z:loose<=4) (F:0<=bJ) (I:bJ<4) (J:0<=r) (L:r<3) (O:0<=l) (P:l<4) (x:Cx M H pa ca 5 [(a6,nU way loose)]) (h:oM M pa ca R){v3 v9 U W Z a0 a1 a2 a3 a4:Option V}:
  cJ Φ (dy 4 l8) [some<|aB pa,some<|aw 4,some<|aw way,v3,some<|aw bJ,some<|.str<|dF way,some<|aB a6,some<|aw r,some<|aw l,v9,U,W,Z,a0,a1,a2,a3,a4] H (cQ R) (cP X):=by
 refine aH ?_;dsimp only [bV,bB,bD,aY,fT,fR,fQ,fe,bf,aV,cj,aU,aP,aJ,g0,gs,fy,e8];refine Cc (λq=>Cc (λq2=>?_) λq2=>?_) λq=>?_
 .exact f pa ca 5 2 _ _ x.p (by decide) (by decide) (by decide) λn H2 _ _ p2 em=>Gx f j u v y z F I J L O P (λ_=>⟨of_decide_eq_true q,of_decide_eq_true q2⟩) (x.draw p2 em) h
 .exact Gx f j u v y z F I J L O P (λe=>by rw [q2] at e;cases e) (x.up<|by decide) h
 .exact Gx f j u v y z F I J L O P (λe=>by rw [q] at e;cases e) (x.up<|by decide) h
theorem Gy (f:mD Φ) (j:xc Φ){way loose bJ:Int}{L:Nat}(W:0<=way) (Z:way<6) (l0:1<=loose) (l1:loose<=4) (n0:0<=bJ) (n1:bJ<4) (x:Cx M H pa ca 3 [(L,nU way loose)]) (h:oM M pa ca R){v3 v7 v8 P l r u v y z F I:Option V}:
  cJ Φ (dy 3 l8) [some<|aB pa,some<|aw 4,some<|aw way,v3,some<|aw bJ,some<|.str<|dF way,some<|aB L,v7,v8,P,l,r,u,v,y,z,F,I] H (cQ R) (cP X):=by
 refine aH ?_;dsimp only [dZ,bX,aU,aP,cj,aJ,gs,g0,aV];refine f pa ca 3 3 _ _ x.p (by decide) (by decide) (by decide) λhp H2 p0 p1 p2 O=>?_;have U:=x.draw p2 O;refine f pa ca _ 4 _ _ U.p (by decide) (by decide) (by decide) λJ H3 t0 t1 p3 O=>⟨bC rfl,?_⟩;have x3:=U.draw p3 O;exact jz (m':=[some<|aB pa,some<|aw 4,some<|aw way,v3,some<|aw bJ,some<|.str<|dF way,some<|aB L,some<|aw hp,some<|aw J,P,l,r,u,v,y,z,F,I]) (by decide) rfl<|zfv f j W Z l0 l1 n0 n1 p0 p1 t0 t1 x3 h
theorem zfw (f:mD Φ) (j:xc Φ){way loose bJ:Int}(z:0<=way) (F:way<6) (p:1<=loose) (y:loose<=4) (I:0<=bJ) (J:bJ<4) (x:Cx M H pa ca 3 []) (h:oM M pa ca R){v6 v7 v8 v9 L O P U W Z a0 a1:Option V}:
  cJ Φ (dy 2 l8) [some<|aB pa,some<|aw 4,some<|aw way,some<|aw loose,some<|aw bJ,some<|.str<|dF way,v6,v7,v8,v9,L,O,P,U,W,Z,a0,a1] H (cQ R) (cP X):=by
 refine aH ?_;have l:∀ (b:Nat) (s:List Nat) (n:Int) (H2:Hp){Q:V->Hp->Prop},Cx M H2 pa ca 3 [(b,[s])]->0<=n->n<=5->bY n.toNat s=nU way loose->(∀ c r,Cx M r pa ca 3 [(c,nU way loose)]->Q (aB c) r)->lu fV (aB b) (aw n) H2 Q:=by
  refine λb s n H2 Q u h0 h5 e q=>Cb (s:=s) (u.rd<|jN _) h0 (by exact qi ‹_› rfl) λc hc=>?_;rw [e];exact q c _<|(u.alloc hc<|nU way loose).sub (tV _<|rn _<|wg _)
 dsimp only [bV,bB,bD,aY,dA,bT,aV,br,bf,bX,aU,aP,aJ,gs,g0,cZ,c8,fy];refine c0 (λq=>?_) λq=>?_
 .refine nT (vs:=[dF way]) (bC rfl) λb hb=>?_;have u:=x.alloc hb [dF way];refine ⟨bC rfl,?_⟩;rw [zfq];refine dR (λq2=>?_) λq2=>?_
  .refine l b _ _ _ u (by exact UM p) (by exact qj ‹_› rfl) ?_ λc r v=>Gy f j z F p y I J v h;unfold nU;rw [if_pos q,if_pos<|show pB way=true from q2]
  .refine l b _ _ _ u (by exact UN p) (by exact UO y) ?_ λc r v=>Gy f j z F p y I J v h;unfold nU;rw [if_pos q,if_neg<|show ¬pB way=true from ne_true_of_eq_false q2]
 .refine nT (vs:=[[57]]) (by decide) λb hb=>l b _ _ _ (x.alloc hb [[57]]) (by exact qv ‹_›) (by exact qi ‹_› rfl) ?_ λc r v=>Gy f j z F p y I J v h;unfold nU;rw [if_neg q]
def Gz (Φ:bG):Prop:=∀ (pa ca:Nat) (M H:Hp) (R:V->Hp->Prop),Cx M H pa ca 0 []->oM M pa ca R->Φ 513 [aB pa,aw 4] H R bR
theorem zfx (f:mD Φ) (j:xc Φ) (x:Cx M H pa ca 0 []) (h:oM M pa ca R):c7 Φ 15 l8 [aB pa,aw 4] H R X:=by
 refine wF (m:=[some<|aB pa,some<|aw 4,none,none,none,none,none,none,none,none,none,none,none,none,none,none,none,none]) rfl<|aH ?_;dsimp only [dZ,bX,aU,aP,cj,aJ,gs,g0,bT,aV];refine f pa ca 0 6 _ _ x.p (by decide) (by decide) (by decide) λway U r u z l=>?_;have v:=x.draw z l;refine f pa ca _ 4 _ _ v.p (by decide) (by decide) (by decide) λloose W Z F p2 l=>?_;have y:=v.draw p2 l;dsimp only [cZ];refine f pa ca _ 4 _ _ y.p (by decide) (by decide) (by decide) λbJ H3 I J L l=>⟨bC rfl,?_⟩;have O:=y.draw L l;refine jz (m':=[some<|aB pa,some<|aw 4,some<|aw way,some<|aw<|1+loose,some<|aw bJ,none,none,none,none,none,none,none,none,none,none,none,none,none]) (by decide) rfl<|aH ?_;have P:eR [V.str [90],V.str [42],V.str [36],V.str [43],V.str [45],V.str []] way=some (.str<|dF way):=by
  have:way=0\/way=1\/way=2\/way=3\/way=4\/way=5:=by exact UP r u
  rcases this with rfl | rfl | rfl | rfl | rfl | rfl <;> rfl
 dsimp only [bV,bB,bD,aY,cV,aJ,gs,g0,bX,fv,eN,aU,aP,aV];rw [P,eN];exact ⟨bC rfl,by exact UQ r u,zfw f j r u (by exact Int.le_add_of_nonneg_right ‹_›) (by exact UR F) I J O h⟩
end
section
variable {Φ:bG}{R X:V->Hp->Prop}
noncomputable def kv (aA:List (List Nat)):List Nat:=aA.zipIdx.filterMap λq=>if [[46],[86]].any (·==q.1)=true then some q.2 else none
noncomputable def eM (aA:List (List Nat)):List (List Nat):=[36,43,45].filterMap λc:Nat=>if 1<aA.count [c] then some [c] else none
noncomputable def ql (f seen:List (List Nat)) (s:List Nat):Bool:=[[57],[90],[42]].any (·==s) || (f.any (·==s) && seen.any (·==s))
noncomputable def zc (fz:List Nat) (k:Nat):Bool:=match fz with
 | []=>false
 | p::_=>decide ((p:Int)<k)
structure vm where
 bp:Int
 dg:Int
 seen:List (List Nat)
def jq (f:List (List Nat)) (fz:List Nat) (t:vm) (q:List Nat×Nat):vm:=
 ⟨t.bp+(if ql f t.seen q.1=true/\zc fz q.2=true then 1 else 0),t.dg+(if ql f t.seen q.1=true then 1 else 0),t.seen++[q.1]⟩
def Cd (aA:List (List Nat)):vm:=aA.zipIdx.foldl (jq (eM aA)<|kv aA) ⟨0,0,[]⟩
def kP (aA:List (List Nat)):Int:=(Cd aA).bp-aA.count [80]
def lP (aA:List (List Nat)):Int:=(Cd aA).dg
def pC (aA:List (List Nat)) (u sc:Int):Int:=(u.natAbs:Int)*10 ^ (max (kP aA) 0).toNat / 10 ^ (sc+max (0-kP aA) 0).toNat % 10 ^ (lP aA).toNat
def Ce (Φ:bG):Prop:=∀ (a:Nat) (aA:List (List Nat)) (u sc:Int) (H:Hp) (R:V->Hp->Prop),be H a=some (aA.map .str)->aA.length<=1000->u.natAbs<2 ^ 64->0<=sc->sc<=5->aA.count [80]<=5->
 R (d8 [aw (if u<0 then 0-pC aA u sc else pC aA u sc),aw<|kP aA,aw<|lP aA]) H->Φ 518 [aB a,aw u,aw sc] H R bR
theorem Ot (f:List (List Nat)) (fz:List Nat) (n:Int):∀ (l:List (List Nat×Nat)) (t:vm),0<=t.bp->0<=t.dg->t.bp<=n->t.dg<=n->0<=(l.foldl (jq f fz) t).bp/\0<=(l.foldl (jq f fz) t).dg/\(l.foldl (jq f fz) t).bp<=n+l.length/\(l.foldl (jq f fz) t).dg<=n+l.length
 | [],t,j,p,u,v=>⟨j,p,by rw [jQ];exact CJ u (by exact IP),by rw [jQ];exact CJ v<|by exact IP⟩
 | q::r,t,j,p,u,v=>by
  have a1:0<=(jq f fz t q).bp/\(jq f fz t q).bp<=n+1:=by
   unfold jq;dsimp only;split <;> lia
  have a2:0<=(jq f fz t q).dg/\(jq f fz t q).dg<=n+1:=by
   unfold jq;dsimp only;split <;> lia
  refine qK (Ot f fz (n+1) r (jq f fz t q) a1.1 a2.1 a1.2 a2.2) λb1 y z F=>?_;rw [iH,eQ];exact ⟨b1,y,by exact IQ z,by exact IQ F⟩
theorem Ou (f:List (List Nat)) (fz:List Nat):∀ (l:List (List Nat×Nat)) (t:vm),(l.foldl (jq f fz) t).seen.length=t.seen.length+l.length
 | [],t=>rfl
 | q::r,t=>by
  rw [iH,Ou f fz r,eQ];show (t.seen++[q.1]).length+_=_;rw [cC,eQ,jQ];exact DB
theorem GA (aA:List (List Nat)) (s:List Nat):Fv (.str s) (aA.map .str)=some (aA.count s):=by
 show (kD<|aA.map .str).map _=_;rw [strs_map];rfl
theorem GB:∀ k:Nat,0<(10:Int) ^ k
 | 0=>by decide
 | k+1=>by rw [Sc];exact Int.mul_pos (GB k) (by decide)
theorem pn (k:Nat) (h:k<=10):0<(10:Int) ^ k/\(10:Int) ^ k<2 ^ 64:=by
 refine ⟨GB k,?_⟩;have:∀ k<11,(10:Int) ^ k<2 ^ 64:=by decide
 exact this k (by exact qc ‹_› rfl)
abbrev GC (Φ:bG) (R:V->Hp->Prop) (X:V->Hp->Prop) (a:Nat) (aA:List (List Nat)) (u:Int) (sc:Int):Prop:=∀ {H:Hp}(f:be H a=some (aA.map .str)) (j:aA.length<=1000) (l:u.natAbs<2 ^ 64) (s0:0<=sc) (p:sc<=5) (r:aA.count [80]<=5) (h:R (d8 [aw (if u<0 then 0-pC aA u sc else pC aA u sc),aw<|kP aA,aw<|lP aA]) H),c7 Φ 12 El [aB a,aw u,aw sc] H R X
abbrev Ov (t:List (List Nat)×Int×Int×Nat×bG×(V->Hp->Prop)×(V->Hp->Prop)):Prop:=GC t.2.2.2.2.1 t.2.2.2.2.2.2 t.2.2.2.2.2.1 t.2.2.2.1 t.1 t.2.2.1 t.2.1
@[irreducible] noncomputable def eC:List (List Nat)×Int×Int×Nat×bG×(V->Hp->Prop)×(V->Hp->Prop):=nB (bM,bM,bM,bM,bM,bM,bM) Ov
@[irreducible] noncomputable def dk:List (List Nat):=eC.1
theorem zfy:GC eC.2.2.2.2.1 eC.2.2.2.2.2.2 eC.2.2.2.2.2.1 eC.2.2.2.1 dk eC.2.2.1 eC.2.1:=by
 intro H F hl hu s0 s1 hp h;have zl:dk.zipIdx.length<=1000:=by rw [uo];exact hl
 refine wF (m:=[some<|aB eC.2.2.2.1,some<|aw eC.2.2.1,some<|aw eC.2.1,none,none,none,none,none,none,none,none,none,none,none,none]) rfl<|aH ?_;dsimp only [bV,bB,bD,aY,dY,gy,aJ,g0];refine wT F ?_;rw [Ca];refine md (xs:=dk.zipIdx) (λq:List Nat×Nat=>V.tup [aw q.2, .str q.1]) rfl (fP zl<|by decide) (λq=>(if [[46],[86]].any (·==q.1)=true then some q.2 else none).map λn:Nat=>V.int n) (λf=>f=H) rfl ?_ ?_
 .rintro q f hm rfl;refine ⟨⟨F,trivial⟩,_,rfl,λK1 K0 k1 k0=>?_⟩;dsimp only [bB,bD,aJ,gs,g0,db,cX,br,bf,bX,aU,aP,aV,nQ];refine ⟨bC rfl,dR (λz=>?_) λz=>?_⟩
  .exact k1 _ _ (by rw [if_pos z];rfl) rfl
  .exact k0 _ (by rw [if_neg<|ne_true_of_eq_false z];rfl) rfl
 rintro f rfl;have es:dk.zipIdx.filterMap (λq=>if [[46],[86]].any (·==q.1)=true then some q.2 else none)=kv dk:=rfl;rw [tN,es];refine ⟨⟨F,trivial⟩,λa5 h5=>aH ?_⟩;have L5:=b8 (aO ((kv dk).map λn:Nat=>V.int n)) h5;have F5:aN f a5 (aO ((kv dk).map λn:Nat=>V.int n)) a5=_:=bw ..;generalize aN f a5 (aO ((kv dk).map λn:Nat=>V.int n))=H1 at L5 F5;dsimp only [bV,bB,bD,aY,dY,dI,bX,hH,aU,aP,aV];refine ⟨bC rfl,?_⟩;refine md (xs:=[36,43,45]) (λc:Nat=>V.str [c]) rfl (by decide) (λc=>(if 1<dk.count [c] then some [c] else none).map V.str) (λf=>f=H1) rfl ?_ ?_
 .rintro c f hm rfl;refine ⟨trivial,_,rfl,λK1 K0 k1 k0=>?_⟩;dsimp only [bB,bD,aJ,gs,g0,db,cX,br,bf,aV,bU,aU,aP];refine BR (d7 L5 F) (by decide)<|BM (d7 L5 F) (GA _ _) ?_;dsimp only [eJ];refine c0 (λz=>?_) λz=>?_
  .exact k1 _ _ (by rw [if_pos<|show 1<dk.count [c] by exact rB.mp ‹_›];rfl) rfl
  .exact k0 _ (by rw [if_neg<|show ¬1<dk.count [c] by exact Dz z];rfl) rfl
 rintro f rfl;have es:[36,43,45].filterMap (λc:Nat=>if 1<dk.count [c] then some [c] else none)=eM dk:=rfl;rw [tN,es];refine ⟨trivial,λl h6=>aH ?_⟩;have L:=L5.tr<|b8 (aO<|(eM dk).map V.str) h6;have O:=lN (o':=aO<|(eM dk).map V.str) F5 h6;have F6:aN f l (aO<|(eM dk).map V.str) l=_:=bw ..;generalize aN f l (aO<|(eM dk).map V.str)=H2 at L O F6;dsimp only [dZ,bX,aU,aP,c8,aV];refine iD (bC rfl) λj h9=>⟨bC rfl,jz (m':=[some<|aB eC.2.2.2.1,some<|aw eC.2.2.1,some<|aw eC.2.1,none,none,some<|aB a5,some<|aB l,some<|aw 0,some<|aw 0,some<|aB j,none,none,none,none,none]) (by decide) rfl<|aH ?_⟩;have L9:=b8 (aO []) h9;have F9:aN H2 j (aO []) j=some (aO<|([]:List (List Nat)).map .str):=bw ..;dsimp only [eA,gy,aJ,g0];refine wT (d7 (L.tr L9) F) ?_;rw [Ca];refine lz (xs:=dk.zipIdx) (λq:List Nat×Nat=>V.tup [aw q.2, .str q.1]) rfl (fP zl<|by decide) (λdone m f=>∃Z x4 u,m=[some<|aB eC.2.2.2.1,some<|aw eC.2.2.1,some<|aw eC.2.1,Z,x4,some<|aB a5,some<|aB l,some<|aw (done.foldl (jq (eM dk)<|kv dk) ⟨0,0,[]⟩).bp,some<|aw (done.foldl (jq (eM dk)<|kv dk) ⟨0,0,[]⟩).dg,some<|aB j,u,none,none,none,none]/\H2.le f/\f j=some (aO<|(done.foldl (jq (eM dk)<|kv dk) ⟨0,0,[]⟩).seen.map .str)) ⟨none,none,none,rfl,L9,F9⟩ ?_ ?_
 .rintro done q a1 m f hd ⟨Z,x4,u,rfl,J,f9⟩;have sl:=Ou (eM dk) (kv dk) done ⟨0,0,[]⟩;have dl:done.length<=1000:=by
   rw [<-hd,cC] at zl;exact DE zl
  rw [jQ,pR] at sl;have en:(done++[q]).foldl (jq (eM dk)<|kv dk) ⟨0,0,[]⟩=jq (eM dk) (kv dk) (done.foldl (jq (eM dk)<|kv dk) ⟨0,0,[]⟩) q:=qB;rw [en];generalize done.foldl (jq (eM dk)<|kv dk) ⟨0,0,[]⟩=t at sl f9;refine ⟨⟨d7 (L.tr J) F,trivial⟩,_,rfl,λK k1 k2=>aH ?_⟩;have body:cJ eC.2.2.2.2.1 (aE (dL<|cv (az 9) 0<|aC (az 4) aI)<|aE (cg 8<|bq cU (az 8)<|dC (fW<|az 10) (aD<|aw 1)<|aD<|aw 0)<|aE (cg 7<|bq cU (az 7)<|dC (jc<|bI (fW<|az 10)<|bI (aW (az 5)<|aS eW (fo aI) aT)<|bI (aW (az 3)<|aS gI (c5 (az 5)<|aD<|aw 0) aT) cM) (aD<|aw 1)<|aD<|aw 0) aK)
    [some<|aB eC.2.2.2.1,some<|aw eC.2.2.1,some<|aw eC.2.1,some<|aw q.2,some<|.str q.1,some<|aB a5,some<|aB l,some<|aw t.bp,some<|aw t.dg,some<|aB j,some<|aZ<|ql (eM dk) t.seen q.1,none,none,none,none] f K bR:=by
   refine aH ?_;dsimp only [cL,aY,bU,aU,aP,aJ,gs,g0];refine me f9 (by decide) ?_;refine lO f9 (by rw [cN];exact US dl sl)<|aH ?_;have l3:H2.le (aN f j<|aO<|t.seen.map V.str++[.str q.1]):=mT _ J h9;have f3:aN f j (aO<|t.seen.map V.str++[.str q.1]) j=some (aO<|(t.seen++[q.1]).map .str):=by rw [bw,jw];rfl
   generalize aN f j (aO<|t.seen.map V.str++[.str q.1])=H3 at l3 f3;have last:∀ (b:Bool) (H4:Hp),H3.le H4->(ql (eM dk) t.seen q.1=true/\zc (kv dk) q.2=true↔b=true)->K .next [some<|aB eC.2.2.2.1,some<|aw eC.2.2.1,some<|aw eC.2.1,some<|aw q.2,some<|.str q.1,some<|aB a5,some<|aB l,some (aw<|t.bp+(if b=true then 1 else 0)),some (aw<|t.dg+(if ql (eM dk) t.seen q.1=true then 1 else 0)),some<|aB j,some<|aZ<|ql (eM dk) t.seen q.1,none,none,none,none] H4:=by
    refine λb H4 U hb=>k1 _ _ ⟨some<|aw q.2,some<|.str q.1,some<|aZ<|ql (eM dk) t.seen q.1,?_,l3.tr U,U _ _ f3⟩;have:(if ql (eM dk) t.seen q.1=true/\zc (kv dk) q.2=true then (1:Int) else 0)=if b=true then 1 else 0:=by
     by_cases z:b=true
     .rw [if_pos z,if_pos<|hb.mpr z]
     .rw [if_neg z,if_neg λy=>z<|hb.mp y]
    unfold jq;dsimp only;rw [this]
   cases e:ql (eM dk) t.seen q.1 with
   | false=>
    rw [e] at last;refine aH ?_;dsimp only [bV,bB,bD,aY,bT,dA,aV,dN,db,cX,br,bf,cV,aJ,gs,g0,c8,aP,ee,cZ];exact aM<|last false _ (.rf _) ⟨λz=>absurd z.1 je,λz=>absurd z je⟩
   | true=>
    rw [e] at last;refine aH ?_;dsimp only [bV,bB,bD,aY,bT,dA,aV,dN,db,cX,br,bf,cV,aJ,gs,g0,c8,aP,ee,cZ];refine iD (bC rfl) λd hd=>vd (bE<|(l3.tr<|b8 _ hd) _ _ O) (bE<|bw ..) ?_;have U:=b8 (aO []) hd;have f5:=U _ _<|l3 _ _ O;cases e2:kv dk with
    | nil=>
     rw [e2] at last;exact aM<|last false _ U ⟨λz=>absurd z.2 je,λz=>absurd z je⟩
    | cons p r=>
     rw [e2] at last f5;refine kt (v:=aw p) (bE f5) rfl (by decide) ?_;dsimp only [eJ];refine c0 (λz=>aM<|last true _ U ⟨λ_=>rfl,λ_=>⟨rfl,decide_eq_true z⟩⟩) λz=>aM<|last false _ U ⟨λy=>absurd (of_decide_eq_true y.2) z,λy=>absurd y je⟩
  dsimp only [bB,bD,bV,aY,fT,fR,fQ,fe,bf,aJ,gs,g0,bX,aU,aP,aV,yW];refine ⟨bC rfl,?_⟩;refine wY (P:=λb=>cJ eC.2.2.2.2.1 _ [some<|aB eC.2.2.2.1,some<|aw eC.2.2.1,some<|aw eC.2.1,some<|aw q.2,some<|.str q.1,some<|aB a5,some<|aB l,some<|aw t.bp,some<|aw t.dg,some<|aB j,some<|aZ b,none,none,none,none] f K bR) (c:=(eM dk).any (·==q.1) && t.seen.any (·==q.1)) (λz=>?_) body;refine tG (bE<|(J) _ _ F6) (y0 (P:=λb=>cJ eC.2.2.2.2.1 _ [some<|aB eC.2.2.2.1,some<|aw eC.2.2.1,some<|aw eC.2.1,some<|aw q.2,some<|.str q.1,some<|aB a5,some<|aB l,some<|aw t.bp,some<|aw t.dg,some<|aB j,some<|aZ b,none,none,none,none] f K bR) (c:=t.seen.any (·==q.1)) (λz=>tG (bE f9) z) z)
 .rintro m f ⟨Z,x4,u,rfl,J,f9⟩;refine ⟨⟨d7 (L.tr J) F,trivial⟩,?_⟩;have W:=Ot (eM dk) (kv dk) 0 dk.zipIdx ⟨0,0,[]⟩ (mL _) (mL _) (mL _)<|mL _;refine aH ?_;dsimp only [bV,bB,bD,aY,bT,bU,aU,aP,aV,aJ,g0,gs];have a0:=d7 (L.tr J) F;refine BR a0 (by decide)<|BM a0 (GA _ _)<|aH ?_;have b0:-5<=kP dk/\kP dk<=1000:=by unfold kP;rw [uo] at W;exact UT hl hp W.1 W.2.2.1
  have d0:0<=lP dk/\lP dk<=1000:=by unfold lP;rw [uo] at W;exact UU hl W.2.1 W.2.2.2
  change cJ eC.2.2.2.2.1 (dy 5 El) [some<|aB eC.2.2.2.1,some<|aw eC.2.2.1,some<|aw eC.2.1,Z,x4,some<|aB a5,some<|aB l,some<|aw<|kP dk,some<|aw<|lP dk,some<|aB j,u,none,none,none,none] f (cQ eC.2.2.2.2.2.2) (cP eC.2.2.2.2.2.1);have I:wpS eC.2.2.2.2.1 (cD<|ce<|aC (dC (aW (az 1)<|aS jO (aD<|aw 0) aT) (bq iZ (aD<|aw 0)<|az 11)<|az 11)<|aC (az 7)<|aC (az 8) aI) [some<|aB eC.2.2.2.1,some<|aw eC.2.2.1,some<|aw eC.2.1,Z,x4,some<|aB a5,some<|aB l,some<|aw<|kP dk,some<|aw<|lP dk,some<|aB j,u,some<|aw<|pC dk eC.2.2.1 eC.2.1,none,none,none] f (go eC.2.2.2.2.1 aK (cQ eC.2.2.2.2.2.2)<|cP eC.2.2.2.2.2.1) (cP eC.2.2.2.2.2.1):=by
   dsimp only [cy,cx,bX,aU,aP,aJ,gs,g0,dA,bT,aV,eZ,br,bf,fy];refine c0 (λz=>?_) λz=>?_
   .rw [if_pos z] at h;exact ⟨bC rfl,kZ (L.tr J) h⟩
   .rw [if_neg z] at h;exact ⟨bC rfl,kZ (L.tr J) h⟩
  unfold pC at I;generalize kP dk=bp at b0 I;generalize lP dk=dg at d0 I;refine aH ?_;dsimp only [bV,bB,bD,aY,bT,aJ,gs,g0,aV,gN,cK,aU,aP,eZ,hW,cZ,gw,gu,gF,gv];have p2:=pn (eC.2.1+max (0-bp) 0).toNat (by exact UV s1 b0.1);exact ⟨rfl,by exact UW,by exact UX b0.2,ba (by assumption),rfl,by exact UY s0,by exact UZ s1 b0.1,p2.1,p2.2,rfl,by exact U0 d0.1,by exact U1 d0.2,GB _,aH I⟩
theorem zfz {Φ:bG}{R:V->Hp->Prop}{X:V->Hp->Prop}{a:Nat}{aA:List (List Nat)}{u:Int}{sc:Int}:GC Φ R X a aA u sc:=on (P:=Ov) (by with_unfolding_all exact zfy) (aA,sc,u,a,Φ,X,R)
noncomputable def tP:List Nat:=[108,101,97,100]
noncomputable def tQ:List Nat:=[112,108,97,105,110]
noncomputable def pD:List Nat:=[108,111,111,115,101]
noncomputable def qm:List Nat:=[110,105,110,101]
noncomputable def Ow:List Nat:=[112,117,116,32,105,110]
noncomputable def tR:List Nat:=[112,111,105,110,116]
structure GD where
 k:List Nat
 t:List Nat
 first:Int
 turn:Int
def vn (u:Int) (s:List Nat):List Nat×List Nat:=
 if [[44],[47],[66],[48]].any (·==s)=true then (Ow,if s=[66] then [32] else s)
 else if [[43],[45]].any (·==s)=true then (tQ,if u<0 then [45] else if s=[43] then [43] else [32])
 else if [[67,82],[68,66]].any (·==s)=true then (tQ,if u<0 then s else [32,32])
 else if [[46],[86],[80]].any (·==s)=true then (if s=[80] then tQ else tR,if s=[46] then [46] else [])
 else (tQ,s)
def zf (bx:List Int) (j:List (List Nat)) (u:Int) (n:Nat) (first f:Int) (s:List Nat):Option GD:=
 if j.any (·==s)=true/\first<0 then some ⟨tP,[],n,f⟩
 else if [[57],[90],[42]].any (·==s)=true\/j.any (·==s)=true then (eR bx f).map λd=>⟨if s=[57] then qm else pD,nD d,first,f+1⟩
 else some ⟨(vn u s).1,(vn u s).2,first,f⟩
noncomputable def lW (q:List Nat×List Nat):V:=d8 [.str q.1, .str q.2]
theorem zfA {u:Int}{s:List Nat}{H:Hp}{P U W Z m6 m7 m8:Option V}{l p r v y F I J L O:Option V}{K:Fl->Loc->Hp->Prop}{x:bW}
  (hx:x=(aE (bS (aW (az 4)<|aS dU (ce<|aC (aD<|.str [44])<|aC (aD<|.str [47])<|aC (aD<|.str [66])<|aC (aD<|.str [48]) aI) aT) (aE (jd [9,10]<|ce<|aC (aD<|.str [112,117,116,32,105,110])<|aC (dC (aW (az 4)<|aS cG (aD<|.str [66]) aT) (aD<|.str [32])<|az 4) aI) aK)<|aE (bS (aW (az 4)<|aS dU (ce<|aC (aD<|.str [43])<|aC (aD<|.str [45]) aI) aT) (aE (cg 10<|dC (aW (az 1)<|aS jO (aD<|aw 0) aT) (aD<|.str [45])<|dC (aW (az 4)<|aS cG (aD<|.str [43]) aT) (aD<|.str [43])<|aD<|.str [32]) aK)<|aE (bS (aW (az 4)<|aS dU (ce<|aC (aD<|.str [67,82])<|aC (aD<|.str [68,66]) aI) aT) (aE (cg 10<|dC (aW (az 1)<|aS jO (aD<|aw 0) aT) (az 4)<|aD<|.str [32,32]) aK)<|aE (bS (aW (az 4)<|aS dU (ce<|aC (aD<|.str [46])<|aC (aD<|.str [86])<|aC (aD<|.str [80]) aI) aT) (aE (jd [9,10]<|ce<|aC (dC (aW (az 4)<|aS eW (aD<|.str [80]) aT) (aD<|.str [112,111,105,110,116])<|aD<|.str [112,108,97,105,110])<|aC (dC (aW (az 4)<|aS cG (aD<|.str [46]) aT) (aD<|.str [46])<|aD<|.str []) aI) aK) aK) aK) aK) aK) aK))
  (f:K .next [P,some<|aw u,U,W,some<|.str s,Z,m6,m7,m8,some<|.str (vn u s).1,some<|.str (vn u s).2,l,p,r,v,y,F,I,J,L,O] H):
  cJ Φ x [P,some<|aw u,U,W,some<|.str s,Z,m6,m7,m8,some<|.str tQ,some<|.str s,l,p,r,v,y,F,I,J,L,O] H K bR:=by
 subst hx;unfold vn at f;refine aH ?_;dsimp only [bL,br,bf,bX,aU,aP,aV,aJ,gs,g0,FJ];refine ⟨bC rfl,dR (b:=[[44],[47],[66],[48]].any (·==s)) (λq=>aH ?_) λq=>aH ?_⟩
 .rw [if_pos q] at f;dsimp only [dZ,bX,aU,aP,dA,aV,aJ,gs,g0,br,bf,dB];refine c0 (λz=>?_) λz=>?_
  .rw [if_pos z] at f;exact ⟨bC rfl,jz (by decide) rfl<|aM<|aM f⟩
  .rw [if_neg z] at f;exact ⟨bC rfl,jz (by decide) rfl<|aM<|aM f⟩
 rw [if_neg<|ne_true_of_eq_false q] at f;dsimp only [bL,br,bf,bX,aU,aP,aV,aJ,gs,g0,nQ];refine ⟨bC rfl,dR (b:=[[43],[45]].any (·==s)) (λq=>aH ?_) λq=>aH ?_⟩
 .rw [if_pos q] at f;dsimp only [bV,bB,bD,aY,dA,aV,br,bf,aJ,gs,g0,dB,fy];refine c0 (λz=>?_) λz=>c0 (λj=>?_) λj=>?_
  .rw [if_pos z] at f;exact aM<|aM<|aM f
  .rw [if_neg z,if_pos j] at f;exact aM<|aM<|aM f
  .rw [if_neg z,if_neg j] at f;exact aM<|aM<|aM f
 rw [if_neg<|ne_true_of_eq_false q] at f;dsimp only [bL,br,bf,bX,aU,aP,aV,aJ,gs,g0,nQ];refine ⟨bC rfl,dR (b:=[[67,82],[68,66]].any (·==s)) (λq=>aH ?_) λq=>aH ?_⟩
 .rw [if_pos q] at f;dsimp only [bV,bB,bD,aY,dA,aJ,gs,g0,aV,br,bf,fy];refine c0 (λz=>?_) λz=>?_
  .rw [if_pos z] at f;exact aM<|aM<|aM<|aM f
  .rw [if_neg z] at f;exact aM<|aM<|aM<|aM f
 rw [if_neg<|ne_true_of_eq_false q] at f;dsimp only [bL,br,bf,bX,aU,aP,aV,aJ,gs,g0,yW];refine ⟨bC rfl,dR (b:=[[46],[86],[80]].any (·==s)) (λq=>aH ?_) λq=>aM<|aM<|aM<|aM ?_⟩
 .rw [if_pos q] at f;dsimp only [dZ,bX,aU,aP,dA,aV,br,bf,aJ,gs,g0,dB,fL];refine oI (λz=>c0 (λj=>?_) λj=>?_) λz=>c0 (λj=>?_) λj=>?_
  .rw [if_neg z,if_pos j] at f;exact ⟨bC rfl,jz (by decide) rfl<|aM<|aM<|aM<|aM<|aM f⟩
  .rw [if_neg z,if_neg j] at f;exact ⟨bC rfl,jz (by decide) rfl<|aM<|aM<|aM<|aM<|aM f⟩
  .rw [if_pos z,if_pos j] at f;exact ⟨bC rfl,jz (by decide) rfl<|aM<|aM<|aM<|aM<|aM f⟩
  .rw [if_pos z,if_neg j] at f;exact ⟨bC rfl,jz (by decide) rfl<|aM<|aM<|aM<|aM<|aM f⟩
 .rw [if_neg<|ne_true_of_eq_false q] at f;exact f
structure lE where
 cells:List (List Nat×List Nat)
 first:Int
 turn:Int
def qn (bx:List Int) (f:List (List Nat)) (u:Int) (t:lE) (s:List Nat):Option lE:=(zf bx f u t.cells.length t.first t.turn s).map λc=>⟨t.cells++[(c.k,c.t)],c.first,c.turn⟩
noncomputable def lQ (bx:List Int) (f:List (List Nat)) (u:Int):List (List Nat)->lE->Option lE
 | [],t=>some t
 | s::r,t=>match qn bx f u t s with
  | some t=>lQ bx f u r t
  | none=>none
theorem GE (bx:List Int) (f:List (List Nat)) (u:Int):∀ (a b:List (List Nat)) (t:lE),lQ bx f u (a++b) t=(lQ bx f u a t).bind (lQ bx f u b)
 | [],b,t=>rfl
 | s::r,b,t=>by
  show (match qn bx f u t s with | some t=>lQ bx f u (r++b) t | none=>none)=zj7 (match qn bx f u t s with | some t=>lQ bx f u r t | none=>none) _;cases qn bx f u t s with
  | none=>rfl
  | some t=>exact GE bx f u r b t
theorem Oy {p:Type}{l:List p}{i:Int}{v:p}(h:eR l i=some v):v∈l/\i.natAbs<=l.length:=by
 unfold eR at h;split at h
 .have:=ug.mp h;obtain ⟨f,j⟩:=this;exact ⟨j▸vW f,by lia⟩
 .split at h
  .have:=ug.mp h;obtain ⟨f,j⟩:=this;exact ⟨j▸vW f,by lia⟩
  .cases h
set_option tactic.hygienic true in
theorem zfB {bx:List Int}{fl:List (List Nat)}{u:Int}{t t2:lE}{s:List Nat}{H:Hp}{a3 a5 Z:Nat}{m0 m2 m9 a8:Option V}{j l p r v F I J L O:Option V}{K:Fl->Loc->Hp->Prop}{x:bW}
  (f3:H a3=some (aO<|bx.map aw)) (fb:∀ d∈bx,0<=d/\d<10) (fn:bx.length<=1000) (f5:H a5=some (aO<|fl.map .str)) (f6:H Z=some (aO<|t.cells.map lW)) (cl:t.cells.length<=1000) (e:qn bx fl u t s=some t2)
  (hx:x=dy 0 (match dy 3 nG with | aE (ju _ _ b) _=>b | _=>aK))
  (hK:∀ k tx:List Nat,K .next [m0,some<|aw u,m2,some<|aB a3,some<|.str s,some<|aB a5,some<|aB Z,some<|aw t2.first,some<|aw t2.turn,some<|.str k,some<|.str tx,j,l,p,r,v,F,I,J,L,O]<|aN H Z<|aO<|t2.cells.map lW):
  cJ Φ x [m0,some<|aw u,m2,some<|aB a3,some<|.str s,some<|aB a5,some<|aB Z,some<|aw t.first,some<|aw t.turn,m9,a8,j,l,p,r,v,F,I,J,L,O] H K bR:=by
 subst hx;refine oq e λc ec e2=>?_;have U:∀ (k tx:List Nat) (f n:Int),c=⟨k,tx,f,n⟩->cJ Φ (aE (dL<|cv (az 6) 0<|aC (ce<|aC (az 9)<|aC (az 10) aI) aI) aK) [m0,some<|aw u,m2,some<|aB a3,some<|.str s,some<|aB a5,some<|aB Z,some<|aw f,some<|aw n,some<|.str k,some<|.str tx,j,l,p,r,v,F,I,J,L,O] H K bR:=by
  intro k tx f n hc;subst hc;refine aH ?_;dsimp only [cL,aY,bU,aU,aP,bX,aJ,gs,g0];refine me f6 (by decide) ?_;dsimp only;refine ⟨bC rfl,lO f6 (by rw [cN];exact qc ‹_› rfl)<|aM ?_⟩;have:=hK k tx;rw [<-e2] at this;dsimp only at this;rw [jw] at this;exact this
 refine aH ?_;dsimp only [dZ,bX,aU,aP,aJ,gs,g0,aV];refine ⟨bC rfl,jz (m':=[m0,some<|aw u,m2,some<|aB a3,some<|.str s,some<|aB a5,some<|aB Z,some<|aw t.first,some<|aw t.turn,some<|.str tQ,some<|.str s,j,l,p,r,v,F,I,J,L,O]) (by decide) rfl<|aH ?_⟩;dsimp only [bL,dN,db,cX,br,bf,aV,aJ,gs,g0,fy];unfold zf at ec;have a1:¬(fl.any (·==s)=true/\t.first<0)->cJ Φ (match dy 3 nG with | aE (ju _ _ b) _=>(match dy 1 b with | aE (bS _ _ b) _=>b | _=>aK) | _=>aK) [m0,some<|aw u,m2,some<|aB a3,some<|.str s,some<|aB a5,some<|aB Z,some<|aw t.first,some<|aw t.turn,some<|.str tQ,some<|.str s,j,l,p,r,v,F,I,J,L,O] H (go Φ (aE (dL<|cv (az 6) 0<|aC (ce<|aC (az 9)<|aC (az 10) aI) aI) aK) K bR) bR:=by
  intro z;rw [if_neg z] at ec;refine aH ?_;have a2:(∃d,eR bx t.turn=some d/\c=⟨if s=[57] then qm else pD,nD d,t.first,t.turn+1⟩)->cJ Φ (aE (jd [9,10,8]<|ce<|aC (dC (aW (az 4)<|aS eW (aD<|.str [57]) aT) (aD<|.str [108,111,111,115,101])<|aD<|.str [110,105,110,101])<|aC (cA .str<|aC (c5 (az 3)<|az 8) aI)<|aC (bq cU (az 8)<|aD<|aw 1) aI) aK) [m0,some<|aw u,m2,some<|aB a3,some<|.str s,some<|aB a5,some<|aB Z,some<|aw t.first,some<|aw t.turn,some<|.str tQ,some<|.str s,j,l,p,r,v,F,I,J,L,O] H (go Φ aK (go Φ (aE (dL<|cv (az 6) 0<|aC (ce<|aC (az 9)<|aC (az 10) aI) aI) aK) K bR) bR) bR:=by
   rintro ⟨d,W,hc⟩;obtain ⟨hm,hb⟩:=Oy W;have hd:=fb d hm;have a4:eR (bx.map V.int) t.turn=some (aw d):=by
    unfold eR at W ⊢;rw [cN,pQ,pQ];split
    .rename_i q;rw [if_pos q] at W;rw [W];rfl
    .rename_i q;rw [if_neg q] at W;split
     .rename_i P;rw [if_pos P] at W;rw [W];rfl
     .rename_i P;rw [if_neg P] at W;cases W
   refine aH ?_;have a7:d<10 ^ 100:=ziM hd.2 (by decide);dsimp only [dZ,bX,aU,aP,bT,aV,aJ,gs,g0,cZ,cK,cV,dA,br,bf,fL];refine oI (λq=>?_) λq=>?_
   .rw [if_neg q] at hc;refine kt (bE f3) a4 (by exact IR fn hb) ?_;show 0<=d/\d<10 ^ 100/\_;exact ⟨hd.1,a7,bC rfl,jz (by decide) rfl<|aM<|aM<|U _ _ _ _ hc⟩
   .rw [if_pos q] at hc;refine kt (bE f3) a4 (by exact IR fn hb) ?_;show 0<=d/\d<10 ^ 100/\_;exact ⟨hd.1,a7,bC rfl,jz (by decide) rfl<|aM<|aM<|U _ _ _ _ hc⟩
  have a0:[[57],[90],[42]].any (·==s)=true\/fl.any (·==s)=true->∃d,eR bx t.turn=some d/\c=⟨if s=[57] then qm else pD,nD d,t.first,t.turn+1⟩:=by
   intro y;rw [if_pos y] at ec;exact oq ec λd h1 h2=>⟨d,h1,h2.symm⟩
  dsimp only [bL,eT,eV,eU,br,bf,aJ,gs,g0,bX,aU,aP,aV,yW];refine ⟨bC rfl,dR (b:=[[57],[90],[42]].any (·==s)) (λq=>a2<|a0<|ba q) λq=>?_⟩;refine tG (bE f5)<|dR (λP=>a2<|a0<|aX P) λP=>?_;rw [if_neg λy=>y.elim (ne_true_of_eq_false q)<|ne_true_of_eq_false P] at ec;exact zfA rfl<|U _ _ _ _ (kH ec).symm
 refine tG (bE f5)<|dR (λq=>?_) λq=>a1 λz=>ne_true_of_eq_false q z.1;refine c0 (λP=>aH ?_) λP=>a1 λz=>P z.2;rw [if_pos ⟨q,P⟩] at ec;dsimp only [dZ,bX,aU,aP,cK,aJ,gs,g0,aV];refine u7 (bE f6) (by rw [cN];exact qa ‹_› rfl) ⟨bC rfl,jz (by decide) rfl<|aM<|U _ _ _ _ ?_⟩;rw [cN];exact (kH ec).symm
noncomputable def pE (u f:Int):List Int:=(j7 f.toNat).map λk:Nat=>(u.natAbs:Int) / 10 ^ (f-1- (k:Int)).toNat % 10
theorem Cf {bx:List Int}{j:List (List Nat)}{u:Int}:∀ {l:List (List Nat)}{t f:lE},lQ bx j u l t=some f->f.cells.length=t.cells.length+l.length
 | [],t,f,h=>by cases h;rfl
 | s::r,t,f,h=>by
  change (match qn bx j u t s with | some t=>lQ bx j u r t | none=>none)=some f at h;cases e:qn bx j u t s with
  | none=>rw [e] at h;cases h
  | some v=>
   rw [e] at h;have:=Cf h;refine oq e λc _ p=>?_;rw [this,<-p,eQ];rw [cC,eQ,jQ];exact DB
abbrev GH (Φ:bG) (R:V->Hp->Prop) (X:V->Hp->Prop) (a:Nat) (aA:List (List Nat)) (u:Int) (f:Int) (t:lE):Prop:=∀ {H:Hp}(y:be H a=some (aA.map .str)) (z:aA.length<=1000) (F:0<=f) (I:f<=10) (J:lQ (pE u f) (eM aA) u aA ⟨[],-1,0⟩=some t) (h:∀ (j:Hp) (a3 a5 p:Nat) (r v l:Option V),H.le j->j a5=some (aO<|(eM aA).map .str)->j p=some (aO<|t.cells.map lW)->cJ Φ (dy 4 nG) [some<|aB a,some<|aw u,some<|aw f,some<|aB a3,r,some<|aB a5,some<|aB p,some<|aw t.first,some<|aw t.turn,v,l,none,none,none,none,none,none,none,none,none,none] j (cQ R) (cP X)),c7 Φ 18 nG [aB a,aw u,aw f] H R X
abbrev Oz (t:Int×Int×List (List Nat)×lE×Nat×bG×(V->Hp->Prop)×(V->Hp->Prop)):Prop:=GH t.2.2.2.2.2.1 t.2.2.2.2.2.2.1 t.2.2.2.2.2.2.2 t.2.2.2.2.1 t.2.2.1 t.1 t.2.1 t.2.2.2.1
@[irreducible] noncomputable def gz:Int×Int×List (List Nat)×lE×Nat×bG×(V->Hp->Prop)×(V->Hp->Prop):=nB (bM,bM,bM,(⟨[],0,0⟩:lE),bM,bM,bM,bM) Oz
@[irreducible] noncomputable def lR:Int:=gz.1
@[irreducible] noncomputable def xg:lE:=gz.2.2.2.1
theorem zfC:GH gz.2.2.2.2.2.1 gz.2.2.2.2.2.2.1 gz.2.2.2.2.2.2.2 gz.2.2.2.2.1 gz.2.2.1 lR gz.2.1 xg:=by
 intro H y hl d0 L O h;refine wF (m:=[some<|aB gz.2.2.2.2.1,some<|aw lR,some<|aw gz.2.1,none,none,none,none,none,none,none,none,none,none,none,none,none,none,none,none,none,none]) rfl<|aH ?_;dsimp only [bV,bB,bD,aY,dY,gR,aJ,gs,g0];refine ⟨d0,by exact qi ‹_› rfl,?_⟩;refine md (xs:=j7 gz.2.1.toNat) (λi:Nat=>V.int (i:Int)) rfl (by rw [rF];exact U2 L) (λk:Nat=>some<|V.int<|(lR.natAbs:Int) / 10 ^ (gz.2.1-1- (k:Int)).toNat % 10) (λf=>f=H) rfl ?_ ?_
 .rintro k f hm rfl;have hk:=xZ.mp hm;refine ⟨trivial,_,rfl,λK1 K0 k1 k0=>?_⟩;dsimp only [bB,bD,bT,aV,aJ,gs,g0,eZ,gN,cK,aU,aP,gw,gF,gv,cX];have p:=pn (gz.2.1-1- (k:Int)).toNat (by exact U3 L);exact ⟨rfl,by exact U4 hk,by exact U5 L,p.1,p.2,by decide,k1 _ _ rfl rfl⟩
 rintro f rfl;have es:(j7 gz.2.1.toNat).filterMap (λk:Nat=>some<|V.int<|(lR.natAbs:Int) / 10 ^ (gz.2.1-1- (k:Int)).toNat % 10)=(pE lR gz.2.1).map V.int:=by
  rw [u9 λk:Nat=>V.int<|(lR.natAbs:Int) / 10 ^ (gz.2.1-1- (k:Int)).toNat % 10];unfold pE;rw [lm];rfl
 rw [es];clear es;have fb:∀ d∈pE lR gz.2.1,0<=d/\d<10:=by
  refine λd P=>bZ (kF.mp P) λk _ e=>?_;rw [<-e];exact ⟨Ds _ (by decide),Dt _<|by decide⟩
 have fn:(pE lR gz.2.1).length<=1000:=by unfold pE;rw [cN,rF];exact U6 L
 generalize pE lR gz.2.1=bx at O fb fn;refine ⟨trivial,λa3 h3=>aH ?_⟩;have U:=b8 (aO<|bx.map V.int) h3;have F3:aN f a3 (aO<|bx.map V.int) a3=some (aO<|bx.map V.int):=bw ..;generalize aN f a3 (aO<|bx.map V.int)=H1 at U F3;dsimp only [bV,bB,bD,aY,dY,dI,bX,hH,aU,aP,aV];refine ⟨bC rfl,?_⟩;refine md (xs:=[36,43,45]) (λc:Nat=>V.str [c]) rfl (by decide) (λc=>(if 1<gz.2.2.1.count [c] then some [c] else none).map V.str) (λf=>f=H1) rfl ?_ ?_
 .rintro c f hm rfl;refine ⟨trivial,_,rfl,λK1 K0 k1 k0=>?_⟩;dsimp only [bB,bD,aJ,gs,g0,db,cX,br,bf,aV,bU,aU,aP];refine BR (d7 U y) (by decide) ?_;dsimp only;refine BM (d7 U y) (GA _ _) ?_;dsimp only [eJ];refine c0 (λz=>?_) λz=>?_
  .exact k1 _ _ (by rw [if_pos<|show 1<gz.2.2.1.count [c] by exact rB.mp ‹_›];rfl) rfl
  .exact k0 _ (by rw [if_neg<|show ¬1<gz.2.2.1.count [c] by exact Dz z];rfl) rfl
 rintro f rfl;have es:[36,43,45].filterMap (λc:Nat=>if 1<gz.2.2.1.count [c] then some [c] else none)=eM gz.2.2.1:=rfl;rw [tN,es];clear es;refine ⟨trivial,λa5 h5=>aH ?_⟩;have F:=U.tr<|b8 (aO<|(eM gz.2.2.1).map V.str) h5;have I:=lN (o':=aO<|(eM gz.2.2.1).map V.str) F3 h5;have W:aN f a5 (aO<|(eM gz.2.2.1).map V.str) a5=some (aO<|(eM gz.2.2.1).map V.str):=bw ..;generalize aN f a5 (aO<|(eM gz.2.2.1).map V.str)=H2 at F I W;generalize eM gz.2.2.1=u at O W h;dsimp only [dZ,bX,aU,aP,aV,gH,c8];refine iD (bC rfl) λZ h6=>⟨bC rfl,jz (m':=[some<|aB gz.2.2.2.2.1,some<|aw lR,some<|aw gz.2.1,some<|aB a3,none,some<|aB a5,some<|aB Z,some<|aw (-1),some<|aw 0,none,none,none,none,none,none,none,none,none,none,none,none]) (by decide) rfl<|aH ?_⟩;have L6:=b8 (aO []) h6;dsimp only [eA,dI,aJ,g0];refine mB (d7 (F.tr L6) y) (lz (xs:=gz.2.2.1) V.str rfl (by exact qa ‹_› rfl) (λdone m f=>∃x4 x9 l j,m=[some<|aB gz.2.2.2.2.1,some<|aw lR,some<|aw gz.2.1,some<|aB a3,x4,some<|aB a5,some<|aB Z,some<|aw j.first,some<|aw j.turn,x9,l,none,none,none,none,none,none,none,none,none,none]/\lQ bx u lR done ⟨[],-1,0⟩=some j/\H2.le f/\f Z=some (aO<|j.cells.map lW)) ⟨none,none,none,⟨[],-1,0⟩,rfl,rfl,L6,bw ..⟩ ?_ ?_)
 .rintro done s J m f P ⟨x4,x9,l,j,rfl,v,r,f6⟩;refine ⟨⟨d7 (F.tr r) y,trivial⟩,_,rfl,λK k1 k2=>?_⟩;have e2:=O;rw [<-P,GE,v] at e2;change (match qn bx u lR j s with | some xg=>lQ bx u lR J xg | none=>none)=some xg at e2;have e3:lQ bx u lR (done++[s]) ⟨[],-1,0⟩=lQ bx u lR [s] j:=by rw [GE,v];rfl
  change _=(match qn bx u lR j s with | some xg=>some xg | none=>none) at e3;have cl:=Cf v;have dl:done.length<=1000:=by rw [<-P,cC] at hl;exact DE hl
  change j.cells.length=0+done.length at cl;cases e4:qn bx u lR j s with
  | none=>rw [e4] at e2;cases e2
  | some t2=>
   rw [e4] at e3;exact zfB (r _ _ I) fb fn (r _ _ W) f6 (by exact yk dl cl) e4 rfl λk tx=>k1 _ _ ⟨some<|.str s,some<|.str k,some<|.str tx,t2,rfl,e3,mT _ r h6,bw ..⟩
 .rintro m f ⟨x4,x9,l,j,rfl,v,r,f6⟩;rw [O] at v;cases v;exact ⟨⟨d7 (F.tr r) y,trivial⟩,h f a3 a5 Z x4 x9 l (F.tr r) (r _ _ W) f6⟩
theorem OA {Φ:bG}{R:V->Hp->Prop}{X:V->Hp->Prop}{a:Nat}{aA:List (List Nat)}{u:Int}{f:Int}{t:lE}:GH Φ R X a aA u f t:=on (P:=Oz) (by with_unfolding_all exact zfC) (u,f,aA,t,a,Φ,R,X)
noncomputable def pF (aA:List (List Nat)):List Nat:=if aA.any (·==[42])=true then [42] else [32]
def re (fill:List Nat) (q:List Nat×List Nat):List Nat:=if q.1=tR/\fill=[42]/\q.2≠[] then [46] else (bY (if q.1=tP then [32] else q.2).length fill).flatten
def vo (f:List (List Nat×List Nat)):Bool:= !(f.map (·.1)).any (·==qm)
theorem zfD (fill:List Nat) (n:Nat):(bY n fill).flatten.length=n*fill.length:=by
 induction n with
 | zero=>rw [Nat.zero_mul];rfl
 | succ n f=>rw [pO,lj,cC,f,zj9];exact yb ..
theorem zfE {fill:List Nat}(f:fill.length=1){q:List Nat×List Nat}(h:q.2.length<=2):(re fill q).length<=2:=by
 unfold re;split
 .show 1<=2;decide
 .rw [zfD,f];split
  .show 1*1<=2;decide
  .exact zjY ‹_› _
theorem OB {j:Type}(f:j->List Nat):∀ l:List j,(∀ q∈l,(f q).length<=2)->(l.map f).flatten.length<=2*l.length
 | [],_=>dM _
 | q::r,h=>by
  have:=OB f r λq p=>h q<|dz _ p;have:=h q dh;rw [eF,lj,cC,eQ];lia
theorem OC {a a6:Nat}{aA:List (List Nat)}{f:List (List Nat×List Nat)}{u:Int}{H H0:Hp}{m2 m3 m4 m5 m7 m8 m9 r a1 v y F I J L O P U:Option V}(h1:be H a=some (aA.map .str)) (f6:H a6=some (aO<|f.map lW)) (cl:f.length<=1000) (c2:∀ q∈f,q.2.length<=2) (l0:H0.le H)
  (hb:u=0/\vo f=true->R (.str (f.map<|re<|pF aA).flatten) H0)
  (h:¬(u=0/\vo f=true)->∀ l,H.le l->cJ Φ (dy 6 nG) [some<|aB a,some<|aw u,m2,m3,m4,m5,some<|aB a6,m7,m8,m9,r,some<|.str<|pF aA,v,y,F,I,J,L,O,P,U] l (cQ R) (cP X)):
  cJ Φ (dy 4 nG) [some<|aB a,some<|aw u,m2,m3,m4,m5,some<|aB a6,m7,m8,m9,r,a1,v,y,F,I,J,L,O,P,U] H (cQ R) (cP X):=by
 have j:cJ Φ (dy 5 nG) [some<|aB a,some<|aw u,m2,m3,m4,m5,some<|aB a6,m7,m8,m9,r,some<|.str<|pF aA,v,y,F,I,J,L,O,P,U] H (cQ R) (cP X):=by
  have sl:(pF aA).length=1:=by unfold pF;split <;> rfl
  generalize pF aA=fill at hb h sl;refine aH ?_;dsimp only [bL,dN,db,cX,br,bf,dY,dI,aJ,gs,g0,aV,e8];refine c0 (λq=>?_) λq=>aM<|h (λz=>q z.1) H<|.rf H;refine mB (bE f6) (md (xs:=f) lW rfl (by exact qa ‹_› rfl) (λq=>some<|V.str q.1) (λl=>l=H) rfl ?_ ?_)
  .rintro c l hm rfl;exact ⟨⟨bE f6,trivial⟩,_,rfl,λK1 K0 k1 k0=>k1 _ _ rfl rfl⟩
  rintro l rfl;refine ⟨⟨bE f6,trivial⟩,λb a2=>?_⟩;have e1:f.filterMap (λq=>some<|V.str q.1)=(f.map (·.1)).map V.str:=by rw [u9 λq:List Nat×List Nat=>V.str q.1,lm];rfl
  rw [e1];have l1:=b8 (aO ((f.map (·.1)).map V.str)) a2;refine tH (bE<|bw ..) ?_;change (match vo f with | true=>_ | false=>_);refine dR (λq2=>aH ?_) λq2=>aM (h (λz=>by rw [q2] at z;cases z.2) _ l1);have hb:=hb ⟨q,q2⟩;have p:=l1 _ _ f6;have a0:=l0.tr l1;generalize aN l b (aO ((f.map (·.1)).map V.str))=H2 at p a0;dsimp only [cy,cx,bU,aU,aP,dY,dI,aJ,gs,g0,aV];refine si (aX rfl) ?_;dsimp only;refine mB (bE p) (md (xs:=f) lW rfl (by exact qa ‹_› rfl) (λq=>some<|V.str<|re fill q) (λl=>l=H2) rfl ?_ ?_)
  .rintro c l hm rfl;have hc:=c2 c hm;refine ⟨⟨bE p,trivial⟩,_,rfl,λK1 K0 k1 k0=>?_⟩;have a3:∀ (A B:Prop){b:Bool},¬(c.1=tR/\fill=[42]/\c.2≠[])->K1 (.str (bY (if c.1=tP then [32] else c.2).length fill).flatten) l:=λ_ _ _ z=>k1 _ _ (congrArg (λx=>some<|V.str x)<|if_neg z) rfl;have W:¬(c.1=tR/\fill=[42]/\c.2≠[])->(match !decide (c.1=tP) with
     | true=>c.2.length<=16777216/\fill.length*(c.2.length:Int).toNat<=16777216/\0<=(c.2.length:Int)/\(c.2.length:Int)<=1048576/\K1 (.str (bY (c.2.length:Int).toNat fill).flatten) l
     | false=>([32]:List Nat).length<=16777216/\fill.length*(([32]:List Nat).length:Int).toNat<=16777216/\0<=(([32]:List Nat).length:Int)/\(([32]:List Nat).length:Int)<=1048576/\K1 (.str (bY (([32]:List Nat).length:Int).toNat fill).flatten) l):=by
    intro z;have:=a3 True True (b:=true) z;refine oI (λZ=>?_) λZ=>?_
    .rw [if_neg Z] at this;refine ⟨by exact qa ‹_› rfl,?_,by exact lf _,by exact nq.mpr (qa ‹_› rfl),this⟩;rw [sl,jm];exact Iz hc
    .rw [if_pos Z] at this;refine ⟨by decide,?_,by decide,by decide,this⟩;rw [sl];decide
   dsimp only [bB,bD,dA,aV,bT,cK,aU,aP,aJ,gs,g0,fK,br,bf,fL,gG,dN,db,cX,dB];exact c0 (λz1=>c0 (λZ=>oI (λz3=>k1 _ _ (congrArg (λx=>some<|V.str x)<|if_pos ⟨z1,Z,z3⟩) rfl) λz3=>W λz=>z.2.2 z3) λZ=>W λz=>Z z.2.1) λz1=>W λz=>z1 z.1
  rintro l rfl;refine ⟨⟨bE p,trivial⟩,λd hd=>?_⟩;have fl:=OB (re fill) f λq hq=>zfE sl<|c2 q hq;refine u6 (ss:=f.map<|re fill) (bE<|bw ..) ?_ (by exact IB cl fl)<|kZ (a0.tr<|b8 _ hd) hb;rw [u9 λq:List Nat×List Nat=>V.str<|re fill q];have:=strs_map<|f.map<|re fill;rw [lm] at this;exact this
 refine aH ?_;dsimp only [bV,bB,bD,aY,dA,aV,br,bf,aJ,g0];unfold pF at j;refine tG h1<|dR (λq=>?_) λq=>?_
 .rw [if_pos q] at j;exact j
 .rw [if_neg<|ne_true_of_eq_false q] at j;exact j
theorem Cg {j:Type}(f:j->V):∀ (l:List j) (k:Nat),((l.map f).zipIdx k).map (λp=>V.tup [aw p.2,p.1])=(l.zipIdx k).map λp=>V.tup [aw p.2,f p.1]
 | [],_=>rfl
 | s::r,k=>congrArg (_::·)<|Cg f r<|k+1
def pG (q:(List Nat×List Nat)×Nat):Option Nat:=if [tP,pD].any (·==q.1.1)=true then some q.2 else none
def vp (q:(List Nat×List Nat)×Nat):Option Nat:=if [qm,tR].any (·==q.1.1)=true\/(q.1.1=pD/\q.1.2≠[48]) then some q.2 else none
noncomputable def mF (l:List Nat):List Int:=l.map λn:Nat=>(n:Int)
theorem OD {x:Nat}{l:List Int}{n:Int}{H:Hp}{Q:V->Hp->Prop}(f:be H x=some (l.map aw)) (j:oo l=some n) (q:Q (aw n) H):gr n6 [aB x] H Q:=by
 show (match be H x with | some vs=>(match j6 vs with | some p=>(match oo p with | some r=>Q (aw r) H | none=>False) | none=>False) | none=>False);rw [f];dsimp only;rw [ints_map];dsimp only;rw [j];exact q
theorem OE (l:List Nat):l.map (λn:Nat=>V.int n)=(mF l).map V.int:=by unfold mF;rw [lm];rfl
theorem zfF {a a6:Nat}{f:List (List Nat×List Nat)}{u b c:Int}{H:Hp}{m2 m3 m4 m5 m7 m8 m9 F I J L a1 a2 O P U W Z:Option V}(f6:H a6=some (aO<|f.map lW)) (cl:f.length<=1000)
  (eb:oo (mF (f.zipIdx.filterMap pG)++[(f.length:Int)])=some b) (ec:oo (mF<|f.zipIdx.filterMap vp)=some c)
  (h:∀ j,H.le j->cJ Φ (dy 8 nG) [some<|aB a,some<|aw u,m2,m3,m4,m5,some<|aB a6,m7,m8,m9,F,I,J,L,some<|aw b,some<|aw c,O,P,U,W,Z] j (cQ R) (cP X)):
  cJ Φ (dy 6 nG) [some<|aB a,some<|aw u,m2,m3,m4,m5,some<|aB a6,m7,m8,m9,F,I,J,L,a1,a2,O,P,U,W,Z] H (cQ R) (cP X):=by
 have zl:f.zipIdx.length<=1000:=by rw [uo];exact cl
 refine aH ?_;dsimp only [bV,bB,bD,aY,cK,aU,aP,bT,c8,aJ,gs,g0,dY,gy];refine wT (bE f6) ?_;rw [Cg];refine md (xs:=f.zipIdx) (λp=>V.tup [aw p.2,lW p.1]) rfl (by exact qa ‹_› rfl) (λq=>(pG q).map λn:Nat=>V.int n) (λj=>j=H) rfl ?_ ?_
 .rintro q j hm rfl;refine ⟨⟨bE f6,trivial⟩,_,rfl,λK1 K0 k1 k0=>?_⟩;dsimp only [bB,bD,lW,aJ,gs,g0,db,cX,br,bf,bX,aU,aP,aV,cV,fv,eN,gE,nQ];refine ⟨by decide,bC rfl,dR (b:=[tP,pD].any (·==q.1.1)) (λz=>?_) λz=>?_⟩
  .exact k1 _ _ (by unfold pG;rw [if_pos z];rfl) rfl
  .exact k0 _ (by unfold pG;rw [if_neg<|ne_true_of_eq_false z];rfl) rfl
 rintro j rfl;rw [tN,OE];refine ⟨⟨bE f6,trivial⟩,λd hd=>?_⟩;have l1:=b8 (aO<|(mF<|f.zipIdx.filterMap pG).map V.int) hd;have fd:aN j d (aO<|(mF<|f.zipIdx.filterMap pG).map V.int) d=some (aO<|(mF<|f.zipIdx.filterMap pG).map V.int):=bw ..;have ll:(mF<|f.zipIdx.filterMap pG).length<=1000:=by
  unfold mF;rw [cN];exact fP (zjJ _ _) zl
 generalize mF (f.zipIdx.filterMap pG)=bl at eb l1 fd ll;have v:=l1 _ _ f6;generalize aN j d (aO<|bl.map V.int)=H2 at l1 fd v;refine u7 (bE v) (by rw [cN];exact qa ‹_› rfl) ?_;rw [cN];refine iD (bC rfl) λe he=>?_;have l2:=b8 (aO [aw (f.length:Int)]) he;refine Nf (bE<|l2 _ _ fd) (bE<|bw ..) (iD (by rw [cC,cN];show _+1<=_;exact qc ‹_› rfl) λg hg=>?_);have l3:=l2.tr<|b8 (aO<|bl.map V.int++[aw (f.length:Int)]) hg;refine OD (l:=bl++[(f.length:Int)]) (bE<|(bw ..).trans (by rw [jw];rfl)) eb<|aH ?_;have r:=l3 _ _ v;have l4:=l1.tr l3;generalize aN (aN H2 e<|aO [aw (f.length:Int)]) g (aO<|bl.map V.int++[aw (f.length:Int)])=H3 at r l4;dsimp only [bV,bB,bD,aY,cK,aU,aP,dY,gy,aJ,gs,g0];refine wT (bE r) ?_;rw [Cg];refine md (xs:=f.zipIdx) (λp=>V.tup [aw p.2,lW p.1]) rfl (by exact qa ‹_› rfl) (λq=>(vp q).map λn:Nat=>V.int n) (λj=>j=H3) rfl ?_ ?_
 .rintro q j hm rfl;refine ⟨⟨bE r,trivial⟩,_,rfl,λK1 K0 k1 k0=>?_⟩;have a0:([qm,tR].any (·==q.1.1)=true\/(q.1.1=pD/\q.1.2≠[48]))->K1 (aw q.2) j:=λz=>k1 _ _ (by unfold vp;rw [if_pos z];rfl) rfl;have no:¬([qm,tR].any (·==q.1.1)=true\/(q.1.1=pD/\q.1.2≠[48]))->K0 j:=λz=>k0 _ (by unfold vp;rw [if_neg z];rfl) rfl;dsimp only [bB,bD,lW,aJ,gs,g0,db,cX,eT,eV,eU,dN,br,bf,aV,cV,fv,eN,gM,fL,gE,dB,bX,aU,aP,nQ];refine ⟨by decide,bC rfl,dR (b:=[qm,tR].any (·==q.1.1)) (λz=>a0<|ba z) λz=>⟨by decide,?_⟩⟩;refine c0 (λz2=>⟨by decide,oI (λz3=>a0<|aX ⟨z2,z3⟩) λz3=>no λy=>y.elim (ne_true_of_eq_false z) λy=>y.2 z3⟩) λz2=>no λy=>y.elim (ne_true_of_eq_false z) λy=>z2 y.1
 rintro j rfl;rw [tN,OE];refine ⟨⟨bE r,trivial⟩,λd hd=>?_⟩;exact OD (bE<|bw ..) ec<|h _<|l4.tr<|b8 _ hd
def xh (b c:Int) (q:(List Nat×List Nat)×Nat):Bool:=(decide (b<=(q.2:Int)) && decide ((q.2:Int)<c)) && [tP,pD,Ow].any (·==q.1.1)
def vq (fill:List Nat) (b c:Int) (q:(List Nat×List Nat)×Nat):List Nat:=if xh b c q=true then fill else q.1.2
noncomputable def OF (f:List Nat) (u:Int):List Nat:=if f=[36] then f else if u<0 then [45] else if f=[43] then [43] else [32]
def Ch (l:List (List Nat)) (u c:Int) (j:List (List Nat)):Option (List<|List Nat):=match l with
 | []=>some j
 | f::_=>(rK j.length<|c-1).map λk=>j.set k<|OF f u
theorem zfG {a a5 a6:Nat}{fl:List (List Nat)}{j:List (List Nat×List Nat)}{fill:List Nat}{u b c:Int}{ws:List (List Nat)}{H H0:Hp}{m2 m3 m4 m7 m8 m9 l a3 a4 a7 a8 y F I:Option V}(f5:H a5=some (aO<|fl.map .str)) (f6:H a6=some (aO<|j.map lW)) (cl:j.length<=1000) (cb:c.natAbs<=1000) (l0:H0.le H)
  (ew:Ch fl u c (j.zipIdx.map<|vq fill b c)=some ws) (wl:ws.flatten.length<=1000) (h:R (.str ws.flatten) H0):
  cJ Φ (dy 8 nG) [some<|aB a,some<|aw u,m2,m3,m4,some<|aB a5,some<|aB a6,m7,m8,m9,l,some<|.str fill,a3,a4,some<|aw b,some<|aw c,a7,a8,y,F,I] H (cQ R) (cP X):=by
 have zl:j.zipIdx.length<=1000:=by rw [uo];exact cl
 refine aH ?_;dsimp only [bV,bB,bD,aY,c8,aP];refine iD (bC rfl) λw hw=>aH ?_;have L1:=b8 (aO []) hw;dsimp only [eA,gy,aJ,gs,g0];refine wT (bE<|L1 _ _ f6) ?_;rw [Cg];refine lz (xs:=j.zipIdx) (λp=>V.tup [aw p.2,lW p.1]) rfl (by exact qa ‹_› rfl) (λdone m U=>∃L O P,m=[some<|aB a,some<|aw u,m2,m3,m4,some<|aB a5,some<|aB a6,m7,m8,m9,l,some<|.str fill,L,O,some<|aw b,some<|aw c,some<|aB w,P,y,F,I]/\H.le U/\U w=some (aO<|(done.map (vq fill b c)).map .str)) ⟨_,_,_,rfl,L1,bw ..⟩ ?_ ?_
 .rintro done q aa m U hd ⟨L,O,P,rfl,l2,fw⟩;have dl:done.length<=1000:=by rw [<-hd,cC] at zl;exact DE zl
  refine ⟨⟨bE<|l2 _ _ f6,trivial⟩,_,rfl,λK k1 k2=>aH ?_⟩;have J:∀ v:Bool,xh b c q=v->cJ Φ (aE (dL<|cv (az 16) 0<|aC (dC (fW<|az 17) (az 11)<|c5 (az 13)<|aD<|aw 1) aI) aK) [some<|aB a,some<|aw u,m2,m3,m4,some<|aB a5,some<|aB a6,m7,m8,m9,l,some<|.str fill,some<|aw q.2,some<|lW q.1,some<|aw b,some<|aw c,some<|aB w,some<|aZ v,y,F,I] U K bR:=by
   intro v hv;have a2:∀ s,vq fill b c q=s->gZ (aB w) 0 [.str s] U λv U=>(match v with | cz=>go Φ aK K bR .next [some<|aB a,some<|aw u,m2,m3,m4,some<|aB a5,some<|aB a6,m7,m8,m9,l,some<|.str fill,some<|aw q.2,some<|lW q.1,some<|aw b,some<|aw c,some<|aB w,some<|aZ<|xh b c q,y,F,I] U | _=>False):=by
    intro s hs;refine lO fw (by rw [cN,cN];exact qc ‹_› rfl)<|aM<|k1 _ _ ⟨_,_,_,rfl,mT _ l2 hw,?_⟩;rw [bw,jw,jw,<-hs];rfl
   subst hv;refine aH ?_;dsimp only [cL,aY,bU,aU,aP,dA,aJ,gs,g0,cV,aV,ee];refine me fw (by decide) ?_;refine dR (λz=>a2 fill<|if_pos z) λz=>?_
   .dsimp only [lW,fv,eN,gM];exact ⟨by decide,a2 q.1.2<|if_neg<|ne_true_of_eq_false z⟩
  dsimp only [bB,bD,bV,aY,fT,fR,fQ,fe,bf,bX,aU,aP,aV,cV,aJ,gs,g0,gK,fy,gO];refine c0 (λz1=>Cc (λW=>?_) λW=>?_) λz1=>?_
  .dsimp only [lW,fv,eN,gE,yW];exact ⟨by decide,bC rfl,J _<|by unfold xh;rw [decide_eq_true z1,W];rfl⟩
  .rw [W];exact J false (by unfold xh;rw [W,rI];rfl)
  .exact J false (by unfold xh;rw [decide_eq_false z1];rfl)
 .rintro m U ⟨L,O,P,rfl,l2,fw⟩;refine ⟨⟨bE<|l2 _ _ f6,trivial⟩,aH ?_⟩;generalize j.zipIdx.map (vq fill b c)=w0 at ew fw;have J:∀ H2:Hp,H0.le H2->H2 w=some (aO<|ws.map .str)->cJ Φ (dy 11 nG) [some<|aB a,some<|aw u,m2,m3,m4,some<|aB a5,some<|aB a6,m7,m8,m9,l,some<|.str fill,L,O,some<|aw b,some<|aw c,some<|aB w,P,y,F,I] H2 (cQ R) (cP X):=by
   refine λH2 l3 Z=>aH ?_;dsimp only [cy,cx,bU,aU,aP,aJ,gs,g0,aV];refine si (aX rfl) ?_;exact u6 (bE Z) (strs_map ws) (by exact qa ‹_› rfl)<|kZ l3 h
  dsimp only [bL,br,bf,c8,aP,aJ,gs,g0];refine iD (bC rfl) λe he=>vd (bE<|((l2.tr<|b8 _ he)) _ _ f5) (bE<|bw ..) ?_;have l3:=l2.tr<|b8 (aO []) he;have Z:=lN (o':=aO []) fw he;have a9:H0 w=none:=ue l0 hw;cases fl with
  | nil=>
   cases ew;exact aM<|J _ (l0.tr l3) Z
  | cons f r=>
   refine oq ew λk hk ek=>?_;have a1:aN U e (aO []) a5=some (aO (.str f::r.map .str)):=l3 _ _ f5;have a0:∀ s,OF f u=s->uK (aB w) (aw<|c-1) (.str s) (aN U e<|aO []) λH=>go Φ aK (go Φ (dy 11 nG) (cQ R)<|cP X) (cP X) .next [some<|aB a,some<|aw u,m2,m3,m4,some<|aB a5,some<|aB a6,m7,m8,m9,l,some<|.str fill,L,O,some<|aw b,some<|aw c,some<|aB w,P,y,F,I] H:=by
    intro s hs;refine wV (k:=k) Z (by rw [cN];exact hk) (by exact U7 cb)<|aM<|J _ (mT _ (l0.tr l3) a9) ?_;rw [bw,<-ek,hs,R8]
   refine aH ?_;dsimp only [gb,aY,bT,aV,aJ,gs,g0,eZ,dA,cV,br,bf,fy];refine kt (v:= .str f) (bE a1) rfl (by decide) ?_;refine c0 (λz=>kt (v:= .str f) (bE a1) rfl (by decide)<|a0 _<|if_pos z) λz=>c0 (λW=>a0 _<|(if_neg z).trans (if_pos W)) λW=>?_
   .refine kt (v:= .str f) (bE a1) rfl (by decide) ?_;exact c0 (λz3=>a0 _<|(if_neg z).trans ((if_neg W).trans (if_pos z3))) λz3=>a0 _<|(if_neg z).trans ((if_neg W).trans (if_neg z3))
inductive tT (aA:List (List Nat)) (u dg:Int):List Nat->Prop
 | blank (t:lE) (e:lQ (pE u dg) (eM aA) u aA ⟨[],-1,0⟩=some t) (c2:∀ q∈t.cells,q.2.length<=2) (z:u=0/\vo t.cells=true):tT aA u dg (t.cells.map<|re<|pF aA).flatten
 | words (t:lE) (b c:Int) (ws:List (List Nat)) (e:lQ (pE u dg) (eM aA) u aA ⟨[],-1,0⟩=some t) (c2:∀ q∈t.cells,q.2.length<=2) (z:¬(u=0/\vo t.cells=true))
   (eb:oo (mF (t.cells.zipIdx.filterMap pG)++[(t.cells.length:Int)])=some b) (ec:oo (mF<|t.cells.zipIdx.filterMap vp)=some c) (cb:c.natAbs<=1000)
   (ew:Ch (eM aA) u c (t.cells.zipIdx.map<|vq (pF aA) b c)=some ws) (wl:ws.flatten.length<=1000):tT aA u dg ws.flatten
def OG (Φ:bG):Prop:=∀ (a:Nat) (aA:List (List Nat)) (u f:Int) (x:List Nat) (H:Hp) (R:V->Hp->Prop),be H a=some (aA.map .str)->aA.length<=1000->0<=f->f<=10->tT aA u f x->R (.str x) H->Φ 523 [aB a,aw u,aw f] H R bR
theorem zfH {a:Nat}{aA:List (List Nat)}{u r:Int}{x:List Nat}{H:Hp}(v:be H a=some (aA.map .str)) (f:aA.length<=1000) (O:0<=r) (P:r<=10) (i:tT aA u r x) (h:R (.str x) H):c7 Φ 18 nG [aB a,aw u,aw r] H R X:=by
 cases i with
 | blank t e I z=>
  refine OA v f O P e λW a3 a5 Z x4 x9 J l U j=>?_;have p:=Cf e;exact OC (d7 l v) j (by exact yk f p) I l (λ_=>h) λy=>absurd z y
 | words t b c ws e I z eb ec cb ew wl=>
  refine OA v f O P e λW a3 a5 Z x4 x9 J l U j=>?_;have p:=Cf e;exact OC (d7 l v) j (by exact yk f p) I l (λy=>absurd y z) λ_ H2 F=>zfF (F _ _ j) (by exact yk f p) eb ec λH3 L=>zfG (L _ _<|F _ _ U) (L _ _<|F _ _ j) (by exact yk f p) cb ((l.tr F).tr L) ew wl h
noncomputable def eO (aA:List (List Nat)):Bool:=aA.any λs=>[[43],[45],[67,82],[68,66]].any (·==s)
noncomputable def iE (hs:Bool) (n:Nat):List Int:=if hs=true then [(n:Int),0- (n:Int)] else [(n:Int)]
def mY (tf:Int->List Nat) (bh:Int) (f:List (List Nat×V)) (w:Int):List (List Nat×V):=lr f (tf w)<|g5<|c9 w bh
def nV (hs:Bool) (tf:Int->List Nat) (bh:Int) (j:List Nat):List (List Nat×V):=j.foldl (λf k=>(iE hs k).foldl (mY tf bh) f) []
theorem GI {f:Type}(p:f->Bool) (g:f->V):∀ l:List f,(!(l.filterMap λs=>if p s=true then some (g s) else none).isEmpty)=l.any p
 | []=>rfl
 | s::r=>by
  rw [sR,lY];cases z:p s with
  | true=>rfl
  | false=>exact GI p g r
theorem zg (k:List Nat) (v:V):∀ f:List (List Nat×V),(lr f k v).length<=f.length+1
 | []=>dM _
 | (k',j)::r=>by
  unfold lr;split
  .rw [eQ,eQ];exact qz _
  .have:=zg k v r;rw [eQ,eQ];exact C0 ‹_›
theorem OH (tf:Int->List Nat) (bh:Int):∀ (j:List Int) (f:List (List Nat×V)),(j.foldl (mY tf bh) f).length<=f.length+j.length
 | [],f=>dM _
 | w::r,f=>by
  have l:=OH tf bh r<|mY tf bh f w;have p:=zg (tf w) (g5<|c9 w bh) f;rw [iH,eQ];exact ID l p
theorem GJ (hs:Bool) (tf:Int->List Nat) (bh:Int):∀ (j:List Nat) (f:List (List Nat×V)),(j.foldl (λf k=>(iE hs k).foldl (mY tf bh) f) f).length<=f.length+2*j.length
 | [],f=>dM _
 | k::r,f=>by
  have l:=GJ hs tf bh r<|(iE hs k).foldl (mY tf bh) f;have p:((iE hs k).foldl (mY tf bh) f).length<=f.length+2:=by
   unfold iE;split
   .have a1:=zg (tf (k:Int)) (g5<|c9 (k:Int) bh) f;have a2:=zg (tf<|0- (k:Int)) (g5<|c9 (0- (k:Int)) bh)<|lr f (tf (k:Int))<|g5<|c9 (k:Int) bh;exact U8 a1 a2
   .have a1:=zg (tf (k:Int)) (g5<|c9 (k:Int) bh) f;exact zZ ‹_›
  rw [iH,eQ];exact U9 l p
def GK (Φ:bG):Prop:=∀ (a:Nat) (aA:List (List Nat)) (j bh:Int) (tf:Int->List Nat) (H:Hp) (R:V->Hp->Prop),be H a=some (aA.map .str)->aA.length<=1000->0<=j->j<=2->-1000<bh->
 (∀ n:Nat,n<(10 ^ j.toNat:Int).toNat->∀ w∈iE (eO aA) n,tT aA w j<|tf w)->(∀ f,H f=none->R (aB f) (aN H f<|gd<|nV (eO aA) tf bh<|j7 (10 ^ j.toNat:Int).toNat))->Φ 535 [aB a,aw j,aw bh] H R bR
theorem zfI (Z:y6 Φ) (F:OG Φ){a:Nat}{aA:List (List Nat)}{l bh:Int}{tf:Int->List Nat}{H:Hp}(O:be H a=some (aA.map .str)) (hl:aA.length<=1000) (d0:0<=l) (d1:l<=2) (b0:-1000<bh)
  (ht:∀ n:Nat,n<(10 ^ l.toNat:Int).toNat->∀ w∈iE (eO aA) n,tT aA w l<|tf w) (h:∀ f,H f=none->R (aB f) (aN H f<|gd<|nV (eO aA) tf bh<|j7 (10 ^ l.toNat:Int).toNat)):c7 Φ 5 KH [aB a,aw l,aw bh] H R X:=by
 refine wF (m:=[some<|aB a,some<|aw l,some<|aw bh,none,none,none,none,none]) rfl<|aH ?_;dsimp only [bV,bB,bD,aY,fe,bf,c8,aP,dY,dI,aJ,g0];refine mB O (md (xs:=aA) V.str rfl (by exact qa ‹_› rfl) (λs=>if [[43],[45],[67,82],[68,66]].any (·==s)=true then some (.str s) else none) (λr=>r=H) rfl ?_ ?_)
 .rintro s r hm rfl;refine ⟨⟨O,trivial⟩,_,rfl,λK1 K0 k1 k0=>?_⟩;dsimp only [bB,bD,aJ,gs,g0,db,cX,br,bf,bX,aU,aP,aV,FJ];exact ⟨bC rfl,dR (b:=[[43],[45],[67,82],[68,66]].any (·==s)) (λz=>k1 _ _ (if_pos z) rfl) λz=>k0 _ (if_neg<|ne_true_of_eq_false z) rfl⟩
 rintro r rfl;have es:(!(aA.filterMap λs=>if [[43],[45],[67,82],[68,66]].any (·==s)=true then some (V.str s) else none).isEmpty)=eO aA:=GI (λs=>[[43],[45],[67,82],[68,66]].any (·==s)) V.str aA;refine ⟨⟨O,trivial⟩,λb hb=>iD (bC rfl) λe he=>vd (bE<|lN (bw ..) he) (bE<|bw ..) ?_⟩;rw [es];have I:=(b8 (aO (aA.filterMap λs=>if [[43],[45],[67,82],[68,66]].any (·==s)=true then some (V.str s) else none)) hb).tr (b8 (aO []) he);generalize aN (aN r b (aO (aA.filterMap λs=>if [[43],[45],[67,82],[68,66]].any (·==s)=true then some (V.str s) else none))) e (aO [])=H1 at I;generalize eO aA=hs at ht h;refine aH ?_;dsimp only [bV,bB,bD,aY,ib];refine ⟨HZ,λf P=>aH ?_⟩;have l2:=I.tr<|b8 (gd []) P;have hn:=ue I P;have p:=pn l.toNat (by exact Va d1);have y:(10:Int) ^ l.toNat<=100:=by
  have:l=0\/l=1\/l=2:=by exact Vb d0 d1
  rcases this with rfl | rfl | rfl <;> decide
 dsimp only [eA,gR,bT,aJ,gs,g0,aV,gN];refine ⟨rfl,d0,by exact qi ‹_› rfl,by exact lf _,by exact Vc y,?_⟩;generalize (10:Int) ^ l.toNat=N at ht h p y;refine lz (xs:=j7 N.toNat) (λi:Nat=>V.int (i:Int)) rfl (by rw [rF];exact Vd y) (λdone m r=>∃x5 u,m=[some<|aB a,some<|aw l,some<|aw bh,some<|aZ hs,some<|aB f,x5,u,none]/\H1.le r/\r f=some (gd<|nV hs tf bh done)) ⟨none,none,rfl,b8 _ P,bw ..⟩ ?_ ?_
 .rintro done n a2 m r hd ⟨x5,u,rfl,l3,ff⟩;have v:n<N.toNat:=xZ.mp (by rw [<-hd];simp);have tl:=GJ hs tf bh done [];have dl:done.length<=100:=by
   have:=congrArg pS hd;rw [cC,rF] at this;exact Ve y this
  refine ⟨trivial,_,rfl,λK k1 k2=>aH ?_⟩;have en:nV hs tf bh (done++[n])=(iE hs n).foldl (mY tf bh) (nV hs tf bh done):=qB;change (nV hs tf bh done).length<=0+_ at tl;generalize nV hs tf bh done=J at ff en tl;have wl:(iE hs n).length<=2:=by unfold iE;split <;> exact bC rfl
  have wb:∀ w∈iE hs n,w.natAbs<2 ^ 64:=by
   intro w hw;unfold iE at hw;split at hw
   .rcases cR.mp hw with rfl | hw
    .exact IS y v
    .rw [gp.mp hw];exact Vf y v
   .rw [gp.mp hw];exact IS y v
  have j:Fu Φ (iF 6) (aE (n7 (az 4) (cw 523<|aC (az 0)<|aC (az 6)<|aC (az 1) aI)<|cw 36<|aC (az 6)<|aC (az 2) aI) aK) [some<|aB a,some<|aw l,some<|aw bh,some<|aZ hs,some<|aB f,some<|aw n,u,none] (go Φ aK K bR) ((iE hs n).map V.int) [] r:=by
   refine lz (xs:=iE hs n) V.int rfl (by exact qa ‹_› rfl) (λd m U=>∃u,m=[some<|aB a,some<|aw l,some<|aw bh,some<|aZ hs,some<|aB f,some<|aw n,u,none]/\H1.le U/\U f=some (gd<|d.foldl (mY tf bh) J)) ⟨u,rfl,l3,ff⟩ ?_ ?_
   .rintro d w t m U L ⟨u,rfl,W,f4⟩;have hw:w∈iE hs n:=by rw [<-L];simp
    have a0:d.length<=2:=by rw [<-L,cC] at wl;exact Vg wl
    have pl:=OH tf bh d J;refine ⟨trivial,_,rfl,λK' a1 a3=>aH ?_⟩;dsimp only [bB,bD,gb,aY,cj,aU,aP,aJ,gs,g0];refine Z w bh _ _ b0 (wb w hw) (F a aA w l (tf w) _ _ (d7 (I.tr W) O) hl d0 (by exact qi ‹_› rfl) (ht n v w hw)<|Nk f4 (by exact Vh dl tl a0 pl)<|aM<|a1 _ _ ⟨_,rfl,mT _ W P,?_⟩);rw [bw,qB];rfl
   .rintro m U ⟨u,rfl,W,f4⟩;exact ⟨trivial,aM<|k1 _ _ ⟨_,_,rfl,W,by rw [en];exact f4⟩⟩
  unfold iE at j;dsimp only [bB,bD,eA,dI,dA,bX,hH,aU,aP,bT,aJ,gs,g0,aV,eZ,ee];refine dR (λz=>?_) λz=>?_
  .rw [if_pos z] at j;exact ⟨bC rfl,j⟩
  .rw [if_neg<|ne_true_of_eq_false z] at j;exact ⟨bC rfl,j⟩
 .rintro m r ⟨x5,u,rfl,l3,ff⟩;refine ⟨trivial,aH ?_⟩;dsimp only [cy,cx,aJ,gs,g0];exact kZ (BO (I.tr l3) ff)<|h f hn
theorem zfJ {j p:Type}(f:j->p) (l:List j) (a b:Option Int):eX (l.map f) a b=(eX l a b).map f:=by
 unfold eX;rw [cN,ziO,ziP]
theorem zfK {f:Type}(l:List f) (a b:Option Int):(eX l a b).length<=l.length:=by
 unfold eX;rw [zka,Sd];exact Vi
theorem zfL {x:Nat}{vs:List V}{H:Hp}{Q:V->Hp->Prop}(f:be H x=some vs) (j:vs.length<=1000) (q:iQ (eX vs none<|some 63) H Q):rN (aB x) none (some<|aw 63) none H Q:=by
 show cF (be H x) λvs=>vs.length<=16777216/\iQ (eX vs none<|some 63) H Q;exact fH f ⟨qa j rfl,q⟩
theorem zfM {x:Nat}{vs:List V}{H:Hp}{Q:V->Hp->Prop}(f:be H x=some vs) (q:iQ vs H Q):gr tX [aB x] H Q:=by
 show (match be H x with | some vs=>iQ vs H Q | none=>False);rw [f];exact q
theorem zfN {x:Nat}{l:List Int}{H:Hp}{Q:V->Hp->Prop}(f:be H x=some (l.map aw)) (q:Q (aw l.sum) H):gr sy [aB x] H Q:=by
 show (match be H x with | some vs=>(match j6 vs with | some j=>Q (aw j.sum) H | none=>False) | none=>False);rw [f];dsimp only;rw [ints_map];exact q
theorem zfO {l:Nat}{p:List Int}{H:Hp}{m1 m2 m3 m4 m5 m6 m7 m8 m9 r u v y z F I J L O P U:Option V}(h1:be H l=some (p.map aw)) (hl:p.length<=63)
  (h:∀ (W:Hp) (pa ca:Nat),H.le W->Cx (cY W pa) W pa ca 0 []->cJ Φ (dy 1 kg) [some<|aB l,some<|aB pa,m2,m3,m4,m5,m6,m7,m8,m9,r,u,v,y,z,F,I,J,L,O,P,U] W (cQ R) (cP X)):
  cJ Φ kg [some<|aB l,m1,m2,m3,m4,m5,m6,m7,m8,m9,r,u,v,y,z,F,I,J,L,O,P,U] H (cQ R) (cP X):=by
 refine aH ?_;dsimp only [bV,bB,bD,aY,c8,aU,aP,bT,aV,cK,fZ,f7,f8,aJ,g0];have ln:(eX p none<|some 63).length<=63:=fP (zfK ..) hl;have Z:∀ {H:Hp}{Q:V->Hp->Prop},be H l=some (p.map aw)->(∀ a,H a=none->Q (aB a) (aN H a<|aO<|(eX p none<|some 63).map V.int))->rN (aB l) none (some<|aw 63) none H Q:=λ{H Q} e q=>by
  refine zfL e (by rw [cN];exact qa ‹_› rfl) ?_;rw [zfJ];exact iD (by rw [cN];exact qa ‹_› rfl) q
 generalize eX p none (some 63)=f at ln Z;refine Z h1 λb hb=>zfM (bE<|bw ..) (iD (by rw [cN];exact qa ‹_› rfl) λca hc=>?_);have l1:=(b8 (aO<|f.map V.int) hb).tr (b8 (aO<|f.map V.int) hc);have fc:aN (aN H b<|aO<|f.map V.int) ca (aO<|f.map V.int) ca=some (aO<|f.map V.int):=bw ..;generalize aN (aN H b<|aO<|f.map V.int) ca (aO<|f.map V.int)=H1 at l1 fc;refine Z (d7 l1 h1) λd hd=>zfN (bE<|bw ..) ?_;have j:=lN (o':=aO<|f.map V.int) fc hd;have l2:=l1.tr<|b8 (aO<|f.map V.int) hd;generalize aN H1 d (aO<|f.map V.int)=H2 at l2 j;dsimp only [gw,gv];refine ⟨by decide,iD (bC rfl) λpa hp=>?_⟩;have cp:ca≠pa:=mS j hp;refine h _ pa ca (l2.tr<|b8 _ hp) ⟨⟨⟨0,0,_,bw ..,mL _,mL _,mL _⟩,⟨f,ln,(dQ cp).trans j⟩⟩, .rf _,HZ,(λq hq=>nomatch hq),⟨_,(tO cp).trans ((dQ cp).trans j)⟩⟩
theorem Cx.mono {M H j:Hp}{pa ca:Nat}{k:Int}{F:List (Nat×List (List Nat))}(x:Cx M H pa ca k F) (l:H.le j):Cx M j pa ca k F:=
 ⟨x.p.mono l,x.l.tr<|qZ l,x.n,λq r=>⟨(x.f q r).1,qZ l _ _ (x.f q r).2⟩,x.c⟩
set_option tactic.hygienic true in
theorem OI {H f:Hp}{pa:Nat}{o:MO}(h:H pa=some o):(pM H f).le (cY f pa):=λa b e=>by
 unfold pM at e;split at e
 .rename_i q;have:a≠pa:=by rintro rfl;rw [h] at q;cases q
  exact (tO this).trans e
 .cases e
def GL:Prop:=∀ aA,Drawn aA->∃o Dg,(∀ s∈aA,gk s)/\aA.flatten.length<=30/\qY aA o Dg
theorem zfP (a2:B9 Φ) (j:mD Φ) (a3:Gz Φ) (DO:GL){M H:Hp}{pa ca l:Nat}(x:Cx M H pa ca 0 []){m2 m3 m4 m5 m6 m7 m8 m9 v y z F I J L O U W Z a0:Option V}
  (h:∀ (aA:List (List Nat)) (o:Ord) (Dg:Nat) (H':Hp) (p f:Nat) (u sc:Int),Drawn aA->qY aA o Dg->Cx M H' pa ca 28 [(f,aA)]->hV (cY H' pa) p (b7 aA) Dg (jY o) (dT<|b7 aA)->-400000<=u->u<600000->0<=sc->sc<5->
   cJ Φ (dy 3 kg) [some (aB l),some (aB pa),some (aB f),some (aB p),some (aw u),some (aw sc),m6,m7,m8,m9,v,y,z,F,I,J,L,O,U,W,Z,a0] H' (cQ R) (cP X)):
  cJ Φ (dy 1 kg) [some<|aB l,some<|aB pa,m2,m3,m4,m5,m6,m7,m8,m9,v,y,z,F,I,J,L,O,U,W,Z,a0] H (cQ R) (cP X):=by
 refine aH ?_;dsimp only [bV,bB,bD,aY,cj,aU,aP,aV,aJ,gs,g0];refine a3 pa ca M _ _ x λaA f H1 dr x1=>aH<|mv (DO aA dr) λo Dg ok fl P=>?_;dsimp only [dZ,bX,aU,aP,cj,aV,aJ,gs,g0,bT,gN,bU];refine si (aX rfl) ?_;dsimp only;refine u6 (bE<|x1.rd<|jN _) (strs_map aA) (by exact qa ‹_› rfl)<|a2 aA o Dg _ _ ok fl P λH2 p l2 a1=>AT x1.p.h λi r s ep _=>?_;have a1:=a1.mono<|OI ep;have x2:=x1.mono l2;refine ⟨rfl,by decide,by decide,?_⟩;refine j pa ca _ _ _ _ x2.p (by decide) (by decide) (by decide) λu H3 u0 u1 p3 em=>?_;have x3:=x2.draw p3 em;dsimp only [eZ];refine j pa ca _ 5 _ _ x3.p (by decide) (by decide) (by decide) λsc H4 s0 s1 p4 a4=>⟨bC rfl,?_⟩;have x4:=x3.draw p4 a4;have u1:u<1000000:=u1;exact jz (m':=[some<|aB l,some<|aB pa,some<|aB f,some<|aB p,some<|aw<|u-400000,some<|aw sc,m6,m7,m8,m9,v,y,z,F,I,J,L,O,U,W,Z,a0]) (by decide) rfl (h aA o Dg H4 p f _ sc dr P x4 (by rw [a4,em];exact a1) (by exact Vj u0) (by exact Vk u1) s0 s1)
theorem Ci {d e:Int×Int}{H:Hp}{K:Bool->Prop}(f:d=e) (q:K false):gq eW (g5 d) (g5 e) H K:=by
 subst f;show K (!decide (d.1=d.1/\d.2=d.2));rw [decide_eq_true ⟨rfl,rfl⟩];exact q
def vr (aA:List (List Nat)) (u sc:Int):Int:=if u<0 then 0-pC aA u sc else pC aA u sc
theorem zfQ (W:Ce Φ){H:Hp}{f:Nat}{aA:List (List Nat)}{u sc:Int}{m0 m1 m3 m6 m7 m8 m9 j l p r v y F I J L O P:Option V}(Z:be H f=some (aA.map .str)) (hl:aA.length<=1000) (hu:u.natAbs<2 ^ 64) (s0:0<=sc) (s1:sc<=5) (hp:aA.count [80]<=5)
  (h:∀ U:Hp,H.le U->cJ Φ (dy 5 kg) [m0,m1,some<|aB f,m3,some<|aw u,some<|aw sc,some<|aw<|vr aA u sc,some<|aw<|kP aA,some<|aw<|lP aA,some<|aZ<|eO aA,j,l,p,r,v,y,F,I,J,L,O,P] U (cQ R) (cP X)):
  cJ Φ (dy 3 kg) [m0,m1,some<|aB f,m3,some<|aw u,some<|aw sc,m6,m7,m8,m9,j,l,p,r,v,y,F,I,J,L,O,P] H (cQ R) (cP X):=by
 refine aH ?_;dsimp only [dZ,cj,aU,aP,aJ,gs,g0];refine W f aA u sc _ _ Z hl hu s0 s1 hp (jz (m':=[m0,m1,some<|aB f,m3,some<|aw u,some<|aw sc,some<|aw<|vr aA u sc,some<|aw<|kP aA,some<|aw<|lP aA,m9,j,l,p,r,v,y,F,I,J,L,O,P]) (by decide) rfl<|aH ?_);dsimp only [bV,bB,bD,aY,fe,bf,c8,aP,dY,dI,aJ,gs,g0];refine mB Z (md (xs:=aA) V.str rfl (by exact qa ‹_› rfl) (λs=>if [[43],[45],[67,82],[68,66]].any (·==s)=true then some (.str s) else none) (λU=>U=H) rfl ?_ ?_)
 .rintro s U hm rfl;refine ⟨⟨Z,trivial⟩,_,rfl,λK1 K0 k1 k0=>?_⟩;dsimp only [bB,bD,aJ,gs,g0,db,cX,br,bf,bX,aU,aP,aV,FJ];exact ⟨bC rfl,dR (b:=[[43],[45],[67,82],[68,66]].any (·==s)) (λz=>k1 _ _ (if_pos z) rfl) λz=>k0 _ (if_neg<|ne_true_of_eq_false z) rfl⟩
 rintro U rfl;refine ⟨⟨Z,trivial⟩,λb hb=>iD (bC rfl) λe he=>vd (bE<|lN (bw ..) he) (bE<|bw ..) ?_⟩;rw [GI (λs=>[[43],[45],[67,82],[68,66]].any (·==s)) V.str aA];exact h _<|(b8 _ hb).tr (b8 _ he)
def GM (Φ:bG):Prop:=∀ (p:Nat) (f:List (List Nat×Nat)) (Dg:Nat) (sc:Int) (j:Nat) (d:Int×Int) (H:Hp) (R:V->Hp->Prop),hV H p f Dg sc j->oV f Dg sc j->d.2-sc<=18->sc-d.2<=1000->d.1.natAbs<2 ^ 64->
 R (dw<|iO f Dg sc j d false) H->Φ 445 [aB p,g5 d] H R bR
noncomputable def zh (hs:Bool) (f:Int):Int:=if hs=true then f else (f.natAbs:Int)
theorem zfR (v:y6 Φ) (J:GM Φ) (L:ve Φ){H:Hp}{p:Nat}{f:List (List Nat×Nat)}{Dg j:Nat}{r u sc l I:Int}{hs:Bool}(P:hV H p f Dg r j) (F:oV f Dg r j) (hu:u.natAbs<2 ^ 64) (s0:0<=sc)
  (d1:(c9 u sc).2-r<=18) (d2:r- (c9 u sc).2<=1000) (d3:(c9 u sc).1.natAbs<2 ^ 64) (ol:(iO f Dg r j (c9 u sc) false).length<=100000) (hh:l.natAbs<2 ^ 64) (b0:-1000<I)
  (e:mh f Dg r j (iO f Dg r j (c9 u sc) false) false=some (c9 (zh hs l) I)){m0 m1 m2 m8 y O U W Z a0 a1 a2 a3 a4 a5 a6:Option V}
  (h:∀ y,cJ Φ (dy 7 kg) [m0,m1,m2,some<|aB p,some<|aw u,some<|aw sc,some<|aw l,some<|aw I,m8,some<|aZ hs,y,O,U,W,Z,a0,a1,a2,a3,a4,a5,a6] H (cQ R)<|cP X):
  cJ Φ (dy 5 kg) [m0,m1,m2,some<|aB p,some<|aw u,some<|aw sc,some<|aw l,some<|aw I,m8,some<|aZ hs,y,O,U,W,Z,a0,a1,a2,a3,a4,a5,a6] H (cQ R) (cP X):=by
 refine aH ?_;dsimp only [bV,bB,bD,aY,cj,aU,aP,aJ,gs,g0];refine v u sc _ _ (by exact Vl s0) hu<|J p f Dg r j _ _ _ P F d1 d2 d3<|aH ?_;dsimp only [bL,br,bf,cj,aU,aP,aJ,gs,g0,dA,cK,gw,ee,aV];refine L p f Dg r j _ false _ _ P F ol ?_;rw [e];unfold zh;refine dR (λz=>?_) λz=>?_
 .rw [if_pos z];exact v l I _ _ b0 hh<|Ci rfl<|aM<|h _
 .rw [if_neg<|ne_true_of_eq_false z];exact v _ I _ _ b0 (by assumption)<|Ci rfl<|aM<|h _
theorem zfS (r:FX Φ) (u:ve Φ){H:Hp}{p f:Nat}{aA:List (List Nat)}{l:List (List Nat×Nat)}{Dg j:Nat}{ps:Int}(f1:be H f=some (aA.map .str)) (P:hV H p l Dg ps j) (F:oV l Dg ps j) (hz:j<=9999)
  (e:aA.any (·==[42])=false->mh l Dg ps j (bY j 32) true=some (c9 0 0)){m0 m1 m4 m5 m6 m7 m8 m9 v I J L O U W Z a0 a1 a2 a3:Option V}
  (h:cJ Φ (dy 8 kg) [m0,m1,some<|aB f,some<|aB p,m4,m5,m6,m7,m8,m9,v,I,J,L,O,U,W,Z,a0,a1,a2,a3] H (cQ R) (cP X)):
  cJ Φ (dy 7 kg) [m0,m1,some<|aB f,some<|aB p,m4,m5,m6,m7,m8,m9,v,I,J,L,O,U,W,Z,a0,a1,a2,a3] H (cQ R) (cP X):=by
 obtain ⟨dd,fs,y,e1,e2,e3,e4,e5,e6,e7⟩:=P.h;refine aH ?_;dsimp only [bL,dN,db,cX,br,bf,cj,aU,aP,aV,bT,bQ,aJ,gs,g0];refine tH f1<|dR (λz=>?_) λz=>aM h;have z:aA.any (·==[42])=false:=by
  cases q:aA.any (·==[42]) with
  | false=>rfl
  | true=>rw [q] at z;cases z
 refine bN e1 e2 e7 rfl ⟨by decide,by decide,by exact lf _,by exact nq.mpr (qa ‹_› rfl),?_⟩;rw [jm,yX];refine u p l Dg ps j _ true _ _ P F (by rw [kJ];exact qa ‹_› rfl) ?_;rw [e z];refine r 0 _ _ (by decide)<|Ci rfl<|aM h
noncomputable def vt:List (List Nat):=[[90,57],[42,57],[36,36,36],[90,90],[90,46,57],[57,47,57],[42,42],[46,90,90],[90,48,57],[43,43],[45,45],[45,57],[57,67,82],[36,57,45],[90,43],[57,68,66]]
def fh (t:List Nat):List (List Nat):=if [[67,82],[68,66]].any (·==eX t (some (-2)) none)=true then [eX t none<|some (-2),eX t (some (-2)) none] else t.map λc=>[c]
theorem zi {t:List Nat}{i j:Option V}{a b:Option Int}{H:Hp}{Q:V->Hp->Prop}(f:uG i=some a) (l:uG j=some b) (p:t.length<=100000) (q:Q (.str<|eX t a b) H):rN (.str t) i j none H Q:=fH f (fH l ⟨fP p (by decide),q⟩)
theorem zfT (O:mD Φ){H:Hp}{pa ca:Nat}{k:Int}(x:fF H pa ca k) (hk:k<=900){Z m2 m3 m4 m5 m6 m7 m8 m9 j a0 l p r u y z F I J L:Option V}
  (h:∀ t∈vt,∀ (f:Nat) (W:Hp),fF W pa ca (k+1)->(cY H pa).le (cY W pa)->f≠pa->W f=some (aO<|(fh t).map .str)->cJ Φ (dy 10 kg) [Z,some<|aB pa,some<|aB f,m3,m4,m5,m6,m7,m8,m9,j,some<|.str t,l,p,r,u,y,z,F,I,J,L] W (cQ R) (cP X)):
  cJ Φ (dy 8 kg) [Z,some<|aB pa,m2,m3,m4,m5,m6,m7,m8,m9,j,a0,l,p,r,u,y,z,F,I,J,L] H (cQ R) (cP X):=by
 refine aH ?_;dsimp only [bV,bB,bD,aY,cV,cj,aU,aP,aV,aJ,gs,g0,eL];refine O pa ca k 16 _ _ x (by exact qi ‹_› rfl) (by decide) (by decide) λn H2 n0 n1 p2 em=>?_;have P:∃t∈vt,eR (vt.map V.str) n=some (.str t):=by
  have hn:n.toNat<vt.length:=by show n.toNat<16;exact Vm n1
  refine ⟨vt[n.toNat],vW hn,?_⟩;unfold eR;rw [if_pos n0,pQ,lJ hn];rfl
 refine bZ P λt ht e=>?_;have tl:t.length<=3:=by
  have:∀ t∈vt,t.length<=3:=by decide
  exact this t ht
 refine ⟨by lia,?_⟩;refine fH e ?_;have h:=h t ht;refine aH ?_;dsimp only [bV,bB,bD,aY,dA,c8,aU,aP,fZ,f7,f8,gH,aV,aJ,gs,g0,cK,br,bf,bX];refine zi (a:=some (-2)) (b:=none) rfl rfl (by exact qa ‹_› rfl) ?_;dsimp only [nQ];have U:∀ (vs:List (List Nat)),vs.length<=10->fh t=vs->iQ (vs.map .str) H2 λv H=>go Φ (dy 10 kg) (cQ R) (cP X) .next [Z,some<|aB pa,some v,m3,m4,m5,m6,m7,m8,m9,j,some<|.str t,l,p,r,u,y,z,F,I,J,L] H:=by
  refine λvs vl e=>nT (by exact qa ‹_› rfl) λf hf=>h f _ (p2.mono<|b8 _ hf) (em▸qZ (b8 _ hf)) (p2.fresh hf).symm ?_;rw [e];exact bw ..
 refine ⟨bC rfl,dR (b:=[[67,82],[68,66]].any (·==eX t (some (-2)) none)) (λq=>?_) λq=>?_⟩
 .refine zi (a:=none) (b:=some (-2)) rfl rfl (by exact qa ‹_› rfl) (zi (a:=some (-2)) (b:=none) rfl rfl (by exact qa ‹_› rfl) ?_);exact U [eX t none<|some (-2),eX t (some (-2)) none] (bC rfl)<|if_pos q
 .have:=U (t.map λc=>[c]) (by rw [cN];exact qa ‹_› rfl)<|if_neg<|ne_true_of_eq_false q;rw [lm] at this;exact this
def oN (t:List Nat):List (List Nat×Nat):=b7<|fh t
def mi (t:List Nat):Nat:=dT<|oN t
def sr (t:List Nat) (sc:Int) (Dg:Nat) (w:Int):List Nat:=iO (oN t) Dg sc (mi t) (c9 w sc) false
def kQ (t:List Nat) (sc:Int) (Dg:Nat):List (List Nat×V):=nV (eO<|fh t) (sr t sc Dg) sc<|j7<|10 ^ Dg
structure zj (t:List Nat) (o:Ord) (Dg:Nat) (sc:Int):Prop where
 ok:∀ s∈fh t,gk s
 fl:(fh t).flatten=t
 tl:t.length<=3
 P:qY (fh t) o Dg
 eo:jY o=sc
 F:oV (oN t) Dg sc (mi t)
 dg:lP (fh t)=Dg
 d2:Dg<=2
 bp:kP (fh t)=sc
 ed:∀ n:Nat,n<10 ^ Dg->∀ w∈iE (eO<|fh t) n,tT (fh t) w Dg<|sr t sc Dg w
 kn:(kQ t sc Dg).length<64\/((kQ t sc Dg).length=100/\rL ((kQ t sc Dg).map (·.1))=true)
 ne:0<(kQ t sc Dg).length
 s0:0<mi t
 s1:mi t<=9
 ky:∀ q∈kQ t sc Dg,q.1.length=mi t/\∀ c∈q.1,c<256
 lk:∀ oct:List Nat,w6 (mh (oN t) Dg sc (mi t) oct false)=((kQ t sc Dg).lookup oct).getD cz
def OJ:Prop:=∀ t∈vt,∃o Dg sc,zj t o Dg sc
theorem OK (D:Nat):((10:Int) ^ ((D:Int).toNat)).toNat=10 ^ D:=by rw [jm,show (10:Int)=((10:Nat):Int) from rfl,<-H8,jm]
theorem zfU {x:Nat}{kvs:List (List Nat×V)}{H:Hp}{Q:V->Hp->Prop}(j:H x=some (gd kvs)) (l:kvs.length<64\/(kvs.length=100/\rL (kvs.map (·.1))=true)) (q:∀ f:List (List Nat),f.Perm (kvs.map (·.1))->∀ a,H a=none->Q (aB a) (aN H a<|aO<|f.map .str)):gr vK [aB x] H Q:=by
 show (match H x with | some (gd kvs)=>(kvs.length<64\/(kvs.length=100/\rL (kvs.map (·.1))=true))/\∀ f:List (List Nat),f.Perm (kvs.map (·.1))->∀ a,H a=none->Q (aB a) (aN H a<|aO<|f.map .str) | _=>False);rw [j];exact ⟨l,q⟩
theorem zfV {H f:Hp}{pa ca:Nat}{k:Int}(x:fF H pa ca k):(pM H f).le (cY f pa):=AT x.h λi r s e _=>OI e
theorem zfW (U:B9 Φ) (W:Ce Φ) (Z:GK Φ){t:List Nat}{o:Ord}{Dg:Nat}{sc:Int}(S:zj t o Dg sc){H:Hp}{pa ca f:Nat}{k:Int}(x:fF H pa ca k) (fp:f≠pa) (ff:H f=some (aO<|(fh t).map .str)){m0 m3 m4 m5 m6 m7 m8 m9 l a0 a1 L r u v y z I J:Option V}
  (h:∀ (j p ra:Nat) (ks:List (List Nat)) (H':Hp) (m6 m7 m8:Option V),fF H' pa ca k->ks.Perm ((kQ t sc Dg).map (·.1))->hV (cY H' pa) p (oN t) Dg sc (mi t)->cY H' pa j=some (gd<|kQ t sc Dg)->cY H' pa ra=some (aO<|ks.map .str)->
   cJ Φ (dy 13 kg) [m0,some (aB pa),some (aB f),m3,m4,m5,m6,m7,m8,m9,l,some (.str t),some (aB j),some (aB p),some (aB ra),r,u,v,y,z,I,J] H' (cQ R) (cP X)):
  cJ Φ (dy 10 kg) [m0,some<|aB pa,some<|aB f,m3,m4,m5,m6,m7,m8,m9,l,some<|.str t,a0,a1,L,r,u,v,y,z,I,J] H (cQ R) (cP X):=by
 have sl:(fh t).length<=3:=by
  have:=za _ S.ok;rw [S.fl] at this;exact fP this S.tl
 have hp:(fh t).count [80]<=5:=fP Ig (by exact qa ‹_› rfl);have h3:=U (fh t) o Dg;rw [S.fl,S.eo] at h3;have h6:=S.F.s1;refine aH ?_;dsimp only [dZ,cj,aU,aP,aV,aJ,gs,g0];refine W f (fh t) 0 0 _ _ (bE ff) (by exact qa ‹_› rfl) (by decide) (by decide) (by decide) hp (jz (m':=[m0,some<|aB pa,some<|aB f,m3,m4,m5,_,some<|aw<|kP<|fh t,some<|aw<|lP<|fh t,m9,l,some<|.str t,a0,a1,L,r,u,v,y,z,I,J]) (by decide) rfl<|aH ?_);rw [S.dg,S.bp];dsimp only [dZ,bX,aU,aP,cj,aJ,gs,g0];refine Z f (fh t) Dg sc (sr t sc Dg) _ _ (bE ff) (by exact qa ‹_› rfl) (by exact lf _) (by have:=S.d2;exact nq.mpr ‹_›) (by exact DC h6) (λn hn w hw=>S.ed n (by rw [OK] at hn;exact hn) w hw) λj hk=>?_;rw [OK];have l1:H.le (aN H j<|gd<|kQ t sc Dg):=b8 _ hk;have kp:j≠pa:=(x.fresh hk).symm;have fk:aN H j (gd<|kQ t sc Dg) j=some (gd<|kQ t sc Dg):=bw ..;change Φ _ _ (aN H j<|gd<|kQ t sc Dg) _ _;generalize aN H j (gd<|kQ t sc Dg)=H1 at l1 fk;have x1:=x.mono l1;refine h3 _ _ S.ok (by have:=S.tl;exact qa ‹_› rfl) S.P λH2 p l2 O=>⟨bC rfl,jz (m':=[m0,some<|aB pa,some<|aB f,m3,m4,m5,_,some<|aw sc,some<|aw (Dg:Int),m9,l,some<|.str t,some<|aB j,some<|aB p,L,r,u,v,y,z,I,J]) (by decide) rfl<|aH ?_⟩;have O:=O.mono<|zfV x1;dsimp only [bV,bB,bD,aY,cK,aU,aP,aJ,gs,g0];refine zfU (l2 _ _ fk) S.kn λks pm ra a2=>?_;have l3:=b8 (aO<|ks.map .str) a2;have rp:ra≠pa:=((x1.mono l2).fresh a2).symm;exact h j p ra ks _ _ _ _ ((x1.mono l2).mono l3) pm (O.mono<|qZ l3) ((tO kp).trans (l3 _ _<|l2 _ _ fk))<|(tO rp).trans (bw ..)
theorem zfX {f:Type}(l:List f) (n:Nat) (h:n<=l.length):eX l none (some (n:Int))=l.take n:=by
 unfold eX;have j:uE l.length (some (n:Int))=n:=by show (if (n:Int)<0 then ((n:Int)+l.length).toNat else min (n:Int).toNat l.length)=n;rw [if_neg (by exact uy),jm,zD h]
 have p:uD l.length none=0:=rfl;rw [j,p,ziK]
theorem zfY {f:Type}(l:List f) (n:Nat) (h:n<=l.length):eX l (some (n:Int)) none=l.drop n:=by
 unfold eX;have j:uD l.length (some (n:Int))=n:=by show (if (n:Int)<0 then ((n:Int)+l.length).toNat else min (n:Int).toNat l.length)=n;rw [if_neg (by exact uy),jm,zD h]
 have p:uE l.length none=l.length:=rfl;rw [j,p,QX]
noncomputable def xi:List Nat:=[32,48,49,50,51,52,53,54,55,56,57,43,45,42,36,44,46,47,67,82,68,66]
structure vx (n:Nat) (b:List Nat):Prop where
 l:b.length=n
 c:∀ c∈b,c<256
theorem vx.set {n s c:Nat}{b:List Nat}(x:vx n b) (hs:s<n) (f:c<256):vx n (b.take s++[c]++b.drop (s+1)):=by
 refine ⟨?_,λd hd=>?_⟩
 .have:=x.l;rw [cC,cC,Sd,zka,eQ,jQ];exact Vn hs this
 .rcases kG.mp hd with hd | hd
  .rcases kG.mp hd with hd | hd
   .exact x.c d<|zj2 hd
   .rw [gp.mp hd];exact f
  .exact x.c d<|zj3 hd
theorem zfZ (f:mD Φ){n:Nat}{F:List (List Nat)}{H:Hp}{pa ca ra:Nat}{k:Int}(x:fF H pa ca k) (hk:k<=900) (fr:cY H pa ra=some (aO<|F.map .str)) (k0:0<F.length) (k1:F.length<=1000) (kb:∀ s∈F,vx n s) (n0:0<n) (u:n<=9){m0 m2 m3 m4 m5 m6 m7 m8 m9 I J L O a6 P U W Z a0 a1:Option V}
  (h:∀ (b:List Nat) (z:Hp) (P U:Option V),fF z pa ca (k+7)->cY z pa=cY H pa->b.length<=10->(∀ c∈b,c<256)->cJ Φ (dy 16 kg) [m0,some<|aB pa,m2,m3,m4,m5,m6,m7,m8,m9,I,J,L,O,some<|aB ra,some<|.str b,P,U,W,Z,a0,a1] z (cQ R) (cP X)):
  cJ Φ (dy 13 kg) [m0,some<|aB pa,m2,m3,m4,m5,m6,m7,m8,m9,I,J,L,O,some<|aB ra,a6,P,U,W,Z,a0,a1] H (cQ R) (cP X):=by
 refine aH ?_;dsimp only [bV,bB,bD,aY,cV,cj,aU,aP,cK,aJ,gs,g0];refine u7 (bE (mE fr).2) (by rw [cN];exact qa ‹_› rfl) ?_;rw [cN];refine f pa ca k _ _ _ x (by exact qi ‹_› rfl) (by exact rB.mpr ‹_›) (by exact IT k1) λi H2 i0 i1 p2 em=>?_;have il:i.toNat<F.length:=by exact Vo i0 i1
 refine kt (v:= .str F[i.toNat]) (bE (mE<|em▸fr).2) ?_ (by exact Vp k1 i0 il)<|aH ?_
 .unfold eR;rw [if_pos i0,pQ,lJ il];rfl
 have y:=kb _<|vW il;generalize F[i.toNat]=b at y;dsimp only [eA,gR,cj,aU,aP,aV,aJ,gs,g0];refine f pa ca _ 3 _ _ p2 (by exact qj ‹_› rfl) (by decide) (by decide) λj H3 j0 j1 p3 a2=>⟨j0,by exact Vq j1,?_⟩;have a2:=a2.trans em;refine lz (xs:=j7 j.toNat) (λi:Nat=>V.int (i:Int)) rfl (by rw [rF];exact Vr j1) (λdone m z=>∃b a3 a4,m=[m0,some<|aB pa,m2,m3,m4,m5,m6,m7,m8,m9,I,J,L,O,some<|aB ra,some<|.str b,a3,a4,W,Z,a0,a1]/\vx n b/\fF z pa ca (k+1+1+2*done.length)/\cY z pa=cY H pa) ⟨_,_,_,rfl,y,p3.up (by show _<=k+1+1+2*((0:Nat):Int);exact Vs),a2⟩ ?_ ?_
 .rintro done q a7 m z hd ⟨b,a3,a4,rfl,y,p,e⟩;have dl:done.length+1<=2:=by
   have:=congrArg pS hd;rw [cC,eQ,rF] at this;exact Vt j1 this
  have r:=y.l;refine ⟨trivial,_,rfl,λK k1 k2=>aH ?_⟩;dsimp only [bB,bD,bV,aY,cj,aU,aP,cK,aJ,gs,g0,fK];refine ⟨by exact Vu u r,f pa ca _ _ _ _ p (by exact Vv hk dl) (by exact Vw n0 r) (by exact Vx u r) λs H4 s0 s1 p4 e4=>aH ?_⟩;obtain ⟨s,rfl⟩:=xQ s0;have sn:s<n:=by rw [r] at s1;exact rB.mp s1
  dsimp only [bV,bB,bD,aY,bT,fZ,f7,f8,aV,aJ,gs,g0,cZ,cV,cj,aU,aP,eL];refine zi (a:=none) (b:=some (s:Int)) rfl rfl (by exact Jw u r) (f pa ca _ 22 _ _ p4 (by exact Yj hk dl) (by decide) (by decide) λi H5 i0 i1 p5 e5=>?_);have il:i.toNat<xi.length:=by show i.toNat<22;exact Yk i1
  have hc:xi[i.toNat] <256:=by
   have:∀ c∈xi,c<256:=by decide
   exact this _<|vW il
  refine BV (s:=xi) (c:=xi[i.toNat]) ?_ (by exact Yl i0 i1) ?_
  .unfold eR;rw [if_pos i0,lJ il]
  generalize xi[i.toNat]=c at hc;rw [zfX b s<|by exact Ym s1];have tl:(b.take s).length<=9:=by rw [Sd];exact Yn u sn
  dsimp only [g6];refine ⟨by rw [yd];exact qc ‹_› rfl,?_⟩;refine zi (a:=some<|(s:Int)+1) (b:=none) rfl rfl (by exact Jw u r) ?_;rw [show (s:Int)+1=((s+1:Nat):Int) from rfl,zfY b (s+1)<|by exact rB.mp ‹_›];have b2:=y.set sn hc;have a5:=b2.l;rw [cC] at a5;dsimp only [g6];refine ⟨by exact Yo u a5,aM<|k1 _ _ ⟨_,_,_,rfl,b2,p5.up ?_,by rw [e5,e4,e]⟩⟩;rw [cC,yd,Hn];exact Yp
 .rintro m z ⟨b,a3,a4,rfl,y,p,e⟩;rw [rF] at p;have hj:j.toNat<=2:=by exact Yq j1
  have up:k+1+1+2*(j.toNat:Int)+1<=k+7:=by exact Yr hj
  have r:=y.l;refine ⟨trivial,aH ?_⟩;dsimp only [bL,br,bf,aV,cj,aU,aP,aJ,gs,g0];refine f pa ca _ 8 _ _ p (by exact Ys hk up) (by decide) (by decide) λi H4 i0 i1 p4 e4=>?_;dsimp only [e8];refine c0 (λ_=>aH ?_) λ_=>aM (h b _ _ _ (p4.up up) (e4.trans e) (by exact IU u r) y.c);dsimp only [bV,bB,bD,aY,bT,aV,aJ,gs,g0,g6];refine ⟨by rw [yd];exact Yt u r,aM<|h _ _ _ _ (p4.up up) (e4.trans e) (by rw [cC,yd];exact Yu u r) λc hc=>?_⟩;rcases kG.mp hc with hc | hc
  .exact y.c c hc
  .rw [gp.mp hc];decide
theorem OL (x:Option (Int×Int)){H:Hp}{K:Bool->Prop}(q:K false):gq eW (w6 x) (w6 x) H K:=by
 cases x with
 | none=>exact q
 | some d=>exact Ci rfl q
theorem zf0 {x:Nat}{kvs:List (List Nat×V)}{s:List Nat}{v:V}{H:Hp}{Q:V->Hp->Prop}(f:H x=some (gd kvs)) (j:kvs.lookup s=some v) (q:Q v H):td (aB x) (.str s) H Q:=fH (congrArg qG f)<|fH j q
theorem zf1 {x:Nat}{vs:List V}{i k:Int}{H:Hp}{Q:V->Hp->Prop}(j:be H x=some vs) (l:vs.length<=16777216) (k0:0<k) (q:∀ f:List V,(∀ w∈f,w∈vs)->f.length<=vs.length->∀ a,H a=none->Q (aB a) (aN H a<|aO f)):rN (aB x) (some<|aw i) none (some<|aw k) H Q:=⟨rfl,fH (a:=x) rfl<|fH j ⟨l,k0,q⟩⟩
theorem OM:∀ (p:List V) (f:List (List Nat)),(∀ w∈p,w∈f.map V.str)->∃l:List (List Nat),p=l.map V.str/\∀ s∈l,s∈f
 | [],f,_=>⟨[],rfl,λ_ h=>nomatch h⟩
 | w::r,f,h=>bZ (OM r f λw u=>h w<|dz _ u) λl e v=>bZ (kF.mp<|h w dh) λs hs es=>⟨s::l,by rw [eF,es,e],λy j=>(cR.mp j).elim (λq=>q▸hs) (v y)⟩
theorem ON (l:ve Φ){p:Nat}{f:List (List Nat×Nat)}{Dg j:Nat}{sc:Int}{b:List Nat}{H:Hp}{m:Loc}{Q:V->Hp->Prop}(P:hV H p f Dg sc j) (F:oV f Dg sc j) (I:b.length<=10) (r:∀ c∈b,c<256)
  (z:∀ c:Nat,(m.set 19<|some<|.str [c])[19]?=some (some<|.str [c])) (q:∀ u,H.le u->Q (w6<|mh f Dg sc j b false) u):
  BL Φ (cA oS<|aC (az 19) aI) (iF 19) cM m (λv H=>gr n5 [v] H λv H=>Φ 530 [aB p,v,aZ false] H Q bR) (b.map λc=> .str [c]) [] H:=by
 refine FT (m':=[]) z (by exact qa ‹_› rfl) r λa y=>?_;refine FR (bE<|bw ..) (FV r) (by rw [cN];exact qa ‹_› rfl) ?_;rw [FU];exact l p f Dg sc j b false _ _ (P.mono<|b8 _ y) F (by exact qa ‹_› rfl)<|q _<|b8 _ y
theorem zf2 (f:ve Φ){t:List Nat}{o:Ord}{Dg:Nat}{sc:Int}(S:zj t o Dg sc){b:List Nat}{H:Hp}{U p:Nat}(bl:b.length<=10) (bc:∀ c∈b,c<256) (P:hV H p (oN t) Dg sc (mi t)) (W:H U=some (gd<|kQ t sc Dg)){Z m1 m2 m3 m4 m5 m6 m7 m8 m9 j r u v y z I J L:Option V}
  (h:∀ O,H.le O->cJ Φ (dy 17 kg) [Z,m1,m2,m3,m4,m5,m6,m7,m8,m9,j,r,some<|aB U,some<|aB p,u,some<|.str b,v,y,z,I,J,L] O (cQ R) (cP X)):
  cJ Φ (dy 16 kg) [Z,m1,m2,m3,m4,m5,m6,m7,m8,m9,j,r,some<|aB U,some<|aB p,u,some<|.str b,v,y,z,I,J,L] H (cQ R) (cP X):=by
 refine aH ?_;dsimp only [bL,br,bf,bU,aU,aP,aJ,gs,g0,cj,aV,cK,dY,dI,gh];refine ON f P S.F bl bc (λc=>rfl) λO l=>Nc (l _ _ W) ?_;refine zd8 (l _ _ W) ?_;rw [<-S.lk];exact OL _<|aM<|h O l
theorem zf3 (u:mD Φ) (y:ve Φ){t:List Nat}{o:Ord}{Dg:Nat}{sc:Int}(S:zj t o Dg sc){j:List (List Nat)}{H:Hp}{pa ca kd p ra:Nat}{k:Int}(x:fF H pa ca k) (hk:k<=900) (P:hV (cY H pa) p (oN t) Dg sc (mi t)) (fk:cY H pa kd=some (gd<|kQ t sc Dg)) (z:cY H pa ra=some (aO<|j.map .str)) (k0:0<j.length) (k1:j.length<=1000) (kb:∀ s∈j,vx (mi t) s/\∃v,(kQ t sc Dg).lookup s=some v) (hR:∀ I,R (aZ true) I){m0 m2 m3 m4 m5 m6 m7 m8 m9 J L O U W a2 Z a0 a1:Option V}:
  cJ Φ (dy 17 kg) [m0,some<|aB pa,m2,m3,m4,m5,m6,m7,m8,m9,J,L,some<|aB kd,some<|aB p,some<|aB ra,O,U,W,a2,Z,a0,a1] H (cQ R) (cP X):=by
 have kl:(j.map V.str).length<=16777216:=by rw [cN];exact qa ‹_› rfl
 refine aH ?_;dsimp only [eA,dI,fZ,f8,bT,aV,cK,aU,aP,aJ,gs,g0,f7,cj];refine u7 (bE (mE z).2) kl ?_;rw [cN];refine u pa ca k _ _ _ x (by exact qi ‹_› rfl) (by exact rB.mpr ‹_›) (by exact IT k1) λi H2 i0 i1 p2 em=>?_;have z:=(mE<|em▸z).2;have fk:=(mE<|em▸fk).2;have P:hV H2 p (oN t) Dg sc (mi t):=by
  rw [<-em] at P;exact P.mono<|Gq H2 pa
 refine u7 (bE z) kl ?_;rw [cN];dsimp only [gF];refine ⟨by decide,by decide,?_⟩;dsimp only [cZ];refine zf1 (bE z) kl (by exact Vy) λws hw wl a ha=>?_;rw [cN] at wl;refine bZ (OM ws j hw) λl a3 hl=>?_;subst a3;have l1:=b8 (aO<|l.map V.str) ha;have ll:l.length<=16777216:=by rw [cN] at wl;exact Vz k1 wl
 refine mB (bE<|bw ..) ?_;have fa:aN H2 a (aO<|l.map V.str) a=some (aO<|l.map V.str):=bw ..;refine lz (xs:=l) V.str rfl ll (λdone m I=>∃f,m=[m0,some<|aB pa,m2,m3,m4,m5,m6,m7,m8,m9,J,L,some<|aB kd,some<|aB p,some<|aB ra,O,U,W,f,Z,a0,a1]/\(aN H2 a<|aO<|l.map V.str).le I) ⟨_,rfl, .rf _⟩ ?_ ?_
 .rintro done s a4 m I hd ⟨f,rfl,r⟩;obtain ⟨bt,v,hv⟩:=kb s (hl s<|by rw [<-hd];simp);have s9:=S.s1;have bl:=bt.l;refine ⟨⟨bE<|r _ _ fa,trivial⟩,_,rfl,λK k1 k2=>aH ?_⟩;dsimp only [bB,bD,bL,br,bf,cV,aJ,gs,g0,cj,aU,aP,aV,cK,dY,dI,gh];refine ON y (P.mono<|l1.tr r) S.F (by exact IU s9 bl) bt.c (λc=>rfl) λH4 l3=>zf0 (((l1.tr r).tr l3) _ _ fk) hv ?_;have e:=S.lk s;rw [hv] at e;cases e;exact OL _<|aM<|aM<|k1 _ _ ⟨_,rfl,r.tr l3⟩
 .rintro m I ⟨f,rfl,r⟩;refine ⟨⟨bE<|r _ _ fa,trivial⟩,aH ?_⟩;dsimp only [cy,cx,aV];exact eG<|hR _
structure zf4 (aA:List (List Nat)) (o:Ord) (Dg:Nat):Prop where
 F:oV (b7 aA) Dg (jY o) (dT<|b7 aA)
 sl:aA.length<=1000
 p5:aA.count [80]<=5
 b0:-1000<kP aA
 sz:dT (b7 aA)<=9999
 hh:∀ u sc,(vr aA u sc).natAbs<2 ^ 64
 ol:∀ d,(iO (b7 aA) Dg (jY o) (dT<|b7 aA) d false).length<=100000
 e:∀ u sc,0<=sc->mh (b7 aA) Dg (jY o) (dT<|b7 aA) (iO (b7 aA) Dg (jY o) (dT<|b7 aA) (c9 u sc) false) false=some (c9 (zh (eO aA)<|vr aA u sc)<|kP aA)
 bl:mh (b7 aA) Dg (jY o) (dT<|b7 aA) (bY (dT<|b7 aA) 32) true=some (c9 0 0)
def OO:Prop:=∀ aA o Dg,Drawn aA->qY aA o Dg->zf4 aA o Dg
theorem zf5 {u sc f:Int}(j:-400000<=u) (l:u<600000) (s0:0<=sc) (p:sc<5) (r:-6<=f) (v:f<=18):(c9 u sc).2-f<=18/\f- (c9 u sc).2<=1000/\(c9 u sc).1.natAbs<2 ^ 64:=by
 unfold c9;rw [if_neg<|by exact lc.mpr ‹_›];obtain ⟨a,b⟩:=FW sc.toNat u;refine ⟨by dsimp only;exact VA p r b,by dsimp only;exact IH v,by dsimp only;exact VB j l a⟩
theorem OP {f j:Type} [BEq f] [LawfulBEq f] {k:f}{l:List (f×j)}(h:k∈l.map (·.1)):∃v,l.lookup k=some v:=by
 induction l with
 | nil=>exact nomatch h
 | cons p r u=>
  rw [j9];cases q:k==p.1 with
  | true=>exact ⟨p.2,rfl⟩
  | false=>exact u ((cR.mp h).resolve_left λe=>absurd (beq_iff_eq.mpr e)<|by rw [q];exact je)
theorem zf6 (a0:y6 Φ) (J:FX Φ) (z:B9 Φ) (L:GM Φ) (j:mD Φ) (O:Gz Φ) (I:Ce Φ) (r:ve Φ) (U:GK Φ) (DO:GL) (DA:OO) (SA:OJ){l:Nat}{is:List Int}{H:Hp}(h1:be H l=some (is.map aw)) (hl:is.length<=63) (hR:∀ H',R (aZ true) H'):c7 Φ 19 kg [aB l] H R X:=by
 refine wF (m:=[some<|aB l,none,none,none,none,none,none,none,none,none,none,none,none,none,none,none,none,none,none,none,none,none]) rfl<|zfO h1 hl λH1 pa ca l1 x1=>zfP z j O DO x1 λaA o Dg H2 p f u sc dr P x2 y u0 u1 s0 s1=>?_;have D:=DA aA o Dg dr P;refine zfQ I (bE<|x2.rd<|jN _) D.sl (by exact IV u0 u1) s0 (by exact qv ‹_›) D.p5 λH3 l3=>iw (zf5 u0 u1 s0 s1 D.F.s1 D.F.s2) λd1 d2 d3=>?_;have y:=(y.mono<|Gq H2 pa).mono l3;refine zfR a0 L r y D.F (by exact IV u0 u1) s0 d1 d2 d3 (D.ol _) (D.hh u sc) D.b0 (D.e u sc s0) λa2=>zfS J r (bE<|l3 _ _<|x2.rd<|jN _) y D.F D.sz (λ_=>D.bl) ?_;refine zfT j (x2.p.mono l3) (by decide) λt ht f2 H4 p4 _ fp ff=>D5 (SA t ht) λo2 W Z S=>zfW z I U S p4 fp ff λkd p2 ra ks H5 m6 m7 m8 p5 pm P5 fk fr=>?_;have kl:ks.length=(kQ t Z W).length:=by rw [pm.length_eq,cN]
 have kn:=S.kn;have ne:=S.ne;have kb:∀ s∈ks,vx (mi t) s/\∃v,(kQ t Z W).lookup s=some v:=by
  intro s hs;have hs:=pm.mem_iff.mp hs;refine ⟨?_,OP hs⟩;refine bZ (kF.mp hs) λq hq a1=>?_;subst a1;exact ⟨(S.ky q hq).1,(S.ky q hq).2⟩
 refine zfZ j p5 (by decide) fr (by exact IW kl ne) (by lia) (λs hs=>(kb s hs).1) S.s0 S.s1 λb H6 a3 a4 p6 em bl bc=>?_;rw [<-em] at P5 fk fr;exact zf2 r S bl bc (P5.mono<|Gq H6 pa) (mE fk).2 λH7 l7=>zf3 j r S (p6.mono l7) (by decide) (P5.mono<|qZ l7) (qZ l7 _ _ fk) (qZ l7 _ _ fr) (by exact IW kl ne) (by lia) kb hR
end
section
variable {Φ:bG}{H:Hp}{R X:V->Hp->Prop}
theorem zf7 (a b:Bool) (H:Hp) (K:Bool->Prop):gq eW (aZ a) (aZ b) H K=K (!decide (a=b)):=rfl
theorem zf8 {a b:Int}(l:0<b) (j:b<2 ^ 64) (h:R (aw<|oF a b) H):c7 Φ 2 Kh [aw a,aw b] H R X:=by
 have f:(0:Int)<b.natAbs/\(b.natAbs:Int)<2 ^ 64:=by exact TC l j
 refine wF (m:=[some<|aw a,some<|aw b,none,none,none]) rfl<|aH ?_;dsimp only [aV,eL,aJ,bT,gH,fT,fe,dA,bX,c8,ib,cV,fZ,bQ,cj,cK,bU,dY,gP,aP,aU,f7,f8,gQ,dN,eT,br,iN,ee,cX,db,eU,eV,bV,dZ,ev,gb,cL,bL,eA,cy,ig,dI,gR,g9,gy,bf,gK,fQ,fR,cZ,eZ,gu,gF,gv,gN,g6,gG,gw,fK,gx,hW,g7,iL,iA,hY,fv,eN,fy,gO,eJ,iM,e8,g8,dB,fL,iB,iC,g0,gs,bD,bB,aY,cx,gE,gM,iJ,iK,gh,hH,zf7];refine oI (λq=>aH ?_) λq=>aM<|aH ?_
 .dsimp only [aV,eL,aJ,bT,gH,fT,fe,dA,bX,c8,ib,cV,fZ,bQ,cj,cK,bU,dY,gP,aP,aU,f7,f8,gQ,dN,eT,br,iN,ee,cX,db,eU,eV,bV,dZ,ev,gb,cL,bL,eA,cy,ig,dI,gR,g9,gy,bf,gK,fQ,fR,cZ,eZ,gu,gF,gv,gN,g6,gG,gw,fK,gx,hW,g7,iL,iA,hY,fv,eN,fy,gO,eJ,iM,e8,g8,dB,fL,iB,iC,g0,gs,bD,bB,aY,cx,gE,gM,iJ,iK,gh,hH];rw [show oF a b= -((a.natAbs:Int) / (b.natAbs:Int)) from if_pos (bne_iff_ne.mpr q)] at h;exact ⟨f.1,f.2,eG h⟩
 .dsimp only [aV,eL,aJ,bT,gH,fT,fe,dA,bX,c8,ib,cV,fZ,bQ,cj,cK,bU,dY,gP,aP,aU,f7,f8,gQ,dN,eT,br,iN,ee,cX,db,eU,eV,bV,dZ,ev,gb,cL,bL,eA,cy,ig,dI,gR,g9,gy,bf,gK,fQ,fR,cZ,eZ,gu,gF,gv,gN,g6,gG,gw,fK,gx,hW,g7,iL,iA,hY,fv,eN,fy,gO,eJ,iM,e8,g8,dB,fL,iB,iC,g0,gs,bD,bB,aY,cx,gE,gM,iJ,iK,gh,hH];rw [show oF a b=(a.natAbs:Int) / (b.natAbs:Int) from if_neg λz=>bne_iff_ne.mp z q] at h;exact ⟨f.1,f.2,eG h⟩
theorem zf9 (m:Loc) (Q:Fl->Loc->Hp->Prop) (t:Bx) (b:bW):wpS Φ (tY t b) m H Q X=∃I:Nat->Loc->Hp->Prop,(∃n,I n m H)/\
   (∀ n m H,I n m H->iR Φ t m H λr H=>match r with
    | true=>cJ Φ b m H (λl m' f=>match l with
     | .next=>∃j,j<n/\I j m' f
     | gW v=>Q (gW v) m' f) bR
    | false=>Q .next m H):=rfl
theorem zga {s:Nat}{u:Int}(h:u % 10=0):iU (s+1) u=iU s (u / 10):=by rw [iU,if_pos h]
theorem zgb {s:Nat}{u:Int}(h:¬u % 10=0):iU (s+1) u=(u,s+1):=by rw [iU,if_neg h]
theorem OQ {u s:Int}(hs:-1000<s) (y:u.natAbs<2 ^ 64) (h:R (g5<|c9 u s) H):c7 Φ 2 A0 [aw u,aw s] H R X:=by
 refine wF (m:=[some<|aw u,some<|aw s,none,none,none]) rfl<|aH ?_;dsimp only [aV,eL,aJ,bT,gH,fT,fe,dA,bX,c8,ib,cV,fZ,bQ,cj,cK,bU,dY,gP,aP,aU,f7,f8,gQ,dN,eT,br,iN,ee,cX,db,eU,eV,bV,dZ,ev,gb,cL,bL,eA,cy,ig,dI,gR,g9,gy,bf,gK,fQ,fR,cZ,eZ,gu,gF,gv,gN,g6,gG,gw,fK,gx,hW,g7,iL,iA,hY,fv,eN,fy,gO,eJ,iM,e8,g8,dB,fL,iB,iC,g0,gs,bD,bB,aY,cx,gE,gM,iJ,iK,gh,hH];refine c0 (λq=>aH ?_) λq=>aM<|aH ?_
 .rw [show c9 u s=_ from if_pos q] at h;dsimp only [aV,eL,aJ,bT,gH,fT,fe,dA,bX,c8,ib,cV,fZ,bQ,cj,cK,bU,dY,gP,aP,aU,f7,f8,gQ,dN,eT,br,iN,ee,cX,db,eU,eV,bV,dZ,ev,gb,cL,bL,eA,cy,ig,dI,gR,g9,gy,bf,gK,fQ,fR,cZ,eZ,gu,gF,gv,gN,g6,gG,gw,fK,gx,hW,g7,iL,iA,hY,fv,eN,fy,gO,eJ,iM,e8,g8,dB,fL,iB,iC,g0,gs,bD,bB,aY,cx,gE,gM,iJ,iK,gh,hH];exact ⟨rfl,by exact TD q,by exact TE hs,ba y,bC rfl,eG h⟩
 .have r:c9 u s=((iU s.toNat u).1,((iU s.toNat u).2:Int)):=if_neg q;rw [zf9];refine ⟨λn m l=>l=H/\∃f,m=[some<|aw f,some<|aw (n:Int),none,none,none]/\iU n f=iU s.toNat u,⟨s.toNat,rfl,u,by rw [ziv<|lc.mp q],rfl⟩,?_⟩;rintro n m l ⟨rfl,f,rfl,e⟩;dsimp only [aV,eL,aJ,bT,gH,fT,fe,dA,bX,c8,ib,cV,fZ,bQ,cj,cK,bU,dY,gP,aP,aU,f7,f8,gQ,dN,eT,br,iN,ee,cX,db,eU,eV,bV,dZ,ev,gb,cL,bL,eA,cy,ig,dI,gR,g9,gy,bf,gK,fQ,fR,cZ,eZ,gu,gF,gv,gN,g6,gG,gw,fK,gx,hW,g7,iL,iA,hY,fv,eN,fy,gO,eJ,iM,e8,g8,dB,fL,iB,iC,g0,gs,bD,bB,aY,cx,gE,gM,iJ,iK,gh,hH];have j:∀ {m:Loc},m=[some<|aw f,some<|aw (n:Int),none,none,none]->iU n f=(f,n)->go Φ (dy 2 A0) (cQ R) (cP X) .next m l:=by
   rintro m rfl z;rw [<-e,z] at r;rw [r] at h;refine aH ?_;dsimp only [aV,eL,aJ,bT,gH,fT,fe,dA,bX,c8,ib,cV,fZ,bQ,cj,cK,bU,dY,gP,aP,aU,f7,f8,gQ,dN,eT,br,iN,ee,cX,db,eU,eV,bV,dZ,ev,gb,cL,bL,eA,cy,ig,dI,gR,g9,gy,bf,gK,fQ,fR,cZ,eZ,gu,gF,gv,gN,g6,gG,gw,fK,gx,hW,g7,iL,iA,hY,fv,eN,fy,gO,eJ,iM,e8,g8,dB,fL,iB,iC,g0,gs,bD,bB,aY,cx,gE,gM,iJ,iK,gh,hH];exact ⟨bC rfl,eG h⟩
  cases n with
  | zero=>exact j rfl rfl
  | succ n=>
   refine c0 (λv=>⟨by decide,?_⟩) λv=>absurd v (by exact TF);refine c0 (λp=>aH ?_) λp=>j rfl<|zgb p;dsimp only [aV,eL,aJ,bT,gH,fT,fe,dA,bX,c8,ib,cV,fZ,bQ,cj,cK,bU,dY,gP,aP,aU,f7,f8,gQ,dN,eT,br,iN,ee,cX,db,eU,eV,bV,dZ,ev,gb,cL,bL,eA,cy,ig,dI,gR,g9,gy,bf,gK,fQ,fR,cZ,eZ,gu,gF,gv,gN,g6,gG,gw,fK,gx,hW,g7,iL,iA,hY,fv,eN,fy,gO,eJ,iM,e8,g8,dB,fL,iB,iC,g0,gs,bD,bB,aY,cx,gE,gM,iJ,iK,gh,hH];refine ⟨by decide,by decide,aH ?_⟩;dsimp only [aV,eL,aJ,bT,gH,fT,fe,dA,bX,c8,ib,cV,fZ,bQ,cj,cK,bU,dY,gP,aP,aU,f7,f8,gQ,dN,eT,br,iN,ee,cX,db,eU,eV,bV,dZ,ev,gb,cL,bL,eA,cy,ig,dI,gR,g9,gy,bf,gK,fQ,fR,cZ,eZ,gu,gF,gv,gN,g6,gG,gw,fK,gx,hW,g7,iL,iA,hY,fv,eN,fy,gO,eJ,iM,e8,g8,dB,fL,iB,iC,g0,gs,bD,bB,aY,cx,gE,gM,iJ,iK,gh,hH];refine aM ⟨n,xU n,rfl,f / 10,?_,(zga p).symm.trans e⟩;rw [show ((n+1:Nat):Int)-1=(n:Int) by exact TG]
theorem zgc {r:List Nat}(h:R (aZ<|ly r) H):c7 Φ 1 Kt [.str r] H R X:=by
 refine wF (m:=[some<|.str r,none,none,none]) rfl<|aH ?_;dsimp only [aV,eL,aJ,bT,gH,fT,fe,dA,bX,c8,ib,cV,fZ,bQ,cj,cK,bU,dY,gP,aP,aU,f7,f8,gQ,dN,eT,br,iN,ee,cX,db,eU,eV,bV,dZ,ev,gb,cL,bL,eA,cy,ig,dI,gR,g9,gy,bf,gK,fQ,fR,cZ,eZ,gu,gF,gv,gN,g6,gG,gw,fK,gx,hW,g7,iL,iA,hY,fv,eN,fy,gO,eJ,iM,e8,g8,dB,fL,iB,iC,g0,gs,bD,bB,aY,cx,gE,gM,iJ,iK,gh,hH,yW];have e:([sh,lx,qf].any λx=>x==r)=ly r:=by
  unfold ly;rw [lY,lY,lY,Dq,yc,Se (a:=r),Se (a:=r),Se (a:=r),Bool.or_assoc]
 rw [<-e] at h;exact ⟨bC rfl,eG h⟩
theorem zgd {c:Int}(h:R (aw<|kr c) H):c7 Φ 1 Kz [aw c] H R X:=by
 refine wF (m:=[some<|aw c,none,none,none]) rfl<|aH ?_;dsimp only [aV,eL,aJ,bT,gH,fT,fe,dA,bX,c8,ib,cV,fZ,bQ,cj,cK,bU,dY,gP,aP,aU,f7,f8,gQ,dN,eT,br,iN,ee,cX,db,eU,eV,bV,dZ,ev,gb,cL,bL,eA,cy,ig,dI,gR,g9,gy,bf,gK,fQ,fR,cZ,eZ,gu,gF,gv,gN,g6,gG,gw,fK,gx,hW,g7,iL,iA,hY,fv,eN,fy,gO,eJ,iM,e8,g8,dB,fL,iB,iC,g0,gs,bD,bB,aY,cx,gE,gM,iJ,iK,gh,hH];refine c0 (λf=>?_) λf=>?_
 .refine c0 (λj=>?_) λj=>?_
  .rw [show kr c=c-48 from if_pos ⟨f,j⟩] at h;exact eG h
  .rw [show kr c=0 from if_neg λz=>j z.2] at h;exact eG h
 .rw [show kr c=0 from if_neg λz=>f z.1] at h;exact eG h
theorem zge {s:List Nat}(h:R (.str<|oG s) H):c7 Φ 1 Kv [.str s] H R X:=by
 refine wF (m:=[some<|.str s,none,none,none]) rfl<|aH ?_;dsimp only [aV,eL,aJ,bT,gH,fT,fe,dA,bX,c8,ib,cV,fZ,bQ,cj,cK,bU,dY,gP,aP,aU,f7,f8,gQ,dN,eT,br,iN,ee,cX,db,eU,eV,bV,dZ,ev,gb,cL,bL,eA,cy,ig,dI,gR,g9,gy,bf,gK,fQ,fR,cZ,eZ,gu,gF,gv,gN,g6,gG,gw,fK,gx,hW,g7,iL,iA,hY,fv,eN,fy,gO,eJ,iM,e8,g8,dB,fL,iB,iC,g0,gs,bD,bB,aY,cx,gE,gM,iJ,iK,gh,hH];refine c0 (λq=>?_) λq=>?_
 .rw [show oG s=[32] from if_pos q] at h;exact eG h
 .rw [show oG s=s from if_neg q] at h;exact eG h
theorem OR (s:List Nat):[[67,82],[68,66]].any (·==s)=true↔s=[67,82]\/s=[68,66]:=by
 rw [lY,lY,Dq,yc,zK,beq_iff_eq,beq_iff_eq];exact or_congr ⟨wh,wh⟩ ⟨wh,wh⟩
theorem zgf {s:List Nat}{neg:Bool}(h:R (.str<|fJ s neg) H):c7 Φ 2 Ku [.str s,aZ neg] H R X:=by
 refine wF (m:=[some<|.str s,some<|aZ neg,none,none,none]) rfl<|aH ?_;unfold fJ at h;dsimp only [aV,eL,aJ,bT,gH,fT,fe,dA,bX,c8,ib,cV,fZ,bQ,cj,cK,bU,dY,gP,aP,aU,f7,f8,gQ,dN,eT,br,iN,ee,cX,db,eU,eV,bV,dZ,ev,gb,cL,bL,eA,cy,ig,dI,gR,g9,gy,bf,gK,fQ,fR,cZ,eZ,gu,gF,gv,gN,g6,gG,gw,fK,gx,hW,g7,iL,iA,hY,fv,eN,fy,gO,eJ,iM,e8,g8,dB,fL,iB,iC,g0,gs,bD,bB,aY,cx,gE,gM,iJ,iK,gh,hH];refine c0 (λq=>aH ?_) λq=>aM<|aH ?_
 .rw [if_pos q] at h;dsimp only [aV,eL,aJ,bT,gH,fT,fe,dA,bX,c8,ib,cV,fZ,bQ,cj,cK,bU,dY,gP,aP,aU,f7,f8,gQ,dN,eT,br,iN,ee,cX,db,eU,eV,bV,dZ,ev,gb,cL,bL,eA,cy,ig,dI,gR,g9,gy,bf,gK,fQ,fR,cZ,eZ,gu,gF,gv,gN,g6,gG,gw,fK,gx,hW,g7,iL,iA,hY,fv,eN,fy,gO,eJ,iM,e8,g8,dB,fL,iB,iC,g0,gs,bD,bB,aY,cx,gE,gM,iJ,iK,gh,hH];cases neg <;> exact eG h
 rw [if_neg q] at h;dsimp only [aV,eL,aJ,bT,gH,fT,fe,dA,bX,c8,ib,cV,fZ,bQ,cj,cK,bU,dY,gP,aP,aU,f7,f8,gQ,dN,eT,br,iN,ee,cX,db,eU,eV,bV,dZ,ev,gb,cL,bL,eA,cy,ig,dI,gR,g9,gy,bf,gK,fQ,fR,cZ,eZ,gu,gF,gv,gN,g6,gG,gw,fK,gx,hW,g7,iL,iA,hY,fv,eN,fy,gO,eJ,iM,e8,g8,dB,fL,iB,iC,g0,gs,bD,bB,aY,cx,gE,gM,iJ,iK,gh,hH];refine c0 (λq=>aH ?_) λq=>aM<|aH ?_
 .rw [if_pos q] at h;dsimp only [aV,eL,aJ,bT,gH,fT,fe,dA,bX,c8,ib,cV,fZ,bQ,cj,cK,bU,dY,gP,aP,aU,f7,f8,gQ,dN,eT,br,iN,ee,cX,db,eU,eV,bV,dZ,ev,gb,cL,bL,eA,cy,ig,dI,gR,g9,gy,bf,gK,fQ,fR,cZ,eZ,gu,gF,gv,gN,g6,gG,gw,fK,gx,hW,g7,iL,iA,hY,fv,eN,fy,gO,eJ,iM,e8,g8,dB,fL,iB,iC,g0,gs,bD,bB,aY,cx,gE,gM,iJ,iK,gh,hH];cases neg <;> exact eG h
 rw [if_neg q] at h;dsimp only [aV,eL,aJ,bT,gH,fT,fe,dA,bX,c8,ib,cV,fZ,bQ,cj,cK,bU,dY,gP,aP,aU,f7,f8,gQ,dN,eT,br,iN,ee,cX,db,eU,eV,bV,dZ,ev,gb,cL,bL,eA,cy,ig,dI,gR,g9,gy,bf,gK,fQ,fR,cZ,eZ,gu,gF,gv,gN,g6,gG,gw,fK,gx,hW,g7,iL,iA,hY,fv,eN,fy,gO,eJ,iM,e8,g8,dB,fL,iB,iC,g0,gs,bD,bB,aY,cx,gE,gM,iJ,iK,gh,hH,nQ];refine ⟨bC rfl,dR (b:=[[67,82],[68,66]].any (·==s)) (λq=>aH ?_) λq=>aM<|aH ?_⟩
 .rw [if_pos<|(OR s).mp q] at h;dsimp only [aV,eL,aJ,bT,gH,fT,fe,dA,bX,c8,ib,cV,fZ,bQ,cj,cK,bU,dY,gP,aP,aU,f7,f8,gQ,dN,eT,br,iN,ee,cX,db,eU,eV,bV,dZ,ev,gb,cL,bL,eA,cy,ig,dI,gR,g9,gy,bf,gK,fQ,fR,cZ,eZ,gu,gF,gv,gN,g6,gG,gw,fK,gx,hW,g7,iL,iA,hY,fv,eN,fy,gO,eJ,iM,e8,g8,dB,fL,iB,iC,g0,gs,bD,bB,aY,cx,gE,gM,iJ,iK,gh,hH];cases neg
  .exact ⟨bC rfl,by decide,by decide,eG h⟩
  .exact eG h
 .rw [if_neg λz=>ne_true_of_eq_false q<|(OR s).mpr z] at h;dsimp only [aV,eL,aJ,bT,gH,fT,fe,dA,bX,c8,ib,cV,fZ,bQ,cj,cK,bU,dY,gP,aP,aU,f7,f8,gQ,dN,eT,br,iN,ee,cX,db,eU,eV,bV,dZ,ev,gb,cL,bL,eA,cy,ig,dI,gR,g9,gy,bf,gK,fQ,fR,cZ,eZ,gu,gF,gv,gN,g6,gG,gw,fK,gx,hW,g7,iL,iA,hY,fv,eN,fy,gO,eJ,iM,e8,g8,dB,fL,iB,iC,g0,gs,bD,bB,aY,cx,gE,gM,iJ,iK,gh,hH];exact eG h
theorem zgg (f:M6 Φ){d:Int×Int}{sc:Int}(j:d.2-sc<=18) (p:sc-d.2<=1000) (l:d.1.natAbs<2 ^ 64) (h:R (aw<|oH d sc) H):c7 Φ 5 Ki [g5 d,aw sc,aZ false] H R X:=by
 refine wF (m:=[some<|g5 d,some<|aw sc,some<|aZ false,none,none,none,none,none]) rfl<|aH ?_;dsimp only [aV,eL,aJ,bT,gH,fT,fe,dA,bX,c8,ib,cV,fZ,bQ,cj,cK,bU,dY,gP,aP,aU,f7,f8,gQ,dN,eT,br,iN,ee,cX,db,eU,eV,bV,dZ,ev,gb,cL,bL,eA,cy,ig,dI,gR,g9,gy,bf,gK,fQ,fR,cZ,eZ,gu,gF,gv,gN,g6,gG,gw,fK,gx,hW,g7,iL,iA,hY,fv,eN,fy,gO,eJ,iM,e8,g8,dB,fL,iB,iC,g0,gs,bD,bB,aY,cx,gE,gM,iJ,iK,gh,hH];refine ⟨by decide,c0 (λq=>aH ?_) λq=>aM<|aH ?_⟩
 .rw [show oH d sc=_ from if_pos q] at h;dsimp only [aV,eL,aJ,bT,gH,fT,fe,dA,bX,c8,ib,cV,fZ,bQ,cj,cK,bU,dY,gP,aP,aU,f7,f8,gQ,dN,eT,br,iN,ee,cX,db,eU,eV,bV,dZ,ev,gb,cL,bL,eA,cy,ig,dI,gR,g9,gy,bf,gK,fQ,fR,cZ,eZ,gu,gF,gv,gN,g6,gG,gw,fK,gx,hW,g7,iL,iA,hY,fv,eN,fy,gO,eJ,iM,e8,g8,dB,fL,iB,iC,g0,gs,bD,bB,aY,cx,gE,gM,iJ,iK,gh,hH];refine ⟨by decide,by decide,?_⟩;exact ⟨rfl,by exact sJ ‹_›,by exact qi ‹_› rfl,ba l,eG h⟩
 .rw [show oH d sc=_ from if_neg q] at h;dsimp only [aV,eL,aJ,bT,gH,fT,fe,dA,bX,c8,ib,cV,fZ,bQ,cj,cK,bU,dY,gP,aP,aU,f7,f8,gQ,dN,eT,br,iN,ee,cX,db,eU,eV,bV,dZ,ev,gb,cL,bL,eA,cy,ig,dI,gR,g9,gy,bf,gK,fQ,fR,cZ,eZ,gu,gF,gv,gN,g6,gG,gw,fK,gx,hW,g7,iL,iA,hY,fv,eN,fy,gO,eJ,iM,e8,g8,dB,fL,iB,iC,g0,gs,bD,bB,aY,cx,gE,gM,iJ,iK,gh,hH];refine ⟨by decide,?_⟩;refine ⟨rfl,by exact sJ (qv<|rC.mp ‹_›),by exact qi ‹_› rfl,aH ?_⟩;dsimp only [aV,eL,aJ,bT,gH,fT,fe,dA,bX,c8,ib,cV,fZ,bQ,cj,cK,bU,dY,gP,aP,aU,f7,f8,gQ,dN,eT,br,iN,ee,cX,db,eU,eV,bV,dZ,ev,gb,cL,bL,eA,cy,ig,dI,gR,g9,gy,bf,gK,fQ,fR,cZ,eZ,gu,gF,gv,gN,g6,gG,gw,fK,gx,hW,g7,iL,iA,hY,fv,eN,fy,gO,eJ,iM,e8,g8,dB,fL,iB,iC,g0,gs,bD,bB,aY,cx,gE,gM,iJ,iK,gh,hH];refine aH ?_;dsimp only [aV,eL,aJ,bT,gH,fT,fe,dA,bX,c8,ib,cV,fZ,bQ,cj,cK,bU,dY,gP,aP,aU,f7,f8,gQ,dN,eT,br,iN,ee,cX,db,eU,eV,bV,dZ,ev,gb,cL,bL,eA,cy,ig,dI,gR,g9,gy,bf,gK,fQ,fR,cZ,eZ,gu,gF,gv,gN,g6,gG,gw,fK,gx,hW,g7,iL,iA,hY,fv,eN,fy,gO,eJ,iM,e8,g8,dB,fL,iB,iC,g0,gs,bD,bB,aY,cx,gE,gM,iJ,iK,gh,hH];exact ⟨by decide,f _ _ _ _ (pow10_pos _) (M7<|by exact TH j)<|eG h⟩
theorem zgh (z:Nb Φ){p:Nat}{r:List (List Nat×Nat)}{D:Nat}{sc:Int}{v:Nat}{d:Int×Int}(P:hV H p r D sc v) (l:D<=18) (U:d.2-sc<=18) (W:sc-d.2<=1000) (Z:d.1.natAbs<2 ^ 64)
  (h:R (d8 [.str<|bx D<|eS d sc D,aZ<|decide (d.1<0) && decide (0<eS d sc D)]) H):c7 Φ 4 Ei [aB p,g5 d] H R X:=by
 obtain ⟨dd,fs,y,F,I,e3,e4,L,e6,e7⟩:=P.h;refine wF (m:=[some<|aB p,some<|g5 d,none,none,none,none,none]) rfl<|aH ?_;dsimp only [aV,eL,aJ,bT,gH,fT,fe,dA,bX,c8,ib,cV,fZ,bQ,cj,cK,bU,dY,gP,aP,aU,f7,f8,gQ,dN,eT,br,iN,ee,cX,db,eU,eV,bV,dZ,ev,gb,cL,bL,eA,cy,ig,dI,gR,g9,gy,bf,gK,fQ,fR,cZ,eZ,gu,gF,gv,gN,g6,gG,gw,fK,gx,hW,g7,iL,iA,hY,fv,eN,fy,gO,eJ,iM,e8,g8,dB,fL,iB,iC,g0,gs,bD,bB,aY,cx,gE,gM,iJ,iK,gh,hH];refine bN F I e6 rfl<|z _ _ _ _ U W Z ?_;dsimp only [aV,eL,aJ,bT,gH,fT,fe,dA,bX,c8,ib,cV,fZ,bQ,cj,cK,bU,dY,gP,aP,aU,f7,f8,gQ,dN,eT,br,iN,ee,cX,db,eU,eV,bV,dZ,ev,gb,cL,bL,eA,cy,ig,dI,gR,g9,gy,bf,gK,fQ,fR,cZ,eZ,gu,gF,gv,gN,g6,gG,gw,fK,gx,hW,g7,iL,iA,hY,fv,eN,fy,gO,eJ,iM,e8,g8,dB,fL,iB,iC,g0,gs,bD,bB,aY,cx,gE,gM,iJ,iK,gh,hH];refine bN F I L rfl ?_;dsimp only [aV,eL,aJ,bT,gH,fT,fe,dA,bX,c8,ib,cV,fZ,bQ,cj,cK,bU,dY,gP,aP,aU,f7,f8,gQ,dN,eT,br,iN,ee,cX,db,eU,eV,bV,dZ,ev,gb,cL,bL,eA,cy,ig,dI,gR,g9,gy,bf,gK,fQ,fR,cZ,eZ,gu,gF,gv,gN,g6,gG,gw,fK,gx,hW,g7,iL,iA,hY,fv,eN,fy,gO,eJ,iM,e8,g8,dB,fL,iB,iC,g0,gs,bD,bB,aY,cx,gE,gM,iJ,iK,gh,hH];have hx:((oH d sc).natAbs:Int) % 10 ^ ((D:Int).toNat)=((eS d sc D:Nat):Int):=by
  unfold eS;rw [jm,Int.natCast_emod,H8];rfl
 refine ⟨rfl,by exact lf _,by exact TI l,pow10_pos _,aH ?_⟩;rw [hx];have j:eS d sc D<10 ^ D:=Ia _ (Ah<|by decide);generalize eS d sc D=u at h j;have f:∀ t:List Nat,t.length<=D->bY (D-t.length) 48++t=bx D u->cJ Φ (dy 2 Ei) [some<|aB p,some<|g5 d,some<|aw (u:Int),some<|.str t,none,none,none] H (cQ R) (cP X):=by
  refine λt J te=>aH ?_;dsimp only [aV,eL,aJ,bT,gH,fT,fe,dA,bX,c8,ib,cV,fZ,bQ,cj,cK,bU,dY,gP,aP,aU,f7,f8,gQ,dN,eT,br,iN,ee,cX,db,eU,eV,bV,dZ,ev,gb,cL,bL,eA,cy,ig,dI,gR,g9,gy,bf,gK,fQ,fR,cZ,eZ,gu,gF,gv,gN,g6,gG,gw,fK,gx,hW,g7,iL,iA,hY,fv,eN,fy,gO,eJ,iM,e8,g8,dB,fL,iB,iC,g0,gs,bD,bB,aY,cx,gE,gM,iJ,iK,gh,hH];refine bN F I L rfl ?_;dsimp only [aV,eL,aJ,bT,gH,fT,fe,dA,bX,c8,ib,cV,fZ,bQ,cj,cK,bU,dY,gP,aP,aU,f7,f8,gQ,dN,eT,br,iN,ee,cX,db,eU,eV,bV,dZ,ev,gb,cL,bL,eA,cy,ig,dI,gR,g9,gy,bf,gK,fQ,fR,cZ,eZ,gu,gF,gv,gN,g6,gG,gw,fK,gx,hW,g7,iL,iA,hY,fv,eN,fy,gO,eJ,iM,e8,g8,dB,fL,iB,iC,g0,gs,bD,bB,aY,cx,gE,gM,iJ,iK,gh,hH];have O:((D:Int)- (t.length:Int)).toNat=D-t.length:=by exact TJ
  refine ⟨by exact TL l J,by rw [O];exact fP (CQ<|Nat.one_mul _) (by exact TN l),by exact TO J,by exact TP l,?_⟩;rw [O,zd4,te,kJ];refine ⟨by exact TQ l J,by decide,?_⟩;have dc:decide ((0:Int)<(u:Int))=decide (0<u):=decide_eq_decide.mpr (by exact TR);rw [dc];refine Cc (λq=>?_) λq=>?_
  .rw [q,Du] at h;exact ⟨bC rfl,eG h⟩
  .rw [q,zT] at h;rw [q];exact ⟨bC rfl,eG h⟩
 dsimp only [aV,eL,aJ,bT,gH,fT,fe,dA,bX,c8,ib,cV,fZ,bQ,cj,cK,bU,dY,gP,aP,aU,f7,f8,gQ,dN,eT,br,iN,ee,cX,db,eU,eV,bV,dZ,ev,gb,cL,bL,eA,cy,ig,dI,gR,g9,gy,bf,gK,fQ,fR,cZ,eZ,gu,gF,gv,gN,g6,gG,gw,fK,gx,hW,g7,iL,iA,hY,fv,eN,fy,gO,eJ,iM,e8,g8,dB,fL,iB,iC,g0,gs,bD,bB,aY,cx,gE,gM,iJ,iK,gh,hH];refine c0 (λq=>?_) λq=>?_
 .obtain ⟨l1,l2⟩:=Na D u (by exact rB.mp ‹_›) j;have hb:(u:Int)<10 ^ 100:=by
   have:u<10 ^ 18:=Sa j (Do (by decide) l);exact TS this
  exact ⟨by exact TT,hb,f _ l1 l2⟩
 .have u0:u=0:=by exact TU q
  refine f [] (zP _) ?_;rw [u0,BJ,of];rfl
end
set_option tactic.hygienic true in
theorem Cj:∀ (s:Nat) (u:Int),u=(iU s u).1*10 ^ (s- (iU s u).2)/\(iU s u).2<=s
 | 0,u=>⟨(Int.mul_one u).symm,dM _⟩
 | s+1,u=>by
  unfold iU;split
  .rename_i q;obtain ⟨a,b⟩:=Cj s<|u / 10;refine ⟨?_,zZ b⟩;rw [Nat.succ_sub b,Sc,<-zis,<-a];exact WG q
  .exact ⟨by rw [zY];exact (Int.mul_one u).symm,dM _⟩
theorem Ck {a p:Int}(f:0<p):a*p<0↔a<0:=by
 constructor
 .refine λh=>rC.mp λq=>?_;have:=ziB q<|qv f;lia
 .exact λh=>Int.mul_neg_of_neg_of_pos h f
theorem GN (u s:Int):(c9 u s).1<0↔u<0:=by
 unfold c9;split
 .exact Ck<|pow10_pos _
 .have e:=(Cj s.toNat u).1;generalize s.toNat- (iU s.toNat u).2=k at e;generalize (iU s.toNat u).1=v at e;subst e;exact (Ck<|pow10_pos _).symm
theorem Cm (n:Nat):((10:Int) ^ n).natAbs=10 ^ n:=by rw [zjZ];rfl
theorem OS {a b:Int}(f:0<b):(oF a b).natAbs=a.natAbs / b.natAbs:=by
 unfold oF;rw [<-zkb];split
 .rw [Ic];rfl
 .rfl
theorem zgi {w p:Int}(f:0<p):oF (w*p) p=w:=by
 unfold oF;rw [<-zkb,Ib,zkc _ (by exact WH f),decide_eq_false<|show ¬p<0 by exact WI f];by_cases q:w<0
 .rw [decide_eq_true<|(Ck f).mpr q];exact WJ q
 .rw [decide_eq_false λz=>q<|(Ck f).mp z];exact WK q
set_option tactic.hygienic true in
theorem OT (w sc:Int):oH (c9 w sc) sc=w:=by
 unfold c9;split
 .rename_i q;unfold oH;rw [if_neg<|rC.mpr q];rw [show (0-sc).toNat=(-sc).toNat by rw [Ih]];exact zgi<|pow10_pos _
 .rename_i q;obtain ⟨m,rfl⟩:=xQ<|lc.mp q;obtain ⟨e,h⟩:=Cj m w;show (if ((iU m w).2:Int)<=(m:Int) then (iU m w).1*10 ^ ((m:Int)- (iU m w).2).toNat else _)=_;rw [if_pos<|nq.mpr h,Sg];exact e.symm
theorem zgj {n x y z w:Nat}(e:x+y=z+w):n*10 ^ x*10 ^ y / 10 ^ w=n*10 ^ z:=by rw [Sh,<-Dr,e,Dr,<-Sh,zkc _<|Ah (a:=10)<|sV 9]
theorem OU {n x y z w:Nat}(e:z+(x+y)=w):n*10 ^ x*10 ^ y / 10 ^ w=n / 10 ^ z:=by
 rw [Sh,<-Dr,<-e,Dr 10 z];exact Nat.mul_div_mul_right _ _<|Ah (a:=10)<|sV 9
set_option tactic.hygienic true in
theorem zgk (v:Int){m k:Nat}(f:k<=m) (b:Int):(oH (v,(k:Int)) b).natAbs=(v*10 ^ (m-k)).natAbs*10 ^ (max b 0).toNat / 10 ^ ((m:Int)+max (0-b) 0).toNat:=by
 rw [Ib,Cm];cases b with
 | ofNat p=>
  show (if (k:Int)<=p then v*10 ^ ((p:Int)-k).toNat else oF v (10 ^ ((k:Int)-p).toNat)).natAbs=_*10 ^ (max (p:Int) 0).toNat / 10 ^ ((m:Int)+max (0- (p:Int)) 0).toNat;rw [zA<|lf p,zB<|Int.sub_nonpos_of_le<|lf p,Sg,Sg,kE,jm,jm];split
  .rename_i q;rw [Ib,Cm,zgj];rw [yb,<-zkd f,yb,zkd<|nq.mp q,yb]
  .rename_i q;rw [OS<|pow10_pos _,Cm,OU];have:=rB.mp<|rC.mp q;exact WL f this
 | negSucc p=>
  show (if (k:Int)<=we p then v*10 ^ (we p-k).toNat else oF v (10 ^ ((k:Int)-we p).toNat)).natAbs=_*10 ^ (max (we p) 0).toNat / 10 ^ ((m:Int)+max (0-we p) 0).toNat;have l:(k:Int)-we p=((k+(p+1):Nat):Int):=rfl;have r:0-we p=((p+1:Nat):Int):=Ih _;have j:=Int.negSucc_lt_zero p;rw [if_neg<|rC.mpr<|Int.lt_of_lt_of_le j<|lf k,OS<|pow10_pos _,Cm,l,r,zB<|qv j,zA<|lf _,<-Hn,jm,jm];rw [OU];exact WM f
theorem zgl (u s b:Int) (f:0<=s):(oH (c9 u s) b).natAbs=u.natAbs*10 ^ (max b 0).toNat / 10 ^ (s+max (0-b) 0).toNat:=by
 obtain ⟨m,rfl⟩:=xQ f;unfold c9;rw [if_neg<|lc.mpr f];obtain ⟨e,h⟩:=Cj m u;show (oH ((iU m u).1,((iU m u).2:Int)) b).natAbs=_;rw [zgk _ h,<-e]
def nW (u:Int) (fg:List Nat):Int:=fg.foldl (λ(u:Int) (c:Nat)=>u*10+kr c) u
theorem zgm {k:Nat}(h:k<10):kr ((48+k:Nat):Int)=k:=by
 unfold kr;rw [if_pos<|by exact WN h];exact WO
theorem OV:∀ D v:Nat,nW 0 (bx D v)=(v % 10 ^ D:Nat)
 | 0,v=>by rw [R3,Nat.mod_one];rfl
 | D+1,v=>by
  have f:=OV D<|v / 10;unfold nW at f ⊢;rw [bx,qB,f,iH,zjV,zgm (Ia _<|by decide),R4,QP (10 ^ D) 10,Nat.mod_mul];exact WP
theorem Cn:∀ (D v c:Nat),c∈bx D v->48<=c/\c<=57
 | 0,v,c,h=>nomatch h
 | D+1,v,c,h=>by
  rw [bx] at h;rcases kG.mp h with h | h
  .exact Cn D _ c h
  .rw [gp.mp h];exact WQ
theorem OW:∀ (D v:Nat),v<10 ^ D->(bx D v=bY D 48↔v=0)
 | 0,v,h=>by rw [R3] at h;exact ⟨λ_=>by exact WR h,λ_=>rfl⟩
 | D+1,v,h=>by
  rw [bx,R2];have j:=OW D (v / 10) (by rw [R4] at h;exact Ix h);constructor
  .intro e;obtain ⟨l,f⟩:=List.append_inj' e rfl;have:=j.mp l;injection f with f
   exact WS this f
  .rintro rfl;rw [j.mpr rfl]
theorem zgn {f:Type}{l:List f}{x:f}(h:l.getLast?=some x):∃r,l=r++[x]:=by
 refine ⟨l.dropLast,?_⟩;obtain ⟨j,e⟩:∃j:l≠[],l.getLast j=x:=by
  cases l with
  | nil=>cases h
  | cons a r=>exact ⟨zke _ _,by rw [List.getLast?_eq_some_getLast<|zke _ _] at h;exact kH h⟩
 rw [<-e,List.dropLast_concat_getLast]
set_option tactic.hygienic true in
theorem OX (f:List (List Nat×Nat)) (s:List Nat):ku f s=f++[(s,1)]\/∃r n,f=r++[(s,n)]/\ku f s=r++[(s,n+1)]:=by
 unfold ku;split
 .rename_i q e;obtain ⟨r,j⟩:=zgn e;split
  .rename_i z;refine aX ⟨r,q.2,?_,?_⟩
   .rw [j,<-z]
   .rw [j,zj6]
  .exact ba rfl
 .rename_i e;exact ba (by rw [List.getLast?_eq_none_iff.mp e];rfl)
theorem zgo (f:List (List Nat×Nat)) (s:List Nat):placesOf (ku f s)=placesOf f++[s]:=by
 rcases OX f s with e | ⟨r,n,j,l⟩
 .rw [e,BP];rfl
 .rw [l,j,BP,BP,lL,R2]
theorem OY:∀ (aA:List (List Nat)) (f:List (List Nat×Nat)),placesOf (aA.foldl ku f)=placesOf f++aA
 | [],f=>(of _).symm
 | s::r,f=>by rw [iH,OY r,zgo,lL];rfl
theorem sv (aA:List (List Nat)):placesOf (b7 aA)=aA:=OY aA []
noncomputable def qo (s:List Nat):Nat:=if [[80],[83],[86]].any (·==s)=true then 0 else s.length
theorem GO (a:List (List Nat×Nat)) (s:List Nat) (n:Nat):dT (a++[(s,n)])=dT a+n*qo s:=by
 unfold dT y9 qo;rw [R5,List.sum_append];by_cases q:[[80],[83],[86]].any (·==s)=true
 .rw [if_pos q,sR,if_pos q];rfl
 .rw [if_neg q,sR,if_neg q];rfl
theorem zgp (f:List (List Nat×Nat)) (s:List Nat):dT (ku f s)=dT f+qo s:=by
 rcases OX f s with e | ⟨r,n,j,l⟩
 .rw [e,GO,Nat.one_mul]
 .rw [l,j,GO,GO,zj9,Dp]
theorem OZ:∀ (aA:List (List Nat)) (f:List (List Nat×Nat)),dT (aA.foldl ku f)=dT f+(aA.map qo).sum
 | [],f=>rfl
 | s::r,f=>by rw [iH,OZ r,zgp,eF,uu,Dp]
theorem Qv (aA:List (List Nat)):dT (b7 aA)=(aA.map qo).sum:=by
 have:=OZ aA [];rw [show dT []=0 from rfl,pR] at this;exact this
noncomputable abbrev It:=List Nat×List Nat
def xj (f:List Nat) (b:Bool) (s:List Nat):List Nat:=if s=f then (if b=true then qf else dG) else lA s
noncomputable def items (f:List Nat):Bool->List (List Nat)->List It
 | _,[]=>[]
 | b,s::r=>(xj f b s,s)::items f (b || decide (s=f)) r
theorem GP (f:List Nat) (b:Bool) (s:List Nat) (r:List (List Nat)):items f b (s::r)=(xj f b s,s)::items f (b || decide (s=f)) r:=rfl
theorem O1:∀ l:List It,(l.map (·.1)).zip (l.map (·.2))=l
 | []=>rfl
 | q::r=>congrArg (q::·)<|O1 r
theorem zgq (s:List Nat):lA s∈[jy,sh,lx,mA,jp,ja,kq,gg]:=by
 unfold lA;cases e:tI.lookup s with
 | none=>decide
 | some r=>
  have:∀ (t:List (List Nat×List Nat)),t.lookup s=some r->r∈t.map (·.2):=λt=>by
   induction t with
   | nil=>intro h;cases h
   | cons p t f=>
    intro h;rw [j9] at h;split at h
    .cases h;exact dh
    .exact dz _<|f h
  have:=this _ e;have sub:∀ x∈tI.map (·.2),x∈[jy,sh,lx,mA,jp,ja,kq,gg]:=by decide
  exact sub _ this
theorem O2 (s:List Nat):(lA s==dG)=false/\lA s≠qf:=by
 have:∀ x∈[jy,sh,lx,mA,jp,ja,kq,gg],(x==dG)=false/\x≠qf:=by decide
 exact this _<|zgq s
theorem O3 (j:List Nat):∀ (aA f:List (List Nat)),aA.foldl (qT j) f=f++(items j (f.any (·==dG)) aA).map (·.1)
 | [],f=>(of _).symm
 | s::r,f=>by
  rw [iH,O3 j r];unfold qT;rw [lL,R9,GP];have e:(f.any (·==dG) || [if s=j then (if f.any (·==dG)=true then qf else dG) else lA s].any (·==dG))=(f.any (·==dG) || decide (s=j)):=by
   by_cases q:s=j
   .rw [if_pos q,decide_eq_true q];cases f.any (·==dG) <;> rfl
   .rw [if_neg q,decide_eq_false q,lY,Dq,(O2 s).1];rfl
  rw [e,eF];rfl
theorem xm (f:List Nat):∀ (aA:List (List Nat)) (b:Bool),(items f b aA).map (·.2)=aA
 | [],_=>rfl
 | s::r,b=>congrArg (s::·)<|xm f r _
def gm (aA:List (List Nat)):List It:=items (de aA) false aA
theorem GQ (aA:List (List Nat)):cu aA=(gm aA).map (·.1):=by
 have:=O3 (de aA) aA [];rw [CM] at this;exact this
theorem xn (aA:List (List Nat)):(cu aA).zip aA=gm aA:=by
 have e:=xm (de aA) aA false;change (gm aA).map (·.2)=aA at e;have z:=O1<|gm aA;rw [e] at z;rw [GQ];exact z
theorem pH (f:List Nat):∀ (aA:List (List Nat)) (b:Bool) (q:It),q∈items f b aA->q.2∈aA/\((q.2=f/\(q.1=dG\/q.1=qf))\/(q.2≠f/\q.1=lA q.2))
 | [],_,q,h=>nomatch h
 | s::r,b,q,h=>by
  rcases cR.mp h with rfl | h
  .refine ⟨dh,?_⟩;dsimp only;unfold xj;by_cases z:s=f
   .rw [if_pos z];cases b
    .exact ba ⟨z,ba rfl⟩
    .exact ba ⟨z,aX rfl⟩
   .rw [if_neg z];exact aX ⟨z,rfl⟩
  .obtain ⟨a,c⟩:=pH f r _ q h;exact ⟨dz _ a,c⟩
theorem O4 (f:List Nat):∀ (aA:List (List Nat)),f∈aA->(dG,f)∈items f false aA
 | s::r,h=>by
  rw [GP];unfold xj;by_cases z:s=f
  .rw [if_pos z,z];exact dh
  .rw [decide_eq_false z];exact dz _<|O4 f r<|(cR.mp h).resolve_left (uq z)
structure eE where
 role:List Nat
 sign:List Nat
 text:List Nat
 sup:Bool
noncomputable def pI:Nat->List eE->List Row
 | _,[]=>[]
 | k,c::r=>⟨c.role,c.sign,k⟩::pI (k+c.sign.length) r
theorem zk (k:Nat) (c:eE) (r:List eE):pI k (c::r)=⟨c.role,c.sign,k⟩::pI (k+c.sign.length) r:=rfl
def dt (q:It):Bool:= !([jp,ja].any (·==q.1))
noncomputable def ip (c:eE):It:=(c.role,c.sign)
theorem xo:∀ (l:List It) (f:List Row) (k:Nat) (j:List eE),j.map ip=l.filter dt->(l.foldl jK (f,k)).1=f++pI k j
 | [],f,k,j,h=>by
  rw [List.map_eq_nil_iff.mp h];exact (of _).symm
 | q::r,f,k,j,h=>by
  rw [iH];rw [wi] at h;cases z:[jp,ja].any (·==q.1) with
  | true=>
   rw [if_neg<|by unfold dt;rw [z];decide] at h;rw [show jK (f,k) q=(f,k) from if_pos z];exact xo r f k j h
  | false=>
   rw [if_pos<|by unfold dt;rw [z];rfl] at h;rw [show jK (f,k) q=(f++[⟨q.1,q.2,k⟩],k+q.2.length) from if_neg (ne_true_of_eq_false z)];cases j with
   | nil=>cases h
   | cons c j=>
    injection h with p u
    rw [xo r _ _ j u,lL,<-p];rfl
structure zm (c:eE):Prop where
 l:c.text.length=c.sign.length
 n:0<c.sign.length
 b:∀ x∈c.text,x<256
def jB (u:Int) (c:eE):Int:=if ii c.role=true then u*10+kr (c.text.headD 0:Nat) else u
theorem O5 {f t j:List Nat}(h:0<t.length):(f++(t++j)).getD f.length 0=t.headD 0:=by
 cases t with
 | nil=>cases h
 | cons c t=>rw [sP,Ie<|dM _,zY];rfl
theorem O6:∀ (p:List eE) (f:List Nat) (u:Int),(∀ c∈p,zm c)->(pI f.length p).foldl (nS (f++(p.map (·.text)).flatten)) u=p.foldl jB u
 | [],_,_,_=>rfl
 | c::r,f,u,h=>by
  have j:=h c dh;have v:=O6 r (f++c.text) (jB u c) λc j=>h c<|dz _ j;rw [cC,j.l,lL] at v;have e:nS (f++(c.text++(r.map (·.text)).flatten)) u ⟨c.role,c.sign,f.length⟩=jB u c:=by
   unfold nS jB;rw [O5<|by rw [j.l];exact j.n]
  rw [iH,<-v,eF,lj,zk,iH,e]
theorem zgr {f t j:List Nat}(h:t.length=2):eX (f++(t++j)) (some (f.length:Int)) (some<|(f.length:Int)+2)=t:=by
 have lo:uD (f++(t++j)).length (some (f.length:Int))=f.length:=by
  show (if (f.length:Int)<0 then ((f.length:Int)+(f++(t++j)).length).toNat else min (f.length:Int).toNat (f++(t++j)).length)=f.length;rw [if_neg (by exact uy),cC];exact WT
 have l:uE (f++(t++j)).length (some<|(f.length:Int)+2)=f.length+2:=by
  show (if (f.length:Int)+2<0 then ((f.length:Int)+2+(f++(t++j)).length).toNat else min ((f.length:Int)+2).toNat (f++(t++j)).length)=f.length+2;rw [if_neg (by exact WU),cC,cC];exact WV h
 unfold eX;rw [lo,l,<-lL,List.take_append_of_le_length (by rw [cC];exact WW h),Q5 (by rw [cC];exact WX h),zj1]
noncomputable def mG (t:List Nat):Bool:=decide (((t.headD 0:Nat):Int)=45)
def lS (f:Bool) (c:eE):Bool:=(if ji.any (·==c.sign)=true then decide (c.text=c.sign) else (decide (c.role=gg) && mG c.text)) || (f && mG c.text)
theorem O7 {s:List Nat}(h:ji.any (·==s)=true):s.length=2:=by
 refine bZ (o5.mp h) λx f e=>?_;rw [<-beq_iff_eq.mp e];have:∀ x∈ji,x.length=2:=by decide
 exact this x f
theorem O8 (p:Bool):∀ (u:List eE) (f:List Nat),(∀ c∈u,zm c)->(pI f.length u).any (w4 p (f++(u.map (·.text)).flatten))=u.any (lS p)
 | [],_,_=>rfl
 | c::r,f,h=>by
  have j:=h c dh;have v:=O8 p r (f++c.text) λc j=>h c<|dz _ j;rw [cC,j.l,lL] at v;have e:w4 p (f++(c.text++(r.map (·.text)).flatten)) ⟨c.role,c.sign,f.length⟩=lS p c:=by
   unfold w4 vc lS mG;rw [O5<|by rw [j.l];exact j.n];by_cases z:ji.any (·==c.sign)=true
   .rw [if_pos z,if_pos z,zgr<|by rw [j.l];exact O7 z]
   .rw [if_neg z,if_neg z]
  rw [lY,<-v,eF,lj,zk,lY,e]
structure rg (l:List It) (cs:List eE):Prop where
 k:cs.map ip=l.filter dt
 n:∀ c∈cs,zm c
theorem rg.units {l:List It}{f:List eE}(x:rg l f):oK (l.foldl jK ([],0)).1 (f.map (·.text)).flatten=f.foldl jB 0:=by
 rw [xo l [] 0 f x.k];exact O6 f [] 0 x.n
theorem rg.minus {l:List It}{f:List eE}(x:rg l f):qV (l.foldl jK ([],0)).1 (f.map (·.text)).flatten=f.any (lS<|qg (l.foldl jK ([],0)).1):=by
 rw [xo l [] 0 f x.k];exact O8 _ f [] x.n
theorem rg.len {l:List It}{f:List eE}(x:rg l f):(f.map (·.text)).flatten.length=((l.filter dt).map λq=>q.2.length).sum:=by
 rw [<-x.k,lm];have n:=x.n;clear x;induction f with
 | nil=>rfl
 | cons c r j=>
  rw [eF,lj,cC,eF,uu,j λc p=>n c<|dz _ p,(n c dh).l];rfl
def xq:List (List Nat):=[jy,sh,lx,qf,jp,ja,dG]
def oO (q:It):Prop:=(q.1∈xq/\∃c,q.2=[c])\/(q.1=mA/\q.2=[46])\/(q.1=kq/\∃c,c∈q8/\q.2=[c])\/(q.1=gg/\(q.2∈[[36],[43],[45]]\/q.2∈ji))
set_option tactic.hygienic true in
theorem zn (aA:List (List Nat)):de aA=[]\/(de aA∈aA/\de aA∈[[36],[43],[45]]):=by
 have m:∀ c:Nat,1<aA.count [c]->[c]∈aA:=λc h=>Ii.mp (by exact Jj h);unfold de;split
 .rename_i h;exact aX ⟨m _ h,by decide⟩
 .split
  .rename_i h;exact aX ⟨m _ h,by decide⟩
  .split
   .rename_i h;exact aX ⟨m _ h,by decide⟩
   .exact ba rfl
theorem zgs:∀ c∈vj,lA [c]∈xq\/(lA [c]=mA/\c=46)\/(lA [c]=kq/\c∈q8)\/(lA [c]=gg/\[c]∈[[36],[43],[45]]):=by decide
theorem xt {aA:List (List Nat)}(h:∀ s∈aA,gk s):∀ q∈gm aA,oO q:=by
 intro q l;obtain ⟨j,p⟩:=pH _ _ _ q l;have j:=h _ j;rcases p with ⟨e,r⟩ | ⟨_,r⟩
 .refine ba ⟨by rcases r with r | r <;> rw [r] <;> decide,?_⟩;rcases zn aA with f | ⟨_,f⟩
  .rw [e,f] at j;exact absurd (qW j.ok).1 (by decide)
  .rw [e];have:∀ x∈[[36],[43],[45]],∃c:Nat,x=[c]:=by
    intro x hx;rcases cR.mp hx with rfl | hx
    .exact ⟨_,rfl⟩
    .rcases cR.mp hx with rfl | hx
     .exact ⟨_,rfl⟩
     .rw [gp.mp hx];exact ⟨_,rfl⟩
   exact this _ f
 .unfold oO;rw [r];rcases j with e | e | ⟨c,u,e⟩
  .rw [e];exact aX (aX<|aX ⟨rfl,aX<|by decide⟩)
  .rw [e];exact aX (aX<|aX ⟨rfl,aX<|by decide⟩)
  .rw [e];rcases zgs c u with h | ⟨h,z⟩ | ⟨h,z⟩ | ⟨h,z⟩
   .exact ba ⟨h,c,rfl⟩
   .exact aX (ba ⟨h,by rw [z]⟩)
   .exact aX<|aX<|ba ⟨h,c,z,rfl⟩
   .exact aX<|aX<|aX ⟨h,ba z⟩
inductive jZ (neg:Bool) (fill:List Nat):List It->List Nat->List eE->Prop
 | nil:jZ neg fill [] [] []
 | none {s l fg cs}(h:jZ neg fill l fg cs):jZ neg fill ((ja,s)::l) fg cs
 | plain {r s t l fg cs}(hr:(r=jp/\t=[])\/(r=mA/\t=s)\/(r=kq/\t=oG s)\/(r=gg/\t=fJ s neg)) (h:jZ neg fill l fg cs):jZ neg fill ((r,s)::l) fg (⟨r,s,t,false⟩::cs)
 | xw {r s l c fg cs}(hr:ii r=true) (h:jZ neg fill l fg cs):jZ neg fill ((r,s)::l) (c::fg) (⟨r,s,[c],false⟩::cs)
 | xx {r s l fg cs}(hr:ii r=true) (h:jZ neg fill l fg cs):jZ neg fill ((r,s)::l) (48::fg) (⟨r,s,fill,true⟩::cs)
 | vy {r s l fg cs}(hr:r=dG\/r=kq) (h:jZ neg fill l fg cs):jZ neg fill ((r,s)::l) fg (⟨r,s,fill,true⟩::cs)
structure Claim (L L2:Lay) (cs:List eE):Prop where
 f:L2.found=L.found++cs.map (·.text)
 s:(L2.fz=L.fz/\∀ c∈cs,c.sup=false)\/∃i c,cs[i]?=some c/\c.sup=true/\L2.fz=((L.found.length+i:Nat):Int)
theorem Claim.cons {L L' j:Lay}{l:List eE}{c:eE}(x:Claim L' j l) (r:L'.found=L.found++[c.text]) (u:(c.sup=false/\L'.fz=L.fz)\/(c.sup=true/\L'.fz=(L.found.length:Int))):Claim L j (c::l):=by
 refine ⟨by rw [x.f,r,lL];rfl,?_⟩;rcases x.s with ⟨a,b⟩ | ⟨i,d,a,b,e⟩
 .rcases u with ⟨p,q⟩ | ⟨p,q⟩
  .exact ba ⟨a.trans q,λd v=>(cR.mp v).elim (λz=>z▸p) (b d)⟩
  .exact aX ⟨0,c,rfl,p,a.trans q⟩
 .refine aX ⟨i+1,d,a,b,?_⟩;rw [e,r,cC,yd,Dp,yb 1 i]
theorem zgt {q:It}(h:oO q) (n:¬ii q.1=true):(q.1=jp\/q.1=ja\/q.1=dG)\/q.1=mA\/q.1=kq\/q.1=gg:=by
 rcases h with ⟨h,_⟩ | ⟨h,_⟩ | ⟨h,_⟩ | ⟨h,_⟩
 .have:∀ r∈xq,ii r=true\/r=jp\/r=ja\/r=dG:=by decide
  exact ba<|(this _ h).resolve_left n
 .exact aX<|ba h
 .exact aX<|aX<|ba h
 .exact aX<|aX<|aX h
theorem zgu {r s:List Nat}{L X:Lay}{l:List It}{fg:List Nat}{c:Nat}{f:List eE}(z:ii r=true) (p:L.bx.getD L.next 0=c) (a:jZ L.neg L.fill l fg f) (b:Claim (nO L r) X f):∃f,jZ L.neg L.fill ((r,s)::l) (c::fg) f/\Claim L X f:=by
 unfold nO at b;rw [p] at b;by_cases q:(L.cnt || (decide (r=jy) || !decide ([c]=[48])))=true
 .rw [if_pos q] at b;exact ⟨_, .xw z a,b.cons (c:=⟨r,s,[c],false⟩) rfl<|ba ⟨rfl,rfl⟩⟩
 .rw [if_neg q] at b;have j:c=48:=by
   by_cases e:[c]=[48]
   .injection e
   .exfalso;apply q;rw [decide_eq_false e];cases L.cnt <;> cases decide (r=jy) <;> rfl
  exact yx j ⟨_, .xx z a,b.cons (c:=⟨r,s,L.fill,true⟩) rfl<|aX ⟨rfl,rfl⟩⟩
theorem zgv {s:List Nat}{L X:Lay}{l:List It}{fg:List Nat}{f:List eE}(a:jZ L.neg L.fill l fg f) (b:Claim (if (L.gT && !L.cnt)=true then lB L else {L with found:=L.found++[oG s]}) X f):∃f,jZ L.neg L.fill ((kq,s)::l) fg f/\Claim L X f:=by
 by_cases q:(L.gT && !L.cnt)=true
 .rw [if_pos q] at b;exact ⟨_, .vy (aX rfl) a,b.cons (c:=⟨kq,s,L.fill,true⟩) rfl<|aX ⟨rfl,rfl⟩⟩
 .rw [if_neg q] at b;exact ⟨_, .plain (aX<|aX<|ba ⟨rfl,rfl⟩) a,b.cons (c:=⟨kq,s,oG s,false⟩) rfl<|ba ⟨rfl,rfl⟩⟩
theorem zgw {r s:List Nat}{L X:Lay}{l:List It}{fg:List Nat}{f:List eE}(j:oO (r,s)) (z:¬ii r=true) (a:jZ L.neg L.fill l fg f) (b:Claim (jA L (r,s)) X f):∃f,jZ L.neg L.fill ((r,s)::l) fg f/\Claim L X f:=by
 rcases zgt j z with (e | e | e) | e | e | e
 .cases e;exact ⟨_, .plain (ba ⟨rfl,rfl⟩) a,b.cons (c:=⟨jp,s,[],false⟩) rfl<|ba ⟨rfl,rfl⟩⟩
 .cases e;exact ⟨_, .none a,b⟩
 .cases e;exact ⟨_, .vy (ba rfl) a,b.cons (c:=⟨dG,s,L.fill,true⟩) rfl<|aX ⟨rfl,rfl⟩⟩
 .cases e;exact ⟨_, .plain (aX<|ba ⟨rfl,rfl⟩) a,b.cons (c:=⟨mA,s,s,false⟩) rfl<|ba ⟨rfl,rfl⟩⟩
 .have e:r=kq:=e;subst e;exact zgv a b
 .cases e;exact ⟨_, .plain (aX<|aX<|aX ⟨rfl,rfl⟩) a,b.cons (c:=⟨gg,s,fJ s L.neg,false⟩) rfl<|ba ⟨rfl,rfl⟩⟩
theorem zgx (l:List It) (L:Lay) (fg f:List Nat) (v:∀ q∈l,oO q) (u:L.bx.drop L.next=fg++f) (h:fg.length=jW l):∃p,jZ L.neg L.fill l fg p/\Claim L (l.foldl jA L) p:=by
 induction l generalizing L fg with
 | nil=>cases fg with
  | nil=>exact ⟨[], .nil,(of _).symm,ba ⟨rfl,λ_ h=>nomatch h⟩⟩
  | cons _ _=>cases h
 | cons q l y=>
  obtain ⟨r,s⟩:=q;have n:vb L (jA L (r,s)) _:=FN L r s;have j:∀ q∈l,oO q:=λq I=>v q<|dz _ I;by_cases z:ii r=true
  .have F:fg.length=jW l+1:=by rw [h];unfold jW;rw [rG,if_pos z]
   cases fg with
   | nil=>cases F
   | cons c fg=>
    have J:L.bx.getD L.next 0=c:=by
     have:(L.bx.drop L.next)[0]?=some c:=by rw [u];rfl
     rw [List.getElem?_drop,zjb] at this;rw [sP,this];rfl
    refine bZ (y (jA L (r,s)) fg j (by rw [n.fg,n.nx,if_pos z,<-List.drop_drop,u];rfl)<|HQ F) λp a b=>?_;rw [n.ng,n.fl] at a;exact zgu z J a<|(if_pos z:jA L (r,s)=nO L r)▸b
  .refine bZ (y (jA L (r,s)) fg j (by rw [n.fg,n.nx,if_neg z];exact u)<|by rw [h];unfold jW;rw [rG,if_neg z];rfl) λp a b=>?_;rw [n.ng,n.fl] at a;exact zgw (v _ dh) z a b
def vz (f:List Nat):Prop:=f=[32]\/f=[42]
theorem vz.f {f:List Nat}(h:vz f):f.length=1/\mG f=false/\kr (f.headD 0:Nat)=0:=by
 rcases h with rfl | rfl <;> exact ⟨rfl,rfl,rfl⟩
theorem vz.b {f:List Nat}(h:vz f):∀ x∈f,x<256:=by
 rcases h with rfl | rfl <;> decide
structure CF (neg:Bool) (fill:List Nat) (c:eE):Prop where
 l1:dt (ip c)=true->zm c
 l0:dt (ip c)=false->c.text=[]
 d45:mG c.text=true->neg=true/\c.sign∈[[43],[45]]
 fx:c.role=gg\/ji.any (·==c.sign)=true->c.text=fJ c.sign neg/\c.sup=false
 sp:c.sup=true->c.text=fill/\dt (ip c)=true/\c.sign.length=1
theorem GR {s:List Nat}(h:s.length=1):¬ji.any (·==s)=true:=λz=>by
 have:=O7 z;lia
theorem O9 {s:List Nat}(neg:Bool) (h:s∈[[36],[43],[45]]\/s∈ji):(fJ s neg).length=s.length/\0<s.length/\(mG (fJ s neg)=true->neg=true/\s∈[[43],[45]])/\∀ x∈fJ s neg,x<256:=by
 have h:s∈[[36],[43],[45],[67,82],[68,66]]:=by
  rcases h with h | h
  .exact vO [[67,82],[68,66]] h
  .exact zy [[36],[43],[45]] h
 have k:∀ neg:Bool,∀ s∈[[36],[43],[45],[67,82],[68,66]],(fJ s neg).length=s.length/\0<s.length/\(mG (fJ s neg)=true->neg=true/\s∈[[43],[45]]):=by decide
 have k2:∀ neg:Bool,∀ s∈[[36],[43],[45],[67,82],[68,66]],∀ x∈fJ s neg,x<256:=by decide
 exact iw (k neg s h) λa b c=>⟨a,b,c,k2 neg s h⟩
theorem zgy {r:List Nat}(h:ii r=true):r=jy\/r=sh\/r=lx\/r=qf:=by
 rcases ye.mp h with h | h
 .exact ba<|of_decide_eq_true h
 .rcases ye.mp h with h | h
  .rcases ye.mp h with h | h
   .exact aX<|ba<|beq_iff_eq.mp h
   .exact aX<|aX<|ba<|beq_iff_eq.mp h
  .exact aX<|aX<|aX<|beq_iff_eq.mp h
theorem Co {r s:List Nat}(h:ii r=true):dt (r,s)=true/\r≠gg:=by
 rcases zgy h with rfl | rfl | rfl | rfl <;> exact ⟨rfl,by decide⟩
theorem Pa {r s:List Nat}(h:oO (r,s)) (n:r≠gg):s.length=1:=by
 rcases h with ⟨_,c,e⟩ | ⟨_,e⟩ | ⟨_,c,_,e⟩ | ⟨e,_⟩
 .rw [show s=[c] from e];rfl
 .rw [show s=[46] from e];rfl
 .rw [show s=[c] from e];rfl
 .exact absurd e n
theorem xy {neg f:Bool}{fill r s t:List Nat}(h:oO (r,s)) (n:r≠gg) (lt:dt (r,s)=true) (j:t.length=1) (l:mG t=false) (p:∀ x∈t,x<256) (tf:f=true->t=fill):CF neg fill ⟨r,s,t,f⟩:=
 have one:=Pa h n
 ⟨λ_=>⟨by show t.length=s.length;exact WY j one,by show 0<s.length;exact Jk one,p⟩,λz=>absurd (lt.symm.trans z) (λe=>nomatch e),λz=>absurd (l.symm.trans z) (λe=>nomatch e),λz=>absurd z λz=>Or.elim z n<|GR one,λz=>⟨tf z,lt,one⟩⟩
theorem GS:∀ c∈q8,(oG [c]).length=1/\mG (oG [c])=false/\∀ x∈oG [c],x<256:=by decide
theorem zgz {neg:Bool}{fill:List Nat}(F:vz fill){l:List It}{fg:List Nat}{y:List eE}(x:jZ neg fill l fg y) (I:∀ c∈fg,48<=c/\c<=57) (j:∀ q∈l,oO q):∀ c∈y,CF neg fill c:=by
 refine iw F.f λL O Z=>?_;induction x with
 | nil=>intro c h;cases h
 | none h p=>exact p I λq u=>j q<|dz _ u
 | @plain r s t l fg y v h p=>
  intro c hc;have o:=j _ dh;rcases cR.mp hc with rfl | hc
  .rcases v with ⟨rfl,rfl⟩ | ⟨rfl,rfl⟩ | ⟨rfl,rfl⟩ | ⟨rfl,rfl⟩
   .have one:=Pa o (by decide);exact ⟨λz=>absurd (show dt (jp,s)=true from z) (λe=>(nomatch e)),λ_=>rfl,λz=>absurd z (λe=>nomatch e),λz=>absurd z (λz=>Or.elim z (λe=>absurd (show jp=gg from e)<|by decide)<|GR one),λz=>absurd z λe=>nomatch e⟩
   .rcases o with ⟨e,_⟩ | ⟨_,e⟩ | ⟨e,_⟩ | ⟨e,_⟩
    .exact absurd (show mA∈xq from e) (by decide)
    .cases e;exact xy (aX<|ba ⟨rfl,rfl⟩) (by decide) rfl rfl rfl (by decide) (λz=>nomatch z)
    .cases e
    .cases e
   .rcases o with ⟨e,_⟩ | ⟨e,_⟩ | ⟨_,c,J,e⟩ | ⟨e,_⟩
    .exact absurd (show kq∈xq from e) (by decide)
    .cases e
    .cases e;exact xy (aX<|aX<|ba ⟨rfl,c,J,rfl⟩) (by decide) rfl (GS c J).1 (GS c J).2.1 (GS c J).2.2 (λz=>nomatch z)
    .cases e
   .rcases o with ⟨e,_⟩ | ⟨e,_⟩ | ⟨e,_⟩ | ⟨_,e⟩
    .exact absurd (show gg∈xq from e) (by decide)
    .cases e
    .cases e
    .exact qK (O9 neg e) λa b d U=>⟨λ_=>⟨a,b,U⟩,λz=>absurd (show dt (gg,s)=false from z) (λe=>nomatch e),d,λ_=>⟨rfl,rfl⟩,λz=>absurd z λe=>nomatch e⟩
  .exact p I (λq u=>j q<|dz _ u) c hc
 | @xw r s l d fg y v h p=>
  intro c hc;rcases cR.mp hc with rfl | hc
  .have:=I d dh;exact xy (j _ dh) (Co (s:=s) v).2 (Co v).1 rfl (decide_eq_false<|show ¬((d:Nat):Int)=45 by exact WZ this.1) (λx W=>by rw [gp.mp W];exact W0 this.2) (λz=>nomatch z)
  .exact p (λe P=>I e<|dz _ P) (λq u=>j q<|dz _ u) c hc
 | @xx r s l fg y v h p=>
  intro c hc;rcases cR.mp hc with rfl | hc
  .exact xy (j _ dh) (Co (s:=s) v).2 (Co v).1 L O F.b (λ_=>rfl)
  .exact p (λe P=>I e<|dz _ P) (λq u=>j q<|dz _ u) c hc
 | @vy r s l fg y v h p=>
  intro c hc;rcases cR.mp hc with rfl | hc
  .rcases v with rfl | rfl
   .exact xy (j _ dh) (by decide) rfl L O F.b λ_=>rfl
   .exact xy (j _ dh) (by decide) rfl L O F.b λ_=>rfl
  .exact p I (λq u=>j q<|dz _ u) c hc
theorem zgA {neg:Bool}{fill:List Nat}{l:List It}{fg:List Nat}{j:List eE}(x:jZ neg fill l fg j):(j.map ip).filter dt=l.filter dt/\∀ q∈j.map ip,q∈l:=by
 have st:∀ (q:It) (a b:List It),(a.filter dt=b.filter dt/\∀ q∈a,q∈b)->((q::a).filter dt=(q::b).filter dt/\∀ p∈q::a,p∈q::b):=λq a b ⟨u,v⟩=>
  ⟨by rw [wi,wi,u],λp y=>(cR.mp y).elim (λe=>e▸dh) λh=>dz _<|v p h⟩
 induction x with
 | nil=>exact ⟨rfl,λ_ h=>nomatch h⟩
 | none h f=>exact ⟨f.1,λq z=>dz _<|f.2 q z⟩
 | plain r h f=>exact st _ _ _ f
 | xw r h f=>exact st _ _ _ f
 | xx r h f=>exact st _ _ _ f
 | vy r h f=>exact st _ _ _ f
theorem zgB {neg:Bool}{fill:List Nat}(F:vz fill){l:List It}{fg:List Nat}{p:List eE}(x:jZ neg fill l fg p):∀ u,p.foldl jB u=nW u fg:=by
 refine iw F.f λ_ _ y=>?_;have no:∀ {c:eE}{p:List eE}{fg:List Nat},ii c.role=false->(∀ u,p.foldl jB u=nW u fg)->∀ u,(c::p).foldl jB u=nW u fg:=λ{c p fg} h j u=>by
  rw [iH,show jB u c=u from if_neg (ne_true_of_eq_false h)];exact j u
 have v:∀ {c:eE}{d:Nat}{p:List eE}{fg:List Nat},ii c.role=true->kr (c.text.headD 0:Nat)=kr (d:Nat)->(∀ u,p.foldl jB u=nW u fg)->∀ u,(c::p).foldl jB u=nW u (d::fg):=λ{c d p fg} h e j u=>by
  rw [iH,show jB u c=u*10+kr (c.text.headD 0:Nat) from if_pos h,e];exact j _
 induction x with
 | nil=>intro u;rfl
 | none h j=>exact j
 | plain r h j=>
  refine no ?_ j;rcases r with ⟨rfl,_⟩ | ⟨rfl,_⟩ | ⟨rfl,_⟩ | ⟨rfl,_⟩ <;> rfl
 | xw r h j=>exact v r rfl j
 | xx r h j=>exact v r y j
 | vy r h j=>
  refine no ?_ j;rcases r with rfl | rfl <;> rfl
theorem zgC {neg:Bool}{fill s:List Nat}{l:List It}{fg:List Nat}{p:List eE}(x:jZ neg fill l fg p) (h:(dG,s)∈l):∃c∈p,c.sup=true:=by
 induction x with
 | nil=>cases h
 | none _ f=>exact f ((cR.mp h).resolve_left (by intro e;cases e))
 | plain j _ f=>
  rcases cR.mp h with e | h
  .injection e with e _
   subst e;rcases j with ⟨z,_⟩ | ⟨z,_⟩ | ⟨z,_⟩ | ⟨z,_⟩ <;> cases z
  .obtain ⟨c,a,b⟩:=f h;exact ⟨c,dz _ a,b⟩
 | xw j _ f=>
  rcases cR.mp h with e | h
  .injection e with e _
   subst e;cases j
  .obtain ⟨c,a,b⟩:=f h;exact ⟨c,dz _ a,b⟩
 | xx j _ f=>exact ⟨_,dh,rfl⟩
 | vy j _ f=>exact ⟨_,dh,rfl⟩
theorem zgD {neg:Bool}{fill s:List Nat}{l:List It}{fg:List Nat}{j:List eE}(x:jZ neg fill l fg j) (h:(gg,s)∈l):∃c∈j,ip c=(gg,s):=by
 have st:∀ {c:eE}{q:It}{l:List It}{j:List eE},ip c=q->(gg,s)∈q::l->((gg,s)∈l->∃c∈j,ip c=(gg,s))->∃d∈c::j,ip d=(gg,s):=λ{c q l j} e h f=>by
  rcases cR.mp h with z | h
  .exact ⟨c,dh,e.trans z.symm⟩
  .obtain ⟨c,a,b⟩:=f h;exact ⟨c,dz _ a,b⟩
 induction x with
 | nil=>cases h
 | none _ f=>exact f ((cR.mp h).resolve_left (by intro e;cases e))
 | plain p _ f=>exact st rfl h f
 | xw p _ f=>exact st rfl h f
 | xx p _ f=>exact st rfl h f
 | vy p _ f=>exact st rfl h f
theorem Pb {r s:List Nat}(h:dt (r,s)=false):ii r=false:=by
 unfold dt at h;have h:[jp,ja].any (·==r)=true:=by
  cases z:[jp,ja].any (·==r) with
  | true=>rfl
  | false=>rw [show (r,s).1=r from rfl,z] at h;cases h
 refine bZ (o5.mp h) λx f e=>?_;rw [<-beq_iff_eq.mp e];have:∀ x∈[jp,ja],ii x=false:=by decide
 exact this x f
theorem GT:∀ (f:List eE) (u:Int),(f.filter λc=>dt<|ip c).foldl jB u=f.foldl jB u
 | [],_=>rfl
 | c::r,u=>by
  rw [wi,iH];cases z:dt (ip c) with
  | true=>rw [if_pos rfl,iH,GT r]
  | false=>rw [if_neg je,GT r,show jB u c=u from if_neg (ne_true_of_eq_false<|Pb z)]
theorem Pc:∀ (f:List eE),(∀ c∈f,dt (ip c)=false->c.text=[])->((f.filter λc=>dt<|ip c).map (·.text)).flatten=(f.map (·.text)).flatten
 | [],_=>rfl
 | c::r,h=>by
  have j:=Pc r λc l=>h c<|dz _ l;rw [wi,eF,lj];cases z:dt (ip c) with
  | true=>rw [if_pos rfl,eF,lj,j]
  | false=>rw [if_neg je,j,h c dh z];rfl
theorem Pd (f:List eE):(f.filter λc=>dt<|ip c).map ip=(f.map ip).filter dt:=by
 rw [List.filter_map];rfl
theorem zgE {f:List eE}{c:eE}(j:Nat) (h:c∈f):∃k,(⟨c.role,c.sign,k⟩:Row)∈pI j f:=by
 induction f generalizing j with
 | nil=>exact nomatch h
 | cons d r l=>
  rw [zk];rcases cR.mp h with rfl | h
  .exact ⟨j,dh⟩
  .exact (l (j+d.sign.length) h).imp λk p=>dz _ p
def tU (aA:List (List Nat)):Bool:=qg ((gm aA).foldl jK ([],0)).1
theorem zgF {l:List It}{f:List eE}(k:f.map ip=l.filter dt){s:List Nat}(h:(dG,s)∈l) (hs:s∈[[43],[45]]):qg (l.foldl jK ([],0)).1=true:=by
 rw [xo l [] 0 f k,CM];have r:(dG,s)∈f.map ip:=by rw [k];exact Ai.mpr ⟨h,rfl⟩
 refine bZ (kF.mp r) λd u e=>?_;injection e with v y
 obtain ⟨j,p⟩:=zgE 0 u;rw [v,y] at p;have F:mU ⟨dG,s,j⟩=some (.str s):=by
  unfold mU;have:∀ s∈[[43],[45]],[43,45].contains (s.headD 0)=true:=by decide
  rw [decide_eq_true (rfl:dG=dG),this s hs];rfl
 have:=RR.mpr ⟨_,p,F⟩;unfold qg;cases z:(pI 0 f).filterMap mU with
 | nil=>rw [z] at this;cases this
 | cons _ _=>rfl
theorem Cp {aA:List (List Nat)}{s:List Nat}(h:s∈aA) (hs:s∈[[43],[45],[67,82],[68,66]]):eO aA=true:=
 o5.mpr ⟨s,h,o5.mpr ⟨s,hs,beq_iff_eq.mpr rfl⟩⟩
theorem Pe {aA:List (List Nat)}(h:eO aA=true):∃s∈aA,s∈[[43],[45],[67,82],[68,66]]:=bZ (o5.mp h) λs f j=>bZ (o5.mp j) λx l e=>⟨s,f,beq_iff_eq.mp e▸l⟩
theorem zgG {aA:List (List Nat)}{s:List Nat}(h:s∈aA) (hs:s∈[[43],[45],[67,82],[68,66]]) (n:s≠de aA):(gg,s)∈gm aA:=by
 have e:=xm (de aA) aA false;rw [<-e] at h;refine bZ (kF.mp h) λq j f=>?_;subst f;rcases (pH _ _ _ q j).2 with ⟨z,_⟩ | ⟨_,z⟩
 .exact absurd z n
 .have:∀ s∈[[43],[45],[67,82],[68,66]],lA s=gg:=by decide
  have z:=z.trans<|this _ hs;rw [<-z];exact j
theorem Pf {aA:List (List Nat)}{fg:List Nat}{neg p:Bool}{f:List eE}(K:(f.map ip).filter dt=(gm aA).filter dt) (r:∀ c∈f,dt (ip c)=true->zm c) (u:∀ c∈f,dt (ip c)=false->c.text=[])
  (U:f.foldl jB 0=nW 0 fg) (v:∀ c∈f,lS p c=true->neg=true/\eO aA=true) (y:neg=true->eO aA=true->∃c∈f,dt (ip c)=true/\lS p c=true):
  ∃l,rg (gm aA) l/\(f.map (·.text)).flatten=(l.map (·.text)).flatten/\l.foldl jB 0=nW 0 fg/\l.any (lS p)=(neg && eO aA):=by
 refine ⟨f.filter λc=>dt<|ip c,⟨(Pd f).trans K,λc j=>?_⟩,(Pc f u).symm,(GT f 0).trans U,?_⟩
 .obtain ⟨a,b⟩:=Ai.mp j;exact r c a b
 .refine vR.mpr ⟨λh=>?_,λh=>?_⟩
  .refine bZ (o5.mp h) λc j e=>?_;obtain ⟨a,b⟩:=v c (Ai.mp j).1 e;rw [a,b];rfl
  .obtain ⟨a,b⟩:=jl.mp h;exact fX (y a b) λc j z F=>o5.mpr ⟨c,Ai.mpr ⟨j,z⟩,F⟩
theorem zik {s:List Nat}{neg:Bool}(h:ji.any (·==s)=true) (e:fJ s neg=s):neg=true/\s∈[[43],[45],[67,82],[68,66]]:=by
 refine bZ (o5.mp h) λx f z=>?_;rw [<-beq_iff_eq.mp z] at e ⊢;have:∀ neg:Bool,∀ s∈ji,fJ s neg=s->neg=true/\s∈[[43],[45],[67,82],[68,66]]:=by decide
 exact this neg x f e
theorem Pg {s:List Nat}(h:s∈[[43],[45]]):s∈[[43],[45],[67,82],[68,66]]:=vO [[67,82],[68,66]] h
set_option tactic.hygienic true in
theorem Pi {l neg:Bool}{fill:List Nat}{c:eE}{aA:List (List Nat)}(x:CF neg fill c) (j:c.sign∈aA) (h:lS l c=true):neg=true/\eO aA=true:=by
 have f:mG c.text=true->neg=true/\eO aA=true:=λz=>let ⟨a,b⟩:=x.d45 z;⟨a,Cp j<|Pg b⟩;rcases ye.mp h with h | h
 .split at h
  .rename_i z;have e:=of_decide_eq_true h;rw [(x.fx<|aX z).1] at e;obtain ⟨a,b⟩:=zik z e;exact ⟨a,Cp j b⟩
  .exact f (jl.mp h).2
 .exact f (jl.mp h).2
theorem zgH {j neg:Bool}{fill:List Nat}{c:eE}(x:CF neg fill c) (f:c.role=gg) (l:neg=true) (hs:c.sign∈[[43],[45],[67,82],[68,66]]):lS j c=true:=by
 have e:=(x.fx<|ba f).1;have k:∀ s∈[[43],[45],[67,82],[68,66]],(ji.any (·==s)=true/\fJ s true=s)\/(¬ji.any (·==s)=true/\mG (fJ s true)=true):=by decide
 rw [l] at e;unfold lS;rcases k _ hs with ⟨a,b⟩ | ⟨a,b⟩
 .rw [if_pos a,e,decide_eq_true b];rfl
 .rw [if_neg a,e,b,decide_eq_true f];rfl
theorem Pj {aA:List (List Nat)}(h:(cu aA).any (·==dG)=true):aA.getD (qU<|cu aA) []=de aA/\(dG,de aA)∈gm aA:=by
 have f:(cu aA).findIdx (·==dG)<(cu aA).length:=R7 (by simpa using h);have r:(cu aA)[(cu aA).findIdx (·==dG)]=dG:=beq_iff_eq.mp<|List.findIdx_getElem (w:=f);have u:=GQ aA;have y:(gm aA).map (·.2)=aA:=xm (de aA) aA false;unfold qU;generalize (cu aA).findIdx (·==dG)=n at f r;have j:n<(gm aA).length:=by rw [u,cN] at f;exact f
 have l:(gm aA)[n].1=dG:=by
  have:(cu aA)[n]?=some dG:=by rw [lJ f,r]
  rw [u,pQ,lJ j] at this;exact kH this
 have v:aA.getD n []=(gm aA)[n].2:=by
  have:aA[n]?=some (gm aA)[n].2:=by
   conv=>lhs;rw [<-y]
   rw [pQ,lJ j];rfl
  rw [sP,this];rfl
 have p:=vW j;generalize (gm aA)[n]=q at l v p;obtain ⟨_,⟨a,_⟩ | ⟨_,b⟩⟩:=pH _ _ _ q p
 .rw [v,a];refine ⟨rfl,?_⟩;rw [<-l,<-a];exact p
 .have:=(O2 q.2).1;rw [<-b,l] at this;cases this
theorem GU {f:Type}{l:List f}{i:Nat}{a b:f}(h:a∈l.set i b):a∈l\/a=b:=List.mem_or_eq_of_mem_set h
theorem zgI {f:Type}{l:List f}{i:Nat}{a b c:f}(h:l[i]?=some c) (hm:a∈l) (n:a≠c):a∈l.set i b:=by
 induction l generalizing i with
 | nil=>exact nomatch hm
 | cons x r j=>cases i with
  | zero=>exact dz _<|(cR.mp hm).resolve_left (kH h▸n)
  | succ i=>
   rcases cR.mp hm with e | hm
   .exact e▸dh
   .exact dz _<|j (i:=i) h hm
theorem zgJ {j p:Type}(f:j->p){l:List j}{i:Nat}{b c:j}(h:l[i]?=some c) (e:f b=f c):(l.set i b).map f=l.map f:=by
 induction l generalizing i with
 | nil=>rfl
 | cons x r u=>cases i with
  | zero=>exact congrArg (·::r.map f)<|e.trans<|congrArg f (kH h).symm
  | succ i=>exact congrArg (f x::·)<|u (i:=i) h
theorem zgK {j p:Type}(f:p->j->p){l:List j}{i:Nat}{b c:j}(u:p) (h:l[i]?=some c) (e:∀ u,f u b=f u c):(l.set i b).foldl f u=l.foldl f u:=by
 induction l generalizing i u with
 | nil=>rfl
 | cons x r v=>cases i with
  | zero=>exact congrArg (r.foldl f)<|(e u).trans (congrArg (f u) (kH h).symm)
  | succ i=>exact v (i:=i) (f u x) h
theorem zgL:∀ neg:Bool,∀ s∈[[36],[43],[45]],(fJ s neg).length=1/\kr ((fJ s neg).headD 0:Nat)=0/\(mG (fJ s neg)=true->neg=true/\s∈[[43],[45]]):=by decide
theorem zgM:∀ neg:Bool,∀ s∈[[36],[43],[45]],∀ x∈fJ s neg,x<256:=by decide
theorem zgN:∀ s∈[[36],[43],[45]],s∈[[43],[45],[67,82],[68,66]]->s∈[[43],[45]]/\mG (fJ s true)=true:=by decide
abbrev GV (aA:List (List Nat)) (fg:List Nat) (neg:Bool):Prop:=∀ (j:∀ s∈aA,gk s) (l:∀ c∈fg,48<=c/\c<=57) (p:fg.length=jW (gm aA)),∃f,rg (gm aA) f/\(mf aA fg neg).flatten=(f.map (·.text)).flatten/\f.foldl jB 0=nW 0 fg/\f.any (lS<|tU aA)=(neg && eO aA)
abbrev Pk (t:List (List Nat)×Bool×List Nat):Prop:=GV t.1 t.2.2 t.2.1
@[irreducible] noncomputable def jr:List (List Nat)×Bool×List Nat:=nB (bM,bM,bM) Pk
@[irreducible] noncomputable def fU:List (List Nat):=jr.1
theorem zgO:GV fU jr.2.2 jr.2.1:=by
 intro ok dg hl;have io:=xt ok;have F:vz (if (cu fU).any (·==lx)=true then [42] else [32]):=by
  split
  .exact aX rfl
  .exact ba rfl
 refine bZ (zgx (gm fU) (qu jr.2.2 jr.2.1 (if (cu fU).any (·==lx)=true then [42] else [32])) jr.2.2 [] io (of _).symm hl) λL x cl=>?_;have ff:(jJ (cu fU) fU jr.2.2 jr.2.1).found=L.map (·.text):=by
  unfold jJ;rw [xn];exact cl.f
 have Z:=cl.s;rw [<-xn] at Z;change ((jJ (cu fU) fU jr.2.2 jr.2.1).fz=_/\_)\/(∃i c,_/\_/\(jJ (cu fU) fU jr.2.2 jr.2.1).fz=_) at Z;generalize (if (cu fU).any (·==lx)=true then [42] else [32])=fill at F x;have r:=zgz F x dg io;obtain ⟨K,sub⟩:=zgA x;have U:=zgB F x 0;have sg:∀ c∈L,c.sign∈fU:=λc p=>(pH _ _ _ _<|sub _<|xW p).1;have v:∀ s∈fU,s∈[[43],[45],[67,82],[68,66]]->s≠de fU->jr.2.1=true->∃c∈L,c.sup=false/\dt (ip c)=true/\lS (tU fU) c=true:=by
  refine λs hs y n I=>bZ (zgD x<|zgG hs y n) λc p e=>?_;injection e with e1 e2
  have C:=r c p;refine ⟨c,p,(C.fx<|ba e1).2,by unfold ip;rw [e1];rfl,zgH C e1 I<|by rw [e2];exact y⟩
 unfold mf;rw [ff];by_cases z:(cu fU).any (·==dG)=true
 .rw [if_pos z];obtain ⟨z1,W⟩:=Pj z;rw [z1];refine bZ (zgC x W) λc1 a0 O=>?_;rcases Z with ⟨_,no⟩ | ⟨i,c,P,su,es⟩
  .rw [no c1 a0] at O;cases O
  have p:c∈L:=CN P;have C:=r c p;refine iw (C.sp su) λs1 s2 s3=>?_;have J:de fU∈[[36],[43],[45]]:=by
   rcases zn fU with f | ⟨_,f⟩
   .have:=ok _ (pH _ _ _ _ W).1;rw [show (dG,de fU).2=de fU from rfl,f] at this;exact absurd (qW this.ok).1 (by decide)
   .exact f
  refine iw (zgL jr.2.1 _ J) λt1 t2 t3=>?_;have a1:de fU∈fU:=(pH _ _ _ _ W).1;have ei:(jJ (cu fU) fU jr.2.2 jr.2.1).fz.toNat=i:=by
   rw [es,jm];exact pR i
  rw [ei,show fJ (de fU) jr.2.1=(⟨c.role,c.sign,fJ (de fU) jr.2.1,true⟩:eE).text from rfl,<-R8];have a2:lS (tU fU) ⟨c.role,c.sign,fJ (de fU) jr.2.1,true⟩=true->jr.2.1=true/\eO fU=true:=λh=>by
   have k:mG (fJ (de fU) jr.2.1)=true:=by
    unfold lS at h;rw [if_neg<|GR s3] at h;rcases ye.mp h with h | h
    .exact (jl.mp h).2
    .exact (jl.mp h).2
   obtain ⟨a,b⟩:=t3 k;exact ⟨a,Cp a1<|Pg b⟩
  refine Pf ?_ ?_ ?_ ?_ ?_ ?_
  .rw [zgJ ip (b:=⟨c.role,c.sign,fJ (de fU) jr.2.1,true⟩) P rfl];exact K
  .intro d j l;rcases GU j with j | rfl
   .exact (r d j).l1 l
   .exact ⟨by show (fJ (de fU) jr.2.1).length=c.sign.length;rw [t1,s3],by show 0<c.sign.length;exact Jk s3,zgM jr.2.1 _ J⟩
  .intro d j l;rcases GU j with j | rfl
   .exact (r d j).l0 l
   .rw [show dt (ip ⟨c.role,c.sign,fJ (de fU) jr.2.1,true⟩)=dt (ip c) from rfl,s2] at l;cases l
  .rw [zgK jB 0 P ?_];exact U;intro u;unfold jB;rw [t2,s1,F.f.2.2]
  .intro d j m;rcases GU j with j | rfl
   .exact Pi (r d j) (sg d j) m
   .exact a2 m
  .refine λI hh=>bZ (Pe hh) λs hs y=>?_;by_cases e:s=de fU
   .rw [e] at y;obtain ⟨a,b⟩:=zgN _ J y;rw [<-I] at b;refine ⟨⟨c.role,c.sign,fJ (de fU) jr.2.1,true⟩,List.mem_set (by exact (ug.mp P).1) _,s2,?_⟩;have fm:tU fU=true:=by
     have k2:=(Pd L).trans K;exact zgF k2 W a
    unfold lS;rw [fm,b,Du,I,zkf]
   .refine nF (v s hs y e I) λd j n l m=>?_;exact ⟨d,zgI P j (λz=>by rw [z,su] at n;cases n),l,m⟩
 .rw [if_neg z];refine Pf K (λc p=>(r c p).l1) (λc p=>(r c p).l0) U (λc p m=>Pi (r c p) (sg c p) m) λI hh=>bZ (Pe hh) λs hs y=>?_;by_cases e:s=de fU
  .refine absurd ?_ z;have:=O4 (de fU) fU<|e▸hs;rw [GQ];exact o5.mpr ⟨dG,kF.mpr ⟨_,this,rfl⟩,rfl⟩
  .exact nF (v s hs y e I) λd j _ l m=>⟨d,j,l,m⟩
theorem Pl {aA:List (List Nat)}{fg:List Nat}{neg:Bool}:GV aA fg neg:=on (P:=Pk) (by with_unfolding_all exact zgO) (aA,neg,fg)
theorem zgP {aA:List (List Nat)}(p:∀ s∈aA,gk s) (q:It) (u:q∈gm aA):(if dt q=true then q.2.length else 0)=qo q.2:=by
 obtain ⟨j,v⟩:=pH _ _ _ q u;have j:=p _ j;unfold qo;rcases v with ⟨e,r⟩ | ⟨_,r⟩
 .have l:dt q=true:=by
   unfold dt;rcases r with r | r <;> rw [r] <;> rfl
  rw [if_pos l];rcases zn aA with f | ⟨_,f⟩
  .rw [e,f] at j;exact absurd (qW j.ok).1 (by decide)
  .have:∀ s∈[[36],[43],[45]],¬[[80],[83],[86]].any (·==s)=true:=by decide
   rw [if_neg<|by rw [e];exact this _ f]
 .unfold dt;rw [r];rcases j with e | e | ⟨c,y,e⟩
  .rw [e];rfl
  .rw [e];rfl
  .rw [e];have:∀ c∈vj,(if (!([jp,ja].any (·==lA [c])))=true then [c].length else 0)=(if [[80],[83],[86]].any (·==[c])=true then 0 else [c].length):=by decide
   exact this c y
theorem Pm:∀ (l:List It) (g:List Nat->Nat),(∀ q∈l,(if dt q=true then q.2.length else 0)=g q.2)->((l.filter dt).map λq=>q.2.length).sum=((l.map (·.2)).map g).sum
 | [],g,_=>rfl
 | q::r,g,h=>by
  have f:=Pm r g λq j=>h q<|dz _ j;have e:=h q dh;rw [eF,eF,uu,<-f,<-e,wi];by_cases z:dt q=true
  .rw [if_pos z,if_pos z,eF,uu]
  .rw [if_neg z,if_neg z,pR]
theorem Cq {aA:List (List Nat)}(f:∀ s∈aA,gk s):((gm aA).filter dt |>.map λq=>q.2.length).sum=dT (b7 aA):=by
 rw [Qv,Pm _ qo<|zgP f];have e:=xm (de aA) aA false;change (gm aA).map (·.2)=aA at e;rw [e]
structure Pn (tx:It->List Nat) (l:List It):Prop where
 l:∀ q∈l,dt q=true->(tx q).length=q.2.length/\(∀ x∈tx q,x<256)/\kr ((tx q).headD 0:Nat)=0/\mG (tx q)=false/\(ji.any (·==q.2)=true->tx q≠q.2)
noncomputable def rh (tx:It->List Nat) (q:It):eE:=⟨q.1,q.2,tx q,false⟩
theorem len_pos {q:It}(h:oO q):0<q.2.length:=by
 rcases h with ⟨_,c,e⟩ | ⟨_,e⟩ | ⟨_,c,_,e⟩ | ⟨_,e⟩
 .rw [e];exact Si
 .rw [e];exact Si
 .rw [e];exact Si
 .exact (O9 false e).2.1
set_option tactic.hygienic true in
theorem GW {tx:It->List Nat}{l:List It}(x:Pn tx l) (y:∀ q∈l,oO q) (F:Bool):
  rg l ((l.filter dt).map (rh tx))/\((l.filter dt).map (rh tx)).foldl jB 0=0/\((l.filter dt).map (rh tx)).any (lS F)=false:=by
 have p:∀ q∈l.filter dt,q∈l/\dt q=true:=λq f=>Ai.mp f;refine ⟨⟨?_,λc v=>?_⟩,?_,?_⟩
 .rw [lm];exact RI _
 .refine bZ (kF.mp v) λq f j=>?_;subst j;obtain ⟨a,b⟩:=p q f;exact iw (x.l q a b) λI J _=>⟨I,len_pos<|y q a,J⟩
 .have:∀ u:List It,(∀ q∈u,kr ((tx q).headD 0:Nat)=0)->(u.map<|rh tx).foldl jB 0=0:=by
   intro u;induction u with
   | nil=>intro _;rfl
   | cons q r L=>
    intro h;rw [eF,iH];have e:jB 0 (rh tx q)=0:=by
     unfold jB rh;rw [h q dh];split <;> rfl
    rw [e];exact L λq f=>h q<|dz _ f
  exact this _ λq f=>(x.l q (p q f).1 (p q f).2).2.2.1
 .refine Rq.mpr λc v=>bZ (kF.mp v) λq f j=>?_;subst j;refine D6 (x.l q (p q f).1 (p q f).2) λ_ _ _ O P=>?_;unfold lS rh;rw [O,rI,rI,yc];split
  .rename_i z;rw [decide_eq_false<|P z];decide
  .decide
theorem Qz:∀ n:Nat,nW 0 (bY n 48)=0
 | 0=>rfl
 | n+1=>by rw [pO];exact Qz n
theorem zgQ (l:List It) (c:Nat):((l.map λq=>bY q.2.length c)).flatten=bY (l.map λq=>q.2.length).sum c:=by
 induction l with
 | nil=>rfl
 | cons q r f=>rw [eF,lj,f,eF,uu,List.replicate_append_replicate]
noncomputable def rj (c:Nat) (q:It):List Nat:=bY q.2.length c
theorem GX {l:List It}(j:∀ q∈l,oO q){c:Nat}(f:c=32\/c=42) (q:It) (r:q∈l):(rj c q).length=q.2.length/\(∀ x∈rj c q,x<256)/\kr ((rj c q).headD 0:Nat)=0/\mG (rj c q)=false/\(ji.any (·==q.2)=true->rj c q≠q.2):=by
 have p:=len_pos<|j q r;unfold rj;refine ⟨kJ,λx u=>?_,?_,?_,λz e=>?_⟩
 .rw [Ij u];rcases f with rfl | rfl <;> decide
 .cases e:q.2.length with
  | zero=>lia
  | succ n=>rcases f with rfl | rfl <;> rfl
 .cases e:q.2.length with
  | zero=>lia
  | succ n=>rcases f with rfl | rfl <;> rfl
 .refine bZ (o5.mp z) λy v F=>?_;rw [<-beq_iff_eq.mp F] at e;have:∀ c∈[32,42],∀ y∈ji,bY y.length c≠y:=by decide
  exact this c (by rcases f with rfl | rfl <;> decide) y v e
theorem zgR {l:List It}(f:∀ q∈l,oO q):Pn oJ l:=by
 refine ⟨λq j z=>?_⟩;have z:[jp,ja].any (·==q.1)=false:=by
  unfold dt at z;cases e:[jp,ja].any (·==q.1) with
  | true=>rw [e] at z;cases z
  | false=>rfl
 unfold oJ;rw [if_neg<|ne_true_of_eq_false z];by_cases p:q.1=mA
 .rw [if_pos p];have e:q.2=[46]:=by
   rcases f q j with ⟨h,_⟩ | ⟨_,h⟩ | ⟨h,_⟩ | ⟨h,_⟩
   .rw [p] at h;exact absurd h (by decide)
   .exact h
   .rw [p] at h;cases h
   .rw [p] at h;cases h
  rw [e];exact ⟨rfl,by decide,rfl,rfl,λz=>absurd z<|by decide⟩
 .rw [if_neg p];exact GX f (aX rfl) q j
theorem Po:∀ l:List It,(l.map oJ).flatten=(((l.filter dt).map (rh oJ)).map (·.text)).flatten
 | []=>rfl
 | q::r=>by
  rw [eF,lj,Po r,wi];unfold dt;cases e:[jp,ja].any (·==q.1) with
  | true=>
   rw [show oJ q=[] from if_pos e];rw [if_neg<|by decide];rfl
  | false=>rw [if_pos (by rfl),eF,eF,lj];rfl
structure xI (aA:List (List Nat)) (oct:List Nat) (v:Int) (m:Bool):Prop where
 u:oK (jL aA).1 oct=v
 m:qV (jL aA).1 oct=m
 l:oct.length=dT (b7 aA)
 b:∀ x∈oct,x<256
theorem GY (aA:List (List Nat)):jL aA=(gm aA).foldl jK ([],0):=by unfold jL;rw [xn]
theorem GZ {aA:List (List Nat)}{f:List eE}{v:Int}{m:Bool}(p:∀ s∈aA,gk s) (T:rg (gm aA) f) (r:f.foldl jB 0=v) (u:f.any (lS<|tU aA)=m):xI aA (f.map (·.text)).flatten v m:=by
 refine ⟨?_,?_,?_,λx j=>?_⟩
 .rw [GY,T.units,r]
 .rw [GY,T.minus];exact u
 .rw [T.len,Cq p]
 .refine bZ (Sb.mp j) λt y j=>bZ (kF.mp y) λc z l=>?_;subst l;exact (T.n c z).b x j
theorem G0 {aA:List (List Nat)}(f:∀ s∈aA,gk s):xI aA (bY (dT<|b7 aA) 32) 0 false:=by
 have j:=xt f;refine iw (GW (tx:=rj 32) ⟨λq l _=>GX j (ba rfl) q l⟩ j<|tU aA) λa b c=>?_;have r:=GZ f a b c;have e:(((gm aA).filter dt).map (rh<|rj 32)).map (·.text)=((gm aA).filter dt).map λq=>bY q.2.length 32:=by rw [lm];rfl
 rw [e,zgQ,Cq f] at r;exact r
theorem zgS {aA:List (List Nat)}{fg:List Nat}{neg:Bool}(f:∀ s∈aA,gk s) (l:∀ c∈fg,48<=c/\c<=57) (p:fg.length=jW (gm aA)) (hz:fg=bY fg.length 48->neg=false):
  xI aA (pA aA (dT<|b7 aA) fg neg false) (nW 0 fg) (neg && eO aA):=by
 have j:xI aA (mf aA fg neg).flatten (nW 0 fg) (neg && eO aA):=by
  refine nF (Pl (neg:=neg) f l p) λr a b c d=>?_;rw [b];exact GZ f a c d
 unfold pA;by_cases z:fg=bY fg.length 48
 .rw [if_pos z,if_neg je];by_cases q:(cu aA).any (·==jy)=true
  .rw [if_pos q];exact j
  .rw [if_neg q,hz z,zT];have v0:nW 0 fg=0:=by rw [z];exact Qz _
   rw [v0];unfold u8;by_cases s:(cu aA).any (·==lx)=true
   .rw [if_pos s,xn,Po];exact iw (GW (zgR<|xt f) (xt f)<|tU aA) λa b c=>GZ f a b c
   .rw [if_neg s];exact G0 f
 .rw [if_neg z];exact j
section
theorem zgT (L:Lay) (b:Bool) (q:It) (h:q.1=gg->fJ q.2 b=fJ q.2 L.neg):jA {L with neg:=b} q={jA L q with neg:=b}:=by
 have f:nO {L with neg:=b} q.1={nO L q.1 with neg:=b}:=by
  unfold nO;dsimp only;split <;> rfl
 unfold jA nP;by_cases l:(decide (q.1=jy) || ly q.1)=true
 .rw [if_pos l,if_pos l];exact f
 rw [if_neg l,if_neg l];by_cases p:q.1=dG
 .rw [if_pos p,if_pos p];rfl
 rw [if_neg p,if_neg p];by_cases r:(decide (q.1=kq) && (L.gT && !L.cnt))=true
 .rw [if_pos r,if_pos r];rfl
 rw [if_neg r,if_neg r];by_cases u:q.1=kq
 .rw [if_pos u,if_pos u]
 rw [if_neg u,if_neg u];by_cases j:q.1=gg
 .rw [if_pos j,if_pos j,h j]
 rw [if_neg j,if_neg j];by_cases v:q.1≠ja
 .rw [if_pos v,if_pos v]
 .rw [if_neg v,if_neg v]
theorem Pq:∀ (l:List It) (L:Lay) (b:Bool),(∀ q∈l,q.1=gg->fJ q.2 b=fJ q.2 L.neg)->l.foldl jA {L with neg:=b}={l.foldl jA L with neg:=b}
 | [],_,_,_=>rfl
 | q::r,L,b,h=>by
  rw [iH,iH,zgT L b q<|h q dh];refine Pq r (jA L q) b λp f e=>?_;rw [show (jA L q).neg=L.neg from (FN L q.1 q.2).ng];exact h p (dz _ f) e
theorem zgU {aA:List (List Nat)}{fg:List Nat}(p:∀ s∈aA,gk s) (hs:eO aA=false):mf aA fg true=mf aA fg false:=by
 have no:∀ s∈aA,s∈[[36],[43],[45]]\/s∈ji->s=[36]:=λs u l=>by
  have n:¬s∈[[43],[45],[67,82],[68,66]]:=λz=>by rw [Cp u z] at hs;cases hs
  have l:s∈[[36],[43],[45],[67,82],[68,66]]:=by
   rcases l with h | h
   .exact vO [[67,82],[68,66]] h
   .exact zy [[36],[43],[45]] h
  exact (cR.mp l).resolve_right n
 have v:∀ q∈gm aA,q.1=gg->fJ q.2 true=fJ q.2 false:=λq r e=>by
  have j:=(pH _ _ _ q r).1;rcases xt p q r with ⟨h,_⟩ | ⟨h,_⟩ | ⟨h,_⟩ | ⟨_,h⟩
  .rw [e] at h;exact absurd h (by decide)
  .rw [e] at h;cases h
  .rw [e] at h;cases h
  .rw [no _ j h];rfl
 have L:jJ (cu aA) aA fg true={jJ (cu aA) aA fg false with neg:=true}:=by
  unfold jJ;rw [xn];exact Pq _ (qu fg false _) true v
 unfold mf;rw [L];by_cases z:(cu aA).any (·==dG)=true
 .rw [if_pos z,if_pos z];obtain ⟨y,F⟩:=Pj z;have j:=(pH _ _ _ _ F).1;have e:de aA=[36]:=by
   refine no _ j<|ba ?_;rcases zn aA with f | ⟨_,f⟩
   .have:=p _ j;rw [show (dG,de aA).2=de aA from rfl,f] at this;exact absurd (qW this.ok).1 (by decide)
   .exact f
  rw [y,e];rfl
 .rw [if_neg z,if_neg z]
theorem zgV {aA:List (List Nat)}{fg:List Nat}{f:Nat}{neg:Bool}(j:∀ s∈aA,gk s) (h:neg=true->eO aA=false):pA aA f fg neg false=pA aA f fg (neg && eO aA) false:=by
 cases neg with
 | false=>rfl
 | true=>
  rw [h rfl];unfold pA;rw [zgU j<|h rfl];rfl
variable {aA:List (List Nat)}{Dg:Nat}{sc:Int}
def mZ (aA:List (List Nat)) (d:Int×Int) (v:Nat):Int:=if (decide (d.1<0) && eO aA)=true then -(v:Int) else v
theorem Pr (d:Int×Int) (sc:Int) (D:Nat):eS d sc D<10 ^ D:=Ia _ (Ah<|by decide)
theorem zo (d:Int×Int) (f:Bool):iO (b7 aA) Dg sc (dT<|b7 aA) d f=pA aA (dT<|b7 aA) (bx Dg<|eS d sc Dg) (decide (d.1<0) && decide (0<eS d sc Dg)) f:=by
 unfold iO;rw [sv]
theorem Cr (f:∀ s∈aA,gk s) (n:jW (gm aA)=Dg) (d:Int×Int):xI aA (iO (b7 aA) Dg sc (dT<|b7 aA) d false) (eS d sc Dg:Nat) ((decide (d.1<0) && decide (0<eS d sc Dg)) && eO aA):=by
 rw [zo];have lt:=Pr d sc Dg;generalize eS d sc Dg=v at lt;have:=zgS (fg:=bx Dg v) (neg:=decide (d.1<0) && decide (0<v)) f (Cn Dg v) (by rw [wS,n]) λz=>by
  rw [wS] at z;rw [(OW Dg v lt).mp z,decide_eq_false<|CT 0,rI]
 rw [OV,Sj lt] at this;exact this
theorem Ps {oct:List Nat}{v:Int}{m:Bool}(r:xI aA oct v m):tJ (b7 aA) oct=if m=true then -v else v:=by
 unfold tJ;rw [sv,r.u,r.m]
theorem zgW (f:∀ s∈aA,gk s) (d:Int×Int):iO (b7 aA) Dg sc (dT<|b7 aA) (c9 (mZ aA d<|eS d sc Dg) sc) false=iO (b7 aA) Dg sc (dT<|b7 aA) d false:=by
 rw [zo,zo];have lt:=Pr d sc Dg;have e:eS (c9 (mZ aA d<|eS d sc Dg) sc) sc Dg=eS d sc Dg:=by
  unfold eS at lt ⊢;rw [OT];generalize (oH d sc).natAbs % 10 ^ Dg=v at lt;have:(mZ aA d v).natAbs=v:=by
   unfold mZ;split
   .rw [Ic];rfl
   .rfl
  rw [this,Sj lt]
 rw [e];generalize eS d sc Dg=v;have j:decide ((c9 (mZ aA d v) sc).1<0)=(decide (d.1<0) && eO aA && decide (0<v)):=by
  rw [show decide ((c9 (mZ aA d v) sc).1<0)=decide (mZ aA d v<0) from decide_eq_decide.mpr (GN _ _)];unfold mZ;cases decide (d.1<0) && eO aA with
  | false=>rw [if_neg je];exact decide_eq_false (by exact uy)
  | true=>rw [if_pos rfl];exact decide_eq_decide.mpr (by exact W1)
 rw [j];have l:∀ a b c:Bool,(a && b && c && c)=((a && c) && b):=by decide
 rw [l];by_cases h:eO aA=true
 .rw [h,sL]
 .exact (zgV f λ_=>by cases z:eO aA with | false=>rfl | true=>exact absurd z h).symm
theorem Pt (f:∀ s∈aA,gk s) (n:jW (gm aA)=Dg) (d:Int×Int):
  mh (b7 aA) Dg sc (dT<|b7 aA) (iO (b7 aA) Dg sc (dT<|b7 aA) d false) false=some (c9 (mZ aA d<|eS d sc Dg) sc):=by
 have r:=Cr (sc:=sc) f n d;have t:=Ps r;have e:mV (b7 aA) sc (iO (b7 aA) Dg sc (dT<|b7 aA) d false)=c9 (mZ aA d<|eS d sc Dg) sc:=by
  unfold mV;rw [t];congr 1
  unfold mZ;generalize eS d sc Dg=v;cases decide (d.1<0) <;> cases eO aA <;> by_cases q:0<v;all_goals first
   | rw [decide_eq_true q];rfl
   | rw [decide_eq_false q];rw [show v=0 by lia];rfl
 unfold mh;rw [e,if_pos ⟨r.l,zgW f d⟩]
theorem G1 (sc:Int):c9 0 sc=(0,0):=by
 have z:∀ n:Nat,iU n 0=(0,0):=λn=>by
  induction n with
  | zero=>rfl
  | succ n f=>unfold iU;rw [if_pos<|by decide];exact f
 unfold c9;split
 .rw [Hl]
 .rw [z];rfl
theorem zgX (f:∀ s∈aA,gk s) (n:jW (gm aA)=Dg):mh (b7 aA) Dg sc (dT<|b7 aA) (bY (dT<|b7 aA) 32) true=some (c9 0 0):=by
 have r:=G0 f;have e:mV (b7 aA) sc (bY (dT<|b7 aA) 32)=c9 0 0:=by
  unfold mV;rw [Ps r,if_neg je,G1,G1]
 have j:eS (0,0) sc Dg=0:=by
  unfold eS oH;have:∀ b:Int,oF 0 b=0:=λb=>by unfold oF;split <;> simp
  split
  .rw [Hl];exact zkg _
  .rw [this];exact zkg _
 have l:iO (b7 aA) Dg sc (dT<|b7 aA) (c9 0 0) true=bY (dT<|b7 aA) 32:=by
  rw [G1,zo,j,BJ];exact (if_pos<|by rw [kJ]).trans (if_pos rfl)
 unfold mh;rw [e,if_pos ⟨r.l,l⟩]
end
section
variable {aA:List (List Nat)}{Dg:Nat}{sc:Int}
theorem Pu:∀ {l:List eE}{r:Row}(j:Nat),r∈pI j l->∃c∈l,r.role=c.role/\r.sign=c.sign/\r.at_+c.sign.length<=j+(l.map λc=>c.sign.length).sum
 | c::t,r,j,h=>by
  rw [zk] at h;rw [eF,uu];rcases cR.mp h with rfl | h
  .exact ⟨c,dh,rfl,rfl,by dsimp only;exact Iy⟩
  .exact nF (Pu _ h) λd a b e f=>⟨d,dz _ a,b,e,by exact W2 f⟩
theorem Pv:∀ (f:List eE) (j:Nat),(pI j f).length=f.length
 | [],_=>rfl
 | c::t,j=>congrArg (·+1)<|Pv t _
theorem Pw:∀ (f:List eE) (j:Nat),(pI j f).countP (λr=>ii r.role)=(f.map ip).countP λq=>ii q.1
 | [],_=>rfl
 | c::t,j=>by rw [zk,rG,Pw t,eF,rG];rfl
theorem Px:∀ l:List It,(l.filter dt).countP (λq=>ii q.1)=jW l
 | []=>rfl
 | q::r=>by
  have f:=Px r;unfold jW at f ⊢;rw [wi,rG,<-f];cases z:dt q with
  | true=>rw [if_pos rfl,rG]
  | false=>rw [if_neg je,show ii q.1=false from Pb (s:=q.2) z,if_neg je];rfl
theorem Cs (oct:List Nat):∀ (rows:List Row) (u:Int) (k:Nat),0<=u->u<10 ^ k->0<=rows.foldl (nS oct) u/\rows.foldl (nS oct) u<10 ^ (k+rows.countP λr=>ii r.role)
 | [],u,k,j,l=>⟨j,l⟩
 | r::t,u,k,j,l=>by
  rw [iH,rG];by_cases z:ii r.role=true
  .have e:nS oct u r=u*10+kr (oct.getD r.at_ 0:Nat):=if_pos z;have f:0<=kr (oct.getD r.at_ 0:Nat)/\kr (oct.getD r.at_ 0:Nat)<=9:=by
    unfold kr;split <;> lia
   rw [e,if_pos z,show k+(t.countP (λr=>ii r.role)+1)=(k+1)+t.countP λr=>ii r.role by exact W3];refine Cs oct t _ _ (by exact W4 j f.1) ?_;rw [Sc];exact W5 l f.2
  .rw [show nS oct u r=u from if_neg z,if_neg z];exact Cs oct t u k j l
theorem G2 {s:List Nat}(h:gk s):s.length<=2:=(qW h.ok).2
theorem zgY (p:∀ s∈aA,gk s) (n:jW (gm aA)=Dg) (P:aA.length<=1000) (U:Dg<=18) (hz:dT (b7 aA)<=9999) (s1:-6<=sc) (s2:sc<=18) (s3:Dg+(-sc).toNat<=19):oV (b7 aA) Dg sc (dT<|b7 aA):=by
 have L:=xt p;have il:(gm aA).length=aA.length:=by
  have:=congrArg pS<|xm (de aA) aA false;rw [cN] at this;exact this
 refine iw (GW (tx:=rj 32) ⟨λq f _=>GX L (ba rfl) q f⟩ L<|tU aA) λT _ _=>?_;have O:(jL aA).1=pI 0 (((gm aA).filter dt).map (rh<|rj 32)):=by
  rw [GY,xo _ [] 0 _ T.k];rfl
 have R:BZ (jL aA).1 (dT<|b7 aA):=by
  have v:∀ r∈(jL aA).1,∃q∈gm aA,r.role=q.1/\r.sign=q.2/\r.at_+q.2.length<=dT (b7 aA):=λr j=>by
   rw [O] at j;refine nF (Pu 0 j) λc W J y F=>bZ (kF.mp W) λq f Z=>?_;subst Z;refine ⟨q,(Ai.mp f).1,J,y,?_⟩;rw [lm,pR] at F;rw [<-Cq p];exact F
  refine ⟨?_,λr j=>?_,λr j=>?_,λr j=>?_,λr j e=>?_⟩
  .rw [O,Pv,cN];exact fP (List.length_filter_le _ _) (by exact W6 P il)
  .refine nF (v r j) λq f J y F=>?_;have:=len_pos<|L q f;exact W7 F this
  .refine nF (v r j) λq f J y F=>?_;rw [y];intro c W;have:=(p _ (pH _ _ _ q f).1).low c W;exact W8 this
  .refine nF (v r j) λq f J y F=>?_;rw [y];exact G2<|p _ (pH _ _ _ q f).1
  .refine nF (v r j) λq f J y F=>?_;rw [J] at e;rcases L q f with ⟨_,c,h⟩ | ⟨h,_⟩ | ⟨h,_⟩ | ⟨h,_⟩
   .exact ⟨c,y.trans h⟩
   .rw [e] at h;cases h
   .rw [e] at h;cases h
   .rw [e] at h;cases h
 refine ⟨⟨by rw [sv];exact P,fP (B8 aA []) (by rw [jQ];exact W9 P),U,hz,λs hs=>?_,?_⟩,?_,λoct=>?_,s1,s2,s3,λfg neg h dg=>?_,λd a0=>?_⟩
 .rw [sv] at hs;exact G2<|p s hs
 .rw [sv,xn,n];exact dM _
 .rw [sv];exact R
 .rw [sv];have:=Cs oct (jL aA).1 0 0 (mL _) (by decide);rw [O,Pw,T.k,Px,n,pR,<-O] at this;change 0<=oK _ _/\oK _ _ < _ at this;generalize oK _ _=u at this;have e:(10:Int) ^ Dg=((10 ^ Dg:Nat):Int):=(H8 10 Dg).symm;rw [e] at this;exact Xa this.1 this.2
 .rw [sv];refine fX (Pl (neg:=neg) p dg<|by rw [h,n]) λds a b _=>?_;rw [b,a.len,Cq p];exact Xb hz
 .have I:∀ oct:List Nat,oct.length=dT (b7 aA)->(∀ x∈oct,x<256)->oct.length<=16777216/\∀ c∈oct,c<256:=λoct h b=>⟨by exact Xc hz h,b⟩;have r:=Cr (sc:=sc) p n d;have r2:=G0 p;have e:=zo (aA:=aA) (Dg:=Dg) (sc:=sc) d;cases a0 with
  | false=>exact I _ r.l r.b
  | true=>
   by_cases z:bx Dg (eS d sc Dg)=bY (bx Dg<|eS d sc Dg).length 48
   .rw [e,show pA aA _ _ _ true=_ from (if_pos z).trans (if_pos rfl)];exact I _ r2.l r2.b
   .have:iO (b7 aA) Dg sc (dT<|b7 aA) d true=iO (b7 aA) Dg sc (dT<|b7 aA) d false:=by
     rw [e,e];exact (if_neg z).trans (if_neg z).symm
    rw [this];exact I _ r.l r.b
theorem zgZ (u s b:Int) (D:Nat) (f:lP aA=D) (j:kP aA=b) (l:0<=s):pC aA u s=(eS (c9 u s) b D:Nat):=by
 unfold pC eS;rw [f,j,zgl u s b l,jm]
 push_cast
 rfl
theorem zg0 (u s b:Int) (D:Nat) (f:lP aA=D) (j:kP aA=b) (l:0<=s):zh (eO aA) (vr aA u s)=mZ aA (c9 u s) (eS (c9 u s) b D):=by
 unfold vr zh mZ;rw [zgZ u s b D f j l,show decide ((c9 u s).1<0)=decide (u<0) from decide_eq_decide.mpr (GN _ _)];generalize eS (c9 u s) b D=v;by_cases q:u<0
 .rw [if_pos q,decide_eq_true q];cases eO aA with
  | true=>rw [if_pos rfl,if_pos<|by decide];exact Xd
  | false=>rw [if_neg je,if_neg<|by decide];exact Xe
 .rw [if_neg q,decide_eq_false q];cases eO aA with
  | true=>rw [if_pos rfl,if_neg<|by decide]
  | false=>rw [if_neg je,if_neg<|by decide];exact Xf
end
noncomputable def nX:List (List Nat):=[[57],[90],[42]]
noncomputable def kR:List (List Nat):=[[36],[43],[45]]
def kz (f:List (List Nat)) (s:List Nat):Bool:=nX.any (·==s) || (kR.any (·==s) && f.any (·==s))
noncomputable def jC (s:List Nat):Bool:=[[46],[86]].any (·==s)
noncomputable def b1 (b:Bool):Int:=if b=true then 1 else 0
noncomputable def vA:List (List Nat)->List (List Nat)->Int
 | _,[]=>0
 | pre,s::r=>b1 (kz pre s)+vA (pre++[s]) r
noncomputable def vB:List (List Nat)->List (List Nat)->Int
 | _,[]=>0
 | pre,s::r=>b1 (kz pre s && pre.any jC)+vB (pre++[s]) r
structure Jo (pre:List (List Nat)) (o:Ord):Prop where
 sn:o.seen=pre.length
 ld:o.lead=0
 tr:o.trail=(pre.count [80]:Nat)
 mo:o.iW=[]↔[36] ∉ pre
 sg:∀ s∈[[43],[45]],o.sign=s↔s∈pre
 pt:o.point=[]↔pre.any jC=false
 rp:∀ s∈[[43],[45]],1<pre.count s->[36] ∉ pre
structure xz (pre:List (List Nat)) (s:List Nat) (o o':Ord):Prop where
 d:dS o'=dS o+b1 (kz pre s)
 b:o'.behind=o.behind+b1 (kz pre s && pre.any jC)
theorem k9 {l:List (List Nat)}{s:List Nat}:l.any (·==s)=true↔s∈l:=by
 rw [o5];exact ⟨λ⟨x,h,e⟩=>beq_iff_eq.mp e▸h,λh=>⟨s,h,beq_iff_eq.mpr rfl⟩⟩
theorem xA {l:List (List Nat)}{s:List Nat}:l.any (·==s)=false↔s ∉ l:=by rw [<-k9,Bool.not_eq_true]
theorem qp {l:List (List Nat)}{s x:List Nat}:x∈l++[s]↔x∈l\/x=s:=by rw [kG,gp]
theorem Py {l:List (List Nat)}{s x:List Nat}:(l++[s]).count x=l.count x+if s=x then 1 else 0:=by
 rw [Aj,Rh,List.count_nil,pR];by_cases q:s=x
 .rw [if_pos q,if_pos<|beq_iff_eq.mpr q]
 .rw [if_neg q,if_neg λz=>q<|beq_iff_eq.mp z]
theorem zg1 {l:List (List Nat)}{s:List Nat}:(l++[s]).any jC=(l.any jC || jC s):=by rw [R9,lY,Dq,yc]
theorem Jo.next {f:List (List Nat)}{s:List Nat}{o o':Ord}(x:Jo f o) (sn:o'.seen=o.seen+1) (ld:o'.lead=o.lead) (p:o'.trail=o.trail+if s=[80] then 1 else 0)
  (r:o'.iW=[]↔o.iW=[]/\s≠[36]) (u:∀ t∈[[43],[45]],o'.sign=t↔o.sign=t\/s=t) (v:o'.point=[]↔o.point=[]/\jC s=false)
  (y:s=[36]->[36] ∉ f->f.length<=1) (z:∀ t∈[[43],[45]],s=t->s∈f->o.iW=[]):Jo (f++[s]) o':=by
 have F:∀ t:List Nat,f.count t<=f.length:=λt=>Ig;refine ⟨?_,ld.trans x.ld,?_,?_,λt j=>?_,?_,λt j h=>?_⟩
 .rw [sn,x.sn,cC,yd];rfl
 .rw [p,x.tr,Py];split <;> rfl
 .rw [r,x.mo,qp,not_or];exact and_congr_right λ_=>⟨λh e=>h e.symm,λh e=>h e.symm⟩
 .rw [u t j,x.sg t j,qp];exact or_congr_right ⟨wh,wh⟩
 .rw [v,x.pt,zg1,zjK]
 .rw [qp,not_or];rw [Py] at h;have l:t≠[36]:=by rintro rfl;exact absurd j (by decide)
  by_cases q:s=t
  .rw [if_pos q] at h;have I:t∈f:=Ii.mp (by exact Xg h);exact ⟨x.mo.mp<|z t j q<|q▸I,λe=>l<|q.symm.trans e.symm⟩
  .rw [if_neg q] at h;have a:=x.rp t j (by exact Xh h);refine ⟨a,λe=>?_⟩;have:=y e.symm a;have:=F t;lia
theorem xB {f:List (List Nat)}{s:List Nat}(h:s ∉ nX) (j:s ∉ kR\/s ∉ f):kz f s=false:=by
 unfold kz;rw [xA.mpr h,Db];rcases j with h | h
 .rw [xA.mpr h];rfl
 .rw [xA.mpr h,rI]
theorem zg2 {f:List (List Nat)}{s:List Nat}(h:s∈nX\/(s∈kR/\s∈f)):kz f s=true:=by
 unfold kz;rcases h with h | ⟨h,j⟩
 .rw [k9.mpr h];rfl
 .rw [k9.mpr h,k9.mpr j,Du,zkf]
theorem xC {f:List (List Nat)}{s:List Nat}{o o':Ord}(h:kz f s=false) (d:dS o'=dS o) (b:o'.behind=o.behind):xz f s o o':=by
 refine ⟨?_,?_⟩
 .rw [h,d];exact (kE _).symm
 .rw [h,b];exact (kE _).symm
theorem zg3 {f:List (List Nat)}{s:List Nat}{o o':Ord}(x:Jo f o) (h:kz f s=true) (d:dS o'=dS o+1) (b:o'.behind=o.behind+if o.point=[] then 0 else 1):xz f s o o':=by
 refine ⟨by rw [h,d];rfl,?_⟩;rw [h,b,Du];by_cases q:o.point=[]
 .rw [if_pos q,x.pt.mp q];rfl
 .rw [if_neg q];cases z:f.any jC with
  | false=>exact absurd (x.pt.mpr z) q
  | true=>rfl
noncomputable def kA (o:Ord) (s:List Nat):Ord:={o with seen:=o.seen+1,last:=s}
structure G3 (o o2:Ord):Prop where
 sn:o2.seen=o.seen
 ld:o2.lead=o.lead
 tr:o2.trail=o.trail
 mo:o2.iW=o.iW
 sg:o2.sign=o.sign
 pt:o2.point=o.point
theorem Pz {j:List (List Nat)}{s:List Nat}{o o2:Ord}(x:Jo j o) (f:G3 o o2) (r:s≠[80]) (v:jC s=false) (l:s=[36]->[36]∈j) (u:∀ t∈[[43],[45]],s=t->t∈j/\o.iW=[]):Jo (j++[s]) (kA o2 s):=by
 refine x.next (by show o2.seen+1=_;rw [f.sn]) f.ld (by rw [if_neg r,kE];exact f.tr) ⟨λz=>?_,λz=>f.mo.trans z.1⟩ (λt p=>⟨λz=>ba<|f.sg.symm.trans z,λz=>f.sg.trans ?_⟩) ⟨λz=>⟨f.pt.symm.trans z,v⟩,λz=>f.pt.trans z.1⟩ (λe n=>absurd (l e) n) λt p e _=>(u t p e).2
 .have z:=f.mo.symm.trans z;exact ⟨z,λe=>x.mo.mp z<|l e⟩
 .rcases z with z | z
  .exact z
  .exact (x.sg t p).mpr (u t p z).1
theorem vC (o:Ord) (c:Int) (l:Bool):G3 o (gU o c l):=by
 unfold gU;split <;> exact ⟨rfl,rfl,rfl,rfl,rfl,rfl⟩
theorem Ct (o:Ord) (c:Int) (l:Bool):dS (gU o c l)=dS o/\(gU o c l).behind=o.behind+(if o.point=[] then 0 else c):=by
 unfold gU;split
 .exact ⟨rfl,(kE _).symm⟩
 .exact ⟨rfl,rfl⟩
theorem Cu {j:List (List Nat)}{s:List Nat}{o o1:Ord}{l:Bool}(x:Jo j o) (f:G3 o o1) (u:o1.behind=o.behind) (v:dS o1=dS o+1) (h:s∈nX\/(s∈kR/\s∈j/\(s∈[[43],[45]]->o.iW=[]))):Jo (j++[s]) (kA (gU o1 1 l) s)/\xz j s o (kA (gU o1 1 l) s):=by
 have g:=vC o1 1 l;obtain ⟨b1,y⟩:=Ct o1 1 l;have k:s∈nX\/s∈kR->s≠[80]/\jC s=false:=by
  have:∀ s∈nX++kR,s≠[80]/\jC s=false:=by decide
  exact λh=>this s<|kG.mpr h
 have p:∀ s∈nX,s ∉ [[36],[43],[45]]:=by decide
 obtain ⟨k1,k2⟩:=k<|h.imp id And.left;refine ⟨Pz x ⟨g.sn.trans f.sn,g.ld.trans f.ld,g.tr.trans f.tr,g.mo.trans f.mo,g.sg.trans f.sg,g.pt.trans f.pt⟩ k1 k2 (λe=>?_) λt r e=>?_,zg3 x (zg2<|h.imp id λh=>⟨h.1,h.2.1⟩) (b1.trans v) ?_⟩
 .rcases h with h | h
  .exact absurd (e▸dh)<|p s h
  .exact e▸h.2.1
 .rcases h with h | h
  .exact absurd (e▸dz _ r)<|p s h
  .exact ⟨e▸h.2.1,h.2.2<|e▸r⟩
 .show (gU o1 1 l).behind=_;rw [y,u,f.pt]
theorem zg4 {f:Type}{p:Prop} [Decidable p] {x:Option f}{y:f}(h:(if p then x else none)=some y):p/\x=some y:=by
 by_cases q:p
 .rw [if_pos q] at h;exact ⟨q,h⟩
 .rw [if_neg q] at h;cases h
theorem PA {f:List (List Nat)}{s:List Nat}{o:Ord}(x:Jo f o) (l:o.sign=[]) (hs:s∈[[43],[45]]\/s∈ji):Jo (f++[s]) (kA (qh o s) s)/\xz f s o (kA (qh o s) s):=by
 have k:∀ s∈[[43],[45]]++ji,s≠[80]/\s≠[36]/\jC s=false/\s ∉ nX:=by decide
 refine qK (k s<|kG.mpr hs) λk1 k2 k3 p=>?_;have nn:∀ t∈[[43],[45]],t ∉ f:=λt j z=>by
  have:=(x.sg t j).mpr z;rw [l] at this;rw [<-this] at j;exact absurd j (by decide)
 have r:s ∉ kR\/s ∉ f:=by
  rcases hs with h | h
  .exact aX<|nn s h
  .have:∀ s∈ji,s ∉ kR:=by decide
   exact ba<|this s h
 refine ⟨x.next rfl rfl (by rw [if_neg k1,kE];rfl) ⟨λz=>⟨z,k2⟩,λz=>z.1⟩ (λt j=>⟨λz=>aX z,λz=>?_⟩) ⟨λz=>⟨z,k3⟩,λz=>z.1⟩ (λe=>absurd e k2) λt j e u=>absurd u λz=>nn t j<|e▸z,xC (xB p r) rfl rfl⟩;rcases z with z | z
 .exact absurd ((x.sg t j).mp z)<|nn t j
 .exact z
theorem zg5 {s:List Nat}{o o':Ord}(h:gj o s=some o'):∃o2,mC o s=some o2/\kA o2 s=o':=kT.mp (zg4 h).2
@[elab_as_elim] theorem sw {f:Type}{p:Prop} [Decidable p] {x y:f}{motive:f->Prop}(h:(if p then some x else none)=some y) (k:p->motive x):motive y:=(B6 h).2▸k (B6 h).1
theorem zg6 {j:List (List Nat)}{s:List Nat}{o o2:Ord}(x:Jo j o) (h:mC o s=some o2):Jo (j++[s]) (kA o2 s)/\xz j s o (kA o2 s):=by
 by_cases y:s=[57]
 .replace h:=(if_pos y).symm.trans h
  refine sw h λ_=>Cu x (o1:={o with bJ:=o.bJ+1}) ⟨rfl,rfl,rfl,rfl,rfl,rfl⟩ rfl ?_ (ba<|y▸by decide);unfold dS;dsimp only;exact Xi
 replace h:Gl o s=some o2:=(if_neg y).symm.trans h
 by_cases F:[[90],[42]].any (·==s)=true
 .replace h:=(if_pos F).symm.trans h
  refine sw h λ_=>Cu x (o1:={o with zero:=s,zeros:=o.zeros+1}) ⟨rfl,rfl,rfl,rfl,rfl,rfl⟩ rfl ?_<|ba<|dz _<|k9.mp F;unfold dS;dsimp only;exact Xj
 replace h:Gk o s=some o2:=(if_neg F).symm.trans h
 by_cases I:[[86],[46]].any (·==s)=true
 .replace h:=(if_pos I).symm.trans h
  refine sw h λ_=>?_;have k:∀ s∈[[86],[46]],s≠[80]/\s≠[36]/\jC s=true/\s ∉ nX/\s ∉ kR/\s≠[]/\s ∉ [[43],[45]]:=by decide
  obtain ⟨k1,k2,k3,J,k5,Z,W⟩:=k s<|k9.mp I;refine ⟨x.next rfl rfl (by rw [if_neg k1,kE];rfl) ⟨λz=>⟨z,k2⟩,λz=>z.1⟩ (λt f=>⟨λz=>ba z,λz=>z.resolve_right λe=>W<|e▸f⟩) ⟨λz=>absurd z Z,λz=>by rw [k3] at z;cases z.2⟩ (λe=>absurd e k2) λt f e=>absurd (e▸f) W,xC (xB J<|ba k5) rfl rfl⟩
 replace h:Gj o s=some o2:=(if_neg I).symm.trans h
 by_cases u:s=[80]
 .replace h:=(if_pos u).symm.trans h
  refine sw h λ_=>yx u ?_;refine ⟨x.next rfl rfl (by rw [if_pos rfl];rfl) ⟨λz=>⟨z,by decide⟩,λz=>z.1⟩ (λt f=>⟨λz=>ba z,λz=>z.resolve_right λe=>absurd (e▸f)<|by decide⟩) ⟨λz=>⟨z,rfl⟩,λz=>z.1⟩ (λe=>absurd e<|by decide) (λt f e=>absurd (e▸f)<|by decide),xC (xB (by decide)<|ba<|by decide) rfl rfl⟩
 replace h:Gi o s=some o2:=(if_neg u).symm.trans h
 by_cases l:[[43],[45]].any (·==s)=true
 .replace h:=(if_pos l).symm.trans h
  have l:=k9.mp l;have k:∀ s∈[[43],[45]],s≠[36]/\jC s=false/\s ∉ nX/\s∈kR:=by decide
  refine qK (k s l) λk1 k2 k3 J=>?_;by_cases p:o.seen=0
  .replace h:=(if_pos p).symm.trans h
   refine uN h ?_;have e0:j=[]:=QN (by have:=x.sn;exact Xk p this);subst e0;have g:=vC {o with sign:=s,floats:=o.floats+0} 0 true;obtain ⟨b1,L⟩:=Ct {o with sign:=s,floats:=o.floats+0} 0 true;have no:∀ t∈[[43],[45]],o.sign≠t:=λt f e=>nomatch (x.sg t f).mp e;refine ⟨x.next (by show (gU _ 0 true).seen+1=_;rw [g.sn]) g.ld (by rw [if_neg u,kE];exact g.tr) ⟨λz=>⟨g.mo.symm.trans z,k1⟩,λz=>g.mo.trans z.1⟩ (λt f=>⟨λz=>aX<|g.sg.symm.trans z,λz=>g.sg.trans<|z.resolve_left<|no t f⟩) ⟨λz=>⟨g.pt.symm.trans z,k2⟩,λz=>g.pt.trans z.1⟩ (λe=>absurd e k1) (λt f e hp=>nomatch hp),xC (xB k3<|aX λz=>nomatch z) (b1.trans ?_)<|L.trans ?_⟩
   .unfold dS;dsimp only;exact Jl
   .split <;> exact kE _
  replace h:=(if_neg p).symm.trans h
  by_cases r:o.sign=s/\o.iW=[]/\sk o=true
  .replace h:=(if_pos r).symm.trans h
   refine uN h<|Cu x (o1:={o with floats:=o.floats+1}) ⟨rfl,rfl,rfl,rfl,rfl,rfl⟩ rfl ?_<|aX ⟨J,(x.sg s l).mp r.1,λ_=>r.2.1⟩;unfold dS;dsimp only;exact Jm
  .replace h:=(if_neg r).symm.trans h
   exact sw h λO=>PA x O.2<|ba l
 replace h:Gh o s=some o2:=(if_neg l).symm.trans h
 by_cases v:s=[36]
 .replace h:=(if_pos v).symm.trans h
  subst v;by_cases p:o.iW=[]
  .replace h:=(if_pos p).symm.trans h
   refine sw h λr=>?_;have P:=x.mo.mp p;have g:=vC {o with iW:=[36],floats:=o.floats+0} 0 true;obtain ⟨b1,L⟩:=Ct {o with iW:=[36],floats:=o.floats+0} 0 true;refine ⟨x.next (by show (gU _ 0 true).seen+1=_;rw [g.sn]) g.ld (by rw [if_neg u,kE];exact g.tr) ⟨λz=>absurd (show [36]=[] from g.mo.symm.trans z) (by decide),λz=>absurd rfl z.2⟩ (λt f=>⟨λz=>ba<|g.sg.symm.trans z,λz=>g.sg.trans<|z.resolve_right λe=>absurd (e▸f)<|by decide⟩) ⟨λz=>⟨g.pt.symm.trans z,rfl⟩,λz=>g.pt.trans z.1⟩ (λ_ _=>?_) (λt f e=>absurd (e▸f)<|by decide),xC (xB (by decide)<|aX P) (b1.trans ?_)<|L.trans ?_⟩
   .have:=x.sn;exact Xl r.1 this
   .unfold dS;dsimp only;exact Jl
   .split <;> exact kE _
  .replace h:=(if_neg p).symm.trans h
   refine sw h λr=>Cu x (o1:={o with floats:=o.floats+1}) ⟨rfl,rfl,rfl,rfl,rfl,rfl⟩ rfl ?_ (aX ⟨by decide,ziA.mp λz=>p<|x.mo.mpr z,λz=>absurd z<|by decide⟩);unfold dS;dsimp only;exact Jm
 replace h:Gg o s=some o2:=(if_neg v).symm.trans h
 by_cases U:ji.any (·==s)=true
 .replace h:=(if_pos U).symm.trans h
  exact sw h λO=>PA x O.2<|aX<|k9.mp U
 replace h:Gf o=some o2:=(if_neg U).symm.trans h
 refine sw h λ_=>?_;have np:jC s=false:=by
  refine xA.mpr λz=>I<|k9.mpr ?_;rcases cR.mp z with z | z
  .rw [z];decide
  .rw [gp.mp z];decide
 refine ⟨Pz x (o2:={o with vf:=true}) ⟨rfl,rfl,rfl,rfl,rfl,rfl⟩ u np (λe=>absurd e v) λt f e=>absurd (k9.mpr<|e▸f) l,xC (xB (λz=>?_)<|ba λz=>?_) rfl rfl⟩
 .rcases cR.mp z with z | z
  .exact y z
  .exact F<|k9.mpr z
 .rcases cR.mp z with z | z
  .exact v z
  .exact l<|k9.mpr z
theorem zg7 {f:List (List Nat)}{s:List Nat}{o o':Ord}(x:Jo f o) (h:gj o s=some o'):Jo (f++[s]) o'/\xz f s o o':=by
 refine bZ (zg5 h) λo2 l j=>?_;subst j;exact zg6 x l
theorem Qu:∀ (aA f:List (List Nat)) (o o':Ord),Jo f o->im aA o=some o'->Jo (f++aA) o'/\dS o'=dS o+vA f aA/\o'.behind=o.behind+vB f aA
 | [],f,o,o',x,h=>by
  refine uN h ?_;rw [of];exact ⟨x,(kE _).symm,(kE _).symm⟩
 | s::r,f,o,o',x,h=>by
  change (match gj o s with | some o=>im r o | none=>none)=_ at h;cases e:gj o s with
  | none=>rw [e] at h;cases h
  | some o1=>
   rw [e] at h;obtain ⟨j,st⟩:=zg7 x e;refine iw (Qu r _ o1 o' j h) λa b c=>?_;rw [lL] at a;refine ⟨a,?_,?_⟩
   .rw [b,st.d,Ik];rfl
   .rw [c,st.b,Ik];rfl
theorem jo0:Jo [] lD:=⟨rfl,rfl,rfl,⟨λ_=>(nomatch ·),λ_=>rfl⟩,λs hs=>⟨λe=>absurd (show ([]:List Nat)∈[[43],[45]] from (show []=s from e)▸hs) (by decide),λh=>nomatch h⟩,⟨λ_=>rfl,λ_=>rfl⟩,λs _ h=>nomatch h⟩
section
variable {aA:List (List Nat)}
theorem PB {f r:List (List Nat)}{s:List Nat}(h:s∈f):1<(f++s::r).count s:=by
 have:=Ii.mpr h;rw [Aj,Rh,if_pos<|beq_iff_eq.mpr rfl];exact Xm this
theorem zg8 {o:Ord}(x:Jo aA o):∀ s∈kR,1<aA.count s->s=de aA:=by
 have z:∀ t,t ∉ aA->¬1<aA.count t:=λt h=>by rw [List.count_eq_zero_of_not_mem h];decide
 intro s hs h;unfold de;have f:s∈aA:=Ii.mp (by exact Jj h);rcases cR.mp hs with rfl | hs
 .rw [if_pos h]
 .rw [if_neg<|z _<|x.rp s hs h];rcases cR.mp hs with rfl | hs
  .rw [if_pos h]
  .rw [gp.mp hs] at h f ⊢;have l:=(x.sg [45]<|by decide).mpr f;have:[43] ∉ aA:=λq=>by
    have j:=(x.sg [43]<|by decide).mpr q;rw [l] at j;cases j
   rw [if_neg<|z _ this,if_pos h]
theorem zg9 {s:List Nat}(h:gk s):ii (lA s)=nX.any (·==s):=by
 rcases h with rfl | rfl | ⟨c,f,rfl⟩
 .rfl
 .rfl
 .have:∀ c∈vj,ii (lA [c])=nX.any (·==[c]):=by decide
  exact this c f
theorem PC (l:∀ s∈aA,gk s) (U:∀ s∈kR,1<aA.count s->s=de aA):∀ (r j:List (List Nat)),j++r=aA->(jW (items (de aA) (decide (de aA∈j)) r):Int)=vA j r
 | [],j,_=>rfl
 | s::r,j,e=>by
  have hs:s∈aA:=by rw [<-e];exact zy _ dh
  have p:=PC l U r (j++[s]) (by rw [lL];exact e);have v:(decide (de aA∈j) || decide (s=de aA))=decide (de aA∈j++[s]):=by
   rw [<-Bool.decide_or];exact decide_eq_decide.mpr (by rw [qp];exact or_congr_right ⟨wh,wh⟩)
  rw [GP,v];unfold jW at p ⊢;rw [rG];have k:ii (xj (de aA) (decide (de aA∈j)) s)=kz j s:=by
   unfold xj kz;by_cases q:s=de aA
   .rw [if_pos q];have u:s∈kR:=by
     rcases zn aA with f | ⟨_,f⟩
     .have:=l s hs;rw [q,f] at this;exact absurd (qW this.ok).1 (by decide)
     .rw [q];exact f
    have y:nX.any (·==s)=false:=by
     have:∀ s∈kR,nX.any (·==s)=false:=by decide
     exact this s u
    rw [y,k9.mpr u,Db,Du,<-q];by_cases m:s∈j
    .rw [decide_eq_true m,if_pos rfl,k9.mpr m];rfl
    .rw [decide_eq_false m,if_neg je,xA.mpr m];rfl
   .rw [if_neg q,zg9<|l s hs];have:(kR.any (·==s) && j.any (·==s))=false:=by
     cases z:kR.any (·==s) && j.any (·==s) with
     | false=>rfl
     | true=>
      obtain ⟨F,I⟩:=jl.mp z;refine absurd (U s (k9.mp F) ?_) q;rw [<-e];exact PB<|k9.mp I
    rw [this,yc]
  rw [k];unfold vA b1;rw [<-p];cases kz j s with
  | true=>rw [if_pos rfl,if_pos rfl,Hn];exact Int.add_comm _ _
  | false=>rw [if_neg je,if_neg je,sI];rfl
noncomputable def vD (k:Nat) (l:List (List Nat)):List Nat:=(l.zipIdx k).filterMap λq=>if [[46],[86]].any (·==q.1)=true then some q.2 else none
theorem PD (k:Nat) (s:List Nat) (r:List (List Nat)):vD k (s::r)=if jC s=true then k::vD (k+1) r else vD (k+1) r:=by
 unfold vD jC;rw [zkh,sR];cases [[46],[86]].any (·==s) <;> rfl
theorem G4:∀ (r:List (List Nat)) (k:Nat),∀ p∈vD k r,k<=p
 | [],k,p,h=>nomatch h
 | s::r,k,p,h=>by
  rw [PD] at h;split at h
  .rcases cR.mp h with rfl | h
   .exact dM _
   .exact zki<|G4 r _ p h
  .exact zki<|G4 r _ p h
theorem PE (r:List (List Nat)):∀ (f:List (List Nat)) (k:Nat),zc (vD k<|f++r) (k+f.length)=f.any jC
 | [],k=>by
  rw [CM];have:=G4 r k;cases e:vD k r with
  | nil=>rfl
  | cons p t=>
   have:=this p (by rw [e];exact dh);exact decide_eq_false (by rw [jQ];exact Xn this)
 | s::f,k=>by
  rw [zjz,PD,lY];cases jC s with
  | true=>exact decide_eq_true (by rw [eQ];exact Xo)
  | false=>
   rw [if_neg je,Db,<-PE r f (k+1),eQ,Dp,yb 1]
set_option tactic.hygienic true in
theorem zha (s:List Nat):(eM aA).any (·==s)=(kR.any (·==s) && decide (1<aA.count s)):=by
 refine vR.mpr ?_;rw [k9,jl,k9,decide_eq_true_iff];unfold eM;rw [RR];constructor
 .rintro ⟨c,f,e⟩;split at e
  .rename_i q;refine uN e ⟨?_,q⟩;have:∀ c∈[36,43,45],[c]∈kR:=by decide
   exact this c f
  .cases e
 .rintro ⟨l,p⟩;have:∀ s∈kR,∃c∈[36,43,45],s=[c]:=by
   intro s hs;rcases cR.mp hs with rfl | hs
   .exact ⟨36,by decide,rfl⟩
   .rcases cR.mp hs with rfl | hs
    .exact ⟨43,by decide,rfl⟩
    .exact ⟨45,by decide,gp.mp hs⟩
  refine bZ (this s l) λc f j=>?_;subst j;exact ⟨c,f,if_pos p⟩
theorem PF:∀ (r f:List (List Nat)) (b d:Int),f++r=aA->(r.zipIdx f.length).foldl (jq (eM aA)<|kv aA) ⟨b,d,f⟩=⟨b+vB f r,d+vA f r,aA⟩
 | [],f,b,d,e=>by
  rw [of] at e;rw [e];show (⟨b,d,aA⟩:vm)=⟨b+0,d+0,aA⟩;rw [kE,kE]
 | s::r,f,b,d,e=>by
  have j:=λb d=>PF r (f++[s]) b d (by rw [lL];exact e);rw [cC,yd] at j;rw [zkh,iH];have l:ql (eM aA) f s=kz f s:=by
   unfold ql kz;rw [zha];have:(kR.any (·==s) && decide (1<aA.count s) && f.any (·==s))=(kR.any (·==s) && f.any (·==s)):=by
    by_cases q:s∈f
    .rw [decide_eq_true (by rw [<-e];exact PB q),sL]
    .rw [xA.mpr q,rI,rI]
   rw [this];rfl
  have p:zc (kv aA) f.length=f.any jC:=by
   have:=PE (s::r) f 0;rw [pR,e] at this;exact this
  have es:jq (eM aA) (kv aA) ⟨b,d,f⟩ (s,f.length)=⟨b+b1 (kz f s && f.any jC),d+b1 (kz f s),f++[s]⟩:=by
   unfold jq;rw [l,p];congr 2
   cases kz f s <;> cases f.any jC <;> rfl
  rw [es,j];show (⟨_,_,_⟩:vm)=⟨b+(b1 _+_),d+(b1 _+_),aA⟩;rw [Ik,Ik]
theorem PG:∀ (r f:List (List Nat)),0<=vB f r/\vB f r<=vA f r
 | [],_=>⟨mL _,mL _⟩
 | s::r,f=>by
  have:=PG r<|f++[s];have k:0<=b1 (kz f s && f.any jC)/\b1 (kz f s && f.any jC)<=b1 (kz f s):=by
   cases kz f s <;> cases f.any jC <;> decide
  exact Xp this.1 this.2 k.1 k.2
structure zhb (aA:List (List Nat)) (o:Ord) (Dg:Nat):Prop where
 n:jW (gm aA)=Dg
 dg:lP aA=Dg
 bp:kP aA=jY o
 F:oV (b7 aA) Dg (jY o) (dT<|b7 aA)
 d18:Dg<=18
theorem PH {o:Ord}{Dg:Nat}(j:∀ s∈aA,gk s) (l:aA.length<=1000) (p:aA.count [80]<=5) (P:qY aA o Dg):zhb aA o Dg:=by
 refine iw (Qu aA [] lD o jo0 P.t) λx d b=>?_;rw [CM] at x;have f:vA [] aA=Dg:=by
  have:=P.d;rw [d] at this;exact (sI _).symm.trans this
 have r:o.behind=vB [] aA:=b.trans<|sI _;have c:=PF (aA:=aA) aA [] 0 0 rfl;have n:jW (gm aA)=Dg:=by
  have:=PC j (zg8 x) aA [] rfl;rw [f,decide_eq_false<|show de aA ∉ [] from λh=>nomatch h] at this;exact zj0 this
 have sc:jY o=vB [] aA- (aA.count [80]:Nat):=by
  unfold jY;rw [if_neg (by rw [x.ld];decide),r,x.tr]
 have u:lP aA=Dg:=by
  unfold lP Cd;rw [show (aA.zipIdx).foldl (jq (eM aA)<|kv aA) ⟨0,0,[]⟩=_ from c];exact (sI _).trans f
 have v:kP aA=jY o:=by
  unfold kP Cd;rw [show (aA.zipIdx).foldl (jq (eM aA)<|kv aA) ⟨0,0,[]⟩=_ from c,sc];rw [sI]
 have w:(Dg:Int)+(aA.count [80]:Nat)<=18:=by
  have:=P.w;unfold vi at this;split at this
  .cases this
  .split at this
   .cases this
   .have:=of_decide_eq_true this;rw [P.d,x.ld,x.tr] at this;exact Xq this
 have g:=PG aA [];rw [f] at g;exact ⟨n,u,v,zgY j n l (by exact Jn w) P.s (by exact Xr p sc g.1) (by exact Xs sc w g.2) (by exact Xu sc w g.1),by exact Jn w⟩
end
section
theorem tk {o o2:Ord}{s:List Nat}(f:o.qX=false) (j:o.isPlain=false) (l:s≠[83]) (h:mC o s=some o2):gj o s=some (kA o2 s):=by
 unfold gj;rw [if_pos ⟨f,j,l⟩,h];rfl
theorem PI (o:Ord):mC o [57]=if o.trail<=0/\o.jj=false then some (B4 o) else none:=rfl
theorem PJ (o:Ord){s:List Nat}(h:s=[90]\/s=[42]):mC o s=if o.trail<=0/\o.bJ<=0/\o.floats<=0/\(o.zero=[]\/o.zero=s) then some (B5 o s) else none:=by
 rcases h with rfl | rfl <;> rfl
theorem zhc (o:Ord){s:List Nat}(h:s=[46]\/s=[86]):mC o s=if o.point=[]/\o.lead<=0/\o.trail<=0 then some (y8 o s) else none:=by
 rcases h with rfl | rfl <;> rfl
theorem c_p (o:Ord):mC o [80]=if 0<dS o/\o.point=[]/\o.lead<=0 then some {o with trail:=o.trail+1} else none:=rfl
theorem G5 (o:Ord){s:List Nat}(h:s=[43]\/s=[45]):mC o s=vg o s:=by
 rcases h with rfl | rfl <;> rfl
theorem PK (o:Ord):mC o [36]=vh o [36]:=rfl
theorem PL (o:Ord){s:List Nat}(h:s=[67,82]\/s=[68,66]):mC o s=if dS o≠0/\o.sign=[] then some (qh o s) else none:=by
 rcases h with rfl | rfl <;> rfl
theorem zhd (o:Ord):∀ {c:Nat},c∈q8->mC o [c]=if o.trail<=0 then some {o with vf:=true} else none:=by
 intro c h;rcases cR.mp h with rfl | h
 .rfl
 .rcases cR.mp h with rfl | h
  .rfl
  .rcases cR.mp h with rfl | h
   .rfl
   .rw [gp.mp h];rfl
structure Ph (way:Int) (s0:List (List Nat)) (o:Ord) (n t:Int):Prop where
 ov:o.qX=false
 pl:o.isPlain=false
 ld:o.lead=0
 tr:o.trail=t
 sg:sq way=false->o.sign=s0.flatten
 dg:dS o=n
 se:0<o.seen
structure oP (way:Int) (o:Ord):Prop where
 z:(way=0\/way=1)->o.bJ=0/\o.floats=0/\(o.zero=[]\/o.zero=dF way)
 m:way=2->o.iW≠[]/\o.bJ=0/\o.zeros=0
 s:(way=3\/way=4)->o.sign=dF way/\o.iW=[]/\o.bJ=0/\o.zeros=0
variable {way:Int}{s0:List (List Nat)}{o:Ord}{n t:Int}
theorem Ph.gU {c:Int}{l:Bool}(x:Ph way s0 o n t):Ph way s0 (gU o c l) n t:=
 have g:=vC o c l;have p:(LD.Internal.gU o c l).qX=o.qX/\(LD.Internal.gU o c l).isPlain=o.isPlain:=by unfold LD.Internal.gU;split <;> exact ⟨rfl,rfl⟩
 ⟨p.1.trans x.ov,p.2.trans x.pl,g.ld.trans x.ld,g.tr.trans x.tr,λh=>g.sg.trans<|x.sg h,(Ct o c l).1.trans x.dg,g.sn.symm▸x.se⟩
theorem Ph.fin (x:Ph way s0 o n t) (s:List Nat):Ph way s0 (kA o s) n t:=⟨x.ov,x.pl,x.ld,x.tr,x.sg,x.dg,by have:=x.se;show 0<o.seen+1;exact Xv this⟩
theorem PM {c:Int}{l:Bool}(x:oP way o):oP way (gU o c l):=by
 unfold gU;split
 .exact x
 .exact ⟨x.z,x.m,x.s⟩
set_option tactic.hygienic true in
theorem G6 {c:Int}{l:Bool}(h:o.point=[]\/l=false) (e:o.jj=false):(gU o c l).jj=false:=by
 unfold gU;split
 .exact e
 .rename_i q;show (o.jj || l)=false;rw [e,h.resolve_left q];rfl
theorem PN (f:o.bJ=0) (j:o.zeros=0) (l:o.lead=0) (p:o.trail=0):sk o=true:=by
 unfold sk;rw [f,j,l,p];rfl
theorem G7 (x:Ph way s0 o n 0) (lt:o.jj=false):∃o',gj o [57]=some o'/\Ph way s0 o' (n+1) 0/\o'.jj=false/\o'.point=o.point/\o'.last=[57]:=by
 have a:Ph way s0 {o with bJ:=o.bJ+1} (n+1) 0:=⟨x.ov,x.pl,x.ld,x.tr,x.sg,by have:=x.dg;unfold dS at this ⊢;dsimp only;exact Xw this,x.se⟩;refine ⟨_,tk x.ov x.pl (by decide) ((PI o).trans (if_pos ⟨by rw [x.tr];decide,lt⟩)),a.gU.fin _,G6 (aX rfl) lt,(vC _ _ _).pt,rfl⟩
theorem zhe (x:Ph way s0 o n 0){c:Nat}(h:c∈q8):∃o',gj o [c]=some o'/\Ph way s0 o' n 0/\o'.jj=o.jj/\o'.point=o.point/\(oP way o->oP way o'):=by
 have j:[c]≠[83]:=by
  have:∀ c∈q8,[c]≠[83]:=by decide
  exact this c h
 refine ⟨_,tk x.ov x.pl j ((zhd o h).trans (if_pos<|by rw [x.tr];decide)),?_,rfl,rfl,λf=>⟨f.z,f.m,f.s⟩⟩;exact Ph.fin (o:={o with vf:=true}) ⟨x.ov,x.pl,x.ld,x.tr,x.sg,x.dg,x.se⟩ _
theorem PO (x:Ph way s0 o n 0) (f:oP way o) (J:0<=way) (L:way<5):∃o',gj o (dF way)=some o'/\Ph way s0 o' (n+1) 0/\oP way o'/\(o.point=[]->o.jj=false->o'.jj=false)/\o'.point=o.point/\o'.last=dF way:=by
 have v:∀ {s:List Nat},s≠[83]->(o.bJ=0/\o.zeros=0)->mC o s=some (sj o 1)->∃o',gj o s=some o'/\Ph way s0 o' (n+1) 0/\(oP way {o with floats:=o.floats+1}->oP way o')/\(o.point=[]->o.jj=false->o'.jj=false)/\o'.point=o.point/\o'.last=s:=λ{s} y hz O=>by
  have a:Ph way s0 {o with floats:=o.floats+1} (n+1) 0:=⟨x.ov,x.pl,x.ld,x.tr,x.sg,by have:=x.dg;unfold dS at this ⊢;dsimp only;exact Xx this,x.se⟩;exact ⟨_,tk x.ov x.pl y O,a.gU.fin _,λf=>have g:=PM (c:=1) (l:=true) f;⟨g.z,g.m,g.s⟩,λp e=>G6 (ba p) e,(vC _ _ _).pt,rfl⟩
 have w:(way=0\/way=1)\/way=2\/way=3\/way=4:=by exact Xy J L
 rcases w with w | w | w
 .refine iw (f.z w) λu j r=>?_;have hs:dF way=[90]\/dF way=[42]:=by rcases w with rfl | rfl <;> decide
  have a:Ph way s0 {o with zero:=dF way,zeros:=o.zeros+1} (n+1) 0:=⟨x.ov,x.pl,x.ld,x.tr,x.sg,by have:=x.dg;unfold dS at this ⊢;dsimp only;exact Xz this,x.se⟩;refine ⟨_,tk x.ov x.pl (by rcases hs with h | h <;> rw [h] <;> decide) ((PJ o hs).trans (if_pos ⟨by rw [x.tr];decide,by exact Jp u,by exact Jp j,r⟩)),a.gU.fin _,?_,λp e=>G6 (ba p) e,(vC _ _ _).pt,rfl⟩;have g:oP way (gU {o with zero:=dF way,zeros:=o.zeros+1} 1 true):=PM ⟨λ_=>⟨u,j,aX rfl⟩,λe=>by lia,λe=>by lia⟩;exact ⟨g.z,g.m,g.s⟩
 .refine iw (f.m w) λu j r=>?_;have F:vh o [36]=some (sj o 1):=(if_neg u).trans (if_pos<|PN j r x.ld x.tr);obtain ⟨o',a,b,c,d⟩:=v (s:=dF way) (by rw [w];decide) ⟨j,r⟩ (by rw [w];exact (PK o).trans F);exact ⟨o',a,b,c ⟨λe=>by lia,λ_=>⟨u,j,r⟩,λe=>by lia⟩,d⟩
 .refine qK (f.s w) λu j r I=>?_;have hs:dF way=[43]\/dF way=[45]:=by rcases w with rfl | rfl <;> decide
  have F:vg o (dF way)=some (sj o 1):=(if_neg (by have:=x.se;exact Jq this)).trans (if_pos ⟨u,j,PN r I x.ld x.tr⟩);obtain ⟨o',a,b,c,d⟩:=v (s:=dF way) (by rcases hs with h | h <;> rw [h] <;> decide) ⟨r,I⟩<|(G5 o hs).trans F;exact ⟨o',a,b,c ⟨λe=>by lia,λe=>by lia,λ_=>⟨u,j,r,I⟩⟩,d⟩
theorem zhf (x:Ph way s0 o n 0) (p:o.point=[]){j:List Nat}(h:j=[46]\/j=[86]):∃o',gj o j=some o'/\Ph way s0 o' n 0/\o'.jj=o.jj/\(oP way o->oP way o'):=by
 refine ⟨_,tk x.ov x.pl (by rcases h with h | h <;> rw [h] <;> decide) ((zhc o h).trans (if_pos ⟨p,by rw [x.ld];decide,by rw [x.tr];decide⟩)),?_,rfl,λf=>⟨f.z,f.m,f.s⟩⟩;exact Ph.fin (o:=y8 o j) ⟨x.ov,x.pl,x.ld,x.tr,x.sg,x.dg,x.se⟩ _
theorem G8 (x:Ph way s0 o n t) (p:o.point=[]) (h:0<n):∃o',gj o [80]=some o'/\Ph way s0 o' n (t+1)/\o'.point=[]/\o'.last=[80]:=by
 refine ⟨_,tk x.ov x.pl (by decide) ((c_p o).trans (if_pos ⟨by rw [x.dg];exact h,p,by rw [x.ld];decide⟩)),?_,p,rfl⟩;exact Ph.fin (o:={o with trail:=o.trail+1}) ⟨x.ov,x.pl,x.ld,by show o.trail+1=_;rw [x.tr],x.sg,x.dg,x.se⟩ _
theorem zin (x:Ph way s0 o n t) (h:0<n) (e:o.sign=[]){s:List Nat}(hs:s=[67,82]\/s=[68,66]\/s=[45]\/s=[43]):∃o',gj o s=some o'/\o'.lead=0/\o'.trail=t/\dS o'=n/\o'.last=s:=by
 have j:mC o s=some (qh o s):=by
  have k:(if dS o≠0/\o.sign=[] then some (qh o s) else none)=some (qh o s):=if_pos ⟨by rw [x.dg];exact DD h,e⟩;have f:s=[43]\/s=[45]->mC o s=some (qh o s):=λq=>by
   rw [G5 o q];refine (if_neg (by have:=x.se;exact Jq this)).trans ((if_neg λz=>?_).trans k);rw [e] at z;rcases q with q | q <;> rw [q] at z <;> cases z.1
  rcases hs with q | q | q | q
  .exact (PL o<|ba q).trans k
  .exact (PL o<|aX q).trans k
  .exact f<|aX q
  .exact f<|ba q
 exact ⟨_,tk x.ov x.pl (by rcases hs with q | q | q | q <;> rw [q] <;> decide) j,x.ld,x.tr,x.dg,rfl⟩
theorem PP:∀ (k:Nat) (o:Ord) (n:Int),Ph way s0 o n 0->o.jj=false->[[44],[46]].any (·==o.last)=false->∃o',im (bY k [57]) o=some o'/\Ph way s0 o' (n+k) 0/\(0<k->[[44],[46]].any (·==o'.last)=false)
 | 0,o,n,x,lt,l=>⟨o,rfl,by rw [show n+((0:Nat):Int)=n from kE n];exact x,λh=>absurd h<|CT 0⟩
 | k+1,o,n,x,lt,l=>by
  refine wy (G7 x lt) λo1 a b c d e=>?_;obtain ⟨o2,a2,f,j⟩:=PP k o1 _ b c (by rw [e];rfl);refine ⟨o2,?_,?_,λ_=>?_⟩
  .rw [pO];show (match gj o [57] with | some o=>im _ o | none=>none)=_;rw [a];exact a2
  .rw [show n+((k+1:Nat):Int)=n+1+k by exact Jr];exact f
  .cases k with
   | zero=>
    refine uN a2 ?_;rw [e];rfl
   | succ k=>exact j<|sV k
theorem Cv:0<=way->way<5->[[44],[46]].any (·==dF way)=false:=λf j=>by
 have:way=0\/way=1\/way=2\/way=3\/way=4:=by exact Js f j
 rcases this with rfl | rfl | rfl | rfl | rfl <;> rfl
theorem PQ (j:0<=way) (l:way<5):∀ (k:Nat) (o:Ord) (n:Int),Ph way s0 o n 0->oP way o->∃o',im (bY k<|dF way) o=some o'/\Ph way s0 o' (n+k) 0/\(0<k->[[44],[46]].any (·==o'.last)=false)
 | 0,o,n,x,f=>⟨o,rfl,by rw [show n+((0:Nat):Int)=n from kE n];exact x,λh=>absurd h<|CT 0⟩
 | k+1,o,n,x,f=>by
  obtain ⟨o1,a,b,c,d,e,g⟩:=PO x f j l;refine fX (PQ j l k o1 _ b c) λo2 a2 p r=>⟨o2,?_,?_,λ_=>?_⟩
  .rw [pO];show (match gj o (dF way) with | some o=>im _ o | none=>none)=_;rw [a];exact a2
  .rw [show n+((k+1:Nat):Int)=n+1+k by exact Jr];exact p
  .cases k with
   | zero=>
    refine uN a2 ?_;rw [g];exact Cv j l
   | succ k=>exact r<|sV k
end
section
variable {way:Int}{s0 eH:List (List Nat)}{o:Ord}{n t:Int}
structure Fr (s0 eH:List (List Nat)) (o:Ord):Prop where
 ov:o.qX=false
 pl:o.isPlain=false
 ld:o.lead=0
 tr:o.trail=0
 ni:o.bJ=0
 zs:o.zeros=0
 fs:o.floats=0
 pt:o.point=[]
 ze:o.zero=[]
 lt:o.jj=false
 sg:o.sign=s0.flatten
 mo:o.iW=eH.flatten
 sn:o.seen=((s0.length+eH.length:Nat):Int)
theorem zij (h:s0=[]\/s0=[[43]]\/s0=[[45]]) (f:eH=[]\/eH=[[36]]):∃o,im (s0++eH) lD=some o/\Fr s0 eH o:=by
 rcases h with rfl | rfl | rfl <;> rcases f with rfl | rfl <;> exact ⟨_,rfl,⟨rfl,rfl,rfl,rfl,rfl,rfl,rfl,rfl,rfl,rfl,rfl,rfl,rfl⟩⟩
def fA (way:Int):List Nat:=if way<5 then dF way else [57]
def mj (way:Int):Int:=if pB way=true then 1 else 0
structure Kw (way:Int) (m:Nat) (s0:List (List Nat)) (k:Nat) (o:Ord):Prop where
 ph:Ph way s0 o (k-mj way) 0
 lt:o.jj=false
 pt:o.point=[]
 fl:k<=m->way<5->oP way o
theorem first {m:Nat}(x:Fr s0 eH o) (v:0<=way) (J:way<6) (hs:s0=[]\/s0=[[43]]\/s0=[[45]]) (u:pB way=true->eH=[]) (y:sq way=true->s0=[]):∃o',gj o (fA way)=some o'/\Kw way m s0 1 o'/\[[44],[46]].any (·==o'.last)=false:=by
 have l:dS o=0:=by unfold dS;rw [x.ni,x.zs,x.fs];rfl
 have j:0<=o.seen:=by rw [x.sn];exact XA
 have w:(way=0\/way=1)\/way=2\/(way=3\/way=4)\/way=5:=by exact XB v J
 rcases w with w | w | w | w
 .have F:mj way=0:=by rcases w with rfl | rfl <;> rfl
  have I:fA way=dF way:=if_pos (by exact Jt w);have hs:dF way=[90]\/dF way=[42]:=by rcases w with rfl | rfl <;> decide
  have p:Ph way s0 (kA {o with zero:=dF way,zeros:=o.zeros+1} (dF way)) 1 0:=⟨x.ov,x.pl,x.ld,x.tr,λ_=>x.sg,by unfold dS at l ⊢;dsimp only [kA];exact XD l,by show 0<o.seen+1;exact Aw j⟩;have r:gU {o with zero:=dF way,zeros:=o.zeros+1} 1 true={o with zero:=dF way,zeros:=o.zeros+1}:=if_pos x.pt;refine ⟨kA {o with zero:=dF way,zeros:=o.zeros+1} (dF way),?_,⟨by rw [F];exact p,x.lt,x.pt,λ_ _=>⟨λ_=>⟨x.ni,x.fs,aX rfl⟩,λe=>by lia,λe=>by lia⟩⟩,Cv v<|by exact Jt w⟩;rw [I];refine tk x.ov x.pl (by rcases hs with h | h <;> rw [h] <;> decide) ((PJ o hs).trans ((if_pos ⟨by rw [x.tr];decide,by rw [x.ni];decide,by rw [x.fs];decide,ba x.ze⟩).trans ?_));exact congrArg some r
 .subst w;have u:=u rfl;subst u;have r:gU {o with iW:=[36],floats:=o.floats+0} 0 true={o with iW:=[36],floats:=o.floats+0}:=if_pos x.pt;have p:Ph 2 s0 (kA {o with iW:=[36],floats:=o.floats+0} [36]) 0 0:=⟨x.ov,x.pl,x.ld,x.tr,λ_=>x.sg,by unfold dS at l ⊢;dsimp only [kA];exact Ju l,by show 0<o.seen+1;exact Aw j⟩;refine ⟨kA {o with iW:=[36],floats:=o.floats+0} [36],?_,⟨p,x.lt,x.pt,λ_ _=>⟨λe=>by lia,λ_=>⟨(by decide:[36]≠[]),x.ni,x.zs⟩,λe=>by lia⟩⟩,rfl⟩;refine tk (s:=[36]) x.ov x.pl (by decide)<|(PK o).trans ((if_pos x.mo).trans ((if_pos ?_).trans (congrArg some r)));rcases hs with rfl | rfl | rfl
  .exact ⟨by rw [x.sn];decide,λz=>by rw [x.sn] at z;exact absurd z.1<|by decide⟩
  .refine ⟨by rw [x.sn];decide,λz=>?_⟩;rw [x.sg,x.fs] at z;exact absurd z.2 (by decide)
  .refine ⟨by rw [x.sn];decide,λz=>?_⟩;rw [x.sg,x.fs] at z;exact absurd z.2 (by decide)
 .have f:pB way=true/\sq way=true:=by rcases w with rfl | rfl <;> exact ⟨rfl,rfl⟩
  have u:=u f.1;have y:=y f.2;subst u;subst y;have F:mj way=1:=if_pos f.1;have I:fA way=dF way:=if_pos (by exact Jv w);have hs:dF way=[43]\/dF way=[45]:=by rcases w with rfl | rfl <;> decide
  have r:gU {o with sign:=dF way,floats:=o.floats+0} 0 true={o with sign:=dF way,floats:=o.floats+0}:=if_pos x.pt;have p:Ph way [] (kA {o with sign:=dF way,floats:=o.floats+0} (dF way)) 0 0:=⟨x.ov,x.pl,x.ld,x.tr,λe=>absurd (f.2.symm.trans e) (λz=>nomatch z),by unfold dS at l ⊢;dsimp only [kA];exact Ju l,by show 0<o.seen+1;exact Aw j⟩;refine ⟨kA {o with sign:=dF way,floats:=o.floats+0} (dF way),?_,⟨by rw [F];exact p,x.lt,x.pt,λ_ _=>⟨λe=>by lia,λe=>by lia,λ_=>⟨rfl,x.mo,x.ni,x.zs⟩⟩⟩,Cv v<|by exact Jv w⟩;rw [I];exact tk x.ov x.pl (by rcases hs with h | h <;> rw [h] <;> decide)<|(G5 o hs).trans ((if_pos x.sn).trans (congrArg some r))
 .refine yx w ?_;have r:gU {o with bJ:=o.bJ+1} 1 false={o with bJ:=o.bJ+1}:=if_pos x.pt;have p:Ph 5 s0 (kA {o with bJ:=o.bJ+1} [57]) 1 0:=⟨x.ov,x.pl,x.ld,x.tr,λ_=>x.sg,by unfold dS at l ⊢;dsimp only [kA];exact XG l,by show 0<o.seen+1;exact Aw j⟩;refine ⟨kA {o with bJ:=o.bJ+1} [57],?_,⟨p,x.lt,x.pt,λ_ h=>absurd h<|by decide⟩,rfl⟩;exact tk (s:=[57]) x.ov x.pl (by decide) ((PI o).trans ((if_pos ⟨by rw [x.tr];decide,x.lt⟩).trans (congrArg some r)))
theorem PR {b t:List (List Nat)}{s x y:List Nat}{m k:Nat}(h:b++s::t=bY m x++bY k y):s=if b.length<m then x else y:=by
 have e:(b++s::t)[b.length]?=some s:=by rw [Ie<|dM _,zY];rfl
 rw [h] at e;by_cases q:b.length<m
 .rw [List.getElem?_append_left (by rw [kJ];exact q),RJ,if_pos q] at e;rw [if_pos q];exact (kH e).symm
 .rw [Ie (by rw [kJ];exact XH q),RJ] at e;rw [if_neg q];split at e
  .exact (kH e).symm
  .cases e
theorem PS {m k:Nat}{s:List Nat}(x:Kw way m s0 k o) (j:0<=way) (hs:s=if k<m then fA way else [57]):∃o',gj o s=some o'/\Kw way m s0 (k+1) o'/\[[44],[46]].any (·==o'.last)=false:=by
 have e:((k+1:Nat):Int)-mj way=(k:Int)-mj way+1:=by exact XI
 have f:s=[57]->(k+1<=m->way<5->False)->∃o',gj o s=some o'/\Kw way m s0 (k+1) o'/\[[44],[46]].any (·==o'.last)=false:=λq no=>by
  refine wy (G7 x.ph x.lt) λo' a b c d l=>?_;rw [q];exact ⟨o',a,⟨by rw [e];exact b,c,d.trans x.pt,λr u=>(no r u).elim⟩,by rw [l];rfl⟩
 by_cases q:k<m
 .rw [if_pos q] at hs;unfold fA at hs;by_cases z:way<5
  .rw [if_pos z] at hs;obtain ⟨o',a,b,c,d,p,l⟩:=PO x.ph (x.fl (by exact XJ q) z) j z;rw [hs];exact ⟨o',a,⟨by rw [e];exact b,d x.pt x.lt,p.trans x.pt,λ_ _=>c⟩,by rw [l];exact Cv j z⟩
  .rw [if_neg z] at hs;exact f hs λ_ h=>z h
 .rw [if_neg q] at hs;exact f hs λh _=>q (by lia)
theorem whole_run {m k:Nat}{j:List (List Nat)}(z:j=bY m (fA way)++bY k [57]) (F:0<m) (x:Fr s0 eH o) (p:0<=way) (I:way<6) (hs:s0=[]\/s0=[[43]]\/s0=[[45]]) (J:pB way=true->eH=[]) (L:sq way=true->s0=[]){b w:List (List Nat)}(i:mX b w):
  ∀ t,b++t=j->(b=[]/\w=[])\/∃o',im w o=some o'/\Kw way m s0 b.length o'/\[[44],[46]].any (·==o'.last)=false:=by
 have one:∀ {o1:Ord}{s:List Nat},im [s] o1=gj o1 s:=λ{o1 s}=>by
  show (match gj o1 s with | some o=>some o | none=>none)=_;cases gj o1 s <;> rfl
 induction i with
 | nil=>exact λt _=>ba ⟨rfl,rfl⟩
 | @one b w s r u=>
  intro t e;rw [lL] at e;have f:=PR<|e.trans z;right;rcases u _ e with ⟨rfl,rfl⟩ | ⟨o1,a,l,_⟩
  .rw [jQ,if_pos F] at f;refine fX (first (m:=m) x p I hs J L) λo' a b c=>?_;rw [f];exact ⟨o',one.trans a,b,c⟩
  .refine fX (PS l p f) λo2 a2 k2 v=>⟨o2,?_,?_,v⟩
   .rw [so,a];exact one.trans a2
   .rw [cC];exact k2
 | @ins b w c s h O r u=>
  intro t e;rw [lL] at e;have f:=PR<|e.trans z;right;rcases u _ e with ⟨rfl,_⟩ | ⟨o1,a,l,_⟩
  .exact absurd rfl h
  .refine wy (zhe l.ph O) λoi P U li y W=>fX (PS (k:=b.length) ⟨U,li.trans l.lt,y.trans l.pt,λZ h2=>W<|l.fl Z h2⟩ p f) λo2 a2 k2 v=>⟨o2,?_,?_,v⟩
   .rw [so,so,a,ul,one,P];exact one.trans a2
   .rw [cC];exact k2
abbrev G9 (way:Int) (s0:List (List Nat)) (o:Ord) (m:Nat) (k:Nat) (bJ:Int):Prop:=∀ {f:List (List Nat)}(x:Kw way m s0 (m+k) o) (j:0<=way) (l:bJ=0->k=0) (p:0<((m+k:Nat):Int)-mj way) (r:[[44],[46]].any (·==o.last)=false) (h:zb way bJ f),∃o' n t,im f o=some o'/\Ph way s0 o' n t/\0<n/\n<=((m+k:Nat):Int)-mj way+3/\0<=t/\t<=2/\[[44],[46]].any (·==o'.last)=false
abbrev PT (t:Ord×Int×List (List Nat)×Nat×Nat×Int):Prop:=G9 t.2.1 t.2.2.1 t.1 t.2.2.2.1 t.2.2.2.2.1 t.2.2.2.2.2
@[irreducible] noncomputable def xD:Ord×Int×List (List Nat)×Nat×Nat×Int:=nB (B0,bM,bM,bM,bM,bM) PT
@[irreducible] noncomputable def mH:Ord:=xD.1
theorem zhg:G9 xD.2.1 xD.2.2.1 mH xD.2.2.2.1 xD.2.2.2.2.1 xD.2.2.2.2.2:=by
 intro W x Z hk l la h;rcases h with rfl | rfl | rfl | ⟨F,s,j,hp,I,J,hs,rfl⟩
 .exact ⟨mH,_,0,rfl,x.ph,l,by exact DG,by decide,by decide,la⟩
 .refine nF (G8 x.ph x.pt l) λo1 a b c d=>?_;refine ⟨o1,_,_,?_,b,l,by exact DG,by decide,by decide,by rw [d];rfl⟩;show (match gj mH [80] with | some mH=>some mH | none=>none)=_;rw [a]
 .refine nF (G8 x.ph x.pt l) λo1 a b c d=>nF (G8 b c l) λo2 a2 u L O=>?_;refine ⟨o2,_,_,?_,u,l,by exact DG,by decide,by decide,by rw [O];rfl⟩;show (match gj mH [80] with | some mH=>(match gj mH [80] with | some mH=>some mH | none=>none) | none=>none)=_;rw [a];dsimp only;rw [a2]
 .refine nF (zhf x.ph x.pt hp) λo1 a b c d=>?_;have p:∀ {o2:Ord},im (bY j s) o1=some o2->im (F::bY j s) mH=some o2:=λ{o2} h=>by
   show (match gj mH F with | some mH=>im _ mH | none=>none)=_;rw [a];exact h
  rcases hs with rfl | ⟨z,P,rfl⟩
  .cases j with
   | zero=>exact absurd I (by decide)
   | succ j=>
    refine wy (G7 b<|c.trans x.lt) λo2 a2 u L O U=>?_;obtain ⟨r,a3,v,y⟩:=PP j o2 _ u L (by rw [U];rfl);have a4:im (bY (j+1) [57]) o1=some r:=by
     rw [pO];show (match gj o1 [57] with | some mH=>im _ mH | none=>none)=_;rw [a2];exact a3
    refine ⟨r,_,_,p a4,v,by exact XK l,by exact XM J,by decide,by decide,?_⟩;cases j with
    | zero=>cases a3;rw [U];rfl
    | succ _=>exact y<|sV _
  .have f:=d (x.fl (by rw [hk z];exact dM _) P);exact fX (PQ Z P j o1 _ b f) λr a3 v y=>⟨r,_,_,p a3,v,by exact XN l,by exact XQ J,by decide,by decide,y I⟩
theorem zhh {way:Int}{s0:List (List Nat)}{o:Ord}{m:Nat}{k:Nat}{bJ:Int}:G9 way s0 o m k bJ:=on (P:=PT) (by with_unfolding_all exact zhg) (o,way,s0,m,k,bJ)
end
theorem PU (way loose bJ:Int):CG way loose bJ=bY (if way<5 then (loose+mj way).toNat else loose.toNat) (fA way)++bY bJ.toNat [57]:=by
 unfold CG fA mj;by_cases q:way<5
 .rw [if_pos q,if_pos q,if_pos q]
 .rw [if_neg q,if_neg q,if_neg q]
theorem zhi {b w:List (List Nat)}(i:mX b w):∀ s∈w,s∈b\/∃c∈q8,s=[c]:=by
 induction i with
 | nil=>intro s h;cases h
 | one s r f=>
  intro x j;rcases qp.mp j with h | rfl
  .exact (f x h).imp (λz=>qp.mpr<|ba z) id
  .exact ba<|qp.mpr<|aX rfl
 | ins s h l r f=>
  intro x j;rcases qp.mp j with h | rfl
  .rcases qp.mp h with h | rfl
   .exact (f x h).imp (λz=>qp.mpr<|ba z) id
   .exact aX ⟨_,l,rfl⟩
  .exact ba<|qp.mpr<|aX rfl
noncomputable def pJ:List (List Nat):=[[90],[42],[36],[43],[45],[57],[44],[47],[66],[48],[46],[86],[80]]
theorem qq:∀ s∈pJ,gk s/\s.length<=1:=by
 have:∀ s∈pJ,(∃c∈vj,s=[c])/\s.length<=1:=by
  have k:∀ s∈pJ,s.headD 0∈vj/\s=[s.headD 0]/\s.length<=1:=by decide
  exact λs h=>let ⟨a,b,c⟩:=k s h;⟨⟨_,a,b⟩,c⟩
 exact λs h=>let ⟨⟨c,a,b⟩,l⟩:=this s h;⟨aX<|aX ⟨c,a,b⟩,l⟩
theorem PV {way:Int}(f:0<=way) (j:way<5):dF way∈pJ/\dF way≠[80]:=by
 have:way=0\/way=1\/way=2\/way=3\/way=4:=by exact Js f j
 rcases this with rfl | rfl | rfl | rfl | rfl <;> decide
theorem zp:∀ l:List (List Nat),(∀ s∈l,s.length<=1)->l.flatten.length<=l.length
 | [],_=>dM _
 | s::r,h=>by
  have a:=h s dh;have b:=zp r λs hs=>h s<|dz _ hs;rw [lj,cC,eQ];exact XS a b
structure zhj (aA:List (List Nat)):Prop where
 ok:∀ s∈aA,gk s
 fl:aA.flatten.length<=30
 p5:aA.count [80]<=5
theorem Cw {l:List (List Nat)}(h:∀ s∈l,s≠[80]):l.count [80]=0:=List.count_eq_zero.mpr λz=>h _ z rfl
theorem PW {aA:List (List Nat)}(h:Drawn aA):zhj aA:=by
 obtain ⟨way,loose,bJ,s0,eH,f,behind,last,u,rfl⟩:=h;obtain ⟨⟨l,P,U,W,Z,n1,i,b⟩,p,d⟩:=u;have j:(∀ s∈s0,s∈pJ/\s≠[80])/\s0.length<=1:=by
  have:s0=[]\/s0=[[43]]\/s0=[[45]]:=by
   rcases p with ⟨h,_⟩ | ⟨_,⟨h,_⟩ | ⟨h,_⟩⟩
   .exact ba h
   .exact aX h
   .exact ba h
  rcases this with rfl | rfl | rfl <;> decide
 have a1:(∀ s∈eH,s∈pJ/\s≠[80])/\eH.length<=1:=by rcases d with rfl | ⟨rfl,_⟩ <;> decide
 have a2:(∀ s∈f,s∈pJ/\s≠[80])/\f.length<=16:=by
  rw [PU] at i;have v:fA way∈pJ/\fA way≠[80]:=by
   unfold fA;by_cases q:way<5
   .rw [if_pos q];exact PV l q
   .rw [if_neg q];decide
  refine ⟨λs hs=>?_,?_⟩
  .rcases zhi i s hs with h | ⟨c,y,rfl⟩
   .rcases kG.mp h with h | h
    .rw [Ij h];exact v
    .rw [Ij h];decide
   .have:∀ c∈q8,[c]∈pJ/\[c]≠[80]:=by decide
    exact this c y
  .have:=i.len;rw [cC,kJ,kJ] at this;have o:mj way<=1:=by unfold mj;split <;> decide
   split at this <;> lia
 have a3:(∀ s∈behind,s∈pJ)/\behind.length<=4/\behind.count [80]<=4:=by
  have k:(∀ s∈behind,s∈pJ)/\behind.length<=4:=by
   rcases b with rfl | rfl | rfl | ⟨pt,s,r,z,_,F,hs,rfl⟩
   .decide
   .decide
   .decide
   .refine ⟨λx hx=>?_,by rw [eQ,kJ];exact XT F⟩;rcases cR.mp hx with rfl | hx
    .rcases z with rfl | rfl <;> decide
    .rw [Ij hx];rcases hs with rfl | ⟨_,I,rfl⟩
     .decide
     .exact (PV l I).1
  exact ⟨k.1,k.2,fP Ig k.2⟩
 have a4:(∀ s∈last,gk s/\s≠[80])/\last.flatten.length<=2:=by
  have one:∀ {s:List Nat},gk s->s≠[80]->(∀ x∈[s],gk x/\x≠[80])/\([s]:List (List Nat)).flatten.length<=2:=λ{s} h n=>⟨λx hx=>by rw [gp.mp hx];exact ⟨h,n⟩,by rw [List.flatten_singleton];exact G2 h⟩;have nil:(∀ x∈([]:List (List Nat)),gk x/\x≠[80])/\([]:List (List Nat)).flatten.length<=2:=⟨λx hx=>absurd hx List.not_mem_nil,by decide⟩;rcases p with ⟨_,h⟩ | ⟨_,⟨_,h⟩ | ⟨_,h⟩⟩
  .rw [h];exact nil
  .rw [h];exact nil
  .rcases h with h | h | h | h <;> rw [h]
   .exact one (ba rfl) (by decide)
   .exact one (aX<|ba rfl) (by decide)
   .exact one (qq [45]<|by decide).1 (by decide)
   .exact one (qq [43]<|by decide).1 (by decide)
 have f0:=zp s0 λs hs=>(qq s (j.1 s hs).1).2;have J:=zp eH λs hs=>(qq s (a1.1 s hs).1).2;have L:=zp f λs hs=>(qq s (a2.1 s hs).1).2;have O:=zp behind λs hs=>(qq s<|a3.1 s hs).2;refine ⟨λs hs=>?_,?_,?_⟩
 .rcases kG.mp hs with hs | hs
  .rcases kG.mp hs with hs | hs
   .rcases kG.mp hs with hs | hs
    .rcases kG.mp hs with hs | hs
     .exact (qq s (j.1 s hs).1).1
     .exact (qq s (a1.1 s hs).1).1
    .exact (qq s (a2.1 s hs).1).1
   .exact (qq s<|a3.1 s hs).1
  .exact (a4.1 s hs).1
 .have:=j.2;have:=a1.2;have:=a2.2;have:=a3.2.1;have:=a4.2;rw [Ag,Ag,Ag,Ag,cC,cC,cC,cC];exact XU j.2 a1.2 a2.2 a3.2.1 f0 J L O this
 .have:=a3.2.2;rw [Aj,Aj,Aj,Aj,Cw λs hs=>(j.1 s hs).2,Cw λs hs=>(a1.1 s hs).2,Cw λs hs=>(a2.1 s hs).2,Cw λs hs=>(a4.1 s hs).2];exact XV this
theorem PX:∀ l:List (List Nat),(l.map qo).sum<=l.flatten.length
 | []=>dM _
 | s::r=>by
  have:=PX r;have k:qo s<=s.length:=by unfold qo;split <;> lia
  rw [eF,uu,lj,cC];exact XW this k
set_option tactic.hygienic true in
theorem zhk {aA:List (List Nat)}(h:Drawn aA):∃o n t,im aA lD=some o/\o.lead=0/\o.trail=t/\dS o=n/\0<n/\n<=10/\t<=2/\[[44],[46]].any (·==o.last)=false:=by
 obtain ⟨way,loose,bJ,s0,eH,j,behind,last,dp,rfl⟩:=h;obtain ⟨⟨W,Z,u,l1,n0,n1,i,b⟩,I,d⟩:=dp;have hs:s0=[]\/s0=[[43]]\/s0=[[45]]:=by
  rcases I with ⟨h,_⟩ | ⟨_,⟨h,_⟩ | ⟨h,_⟩⟩
  .exact ba h
  .exact aX h
  .exact ba h
 have h0:sq way=true->s0=[]:=λe=>by
  rcases I with ⟨h,_⟩ | ⟨z,_⟩
  .exact h
  .rw [e] at z;cases z
 have hd:pB way=true->eH=[]:=λe=>by
  rcases d with h | ⟨_,z⟩
  .exact h
  .rw [e] at z;cases z
 refine bZ (zij hs<|d.imp id And.left) λo1 t1 F=>?_;have p:0<=mj way/\mj way<=1/\(¬way<5->mj way=0):=by
  unfold mj;split
  .rename_i z;refine ⟨by decide,by decide,λq=>?_⟩;have:way=5:=by exact XX Z q
   subst this;exact absurd z (by decide)
  .exact ⟨by decide,by decide,λ_=>rfl⟩
 have v:=PU way loose bJ;generalize y:(if way<5 then (loose+mj way).toNat else loose.toNat)=m at v;have J:((m:Nat):Int)=loose+mj way:=by
  by_cases q:way<5
  .rw [if_pos q] at y;exact XY u p.1 y
  .rw [if_neg q] at y;have:=p.2.2 q;exact XZ u y this
 obtain ⟨eb,_⟩ | ⟨o2,t2,K,la⟩:=whole_run v (by exact X0 u p.1 J) F W Z hs hd h0 i []<|of _
 .rw [v] at eb;have:=congrArg pS eb;rw [cC,kJ,jQ] at this;lia
 have bl:(CG way loose bJ).length=m+bJ.toNat:=by rw [v,cC,kJ,kJ]
 rw [bl] at K;obtain ⟨r,n,t,t3,P,p1,p2,p3,p4,L⟩:=zhh K W (λe=>by exact X1 e) (by exact X2 u J) la b;have t4:im (s0++eH++j++behind) lD=some r:=by rw [so,so,t1,ul,t2,ul,t3]
 have O:∃f,im last r=some f/\f.lead=0/\f.trail=t/\dS f=n/\[[44],[46]].any (·==f.last)=false:=by
  have nil:last=[]->∃f,im last r=some f/\f.lead=0/\f.trail=t/\dS f=n/\[[44],[46]].any (·==f.last)=false:=λe=>⟨r,by rw [e];rfl,P.ld,P.tr,P.dg,L⟩;rcases I with ⟨_,h⟩ | ⟨z,⟨_,h⟩ | ⟨e,h⟩⟩
  .exact nil h
  .exact nil h
  .have:∃s,last=[s]/\(s=[67,82]\/s=[68,66]\/s=[45]\/s=[43]):=by
    rcases h with h | h | h | h
    .exact ⟨_,h,ba rfl⟩
    .exact ⟨_,h,aX<|ba rfl⟩
    .exact ⟨_,h,aX<|aX<|ba rfl⟩
    .exact ⟨_,h,aX<|aX<|aX rfl⟩
   refine bZ this λs U h=>yx U ?_;obtain ⟨f,a,b,c,d,l⟩:=zin P p1 ((P.sg z).trans (by rw [e];rfl)) h;refine ⟨f,?_,b,c,d,?_⟩
   .show (match gj r s with | some o=>some o | none=>none)=_;rw [a]
   .rw [l];rcases h with rfl | rfl | rfl | rfl <;> rfl
 refine wy O λf a b c d l=>?_;refine ⟨f,n,t,by rw [so,t4];exact a,b,c,d,p1,by exact X3 l1 n1 J p2,p4,l⟩
theorem zhl:GL:=λaA h=>by
 obtain ⟨p,f,v⟩:=PW h;obtain ⟨o,n,t,a,b,c,d,j,r,u,l⟩:=zhk h;refine ⟨o,n.toNat,p,f,a,?_,by rw [d];exact X4 j,?_⟩
 .unfold vi;rw [if_neg (by exact X5 d j),l,if_neg je];exact decide_eq_true (by rw [d,b,c];exact X6 r u)
 .rw [Qv];have:=PX aA;exact X7 f this
theorem zhm:OO:=λaA o Dg h P=>by
 obtain ⟨f,v,j⟩:=PW h;have r:aA.length<=1000:=by have:=za aA f;exact X8 v this
 have I:=PH f r j P;refine ⟨I.F,r,j,?_,P.s,λu sc=>?_,λd=>?_,λu sc y=>?_,zgX f I.n⟩
 .rw [I.bp];have:=I.F.s1;exact DC this
 .have k:(pC aA u sc).natAbs<2 ^ 64:=by
   unfold pC;rw [I.dg,jm];have p:(0:Int)<10 ^ Dg:=pow10_pos Dg;have q:=M7 I.d18;generalize (u.natAbs:Int)*_ / _=z;have a:=Ds z<|Ht p;have b:=Dt z p;exact X9 q a b
  unfold vr;split
  .rw [Ih,Ic];exact k
  .exact k
 .have:=(Cr (sc:=jY o) f I.n d).l;have:=P.s;lia
 .rw [Pt f I.n,zg0 u sc (jY o) Dg I.dg I.bp y,I.bp]
section
variable {tf:Int->List Nat}{bh:Int}{hs:Bool}
theorem Ha:∀ (j:List Nat) (f:List (List Nat×V)),j.foldl (λf k=>(iE hs k).foldl (mY tf bh) f) f=(j.flatMap<|iE hs).foldl (mY tf bh) f
 | [],_=>rfl
 | k::r,f=>by rw [iH,Ha r,zkj,qB]
set_option tactic.hygienic true in
theorem PY {k:List Nat}{v:V}:∀ {f:List (List Nat×V)}{q:List Nat×V},q∈lr f k v->q=(k,v)\/q∈f
 | [],q,h=>ba<|gp.mp h
 | (k',j)::r,q,h=>by
  unfold lr at h;split at h
  .rename_i e;rcases cR.mp h with rfl | h
   .exact ba (by rw [e])
   .exact aX<|dz _ h
  .rcases cR.mp h with rfl | h
   .exact aX dh
   .exact (PY h).imp id (dz _)
set_option tactic.hygienic true in
theorem Cy {k:List Nat}{v:V}:∀ {f:List (List Nat×V)}{x:List Nat},(x∈f.map (·.1)\/x=k)->x∈(lr f k v).map (·.1)
 | [],x,h=>by
  rcases h with h | rfl
  .cases h
  .exact dh
 | (k',j)::r,x,h=>by
  unfold lr;split
  .rename_i e;rcases h with h | rfl
   .exact h
   .rw [eF,e];exact dh
  .rw [eF] at h ⊢;rcases h with h | h
   .rcases cR.mp h with h | h
    .exact cR.mpr<|ba h
    .exact dz _<|Cy<|ba h
   .exact dz _<|Cy<|aX h
structure Cz (tf:Int->List Nat) (bh:Int) (W:List Int) (acc:List (List Nat×V)):Prop where
 a:∀ q∈acc,∃w∈W,q=(tf w,g5<|c9 w bh)
 b:∀ w∈W,tf w∈acc.map (·.1)
theorem PZ:∀ (W D:List Int) (f:List (List Nat×V)),Cz tf bh D f->Cz tf bh (D++W) (W.foldl (mY tf bh) f)
 | [],D,f,x=>by rw [of];exact x
 | w::r,D,f,x=>by
  have:=PZ r (D++[w]) (mY tf bh f w) ⟨λq j=>?_,λv l=>?_⟩
  .rw [lL] at this;exact this
  .rcases PY j with e | j
   .exact ⟨w,zy _ dh,e⟩
   .exact bZ (x.a q j) λv a b=>⟨v,vO _ a,b⟩
  .rcases kG.mp l with h | h
   .exact Cy<|ba<|x.b v h
   .rw [gp.mp h];exact Cy<|aX rfl
theorem zhn (f:List Nat):Cz tf bh (f.flatMap<|iE hs) (nV hs tf bh f):=by
 have:=PZ (tf:=tf) (bh:=bh) (f.flatMap<|iE hs) [] [] ⟨(λq h=>nomatch h),λw h=>nomatch h⟩;unfold nV;rw [Ha];exact this
theorem zho {l:List (List Nat×V)}{k:List Nat}{v:V}(h:l.lookup k=some v):(k,v)∈l:=by
 induction l with
 | nil=>cases h
 | cons p r f=>
  rw [j9] at h;cases z:k==p.1 with
  | true=>
   rw [z] at h;refine uN h ?_;rw [beq_iff_eq.mp z];exact dh
  | false=>rw [z] at h;exact dz _<|f h
theorem P6 {a b c:List Nat}(f:jG a b=true) (j:jG b c=true):jG a c=true:=by
 induction a generalizing b c with
 | nil=>cases c with
  | cons _ _=>rfl
  | nil=>cases b with
   | nil=>exact f
   | cons _ _=>exact nomatch j
 | cons x a l=>cases b with
  | nil=>exact nomatch f
  | cons y b=>cases c with
   | nil=>exact nomatch j
   | cons z c=>
    replace f:(decide (x<y) || (x==y && jG a b))=true:=f
    replace j:(decide (y<z) || (y==z && jG b c))=true:=j
    show (decide (x<z) || (x==z && jG a c))=true;rw [ye,jl,decide_eq_true_iff,beq_iff_eq] at f j ⊢;rcases f with f | ⟨rfl,f⟩
    .exact ba<|j.elim (xN f) λq=>q.1▸f
    .exact j.imp_right λq=>⟨q.1,l f q.2⟩
theorem Hb:∀ a:List Nat,jG a a=false
 | []=>rfl
 | x::a=>by unfold jG;rw [Hb a,rI,yc];exact decide_eq_false<|CT x
theorem zhp {a b:List Nat}(h:jG a b=true):jG b a=false:=by
 cases z:jG b a with
 | false=>rfl
 | true=>exact absurd ((Hb a).symm.trans (P6 h z)) (λe=>nomatch e)
noncomputable def zv:List Nat->List (List Nat)->Bool
 | _,[]=>true
 | a,b::r=>match jG a b with
  | true=>zv b r
  | false=>false
theorem P7:∀ (a:List Nat) (l:List (List Nat)),zv a l=true->(a::l).Pairwise λx y=>jG x y=true
 | a,[],_=>List.pairwise_singleton _ _
 | a,b::r,h=>by
  unfold zv at h;cases z:jG a b with
  | false=>rw [z] at h;cases h
  | true=>
   rw [z] at h;have f:=P7 b r h;refine Da.mpr ⟨λx hx=>?_,f⟩;rcases cR.mp hx with rfl | hx
   .exact z
   .exact P6 z<|(Da.mp f).1 x hx
theorem P8:∀ {l:List (List Nat)},l.Pairwise (λx y=>jG x y=true)->rL l=true
 | [],_=>rfl
 | a::r,h=>by
  obtain ⟨f,j⟩:=Da.mp h;unfold rL;rw [P8 j,sL];exact mM.mpr λb p=>by rw [zhp<|f b p];rfl
theorem P9 {k:List Nat}{v:V}:∀ {f:List (List Nat×V)},k ∉ f.map (·.1)->lr f k v=f++[(k,v)]
 | [],_=>rfl
 | (k',j)::r,h=>by
  unfold lr;rw [if_neg (λe=>h<|by rw [eF,e];exact dh),P9 λz=>h<|by rw [eF];exact dz _ z];rfl
theorem Qa:∀ (W:List Int) (f:List (List Nat×V)),(f.map (·.1)++W.map tf).Pairwise (λx y=>jG x y=true)->(W.foldl (mY tf bh) f).map (·.1)=f.map (·.1)++W.map tf
 | [],f,_=>(of _).symm
 | w::r,f,h=>by
  have n:tf w ∉ f.map (·.1):=λz=>by
   have:=(List.pairwise_append.mp h).2.2 _ z (tf w) dh;rw [Hb] at this;cases this
  have e:(mY tf bh f w).map (·.1)=f.map (·.1)++[tf w]:=by
   unfold mY;rw [P9 n,jw];rfl
  rw [iH,Qa r _ (by rw [e,lL];exact h),e,lL];rfl
theorem Hc:∀ f:List Nat,f.flatMap (iE false)=f.map λn:Nat=>(n:Int)
 | []=>rfl
 | k::r=>by rw [zkj,Hc r];rfl
theorem zhq {f:List Nat}(h:zv [] (f.map λn:Nat=>tf n)=true):(nV false tf bh f).map (·.1)=f.map (λn:Nat=>tf n)/\rL ((nV false tf bh f).map (·.1))=true:=by
 have p:=P7 _ _ h;have p:=(Da.mp p).2;have e:(nV false tf bh f).map (·.1)=f.map λn:Nat=>tf n:=by
  have:=Qa (bh:=bh) (f.flatMap<|iE false) [] (by rw [Hc,lm];exact p);unfold nV;rw [Ha,this,Hc,lm];rfl
 exact ⟨e,by rw [e];exact P8 p⟩
def Hd (bx:List Int) (j:List (List Nat)) (u:Int) (n:Nat) (first f:Int) (s:List Nat):Option GD:=
 if j.any (·==s)=true/\first<0 then some ⟨tP,[],n,f⟩
 else if [[57],[90],[42]].any (·==s)=true\/j.any (·==s)=true then (eR bx f).map λd=>⟨if s=[57] then qm else pD,[48+d.toNat],first,f+1⟩
 else some ⟨(vn u s).1,(vn u s).2,first,f⟩
theorem zhr {bx:List Int}{j:List (List Nat)}{u:Int}{n:Nat}{first f:Int}{s:List Nat}(h:∀ d∈bx,0<=d/\d<10):Hd bx j u n first f s=zf bx j u n first f s:=by
 have k:(eR bx f).map (λd=>(⟨if s=[57] then qm else pD,[48+d.toNat],first,f+1⟩:GD))=(eR bx f).map λd=>⟨if s=[57] then qm else pD,nD d,first,f+1⟩:=by
  cases e:eR bx f with
  | none=>rfl
  | some d=>
   obtain ⟨a,b⟩:=h d (Oy e).1;obtain ⟨m,rfl⟩:=xQ a;dsimp only [RH];rw [jm,M9<|by exact Yb b]
 unfold Hd zf;rw [k]
noncomputable def CA (bx:List Int) (f:List (List Nat)) (u:Int):List (List Nat)->lE->Option lE
 | [],t=>some t
 | s::r,t=>match Hd bx f u t.cells.length t.first t.turn s with
  | some c=>CA bx f u r ⟨t.cells++[(c.k,c.t)],c.first,c.turn⟩
  | none=>none
theorem Qb {bx:List Int}{f:List (List Nat)}{u:Int}(h:∀ d∈bx,0<=d/\d<10):∀ (l:List (List Nat)) (t:lE),CA bx f u l t=lQ bx f u l t
 | [],_=>rfl
 | s::r,t=>by
  unfold CA lQ qn;rw [zhr h];cases zf bx f u t.cells.length t.first t.turn s with
  | none=>rfl
  | some c=>exact Qb h r _
theorem zhs (u j:Int):∀ d∈pE u j,0<=d/\d<10:=λd l=>bZ (kF.mp l) λk _ f=>Y9 f ⟨Ds _ (by decide),Dt _<|by decide⟩
def Qc (aA:List (List Nat)) (u:Int) (t:lE) (x:List Nat):Bool:=
 match oo (mF (t.cells.zipIdx.filterMap pG)++[(t.cells.length:Int)]) with
 | none=>false
 | some b=>match oo (mF<|t.cells.zipIdx.filterMap vp) with
  | none=>false
  | some c=>match Ch (eM aA) u c (t.cells.zipIdx.map<|vq (pF aA) b c) with
   | none=>false
   | some f=>zF c.natAbs 1000 && (zF f.flatten.length 1000 && f.flatten==x)
def He (aA:List (List Nat)) (u f:Int) (x:List Nat):Bool:=
 match CA (pE u f) (eM aA) u aA ⟨[],-1,0⟩ with
 | none=>false
 | some t=>(t.cells.all λq=>zF q.2.length 2) && (if u=0/\vo t.cells=true then (t.cells.map<|re<|pF aA).flatten==x else Qc aA u t x)
theorem zht {aA:List (List Nat)}{u j:Int}{x:List Nat}(h:He aA u j x=true):tT aA u j x:=by
 unfold He at h;rw [Qb<|zhs u j] at h;cases e:lQ (pE u j) (eM aA) u aA ⟨[],-1,0⟩ with
 | none=>rw [e] at h;cases h
 | some t=>
  rw [e] at h;obtain ⟨F,f⟩:=jl.mp h;have y:∀ q∈t.cells,q.2.length<=2:=λq I=>bC<|mM.mp F q I;by_cases z:u=0/\vo t.cells=true
  .rw [if_pos z] at f;rw [<-beq_iff_eq.mp f];exact .blank t e y z
  .rw [if_neg z] at f;unfold Qc at f;cases l:oo (mF (t.cells.zipIdx.filterMap pG)++[(t.cells.length:Int)]) with
   | none=>rw [l] at f;cases f
   | some b=>
    rw [l] at f;cases p:oo (mF<|t.cells.zipIdx.filterMap vp) with
    | none=>rw [p] at f;cases f
    | some c=>
     rw [p] at f;dsimp only at f;cases r:Ch (eM aA) u c (t.cells.zipIdx.map<|vq (pF aA) b c) with
     | none=>rw [r] at f;cases f
     | some J=>
      rw [r] at f;obtain ⟨L,v⟩:=jl.mp f;obtain ⟨v,O⟩:=jl.mp v;rw [<-beq_iff_eq.mp O];exact .words t b c J e y z l p (bC L) r<|bC v
end
def zhu (t:List Nat) (Dg:Nat) (sc:Int) (n:Nat):Bool:=(iE (eO<|fh t) n).all λw=>He (fh t) w Dg<|sr t sc Dg w
def Qd (t:List Nat) (Dg:Nat) (sc:Int):Bool:=(j7<|10 ^ Dg).all (zhu t Dg sc)
def zhv (t:List Nat) (Dg:Nat) (sc:Int):Bool:=zv [] ((j7<|10 ^ Dg).map λn:Nat=>sr t sc Dg n)
def Qe (r:Row):Bool:= !(ji.any (·==r.sign)) && (!(decide (r.role=gg)) && (mU r).isNone)
def Qf (t:List Nat) (Dg:Nat) (sc:Int):Bool:=match im (fh t) lD with
 | none=>false
 | some o=>vi o && (decide (dS o=Dg) && decide (jY o=sc))
def Qg (t:List Nat) (Dg:Nat) (sc:Int):Bool:=
 ((fh t).all λs=>pJ.any (·==s) || ji.any (·==s)) && (decide ((fh t).flatten=t) && (decide (t.length<=3) && (decide (0<mi t) && (decide (mi t<=9) && ((eO (fh t) || (jL<|fh t).1.all Qe) && Qf t Dg sc)))))
theorem zhw {rows:List Row}(oct:List Nat) (h:rows.all Qe=true):qV rows oct=false:=by
 have k:∀ r∈rows,ji.any (·==r.sign)=false/\r.role≠gg/\mU r=none:=λr j=>by
  have:=mM.mp h r j;obtain ⟨a,b⟩:=jl.mp this;obtain ⟨b,c⟩:=jl.mp b;exact ⟨(zN _).mp a,of_decide_eq_false<|(zN _).mp b,zjA.mp c⟩
 have f:qg rows=false:=by
  unfold qg;rw [List.filterMap_eq_nil_iff.mpr λr j=>(k r j).2.2];rfl
 unfold qV;rw [f];refine Rq.mpr λr j=>iw (k r j) λa b _=>?_;unfold w4 vc;rw [if_neg<|ne_true_of_eq_false a,decide_eq_false b,zT];decide
set_option tactic.hygienic true in
theorem zhx {hs:Bool}{n:Nat}{w:Int}(h:w∈iE hs n):w=n\/(hs=true/\w=0-n):=by
 unfold iE at h;split at h
 .rename_i q;rcases cR.mp h with h | h
  .exact ba h
  .exact aX ⟨q,gp.mp h⟩
 .exact ba<|gp.mp h
set_option tactic.hygienic true in
abbrev Hg (t:List Nat) (sc:Int):Prop:=∀ {Dg:Nat}(h:Qg t Dg sc=true) (e:Qd t Dg sc=true) (c:Dg=1\/(Dg=2/\eO (fh t)=false/\zhv t Dg sc=true)),∃o Dg sc,zj t o Dg sc
abbrev Qh (t:List Nat×Int):Prop:=Hg t.1 t.2
@[irreducible] noncomputable def Qi:List Nat×Int:=nB (bM,bM) Qh
@[irreducible] noncomputable def iP:List Nat:=Qi.1
@[irreducible] noncomputable def kB:Int:=Qi.2
theorem zhy:Hg iP kB:=by
 intro Dg h e c;obtain ⟨h1,h⟩:=jl.mp h;obtain ⟨y,h⟩:=jl.mp h;obtain ⟨J,h⟩:=jl.mp h;obtain ⟨U,h⟩:=jl.mp h;obtain ⟨L,h⟩:=jl.mp h;obtain ⟨h6,h⟩:=jl.mp h;have y:=of_decide_eq_true y;have J:=of_decide_eq_true J;have U:=of_decide_eq_true U;have L:=of_decide_eq_true L;have j:∀ s∈fh iP,gk s:=λs hs=>by
  rcases ye.mp (mM.mp h1 s hs) with q | q
  .exact (qq s<|k9.mp q).1
  .rcases cR.mp (k9.mp q) with q | q
   .exact ba q
   .exact aX<|ba<|gp.mp q
 unfold Qf at h;cases Z:im (fh iP) lD with
 | none=>rw [Z] at h;cases h
 | some o=>
  rw [Z] at h;obtain ⟨h7,h⟩:=jl.mp h;obtain ⟨h8,O⟩:=jl.mp h;have h8:=of_decide_eq_true h8;have O:=of_decide_eq_true O;have P:qY (fh iP) o Dg:=⟨Z,h7,h8,by show mi iP<=9999;exact Yc L⟩;have sl:(fh iP).length<=3:=by
   have:=za _ j;rw [y] at this;exact Yd J this
  have I:=PH j (by exact Ye sl) (fP Ig<|by exact Yg sl) P;have F:=I.F;have bp:=I.bp;rw [O] at F bp;have T:=zhn (tf:=sr iP kB Dg) (bh:=kB) (hs:=eO<|fh iP)<|j7<|10 ^ Dg;change Cz _ _ _ (kQ iP kB Dg) at T;have p0:0<10 ^ Dg:=Ah (by decide);have W:∀ {w:Int},w∈(j7<|10 ^ Dg).flatMap (iE<|eO<|fh iP)↔∃n,n<10 ^ Dg/\w∈iE (eO<|fh iP) n:=λ{w}=>by
   rw [zx];exact ⟨λ⟨n,a,b⟩=>⟨n,xZ.mp a,b⟩,λ⟨n,a,b⟩=>⟨n,xZ.mpr a,b⟩⟩
  refine ⟨o,Dg,kB,⟨j,y,J,P,O,F,I.dg,by lia,bp,λn hn w p=>?_,?_,?_,U,L,λq hq=>?_,λoct=>?_⟩⟩
  .exact zht<|mM.mp (mM.mp e n<|xZ.mpr hn) w p
  .rcases c with rfl | ⟨rfl,hs,ch⟩
   .left;have:=GJ (eO<|fh iP) (sr iP kB 1) kB (j7<|10 ^ 1) [];rw [rF] at this;exact ziC this (by decide)
   .right;have:=zhq (bh:=kB) ch;unfold kQ;rw [hs];refine ⟨?_,this.2⟩;have l:=congrArg pS this.1;rw [cN,cN,rF] at l;exact l
  .have w0:(0:Int)∈iE (eO<|fh iP) 0:=by unfold iE;split <;> exact dh
   have:=T.b 0<|W.mpr ⟨0,p0,w0⟩;rw [<-cN (f:=(·.1))];exact List.length_pos_of_mem this
  .refine bZ (T.a q hq) λw _ a0=>yx a0 ?_;have r:=Cr (sc:=kB) j I.n<|c9 w kB;exact ⟨r.l,r.b⟩
  .cases el:(kQ iP kB Dg).lookup oct with
   | some v=>
    refine bZ (T.a _<|zho el) λw p ew=>?_;injection ew with e1 e2
    subst e1;subst e2;refine bZ (W.mp p) λn hn p=>?_;have hl:=Pt (sc:=kB) j I.n<|c9 w kB;have a1:mZ (fh iP) (c9 w kB) (eS (c9 w kB) kB Dg)=w:=by
     unfold mZ eS;rw [OT,show decide ((c9 w kB).1<0)=decide (w<0) from decide_eq_decide.mpr (GN _ _)];have wa:=zhx p;have na:w.natAbs=n:=by lia
     rw [na,Sj hn];rcases wa with rfl | ⟨q,rfl⟩
     .rw [decide_eq_false (by exact uy),zT,if_neg je]
     .rw [q,sL];by_cases z:(0:Int)-n<0
      .rw [decide_eq_true z,if_pos rfl,Ih]
      .rw [decide_eq_false z,if_neg je];exact Yh z
    rw [a1] at hl;rw [show mh (oN iP) Dg kB (mi iP) (sr iP kB Dg w) false=some (c9 w kB) from hl];rfl
   | none=>
    cases eh:mh (oN iP) Dg kB (mi iP) oct false with
    | none=>rfl
    | some f=>
     exfalso;unfold mh at eh;split at eh
     .rename_i z;have tw:tJ (oN iP) oct∈(j7<|10 ^ Dg).flatMap (iE<|eO<|fh iP):=by
       have ub:=F.ub oct;have u0:=(Cs oct (jL<|fh iP).1 0 0 (mL _) (by decide)).1;unfold tJ oN;rw [sv] at ub ⊢;change 0<=oK _ _ at u0;have hm:eO (fh iP)=false->qV (jL<|fh iP).1 oct=false:=λq=>by
        rw [q,Db] at h6;exact zhw oct h6
       generalize oK (jL<|fh iP).1 oct=u at ub u0;obtain ⟨m,rfl⟩:=xQ u0;refine W.mpr ⟨m,ub,?_⟩;cases q:eO (fh iP) with
       | false=>rw [hm q,if_neg je];exact gp.mpr rfl
       | true=>
        split
        .exact dz _ (gp.mpr<|by exact Yi)
        .exact dh
      have kk:=T.b _ tw;obtain ⟨v,hv⟩:=OP kk;have:sr iP kB Dg (tJ (oN iP) oct)=oct:=z.2;rw [this,el] at hv;cases hv
     .cases eh
theorem rm {t:List Nat}{sc:Int}:Hg t sc:=on (P:=Qh) (by with_unfolding_all exact zhy) (t,sc)
theorem zhz:OJ:=λt ht=>by
 rcases cR.mp ht with rfl | ht
 .exact rm (Dg:=2) (sc:=0) (by decide+kernel) (by decide+kernel) (aX ⟨rfl,by decide,by decide+kernel⟩)
 rcases cR.mp ht with rfl | ht
 .exact rm (Dg:=2) (sc:=0) (by decide+kernel) (by decide+kernel) (aX ⟨rfl,by decide,by decide+kernel⟩)
 rcases cR.mp ht with rfl | ht
 .exact rm (Dg:=2) (sc:=0) (by decide+kernel) (by decide+kernel) (aX ⟨rfl,by decide,by decide+kernel⟩)
 rcases cR.mp ht with rfl | ht
 .exact rm (Dg:=2) (sc:=0) (by decide+kernel) (by decide+kernel) (aX ⟨rfl,by decide,by decide+kernel⟩)
 rcases cR.mp ht with rfl | ht
 .exact rm (Dg:=2) (sc:=1) (by decide+kernel) (by decide+kernel) (aX ⟨rfl,by decide,by decide+kernel⟩)
 rcases cR.mp ht with rfl | ht
 .exact rm (Dg:=2) (sc:=0) (by decide+kernel) (by decide+kernel) (aX ⟨rfl,by decide,by decide+kernel⟩)
 rcases cR.mp ht with rfl | ht
 .exact rm (Dg:=2) (sc:=0) (by decide+kernel) (by decide+kernel) (aX ⟨rfl,by decide,by decide+kernel⟩)
 rcases cR.mp ht with rfl | ht
 .exact rm (Dg:=2) (sc:=2) (by decide+kernel) (by decide+kernel) (aX ⟨rfl,by decide,by decide+kernel⟩)
 rcases cR.mp ht with rfl | ht
 .exact rm (Dg:=2) (sc:=0) (by decide+kernel) (by decide+kernel) (aX ⟨rfl,by decide,by decide+kernel⟩)
 have one:∀ t∈[[43,43],[45,45],[45,57],[57,67,82],[36,57,45],[90,43],[57,68,66]],Qg t 1 0=true/\Qd t 1 0=true:=by decide+kernel
 exact rm (one t ht).1 (one t ht).2 (ba rfl)
section
variable {g:Gd}(G:g.Ok) (TK:ef g) (XO:nM g) (e:oB g.K=pz)
include G TK XO e
theorem du {n jo:Nat}(i:Nat){r:wQ}(j:rows[i]?=some r) (l:r.names.length=r.k+r.dv.length) (p:bK g.h₀.get? r.dv r.dm){vs:List V}{H:Hp}{R X:V->Hp->Prop}(u:vs.length=r.k) (h:c7 (bj g<|n+1) jo r.b (vs++r.dm) H R X):bj g (n+2) r.f vs H R X:=zdS G TK XO e r (CN j) l p u h
theorem zhA:∀ n,N6 (bj g<|n+2):=λn a d t y j Dg sc u f H R l p r=>du G TK XO e (n:=n+0) 55 rfl rfl ct rfl<|zfa l p r
theorem zhB:∀ n,NN (bj g<|n+2):=λn a d s k H R f j l=>du G TK XO e (n:=n+0) 56 rfl rfl ct rfl<|zeM f j l
theorem zhC:∀ n,NL (bj g<|n+2):=λn j s f H R l p r=>du G TK XO e (n:=n+0) 4 rfl rfl ct rfl<|zeK l p r
theorem zhD:∀ n,NM (bj g<|n+2):=λn t k H R f j l p=>du G TK XO e (n:=n+0) 5 rfl rfl ct rfl<|zeL f j l p
theorem zhE:∀ n,N8 (bj g<|n+2):=λn a bs aA H R f j l p=>du G TK XO e (n:=n+0) 7 rfl rfl ct rfl<|zfd f j l p
theorem zhF:∀ n,Ob (bj g<|n+2):=λn a f H R j l p r=>du G TK XO e (n:=n+0) 8 rfl rfl ct rfl<|zil j l p r
theorem zhG:∀ n,N5 (bj g<|n+2):=λn a d H R f j l=>du G TK XO e (n:=n+0) 57 rfl rfl ct rfl<|ze9 f j l
theorem zq:∀ n,w7 (bj g<|n+2):=λn a d o H R f j=>du G TK XO e (n:=n+0) 37 rfl rfl ct rfl<|zeR f j
theorem Hh:∀ n,B3 (bj g<|n+2):=λn a d o c l H R f j=>du G TK XO e (n:=n+0) 38 rfl rfl ct rfl<|zeT f j
theorem zhH:∀ n,NS (bj g<|n+2):=λn a d b o s H R f j l p r u=>du G TK XO e (n:=n+0) 41 rfl rfl ct rfl<|zeW f j l p r u
theorem zhI:∀ n,NU (bj g<|n+2):=λn a d b o H R f j l=>du G TK XO e (n:=n+0) 43 rfl rfl ct rfl<|zeY f j l
theorem Qj:∀ n,Gb (bj g<|n+2):=λn a d o H R f j=>du G TK XO e (n:=n+0) 45 rfl rfl ct rfl<|ze0 f j
theorem T28:∀ n,M6 (bj g<|n+2):=λn a b H R f j l=>du G TK XO e (n:=n+0) 0 rfl rfl ct rfl<|zf8 f j l
theorem Qk:∀ n,FO (bj g<|n+2):=λn p f Dg sc j H R l r u v=>du G TK XO e (n:=n+0) 11 rfl rfl ct rfl<|zec l r u v
theorem zhJ:∀ n,Nl (bj g<|n+2):=λn a aA H R f j=>du G TK XO e (n:=n+0) 12 rfl rfl ct rfl<|zed f j
theorem Hi:∀ n,y6 (bj g<|n+2):=λn u s H R f j l=>du G TK XO e (n:=n+0) 1 rfl rfl ct rfl<|OQ f j l
theorem Hj:∀ n,BW (bj g<|n+2):=λn r H R f=>du G TK XO e (n:=n+0) 14 rfl rfl ct rfl<|zgc f
theorem zhK:∀ n,FX (bj g<|n+2):=λn u H R f j=>du G TK XO e (n:=n+0) 2 rfl rfl (i4 (jk 0 204) ct) rfl (OQ (by decide) f j)
theorem Ql:∀ n,FI (bj g<|n+2):=λn s neg H R f=>du G TK XO e (n:=n+0) 16 rfl rfl ct rfl<|zgf f
theorem zhL:∀ n,Nn (bj g<|n+2):=λn s H R f=>du G TK XO e (n:=n+0) 17 rfl rfl ct rfl<|zge f
theorem zhM:∀ n,Np (bj g<|n+2):=λn a d bx neg fill H R f j l=>du G TK XO e (n:=n+0) 58 rfl rfl ct rfl<|zem f j l
theorem Qm:∀ n,FG (bj g<|n+2):=λn a d f L H R j l p=>du G TK XO e (n:=n+0) 52 rfl rfl ct rfl<|zei j l p
theorem zhN:∀ n,Nq (bj g<|n+2):=λn p a b j Dg sc l aA f H R r u v y z F I=>du G TK XO e (n:=n+0) 18 rfl rfl ct rfl<|zeo r u v y z F I
theorem zhO:∀ n,Nz (bj g<|n+2):=λn c H R f=>du G TK XO e (n:=n+0) 23 rfl rfl ct rfl<|zgd f
theorem zhP:∀ n,NB (bj g<|n+2):=λn r oct H R f j l p u=>du G TK XO e (n:=n+0) 25 rfl rfl ct rfl<|zez f j l p u
theorem zhQ:∀ n,NF (bj g<|n+2):=λn x y H R f j l=>du G TK XO e (n:=n+0) 27 rfl rfl ct rfl<|zeC f j l
theorem Hk:∀ n,mD (bj g<|n+2):=λn pa ca k f H R j l p r u=>du G TK XO e (n:=n+0) 29 rfl rfl ct rfl<|zfl j l p r u
theorem zhR:∀ n,Ce (bj g<|n+2):=λn a aA u sc H R f j l p r v y=>du G TK XO e (n:=n+0) 32 rfl rfl ct rfl<|zfz f j l p r v y
theorem zhS:∀ n,OG (bj g<|n+2):=λn a aA u y x H R f j l p r v=>du G TK XO e (n:=n+0) 33 rfl rfl ct rfl<|zfH f j l p r v
theorem zhT:∀ n,NO (bj g<|n+3):=λn aA H R f j l=>du G TK XO e (n:=n+1) 6 rfl rfl ct rfl<|zeQ (zhB G TK XO e n) (zhC G TK XO e n) (zhD G TK XO e n) f j l
theorem zhU:∀ n,NQ (bj g<|n+3):=λn a d b o s H R f j l p r=>du G TK XO e (n:=n+1) 39 rfl rfl ct rfl<|zeU (Hh G TK XO e n) f j l p r
theorem zhV:∀ n,NR (bj g<|n+3):=λn a d b o s H R f j l p r u v=>du G TK XO e (n:=n+1) 40 rfl rfl ct rfl<|zeV (Hh G TK XO e n) f j l p r u v
theorem zhW:∀ n,NT (bj g<|n+3):=λn a d b o s H R f j l p r u=>du G TK XO e (n:=n+1) 42 rfl rfl ct rfl<|zeX (zq G TK XO e n) f j l p r u
theorem Qn:∀ n,Ga (bj g<|n+3):=λn a d b o c H R f j=>du G TK XO e (n:=n+1) 44 rfl rfl ct rfl<|zeZ (Hh G TK XO e n) f j
theorem Qo:∀ n,Gc (bj g<|n+3):=λn a d b o s H R f j l p r=>du G TK XO e (n:=n+1) 48 rfl rfl ct rfl<|ze1 (zq G TK XO e n) f j l p r
theorem zhX:∀ n,N3 (bj g<|n+3):=λn a d o H R f j=>du G TK XO e (n:=n+1) 50 rfl rfl ct rfl<|ze7 (zq G TK XO e n) f j
theorem zhY:∀ n,N4 (bj g<|n+3):=λn a d o H R f j=>du G TK XO e (n:=n+1) 51 rfl rfl ct rfl<|ze8 (zq G TK XO e n) f j
theorem Qp:∀ n,FP (bj g<|n+3):=λn a aA H R f j l=>du G TK XO e (n:=n+1) 13 rfl rfl ct rfl<|zeh (zhJ G TK XO e n) f j l
theorem zhZ:∀ n,Nm (bj g<|n+3):=λn a d f L j H R l p r u v=>du G TK XO e (n:=n+1) 53 rfl rfl ct rfl<|zej (Hj G TK XO e n) (Qm G TK XO e n) l p r u v
theorem T43:∀ n,Nb (bj g<|n+3):=λn d sc H R f j l p=>du G TK XO e (n:=n+1) 3 rfl rfl ct rfl<|zgg (T28 G TK XO e n) f j l p
theorem zh0:∀ n,NA (bj g<|n+3):=λn a rows oct H R f j l p r=>du G TK XO e (n:=n+1) 24 rfl rfl ct rfl<|zex (Hj G TK XO e n) (zhO G TK XO e n) f j l p r
theorem zh1:∀ n,NE (bj g<|n+3):=λn a rows oct H R f j l p=>du G TK XO e (n:=n+1) 26 rfl rfl ct rfl<|zeB (zhP G TK XO e n) f j l p
theorem zh2:∀ n,xc (bj g<|n+3):=λn pa ca a k f H R j l p r=>du G TK XO e (n:=n+1) 30 rfl rfl ct rfl<|zfo (Hk G TK XO e n) j l p r
theorem zh3:∀ n,GK (bj g<|n+3):=λn a aA y bh tf H R f j l p r u v=>du G TK XO e (n:=n+1) 35 rfl rfl ct rfl<|zfI (Hi G TK XO e n) (zhS G TK XO e n) f j l p r u v
theorem zh4:∀ n,NV (bj g<|n+4):=λn a d b o o' s H R f j l p=>du G TK XO e (n:=n+2) 46 rfl rfl ct rfl<|ze3 (Qn G TK XO e n) (Qj G TK XO e<|n+1) (Qo G TK XO e n) f j l p
theorem zh5:∀ n,NX (bj g<|n+4):=λn a d b o o' s H R f j l p=>du G TK XO e (n:=n+2) 47 rfl rfl ct rfl<|ze4 (Qn G TK XO e n) (Qj G TK XO e<|n+1) f j l p
theorem zh6:∀ n,Nu (bj g<|n+4):=λn p f Dg sc j d H R l r u v y z=>du G TK XO e (n:=n+2) 15 rfl rfl ct rfl<|zgh (T43 G TK XO e n) l r u v y z
theorem zh7:∀ n,No (bj g<|n+4):=λn a d f L j sign H R l p r u v=>du G TK XO e (n:=n+2) 54 rfl rfl ct rfl<|zek (Hj G TK XO e<|n+1) (Ql G TK XO e<|n+1) (zhL G TK XO e<|n+1) (Qm G TK XO e<|n+1) (zhZ G TK XO e n) l p r u v
theorem zh8:∀ n,Ny (bj g<|n+4):=λn p f Dg sc j H R l r u=>du G TK XO e (n:=n+2) 22 rfl rfl ct rfl<|zew (Qk G TK XO e<|n+1) (Qp G TK XO e n) l r u
theorem zh9:∀ n,Gz (bj g<|n+4):=λn pa ca M H R f j=>du G TK XO e (n:=n+2) 31 rfl rfl ct rfl<|zfx (Hk G TK XO e<|n+1) (zh2 G TK XO e n) f j
theorem zia:∀ n,NY (bj g<|n+5):=λn a d b o o' s H R f j l p=>du G TK XO e (n:=n+3) 49 rfl rfl ct rfl<|ze6 (zhU G TK XO e<|n+1) (zhV G TK XO e<|n+1) (zhH G TK XO e<|n+2) (zhW G TK XO e<|n+1) (zhI G TK XO e<|n+2) (zh4 G TK XO e n) (zh5 G TK XO e n) (Qo G TK XO e<|n+1) f j l p
theorem Qq:∀ n,Nw (bj g<|n+5):=λn p f Dg sc j d l H R r u v y z F I=>du G TK XO e (n:=n+3) 19 rfl rfl ct rfl<|zeu (Qk G TK XO e<|n+2) (Qp G TK XO e<|n+1) (zh6 G TK XO e n) (Ql G TK XO e<|n+2) (zhM G TK XO e<|n+2) (zh7 G TK XO e n) (zhN G TK XO e<|n+2) r u v y z F I
theorem zib:∀ n,Oe (bj g<|n+6):=λn t a bs aA o Dg H R f j l p r u=>du G TK XO e (n:=n+4) 9 rfl rfl ct rfl<|zfi (zhA G TK XO e<|n+3) (zhE G TK XO e<|n+3) (zhF G TK XO e<|n+3) (zhG G TK XO e<|n+3) (zq G TK XO e<|n+3) (zia G TK XO e n) (zhX G TK XO e<|n+2) (zhY G TK XO e<|n+2) f j l p r u
theorem zic:∀ n,NH (bj g<|n+6):=λn p j Dg sc l d r H R u f v y z F=>du G TK XO e (n:=n+4) 20 rfl rfl ct rfl<|Nx (Qq G TK XO e n) u f.G v y z (f.tx _ _ (wS _ _)<|Cn _ _) (f.t2 _ _).1 (f.t2 _ _).2 F
theorem zid:∀ n,GM (bj g<|n+6):=λn p j Dg sc l d H R r f u v y z=>du G TK XO e (n:=n+4) 21 rfl rfl (i4 (tZ false) ct) rfl<|Nx (Qq G TK XO e n) r f.G u v y (f.tx _ _ (wS _ _)<|Cn _ _) (f.t2 _ _).1 (f.t2 _ _).2 z
theorem zie:∀ n,B9 (bj g<|n+7):=λn aA o Dg H R f j l p=>du G TK XO e (n:=n+5) 10 rfl rfl ct rfl<|zfk (zhT G TK XO e<|n+3) (zib G TK XO e n) f j l p
theorem zif:∀ n,NI (bj g<|n+7):=λn p f Dg sc j oct l H R X r u v y z=>du G TK XO e (n:=n+5) 28 rfl rfl ct rfl<|zeE (Hi G TK XO e<|n+4) (zic G TK XO e n) (zh8 G TK XO e<|n+2) (zh0 G TK XO e<|n+3) (zh1 G TK XO e<|n+3) (zhQ G TK XO e<|n+4) r u v y z
theorem zig:∀ n,ve (bj g<|n+8):=λn p f Dg sc j oct l H R r u v y=>du G TK XO e (n:=n+6) 34 rfl rfl ct rfl<|zeI (zif G TK XO e n) r u v y
end
theorem zih {g:Gd}(G:g.Ok) (TK:ef g) (XO:nM g) (e:oB g.K=pz) (l:Nat) (f:List Int) (j:f.length<=63):bj g 100 540 [aB l] (H0 l f) (λv _=>v=aZ true) bR:=
 du G TK XO e (n:=98) 36 rfl rfl ct rfl (zf6 (Hi G TK XO e 97) (zhK G TK XO e 97) (zie G TK XO e 92) (zid G TK XO e 93) (Hk G TK XO e 97) (zh9 G TK XO e 95) (zhR G TK XO e 97) (zig G TK XO e 91) (zh3 G TK XO e 96) zhl zhm zhz (show be (H0 l f) l=_ by unfold be H0;rw [if_pos rfl]) j λ_=>rfl)
end
end LD.Internal
theorem PySem.Challenge.cw_pc0139_01_holds : PySem.Challenge.rw_pc0139_01.Holds :=
 LD.Internal.zd0 λg G TK XO e l f j=>LD.Internal.zih G TK XO e l f j
