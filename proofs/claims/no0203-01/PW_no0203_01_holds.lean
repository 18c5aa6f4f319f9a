import PyProof.Rows.All
import Wide.All
import OpenK.AllK
import Wide.FinOn
import KE.KRevIter
import Lean
import PySem.Challenge.RW_no0203_01
set_option Elab.async false
set_option linter.all false
set_option tactic.hygienic false
set_option genInjectivity false
set_option genSizeOf false
set_option genCtorIdx false
set_option bootstrap.genMatcherCode false
set_option maxRecDepth 100000
set_option maxHeartbeats 1000000
namespace Mine.Internal
open Array renaming append_assoc->E9,getElem?_setIfInBounds_self_of_lt->ab6,getElem?_toList->acr,length_toList->ac2,mem_toList_iff->LJ,size_append->rx,size_setIfInBounds->ab7,toList->adf
open Bool renaming and_eq_true->eJ,and_eq_true_iff->oz,and_false->Bg,and_true->pR,eq_iff_iff->EW,false->ai,false_and->E8,false_eq_true->yS,false_ne_true->gp,not_eq_true'->MU,or_assoc->BF,or_eq_false_iff->Fd,or_eq_true->Bh,or_eq_true_iff->wd,or_false->sY,rec->EN,true->af
open Char renaming toNat->adu
open Classical renaming em->Bb
open Decidable renaming decide->dS
open Exists renaming elim->cV
open False renaming elim->ER
open ForInStep renaming yield->acP
open HAdd renaming hAdd->qZ
open HSub renaming hSub->EO
open Iff renaming rfl->sV
open Int renaming add_assoc->Ly,add_comm->acs,add_nonneg->abC,add_sub_cancel->Mm,add_zero->uo,fmod->ur,le_antisymm->sX,le_max_left->MH,le_natAbs->abK,le_of_eq->A7,le_of_lt->q9,le_refl->jy,le_trans->dy,lt_of_le_of_lt->abL,lt_of_lt_of_le->uA,lt_trans->LP,max_eq_left->MI,max_eq_right->A8,min_eq_left->abF,mul_add->abw,mul_nonneg->abD,mul_sub->abx,mul_zero->aby,natAbs_of_nonneg->Mw,natCast_nonneg->iA,neg_add->abz,neg_sub->abA,not_le->ac4,not_lt->oC,ofNat->gS,ofNat_le->oE,ofNat_lt->j3,sub_eq_add_neg->A6,sub_le_self->MW,sub_nonneg_of_le->vY,sub_zero->EL,toNat->LD,toNat_lt->ab9,toNat_natCast->A9,toNat_of_nonneg->kD,zero_add->Lz,zero_mul->abB
open Int.ofNat renaming inj->wy
open LawfulBEq renaming eq_of_beq->rE
open List.Pairwise renaming nil->ad5
open List renaming all_append->adg,all_cons->me,all_eq_true->dT,any_cons->LX,any_eq_false->LK,any_toArray->abS,append_assoc->cv,append_inj->MQ,append_nil->jh,casesOn->yT,cons->By,cons_append->jB,contains_cons->j5,contains_iff_mem->rB,contains_nil->Fq,count_append->MO,count_singleton->MP,drop_drop->pY,drop_eq_nil_of_le->MF,drop_left'->BG,drop_nil->abG,drop_take->acN,filter_append->adh,filter_cons->uC,filter_map->adn,filter_nil->ac8,forIn_cons->aco,forIn_nil->Ml,forall_mem_cons->abE,getElem?_append_right->Mp,getElem?_eq_getElem->iB,getElem?_eq_none->Bs,getElem?_eq_none_iff->Mn,getElem?_eq_some_iff->oH,getElem?_map->jf,getElem?_replicate->ab1,getElem?_set_ne->wg,getElem?_set_self->pT,getElem?_toArray->EV,getElem_idxOf->ML,getElem_mem->wx,head?_drop->ade,idxOf_append->ac9,idxOf_lt_length_of_mem->MK,isEmpty->abu,isEmpty_iff->ac3,length->pO,length_append->bI,length_cons->dK,length_drop->lg,length_eq_zero_iff->aci,length_filter_le->adi,length_map->bB,length_nil->rC,length_pos_iff->Fo,length_range->ada,length_reverse->yW,length_set->ux,length_singleton->gY,length_take->MR,length_take_le'->Mx,lookup->wt,lookup_append->wu,lookup_cons->gV,map->Mf,map_append->ed,map_congr_left->pV,map_cons->gX,map_eq_nil_iff->BH,map_id->ado,map_map->rq,map_nil->MJ,map_singleton->yX,map_take->MM,mem_append->fG,mem_append_left->lh,mem_append_right->ma,mem_cons->dH,mem_cons_of_mem->df,mem_cons_self->cu,mem_filter->Mz,mem_map->gi,mem_map_of_mem->oI,mem_of_getElem?->wh,mem_of_mem_drop->Fj,mem_singleton->d5,nil_append->acV,nodup_append->BD,nodup_cons->la,nodup_nil->rD,not_mem_nil->dz,prefix_append->adb,prefix_refl->Fg,range->sO,range_succ_eq_map->LW,rec->gq,replicate->oF,reverse_append->acu,reverse_cons->BE,reverse_reverse->Fh,size_toArray->hG,take->LG,take_add_one->acv,take_left->acA,take_length->acx,take_nil->abH,take_of_length_le->acO,toArray->k7
open List.cons renaming inj->jA
open Nat renaming add_assoc->ng,add_comm->pN,add_le_add->Ft,add_le_add_left->hS,add_le_add_right->jC,add_lt_add_left->adk,add_mul->Fl,add_right_comm->sU,add_sub_cancel->EJ,add_sub_cancel_left->Fm,ble->uq,blt_eq->acY,casesOn->um,digitChar->adv,div_lt_of_lt_mul->adt,le_add_left->qY,le_add_right->fz,le_antisymm->j4,le_max_left->abR,le_of_ble_eq_true->vZ,le_of_eq->eW,le_of_lt->jM,le_of_lt_succ->MN,le_of_not_lt->EM,le_of_succ_le->mh,le_refl->dC,le_sub_of_add_le->abv,le_succ->MC,le_succ_of_le->dM,le_total->LA,le_trans->aH,log2_lt->abO,lt_add_of_pos_right->wz,lt_irrefl->LV,lt_of_le_of_lt->eX,lt_of_lt_of_le->iO,lt_of_sub_pos->Lr,lt_or_gt_of_ne->iP,lt_succ_iff_lt_or_eq->adl,lt_succ_of_le->BC,lt_succ_of_lt->yY,lt_succ_self->mf,lt_trans->jg,max_le->uj,max_self->adp,min_eq_left->Ba,min_le_left->adj,mod_eq_of_lt->Lu,mod_lt->MV,mul_assoc->MY,mul_comm->ads,mul_le_mul_right->kE,ne_of_gt->Bc,ne_of_lt->sW,not_le_of_lt->LB,not_lt->LH,not_lt_of_le->EK,not_lt_zero->MS,not_succ_le_self->ac5,one_mul->MX,one_pos->ab2,rec->yG,sub_add_cancel->kZ,sub_le->yV,sub_self->acB,succ_add_eq_add_succ->Fp,succ_le_succ->jP,succ_lt_succ->MT,succ_mul->Fs,succ_pos->oA,toDigits->adw,zero_add->jd,zero_le->dR,zero_max->adx
open Nat.succ renaming inj->ach
open Ne renaming symm->q8
open Option renaming bind_eq_some_iff->rA,bind_some->Bf,casesOn->sN,isSome->uk,isSome_iff_exists->acR,isSome_map->Fi,join->abM,map->yL,map_eq_none_iff->Bm,map_eq_some_iff->oG,map_map->abN,none->ag,none_or->adq,rec->ac6,some->aa
open Option.some renaming inj->bP
open Or renaming elim->cO
open Prod renaming ext->Fc
open Prod.mk renaming inj->dI
open Pure renaming pure->eY
open PyProof.Rows renaming add_int->adB,add_str->adI,floordiv_int->adE,ge_int->adR,gt_int->adP,ifloordiv_int->adX,imod_int->adY,in_str->adT,le_int->adS,lt_int->adQ,mod_int->adC,mul_int->adF,neg_int->adG,notIn_str->adU,spliced_more->L4,sub_int->adD,tail_any->Bn,truthy_int->adH,wpAny_releaseD->Mg
open PyProof renaming noPylong_small->abP
open PySem renaming Addr->hF,Around->bW,CmpOp->k6,Data->oB,Expr->az,FuncData->pX,Heap->aG,NameKind->gU,Obj->dw,Operator->gH,PlainAttrs->Mr,Program->k8,Result->uz,Scope->oJ,Shared->aq,Stmt->gh,Tok->k9,Value->aj,Within->Br,World->l9,arm_assign_Attribute->acd,assign->Bt,assignEach->yQ,assignInOrder->Mh,attributeBase->LM,backTo->wc,behindInMarks->LY,bootBuiltins->LI,builtinsNs->Be,call->gW,callWith->E1,call_meets->Bz,call_meetsIn->wq,cameBackBy->Mi,cellsFrom->nj,clipAt->yH,codeAny->sS,codeAny_builtin->acn,codeAny_call_builtin->abJ,codeAny_mono->L5,eval->je,excClassObj->MD,foldedSetIterable->Mo,getItem->yM,holding->Bo,intKind->pP,intKind_is->uw,letOwnedTupleGo->Bv,mainGlobals->jN,meets_dict_get->acL,meets_dict_get_default->acM,mem_of_lookup->pW,methodCallForm->ab0,model->aL,newFunctionEnv->acT,noteFrame->E5,pastItsLine_dict->ab3,pushCells_keeps->acS,pyIter->Bw,pyNext->Bx,rawInt->v5,seqIndex?->uu,setItem->Bu,sizeLine_eq->L8,slicePick_plain->Fb,slot_list_setitem->ace,standAt->EY,starEach->pS,storeName->Ma,stored->aca,strKind->sQ,strKind_is->v9,subscripted->LR,swappedStores->wm,swapsWith->Me,sysModules->iN,tupleKind->Bd,valueAt->rf,wpAny->a0,wpAny_Assign_stores->Md,wpAny_Call_NameR->EZ,wpAny_Constant_int->EU,wpAny_Name->LL,wpAny_Try_except->acp,wpAny_assign_Name->acQ,wpAny_bind->aJ,wpAny_bindName->E6,wpAny_call->Bl,wpAny_callSpecial?_slot->acf,wpAny_call_entry->acg,wpAny_execs_cons->Mc,wpAny_execs_nil->wk,wpAny_field->rj,wpAny_getItem_of->LQ,wpAny_handleBy_cons->acq,wpAny_holding->jz,wpAny_isTrue_BoolOp->abV,wpAny_load->Mj,wpAny_loadName_cell->abI,wpAny_loadName_local->ET,wpAny_loadPart->E3,wpAny_loadPart_at->ME,wpAny_lookBehind->ab4,wpAny_mono->dX,wpAny_newObj_type->yN,wpAny_notIn_of->abT,wpAny_pure->cK,wpAny_pyIter_revIter->acw,wpAny_pyIter_tuple->acz,wpAny_runValue->acm,wpAny_setField->E4,wpAny_setItem_pairs->acb,wpAny_standAt->pU,wpAny_storeName_local->ab5,wpAny_throw->E7,wpAny_typeOf_ref->ack,wpAny_update->Mk
open PySem.Builtin.Int renaming intBits->abQ
open PySem.Builtin.List renaming listSubscript?->adW
open PySem.Builtin.ObjectAttr renaming storeInOwnDict->L9
open PySem.Builtin.Range renaming rangeSize->ad1,small->ad0
open PySem.Builtin.Str renaming glued->Mv,occurrences->adV,tooLong->ad2
open PySem.Calls renaming Name_function_global->yK,callWith_builtin->adZ,evalArgs_plain->abW,loadGlobal_global->Bj,spliced_nil->abU
open PySem.Code renaming quiet_builtin->acU
open PySem.Comprehension renaming casesOn->acZ
open PySem.Data renaming casesOn->BB,dict->Lv,fields->Lw,seq->adA
open PySem.Data.fields renaming inj->Mb
open PySem.Data.seq renaming inj->adJ
open PySem.EntryCells renaming newEntry->ab8
open PySem.Env renaming kindOf->m9
open PySem.EqBoolInt renaming of_rc->adN,of_rcne->adO
open PySem.ExceptHandler renaming casesOn->ac0
open PySem.Expr.Tuple renaming elim->ac1
open PySem.Expr renaming casesOn->pQ
open PySem.F renaming args_dict_get_2->Ms,args_dict_get_3->Mt,args_list_append_2->acC,entry_dict_get->yU,entry_list_append->acD,plainAttrs_dict->acI,plainAttrs_list->Mu,slot_dict_get->wo,slot_dict_items->acJ,slot_list_append->Mq,slot_list_count->acF,slot_list_pop->acG,slot_str_join->acK,slot_tuple_iterator_next->acX
open PySem.Flow renaming next->acj
open PySem.FuncBody renaming casesOn->MG
open PySem.Heap.DictOf renaming new->My
open PySem.Heap.DictOfH renaming new->ad3
open PySem.Heap renaming ExtBut->rm,SameBut->uy,get?_push_of_some->hJ,get?_push_size->jO,get?_update_other->acW,get?_update_self->wj,lt_size->sR,size_push->Bq
open PySem.Heap.IsSliceOf renaming new->ad4
open PySem.Heap.SameBut renaming update->yR
open PySem.IsRange renaming new->acy
open PySem.Keeper renaming boundFrame->abX,frame->abY,machine->abZ
open PySem.NameKind renaming cell->MB,free->uB
open PySem.Obj renaming data->vX,mapFields->rk,mapSeq->acH
open PySem.Operator renaming casesOn->ac7
open PySem.Str renaming ofString->q6
open PySem.Value.bool renaming inj->adK
open PySem.Value renaming builtin->LO,casesOn->EX,none->yP,ref->q7
open PySem.Value.int renaming inj->adL
open PySem.Value.ref renaming inj->rh
open PySem.Value.str renaming inj->adM
open PySem.W renaming Frag->eK,InstAt->yJ,Looks->uv,any_some->v8,cellsFrom_some->MA,clsIn->v7,emptyDict->yO,findIn->mZ,instObj->yI,keepIn->we,looks_clsIn->L6,looks_findIn->Bi,looks_subIn->ES,nsIn->m8,set_plain->L7,typeIn->Bp
open ToString renaming toString->sP
section
@[elab_as_elim] theorem ae{P:c->Prop}(h:a=b)(k:P b):P a:=h▸k
theorem ay{G:Prop}(h:b/\a)(k:b->a->G):G:=k h.1 h.2
theorem o1{c:a->Prop}{G:Prop}(h:∃b:a,c b)(k:∀b:a,c b->G):G:=cV h λb h0=>k b h0
theorem gI{G:Prop}(h:c/\b/\a)(k:c->b->a->G):G:=k h.1 h.2.1 h.2.2
theorem au{d:a->Prop}{c:a->Prop}{G:Prop}(h:∃b:a,d b/\c b)(k:∀b:a,d b->c b->G):G:=cV h λb h0=>k b h0.1 h0.2
theorem o2{e:b->a->Prop}{G:Prop}(h:∃d:b,∃c:a,e d c)(k:∀d:b,∀c:a,e d c->G):G:=cV h λd h0=>cV h0 λc f=>k d c f
theorem qa{G:Prop}(h:d/\c/\b/\a)(k:d->c->b->a->G):G:=k h.1 h.2.1 h.2.2.1 h.2.2.2
theorem Fy{d:a->Prop}{c:a->Prop}{G:Prop}(h:e/\∃b:a,d b/\c b)(k:e->∀b:a,d b->c b->G):G:=cV h.2 λb h0=>k h.1 b h0.1 h0.2
theorem bR{e:a->Prop}{d:a->Prop}{c:a->Prop}{G:Prop}(h:∃b:a,e b/\d b/\c b)(k:∀b:a,e b->d b->c b->G):G:=cV h λb h0=>k b h0.1 h0.2.1 h0.2.2
theorem cm{g:b->a->Prop}{f:b->a->Prop}{G:Prop}(h:∃d:b,∃c:a,g d c/\f d c)(k:∀d:b,∀c:a,g d c->f d c->G):G:=cV h λd h0=>cV h0 λc e=>k d c e.1 e.2
theorem BN{G:Prop}(h:e/\d/\c/\b/\a)(k:e->d->c->b->a->G):G:=k h.1 h.2.1 h.2.2.1 h.2.2.2.1 h.2.2.2.2
theorem BM{e:a->Prop}{d:a->Prop}{c:a->Prop}{G:Prop}(h:f/\∃b:a,e b/\d b/\c b)(k:f->∀b:a,e b->d b->c b->G):G:=cV h.2 λb h0=>k h.1 b h0.1 h0.2.1 h0.2.2
theorem ji{f:a->Prop}{e:a->Prop}{d:a->Prop}{c:a->Prop}{G:Prop}(h:∃b:a,f b/\e b/\d b/\c b)(k:∀b:a,f b->e b->d b->c b->G):G:=cV h λb h0=>k b h0.1 h0.2.1 h0.2.2.1 h0.2.2.2
theorem bG{i:b->a->Prop}{g:b->a->Prop}{f:b->a->Prop}{G:Prop}(h:∃d:b,∃c:a,i d c/\g d c/\f d c)(k:∀d:b,∀c:a,i d c->g d c->f d c->G):G:=cV h λd h0=>cV h0 λc e=>k d c e.1 e.2.1 e.2.2
theorem hW{j:c->b->a->Prop}{i:c->b->a->Prop}{G:Prop}(h:∃f:c,∃e:b,∃d:a,j f e d/\i f e d)(k:∀f:c,∀e:b,∀d:a,j f e d->i f e d->G):G:=cV h λf h0=>cV h0 λe l=>cV l λd g=>k f e d g.1 g.2
theorem FC{g:a->Prop}{f:a->Prop}{e:a->Prop}{d:a->Prop}{c:a->Prop}{G:Prop}(h:∃b:a,g b/\f b/\e b/\d b/\c b)(k:∀b:a,g b->f b->e b->d b->c b->G):G:=cV h λb h0=>k b h0.1 h0.2.1 h0.2.2.1 h0.2.2.2.1 h0.2.2.2.2
theorem fV{j:b->a->Prop}{i:b->a->Prop}{g:b->a->Prop}{f:b->a->Prop}{G:Prop}(h:∃d:b,∃c:a,j d c/\i d c/\g d c/\f d c)(k:∀d:b,∀c:a,j d c->i d c->g d c->f d c->G):G:=cV h λd h0=>cV h0 λc e=>k d c e.1 e.2.1 e.2.2.1 e.2.2.2
theorem fW{l:c->b->a->Prop}{j:c->b->a->Prop}{i:c->b->a->Prop}{G:Prop}(h:∃f:c,∃e:b,∃d:a,l f e d/\j f e d/\i f e d)(k:∀f:c,∀e:b,∀d:a,l f e d->j f e d->i f e d->G):G:=cV h λf h0=>cV h0 λe m=>cV m λd g=>k f e d g.1 g.2.1 g.2.2
theorem Fz{G:Prop}(h:g/\f/\e/\d/\c/\b/\a)(k:g->f->e->d->c->b->a->G):G:=k h.1 h.2.1 h.2.2.1 h.2.2.2.1 h.2.2.2.2.1 h.2.2.2.2.2.1 h.2.2.2.2.2.2
theorem iC{l:b->a->Prop}{j:b->a->Prop}{i:b->a->Prop}{g:b->a->Prop}{f:b->a->Prop}{G:Prop}(h:∃d:b,∃c:a,l d c/\j d c/\i d c/\g d c/\f d c)(k:∀d:b,∀c:a,l d c->j d c->i d c->g d c->f d c->G):G:=cV h λd h0=>cV h0 λc e=>k d c e.1 e.2.1 e.2.2.1 e.2.2.2.1 e.2.2.2.2
theorem BO{m:c->b->a->Prop}{l:c->b->a->Prop}{j:c->b->a->Prop}{i:c->b->a->Prop}{G:Prop}(h:∃f:c,∃e:b,∃d:a,m f e d/\l f e d/\j f e d/\i f e d)(k:∀f:c,∀e:b,∀d:a,m f e d->l f e d->j f e d->i f e d->G):G:=cV h λf h0=>cV h0 λe n=>cV n λd g=>k f e d g.1 g.2.1 g.2.2.1 g.2.2.2
theorem wG{m:d->c->b->a->Prop}{l:d->c->b->a->Prop}{j:d->c->b->a->Prop}{G:Prop}(h:∃i:d,∃g:c,∃f:b,∃e:a,m i g f e/\l i g f e/\j i g f e)(k:∀i:d,∀g:c,∀f:b,∀e:a,m i g f e->l i g f e->j i g f e->G):G:=cV h λi h0=>cV h0 λg o=>cV o λf n=>cV n λe h3=>k i g f e h3.1 h3.2.1 h3.2.2
theorem uD{l:c->b->a->Prop}{j:c->b->a->Prop}{i:c->b->a->Prop}{G:Prop}(h:n/\m/\∃f:c,∃e:b,∃d:a,l f e d/\j f e d/\i f e d)(k:n->m->∀f:c,∀e:b,∀d:a,l f e d->j f e d->i f e d->G):G:=cV h.2.2 λf h0=>cV h0 λe o=>cV o λd g=>k h.1 h.2.1 f e d g.1 g.2.1 g.2.2
theorem FD{n:c->b->a->Prop}{m:c->b->a->Prop}{l:c->b->a->Prop}{j:c->b->a->Prop}{i:c->b->a->Prop}{G:Prop}(h:∃f:c,∃e:b,∃d:a,n f e d/\m f e d/\l f e d/\j f e d/\i f e d)(k:∀f:c,∀e:b,∀d:a,n f e d->m f e d->l f e d->j f e d->i f e d->G):G:=cV h λf h0=>cV h0 λe o=>cV o λd g=>k f e d g.1 g.2.1 g.2.2.1 g.2.2.2.1 g.2.2.2.2
theorem jj{o:d->c->b->a->Prop}{n:d->c->b->a->Prop}{m:d->c->b->a->Prop}{l:d->c->b->a->Prop}{j:d->c->b->a->Prop}{G:Prop}(h:∃i:d,∃g:c,∃f:b,∃e:a,o i g f e/\n i g f e/\m i g f e/\l i g f e/\j i g f e)(k:∀i:d,∀g:c,∀f:b,∀e:a,o i g f e->n i g f e->m i g f e->l i g f e->j i g f e->G):G:=cV h λi h0=>cV h0 λg q=>cV q λf p=>cV p λe h3=>k i g f e h3.1 h3.2.1 h3.2.2.1 h3.2.2.2.1 h3.2.2.2.2
theorem mr{q:e->d->c->b->a->Prop}{p:e->d->c->b->a->Prop}{o:e->d->c->b->a->Prop}{n:e->d->c->b->a->Prop}{G:Prop}(h:∃l:e,∃j:d,∃i:c,∃g:b,∃f:a,q l j i g f/\p l j i g f/\o l j i g f/\n l j i g f)(k:∀l:e,∀j:d,∀i:c,∀g:b,∀f:a,q l j i g f->p l j i g f->o l j i g f->n l j i g f->G):G:=cV h λl h0=>cV h0 λj s=>cV s λi r=>cV r λg h3=>cV h3 λf m=>k l j i g f m.1 m.2.1 m.2.2.1 m.2.2.2
theorem M6{q:e->d->c->b->a->Prop}{p:e->d->c->b->a->Prop}{o:e->d->c->b->a->Prop}{n:e->d->c->b->a->Prop}{m:e->d->c->b->a->Prop}{G:Prop}(h:∃l:e,∃j:d,∃i:c,∃g:b,∃f:a,q l j i g f/\p l j i g f/\o l j i g f/\n l j i g f/\m l j i g f)(k:∀l:e,∀j:d,∀i:c,∀g:b,∀f:a,q l j i g f->p l j i g f->o l j i g f->n l j i g f->m l j i g f->G):G:=mr h λl j i g f h0 s r h3=>k l j i g f h0 s r h3.1 h3.2
theorem BP{d:Sort _}{c:Sort _}{b:Sort _}{a:Sort _}{p:d->c->b->a->Prop}{o:d->c->b->a->Prop}{n:d->c->b->a->Prop}{m:d->c->b->a->Prop}{l:d->c->b->a->Prop}{j:d->c->b->a->Prop}{G:Prop}(h:∃i:d,∃g:c,∃f:b,∃e:a,p i g f e/\o i g f e/\n i g f e/\m i g f e/\l i g f e/\j i g f e)(k:∀i:d,∀g:c,∀f:b,∀e:a,p i g f e->o i g f e->n i g f e->m i g f e->l i g f e->j i g f e->G):G:=cV h λi h0=>cV h0 λg r=>cV r λf q=>cV q λe h3=>k i g f e h3.1 h3.2.1 h3.2.2.1 h3.2.2.2.1 h3.2.2.2.2.1 h3.2.2.2.2.2
theorem a9{G:Prop}(h:ag=aa x):G:=absurd (congrArg uk h) gp
theorem hU{G:Prop}(h:aa x=ag):G:=absurd (congrArg uk h).symm gp
theorem bw{G:Prop}(h:ai=af):G:=absurd h gp
theorem bC{G:Prop}(h:af=ai):G:=absurd h.symm gp
theorem gw{G:Prop}(h:[]=x::l):G:=bC<|congrArg abu h
theorem gv{G:Prop}(h:x::l=[]):G:=bw<|congrArg abu h
theorem hV{G:Prop}(h:Lw f= .dict es n):G:=bC<|congrArg (λd:oB=>d.ctorIdx==9) h
theorem M4{G:Prop}(h:Lv es n= .fields f):G:=hV h.symm
theorem rG{G:Prop}(h:Lw f= .seq es n):G:=bC<|congrArg (λd:oB=>d.ctorIdx==9) h
theorem BK{G:Prop}(h:Lw f= .cell v):G:=bC<|congrArg (λd:oB=>d.ctorIdx==9) h
theorem s7{G:Prop}(h:adA f m= .dict es n):G:=bC<|congrArg (λd:oB=>d.ctorIdx==2) h
theorem wF{G:Prop}(h:Lv es n= .seq f m):G:=s7 h.symm
theorem BJ{G:Prop}(h:Lv es n= .cell v):G:=bC<|congrArg (λd:oB=>d.ctorIdx==3) h
theorem aM{d:a->Prop}{c:a->Prop}(b:a)(h0:d b)(e:c b):∃b:a,d b/\c b:=⟨b,h0,e⟩
theorem bT{e:a->Prop}{d:a->Prop}{c:a->Prop}(b:a)(h0:e b)(g:d b)(f:c b):∃b:a,e b/\d b/\c b:=⟨b,h0,g,f⟩
theorem cL{f:b->a->Prop}{e:b->a->Prop}(d:b)(c:a)(h0:f d c)(g:e d c):∃d:b,∃c:a,f d c/\e d c:=⟨d,c,h0,g⟩
theorem wC{e:a->Prop}{d:a->Prop}{c:a->Prop}(h0:f)(b:a)(h:e b)(g:d b)(h3:c b):f/\∃b:a,e b/\d b/\c b:=⟨h0,b,h,g,h3⟩
theorem iQ{f:a->Prop}{e:a->Prop}{d:a->Prop}{c:a->Prop}(b:a)(h0:f b)(h:e b)(g:d b)(h3:c b):∃b:a,f b/\e b/\d b/\c b:=⟨b,h0,h,g,h3⟩
theorem M0{g:a->Prop}{f:a->Prop}{e:a->c->Prop}(b:a)(h0:g b)(i:f b)(d:c)(h:e b d):∃b:a,g b/\f b/\∃d:c,e b d:=⟨b,h0,i,d,h⟩
theorem yZ{g:a->Prop}{f:a->b->Prop}{e:a->b->Prop}(c:a)(h0:g c)(d:b)(i:f c d)(h:e c d):∃c:a,g c/\∃d:b,f c d/\e c d:=⟨c,h0,d,i,h⟩
theorem b7{g:b->a->Prop}{f:b->a->Prop}{e:b->a->Prop}(d:b)(c:a)(h0:g d c)(i:f d c)(h:e d c):∃d:b,∃c:a,g d c/\f d c/\e d c:=⟨d,c,h0,i,h⟩
theorem lq{h:c->b->a->Prop}{g:c->b->a->Prop}(f:c)(e:b)(d:a)(h0:h f e d)(i:g f e d):∃f:c,∃e:b,∃d:a,h f e d/\g f e d:=⟨f,e,d,h0,i⟩
theorem MZ{g:b->a->Prop}{f:b->a->Prop}{e:b->a->Prop}(h0:h)(d:b)(c:a)(j:g d c)(i:f d c)(h3:e d c):h/\∃d:b,∃c:a,g d c/\f d c/\e d c:=⟨h0,d,c,j,i,h3⟩
theorem wD{g:a->Prop}{f:a->Prop}{e:a->Prop}{d:a->Prop}{c:a->Prop}(b:a)(h0:g b)(j:f b)(i:e b)(h3:d b)(h:c b):∃b:a,g b/\f b/\e b/\d b/\c b:=⟨b,h0,j,i,h3,h⟩
theorem lj{h:a->Prop}{g:a->b->Prop}{f:a->b->Prop}{e:a->b->Prop}(c:a)(h0:h c)(d:b)(j:g c d)(i:f c d)(h3:e c d):∃c:a,h c/\∃d:b,g c d/\f c d/\e c d:=⟨c,h0,d,j,i,h3⟩
theorem pZ{h:b->a->Prop}{g:b->a->Prop}{f:b->a->Prop}{e:b->a->Prop}(d:b)(c:a)(h0:h d c)(j:g d c)(i:f d c)(h3:e d c):∃d:b,∃c:a,h d c/\g d c/\f d c/\e d c:=⟨d,c,h0,j,i,h3⟩
theorem mj{i:c->b->a->Prop}{h:c->b->a->Prop}{g:c->b->a->Prop}(f:c)(e:b)(d:a)(h0:i f e d)(k:h f e d)(j:g f e d):∃f:c,∃e:b,∃d:a,i f e d/\h f e d/\g f e d:=⟨f,e,d,h0,k,j⟩
theorem jQ{i:b->a->Prop}{h:b->a->Prop}{g:b->a->Prop}{f:b->a->Prop}{e:b->a->Prop}(d:b)(c:a)(h0:i d c)(l:h d c)(k:g d c)(h3:f d c)(j:e d c):∃d:b,∃c:a,i d c/\h d c/\g d c/\f d c/\e d c:=⟨d,c,h0,l,k,h3,j⟩
theorem y0{j:c->b->a->Prop}{i:c->b->a->Prop}{h:c->b->a->Prop}{g:c->b->a->Prop}(f:c)(e:b)(d:a)(h0:j f e d)(l:i f e d)(k:h f e d)(h3:g f e d):∃f:c,∃e:b,∃d:a,j f e d/\i f e d/\h f e d/\g f e d:=⟨f,e,d,h0,l,k,h3⟩
theorem BI{k:d->c->b->a->Prop}{j:d->c->b->a->Prop}{i:d->c->b->a->Prop}(h:d)(g:c)(f:b)(e:a)(h0:k h g f e)(m:j h g f e)(l:i h g f e):∃h:d,∃g:c,∃f:b,∃e:a,k h g f e/\j h g f e/\i h g f e:=⟨h,g,f,e,h0,m,l⟩
theorem nz{m:d->c->b->a->Prop}{l:d->c->b->a->Prop}{k:d->c->b->a->Prop}{j:d->c->b->a->Prop}{i:d->c->b->a->Prop}(h:d)(g:c)(f:b)(e:a)(h0:m h g f e)(p:l h g f e)(o:k h g f e)(h3:j h g f e)(n:i h g f e):∃h:d,∃g:c,∃f:b,∃e:a,m h g f e/\l h g f e/\k h g f e/\j h g f e/\i h g f e:=⟨h,g,f,e,h0,p,o,h3,n⟩
theorem p8{n:e->d->c->b->a->Prop}{m:e->d->c->b->a->Prop}{l:e->d->c->b->a->Prop}{k:e->d->c->b->a->Prop}(j:e)(i:d)(h:c)(g:b)(f:a)(h0:n j i h g f)(p:m j i h g f)(o:l j i h g f)(h3:k j i h g f):∃j:e,∃i:d,∃h:c,∃g:b,∃f:a,n j i h g f/\m j i h g f/\l j i h g f/\k j i h g f:=⟨j,i,h,g,f,h0,p,o,h3⟩
theorem nA{h:aG}{a b:Nat}{o c:dw}{D f:oB}(e:h.get? a=aa o)(d:o.data=D)(g:h.get? b=aa c)(i:c.data=f)(n:D=f->False)(q:a=b):False:=n<|d.symm.trans<|(congrArg vX<|bP<|e.symm.trans<|(congrArg h.get? q).trans g).trans i
theorem oK{h:aG}{a b:Nat}{o c:dw}{D f:oB}(e:h.get? a=aa o)(d:o.data=D)(g:h.get? b=aa c)(i:c.data=f)(n:D=f->False)(q:b=a):False:=nA e d g i n q.symm
theorem jD{h:aG}{a:Nat}{o b:dw}{D:oB}(e:h.get? a=aa o)(d:o.data=D)(c:h.get? a=aa b):b.data=D:=bP (e.symm.trans c)▸d
theorem mq(h:∀x,o=aa x->False):o=none:=sN (motive:=λq=>o=q->o=ag) o id (λx e=>(h x e).elim) rfl
theorem wB(f:d->c->h)(e:a=a')(i:b=g):f a b=f a' g:=congr (congrArg f e) i
theorem M5{g f:d->c->Prop}{G:Prop}(h:l/\j/\i/\∃b,∃a,g b a/\f b a)(k:l->j->i->∀b a,g b a->f b a->G):G:=cV h.2.2.2 λb h0=>cV h0 λa e=>k h.1 h.2.1 h.2.2.1 b a e.1 e.2
theorem wA{P:Nat->Prop}{x:Nat}(h:x=32\/x=41\/x=93\/x=125)(a:P 32)(b:P 41)(c:P 93)(d:P 125):P x:=h.elim (ae · a) λh=>h.elim (ae · b) λh=>h.elim (ae · c) (ae · d)
theorem BQ(h:n - a=k+1):n=a+(k+1):=(Nat.add_sub_cancel'<|jM<|Lr<|h▸oA k).symm.trans<|congrArg (a+·) h
theorem Fx(h:a+k<=n)(c:b+k<=n):max a (max b 0)+k<=n:=Nat.add_le_of_le_sub (aH (qY k a) h)<|uj.mpr ⟨abv h,uj.mpr ⟨abv c,dR _⟩⟩
theorem dm(h:b<10):(a*10+b)/10=a/\(a*10+b)%10=b:=⟨(congrArg (·/10)<|pN _ _).trans<|(Nat.add_mul_div_right _ _<|by decide).trans<|(congrArg (·+a)<|Nat.div_eq_of_lt h).trans<|jd a,(congrArg (·%10)<|pN _ _).trans<|(Nat.add_mul_mod_self_right ..).trans<|Lu h⟩
@[elab_as_elim] theorem rF{P:c->Prop}{x:c}(h:x∈[a,b])(p:P a)(q:P b):P x:=(List.mem_cons.mp h).elim (λe=>ae e p) λh=>ae (List.mem_singleton.mp h) q
@[elab_as_elim] theorem sZ{P:d->Prop}{x:d}(h:x∈[a,b,c])(p:P a)(q:P b)(r:P c):P x:=(List.mem_cons.mp h).elim (λe=>ae e p) λh=>rF h q r
@[elab_as_elim] theorem Fu{P:f->Prop}{x:f}(h:x∈[a,b,c,d])(p:P a)(q:P b)(r:P c)(s:P d):P x:=(List.mem_cons.mp h).elim (λe=>ae e p) λh=>sZ h q r s
@[elab_as_elim] theorem M3{P:f->Prop}{x:f}(h:x∈[a,b,c,d,e])(p:P a)(q:P b)(r:P c)(s:P d)(t:P e):P x:=(List.mem_cons.mp h).elim (λe=>ae e p) λh=>Fu h q r s t
@[elab_as_elim] theorem Fv{P:g->Prop}{x:g}(h:x∈[a,b,c,d,e,f])(p:P a)(q:P b)(r:P c)(s:P d)(t:P e)(u:P f):P x:=(List.mem_cons.mp h).elim (λe=>ae e p) λh=>M3 h q r s t u
@[elab_as_elim] theorem Fw{P:i->Prop}{x:i}(h:x∈[a,b,c,d,e,f,g])(p:P a)(q:P b)(r:P c)(s:P d)(t:P e)(u:P f)(v:P g):P x:=(List.mem_cons.mp h).elim (λe=>ae e p) λh=>Fv h q r s t u v
theorem y7(w r:List a):(w++r).length - r.length=w.length:=(congrArg (· - r.length) bI).trans<|EJ ..
theorem bh(h:(a&&b)=af):a=af/\b=true:=oz.mp h
theorem M1{P:Nat->Prop}{n:Nat}(h:n<3)(a:P 0)(b:P 1)(c:P 2):P n:=
 @um (λn=>n<3->P n) n (λz=>a) (λn=>@um (λn=>n+1<3->P (n+1)) n (λz=>b) λn=>@um (λn=>n+2<3->P (n+2)) n (λz=>c) λn h=>absurd h<|EK<|qY 3 n) h
inductive LE | v (i:Nat) | n (k:Nat) | a (x y:LE) | m (k:Nat) (x:LE) | u (x:LE) (k:Nat)
inductive IE | c (x:LE) | v (i:Nat) | n (k:Nat) | a (x y:IE) | s (x y:IE) | g (x:IE) | m (k:Nat) (x:IE)
inductive LC | I (x y:LE) | e (x y:LE) | u (x y:LE) | nl (x y:LE) | nt (x y:LE) | Le (x y:IE) | U (x y:IE) | Eq (x y:IE) | Nl (x y:IE) | Nt (x y:IE) | a
noncomputable def wK [Inhabited α](g:List α):Nat->α:=@gq α (λz=>Nat->α) (λz=>default) (λx z ih i=>@yG (λz=>α) x (λj z=>ih j) i) g
noncomputable def LE.J(g:List Nat)(e:LE):Nat:=@LE.rec (λz=>Nat) (λi=>wK g i) (λk=>k) (λz z x y=>x+y) (λk z x=>k*x) (λz k x=>x*k) e
noncomputable def IE.J(g:List Nat)(h:List Int)(e:IE):Int:=@IE.rec (λz=>Int) (λx=>gS<|x.J g) (λi=>wK h i) (λk=>gS k) (λz z x y=>x+y) (λz z x y=>x - y) (λz x=> -x) (λk z x=>gS k*x) e
noncomputable def LC.J(g:List Nat)(h:List Int)(c:LC):Prop:=@LC.rec (λz=>Prop) (λx y=>x.J g<=y.J g) (λx y=>x.J g<y.J g) (λx y=>x.J g=y.J g) (λx y=>¬x.J g<=y.J g) (λx y=>¬x.J g<y.J g)
 (λx y=>x.J g h<=y.J g h) (λx y=>x.J g h<y.J g h) (λx y=>x.J g h=y.J g h) (λx y=>¬x.J g h<=y.J g h) (λx y=>¬x.J g h<y.J g h) False c
noncomputable def wH(p:List Nat):List Nat->List Nat:=@gq Nat (λz=>List Nat->List Nat) (λq=>q) (λa p ih q=>@gq Nat (λz=>List Nat) (a::p) (λb q z=>(a+b)::ih q) q) p
noncomputable def wI(k:Nat)(p:List Nat):List Nat:=@gq Nat (λz=>List Nat) [] (λa z r=>(k*a)::r) p
noncomputable def un(i:Nat):List Nat:=@yG (λz=>List Nat) [1] (λz r=>0::r) i
noncomputable def lz(p:List Nat):Bool:=@gq Nat (λz=>Bool) af (λa z r=>(uq a 0).and r) p
noncomputable def uE(p:List Nat):List Nat->Bool:=@gq Nat (λz=>List Nat->Bool) (λz=>af) (λa p ih q=>@gq Nat (λz=>Bool) (lz<|a::p) (λb q z=>(uq a b).and<|ih q) q) p
noncomputable def jk(p:List Nat):List Int->Int:=@gq Nat (λz=>List Int->Int) (λz=>0) (λa z ih g=>@gq Int (λz=>Int) 0 (λx g z=>gS a*x+ih g) g) p
theorem BS{a b c d:Int}:(a+b)+(c+d)=(a+c)+(b+d):=(Ly a b _).trans<|(congrArg (a+·)<|Int.add_left_comm b c d).trans (Ly a c _).symm
theorem za{p q g}:jk (wH p q) g=jk p g+jk q g:=by
 induction p generalizing q g with
 | nil=>exact(Lz _).symm
 | cons a p ih=>
  induction q with
  | nil=>exact(uo _).symm
  | cons b q=>induction g with| nil=>rfl| cons x g=>exact(congr (congrArg qZ<|Int.add_mul (gS a) (gS b) x) ih).trans<|BS
theorem zb:jk (wI k p) g=gS k*jk p g:=by
 induction p generalizing g with
 | nil=>exact(aby _).symm
 | cons a p ih=>induction g with| nil=>exact(aby _).symm| cons x g=>exact(congr (congrArg qZ<|Int.mul_assoc (gS k) (gS a) x) ih).trans (abw _ _ _).symm
theorem FE:jk (un i) g=wK g i:=by
 induction i generalizing g with
 | zero=>induction g with| nil=>rfl| cons x g=>exact(uo _).trans<|Int.one_mul x
 | succ i ih=>induction g with| nil=>rfl| cons x g=>exact(congrArg (·+jk (un i) g)<|abB x).trans<|(Lz _).trans ih
theorem BU(h:lz p=af):jk p g=0:=by
 induction p generalizing g with
 | nil=>rfl
 | cons a p ih=>induction g with| nil=>rfl| cons x g=>have h:=(eJ _ _).mp h;exact(congr (congrArg qZ<|congrArg (λn=>gS n*x)<|Nat.eq_zero_of_le_zero<|vZ h.1)<|ih h.2).trans<|(uo _).trans<|abB x
theorem M9(h:uE p q=af)(n:∀x∈g,(0:Int)<=x):jk p g<=jk q g:=by
 induction p generalizing q g with
 | nil=>
  skip;induction q generalizing g with
  | nil=>exact jy 0
  | cons b q ih=>induction g with| nil=>exact jy 0| cons x g=>exact abC (abD (iA b)<|n x cu)<|ih rfl λy c=>n y<|df _ c
 | cons a p ih=>
  induction q with
  | nil=>exact A7<|BU (p:=a::p) h
  | cons b q=>induction g with| nil=>exact jy 0| cons x g=>have h:=(eJ _ _).mp h;exact Int.add_le_add (Int.mul_le_mul_of_nonneg_right (oE.mpr<|vZ h.1)<|n x cu)<|ih h.2 λy c=>n y<|df _ c
theorem M8(h:uE p q=af)(c:uE q p=af):jk p g=jk q g:=by
 induction p generalizing q g with
 | nil=>induction q with| nil=>rfl| cons b q=>exact(BU (p:=b::q) c).symm
 | cons a p ih=>
  induction q with
  | nil=>exact BU (p:=a::p) h
  | cons b q=>induction g with| nil=>rfl| cons x g=>have h:=(eJ _ _).mp h;have c:=(eJ _ _).mp c;exact((congr (congrArg qZ<|congrArg (λn=>gS n*x)<|j4 (vZ h.1)<|vZ c.1)<|ih h.2 c.2):gS a*x+jk p g=gS b*x+jk q g)
noncomputable abbrev LF:Type:=(List Nat)×(List Nat)×(List Nat)×(List Nat)
noncomputable abbrev LF.p(x:LF):List Nat:=x.1
noncomputable abbrev LF.n(x:LF):List Nat:=x.2.1
noncomputable abbrev LF.P(x:LF):List Nat:=x.2.2.1
noncomputable abbrev LF.N(x:LF):List Nat:=x.2.2.2
noncomputable def LF.J(x y:LF):LF:=⟨wH x.p y.p,wH x.n y.n,wH x.P y.P,wH x.N y.N⟩
noncomputable def LF.fg(x:LF):LF:=⟨x.n,x.p,x.N,x.P⟩
noncomputable def LF.sc(k:Nat)(x:LF):LF:=⟨wI k x.p,wI k x.n,wI k x.P,wI k x.N⟩
noncomputable def LF.ah(g h:List Int)(x:LF):Int:=jk x.p g - jk x.n g+(jk x.P h - jk x.N h)
noncomputable def LF.I(x:LF):Bool:=(uE x.n x.p).and<|(uE x.P x.N).and<|uE x.N x.P
noncomputable def LF.cn(k:Nat):LF:=⟨[k],[],[],[]⟩
noncomputable def cx(g:List Nat):List Int:=1::g.map gS
section
variable {g h:List Int} {x y:LF}
theorem i4{a b c d:Int}:(a+b) - (c+d)=(a - c)+(b - d):=A6.trans<|(congrArg (a+b+·) abz).trans<|(BS).trans<|congr (congrArg qZ A6.symm) A6.symm
theorem LF.e:(x.J y).ah g h=x.ah g h+y.ah g h:=
 (congr (congrArg qZ<|(congr (congrArg EO za) za).trans i4)<|(congr (congrArg EO za) za).trans i4).trans (BS)
theorem LF.U:x.fg.ah g h= - x.ah g h:=(congr (congrArg qZ (abA _ _).symm) (abA _ _).symm).trans abz.symm
theorem LF.y8:(x.sc k).ah g h=gS k*x.ah g h:=
 (congr (congrArg qZ<|(congr (congrArg EO zb) zb).trans (abx _ _ _).symm)<|(congr (congrArg EO zb) zb).trans (abx _ _ _).symm).trans (abw _ _ _).symm
theorem M7{g:List Nat}:∀y∈cx g,(0:Int)<=y:=abE.mpr ⟨by decide,List.forall_mem_map.mpr λn z=>iA n⟩
theorem LF.u{g:List Nat}(e:x.I=af):0<=x.ah (cx g) h:=
 ay ((eJ _ _).mp e) λa b=>ay ((eJ _ _).mp b) λb c=>abC (vY<|M9 a M7)<|vY<|A7<|M8 c b
end
noncomputable def LE.U(e:LE):LF:=@LE.rec (λz=>LF) (λi=>⟨un<|i+1,[],[],[]⟩) LF.cn (λz z x y=>x.J y) (λk z x=>x.sc k) (λz k x=>x.sc k) e
noncomputable def IE.U(e:IE):LF:=@IE.rec (λz=>LF) (λx=>x.U) (λi=>⟨[],[],un i,[]⟩) LF.cn (λz z x y=>x.J y) (λz z x y=>x.J y.fg) (λz x=>x.fg) (λk z x=>x.sc k) e
section
variable {g:List Nat} {h:List Int}
theorem y9:(LF.cn k).ah (cx g) h=k:=(uo _).trans<|(EL _).trans<|(uo _).trans<|Int.mul_one<|gS k
theorem Nb:wK (g.map gS) i=gS (wK g i):=by
 induction g generalizing i with
 | nil=>rfl
 | cons x g ih=>induction i with
  | zero=>rfl| succ i=>exact ih
theorem LE.I(e:LE):e.U.ah (cx g) h=(e.J g:Int):=by induction e with| v i=>exact(uo _).trans<|(EL _).trans<|(FE (i:=i+1) (g:=cx g)).trans Nb| n k=>exact y9| a x y b c=>exact LF.e.trans<|congr (congrArg _ b) c| m k x b=>exact LF.y8.trans<|congrArg _ b| u x k b=>exact LF.y8.trans<|(congrArg _ b).trans<|Int.mul_comm _ _
theorem IE.I(e:IE):e.U.ah (cx g) h=e.J g h:=by induction e with| c x=>exact x.I| v i=>exact(Lz _).trans<|(EL _).trans FE| n k=>exact y9| a x y b d=>exact LF.e.trans<|congr (congrArg _ b) d| s x y b d=>exact LF.e.trans<|(congr (congrArg _ b)<|LF.U.trans<|congrArg _ d).trans A6.symm| g x b=>exact LF.U.trans<|congrArg _ b| m k x b=>exact LF.y8.trans<|congrArg _ b
noncomputable def LC.d(t:Bool)(c:LC):LF:=
 let f (x y:LF):=y.J x.fg;let s (x y:LF):=f (x.J<|.cn 1) y
 @LC.rec (λz=>LF) (λx y=>f x.U y.U) (λx y=>s x.U y.U) (λx y=>@EN (λz=>LF) (f x.U y.U) (f y.U x.U) t) (λx y=>s y.U x.U) (λx y=>f y.U x.U)
  (λx y=>f x.U y.U) (λx y=>s x.U y.U) (λx y=>@EN (λz=>LF) (f x.U y.U) (f y.U x.U) t) (λx y=>s y.U x.U) (λx y=>f y.U x.U) (LF.fg<|.cn 1) c
noncomputable def LC.ne(c:LC):Bool:=@LC.rec (λz=>Bool) (λz z=>af) (λz z=>af) (λz z=>ai) (λz z=>af) (λz z=>af) (λz z=>af) (λz z=>af) (λz z=>ai) (λz z=>af) (λz z=>af) af c
theorem FH{x y:LF}{a b:Int}(d:x.ah (cx g) h=a)(c:y.ah (cx g) h=b):(y.J x.fg).ah (cx g) h=b - a:=LF.e.trans<|(congr (congrArg qZ c)<|LF.U.trans<|congrArg Neg.neg d).trans A6.symm
theorem rH{x:LF}{a:Int}(b:x.ah (cx g) h=a):(x.J<|.cn 1).ah (cx g) h=a+1:=LF.e.trans<|congr (congrArg qZ b) y9
theorem mu{x y:LF}{a b:Int}(d:x.ah (cx g) h=a)(c:y.ah (cx g) h=b)(o:a<=b):0<=(y.J x.fg).ah (cx g) h:=(FH d c).symm▸vY o
theorem qb{x y:LF}{a b:Int}(d:x.ah (cx g) h=a)(c:y.ah (cx g) h=b)(o:0<=(y.J x.fg).ah (cx g) h):a<=b:=Int.le_of_sub_nonneg<|FH d c▸o
theorem LC.BR{c:LC}{t:Bool}(o:c.J g h):0<=(c.d t).ah (cx g) h:=by
 induction c with
 | I x y=>exact mu x.I y.I<|oE.mpr o| e x y=>exact mu (rH x.I) y.I<|j3.mpr o
 | u x y=>have o:x.J g=y.J g:=o;induction t with
  | false=>exact mu x.I y.I<|oE.mpr<|eW o| true=>exact mu y.I x.I<|oE.mpr<|eW o.symm
 | nl x y=>exact mu (rH y.I) x.I<|j3.mpr<|Nat.lt_of_not_le o| nt x y=>exact mu y.I x.I<|oE.mpr<|EM o| Le x y=>exact mu x.I y.I o| U x y=>exact mu (rH x.I) y.I o
 | Eq x y=>have o:x.J g h=y.J g h:=o;induction t with
  | false=>exact mu x.I y.I<|A7 o| true=>exact mu y.I x.I<|A7 o.symm
 | Nl x y=>exact mu (rH y.I) x.I<|Int.lt_of_not_ge o| Nt x y=>exact mu y.I x.I<|oC.mp o| a=>exact o.elim
theorem LC.j6{c:LC}(e:c.ne=af)(o:0<=(c.d ai).ah (cx g) h):c.J g h:=by induction c with| I x y=>exact oE.mp<|qb x.I y.I o| e x y=>exact j3.mp<|qb (rH x.I) y.I o| u x y=>exact bw e| nl x y=>exact LB<|j3.mp<|qb (rH y.I) x.I o| nt x y=>exact EK<|oE.mp<|qb y.I x.I o| Le x y=>exact qb x.I y.I o| U x y=>exact qb (rH x.I) y.I o| Eq x y=>exact bw e| Nl x y=>exact Int.not_le_of_gt<|qb (rH y.I) x.I o| Nt x y=>exact Int.not_lt_of_ge<|qb y.I x.I o| a=>exact absurd ((LF.U.trans<|congrArg Neg.neg y9)▸o) (by decide)
noncomputable def st(D:LF)(k:Nat)(t:Bool)(c:LC):LF:=D.J ((c.d t).sc k).fg
theorem j7{c:LC}(o:c.J g h)(e:0<=(st D k t c).ah (cx g) h):0<=D.ah (cx g) h:=
 dy (abD (iA k)<|LC.BR (t:=t) o) (qb LF.y8 rfl e)
end
noncomputable abbrev LU:Type:=Nat×Bool×LC
noncomputable abbrev LU.k(x:LU):Nat:=x.1
noncomputable abbrev LU.t(x:LU):Bool:=x.2.1
noncomputable abbrev LU.c(x:LU):LC:=x.2.2
noncomputable def LU.st(D:LF)(u:LU):LF:=Mine.Internal.st D u.k u.t u.c
noncomputable def LU.I(x y:LE):LU:=⟨1,ai, .I x y⟩
noncomputable def LU.e(x y:LE):LU:=⟨1,ai, .e x y⟩
noncomputable def LU.u(x y:LE):LU:=⟨1,ai, .u x y⟩
noncomputable def LU.nt(x y:LE):LU:=⟨1,ai, .nt x y⟩
noncomputable def LU.Le(x y:IE):LU:=⟨1,ai, .Le x y⟩
noncomputable def LU.U(x y:IE):LU:=⟨1,ai, .U x y⟩
noncomputable def LU.Eq(x y:IE):LU:=⟨1,ai, .Eq x y⟩
noncomputable def LU.Nl(x y:IE):LU:=⟨1,ai, .Nl x y⟩
noncomputable def LU.Nt(x y:IE):LU:=⟨1,ai, .Nt x y⟩
noncomputable def LU.qe(x y:LE):LU:=⟨1,af, .u x y⟩
noncomputable def LU.J(x y:IE):LU:=⟨1,af, .Eq x y⟩
theorem Na{a b:Nat}:a<=a - b+b:=(LA b a).elim (λh=>eW (kZ h).symm) λh=>aH h<|qY _ _
theorem wJ(a b:Nat):(a<=b/\max a b=b)\/(b<=a/\max a b=a):=(LA a b).imp (λh=>⟨h,Nat.max_eq_right h⟩) λh=>⟨h,Nat.max_eq_left h⟩
theorem cP(q:LC)(e:(q.ne.and (q.d ai).I)=af)(g:List Nat)(h:List Int:=[]):q.J g h:=ay ((eJ _ _).mp e) λa b=>LC.j6 a<|LF.u b
theorem aD(q:LC)(u:LU)(e:(q.ne.and (u.st<|q.d ai).I)=af)(h:List Int)(g:List Nat)(o:u.c.J g h):q.J g h:=ay ((eJ _ _).mp e) λa b=>LC.j6 a<|j7 o<|LF.u b
theorem bJ(q:LC)(u v:LU)(e:(q.ne.and (v.st<|u.st<|q.d ai).I)=af)(h:List Int)(g:List Nat)(o:u.c.J g h)(c:v.c.J g h):q.J g h:=ay ((eJ _ _).mp e) λa b=>LC.j6 a<|j7 o<|j7 c<|LF.u b
theorem oM(q:LC)(u v w:LU)(e:(q.ne.and (w.st<|v.st<|u.st<|q.d ai).I)=af)(h:List Int)(g:List Nat)(o:u.c.J g h)(d:v.c.J g h)(c:w.c.J g h):q.J g h:=ay ((eJ _ _).mp e) λa b=>LC.j6 a<|j7 o<|j7 d<|j7 c<|LF.u b
theorem zc(q:LC)(u v w x:LU)(e:(q.ne.and (x.st<|w.st<|v.st<|u.st<|q.d ai).I)=af)(h:List Int)(g:List Nat)(o:u.c.J g h)(f:v.c.J g h)(d:w.c.J g h)(c:x.c.J g h):q.J g h:=ay ((eJ _ _).mp e) λa b=>LC.j6 a<|j7 o<|j7 f<|j7 d<|j7 c<|LF.u b
theorem BV(q:LC)(u v w x y:LU)(e:(q.ne.and (y.st<|x.st<|w.st<|v.st<|u.st<|q.d ai).I)=af)(h:List Int)(g:List Nat)(o:u.c.J g h)(i:v.c.J g h)(f:w.c.J g h)(d:x.c.J g h)(c:y.c.J g h):q.J g h:=ay ((eJ _ _).mp e) λa b=>LC.j6 a<|j7 o<|j7 i<|j7 f<|j7 d<|j7 c<|LF.u b
end
section
open PySem
inductive OP(p:Prop) where | u | J (h:p)
noncomputable def OP.e{p:Prop}(x:OP p):Bool:=OP.casesOn x ai λz=>af
theorem OP.eM{x:OP p}:x.e=af->p:=OP.casesOn (motive:=λx=>x.e=af->p) x (λh=>bw h) λh z=>h
noncomputable def OP.bo(x:OP p)(f:p->OP q):OP q:=OP.casesOn x .u f
noncomputable def dq(b:Bool)(f:b=af->p):OP p:=EN (motive:=λb=>(b=af->p)->OP p) (λz=> .u) (λf=> .J<|f rfl) b f
@[elab_as_elim] noncomputable def fX{motive:List a->Type}(l:List a)(f:motive [])(d:∀l,motive l):motive l:=List.casesOn l f λz z=>d _
@[elab_as_elim] noncomputable def qc{motive:List b->Type}(l:List b)(f:∀a r,motive<|a::r)(d:∀l,motive l):motive l:=List.casesOn l (d _) f
@[elab_as_elim] noncomputable def iR{motive:List b->Type}(l:List b)(f:∀a,motive [a])(d:∀l,motive l):motive l:=qc l (λa r=>fX r (f a) λz=>d _) d
@[elab_as_elim] noncomputable def wL{motive:Option b->Type}(l:Option b)(f:∀a,motive<|some a)(d:∀l,motive l):motive l:=Option.casesOn l (d _) f
@[elab_as_elim] noncomputable def BY{motive:Option a->Type}(l:Option a)(f:motive none)(d:∀l,motive l):motive l:=Option.casesOn l f λz=>d _
@[elab_as_elim] noncomputable def iD [DecidableEq c]{motive:c->Type}(a:c)(b:c)(f:motive b)(d:∀a,motive a):motive a:=if h:b=a then Eq.rec (motive:=λx z=>motive x) f h else d a
@[elab_as_elim] noncomputable def BX{motive:Expr->Type}(e:Expr)(f:∀c b a,motive<|.BoolOp c b a)(d:∀e,motive e):motive e:=if h:e.ctorIdx=0 then Expr.BoolOp.elim (motive_1:=motive) e h f else d e
@[elab_as_elim] noncomputable def FK{motive:Expr->Type}(e:Expr)(f:∀g c b a,motive<|.BinOp g c b a)(d:∀e,motive e):motive e:=if h:e.ctorIdx=2 then Expr.BinOp.elim (motive_1:=motive) e h f else d e
@[elab_as_elim] noncomputable def Ca{motive:Expr->Type}(e:Expr)(f:∀c b a,motive<|.UnaryOp c b a)(d:∀e,motive e):motive e:=if h:e.ctorIdx=3 then Expr.UnaryOp.elim (motive_1:=motive) e h f else d e
@[elab_as_elim] noncomputable def Ng{motive:Expr->Type}(e:Expr)(f:∀g c b a,motive<|.IfExp g c b a)(d:∀e,motive e):motive e:=if h:e.ctorIdx=5 then Expr.IfExp.elim (motive_1:=motive) e h f else d e
@[elab_as_elim] noncomputable def FN{motive:Expr->Type}(e:Expr)(f:∀c b a,motive<|.Dict c b a)(d:∀e,motive e):motive e:=if h:e.ctorIdx=6 then Expr.Dict.elim (motive_1:=motive) e h f else d e
@[elab_as_elim] noncomputable def FO{motive:Expr->Type}(e:Expr)(f:∀g c b a,motive<|.ListComp g c b a)(d:∀e,motive e):motive e:=if h:e.ctorIdx=8 then Expr.ListComp.elim (motive_1:=motive) e h f else d e
@[elab_as_elim] noncomputable def FL{motive:Expr->Type}(e:Expr)(f:∀g c b a,motive<|.Compare g c b a)(d:∀e,motive e):motive e:=if h:e.ctorIdx=15 then Expr.Compare.elim (motive_1:=motive) e h f else d e
@[elab_as_elim] noncomputable def oN{motive:Expr->Type}(e:Expr)(f:∀g c b a,motive<|.Call g c b a)(d:∀e,motive e):motive e:=if h:e.ctorIdx=16 then Expr.Call.elim (motive_1:=motive) e h f else d e
@[elab_as_elim] noncomputable def tc{motive:Expr->Type}(e:Expr)(f:∀c b a,motive<|.Constant c b a)(d:∀e,motive e):motive e:=if h:e.ctorIdx=19 then Expr.Constant.elim (motive_1:=motive) e h f else d e
@[elab_as_elim] noncomputable def uF{motive:Expr->Type}(e:Expr)(f:∀c b a,motive<|.Attribute c b a)(d:∀e,motive e):motive e:=if h:e.ctorIdx=20 then Expr.Attribute.elim (motive_1:=motive) e h f else d e
@[elab_as_elim] noncomputable def ze{motive:Expr->Type}(e:Expr)(f:∀c b a,motive<|.Subscript c b a)(d:∀e,motive e):motive e:=if h:e.ctorIdx=21 then Expr.Subscript.elim (motive_1:=motive) e h f else d e
@[elab_as_elim] noncomputable def iE{motive:Expr->Type}(e:Expr)(f:∀b a,motive<|.Name b a)(d:∀e,motive e):motive e:=if h:e.ctorIdx=23 then Expr.Name.elim (motive_1:=motive) e h f else d e
@[elab_as_elim] noncomputable def Nh{motive:Expr->Type}(e:Expr)(f:∀b a,motive<|.List b a)(d:∀e,motive e):motive e:=if h:e.ctorIdx=24 then Expr.List.elim (motive_1:=motive) e h f else d e
@[elab_as_elim] noncomputable def BZ{motive:Expr->Type}(e:Expr)(f:∀c b a,motive<|.Tuple c b a)(d:∀e,motive e):motive e:=if h:e.ctorIdx=25 then Expr.Tuple.elim (motive_1:=motive) e h f else d e
@[elab_as_elim] noncomputable def Nn{motive:Expr->Type}(e:Expr)(f:∀g c b a,motive<|.Slice g c b a)(d:∀e,motive e):motive e:=if h:e.ctorIdx=26 then Expr.Slice.elim (motive_1:=motive) e h f else d e
@[elab_as_elim] noncomputable def Nk{motive:Stmt->Type}(e:Stmt)(f:∀b a,motive<|.Return b a)(d:∀e,motive e):motive e:=if h:e.ctorIdx=3 then Stmt.Return.elim (motive_2:=motive) e h f else d e
@[elab_as_elim] noncomputable def BW{motive:Stmt->Type}(e:Stmt)(f:∀c b a,motive<|.Assign c b a)(d:∀e,motive e):motive e:=if h:e.ctorIdx=5 then Stmt.Assign.elim (motive_2:=motive) e h f else d e
@[elab_as_elim] noncomputable def FJ{motive:Stmt->Type}(e:Stmt)(f:∀g c b a,motive<|.AugAssign g c b a)(d:∀e,motive e):motive e:=if h:e.ctorIdx=7 then Stmt.AugAssign.elim (motive_2:=motive) e h f else d e
@[elab_as_elim] noncomputable def Nd{motive:Stmt->Type}(e:Stmt)(f:∀i g c b a,motive<|.For i g c b a)(d:∀e,motive e):motive e:=if h:e.ctorIdx=9 then Stmt.For.elim (motive_2:=motive) e h f else d e
@[elab_as_elim] noncomputable def Np{motive:Stmt->Type}(e:Stmt)(f:∀g c b a,motive<|.While g c b a)(d:∀e,motive e):motive e:=if h:e.ctorIdx=11 then Stmt.While.elim (motive_2:=motive) e h f else d e
@[elab_as_elim] noncomputable def Nf{motive:Stmt->Type}(e:Stmt)(f:∀g c b a,motive<|.If g c b a)(d:∀e,motive e):motive e:=if h:e.ctorIdx=12 then Stmt.If.elim (motive_2:=motive) e h f else d e
@[elab_as_elim] noncomputable def Nj{motive:Stmt->Type}(e:Stmt)(f:∀c b a,motive<|.Raise c b a)(d:∀e,motive e):motive e:=if h:e.ctorIdx=16 then Stmt.Raise.elim (motive_2:=motive) e h f else d e
@[elab_as_elim] noncomputable def FP{motive:Stmt->Type}(e:Stmt)(f:∀i g c b a,motive<|.Try i g c b a)(d:∀e,motive e):motive e:=if h:e.ctorIdx=17 then Stmt.Try.elim (motive_2:=motive) e h f else d e
@[elab_as_elim] noncomputable def Nm{motive:Stmt->Type}(e:Stmt)(f:∀b a,motive<|.Expr b a)(d:∀e,motive e):motive e:=if h:e.ctorIdx=24 then Stmt.Expr.elim (motive_2:=motive) e h f else d e
@[elab_as_elim] noncomputable def Ni{motive:Stmt->Type}(e:Stmt)(f:∀a,motive<|.Pass a)(d:∀e,motive e):motive e:=if h:e.ctorIdx=25 then Stmt.Pass.elim (motive_2:=motive) e h f else d e
@[elab_as_elim] noncomputable def Nc{motive:Stmt->Type}(e:Stmt)(f:∀a,motive<|.Break a)(d:∀e,motive e):motive e:=if h:e.ctorIdx=26 then Stmt.Break.elim (motive_2:=motive) e h f else d e
set_option genInjectivity true in
inductive V where
 | f | e (b:Bool) | x (i:Int) | z (s:Str) | U (l:List V) | d (a:Nat)
set_option genInjectivity true in
inductive cb where
 | u (g:Nat) (l:List V)
 | a (g:Nat) (es:List (Str×V))
 | e (g:Nat) (es:List (Int×V))
 | c (g:Nat) (es:List (List Int×V))
 | b (C:Nat) (vs:List (Option V))
 | f (fresh:Bool) (d:Nat) (vs:List V)
 | j (l:List V)
noncomputable def V.ctorIdx(v:V):Nat:=@V.casesOn (λz=>Nat) v 0 (λz=>1) (λz=>2) (λz=>3) (λz=>4) λz=>5
noncomputable def cb.ctorIdx(c:cb):Nat:=@cb.casesOn (λz=>Nat) c (λz z=>0) (λz z=>1) (λz z=>2) (λz z=>3) (λz z=>4) (λz z z=>5) λz=>6
noncomputable abbrev HP:=Nat->Option cb
noncomputable def HP.J(H:HP)(a:Nat)(c:cb):HP:=λb=>if b=a then aa c else H b
noncomputable def HP.hZ(H:HP)(a:Nat):HP:=λb=>if b=a then ag else H b
noncomputable abbrev aA:=List<|Option V
noncomputable abbrev EP:=List V->HP->Prop
noncomputable abbrev QV:=V->HP->Prop
mutual
inductive X where
 | p
 | e (v:V)
 | J (i:Nat)
 | ao (o:X) (C k:Nat)
 | ak (o i:X)
 | q (g:Nat) (o lo hi:X)
 | aS (g:Nat) (op:gH) (l r:X)
 | fg (x:X)
 | j (x:X)
 | cU (isAnd:Bool) (xs:XL)
 | U (l:X) (op:k6) (r:X)
 | d (t:B) (a b:X)
 | ax (xs:XL)
 | u (g:Nat) (xs:XL)
 | h (g:Nat) (kind:Nat)
 | w (g:Nat) (k v:X)
 | aN (f:Nat) (xs:XL)
 | aT (C f n:Nat) (xs:XL)
 | s (xs:XL)
 | I (o:X) (C f:Nat) (xs:XL)
 | bi (b:Nat) (xs:XL)
 | bm (m:Nat) (o:X) (xs:XL)
 | c (g:Nat) (elt:X) (i:Nat) (it:X) (ifs:BL)
inductive XL where
 | I
 | u (x:X) (r:XL)
inductive B where
 | ah (x:X)
 | j (b:B)
 | aB (bs:BL)
 | cQ (bs:BL)
 | d (t a b:B)
 | c (l:X) (op:k6) (m:X) (op':k6) (r:X)
inductive BL where
 | I
 | u (b:B) (r:BL)
end
noncomputable def XL.e(x:XL):Bool:=@XL.casesOn (λz=>Bool) x af λz z=>ai
inductive It where | u (x:X) | a (x:X) | b (x y:X) | d (x:X) | c (x:X)
inductive T where | J (i:Nat) | ao (o:X) (C k:Nat) | ak (o i:X) | U (is:List Nat)
mutual
inductive S where
 | p
 | f (x:X)
 | c (t:T) (x:X)
 | m (i:Nat) (op:gH) (x:X)
 | n (o i:X) (op:gH) (x:X)
 | d (t:B) (a b:SL)
 | k (t:B) (b:SL)
 | g (t:T) (it:It) (b:SL)
 | e (x:X)
 | j (x:X)
 | q (b:SL) (h:SL)
 | l (b:SL) (i:Nat) (h:SL)
 | r
 | s
inductive SL where
 | I
 | u (s:S) (r:SL)
end
noncomputable def cE:Nat:=16777216
inductive ka(H:HP):V->Bool->Prop
 | f:ka H .f ai
 | e {b}:ka H (.e b) b
 | x {i}:ka H (.x i) (i !=0)
 | z {s} (h:s.cps.size<=cE):ka H (.z s) (s.cps.size !=0)
 | U {l} (h:l.length<=cE):ka H (.U l) (!l.isEmpty)
 | u {a g l} (h:H a=aa (.u g l)):ka H (.d a) (!l.isEmpty)
noncomputable def tj(x:V):Nat:=@V.rec (λz=>Nat) (λz=>Nat) 0 (λz=>0) (λz=>0) (λz=>0) (λz n=>n+1) (λz=>0) 0 (λz z a b=>max a b) x
noncomputable def nF(x:List V):Nat:=@V.rec_1 (λz=>Nat) (λz=>Nat) 0 (λz=>0) (λz=>0) (λz=>0) (λz n=>n+1) (λz=>0) 0 (λz z a b=>max a b) x
class inductive eZ(R:Nat->Nat->Bool->Prop):Bool->List V->List V->Bool->Prop
 | I:eZ R af [] [] af
 | g {v l}:eZ R af (v::l) [] ai
 | i {v l}:eZ R af [] (v::l) ai
 | u {v w l m b c} (h:eZ R ai [v] [w] b) (t:eZ R af l m c):eZ R af (v::l) (w::m) (b&&c)
 | f:eZ R ai [.f] [.f] af
 | e {a b}:eZ R ai [.e a] [.e b] (a==b)
 | x {a b}:eZ R ai [.x a] [.x b] (a==b)
 | z {a b}:eZ R ai [.z a] [.z b] (a==b)
 | U {l m b} (h:eZ R af l m b):eZ R ai [.U l] [.U m] b
 | d {a b c} (h:R a b c):eZ R ai [.d a] [.d b] c
noncomputable def uH:Nat->Nat->Bool->Prop:=λz z z=>False
inductive Cc(H:HP):Nat->Nat->Bool->Prop
 | mk {a b g k l m c} (n:a≠b) (h:H a=aa (.u g l)) (h':H b=aa (.u k m)) (d:nF l<=100) (e:eZ uH af l m c):Cc H a b c
inductive zg(H:HP)(v w:V)(b:Bool):Prop
 | mk (d:tj v<=100) (e:eZ (Cc H) ai [v] [w] b)
class inductive nC:List V->List Int->Prop
 | I:nC [] []
 | u {i l k} (h:nC l k):nC (.x i::l) (i::k)
class inductive kG:List V->List Str->Prop
 | I:kG [] []
 | u {i l k} (h:kG l k):kG (.z i::l) (i::k)
inductive qd:V->List V->Bool->Prop
 | x {k l ks} (h:nC l ks):qd (.x k) l (ks.contains k)
 | z {k l ks} (h:kG l ks):qd (.z k) l (ks.contains k)
noncomputable def dA [DecidableEq K](a:List (K×V))(k:K):Option V:=a.lookup k
inductive fH(H:HP):Nat->V->Option V->Prop
 | s {a g es k} (h:H a=aa (.a g es)):fH H a (.z k) (dA es k)
 | i {a g es k} (h:H a=aa (.e g es)):fH H a (.x k) (dA es k)
 | t {a g es l k} (h:H a=aa (.c g es)) (e:nC l k):fH H a (.U l) (dA es k)
inductive fY(H:HP):V->V->Bool->Prop
 | U {x l b} (h:qd x l b):fY H x (.U l) b
 | z {c s n} (h:c.cps.toList=[n]):fY H (.z c) (.z s) (s.cps.toList.contains n)
 | u {x a g l b} (h:H a=aa (.u g l)) (e:qd x l b):fY H x (.d a) b
 | I {x a r} (h:fH H a x r):fY H x (.d a) r.isSome
noncomputable def V.u(v:V):Bool:=@V.casesOn (λz=>Bool) v af (λz=>ai) (λz=>ai) (λz=>ai) (λz=>ai) λz=>ai
inductive cg(H:HP):k6->V->V->Bool->Prop
 | u {v w b} (h:zg H v w b):cg H .Eq v w b
 | ne {v w b} (h:zg H v w b):cg H .NotEq v w (!b)
 | e {a b}:cg H .Lt (.x a) (.x b) (dS (a<b))
 | I {a b}:cg H .LtE (.x a) (.x b) (dS (a<=b))
 | j {a b}:cg H .Gt (.x a) (.x b) (dS (a>b))
 | i {a b}:cg H .GtE (.x a) (.x b) (dS (a>=b))
 | d {v}:cg H .Is v .f v.u
 | f {v}:cg H .IsNot v .f (!v.u)
 | c {v w b} (h:fY H v w b):cg H .In v w b
 | g {v w b} (h:fY H v w b):cg H .NotIn v w (!b)
noncomputable def qg(n:Nat)(i:Int):Option Nat:=if i.natAbs<1099511627776 then uu i n else ag
inductive fh(H:HP):V->V->V->Prop
 | U {l k j x} (e:qg l.length k=aa j) (h:l[j]?=aa x):fh H (.U l) (.x k) x
 | z {s k j c} (e:qg s.cps.size k=aa j) (h:s.cps[j]?=aa c):fh H (.z s) (.x k) (.z ⟨#[c]⟩)
 | u {a g l k j x} (c:H a=aa (.u g l)) (e:qg l.length k=aa j) (h:l[j]?=aa x):fh H (.d a) (.x k) x
 | I {a k x} (h:fH H a k (aa x)):fh H (.d a) k x
noncomputable def gJ [DecidableEq K](a:List (K×V))(k:K)(v:V):List (K×V):=
 if(dA a k).isSome then a.map (λx=>if x.1=k then(x.1,v) else x) else a++[(k,v)]
inductive j9(H:HP):V->V->V->HP->Prop
 | u {a g l k j v} (c:H a=aa (.u g l)) (h0:0<=k) (e:qg l.length k=aa j):j9 H (.d a) (.x k) v (H.J a (.u g (l.set j v)))
 | i {a g es k v} (c:H a=aa (.e g es)) (h:es.length<cE):j9 H (.d a) (.x k) v (H.J a (.e g (gJ es k v)))
 | s {a g es k v} (c:H a=aa (.a g es)) (h:es.length<cE) (n:dA es k=ag):j9 H (.d a) (.z k) v (H.J a (.a g (es++[(k,v)])))
 | t {a g es l k v} (c:H a=aa (.c g es)) (h:es.length<cE) (e:nC l k):j9 H (.d a) (.U l) v (H.J a (.c g (gJ es k v)))
noncomputable abbrev fQ:=yH
theorem FQ(n i:Nat):fQ n (i:Int)=min i n:=by delta fQ yH;refine ae (if_neg<|cP (.Nt (.c<|.v 0)<|.n 0) rfl [_] []) ?_;have k:∀{m:Nat},(max 0 (m:Int)).toNat=m:=λ{m}=>(congrArg LD<|A8<|iA m).trans<|A9 m;exact(LA i n).elim (λh=>(congrArg (λz:Int=>(max 0 z).toNat)<|abF<|oE.mpr h).trans<|k.trans (Ba h).symm) λh=>(congrArg (λz:Int=>(max 0 z).toNat)<|Int.min_eq_right<|oE.mpr h).trans<|k.trans (Nat.min_eq_right h).symm
inductive qf(H:HP):V->V->V->List V->Prop
 | d {a g l h} (c:H a=aa (.u g l)):qf H (.d a) .f (.x h) (l.take (fQ l.length h))
 | b {a g l i h} (c:H a=aa (.u g l)):qf H (.d a) (.x i) (.x h) ((l.take (fQ l.length h)).drop (fQ l.length i))
 | e {a g l i} (c:H a=aa (.u g l)):qf H (.d a) (.x i) .f (l.drop (fQ l.length i))
 | j {a l h} (c:H a=aa (.j l)):qf H (.d a) .f (.x h) (l.take (fQ l.length h))
inductive wM where | ah (v:V) | mk (c:cb)
noncomputable def wM.ctorIdx(r:wM):Nat:=@wM.casesOn (λz=>Nat) r (λz=>0) λz=>1
noncomputable def QR(Q:QV)(H:HP):wM->Prop
 | .ah v=>Q v H| .mk c=>∀a,H a=ag->Q (.d a) (H.J a c)
inductive td:gH->Int->Int->Int->Prop
 | J {a b}:td .Add a b (a+b)
 | ak {a b}:td .Sub a b (a - b)
 | d {a b} (h:a.natAbs<2^200) (h':b.natAbs<2^200):td .Mult a b (a*b)
 | c {a b} (h:b≠0):td .Mod a b (ur a b)
 | e {a b} (h:b≠0) (h':b.natAbs<1073741824):td .FloorDiv a b (Int.fdiv a b)
inductive j8(H:HP)(g:Nat):gH->V->V->wM->Prop
 | x {op a b c} (h:td op a b c):j8 H g op (.x a) (.x b) (.ah (.x c))
 | z {a b} (h:a.length+b.length<=cE):j8 H g .Add (.z a) (.z b) (.ah (.z (a++b)))
 | u {a b i j l m} (c:H a=aa (.u i l)) (d:H b=aa (.u j m)) (h:l.length+m.length<=cE):j8 H g .Add (.d a) (.d b) (.mk (.u g (l++m)))
noncomputable def cW(a:Str)(l:List Str):Str:=@gq Str (λz=>Str) ⟨#[]⟩ (λx r ih=>@gq Str (λz=>Str) x (λz z z=>x++(a++ih)) r) l
noncomputable def tf(a:Str)(l:List Str):Nat:=l.foldl (λn x=>n+x.length+a.length) 0
inductive fP(H:HP):Nat->List V->V->Prop
 | e {a g l} (c:H a=aa (.u g l)):fP H 0 [.d a] (.x l.length)
 | k {i}:fP H 1 [.x i] (.x i.natAbs)
 | x {i}:fP H 2 [.x i] (.x i)
 | z {i} (h:i.natAbs<10^40):fP H 3 [.x i] (.z (q6 (sP i)))
 | d {i} (h:0<=i) (h':i<55296):fP H 4 [.x i] (.z ⟨#[i.toNat]⟩)
 | o {s} {n:Nat} (h:s.cps.toList=[n]):fP H 5 [.z s] (.x n)
 | m {a b}:fP H 6 [.x a, .x b] (.x (if b>a then b else a))
 | j {l}:fP H 7 [.U l] (.U l)
 | f {a g l} (c:H a=aa (.u g l)):fP H 7 [.d a] (.U l)
inductive Cb:V->List V->Nat->Prop
 | mk {z l ks} (h:kG l ks):Cb (.z z) l (ks.count z)
noncomputable def cb.J(c:cb):Bool:=@cb.casesOn (λz=>Bool) c (λz z=>ai) (λz z=>af) (λz z=>af) (λz z=>af) (λz z=>ai) (λz z z=>ai) λz=>ai
inductive jR(H:HP):Nat->V->Prop
 | hY {a g l} (c:H a=aa (.u g l)):jR H 0 (.d a)
 | nB {a g l} (c:H a=aa (.u g l)):jR H 1 (.d a)
 | b {a g l} (c:H a=aa (.u g l)):jR H 2 (.d a)
 | eM {a d} (c:H a=aa d) (h:d.J=af):jR H 3 (.d a)
 | u {s}:jR H 4 (.z s)
inductive hX(H:HP):Nat->V->List V->V->HP->Prop
 | hY {a g l v} (c:H a=aa (.u g l)) (h:l.length<cE):hX H 0 (.d a) [v] .f (H.J a (.u g (l++[v])))
 | nB {a g l v} (c:H a=aa (.u g (l++[v]))):hX H 1 (.d a) [] v (H.J a (.u g l))
 | b {a g l v n} (c:H a=aa (.u g l)) (h:Cb v l n):hX H 2 (.d a) [v] (.x n) H
 | e {a k r} (h:fH H a k r):hX H 3 (.d a) [k] (r.getD .f) H
 | f {a k d r} (h:fH H a k r):hX H 3 (.d a) [k,d] (r.getD d) H
 | u {s a g l ss} (c:H a=aa (.u g l)) (h:kG l ss) (z:tf s ss<=cE):hX H 4 (.z s) [.d a] (.z (cW s ss)) H
inductive gy where | b | u (a:Nat) (c:cb)
noncomputable def gy.ctorIdx(r:gy):Nat:=@gy.casesOn (λz=>Nat) r 0 λz z=>1
noncomputable def gy.J(H:HP):gy->Prop
 | .b=>True| .u a c=>H a=aa c
inductive lr(H:HP):V->gy->List V->Prop
 | U {l}:lr H (.U l) .b l
 | z {s} (h:s.cps.all (·<128)=af):lr H (.z s) .b (s.cps.toList.map λc=> .z ⟨#[c]⟩)
 | u {a g l} (c:H a=aa (.u g l)):lr H (.d a) (.u a (.u g l)) l
noncomputable def eQ(a b:Int):List V:=(sO (b - a).toNat).map λ(i:Nat)=>V.x<|a+(i:Int)
noncomputable def gK(i:Int):Prop:= -1000000<i/\i<1000000
inductive zf(H:HP):V->Nat->Nat->V->Prop
 | b {a C vs k x} (h:H a=aa (.b C vs)) (e:vs[k]?=aa (aa x)):zf H (.d a) C k x
 | f {a fr d vs k x} (h:H a=aa (.f fr d vs)) (e:vs[k]?=aa x):zf H (.d a) 0 k x
noncomputable def uG(l:List V):Bool:=@sN V (λz=>Bool) l[2]? af λv=>@V.casesOn (λz=>Bool) v af (λz=>af) (λi=>i !=0) (λz=>af) (λz=>af) λz=>af
noncomputable def lu(g:Nat):Nat->cb
 | 0=> .a g []| 1=> .e g []| _=> .c g []
noncomputable abbrev Nq(C k:Nat)(Q:QV):QV:=λv H=>∃x,zf H v C k x/\Q x H
noncomputable abbrev FW(a:V)(Q:QV):QV:=λb H=>∃x,fh H a b x/\Q x H
noncomputable abbrev zh(g:Nat)(Q:QV):List V->HP->Prop:=λm H=>∀c,H c=ag->Q (.d c) (H.J c<|.u g m)
noncomputable abbrev zi(g:Nat)(a l:V)(Q:QV):QV:=λh H=>∃m,qf H a l h m/\zh g Q m H
noncomputable abbrev FU(g:Nat)(c:gH)(a:V)(Q:QV):QV:=λb H=>∃x,j8 H g c a b x/\QR Q H x
noncomputable abbrev FV(d:k6)(a:V)(Q:QV):QV:=λb H=>∃c,cg H d a b c/\Q (.e c) H
noncomputable abbrev nE(A B:HP->Prop):Bool->HP->Prop:=λc H=>(c=af->A H)/\(c=ai->B H)
noncomputable abbrev FX(K:Bool->HP->Prop):QV:=λv H=>∃b,ka H v b/\K b H
noncomputable abbrev Ce(C:Nat)(A:V->HP->Prop):QV:=λv H=>(∃a b,v= .d a/\H a=aa (.b C b))/\A v H
noncomputable abbrev Nr(b:Nat)(Q:QV):List V->HP->Prop:=λa H=>∃x,fP H b a x/\Q x H
noncomputable abbrev Cd(m:Nat)(v:V)(Q:QV):List V->HP->Prop:=λb H=>∃x a,hX H m v b x a/\Q x a
noncomputable abbrev FT(r:Bool)(a:Bool)(A:HP->Prop)(Q:QV):QV:=λv H=>(r=af->Q v H)/\(r=ai->∃b,ka H v b/\(b=a->A H)/\(b=(!a)->Q v H))
noncomputable abbrev FR(d:Bool)(A:HP->Prop)(K:Bool->HP->Prop):Bool->HP->Prop:=λc H=>(c=d->A H)/\(c=(!d)->K c H)
section
variable (CP:Nat->List V->EP->QV->HP->Prop)
noncomputable def nG(g:Nat)(d:gy)(Q:QV)(a:V->QV->(HP->Prop)->HP->Prop):List V->List V->HP->Prop
 | [],b,H=>d.J H/\∀c,H c=ag->Q (.d c) (H.J c<|.u g b)| v::r,b,H=>d.J H/\a v (λx H=>b.length<cE/\nG g d Q a r (b++[x]) H) (λH=>nG g d Q a r b H) H
mutual
noncomputable def aK:X->aA->EP->QV->HP->Prop
 | .p,_,_,_,_=>False| .e v,_,_,Q,H=>Q v H| .J i,ρ,_,Q,H=>∃v,ρ[i]?=aa (aa v)/\Q v H| .ao o C k,ρ,E,Q,H=>aK o ρ E (Nq C k Q) H| .ak o i,ρ,E,Q,H=>aK o ρ E (λa H=>aK i ρ E (FW a Q) H) H| .q g o w hi,ρ,E,Q,H=>aK o ρ E (λa H=>aK w ρ E (λl H=>aK hi ρ E (zi g a l Q) H) H) H| .aS g p l r,ρ,E,Q,H=>aK l ρ E (λa H=>aK r ρ E (FU g p a Q) H) H| .fg x,ρ,E,Q,H=>aK x ρ E (λv H=>∃i,v= .x i/\Q (.x (-i)) H) H| .j x,ρ,E,Q,H=>aK x ρ E (λv H=>∃b,ka H v b/\Q (.e<|!b) H) H| .cU a xs,ρ,E,Q,H=>tu a xs ρ E Q H| .U l p r,ρ,E,Q,H=>aK l ρ E (λa H=>aK r ρ E (FV p a Q) H) H| .d t a b,ρ,E,Q,H=>gz t ρ E (nE (aK a ρ E Q)<|aK b ρ E Q) H| .ax xs,ρ,E,Q,H=>fA xs ρ E (λh H=>Q (.U h) H) H| .u g xs,ρ,E,Q,H=>fA xs ρ E (zh g Q) H| .h g k,_,_,Q,H=>∀c,H c=ag->Q (.d c) (H.J c<|lu g k)| .w g k v,ρ,E,Q,H=>aK k ρ E (λa H=>aK v ρ E (λb H=>∃s,a= .z s/\∀c,H c=ag->Q (.d c) (H.J c<|.a g [(s,b)])) H) H| .aN f xs,ρ,E,Q,H=>fA xs ρ E (λh H=>CP f h E Q H) H| .aT C f n xs,ρ,E,Q,H=>fA xs ρ E (λh H=>∀a,H a=ag->CP f (.d a::h) E (λr H=>r= .f/\Q (.d a) H) (H.J a<|.b C<|oF n ag)) H| .s xs,ρ,E,Q,H=>fA xs ρ E (λh H=>∀a d,H a=ag->H d=ag->a≠d->Q (.d a) (H.J a<|.f af d h)) H| .I o C f xs,ρ,E,Q,H=>aK o ρ E (Ce C λv H=>fA xs ρ E (λh H=>CP f (v::h) E Q H) H) H| .bi b xs,ρ,E,Q,H=>fA xs ρ E (Nr b Q) H| .bm m o xs,ρ,E,Q,H=>aK o ρ E (λv H=>jR H m v/\fA xs ρ E (Cd m v Q) H) H
 | .c g u i y q,ρ,E,Q,H=>aK y ρ E (λv H=>∃j e,lr H v j e/\
  nG g j Q (λv K A H=>gZ q (ρ.set i (aa v)) (λz z=>False) (nE (aK u (ρ.set i (aa v)) (λz z=>False) K) A) af H) e [] H) H
noncomputable def fA:XL->aA->EP->(List V->HP->Prop)->HP->Prop
 | .I,_,_,Q,H=>Q [] H| .u x r,ρ,E,Q,H=>aK x ρ E (λv H=>fA r ρ E (λa H=>Q (v::a) H) H) H
noncomputable def tu:Bool->XL->aA->EP->QV->HP->Prop
 | _, .I,_,_,_,_=>False| a, .u x r,ρ,E,Q,H=>aK x ρ E (FT r.e a (tu a r ρ E Q) Q) H
noncomputable def gz:B->aA->EP->(Bool->HP->Prop)->HP->Prop
 | .ah x,ρ,E,K,H=>aK x ρ E (FX K) H| .j b,ρ,E,K,H=>gz b ρ E (λc H=>K (!c) H) H| .aB bs,ρ,E,K,H=>gZ bs ρ E K af H| .cQ bs,ρ,E,K,H=>gZ bs ρ E K ai H| .d t a b,ρ,E,K,H=>gz t ρ E (nE (gz a ρ E K)<|gz b ρ E K) H| .c l f m e r,ρ,E,K,H=>aK l ρ E (λa H=>aK m ρ E (λb H=>∃x,cg H f a b x/\(x=ai->K ai H)/\(x=af->aK r ρ E (λc H=>∃d,cg H e b c d/\K d H) H)) H) H
noncomputable def gZ:BL->aA->EP->(Bool->HP->Prop)->Bool->HP->Prop
 | .I,_,_,K,d,H=>K d H| .u b r,ρ,E,K,d,H=>gz b ρ E (FR d (gZ r ρ E K d) K) H
end
structure bA where
 nx:aA->HP->Prop
 br:aA->HP->Prop
 a:V->HP->Prop
 ex:aA->List V->HP->Prop
noncomputable def iF(a:List V)(n:Nat):aA:=a.map aa++oF n ag
noncomputable def bA.e(E:EP)(Q:QV):bA:=⟨λz H=>Q .f H,λz z=>False,Q,λz l H=>E l H⟩
noncomputable def wN(ρ:aA)(b:List Nat)(l:List V):aA:=@gq Nat (λz=>aA->List V->aA) (λρ z=>ρ) (λi z ih ρ l=>@gq V (λz=>aA) ρ (λv a z=>ih (ρ.set i<|aa v) a) l) b ρ l
noncomputable def oO:T->V->aA->EP->(aA->HP->Prop)->HP->Prop
 | .J i,v,ρ,_,K,H=>K (ρ.set i<|aa v) H| .ao o C k,v,ρ,E,K,H=>aK CP o ρ E (λa H=>∃c d,a= .d c/\H c=aa (.b C d)/\K ρ (H.J c<|.b C<|d.set k<|aa v)) H| .ak o i,v,ρ,E,K,H=>aK CP o ρ E (λa H=>aK CP i ρ E (λb H=>∃f,j9 H a b v f/\K ρ f) H) H| .U e,v,ρ,_,K,H=>∃l,v= .U l/\l.length=e.length/\K (wN ρ e l) H
noncomputable def FY:It->aA->EP->(gy->List V->HP->Prop)->HP->Prop
 | .u x,ρ,E,K,H=>aK CP x ρ E (λv H=>∃d c,lr H v d c/\K d c H) H| .a x,ρ,E,K,H=>aK CP x ρ E (λv H=>∃n,v= .x n/\gK n/\K .b (eQ 0 n) H) H| .b x y,ρ,E,K,H=>aK CP x ρ E (λv H=>aK CP y ρ E (λw H=>∃a b,v= .x a/\w= .x b/\gK a/\gK b/\K .b (eQ a b) H) H) H| .d x,ρ,E,K,H=>aK CP x ρ E (λv H=>∃a g l,v= .d a/\H a=aa (.u g l)/\K (.u a<|.u g l) l.reverse H) H| .c x,ρ,E,K,H=>aK CP x ρ E (λv H=>∃a g f,v= .d a/\H a=aa (.a g f)/\K (.u a<|.a g f) (f.map λe=> .U [.z e.1,e.2]) H) H
noncomputable def zj(c:aA->(Bool->HP->Prop)->HP->Prop)(a:aA->bA->HP->Prop)(P:bA):Nat->aA->HP->Prop
 | 0,_,_=>False| n+1,ρ,H=>c ρ (λb H=>(b=af->a ρ {P with nx:=zj c a P n,br:=P.nx} H)/\(b=ai->P.nx ρ H)) H
noncomputable def uI(b:gy)(c:V->aA->(aA->HP->Prop)->HP->Prop)(a:aA->bA->HP->Prop)(P:bA):List V->aA->HP->Prop
 | [],ρ,H=>b.J H/\P.nx ρ H| v::r,ρ,H=>b.J H/\c v ρ (λρ H=>a ρ {P with nx:=uI b c a P r,br:=P.nx} H) H
mutual
noncomputable def FZ:S->aA->bA->HP->Prop
 | .p,_,_,_=>False| .f x,ρ,P,H=>aK CP x ρ (P.ex ρ) (λz H=>P.nx ρ H) H| .c t x,ρ,P,H=>aK CP x ρ (P.ex ρ) (λv H=>oO CP t v ρ (P.ex ρ) P.nx H) H| .m i j x,ρ,P,H=>∃a,ρ[i]?=aa (aa a)/\aK CP x ρ (P.ex ρ) (λb H=>∃c,j8 H 0 j a b (.ah c)/\P.nx (ρ.set i<|aa c) H) H| .n o i j x,ρ,P,H=>aK CP o ρ (P.ex ρ) (λa H=>aK CP i ρ (P.ex ρ) (λb H=>(∃r,a=V.d r)/\∃f,fh H a b f/\aK CP x ρ (P.ex ρ) (λy H=>∃c,j8 H 0 j f y (.ah c)/\∃k,j9 H a b c k/\P.nx ρ k) H) H) H| .d t a b,ρ,P,H=>gz CP t ρ (P.ex ρ) (nE (aw a ρ P)<|aw b ρ P) H| .k t b,ρ,P,H=>∃n,zj (λρ K H=>gz CP t ρ (P.ex ρ) K H) (λρ P H=>aw b ρ P H) P n ρ H| .g t m b,ρ,P,H=>FY CP m ρ (P.ex ρ) (λg e H=>uI g (λv ρ K H=>oO CP t v ρ (P.ex ρ) K H) (λρ P H=>aw b ρ P H) P e ρ H) H| .e x,ρ,P,H=>aK CP x ρ (P.ex ρ) P.a H| .j x,ρ,P,H=>aK CP x ρ (P.ex ρ) (λv H=>∃a d l,v= .d a/\H a=aa (.f af d l)/\P.ex ρ l (H.hZ a)) H| .q b h,ρ,P,H=>aw b ρ {P with ex:=λρ z H=>aw h ρ P H} H| .l b i h,ρ,P,H=>aw b ρ {P with ex:=λρ l H=>uG l=ai/\∀a d,H a=ag->H d=ag->a≠d->aw h (ρ.set i<|aa<|.d a) ⟨λz z=>False,λz z=>False,λz z=>False,λρ l H=>uG l=af/\P.ex (ρ.set i ag) l H⟩ (H.J a<|.f ai d l)} H| .r,ρ,P,H=>P.br ρ H| .s,ρ,P,H=>P.nx ρ H
noncomputable def aw:SL->aA->bA->HP->Prop
 | .I,ρ,P,H=>P.nx ρ H| .u s r,ρ,P,H=>FZ s ρ {P with nx:=λρ H=>aw r ρ P H} H
end
end
end
section
open PySem PySem.W PyProof.Rows PySem.Calls
noncomputable abbrev PD:Type:=aG×Nat×(Nat->List Str)×(Nat->Bool)
noncomputable abbrev PD.u(x:PD):Heap:=x.1
noncomputable abbrev PD.I(x:PD):Nat:=x.2.1
noncomputable abbrev PD.e(x:PD):Nat->List Str:=x.2.2.1
noncomputable abbrev PD.J(x:PD):Nat->Bool:=x.2.2.2
noncomputable def aW(h:aG)(x:V):aj->Prop:=@V.rec (λz=>aj->Prop) (λz=>List aj->Prop) (λv=>v= .none) (λb v=>v= .bool b) (λi v=>∃t,v= .int i t) (λs v=>∃t,v= .str s t) (λl ih v=>∃a c,v= .ref a/\h.IsTuple a (k7 c)/\ih c) (λa v=>v= .ref a) (λc=>c=[]) (λz z ih d c=>∃w r,c=w::r/\ih w/\d r) x
noncomputable def ba(h:aG)(x:List V):List aj->Prop:=@V.rec_1 (λz=>aj->Prop) (λz=>List aj->Prop) (λv=>v= .none) (λb v=>v= .bool b) (λi v=>∃t,v= .int i t) (λs v=>∃t,v= .str s t) (λl ih v=>∃a c,v= .ref a/\h.IsTuple a (k7 c)/\ih c) (λa v=>v= .ref a) (λc=>c=[]) (λz z ih d c=>∃w r,c=w::r/\ih w/\d r) x
noncomputable def e8(h c:aG):Prop:=∀b o a n,h.get? b=aa o->o.cls= .type "tuple"->o.data= .seq a n->c.get? b=aa o
theorem e8.J{h a:aG}(k:∀b o,h.get? b=aa o->a.get? b=aa o):e8 h a:=λb o z z e z z=>k b o e
theorem e8.I(h:aG):e8 h h:=λz z z z e z z=>e
theorem e8.u{g f a:aG}(x:e8 g f)(y:e8 f a):e8 g a:=λb o h n e c d=>y b o h n (x b o h n e c d) c d
theorem e8.U{h f:aG}(k:e8 h f){a:Nat}{b:Array aj}(x:h.IsTuple a b):f.IsTuple a b:=
 bR x λo e c w=>o1 w λn d=>M0 o (k _ _ _ _ e c d) c n d
theorem aW.U{h b:aG}(k:e8 h b){x:V}:∀{v:aj},aW h x v->aW b x v:=
 @V.rec (λx=>∀{v:aj},aW h x v->aW b x v) (λx=>∀{v:List aj},ba h x v->ba b x v) (λe=>e) (λz z e=>e) (λz z e=>e) (λz z e=>e)
  (λl ih z e=>bG e λa i g f d=>b7 a i g (k.U f)<|ih d) (λz z e=>e) (λe=>e) (λz z ih c z e=>bG e λw r g f d=>b7 w r g (ih f)<|c d) x
theorem ba.U{h a:aG}(k:e8 h a){x:List V}:∀{v:List aj},ba h x v->ba a x v:=by induction x with| nil=>exactλe=>e| cons x l ih=>exactλe=>bG e λw r d c b=>b7 w r d (aW.U k c)<|ih b
section
variable {h:aG} {x:List V} {v:List aj}
theorem ba.dN(e:ba h x v):v.length=x.length:=by induction x generalizing v with| nil=>exact congrArg pO e| cons x l ih=>exact bG e λw r z y a=>(congrArg pO z).trans<|congrArg (·+1)<|ih a
theorem ba.eM{i:Nat}{y:V}(e:ba h x v)(q:x[i]?=aa y):∃w,v[i]?=aa w/\aW h y w:=by
 induction x generalizing v i with
 | nil=>exact a9 q
 | cons x l ih=>
  refine bG e λw r z d c=>?_;induction i with
  | zero=>exact⟨w,ae z rfl,bP q▸d⟩| succ i _=>exact au (ih c q) λu b a=>⟨u,ae z b,a⟩
theorem ba.hY(e:ba h x v)(q:ba h y u):ba h (x++y) (v++u):=by induction x generalizing v with| nil=>exact ae (show v=[] from e) q| cons x l ih=>exact bG e λw r z b a=>b7 w _ (congrArg (·++u) z) b<|ih a
theorem ba.eN{x:V}{v:aj}(e:aW h x v):ba h [x] [v]:=b7 v [] rfl e rfl
theorem ba.I:ba h [] []:=rfl
theorem ba.u{x:V}{v:aj}{l:List V}{r:List aj}(e:aW h x v)(q:ba h l r):ba h (x::l) (v::r):=b7 v r rfl e q
theorem ba.zk(n:Nat)(e:ba h x v):ba h (x.take n) (v.take n):=by
 induction x generalizing v n with
 | nil=>exact ae (show v=[] from e)<|ae abH<|ae abH ba.I
 | cons x l ih=>induction n with| zero=>exact ba.I| succ n _=>exact bG e λw r z b a=>b7 w _ (congrArg (LG<|n+1) z) b<|ih n a
theorem ba.nI(n:Nat)(e:ba h x v):ba h (x.drop n) (v.drop n):=by
 induction x generalizing v n with
 | nil=>exact ae (show v=[] from e)<|ae abG<|ae abG ba.I
 | cons x l ih=>induction n with| zero=>exact e| succ n _=>exact bG e λw r z b a=>ae z<|ih n a
theorem ba.J(i:Nat){y:V}{w:aj}(e:ba h x v)(q:aW h y w):ba h (x.set i y) (v.set i w):=by
 induction x generalizing v i with
 | nil=>exact ae (show v=[] from e) ba.I
 | cons x l ih=>
  refine bG e λu r z b a=>ae z ?_;induction i with
  | zero=>exact ba.u q a| succ i _=>exact ba.u b<|ih i a
end
theorem aW.ib(r:aW h (.e b) u):u= .bool b:=r
theorem aW.e{h:aG}{b:Int}{u:aj}(r:aW h (.x b) u):∃t,u= .int b t:=r
theorem aW.is(r:aW h (.z b) u):∃t,u= .str b t:=r
theorem aW.I{h:aG}{b:Nat}{u:aj}(r:aW h (.d b) u):u= .ref b:=r
theorem aW.J{h:aG}{l:List V}{u:aj}(r:aW h (.U l) u):∃a b,u= .ref a/\h.IsTuple a (k7 b)/\ba h l b:=r
noncomputable def fJ(h:aG)(l:List (a×V)):List (a×aj)->Prop:=@gq (a×V) (λz=>List (a×aj)->Prop) (λb=>b=[]) (λx z ih b=>∃w r,b=w::r/\x.1=w.1/\aW h x.2 w.2/\ih r) l
theorem fJ.U{a:Type}{h b:aG}(k:e8 h b){x:List (a×V)}{v:List (a×aj)}(e:fJ h x v):fJ b x v:=by induction x generalizing v with| nil=>exact e| cons x l ih=>exact fV e λw r g f d c=>pZ w r g f (aW.U k d)<|ih c
theorem fJ.dN(e:fJ h x v):v.length=x.length:=by induction x generalizing v with| nil=>exact congrArg pO e| cons x l ih=>exact fV e λw r z y y b=>(congrArg pO z).trans<|congrArg (·+1)<|ih b
section
variable {prog:k8} {w:l9} (pd:PD)
noncomputable def ia(h:aG)(d:Nat)(a:List Str)(b:List (Option V)):Prop:=
 b.length=a.length/\∃m,h.Ns1 d m/\
  (∀(k:Nat) (nm:Str),a[k]?=aa nm->match(b[k]?).join with | some x=>∃v,m nm=aa v/\aW h x v | none=>m nm=ag)/\
  (∀nm:Str,nm∉a->m nm=ag)
noncomputable def gA(h:aG)(a:Nat)(b:Array aj):Prop:=∃o,h.get? a=aa o/\o.cls= .type "list"/\(∃n,o.data= .seq b n)/\o.dict=ag/\o.slots=#[]
theorem gA.J{h:aG}{a:Nat}{c:Array aj}(x:gA h a c):∃n,h.get? a=aa {cls:= .type "list",dict:=ag,data:= .seq c n,slots:=#[]}:=by exact FC x λo e g b f d=>o1 b λn b=>⟨n,e.trans<|congrArg aa<|ae g.symm<|ae b.symm<|ae f.symm<|ae d.symm rfl⟩
theorem gA.u{h:aG}{a:Nat}{b:Array aj}(x:gA h a b):h.IsList a b:=ji x λo e c d z=>bT o e c d
noncomputable def rK(t:Nat):Array Value:=#[.ref t, .none, .none, .none, .bool ai, .none]
noncomputable def nH(prog:k8)(w:l9)(h:aG)(a:Nat):cb->Prop
 | .u _ l=>∃e,gA h a (k7 e)/\ba h l e/\l.length<=cE| .a _ c=>∃b,h.DictOf (sQ prog w) a b/\fJ h c b/\c.length<=cE| .e _ c=>∃b,h.DictOf (pP prog w) a b/\fJ h c b/\c.length<=cE| .c _ c=>∃xs:List (List Int×hF×aj),h.DictOfH (Bd<|pP prog w) a xs/\fJ h c (xs.map λx=>(x.1,x.2.2))/\c.length<=cE| .b C g=>C≠0/\1<=a/\h.get? a=aa (yI C<|a - 1)/\ia h (a - 1) (pd.e C) g| .j l=>∃e,pd.u.IsList a (k7 e)/\ba pd.u l e/\l.length<=cE| .f fr d g=>(∃f,h.get? a=aa ⟨.ref pd.I,aa d, .fields f,#[]⟩/\f.size=6/\f[2]?=aa .none/\(fr=af->∃t,f=rK t))/\ia h d (pd.e 0) (g.map aa)
end
noncomputable def gj(a:Nat)(c:cb)(b:Nat):Prop:=@cb.casesOn (λz=>Prop) c (λz z=>b=a\/False) (λz z=>b=a\/False) (λz z=>b=a\/False) (λz z=>b=a\/False) (λz z=>b=a\/b+1=a) (λz d z=>b=a\/b=d) λz=>False
noncomputable def ly(H:HP)(b a:Nat):Prop:=∃c,H a=aa c/\gj a c b
noncomputable def fp(H:HP)(b:Nat):Prop:=∃a,ly H b a
theorem ia.U{h c:aG}{d:Nat}{a:List Str}{b:List (Option V)}(k:e8 h c)(l:∀o,h.get? d=aa o->c.get? d=aa o)(x:ia h d a b):ia c d a b:=by
 refine BM x λr m g f p=>wC r m (g.at l) (λe nm n=>?_) p;have q:=f e nm n;clear f g;revert q;cases(b[e]?).join with
 | none=>exact id| some y=>exactλq=>au q λv j i=>⟨v,j,i.U k⟩
theorem ia.I{h:aG}{d:Nat}{a:List Str}{e:List (Option V)}(x:ia h d a e):∃o b n,h.get? d=aa o/\o.data= .dict b n:=
 BM x λz m c z z=>fW c λo b n c f z=>lq o b n c f
noncomputable def wO(o:dw):Prop:=o.cls≠ .type "tuple"\/∃a n,o.data= .dict a n
theorem Gb{K:Type} [DecidableEq K]{c:KeyKind prog w K}{h d:aG}{a:Nat}{b:List (K×aj)}(x:h.DictOf c a b)(k:∀o,h.get? a=aa o->d.get? a=aa o):d.DictOf c a b:=hW x λo f n e r=>lq o f n (k o e) r
theorem Gd{K:Type} [DecidableEq K]{d:KeyKind prog w K}{h:aG}{a b:Nat}{c:List (K×aj)}(x:h.DictOf d a c)(f:b=a\/False):∃o,h.get? b=aa o/\wO o:=
 f.elim (λq=>hW x λo y y e r=>⟨o,q▸e, .inl λz=>absurd (r.1.1.symm.trans z)<|by decide⟩) ER
theorem nH.U{prog:k8}{w:l9}{pd:PD}{h q:aG}{a:Nat}{c:cb}(k:e8 h q)(i:∀b o,gj a c b->h.get? b=aa o->q.get? b=aa o)(x:nH pd prog w h a c):nH pd prog w q a c:=by induction c with| u _ l=>exact bR x λD z g p=>bT D (au z λo e r=>aM o (i _ _ (.inl rfl) e) r) (g.U k) p| a _ B=>exact bR x λm z g p=>bT m (Gb z λo=>i _ o<|.inl rfl) (g.U k) p| e _ B=>exact bR x λm z g p=>bT m (Gb z λo=>i _ o<|.inl rfl) (g.U k) p| c _ B=>refine bR x λxs z g p=>bT xs ?_ (g.U k) p;obtain⟨o,s,P,t,J,I,H,G,F⟩:=z;exact⟨o,s,P,i _ _ (.inl rfl) t,J,I,H,λy N=>fW (G y N) λL M n K A v=>⟨L,M,n,k _ _ _ _ K A v.1,A,v⟩,F⟩| b C E=>exact⟨x.1,x.2.1,i _ _ (.inl rfl) x.2.2.1,x.2.2.2.U k λo ho=>i _ o (.inr<|kZ x.2.1) ho⟩| f fr d E=>exact⟨au x.1 λO t g=>aM O (i _ _ (.inl rfl) t) g,x.2.U k λo ho=>i _ o (.inr rfl) ho⟩| j l=>exact x
theorem Ga(x:ia h a c d)(q:b=a):∃o,h.get? b=aa o/\wO o:=hW x.I λo g n f e=>⟨o,q▸f, .inr ⟨g,n,e⟩⟩
theorem nH.uJ(x:nH pd prog w h a c){b:Nat}(g:gj a c b):∃o,h.get? b=aa o/\wO o:=by induction c with| u _ l=>exact g.elim (λq=>au x λn z y=>bR z λo e r y=>⟨o,q▸e, .inl λz=>absurd (r.symm.trans z)<|by decide⟩) ER| a _ k=>exact au x λi z y=>Gd z g| e _ k=>exact au x λi z y=>Gd z g| c _ k=>exact au x λxs z y=>g.elim (λq=>hW z λo y y e r=>⟨o,q▸e, .inl λz=>absurd (r.1.1.symm.trans z)<|by decide⟩) ER| b C m=>exact g.elim (λq=>⟨_,q▸x.2.2.1, .inl λz=>nomatch (show q7 C= .type "tuple" from z)⟩) λq=>Ga x.2.2.2<|Nat.eq_sub_of_add_eq q| f fr d m=>exact g.elim (λq=>au x.1 λp e y=>⟨_,q▸e, .inl λz=>nomatch (show q7 pd.I= .type "tuple" from z)⟩) λq=>Ga x.2 q| j l=>exact g.elim
noncomputable abbrev aF:Type:=k8×l9×PD×eK×OsState×(Str->Option aj)×(Str->Option aj)
noncomputable abbrev aF.e(x:aF):Program:=x.1
noncomputable abbrev aF.w(x:aF):World:=x.2.1
noncomputable abbrev aF.I(x:aF):PD:=x.2.2.1
noncomputable abbrev aF.K(x:aF):Frag:=x.2.2.2.1
noncomputable abbrev aF.os(x:aF):OsState:=x.2.2.2.2.1
noncomputable abbrev aF.U(x:aF):Str->Option Value:=x.2.2.2.2.2.1
noncomputable abbrev aF.J(x:aF):Str->Option Value:=x.2.2.2.2.2.2
noncomputable abbrev aF.u(B:aF):Heap:=B.I.u
inductive aF.a(B:aF):Prop
 | mk (inK:B.K.In B.u)
  (g:B.u.Ns jN B.U)
  (b:B.u.Ns Be B.J)
  (builtins:∀x:Str,x≠"__name__"->B.J x=LI x)
  (nolimit:B.u.NoLimit)
  (nodigits:∃mc,B.u.Ns cStatics mc/\mc "sys.int_max_str_digits"=ag)
inductive bO(B:aF)(H:HP)(s:aq):Prop
 | mk (keep:B.u.StaysIn s.heap)
  (gens:s.gens=#[])
  (os:s.os=B.os)
  (cell:∀a c,H a=aa c->nH B.I B.e B.w s.heap a c)
  (new:∀b,fp H b->B.u.get? b=ag)
  (one:∀b a a',ly H b a->ly H b a'->a=a')
noncomputable def rJ(c:aG)(b:Nat)(o:dw):Prop:=∃a,c.get? b=aa {o with slots:=a}/\((∀d n,o.data≠ .dict d n)->a=o.slots)
theorem rJ.u{a:aG}{b:Nat}{o:dw}(e:a.get? b=aa o):rJ a b o:=(aM o.slots e λz=>rfl)
noncomputable def Nu(O:Nat->Prop)(H:HP)(h a:aG):Prop:=∀b o,h.get? b=aa o->¬fp H b->¬O b->rJ a b o
noncomputable def tw(H:HP)(h:aG)(e:HP)(d:aG):Prop:=∀a g c,H a=aa (.a g c)->∃b,e a=aa (.a g b)/\c.length<=b.length/\(b.length=c.length->b=c/\∀o,h.get? a=aa o->d.get? a=aa o)
theorem tw.I{H H':HP}{h c:aG}(x:∀a g b,H a=aa (.a g b)->H' a=aa (.a g b)/\∀o,h.get? a=aa o->c.get? a=aa o):tw H h H' c:=λa g b e=>(bT b ((x a g b e).1) (dC _) λz=>⟨rfl,(x a g b e).2⟩)
theorem tw.u{H m d:HP}{h j b:aG}(x:tw H h m j)(y:tw m j d b):tw H h d b:=λa g t e=>by refine bR (x a g t e) λi v l u=>bR (y a g i v) λc s k r=>(bT c s (aH l k) λq=>ay (u<|j4 (bJ (.I (.v 0)<|.v 1) (.I (.v 0)<|.v 2) (.u (.v 2)<|.v 1) rfl [] [_,_,_] k q)<|aD (.I (.v 0)<|.v 1) (.I (.v 0)<|.v 1) rfl [] [_,_] l) λf p=>?_);obtain rfl:=f;refine ay (r q) λf n=>?_;obtain rfl:=f;exact⟨rfl,λo z=>n o<|p o z⟩
inductive aV(B:aF)(O:Nat->Prop)(H:HP)(s:aq)(H':HP)(s':aq):Prop
 | mk (rep:bO B H' s')
  (evo:Nu O H s.heap s'.heap)
  (new:∀b,fp H' b->fp H b\/s.heap.get? b=ag)
  (tup:e8 s.heap s'.heap)
  (live:∀b o,s.heap.get? b=aa o->∃o',s'.heap.get? b=aa o')
  (dk:∀b o es n,s.heap.get? b=aa o->o.data= .dict es n->¬fp H b->∃o' es' n',s'.heap.get? b=aa o'/\o'.data= .dict es' n')
  (exk:∀a d vs,H a=aa (.f ai d vs)->H' a=aa (.f ai d vs))
  (dks:tw H s.heap H' s'.heap)
noncomputable abbrev cS(B:aF):=aV B λz=>False
theorem bO.uJ{B:aF}{H:HP}{s:aq}(R:bO B H s){b:Nat}(e:fp H b):∃o,s.heap.get? b=aa o/\wO o:=cm e λa c d ho=>(R.4 a c d).uJ ho
theorem bO.J{B:aF}{H:HP}{s:aq}(R:bO B H s){b:Nat}{o:dw}(a:fp H b)(e:s.heap.get? b=aa o):wO o:=au (R.uJ a) λd c q=>bP (c.symm.trans e)▸q
theorem bO.U{B:aF}{H:HP}{s:aq}(R:bO B H s){a:Nat}{c:cb}(e:H a=aa c):∃o,s.heap.get? a=aa o:=by
 have x:=R.4 a c e;induction c with
 | j l=>exact au x λb z y=>au z λo q y=>⟨o,R.1 _ _ q⟩| _=>exact au (x.uJ<|.inl rfl) λo q y=>⟨o,q⟩
theorem bO.u{B:aF}{H:HP}{s:aq}(R:bO B H s){b:Nat}(a:fp H b):∃o,s.heap.get? b=aa o:=au (R.uJ a) λo e z=>⟨o,e⟩
theorem bO.Cf{B:aF}{H:HP}{s:aq}(R:bO B H s){b:Nat}(n:¬fp H b)(a:B.u.get? b=ag):H b=none:=
 mq λc e=>by induction c with| j l=>exact au (R.4 b _ e) λd z y=>au z λo q y=>a9<|a.symm.trans q| _=>exact n<|cL b _ e<|.inl rfl
theorem bO.I{B:aF}{H:HP}{s:aq}(R:bO B H s){b:Nat}(a:s.heap.objs.size<=b):s.heap.get? b=ag/\¬fp H b/\B.u.get? b=none:=
 have h0:s.heap.get? b=none:=mq λo e=>LH.mpr a (sR e)
 ⟨h0,λq=>o1 (R.u q) λo e=>a9<|h0.symm.trans e,mq λo e=>a9<|h0.symm.trans<|R.1 _ _ e⟩
theorem bO.kH{B:aF}{H:HP}{s:aq}{C:Nat}{d:aG}(R:bO B H s)(e:e8 s.heap d)(x:∀b o,b≠C->s.heap.get? b=aa o->d.get? b=aa o)(g:¬fp H C)(h:B.u.get? C=ag):bO B H {s with heap:=d}:=
 ⟨λb o q=>x b o (λz=>a9<|h.symm.trans<|z▸q)<|R.1 b o q,R.2,R.3,λa c q=>(R.4 a c q).U e λb o i f=>x b o (λz=>g<|cL a c q<|z▸i) f,R.5,R.6⟩
theorem aV.I{B:aF}{O:Nat->Prop}{H:HP}{s:aq}(R:bO B H s):aV B O H s H s:=
 ⟨R,λb o e z z=> .u e,λb h=> .inl h, .I _,λb o e=>⟨o,e⟩,λb o a n e d z=>(lq o a n e d),λz z z e=>e, .I λz z z e=>⟨e,λz q=>q⟩⟩
theorem aV.U{B:aF}{O O':Nat->Prop}{H c:HP}{s a:aq}(S:aV B O H s c a)(k:∀b,O b->O' b):aV B O' H s c a:=⟨S.1,λb o e d ho=>S.2 b o e d λq=>ho<|k b q,S.3,S.4,S.5,S.6,S.7,S.8⟩
theorem aV.e{B:aF}{O:Nat->Prop}{H b:HP}{s a:aq}(S:cS B H s b a):aV B O H s b a:=S.U λz q=>q.elim
noncomputable def mv(H:HP)(s:aq)(b:Nat):Prop:=fp H b\/s.heap.get? b=ag
theorem aV.wQ{B:aF}{O O':Nat->Prop}{H d:HP}{s a:aq}(S:aV B (λb=>O b\/O' b) H s d a)(k:∀b,O' b->mv H s b):aV B O H s d a:=
 ⟨S.1,λb o e c ho=>S.2 b o e c λq=>q.elim ho λz=>(k b z).elim c λy=>absurd e<|ae y nofun,S.3,S.4,S.5,S.6,S.7,S.8⟩
theorem aV.Cg{B:aF}{O:Nat->Prop}{H c:HP}{s a:aq}(S:aV B O H s c a)(k:∀b,O b->mv H s b):cS B H s c a:=
 (S.U (O':=λb=>False\/O b) λz q=> .inr q).wQ k
theorem wR{B:aF}{O:Nat->Prop}{H d:HP}{s a:aq}(S:aV B O H s d a){b:Nat}(x:a.heap.get? b=ag):s.heap.get? b=none:=mq λo e=>o1 (S.5 b o e) λf c=>a9<|x.symm.trans c
theorem mv.j6{B:aF}{O:Nat->Prop}{H c:HP}{s a:aq}(S:aV B O H s c a){b:Nat}(x:mv c a b):mv H s b:=x.elim (S.3 b) λx=> .inr<|wR S x
theorem oQ{B:aF}{O:Nat->Prop}{H a:HP}{s c:aq}(S:aV B O H s a c){b:Nat}{o:dw}(e:s.heap.get? b=aa o)(n:¬fp H b):¬fp a b:=λq=>(S.3 b q).elim n λz=>a9<|z.symm.trans e
theorem aV.u{B:aF}{O:Nat->Prop}{H r g:HP}{s p f:aq}(S:aV B O H s r p)(U:aV B O r p g f):aV B O H s g f:=
 ⟨U.1,λb o e c ho=>au (S.2 b o e c ho) λy l k=>au (U.2 b _ l (oQ S e c) ho) λh w v=>aM h w λhd=>(v hd).trans (k hd),
  λb c=>(U.3 b c).elim (S.3 b) λq=> .inr<|wR S q,S.4.u U.4,λb o e=>o1 (S.5 b o e) λi x=>U.5 b i x,
  λb o u n e d c=>hW (S.6 b o u n e d c) λi j t l k=>U.6 b i j t l k (oQ S e c),λa d m e=>U.7 a d m (S.7 a d m e),S.8.u U.8⟩
theorem aV.iS{B:aF}{O:Nat->Prop}{H:HP}{s s':aq}(R:bO B H s)(k:∀b o,s.heap.get? b=aa o->s'.heap.get? b=aa o)(f:s'.gens=s.gens)(ho:s'.os=s.os):aV B O H s H s':=
 ⟨⟨λb o e=>k _ _<|R.1 b o e,f.trans R.2,ho.trans R.3,λa c e=>(R.4 a c e).U (.J k) λb o z q=>k b o q,R.5,R.6⟩,λb o e z z=> .u<|k _ _ e,λb h=> .inl h, .J k,λb o e=>⟨o,k _ _ e⟩,λb o g n e d z=>(lq o g n (k _ _ e) d),λz z z e=>e, .I λz z z e=>⟨e,λz q=>k _ _ q⟩⟩
theorem aV.uK{B:aF}{O:Nat->Prop}{H:HP}{s s':aq}{L:Nat}(R:bO B H s)(k:∀b o,b≠L->s.heap.get? b=aa o->s'.heap.get? b=aa o)(w:¬fp H L)(C:B.u.get? L=ag)
 (D:s.heap.get? L=ag\/O L) (hl:∀o,s.heap.get? L=aa o->(∃i,s'.heap.get? L=aa i/\∀l n,o.data= .dict l n->∃g p,i.data= .dict g p)/\∀r n,o.data= .seq r n->o.cls≠ .type "tuple") (A:s'.gens=s.gens) (ho:s'.os=s.os):aV B O H s H s':=by
 have v:e8 s.heap s'.heap:=λb o r n e c d=>k b o (λq=>by subst q;exact(hl o e).2 r n d c) e;have x:∀b o,B.u.get? b=aa o->b≠L:=λb o e q=>by rw [q,C] at e;exact a9 e
 refine⟨⟨λb o e=>k _ _ (x b o e)<|R.1 b o e,A.trans R.2,ho.trans R.3,λa c e=>(R.4 a c e).U v λb o j q=>k b o (λz=>w<|cL a c e<|z▸j) q,R.5,R.6⟩,λb o e j t=>?_,λb h=> .inl h,v,λb o e=>?_,λb o l n e d y=>?_,λy y y e=>e, .I λa y l e=>⟨e,λo q=>k a o (λz=>w<|cL a _ e<|.inl z.symm) q⟩⟩
 ·refine .u (k b o (λq=>?_) e);subst q;refine cO D (λq=>?_) λq=>?_
  ·rw [q] at e;exact a9 e
  ·exact t q
 ·by_cases q:b=L
  ·subst q;refine ay (hl o e) λm y=>?_;obtain⟨i,u,_⟩:=m;exact⟨i,u⟩
  ·exact⟨o,k b o q e⟩
 ·by_cases q:b=L
  ·subst q;refine ay (hl o e) λm y=>?_;obtain⟨i,u,f⟩:=m;exact o2 (f l n d) λg p E=>⟨i,g,p,u,E⟩
  ·exact⟨o,l,n,k b o q e,d⟩
theorem wU{H:HP}{a y:Nat}{c d:cb}{G:Prop}(h:(H.J a c) y=aa d)(k:y=a->c=d->G)(b:y≠a->H y=aa d->G):G:=
 if e:y=a then k e (bP<|(if_pos e).symm.trans h) else b e<|(if_neg e).symm.trans h
theorem uL{H:HP}{a y:Nat}{c:cb}(n:y≠a):(H.J a c) y=H y:=if_neg n
theorem Ci{H:HP}{a:Nat}{c:cb}:(H.J a c) a=aa c:=if_pos rfl
theorem nJ{H:HP}{a b y:Nat}{c:cb}{G:Prop}(h:ly (H.J a c) b y)(k:y=a->gj a c b->G)(g:y≠a->ly H b y->G):G:=
 au h λd hd ho=>wU hd (λq f=>k q<|by subst q;subst f;exact ho) λn e=>g n ⟨d,e,ho⟩
theorem Nx{H:HP}{a b:Nat}{c:cb}(h:gj a c b):ly (H.J a c) b a:=⟨c,Ci,h⟩
theorem Nw{H:HP}{a b y:Nat}{c:cb}(n:y≠a)(h:ly H b y):ly (H.J a c) b y:=au h λd e o=>⟨d,(uL n).trans e,o⟩
theorem tA{c:cb}(h:fp (H.J a c) b):fp H b\/gj a c b:=o1 h λy h=>nJ h (λz q=> .inr q) λz q=> .inl ⟨y,q⟩
theorem Nv{c g:cb}(e:H a=aa c)(f:∀b,gj a g b↔gj a c b)(b x:Nat):ly (H.J a g) b x↔ly H b x:=
 ⟨λh=>nJ h (λq z=>q▸⟨c,e,(f b).mp z⟩) λy z=>z,λh=>(Bb<|x=a).elim (λq=>by subst q;exact Nx<|(f b).mpr<|au h λd hd ho=>bP (hd.symm.trans e)▸ho) λq=>Nw q h⟩
theorem aV.oP{B:aF}{O:Nat->Prop}{H:HP}{s s':aq}{a:Nat}{c t:cb}(R:bO B H s)(e:H a=aa c)(J:∀d u,c≠ .f ai d u)(hd:∀g p,c= .a g p->∃l,t= .a g l/\p.length<l.length)(F:∀b,gj a t b↔gj a c b)
 (k:∀b o,¬gj a c b->s.heap.get? b=aa o->s'.heap.get? b=aa o) (x:nH B.I B.e B.w s'.heap a t) (K:s'.gens=s.gens) (ho:s'.os=s.os):aV B O H s (H.J a t) s':=by
 have m:=Nv e F;have r:∀b,fp (H.J a t) b->fp H b:=λb h=>o1 h λy q=>⟨y,(m b y).mp q⟩;have D:e8 s.heap s'.heap:=λb o w w f L hd=>k b o (λq=>(R.J (cL a c e q) f).elim (λz=>z L) λz=>o2 z λw w z=>s7<|hd.symm.trans z) f
 refine⟨⟨λb o f=>k b o (λq=>a9 ((R.5 b ⟨a,c,e,q⟩).symm.trans f)) (R.1 b o f),K.trans R.2,ho.trans R.3,λy d i=>?_,λb j=>R.5 b (r b j),λb y C q v=>R.6 b y C ((m b y).mp q) ((m b C).mp v)⟩,
  λb o f j w=> .u<|k b o (λq=>j ⟨a,c,e,q⟩) f,λb j=> .inl<|r b j,D,λb o f=>?_,λb o p n f d j=>(lq o p n (k b o (λq=>j ⟨a,c,e,q⟩) f) d),
  λy d u i=>(uL (y:=y) (a:=a) λq=>J d u (bP (e.symm.trans (q▸i)))).trans i,λy g p i=>?_⟩
 ·exact wU i (λq v=>by subst q;subst v;exact x) λn i=>(R.4 y d i).U D λb o j f=>k b o (λq=>n<|R.6 b y a ⟨d,i,j⟩ ⟨c,e,q⟩) f
 ·exact(Bb<|gj a c b).elim (λA=>au (x.uJ<|(F b).mpr A) λI M w=>⟨I,M⟩) λA=>⟨o,k b o A f⟩
 ·refine(Bb<|y=a).elim (λq=>?_) λn=>⟨p,(uL n).trans i,dC _,λw=>⟨rfl,λo q=>k y o (λz=>n<|R.6 y y a ⟨_,i, .inl rfl⟩ ⟨c,e,z⟩) q⟩⟩;subst q;exact au (hd g p<|bP<|e.symm.trans i) λl G E=>⟨l,Ci.trans<|congrArg aa G,jM E,λz=>absurd z<|Bc E⟩
theorem aV.J{B:aF}{O:Nat->Prop}{H:HP}{s s':aq}{a:Nat}{c:cb}(R:bO B H s)(k:∀b o,s.heap.get? b=aa o->s'.heap.get? b=aa o)(C:gj a c a)(p:∀b,gj a c b->s.heap.get? b=ag)
 (x:nH B.I B.e B.w s'.heap a c) (A:s'.gens=s.gens) (ho:s'.os=s.os):H a=ag/\aV B O H s (H.J a c) s':=by
 have t:H a=none:=mq λd e=>o1 (R.U e) λo D=>a9<|(p a C).symm.trans D;have i:∀{y d},H y=aa d->(H.J a c) y=aa d:=λg=>(uL λq=>a9<|t.symm.trans<|q▸g).trans g;have f:∀b,fp H b->gj a c b->False:=λb j q=>o1 (R.u j) λo e=>a9<|(p b q).symm.trans e
 refine⟨t,⟨λb o e=>k _ _ (R.1 b o e),A.trans R.2,ho.trans R.3,λy d g=>?_,λb j=>(tA j).elim (R.5 b) λq=>mq λo e=>a9 ((p b q).symm.trans (R.1 b o e)),λb y r q m=>?_⟩,
  λb o e w w=> .u (k _ _ e),λb j=>(tA j).imp id (p b), .J k,λb o e=>⟨o,k _ _ e⟩,λb o u n e d w=>⟨o,u,n,k _ _ e,d⟩,λy d E g=>i g, .I λy w u g=>⟨i g,λw q=>k _ _ q⟩⟩
 ·exact wU g (λq m=>by subst q;subst m;exact x) λw g=>(R.4 y d g).U (.J k) λb o w q=>k b o q
 ·exact nJ q (λz l=>nJ m (λv w=>z.trans v.symm) λw h=>(f b ⟨r,h⟩ l).elim) λw l=>nJ m (λw h=>(f b ⟨y,l⟩ h).elim) λw h=>R.6 b y r l h
theorem aV.F0{B:aF}{O:Nat->Prop}{H d:HP}{s c a:aq}(S:aV B O H s d c)(k:∀b o,c.heap.get? b=aa o->a.heap.get? b=aa o)(e:a.gens=c.gens)(ho:a.os=c.os):aV B O H s d a:=
 S.u (aV.iS S.1 k e ho)
structure aI where
 a:List (Str×gU)
 b:List (Str×Nat)
 hs:Bool
noncomputable def aI.J(Γ:aI):Bool:=(Γ.b.map (·.1)).Nodup&&(Γ.b.map (·.2)).Nodup&&Γ.b.all λx=>Γ.a.lookup x.1==aa .local||Γ.a.lookup x.1==aa .cell||Γ.a.lookup x.1==aa .free
noncomputable def rL(h:aG)(a:Option V)(z:Option aj):Prop:=∀v,a=aa v->∃u,z=aa u/\aW h v u
theorem rL.U{h b:aG}(k:e8 h b){a:Option V}{z:Option aj}(x:rL h a z):rL b a z:=λv e=>au (x v e) λu q r=>aM u q<|r.U k
inductive g7(B:aF)(Γ:aI)(env:Env)(ρ:aA)(H:HP)(h:aG):Prop
 | mk (ok:Γ.J=af)
  (names:env.scope.names=Γ.a)
  (kind:env.scope.kind= .function)
  (glob:env.globals=jN)
  (blt:env.builtins=Be)
  (loc:∃m,h.Ns env.locals m/\∀x i,(x,i)∈Γ.b->Γ.a.lookup x=aa .local->rL h (ρ[i]?).join (m x))
  (cel:∀x i,(x,i)∈Γ.b->Γ.a.lookup x=aa .cell\/Γ.a.lookup x=aa .free->∃c z,env.cells.lookup x=aa c/\h.IsCell c z/\¬fp H c/\B.u.get? c=ag/\rL h (ρ[i]?).join z)
  (nfp:¬fp H env.locals)
  (nb:B.u.get? env.locals=ag)
  (apart:∀x y c,env.cells.lookup x=aa c->env.cells.lookup y=aa c->x=y)
  (celq:∀x c,env.cells.lookup x=aa c->(∃z,h.IsCell c z)/\¬fp H c)
noncomputable def gC(a:Env)(b:Nat):Prop:=b=a.locals\/∃x,a.cells.lookup x=aa b
theorem Cj{B:aF}{O:Nat->Prop}{H a:HP}{s c:aq}(S:aV B O H s a c){b:Nat}{o:dw}(e:s.heap.get? b=aa o)(n:¬fp H b):¬fp a b:=oQ S e n
theorem g7.J{B:aF}{Γ:aI}{a:Env}{ρ:aA}{H u:HP}{h e:aG}(x:g7 B Γ a ρ H h)(l:e8 h e)(v:∀m,h.Ns a.locals m->e.Ns a.locals m)(p:∀n c z,a.cells.lookup n=aa c->h.IsCell c z->¬fp H c->e.IsCell c z)
 (g:∀b o,h.get? b=aa o->¬fp H b->¬fp u b):g7 B Γ a ρ u e:=
 ⟨x.1,x.2,x.3,x.4,x.5,au x.6 λm j hl=>aM m (v m j) λy i d k=>(hl y i d k).U l,λy i d k=>iC (x.7 y i d k) λc z t s r C A=>jQ c z t (p y c z t s r) (au s λf q w=>g c f q r) C (A.U l),
  au x.6 λm j w=>hW j λo w w q w=>g _ o q x.8,x.9,x.10,λy c d=>⟨o1 (x.11 y c d).1 λz q=>⟨z,p y c z d q (x.11 y c d).2⟩,o1 (x.11 y c d).1 λz q=>au q λf q w=>g c f q (x.11 y c d).2⟩⟩
theorem Ny{B:aF}{O:Nat->Prop}{H h:HP}{s a:aq}(S:aV B O H s h a)(k:∀b o,O b->s.heap.get? b=aa o->∃f,o.data= .fields f){c:Nat}{z:Option aj}(x:s.heap.IsCell c z)(n:¬fp H c):a.heap.IsCell c z:=
 au x λo e d=>au (S.2 c o e n λq=>o1 (k c o q e) λf q=>BK<|q.symm.trans d) λi g y=>aM _ g d
theorem Nz{B:aF}{O:Nat->Prop}{H i:HP}{s a:aq}(S:aV B O H s i a)(k:∀b o,O b->s.heap.get? b=aa o->∃c,o.data= .fields c){L:Nat}{m:Str->Option aj}(x:s.heap.Ns L m)(n:¬fp H L):a.heap.Ns L m:=
 fW x λo f g e d r=>au (S.2 L o e n λq=>o1 (k L o q e) λc q=>hV<|q.symm.trans d) λj h z=>mj _ f g h d r
theorem g7.I{B:aF}{Γ:aI}{a:Env}{ρ:aA}{O:Nat->Prop}{H H':HP}{s d:aq}(x:g7 B Γ a ρ H s.heap)(S:aV B O H s H' d)(k:∀b o,O b->s.heap.get? b=aa o->∃h,o.data= .fields h):g7 B Γ a ρ H' d.heap:=
 x.J S.4 (λm g=>Nz S k g x.8) (λn c z y f e=>Ny S k f e) λb o=>oQ S
theorem g7.u{B:aF}{Γ:aI}{a:Env}{ρ:aA}{H d:HP}{s c:aq}(x:g7 B Γ a ρ H s.heap)(S:cS B H s d c):g7 B Γ a ρ d c.heap:=x.I S λb o q=>q.elim
noncomputable def mw(B:aF)(H:HP)(h:aG)(l:List Env):Prop:=∀a∈l,a.scope.kind≠ .module/\a.frame=aa a.locals/\∃o b n,h.get? a.locals=aa o/\o.data= .dict b n/\B.u.get? a.locals=ag/\¬fp H a.locals
theorem mw.u{B:aF}{O:Nat->Prop}{H h:HP}{s e:aq}{l:List Env}(x:mw B H s.heap l)(S:aV B O H s h e):mw B h e.heap l:=λa m=>by obtain⟨k,t,o,p,n,g,r,q,f⟩:=x a m;exact hW (S.6 a.locals o p n g r f) λi b j d c=>⟨k,t,i,b,j,d,c,q,Cj S g f⟩
theorem mw.I{B:aF}{H:HP}{h:aG}:∀{l:List Env},mw B H h l->h.FunFrames B.u l:=by
 intro b;induction b with
 | nil=>intro _;exact trivial| cons a l ih=>intro x;obtain⟨k,i,o,m,n,g,f,d,p⟩:=x a<|.head _;exact⟨k,(pZ a.locals o i d g (λj q=>by replace q:=f▸q;exact M4 q)),ih λe c=>x e<|.tail _ c⟩
inductive nK(B:aF)(A:bW)(k N:Nat)(H:HP)(h:aG):Prop
 | mk (fr:∃l,A.frames=aa l/\mw B H h l)
  (depth:A.depth+3*k<=900+N)
  (units:A.units+100*k<=9000+50*N)
  (hnd:A.handled=ag\/∃a d vs,A.handled=aa (.ref a)/\H a=aa (.f ai d vs))
theorem nK.u{B:aF}{O:Nat->Prop}{A:bW}{k N:Nat}{H c:HP}{s b:aq}(x:nK B A k N H s.heap)(S:aV B O H s c b):nK B A k N c b.heap:=by exact au x.1 λl e f=>⟨(aM l e<|f.u S),x.2,x.3,x.4.imp id λz=>hW z λa d g e q=>(lq a d g e<|S.7 _ _ _ q)⟩
theorem nK.up{B:aF}{A:bW}{k:Nat}{H:HP}{h:aG}(x:nK B A k 0 H h):nK B A k 1 H h:=⟨x.1,by have:=x.2;exact aD (.I (.a (.v 0)<|.m 3<|.v 1)<|.a (.n 900)<|.n 1) (.I (.a (.v 0)<|.m 3<|.v 1)<|.a (.n 900)<|.n 0) rfl [] [_,_] this,by have:=x.3;exact aD (.I (.a (.v 0)<|.m 100<|.v 1)<|.a (.n 9000)<|.m 50<|.n 1) (.I (.a (.v 0)<|.m 100<|.v 1)<|.a (.n 9000)<|.m 50<|.n 0) rfl [] [_,_] this,x.4⟩
theorem Ge(A:bW)(C:Nat)(a:List aj):(A.under<|.builtin "type.__call__" ⟨.ref C::a,[]⟩).frames=A.frames/\(A.under<|.builtin "type.__call__" ⟨.ref C::a,[]⟩).depth=A.depth+1/\(A.under<|.builtin "type.__call__" ⟨.ref C::a,[]⟩).units=A.units+1/\(A.under<|.builtin "type.__call__" ⟨.ref C::a,[]⟩).handled=A.handled:=by obtain⟨hd,d,fr,b,u⟩:=A;exact⟨rfl,rfl,rfl,rfl⟩
theorem nK.e{B:aF}{A:bW}{k:Nat}{H:HP}{h:aG}{C:Nat}{a:List aj}(x:nK B A k 0 H h):nK B (A.under<|.builtin "type.__call__" ⟨.ref C::a,[]⟩) k 1 H h:=by exact qa (Ge A C a) λe d c b=>⟨by refine ae e ?_;exact x.1,by have:=x.2;exact bJ (.I (.a (.v 0)<|.m 3<|.v 1)<|.a (.n 900)<|.n 1) (.u (.v 0)<|.a (.v 2)<|.n 1) (.I (.a (.v 2)<|.m 3<|.v 1)<|.a (.n 900)<|.n 0) rfl [] [_,_,_] d this,by have:=x.3;exact bJ (.I (.a (.v 0)<|.m 100<|.v 1)<|.a (.n 9000)<|.m 50<|.n 1) (.u (.v 0)<|.a (.v 2)<|.n 1) (.I (.a (.v 2)<|.m 100<|.v 1)<|.a (.n 9000)<|.m 50<|.n 0) rfl [] [_,_,_] c this,by refine ae b ?_;exact x.4⟩
inductive bM(B:aF)(Γ:aI)(env:Env)(A:bW)(k:Nat)(ρ:aA)(H:HP)(s:aq):Prop
 | mk (base:B.a)
  (rep:bO B H s)
  (env:g7 B Γ env ρ H s.heap)
  (act:nK B A k 0 H s.heap)
  (hok:Γ.hs=af\/A.handled=ag)
theorem bM.I{B:aF}{Γ:aI}{a:Env}{A:bW}{k:Nat}{ρ:aA}{O:Nat->Prop}{H H':HP}{s c:aq}(x:bM B Γ a A k ρ H s)(S:aV B O H s H' c)(d:∀b o,O b->s.heap.get? b=aa o->∃e,o.data= .fields e):bM B Γ a A k ρ H' c:=⟨x.1,S.1,x.3.I S d,x.4.u S,x.5⟩
theorem bM.u{B:aF}{Γ:aI}{a:Env}{A:bW}{k:Nat}{ρ:aA}{H c:HP}{s b:aq}(x:bM B Γ a A k ρ H s)(S:cS B H s c b):bM B Γ a A k ρ c b:=⟨x.1,S.1,x.3.u S,x.4.u S,x.5⟩
inductive gB(B:aF)(A:bW)(H:HP)(e d:Nat)(vs:List V)(fr:Option Nat)(h:aG):Prop
 | mk (at_:∃fs tb,h.get? e=aa ⟨.ref (B.I.I),aa d, .fields fs,#[]⟩/\fs.size=6/\fs[1]?=aa tb/\(A.handled=ag->uG vs=ai->fs[2]?=aa .none)/\
  (tb= .none\/∃T oT ts z,tb= .ref T/\h.get? T=aa oT/\oT.data= .fields ts/\5<=ts.size/\ts[3]?=aa z/\(z= .none\/∃f,fr=aa f/\z=v5 f)/\¬fp H T/\B.u.get? T=ag/\T≠e))
  (ns:ia h d (B.I.e 0) (vs.map aa))
  (nfe:¬fp H e)
  (nfd:¬fp H d)
  (nbe:B.u.get? e=ag)
  (nbd:B.u.get? d=ag)
  (ap:∀l env,A.frames=aa l->env∈l->env.locals≠d)
noncomputable def qi(h:aG)(e b:Nat):Prop:=∃o a,h.get? e=aa o/\o.data= .fields a/\a[1]?=aa (.ref b)
noncomputable def qh(H:HP)(s:aq)(e d:Nat)(a:aG):Prop:=mv H s e/\(∀T,qi a e T->mv H s T)/\mv H s d
theorem qh.j6{B:aF}{O:Nat->Prop}{H f:HP}{s b:aq}(S:aV B O H s f b){e d:Nat}{c:aG}(x:qh f b e d c):qh H s e d c:=⟨x.1.j6 S,λT a=>(x.2.1 T a).j6 S,x.2.2.j6 S⟩
noncomputable def g8(B:aF)(Q:QV)(H:HP)(s:aq)(v:aj)(a:aq):Prop:=∃y b,cS B H s b a/\aW a.heap y v/\Q y b
noncomputable def dY(B:aF)(A:bW)(E:EP)(H:HP)(s:aq)(v:aj)(a:aq):Prop:=∃e d c b,v= .ref e/\cS B H s b a/\gB B A b e d c ag a.heap/\qh H s e d a.heap/\E c b
theorem g8.I{B:aF}{Q:QV}{H H':HP}{s c:aq}(S:cS B H s H' c){v:aj}{a:aq}(x:g8 B Q H' c v a):g8 B Q H s v a:=
 bG x λy b U r q=>b7 y b (S.u U) r q
theorem dY.I{B:aF}{A:bW}{E:EP}{H H':HP}{s c:aq}(S:cS B H s H' c){v:aj}{a:aq}(x:dY B A E H' c v a):dY B A E H s v a:=
 jj x λe d f b q U r w z=>nz e d f b q (S.u U) r (w.j6 S) z
theorem gB.as{B:aF}{A b:bW}{H:HP}{e d:Nat}{c:List V}{fr:Option Nat}{h:aG}(x:gB B b H e d c fr h)(r:A.handled=b.handled)(p:∀l,A.frames=aa l->∃f,b.frames=aa (f++l)):gB B A H e d c fr h:=by obtain⟨⟨s,g,C,z,y,w,v⟩,i,n,m,k,j,u⟩:=x;exact⟨(jQ s g C z y (λq=>w<|r.symm.trans q) v),i,n,m,k,j,λl a hl o=>o1 (p l hl) λf t=>u _ a t<|ma _ o⟩
theorem dY.as{B:aF}{A b:bW}{E:EP}{H:HP}{s:aq}{v:aj}{c:aq}(x:dY B b E H s v c)(i:A.handled=b.handled)(h:∀l,A.frames=aa l->∃g,b.frames=aa (g++l)):dY B A E H s v c:=
 jj x λe d f a q U r w z=>nz e d f a q U (r.as i h) w z
noncomputable def CR(B:aF)(k:Nat)(f:Nat)(c:List V)(E:EP)(Q:QV)(H:HP):Prop:=
 ∀(A:bW) (s:aq) (a:List aj),B.a->bO B H s->nK B A k 1 H s.heap->(B.I.J f=af\/A.handled=ag)->ba s.heap c a->
  sS (aL B.e B.w) A (.call (.ref f) ⟨a,[]⟩) (λr b=>match r with
   | .ok (.ret v)=>g8 B Q H s v b| .ok _=>False
   | .error e=>dY B A E H s e b) s
noncomputable def SE(B:aF)(Γ:aI)(k:Nat)(x:X)(e:az):Prop:=
 ∀a A ρ E Q H s,bM B Γ a A k ρ H s->aK (CR B k) x ρ E Q H->a0 (aL B.e B.w) A (je e a) (g8 B Q H s) (dY B A E H s) s
section
variable {B:aF} {Γ:aI} {k:Nat}
theorem SE.J{x:X}{e:az}(h:SE B Γ k x e){env A ρ E H s}{Q:QV}{R:aj->aq->Prop}{b:aj->aq->Prop}(o:bM B Γ env A k ρ H s)(q:aK (CR B k) x ρ E Q H)
 (n:∀y v a s',cS B H s a s'->bM B Γ env A k ρ a s'->aW s'.heap y v->Q y a->R v s') (c:∀v s',dY B A E H s v s'->b v s'):a0 (aL B.e B.w) A (je e env) R b s:=
 dX (h env A ρ E Q H s o q) (λv s' z=>bG z λy a S r z=>n y v a s' S (o.u S) r z) c
end
end
section
open PySem PySem.W PyProof.Rows PySem.Calls
variable {B:aF} {Γ:aI} {k:Nat} {A:bW} {E:aj->aq->Prop} {s:aq}
noncomputable def my(e:az):Bool:=e.ctorIdx !=16
theorem Ck(h:my o=af)(n:Str)(a:Env)(w:Sem aj):LM o n a w=w:=by revert h;refine(@pQ (λe=>my e=af->LM e n a w=w) o ?_ ?_ ?_ ?_ ?_ ?_ ?_ ?_ ?_ ?_ ?_ ?_ ?_ ?_ ?_ ?_ ?_ ?_ ?_ ?_ ?_ ?_ ?_ ?_ ?_ ?_ ?_);all_goals (intros;first | rfl | exact bw<|by assumption)
noncomputable def zl(K:eK)(C:hF)(nm:Str):Bool:=(v7 K C).any (·.hasDict)&&mZ K (.ref C) nm==aa ag&&(mZ K (.ref C) "__getattribute__"==aa (aa (.builtin "object.__getattribute__"))||
 mZ K (.ref C) "__getattribute__"==aa (aa (.builtin "BaseException.__getattribute__"))&&mZ K (.ref C) "__getattr__"==aa ag&&subIn K (.ref C) (.type "BaseException")==aa af)
section
variable {prog:k8} {w:l9} {A:bW} {E:aj->aq->Prop} {s:aq}
theorem NU{K:eK}{x C:hF}{o:dw}{l:Option dw}{b:Str}{a:Bool}{Q:aj->aq->Prop}{v:aj}(X:K.In s.heap)(I:yJ s.heap x o C l)(k:mZ K (.ref C) "__getattribute__"=aa (aa<|.builtin "BaseException.__getattribute__"))
 (j:mZ K (.ref C) "__getattr__"=aa ag) (c:subIn K (.ref C) (.type "BaseException")=aa af) (hf:findObj K C l b=aa (.value v)) (p:handedIn v=af) (h:Q v {s with toks:=s.toks+1}):a0 (aL prog w) A (getAttr (.ref x) b a) Q E s:=by
 obtain⟨hp,g,d,t,os⟩:=s;have m:=I.type (M:=aL prog w);have y:=Bi (M:=aL prog w) X k;have u:=Bi (M:=aL prog w) X j;have r:=looks_find (M:=aL prog w) X I hf;have q:uv (aL prog w) hp (isInstance (.ref x)<|.type "BaseException") true:=I.type.andThen<|ES X c;have e:(LO "BaseException.__getattribute__"==LO "object.__getattribute__")=false:=by decide+kernel
 delta getAttr getAttrBy;refine aJ<|wpAny_mkText<|jz<|aJ<|m.at<|aJ<|y.at ?_;dsimp only;rw [e,Bg,if_neg gp];skip;refine aJ (show a0 _ _ (typeLookup (.ref C) "__getattr__") _ _ _ from u.at ?_);have f:(a&&onTheHeap (LO "BaseException.__getattribute__"))=false:=by induction a<;>rfl
 refine aJ<|wpAny_attempt<|jz ?_;delta callGetattribute;refine ae f<|ae (if_neg gp) ?_;delta boundAndCalled;rw [PySem.F.attr_ValueError.ga.bind];refine aJ<|cK<|Bl<|abJ PySem.F.attr_ValueError.ga.plain PySem.F.entry_bexc_ga<|check_slot (i:="BaseException.__getattribute__") (owner:="BaseException") (n:="__getattribute__") (by decide+kernel) (by decide+kernel) q (PySem.F.args_bexc_ga _ _) ?_;skip;exact aJ<|cK<|aJ<|cK<|aJ<|m.at<|aJ<|r.at<|cK ((ae (handedOut_of p)<|cK h):a0 _ _ (handedOut v) _ _ _)
end
theorem Gg:∀{x:V} {v:aj},aW h x v->handedIn v=af
 | .f,_,e=>by subst e;rfl| .e _,_,e=>by subst e;rfl| .x _,_,⟨t,e⟩=>by subst e;rfl| .z _,_,⟨t,e⟩=>by subst e;rfl| .d _,_,e=>by subst e;rfl| .U l,_,⟨a,b,e,_⟩=>by subst e;rfl
theorem Gh(hd:o.data= .dict a n)(b:StrKeys a)(nm:Str):lookIn nm o=aa (nsFind a nm):=by
 delta lookIn nsFind findBy;refine ae hd ?_;dsimp only;refine ae (Array.find?_toList).symm ?_;cases hf:List.find? (λx=>x.key.isStr nm) a.toList with
 | some e=>rfl
 | none=>
  have:a.toList.any (·.refKey)=false:=by rw [LK];intro e c;refine o2 (b e<|LJ.mp c) λx t q=>?_;simp [DictEntry.refKey,q]
  exact ae this rfl
theorem oR(b:B.a)(R:bO B H s):B.K.In s.heap:=b.1.keeps R.1
theorem Gf(b:B.a)(R:bO B H s)
 (G:s.heap.get? x=aa c) (M:c.cls= .ref C) (K:notCls c=af) (hd:c.dict=aa d) (N:ia s.heap d f p) (L:f[k]?=aa nm) (J:(p[k]?).join=aa y) (j:zl B.K C nm=af)
 (h:∀v,aW s.heap y v->Q v {s with toks:=s.toks+1}):a0 (aL B.e B.w) A (getAttr (.ref x) nm g) Q E s:=by
 obtain⟨Y,m,⟨o,W,n,U,T,S,_,P⟩,O,X⟩:=N;have q:=O k nm L;replace q:=J▸q;refine au q λv u i=>?_;unfold zl at j;simp only [eJ,Bh,beq_iff_eq] at j;refine ay j λt e=>?_;obtain⟨F,D⟩:=t;refine au (v8 F) λZ l a=>?_;have I:yJ s.heap x c C (aa o):=⟨G,M,K,ae hd U⟩;have r:findObj B.K C (aa o) nm=aa (.value v):=by unfold findObj;rw [l,Bf,D,Bf];dsimp only [Bf];unfold PySem.W.ownOf;refine ae a<|ae (if_pos rfl) ?_;dsimp only;rw [Gh T S,P,u];rfl
 rcases e with e | ⟨⟨e,z⟩,w⟩
 ·exact get_value (oR b R) I e r (Gg i)<|h v i
 ·exact NU (oR b R) I e z w r (Gg i)<|h v i
theorem N9:SE B Γ k (.e .f) (.Constant .none i p):=λa A ρ E Q H s o q=>by exact wpAny_Constant_none<|b7 .f H (.I o.2) rfl q
theorem N7:SE B Γ k (.e<|.e b) (.Constant (.bool b) i p):=λa A ρ E Q H s o q=>by exact wpAny_Constant_bool<|b7 (.e b) H (.I o.2) rfl q
theorem N8:SE B Γ k (.e<|.x z) (.Constant (.int z) i p):=λa A ρ E Q H s o q=>by exact EU<|b7 (.x z) H (.iS o.2 (λy y e=>e) rfl rfl) ⟨_,rfl⟩ q
theorem Oa:SE B Γ k (.e<|.z z) (.Constant (.str z) i p):=λa A ρ E Q H s o q=>by exact wpAny_Constant_str<|b7 (.z z) H (.iS o.2 (λy y e=>e) rfl rfl) ⟨_,rfl⟩ q
noncomputable def iT(x:Str):Bool:=!(x==("__debug__":Str))
theorem rM(h:iT x=af):(x==("__debug__":Str))=false:=by unfold iT at h;simpa using h
theorem aI.u{Γ:aI}(h:Γ.J=af){x:Str}{i:Nat}(a:(x,i)∈Γ.b):Γ.a.lookup x=aa .local\/Γ.a.lookup x=aa .cell\/Γ.a.lookup x=aa .free:=by unfold aI.J at h;simp only [eJ,dT] at h;have:=h.2 _ a;simpa [or_assoc] using this
theorem Oc(g:(x,i)∈Γ.b)(hd:iT x=af)(l:(x==("__classdict__":Str))=ai):SE B Γ k (.J i) (.Name x p):=λn A ρ E Q H s o q=>by
 refine au q λv e q=>?_;have e:(ρ[i]?).join=aa v:=by exact ae e rfl
 ·
   refine LL ?_<|rM hd;have d:∀u,aW s.heap v u->g8 B Q H s u s:=λu j=>(b7 v H (.I o.2) j q);have b:n.kindOf x=Γ.a.lookup x:=by unfold m9;exact ae o.3.2 rfl
   rcases aI.u o.3.1 g with a | a | a
   ·exact au o.3.6 λm C hl=>au (hl x i g a v e) λu j f=>ET o.3.3 (b.trans a) C j<|d u f
   ·refine iC (o.3.7 x i g<|.inl a) λc z w t y y r=>au (r v e) λu h f=>?_;obtain rfl:=h;exact abI o.3.3 (b.trans a) w t<|d u f
   ·refine iC (o.3.7 x i g<|.inr a) λc z w t y y r=>au (r v e) λu h f=>?_;obtain rfl:=h;exact wpAny_loadName_free o.3.3 (b.trans a) w t (d u f) l
noncomputable def N0(o:Option b)(f:∀a,o=aa a->OP p):OP p:=sN (motive:=λq=>o=q->OP p) o (λz=> .u) f rfl
@[elab_as_elim] noncomputable def N1{motive:Value->Type}(e:Value)(f:∀a,motive<|.ref a)(d:∀e,motive e):motive e:=if h:e.ctorIdx=10 then Value.ref.elim (motive:=motive) e h f else d e
@[elab_as_elim] noncomputable def N4{motive:Value->Type}(e:Value)(f:∀a t,motive<|.int a t)(d:∀e,motive e):motive e:=if h:e.ctorIdx=4 then Value.int.elim (motive:=motive) e h f else d e
@[elab_as_elim] noncomputable def N5{motive:Value->Type}(e:Value)(f:∀a t,motive<|.str a t)(d:∀e,motive e):motive e:=if h:e.ctorIdx=6 then Value.str.elim (motive:=motive) e h f else d e
@[elab_as_elim] noncomputable def N2{motive:Data->Type}(e:Data)(f:∀a t,motive<|.seq a t)(d:∀e,motive e):motive e:=if h:e.ctorIdx=2 then Data.seq.elim (motive:=motive) e h f else d e
theorem Od{K:eK}{h:aG}{a:Nat}{l:List V}{o:dw}{b:Array aj}(X:K.In h)(ho:K.lookup a=aa o)(c:(o.cls== .type "tuple")=af)(e:∃n,o.data= .seq b n)(r:∀{h:aG},K.In h->ba h l b.toList):aW h (.U l) (.ref a):=
 ⟨a,b.toList,rfl,⟨o,X _ _ ho,beq_iff_eq.mp c,e⟩,r X⟩
noncomputable def N3{p:Prop}(d:oB)(f:∀a,(∃n,d= .seq a n)->OP p):OP p:=N2 (motive:=λq=>d=q->OP p) d (λa n e=>f a ⟨n,e⟩) (λz z=> .u) rfl
noncomputable def Gi(K:eK)(f:∀x v,OP<|∀{h:aG},K.In h->aW h x v)(l:List V):(c:List aj)->OP (∀{h:aG},K.In h->ba h l c):=
 gq (motive:=λl=>(c:List aj)->OP (∀{h:aG},K.In h->ba h l c)) (λc=>fX c (.J λz=>ba.I) λz=> .u)
  (λx l ih c=>qc c (λw c=>(f x w).bo λa=>(ih c).bo λb=> .J λX=>ba.u (a X)<|b X) λz=> .u) l
noncomputable def zm(K:eK)(n:Nat):(x:V)->(v:aj)->OP (∀{h:aG},K.In h->aW h x v):=
 yG (motive:=λz=>(x:V)->(v:aj)->OP (∀{h:aG},K.In h->aW h x v)) (λz z=> .u) (λn ih x v=>V.casesOn (motive_1:=λx=>OP (∀{h:aG},K.In h->aW h x v)) x
  (dq (v== .none) λq z z=>beq_iff_eq.mp q) (λb=>dq (v== .bool b) λq z z=>beq_iff_eq.mp q)
  (λi=>N4 v (λj t=>iD j i (.J λz=>⟨t,rfl⟩) λz=> .u) λz=> .u) (λs=>N5 v (λj t=>iD j s (.J λz=>⟨t,rfl⟩) λz=> .u) λz=> .u)
  (λl=>N1 v (λa=>N0 (K.lookup a) λo ho=>(dq (o.cls== .type "tuple") id).bo λc=>N3 o.data λd e=>(Gi K ih l d.toList).bo λr=> .J λX=>Od X ho c e r) λz=> .u)
  λa=>dq (v== .ref a) λq z z=>beq_iff_eq.mp q) n
theorem N6{K:eK}{h:aG}(X:K.In h){n:Nat}{x:V}{v:aj}(e:(zm K n x v).e=af):aW h x v:=OP.eM e X
theorem Ob{x:Str}{p:Pos}{v:V}{u:aj}(d:Γ.a.lookup x=aa .globalImplicit)(hd:iT x=af)(e:m8 B.K jN x=aa (aa u))(c:(zm B.K 5 v u).e=af):
 SE B Γ k (.e v) (.Name x p):=λb A ρ E Q H s o q=>by
 have a:b.kindOf x=aa .globalImplicit:=by unfold m9;exact ae o.3.2 d
 exact yK o.3.3 a (Bj (ae o.3.4<|o.1.2.keeps o.2.1) (mg_of o.1.1 o.1.2 e)<|b7 v H (.I o.2) (N6 (oR o.1 o.2) c) q)<|rM hd
theorem Oj{K:Type} [DecidableEq K]{w:K×aj}{r:List (K×aj)}{k:K}:rf (w::r) k=if w.1=k then aa w.2 else rf r k:=by
 unfold rf;refine ae (List.find?_cons) ?_;by_cases h:w.1=k
 ·exact ae (if_pos h)<|ae (decide_eq_true h) rfl
 ·exact ae (if_neg h)<|ae (decide_eq_false h) rfl
theorem Gl{K:Type} [DecidableEq K]{b:List (K×V)}{a:List (K×aj)}{h:aG}(r:fJ h b a)(k:K):
 (∀x,b.lookup k=aa x->∃v,rf a k=aa v/\aW h x v)/\(b.lookup k=ag->rf a k=ag):=by
 induction b generalizing a with
 | nil=>exact⟨λx e=>a9 e,λw=>congrArg (rf · k) r⟩
 | cons e b ih=>
  refine fV r λd j z i g f=>ae z<|ae gV<|ae Oj<|ae i.symm ?_;by_cases c:e.1=k
  ·exact ae (if_pos c)<|ae (show(k==e.1)=af from beq_iff_eq.mpr c.symm) ⟨λy q=>⟨d.2,rfl,bP q▸g⟩,λq=>hU q⟩
  ·exact ae (if_neg c)<|ae (show(k==e.1)=ai from beq_false_of_ne<|q8 c)<|ih f
theorem DictOf.u{K:Type} [DecidableEq K]{prog:k8}{w:l9}{knd:KeyKind prog w K}{b:List (K×V)}{a:List (K×aj)}{h:aG}(r:fJ h b a)(k:K):
 (∀x,b.lookup k=aa x->∃v,rf a k=aa v/\aW h x v)/\(b.lookup k=ag->rf a k=ag):=Gl r k
theorem Gj{K:Type} [DecidableEq K]{xs:List (K×hF×aj)}{k:K}:rf (xs.map λx=>(x.1,x.2.2)) k=(atKey xs k).map (·.2):=by delta rf atKey;rw [List.find?_map,abN,abN];rfl
theorem DictOfH.u{K:Type} [DecidableEq K]{a:List (K×V)}{xs:List (K×hF×aj)}{h:aG}(r:fJ h a (xs.map λx=>(x.1,x.2.2)))(k:K):
 (∀x,dA a k=aa x->∃p,atKey xs k=aa p/\aW h x p.2)/\(dA a k=ag->atKey xs k=ag):=
 have d:=Gl r k
 ⟨λx q=>au (d.1 x q) λv e c=>au (oG.mp<|Gj.symm.trans e) λp h3 b=>aM p h3<|b▸c,λq=>Bm.mp<|Gj.symm.trans<|d.2 q⟩
noncomputable def oS(e:az):Bool:=e.ctorIdx !=26
theorem zo(h:oS a=af)(o i:aj):LR a ai o i=operate [o,i] (yM o i):=by revert h;refine(@pQ (λe=>oS e=af->LR e ai o i=operate [o,i] (yM o i)) a ?_ ?_ ?_ ?_ ?_ ?_ ?_ ?_ ?_ ?_ ?_ ?_ ?_ ?_ ?_ ?_ ?_ ?_ ?_ ?_ ?_ ?_ ?_ ?_ ?_ ?_ ?_);all_goals (intros;first | rfl | exact bw<|by assumption)
theorem wV{k:Int}(h:k.natAbs<1099511627776): -(2^63)<=k/\k<2^63:=⟨Int.neg_le_of_neg_le<|q9<|abL (Int.natAbs_neg k▸abK (a:= -k))<|LP (j3.mpr h) (by decide),abL abK<|LP (j3.mpr h)<|by decide⟩
theorem Og(e:nC l b):∀{a:List aj},ba h l a->ItemsAre (pP prog w) b a:=by induction e with| I=>exactλr=>ae (show _=[] from r) .nil| u _ ih=>exactλr=>bG r λv d z q c=>ae z<|o1 q λt z=>ae z<|.cons (uw _ _ _ _)<|ih c
theorem wX(e:nC l c)(f:h.IsTuple b (k7 a))(r:ba h l a):(Bd<|pP prog w).is h c b:=
 bR f λd k j g=>o1 g λn i=>y0 d _ n k j i<|Og e r
theorem bO.e{H:HP}(b:B.a)(R:bO B H s){a:Nat}(d:B.u.get? a=ag)(c:∃o,B.u.get? iN=aa o):(a==iN)=false:=
 beq_false_of_ne λq=>o1 c λo ho=>a9<|d.symm.trans<|q▸ho
theorem Oh(h:SE B Γ k o e)(w:my e=af)(hl:(B.I.e C)[j]?=aa nm)(i:zl B.K (if C=0 then B.I.I else C) nm=af):
 SE B Γ k (.ao o C j) (.Attribute e nm p):=λD A ρ E Q H s g q=>by
 refine Attribute_any_ (h.J g q (λy v I d S a r q=>au q λx at_ _=>?_) λ_ _ z=>z) (by rw [arm_eval_Attribute,Ck w]);clear q;rename_i q;have c:∀v,aW d.heap x v->g8 B Q H s v {d with toks:=d.toks+1}:=λv u=>(b7 x I (S.F0 (λ_ _ e=>e) rfl rfl) u q);induction at_ with
 | b m l=>exact qa (a.2.4 _ _ m) λG t F n=>ae r.I<|Gf a.1 a.2 F rfl rfl rfl n hl (congrArg abM l) (by rw [if_neg G] at i;exact i) c| f m l=>exact ay (a.2.4 _ _ m) λz n=>au z λJ t _=>ae r.I<|Gf a.1 a.2 t rfl rfl rfl n hl (congrArg abM<|jf.trans<|congrArg (yL aa) l) i c
theorem wW(h:qg n i=aa j):i.natAbs<1099511627776/\uu i n=aa j:=by
 unfold qg at h;split at h
 ·rename_i q;exact⟨q,h⟩
 ·exact a9 h
theorem Gm(h:uu i n=aa j):0<=(if i<0 then i+n else i)/\(if i<0 then i+n else i).toNat=j:=by
 unfold uu at h;dsimp only at h;generalize (if i<0 then i+(n:Int) else i)=m at h⊢;split at h
 ·rename_i q;exact⟨of_decide_eq_true (oz.mp q).1,bP h⟩
 ·exact a9 h
theorem Gk(hl:s.heap.IsList l a)(e:i.natAbs<1099511627776)(hi:uu i a.size=aa j)(d:a[j]?=aa x)(h:Q x s):
 a0 (aL B.e B.w) A (yM (.ref l)<|.int i t) Q E s:=by
 have q:=Gm hi;have b:=wV e;by_cases c:i<0
 ·replace q:=(if_pos c)▸q;exact wpAny_getItem_list_neg hl c (by have:=q.1;exact aD (.Le (.g<|.c<|.v 0)<|.v 0) (.Le (.n 0)<|.a (.v 0)<|.c<|.v 0) rfl [_] [_] q.1) b.1 (q.2.symm▸d) h
 ·replace q:=(if_neg c)▸q;exact wpAny_getItem_list hl (oC.mp c) b.2 (q.2.symm▸d) h
theorem nM(R:bO B H s)(d:H a=aa (.u g l)):∃b,s.heap.IsList a (k7 b)/\ba s.heap l b/\l.length<=cE:=by exact bR (R.4 a _ d) λb hp c hl=>(bT b hp.u c hl)
theorem Of(n:A.units<9001)(R:bO B H s)(d:fH H a y z)(e:z=aa x)(r:aW s.heap y u)(h:∀v l,aW s.heap x v->Q v {s with toks:=l}):s.TypeIs (.ref a) "dict"/\a0 (aL B.e B.w) A (yM (.ref a) u) Q E s:=by induction d with| s g=>exact bR (R.4 a _ g) λj hd f w=>o1 r.is λt z=>au ((DictOf.u (knd:=sQ B.e B.w) f _).1 x e) λv c b=>⟨hd.typeIs,ae z<|LQ (v9 _ _ _ _) hd.mapOf c<|h v _ b⟩| i g=>exact bR (R.4 a _ g) λj hd f w=>o1 r.e λt z=>au ((DictOf.u (knd:=pP B.e B.w) f _).1 x e) λv c b=>⟨hd.typeIs,ae z<|LQ (uw _ _ _ _) hd.mapOf c<|h v _ b⟩| t g p=>exact bR (R.4 a _ g) λxs hd f w=>bG r.J λC q z o k=>au ((DictOfH.u f _).1 x e) λm c b=>⟨hd.typeIs,ae z<|wpAny_getItem_heap (by skip;skip;exact aD (.e (.a (.v 0)<|.n 1)<|.n 9900) (.e (.v 0)<|.n 9001) rfl [] [_] n) (wX p o k) hd c<|h m.2 _ b⟩
theorem Oe(c:A.units<9001)(R:bO B H s)(d:fH H a y (aa x))(r:aW s.heap y u)(h:∀v b,aW s.heap x v->Q v {s with toks:=b}):s.TypeIs (.ref a) "dict"/\a0 (aL B.e B.w) A (yM (.ref a) u) Q E s:=by exact Of c R d rfl r h
theorem Oi(h:SE B Γ k o e)(h':SE B Γ k i f)(K:oS f=af):
 SE B Γ k (.ak o i) (.Subscript e f p):=λenv A ρ E Q H s ok q=>by
 refine Subscript_<|h.J ok q (λy v H' s' S o' r q=>h'.J o' q (λz u P b W l G J=>?_) λ_ _ z=>z.I S) λ_ _ z=>z;clear q;have r:=r.U W.4;have S2:=S.u W;refine au J λx sb _=>?_;clear J;rename_i J;have j:∀v,aW b.heap x v->∀F,g8 B Q H s v {b with toks:=F}:=λv O F=>(b7 x P (S2.F0 (λ_ _ e=>e) rfl rfl) O J);have hu:A.units<9001:=by have:=l.4.3;exact aD (.e (.v 0)<|.n 9001) (.I (.a (.v 0)<|.m 100<|.v 1)<|.a (.n 9000)<|.m 50<|.n 0) rfl [] [_,_] this
 induction sb with| U hj M=>exact bG r.J λa Y z R C=>o1 G.e λt w=>ay (wW hj) λn D=>au (C.eM M) λL N m=>ae z<|ae w<|Bn R.typeIs PySem.F.slot_tuple_getitem.lookup (getItem_tuple R (wV n).1 (wV n).2 (ae hG<|ae C.dN D) (EV.trans N)<|j L m b.toks)<|zo K _ _| @z s0 k0 j0 c0 hj hc=>refine o1 r.is λt z=>o1 G.e λu w=>ay (wW hj) λn D=>ae z<|ae w ?_;have b3:=wV n;exact Bn (T:="str") rfl PySem.F.slot_str_getitem.lookup (getItem_str (by simp;exact b3) ((congrArg (Option.bind · _) D).trans hc)<|j _ ⟨_,rfl⟩ _)<|zo K _ _| u c hj M=>exact o1 G.e λt w=>bR (nM l.2 c) λY V C _=>ay (wW hj) λn D=>au (C.eM M) λL N m=>ae r.I<|ae w<|Bn V.typeIs PySem.F.slot_list_getitem.lookup (Gk V n (ae hG<|ae C.dN D) (EV.trans N)<|j L m b.toks)<|zo K _ _| I d=>exact ay (Oe hu l.2 d G λv F O=>j v O F) λZ g=>ae r.I<|Bn Z PySem.F.slot_dict_getitem.lookup g<|zo K _ _
theorem kb:cE=sizeLine:=by decide
theorem uN{h:aG}(o:dw):∀b a,h.get? b=aa a->(h.push o).get? b=aa a:=λb a e=>hJ o e
theorem nP(h:aG):h.get? h.objs.size=none:=by cases e:h.get? h.objs.size with| none=>rfl| some o=>exact absurd (sR e)<|LV _
theorem Cm{tk:Nat}(R:bO B H s)(r:ba s.heap l a)(hl:l.length<=cE):
 H s.heap.objs.size=ag/\aV B O H s (H.J s.heap.objs.size<|.u g l) {s with heap:=s.heap.push {cls:= .type "list",data:= .seq a.toArray},toks:=tk}:=
 aV.J (s':={s with heap:=s.heap.push {cls:= .type "list",data:= .seq a.toArray},toks:=tk}) R (uN _) (.inl rfl) (λb c=>by
  rcases c with rfl | c
  ·exact nP _
  ·exact c.elim) (bT a ⟨_,jO _ rfl,rfl,⟨0,rfl⟩,rfl,rfl⟩ (r.U (.J (uN _))) hl) rfl rfl
theorem Gq{tk:Nat}(R:bO B H s)(r:ba s.heap l a):
 aV B O H s H {s with heap:=s.heap.push {cls:= .type "tuple",data:= .seq a.toArray},toks:=tk}/\aW (s.heap.push {cls:= .type "tuple",data:= .seq a.toArray}) (.U l) (.ref s.heap.objs.size):=by
 exact⟨.iS (s':={s with heap:=s.heap.push {cls:= .type "tuple",data:= .seq a.toArray},toks:=tk}) R (uN _) rfl rfl,(b7 _ a rfl ⟨_,jO _ rfl,rfl,0,rfl⟩<|r.U<|.J<|uN _)⟩
theorem zr(r:aW h (.d i) v):v= .ref i:=r
theorem Om(r:aW h (.e i) v):v= .bool i:=r
theorem Oo(r:aW h .f v):v= .none:=r
theorem Gr(r:aW h (.U l) v):∃a b,v= .ref a/\h.IsTuple a (k7 b)/\ba h l b:=r
theorem nN:aW h (.x i) (.int i t):=⟨t,rfl⟩
theorem tB:aW h (.z i) (.str i t):=⟨t,rfl⟩
theorem Gp:aW h (.e i) (.bool i):=rfl
theorem kJ:aW h (.d i) (.ref i):=rfl
theorem uM:aW h .f .none:=rfl
theorem Gn(R:bO B H s)(j:H a=aa (.u g l)):∃b n dd d,s.heap.get? a=aa {cls:= .type "list",dict:=dd,data:= .seq (k7 b) n,slots:=d}/\ba s.heap l b/\l.length<=cE:=by refine bR (R.4 a _ j) λb h i hl=>?_;obtain⟨⟨c,dd,k,d⟩,hp,f,⟨n,e⟩,_⟩:=h;dsimp only at f e;subst f e;exact(BI b n dd d hp i hl)
theorem zp(h:a.natAbs<2^200):abQ a<=2^20:=by
 unfold abQ;split
 ·exact dR _
 ·rename_i q;have h0:a.natAbs≠0:=by intro z;have:a=0:=Int.natAbs_eq_zero.mp z;subst this;simp at q
  have:=(abO h0).mpr h;exact jg this (by decide)
theorem Ol(e:td i a b c)(h:∀j t,Q (.int c t) {s with toks:=j}):
 a0 (aL B.e B.w) A (binaryOp i (.int a t)<|.int b u) Q E s:=by
 induction e with| J=>exact adB<|h _ _| ak=>exact adD<|h _ _| d k g=>exact adF (h _ _)<|.of_bits (zp k)<|zp g| c f=>exact adC f<|h _ _| e f g=>exact adE f (h _ _)<|.inl<|abP g
theorem iG(R:bO B H s):cS B H s H {s with toks:=t}:= .iS R (λz z e=>e) rfl rfl
theorem g8.mk{Q:QV}{H c:HP}{a b:aq}{y:V}{v:aj}(S:cS B H a c b)(r:aW b.heap y v)(q:Q y c):g8 B Q H a v b:=(b7 y c S r q)
theorem Oq(h:SE B Γ k l e)(W:SE B Γ k r f):SE B Γ k (.aS g L l r) (.BinOp e L f p):=λY A ρ E Q H s T q=>by
 refine wpAny_BinOp<|h.J T q (λy v H' s' S U r K=>?_) λ_ _ z=>z;clear q;refine W.J U K (λz u H'' D N a j i=>?_) λ_ _ z=>z.I S;clear K;have r:=r.U N.4;have J:=S.u N;refine au i λx b _=>?_;clear i;rename_i i;induction b with
 | x F=>refine o1 r λt d=>?_;clear r;obtain rfl:=d;refine o1 j λP d=>?_;clear j;obtain rfl:=d;exact Ol F λtk t=> .mk (J.u<|iG a.2) nN i| z hl=>refine o1 r λt d=>?_;clear r;obtain rfl:=d;refine o1 j λP d=>?_;clear j;obtain rfl:=d;exact adI (λt tk=> .mk (J.u<|iG a.2) tB i)<|ae kb.symm hl
 | u F hd hl=>
  obtain rfl:v=_:=r;obtain rfl:u=_:=j;refine wG (Gn a.2 F) λw n dd R hp M _=>wG (Gn a.2 hd) λc V I C o m _=>?_;have G:w.toArray.size+c.toArray.size<=sizeLine:=by exact ae hG<|ae hG<|ae M.dN<|ae m.dN<|ae kb.symm hl
  exact concat_meets (aM _ hp rfl) (aM _ o rfl) noFill_list_add seq_list_add PySem.F.slot_list_add PySem.F.entry_list_add (PySem.F.args_list_add_2 _ _) (list_addW _ _ w.toArray c.toArray n V dd I R C G) ⟨hp,o,ay (Cm (O:=λ_=>False) (g:=g) (tk:=D.toks) a.2 (M.hY m)<|ae bI hl) λc1 Z=>(.mk (J.u<|ae (show w.toArray++c.toArray=(w++c).toArray by simp) Z) kJ<|i _ c1)⟩
theorem Ot(h:SE B Γ k x e):SE B Γ k (.fg x) (.UnaryOp .USub e p):=λc A ρ E Q H s o q=>by refine wpAny_UnaryOp<|h.J o q (λy v f d S b r a=>?_) λw w z=>z;obtain⟨i,rfl,a⟩:=a;obtain⟨t,rfl⟩:=r;exact adG<|.mk (S.u<|iG b.2) nN a
theorem Gs(r:ba h l a):(!a.toArray.isEmpty)=!l.isEmpty:=by have:=r.dN;induction a<;>induction l<;>first | rfl | cases this
theorem zt(R:bO B H s)(r:aW s.heap y v)(e:ka H y b)(h:∀j,Q b {s with toks:=j}):a0 (aL B.e B.w) A (truthy v) Q E s:=by
 revert r h;induction e with
 | f=>intro r h;obtain rfl:v=_:=r;exact truthy_none<|h _| e=>intro r h;obtain rfl:v=_:=r;exactλw w w=>h _| x=>intro r h;refine o1 r λt c=>?_;clear r;obtain rfl:=c;exact adH<|h _
 | @z x q=>
  intro r h;refine o1 r λt c=>?_;clear r;obtain rfl:=c;refine P.truthy_str (λz=>?_) ?_
  ·have:(x.cps.size:Int)>=2^63:=z;delta cE at q;exact bJ .a (.Le (.n 9223372036854775808)<|.c<|.v 0) (.I (.v 0)<|.n 16777216) rfl [] [_] this q
  ·have e:((x.length:Int)!=0)=(x.cps.size !=0):=by refine(?_:((x.cps.size:Int)!=0)=_);cases x.cps.size<;>rfl
   exact ae e<|h _
 | @U l q=>intro r h;refine bG (aW.J r) λa i c k d=>?_;clear r;obtain rfl:=c;refine truthy_tuple k (by refine ae hG<|ae d.dN ?_;delta cE at q;exact aD (.U (.c<|.v 0)<|.n 9223372036854775808) (.I (.v 0)<|.n 16777216) rfl [] [_] q) ?_;exact ae (Gs d)<|h _| u hl=>intro r h;obtain rfl:v=_:=r;refine bR (nM R hl) λi m d g=>wpAny_truthy_list m (by refine ae hG<|ae d.dN ?_;delta cE at g;exact aD (.U (.c<|.v 0)<|.n 9223372036854775808) (.I (.v 0)<|.n 16777216) rfl [] [_] g) ?_;exact ae (Gs d)<|h _
theorem Ou(h:SE B Γ k x e):SE B Γ k (.j x) (.UnaryOp .Not e p):=λf A ρ E Q H s o q=>by exact wpAny_UnaryOp<|h.J o q (λy v j i S c r a=>au a λb d a=>not_of<|zt c.2 r d λg=> .mk (S.u<|iG c.2) Gp a) λw w z=>z
end
section
open PySem PySem.W PyProof.Rows PySem.Calls PySem.SeqAt
variable {B:aF} {Γ:aI} {k:Nat} {A:bW} {E:aj->aq->Prop} {s:aq}
inductive Co(A:bW)(s:aq)(x y:aj)(b:Bool):Prop
 | mk (rc:RcAt A s x y b)
  (ne:RcNeAt A s x y (!b))
  (eq:EqAt A s x y b)
noncomputable def Gu(N:Nat)(s:aq)(R:Nat->Nat->Bool->Prop):Prop:=∀A a b c,A.units<=N->R a b c->a≠b/\RcAt A s (.ref a) (.ref b) c/\RcNeAt A s (.ref a) (.ref b) (!c)
theorem wY(k:∀u,aW h v u->aW h w u->b=af)(r:ba h [v] xs)(a:ba h [w] xs):b=true:=by exact bG r λu f e r z=>bG a λg c d a z=>k u r<|(jA<|e.symm.trans d).1▸a
theorem Heap.IsTuple.un{h:aG}{a:Nat}{c b:List aj}(x:h.IsTuple a c.toArray)(y:h.IsTuple a b.toArray):c=b:=
 bR x λz e z w=>o1 w λz d=>bR y λz f z w=>o1 w λz g=>
 Array.mk.inj (adJ<|d.symm.trans<|(congrArg vX<|bP<|e.symm.trans f).trans g).1
theorem Ow(C:∀a c,¬R a a c)(e:eZ R d l m b):∀{xs:List aj},ba h l xs->ba h m xs->b=true:=by induction e with| I=>exactλz z=>rfl| g=>exactλr k=>by obtain rfl:=k;exact bG r λz z e z z=>nomatch e| i=>exactλr k=>by obtain rfl:=r;exact bG k λz z e z z=>nomatch e| u _ _ i j=>refineλr k=>bG r λu G e B A=>bG k λH s p y w=>?_;replace e:=jA<|e.symm.trans p;exact oz.mpr ⟨i (ba.eN B)<|ba.eN<|e.1▸y,j A<|e.2▸w⟩| f=>exactλz z=>rfl| e=>exact wY λu r k=>beq_iff_eq.mpr<|adK<|r.ib.symm.trans k.ib| x=>exact wY λu r k=>o1 r.e λt r=>o1 k.e λv k=>beq_iff_eq.mpr (adL<|r.symm.trans k).1| z=>exact wY λu r k=>o1 r.is λt r=>o1 k.is λv k=>beq_iff_eq.mpr (adM<|r.symm.trans k).1| U _ i=>exact wY λu r k=>bG r.J λa F e E D=>bG k.J λa' q p o n=>i D<|(Heap.IsTuple.un E<|rh (e.symm.trans p)▸o)▸n| d h=>exact wY λu r k=>absurd (rh (r.I.symm.trans k.I)▸h)<|C _ _
inductive Cn(A:bW)(s:aq)(l m:List V)(xs ys:List aj)(b:Bool)(f:Nat->Bool):Prop
 | mk (at_:∀(j:Nat) (x y:aj),xs[j]?=aa x->ys[j]?=aa y->EqAt A s x y (f j))
  (all:b=((sO (min l.length m.length)).all f&&l.length==m.length))
theorem Cn.fZ(x:Cn A s l m xs a b f):∀(j:Nat) (d:j<xs.toArray.size) (c:j<a.toArray.size),EqAt A s xs.toArray[j] a.toArray[j] (f j):=λj d c=>
 x.1 j _ _ (iB d) (iB c)
noncomputable def Cp(N:Nat)(s:aq)(d:Bool)(l m:List V)(b:Bool):Prop:=∀(A:bW) (xs a:List aj),A.units+nF l<=N->ba s.heap l xs->ba s.heap m a->
 if d then∃f,Cn A s l m xs a b f else∀x y,xs=[x]->a=[y]->Co A s x y b
theorem Cp.eN(k:∀A x y,A.units+tj v<=N->aW s.heap v x->aW s.heap w y->Co A s x y b):Cp N s ai [v] [w] b:=λA xs i d r a x y e h=>
 bG r λu j g r z=>bG a λl c f a z=>k A x y (aH (hS (abR _ _) _) d) ((jA<|g.symm.trans e).1▸r)<|(jA<|f.symm.trans h).1▸a
theorem Gv(h0:N<cLine)(hR:Gu N s R)(e:eZ R d l m b):Cp N s d l m b:=by
 induction e with
 | I=>exactλA xs J B r k=>⟨λo=>af,⟨λj x y h=>(by obtain rfl:=r;exact a9 h),rfl⟩⟩| g=>exactλA xs J B r k=>⟨λo=>af,⟨λj x y h h'=>(by obtain rfl:=k;exact a9 h'),rfl⟩⟩| i=>exactλA xs J B r k=>⟨λo=>af,⟨λj x y h=>(by obtain rfl:=r;exact a9 h),rfl⟩⟩
 | @u v w l m b c _ _ i j=>
  refineλA xs J B r k=>bG r λu us z r1 r2=>bG k λW L z' O M=>?_;clear r k;have B:A.units+max (tj v) (nF l)<=N:=B;refine o1 (j A us L (aH (hS (Nat.le_max_right _ _) _) B) r2 M) λf q=>?_;have p:=i A [u] [W] (aH (hS (uj.mpr ⟨abR _ _,dR _⟩) _) B) (ba.eN r1) (ba.eN O) u W rfl rfl;refine⟨λn=>um n b f,⟨λn x y H G=>?_,?_⟩⟩
  ·replace H:=z▸H;replace G:=z'▸G;induction n with
   | zero=>exact ae (bP H).symm<|ae (bP G).symm p.3| succ n=>exact q.1 n x y H G
  ·rw [q.2,dK,dK,Nat.succ_min_succ,LW,me,List.all_map,Bool.and_assoc,show(l.length+1==m.length+1)=(l.length==m.length) from EW.mpr<|beq_iff_eq.trans<|Nat.succ_inj.trans beq_iff_eq.symm];rfl
 | f=>exact .eN λA x y o r k=>by obtain rfl:=r;obtain rfl:=k;exact⟨.none_none, .none_none, .same _⟩| e=>exact .eN λA x y o r k=>by obtain rfl:=r;obtain rfl:=k;exact⟨.bool_bool _ _, .bool_bool _ _, .bool_bool _ _⟩| x=>exact .eN λA x y o r k=>o1 r.e λt r=>o1 k.e λt' k=>by obtain rfl:=r;obtain rfl:=k;exact⟨.int_int _ _ _ _, .int_int _ _ _ _, .int_int _ _ _ _⟩| z=>exact .eN λA x y o r k=>o1 r.is λt r=>o1 k.is λt' k=>by obtain rfl:=r;obtain rfl:=k;exact⟨.str_str _ _ _ _, .str_str _ _ _ _, .str_str _ _ _ _⟩
 | @U l m b er i=>
  refine .eN λA x y B r k=>bG r.J λa K e P Q=>bG k.J λa' C e' D E=>ae e<|ae e' ?_;clear e e' r k;have B:A.units+(nF l+1)<=N:=B;have F:A.units<cLine:=eX (aH (fz _ _) B) h0;refine o1 (i A.in1 K C (by skip;rwa [sU]) Q E) λf T=>?_;have Z:b=((sO<|min K.toArray.size C.toArray.size).all f&&K.toArray.size==C.toArray.size):=by exact ae T.2<|ae hG<|ae hG<|ae Q.dN<|ae E.dN rfl
  have X:RcAt A s (.ref a) (.ref a') b:=Z▸RcAt.tuples (e:=f) P D F T.fZ;refine⟨X,Z▸RcNeAt.tuples (e:=f) P D F T.fZ,?_⟩;by_cases S:a=a'
  ·have:=Ow (λa c h=>(hR ⟨ag,0,ag,ag,0⟩ a a c (dR _) h).1 rfl) er Q (Heap.IsTuple.un P (S▸D)▸E);exact ae this<|ae S<|.same _
  ·exact .of_refs S X
 | d h=>refine .eN λA x y B r k=>by obtain rfl:=r;obtain rfl:=k;exact gI (hR A _ _ _ (aH (fz _ _) B) h) λq1 Y q3=>⟨Y,q3, .of_refs q1 Y⟩
set_option tactic.hygienic true in
theorem Ov(R:bO B H s):Gu 9300 s (Cc H):=λA a b c u h=>by
 obtain⟨n,x,w,d,e⟩:=h;rename_i l m;refine⟨n,bR (nM R x) λr p v _=>(bR (nM R w) λk j o _=>?_)⟩;have i:A.units<cLine:=by skip;exact aD (.e (.v 0)<|.n 9900) (.I (.v 0)<|.n 9300) rfl [] [_] u
 refine o1 (Gv (s:=s) (N:=9500) (by decide) (λ_ _ _ _ _ h=>h.elim) e A.in1 r k (by skip;exact bJ (.I (.a (.a (.v 0)<|.n 1)<|.v 1)<|.n 9500) (.I (.v 0)<|.n 9300) (.I (.v 1)<|.n 100) rfl [] [_,_] u d) v o) λf q=>?_;have g:r.toArray.size=l.length/\k.toArray.size=m.length:=⟨v.dN,o.dN⟩;by_cases hl:l.length=m.length
 ·have t:c=(sO r.toArray.size).all f:=by rw [q.2,g.1,hl,Nat.min_self,beq_self_eq_true,pR]
  exact t▸⟨RcAt.lists (e:=f) p j (ae g.1<|ae g.2<|ae hl rfl) i q.fZ,RcNeAt.lists (e:=f) p j (ae g.1<|ae g.2<|ae hl rfl) i q.fZ⟩
 ·have t:c=false:=by rw [q.2,beq_false_of_ne hl,Bg]
  exact t▸⟨.lists_lengths p j (ae g.1<|ae g.2<|bne_iff_ne.mpr hl) i, .lists_lengths p j (ae g.1<|ae g.2<|bne_iff_ne.mpr hl) i⟩
theorem Gw(h0:A.units<9001)(R:bO B H s)(r:aW s.heap v x)(c:aW s.heap w y)(e:zg H v w b):Co A s x y b:=by obtain⟨d,e⟩:=e;exact Gv (N:=9300) (by decide) (Ov R) e A [x] [y] (by skip;exact(wJ _ _).elim (λa=>bJ (.I (.a (.v 0)<|.v 1)<|.n 9300) (.e (.v 0)<|.n 9001) (.u (.v 1)<|.n 0) rfl [] [_,_] h0 a.2) λa=>oM (.I (.a (.v 0)<|.v 1)<|.n 9300) (.e (.v 0)<|.n 9001) (.u (.v 1)<|.v 2) (.I (.v 2)<|.n 100) rfl [] [_,_,_] h0 a.2 d) (b7 x ([]) rfl r rfl) (b7 y ([]) rfl c rfl) x y rfl rfl
noncomputable def Gz(k:Int)(v:aj):Bool:=@EX (λz=>Bool) v ai ai ai (λz=>ai) (λi z=>i==k) (λz z=>ai) (λz z=>ai) (λz z=>ai) (λz=>ai) (λz=>ai) λz=>ai
noncomputable def wZ(k:Str)(v:aj):Bool:=@EX (λz=>Bool) v ai ai ai (λz=>ai) (λz z=>ai) (λz z=>ai) (λi z=>i==k) (λz z=>ai) (λz=>ai) (λz=>ai) λz=>ai
theorem Oy{k:Int}{l:List V}{c:List Int}(e:nC l c):∀{b:List aj},ba h l b->b.any (Gz k)=c.contains k/\∀y∈b,∃i t,y= .int i t:=by induction e with| I=>intro b r;obtain rfl:b=[]:=r;exact⟨rfl,λz h=>(dz h).elim⟩| @u i _ _ _ ih=>rintro b ⟨_,m,rfl,⟨t,rfl⟩,d⟩;exact ay (ih d) λg f=>⟨ae LX<|ae g<|ae j5<|ae (BEq.comm (a:=k)) rfl,λy j=>(dH.mp j).elim (λe=>⟨_,_,e⟩)<|f y⟩
theorem GC{k:Str}{l:List V}{c:List Str}(e:kG l c):∀{b:List aj},ba h l b->b.any (wZ k)=c.contains k/\∀y∈b,∃i t,y= .str i t:=by induction e with| I=>intro b r;obtain rfl:b=[]:=r;exact⟨rfl,λz h=>nomatch h⟩| @u i _ _ _ ih=>rintro b ⟨_,m,rfl,⟨t,rfl⟩,d⟩;exact ay (ih d) λg f=>⟨ae LX<|ae g<|ae j5<|ae (BEq.comm (a:=k)) rfl,λy j=>(dH.mp j).elim (λe=>⟨_,_,e⟩)<|f y⟩
theorem GB{l:List V}{c:List aj}{b:Bool}(r:aW h x v)(k:ba h l c)(e:qd x l b):∃f:aj->Bool,c.toArray.any f=b/\∀A s y,y∈c.toArray->EqAt A s y v (f y):=by induction e with| x e=>refine o1 r λt a=>?_;clear r;obtain rfl:=a;obtain⟨g,d⟩:=Oy e k;refine(aM (Gz _) (ae abS g) λA s y j=>o2 (d y<|by simpa using j) λi u a=>?_);obtain rfl:=a;exact .int_int _ _ _ _| z e=>refine o1 r λt a=>?_;clear r;obtain rfl:=a;obtain⟨g,d⟩:=GC e k;refine(aM (wZ _) (ae abS g) λA s y j=>o2 (d y<|by simpa using j) λi u a=>?_);obtain rfl:=a;exact .str_str _ _ _ _
theorem Ox(h:c.cps.toList=[n]):(!(adV a c 0 a.length 1).isEmpty)=a.cps.toList.contains n:=by obtain⟨⟨l⟩⟩:=c;dsimp only at h;subst h;rw [StrLaws.found_one,EW];simp
noncomputable def Oz(n:Bool)(b:Bool):Bool:=if n then !b else b
theorem Cq(d:∀x,r=aa x->∃y,t=aa y)(c:r=ag->t=ag):t.isSome=r.isSome:=by induction r with| none=>exact ae (c rfl) rfl| some x=>exact o1 (d x rfl) λy e=>ae e rfl
theorem Gy(hsys:∃o,B.u.get? iN=aa o)(h0:A.units<9001)(o:B.a)(R:bO B H s)(r:aW s.heap x v)(l:aW s.heap y u)(e:fY H x y b)
 (h:∀L,Q (.bool<|Oz n b) {s with toks:=L}):a0 (aL B.e B.w) A (compareOp (if n then .NotIn else .In) v u) Q E s:=by
 have C:A.in1.units<cLine:=by skip;skip;exact aD (.e (.a (.v 0)<|.n 1)<|.n 9900) (.e (.v 0)<|.n 9001) rfl [] [_] h0
 induction e with
 | U e=>
  refine bG l λa J g F j=>?_;clear l;obtain rfl:=g;refine au (GB r j e) λf p m=>?_;have c:=h s.toks;induction n
  ·exact in_tupleAt f F (m _ _)<|p.symm▸c
  ·exact notIn_tupleAt f F (m _ _)<|p.symm▸c
 | z M=>
  refine o1 l λt g=>?_;clear l;obtain rfl:=g;refine o1 r λO g=>?_;clear r;obtain rfl:=g;have c:=h s.toks;rw [<-Ox M] at c;induction n
  ·exact adT c
  ·exact adU c
 | u hl e=>
  obtain rfl:u=_:=l;refine bR (nM R hl) λJ K j z=>au (GB r j e) λf p m=>?_;have c:=h s.toks;induction n
  ·exact in_listAt f K (m _ _)<|p.symm▸c
  ·exact notIn_listAt f K (m _ _)<|p.symm▸c
 | I d=>
  obtain rfl:u=_:=l;induction d with
  | s hl=>
   have k:=R.e o (R.5 _<|cL _ _ hl<|.inl rfl) hsys;refine bR (R.4 _ _ hl) λG hd j z=>o1 r λt g=>?_;clear r;obtain rfl:=g;obtain⟨k1,k2⟩:=DictOf.u (knd:=sQ B.e B.w) j _;have c:=h<|s.toks+1;rw [show uk (dA _ _)=_ from(Cq (λx q=>au (k1 x q) λv w z=>⟨v,w⟩) k2).symm] at c;induction n
   ·exact wpAny_in_of (v9 _ _ _ _) k hd.mapOf c
   ·exact abT (v9 _ _ _ _) k hd.mapOf c
  | i hl=>
   have k:=R.e o (R.5 _<|cL _ _ hl<|.inl rfl) hsys;refine bR (R.4 _ _ hl) λG hd j z=>o1 r λt g=>?_;clear r;obtain rfl:=g;obtain⟨k1,k2⟩:=DictOf.u (knd:=pP B.e B.w) j _;have c:=h<|s.toks+1;rw [show uk (dA _ _)=_ from(Cq (λx q=>au (k1 x q) λv w z=>⟨v,w⟩) k2).symm] at c;induction n
   ·exact wpAny_in_of (uw _ _ _ _) k hd.mapOf c
   ·exact abT (uw _ _ _ _) k hd.mapOf c
  | @t _ _ _ k0 hl e=>
   have k:=R.e o (R.5 _<|cL _ _ hl<|.inl rfl) hsys;refine bR (R.4 _ _ hl) λxs hd j z=>bG r λN J g F D=>?_;clear r;obtain rfl:=g;obtain⟨k1,k2⟩:=DictOfH.u j _;have c:=h<|s.toks+(Bd<|pP B.e B.w).draws k0;rw [show uk (dA _ _)=_ from(Cq (λx q=>au (k1 x q) λv w z=>⟨v,w⟩) k2).symm] at c;induction n
   ·exact wpAny_in_heap C (wX e F D) k hd c
   ·exact wpAny_notIn_heap C (wX e F D) k hd c
theorem GA(e:aW h x v):(v== .none)=x.u:=by cases x with| f=>exact ae e rfl| e=>exact ae e rfl| d=>exact ae e rfl| x=>exact o1 e λt e=>ae e rfl| z=>exact o1 e λt e=>ae e rfl| U=>exact cm e λa t e z=>ae e rfl
theorem Gx(hsys:∃o,B.u.get? iN=aa o)(h0:A.units<9001)(o:B.a)(R:bO B H s)(r:aW s.heap x v)(k:aW s.heap y u)(e:cg H m x y b)
 (h:∀p,Q (.bool b) {s with toks:=p}):a0 (aL B.e B.w) A (compareOp m v u) Q E s:=by
 induction e with| u e=>exact adN (Gw h0 R r k e).1<|h _| ne e=>exact adO (Gw h0 R r k e).2<|h _| e=>refine o1 r λt a=>?_;clear r;obtain rfl:=a;refine o1 k λl a=>?_;clear k;obtain rfl:=a;exact adQ<|h _| I=>refine o1 r λt a=>?_;clear r;obtain rfl:=a;refine o1 k λl a=>?_;clear k;obtain rfl:=a;exact adS<|h _| j=>refine o1 r λt a=>?_;clear r;obtain rfl:=a;refine o1 k λl a=>?_;clear k;obtain rfl:=a;exact adP<|h _| i=>refine o1 r λt a=>?_;clear r;obtain rfl:=a;refine o1 k λl a=>?_;clear k;obtain rfl:=a;exact adR<|h _| d=>obtain rfl:u=_:=k;exact is_none<|ae (GA r)<|h _| f=>obtain rfl:u=_:=k;exact isNot_none<|ae (GA r)<|h _| c e=>exact Gy (n:=ai) hsys h0 o R r k e h| g e=>exact Gy (n:=af) hsys h0 o R r k e h
theorem SE.I{l r:X}{e f:az}(h:SE B Γ k l e)(K:SE B Γ k r f){d:Env}{ρ:aA}{E:EP}{H:HP}{F:V->V->HP->Prop}{R:aj->aj->aq->Prop}{j:aj->aq->Prop}(I:bM B Γ d A k ρ H s)(q:aK (CR B k) l ρ E (λa H=>aK (CR B k) r ρ E (λb H=>F a b H) H) H)
 (n:∀a v b u H' c,cS B H s H' c->bM B Γ d A k ρ H' c->aW c.heap a v->aW c.heap b u->F a b H'->R v u c) (o:∀v c,dY B A E H s v c->j v c):a0 (aL B.e B.w) A (je e d) (λv w=>a0 (aL B.e B.w) A (je f d) (λu t=>R v u t) j w) j s:=
 h.J I q (λy v H' c S J r G=>K.J J G (λz u m g p i C D=>n y v z u m g (S.u p) i (r.U p.4) C D) λx x z=>o _ _<|z.I S) o
theorem OB(hsys:∃o,B.u.get? iN=aa o)(h:SE B Γ k l e)(t:SE B Γ k r f)(m:LY g f=ai):
 SE B Γ k (.U l g r) (.Compare e [g] [f] p):=λw A ρ E Q H s j q=>
 wpAny_Compare1 (h.I t j q (λa v b u D C S d r i z=>au z λc n q=>Gx hsys (by have:=d.4.3;exact aD (.e (.v 0)<|.n 9001) (.I (.a (.v 0)<|.m 100<|.v 1)<|.a (.n 9000)<|.m 50<|.n 0) rfl [] [_,_] this) d.1 d.2 r i n λx=> .mk (S.u<|iG d.2) Gp q) λy y z=>z) m
noncomputable def kK(e:az):Bool:=e.ctorIdx !=22
theorem zA(h:kK e=af):pS (e::rest) a=(ai,je e a)::pS rest a:=by revert h;refine(@pQ (λe=>kK e=af->pS (e::rest) a=(ai,je e a)::pS rest a) e ?_ ?_ ?_ ?_ ?_ ?_ ?_ ?_ ?_ ?_ ?_ ?_ ?_ ?_ ?_ ?_ ?_ ?_ ?_ ?_ ?_ ?_ ?_ ?_ ?_ ?_ ?_);all_goals (intros;first | rfl | exact bw<|by assumption)
noncomputable def zv(a:List az):Bool:=a.all kK
theorem zu:∀{a:List az},zv a=af->(wc pos<|pS a env).any (·.1)=false:=by
 intro b;induction b with
 | nil=>intro _;exact rfl| cons e a ih=>intro h;simp only [zv,me,eJ] at h;refine ae (zA h.1) ?_;skip;exact ae (ih h.2) rfl
class inductive fk(B:aF)(Γ:aI)(k:Nat):XL->List az->Prop
 | I:fk B Γ k .I []
 | u {x r e es} (h:SE B Γ k x e) (n:kK e=af) (t:fk B Γ k r es):fk B Γ k (.u x r) (e::es)
theorem fk.U{xs:XL}{a:List az}(h:fk B Γ k xs a):zv a=true:=by induction h with| I=>rfl| u h n t ih=>exact oz.mpr ⟨n,ih⟩
theorem fk.J{xs:XL}{i:List az}(h:fk B Γ k xs i):∀{a:Env} {A:bW} {ρ:aA} {E:EP} {H:HP} {s:aq} {Q:List V->HP->Prop} {R:List aj->aq->Prop} {l:aj->aq->Prop} {pos:Pos},
 bM B Γ a A k ρ H s->fA (CR B k) xs ρ E Q H->(∀c b d s',cS B H s d s'->bM B Γ a A k ρ d s'->ba s'.heap c b->b.length=i.length->Q c d->R b s')->(∀v s',dY B A E H s v s'->l v s')->
 a0 (aL B.e B.w) A (spliced<|wc pos<|pS i a) R l s:=by
 induction h with| I=>exactλo q n f=>abU<|n [] [] _ _ (.I o.2) o ba.I rfl q| u h t _ ih=>exactλo q n f=>L4 (h.J o q (λy v d s' S p r q=>ih p q (λc b w m j e g hl q=>n (y::c) (v::b) _ _ (S.u j) e (ba.u (r.U j.4) g) (congrArg (·+1) hl) q) λv s' z=>f v s'<|z.I S) f)<|zA t
theorem ON(h:fk B Γ k xs b)(hl:b.length<=1000):SE B Γ k (.ax xs) (.Tuple b i p):=λg A ρ E Q H s o q=>by
 refine Tuple_<|h.J o q (λm c n e S f r a q=>?_) λy y z=>z;have d:c.toArray.size<=sizeLine:=by refine ae hG<|ae a<|ae kb.symm ?_;skip;exact aD (.I (.v 0)<|.n 16777216) (.I (.v 0)<|.n 1000) rfl [] [_] hl
 exact ay (Gq (O:=λy=>False) (tk:=e.toks) f.2 r) λl j=>yN (b7 _ _ (S.u l) j q) d
theorem OM(h:fk B Γ k xs b)(hl:b.length<=1000):SE B Γ k (.u g xs) (.List b p):=λi A ρ E Q H s o q=>by
 refine List_<|h.J o q (λm c n e S f r a q=>?_) λy y z=>z;have d:c.toArray.size<=sizeLine:=by refine ae hG<|ae a<|ae kb.symm ?_;skip;exact aD (.I (.v 0)<|.n 16777216) (.I (.v 0)<|.n 1000) rfl [] [_] hl
 refine ay (Cm (O:=λy=>False) (g:=g) (tk:=e.toks) f.2 r<|by refine ae r.dN.symm<|ae a ?_;skip;exact aD (.I (.v 0)<|.n 16777216) (.I (.v 0)<|.n 1000) rfl [] [_] hl) λl j=>?_;exact yN (b7 _ _ (S.u j) kJ<|q _ l) d
noncomputable def w4(a:Bool):BoolOp:=if a then .And else .Or
theorem OJ(h:fk B Γ k xs C):SE B Γ k (.cU a xs) (.BoolOp (w4 a) C p):=by
 induction h with
 | I=>exactλi A ρ E Q H s o q=>q.elim
 | u h _ t ih=>
  refineλi A ρ E Q H s o q=>?_;revert ih q;induction t with
  | I=>intro ih q;exact BoolOp_one<|h.J o q (λy v c d S f r q=>(b7 y c S r<|q.1 rfl)) λx x z=>z
  | u G F D=>
   intro ih q
   have w:∀y v c d b j,cS B H s c d->bM B Γ i A k ρ c d->aW d.heap y v->(b=a->tu (CR B k) a _ ρ E Q c)/\(b=(!a)->Q y c)->(b=a->a0 (aL B.e B.w) A (je (.BoolOp (w4 a) _ p) i) (g8 B Q H s) (dY B A E H s) {d with toks:=j})/\(b=(!a)->g8 B Q H s v {d with toks:=j}):=λy v c d b j S f r q=>
    have n:=S.u (iG (t:=j) f.2)
    ⟨λe=>dX (ih i A ρ E Q c _ (f.u<|iG f.2)<|q.1 e) (λv l z=>z.I n) λv l z=>z.I n,λe=>(b7 y c n r<|q.2 e)⟩
   induction a with
   | true=>
    refine BoolOp_and<|h.J o q (λy v c d S f r q=>au (q.2 rfl) λb m q=>zt f.2 r m λj=>?_) λx x z=>z;have g:=w y v c d b j S f r q;induction b
    ·exact ae (if_neg gp)<|g.2 rfl
    ·exact ae (if_pos rfl)<|g.1 rfl
   | false=>
    refine BoolOp_or<|h.J o q (λy v c d S f r q=>au (q.2 rfl) λb m q=>zt f.2 r m λj=>?_) λx x z=>z;have g:=w y v c d b j S f r q;induction b
    ·exact ae (if_neg gp)<|g.1 rfl
    ·exact ae (if_pos rfl)<|g.2 rfl
noncomputable def uO(B:aF)(Q:Bool->HP->Prop)(H:HP)(s:aq)(b:Bool)(c:aq):Prop:=∃a,cS B H s a c/\Q b a
theorem uO.I{B:aF}{Q:Bool->HP->Prop}{H H':HP}{s d:aq}(S:cS B H s H' d){b:Bool}{a:aq}(x:uO B Q H' d b a):uO B Q H s b a:=
 au x λc U q=>aM c (S.u U) q
noncomputable def SB(B:aF)(Γ:aI)(k:Nat)(x:Mine.Internal.B)(e:az):Prop:=
 ∀a A ρ E K H s,bM B Γ a A k ρ H s->gz (CR B k) x ρ E K H->a0 (aL B.e B.w) A (isTrue e a<|je e a) (uO B K H s) (dY B A E H s) s
theorem SE.jE(h:SE B Γ k x e){env A ρ E H s H' s'}{Q:QV}(o:bM B Γ env A k ρ H s)(S:cS B H s H' s')(q:aK (CR B k) x ρ E Q H'):a0 (aL B.e B.w) A (je e env) (g8 B Q H s) (dY B A E H s) s':=
 dX (h env A ρ E Q H' s' (o.u S) q) (λy y z=>z.I S) λy y z=>z.I S
noncomputable def zw(e:az):Bool:=!([0,3,5,15]:List Nat).contains e.ctorIdx
theorem OC(h:zw e=af):isTrue e b a=(do let v<-a;EY e.pos;Bo [v] (truthy v)):=by revert h;refine(@pQ (λe=>zw e=af->isTrue e b a=(do let v<-a;EY e.pos;Bo [v] (truthy v))) e ?_ ?_ ?_ ?_ ?_ ?_ ?_ ?_ ?_ ?_ ?_ ?_ ?_ ?_ ?_ ?_ ?_ ?_ ?_ ?_ ?_ ?_ ?_ ?_ ?_ ?_ ?_);all_goals (intros;first | rfl | exact bw<|by assumption)
theorem OI(h:SE B Γ k x e)(hp:zw e=af):SB B Γ k (.ah x) e:=λd A ρ E K H s o q=>
 wpAny_isTrue_value (h.J o q (λy v f i S a r z=>au z λb c q=>zt a.2 r c λg=>(aM f (S.u<|iG a.2) q)) λw w z=>z) (OC hp)
theorem OE(hsys:∃o,B.u.get? iN=aa o)(h:SE B Γ k l e)(w:SE B Γ k r f)(m:LY g f=ai):
 SB B Γ k (.ah<|.U l g r) (.Compare e [g] [f] p):=λx A ρ E K H s j q=>
 wpAny_isTrue_Compare1 (h.I w j q (λa v b u C F S d r i z=>au z λc n q=>Gx hsys (by have:=d.4.3;exact aD (.e (.v 0) (.n 9001)) (.I (.a (.v 0) (.m 100 (.v 1))) (.a (.n 9000) (.m 50 (.n 0)))) rfl [] [_,_] this) d.1 d.2 r i n λD=>λy y y=>by
  refine au q λG t q=>?_;cases t
  exact(aM C (S.u (iG d.2)) q)) λy y z=>z) m
theorem OG(h:SB B Γ k b e):SB B Γ k (.j b) (.UnaryOp .Not e p):=λa A ρ E K H s o q=>wpAny_isTrue_Not<|h a A ρ E _ H s o q
class inductive rN(B:aF)(Γ:aI)(k:Nat):BL->List az->Prop
 | I:rN B Γ k .I []
 | u {b r e es} (h:SB B Γ k b e) (t:rN B Γ k r es):rN B Γ k (.u b r) (e::es)
theorem rN.aB(h:rN B Γ k bs i):∀(a:Env) (A:bW) (ρ:aA) (E:EP) (H:HP) (s:aq) (K:Bool->HP->Prop),bM B Γ a A k ρ H s->gZ (CR B k) bs ρ E K d H->a0 (aL B.e B.w) A (allTrue (w4 d) i a) (uO B K H s) (dY B A E H s) s:=by
 induction h with
 | I=>
  intro a A ρ E H s K o q;induction d
  ·exact wpAny_allTrue_Or_nil<|aM H (.I o.2) q
  ·exact wpAny_allTrue_And_nil ⟨H, .I o.2,q⟩
 | u h _ ih=>
  intro a A ρ E H s K o q;have f:=h a A ρ E _ H s o q;have g:=λc e S q=>dX (ih a A ρ E c e K (o.u S) q) (λy y z=>z.I S) λy y z=>dY.I (H:=H) (s:=s) S z;induction d
  ·refine wpAny_allTrue_Or_cons (dX f (λb e z=>au z λc S z=>?_) λy y z=>z);induction b
   ·exact ae (if_neg gp)<|g c e S<|z.1 rfl
   ·exact ae (if_pos rfl)<|aM c S<|z.2 rfl
  ·refine wpAny_allTrue_And_cons (dX f (λb e z=>au z λc S z=>?_) λy y z=>z);induction b
   ·exact ae (if_neg gp)<|aM c S<|z.2 rfl
   ·exact ae (if_pos rfl)<|g c e S<|z.1 rfl
theorem OD(h:rN B Γ k bs a):SB B Γ k (.aB bs) (.BoolOp .And a p):=λb A ρ E K H s o q=>abV<|h.aB (d:=af) _ _ _ _ _ _ _ o q
theorem OH(h:rN B Γ k bs a):SB B Γ k (.cQ bs) (.BoolOp .Or a p):=λb A ρ E K H s o q=>abV<|h.aB (d:=ai) _ _ _ _ _ _ _ o q
theorem OL(h:SB B Γ k t e)(j:SE B Γ k a f)(i:SE B Γ k b g):SE B Γ k (.d t a b) (.IfExp e f g p):=λd A ρ E Q H s o q=>by
 refine wpAny_IfExp<|dX (h d A ρ E _ H s o q) (λc l z=>au z λm S z=>?_) λy y z=>z;induction c
 ·exact ae (if_neg gp)<|i.jE o S<|z.2 rfl
 ·exact ae (if_pos rfl)<|j.jE o S<|z.1 rfl
theorem zB(h:fk B Γ k xs j)(p:∀h,B.u.StaysIn h->∃i,(i=abY\/i=abZ\/i=abX)/\uv (aL B.e B.w) h (keeperOf f) i){E:EP}{H:HP}{Q:List V->HP->Prop}{R:aj->aq->Prop}{l:aj->aq->Prop}{pos:Pos}
 (o:bM B Γ env A k ρ H s) (q:fA (CR B k) xs ρ E Q H)
 (n:∀g c d a,cS B H s d a->bM B Γ env A k ρ d a->ba a.heap g c->c.length=j.length->Q g d->a0 (aL B.e B.w) A (gW f<|first++c) R l a) (w:∀v a,dY B A E H s v a->l v a):
 a0 (aL B.e B.w) A (E1 pos f first (wc pos<|pS j env) []) R l s:=by
 have hp:=zu (pos:=pos) (env:=env) h.U;have b:=h.J (pos:=pos) (R:=λc a=>B.u.StaysIn a.heap/\a0 (aL B.e B.w) A (gW f<|first++c) R l a) o q (λg c d a S m r hl q=>⟨m.2.1,n g c d a S m r hl q⟩) w;induction h with
 | I=>exact callWith_of (P:=λh=>B.u.StaysIn h) rfl p<|evalArgs_nil3 ⟨o.2.1,n [] [] H s (.I o.2) o ba.I rfl q⟩| @u x r e j h0 y t=>rw [zA y] at b hp⊢;exact callWith_of (P:=λh=>B.u.StaysIn h) (ae hp rfl) p<|abW b
theorem zC(b:B.a)(c:we B.K f=af):∀h,B.u.StaysIn h->∃a,(a=abY\/a=abZ\/a=abX)/\uv (aL B.e B.w) h (keeperOf f) a:=λh e=>keeps_K c h<|b.1.keeps e
noncomputable def qj(B:aF)(Γ:aI)(f:Nat):Bool:=!Γ.hs||B.I.J f
theorem GD(h:qj B Γ f=af)(x:Γ.hs=af\/A.handled=ag):B.I.J f=af\/A.handled=none:=by
 unfold qj at h;refine cO x (λx=>?_) λx=>?_
 ·rw [x] at h;exact .inl (by simpa using h)
 ·exact .inr x
theorem CR.aN{E:EP}{Q:QV}{H:HP}{b:Env}{ρ:aA}(c:CR B k f vs E Q H)(o:bM B Γ b A k ρ H s)(d:qj B Γ f=af)(r:ba s.heap vs a):a0 (aL B.e B.w) A (gW (.ref f) a) (g8 B Q H s) (dY B A E H s) s:=
 Bl (L5 (c A s a o.1 o.2 o.4.up (GD d o.5) r) λr g z=>by
  induction r with
  | error e=>exact z
  | ok f=>induction f<;>exact z)
theorem OQ(h:fk B Γ k xs e)(i:Γ.a.lookup x=aa .globalImplicit)(hd:iT x=af)(m:m8 B.K jN x=aa (aa<|.ref f))(l:we B.K (.ref f)=af)(j:qj B Γ f=af):
 SE B Γ k (.aN f xs) (.Call (.Name x p) e [] b):=λd A ρ E Q H s o q=>by
 have c:d.kindOf x=aa .globalImplicit:=by unfold m9;exact ae o.3.2 i
 refine EZ<|yK o.3.3 c (Bj ?_ (mg_of o.1.1 o.1.2 m) ?_)<|rM hd
 ·exact ae o.3.4<|o.1.2.keeps o.2.1
 ·exact zB h (zC o.1 l) o q (λn t w u S g r hl q=>dX (CR.aN q g j r) (λv a z=>z.I S) λv a z=>z.I S) λy y z=>z
noncomputable def Cr(K:eK)(C f:hF)(nm:Str):Bool:=plainGet K C nm&&mZ K (.ref C) nm==aa (aa<|.ref f)&&isFn K (.ref f)&&we K (.ref f)
theorem ia.e{h:aG}{d:Nat}{a:List Str}{b:List (Option V)}{nm:Str}(x:ia h d a b)(c:nm∉a):∃o,h.get? d=aa o/\lookIn nm o=aa none:=by obtain⟨p,m,⟨o,k,n,j,i,g,_,f⟩,l,e⟩:=x;exact(aM o j<|by rw [Gh i g,f,e nm c])
theorem OO(i:my o=af)(hp:zv a=af)(hl:a.length<30)(h:b.endLine=pos.line):
 je (.Call (.Attribute o c b) a [] pos) env=(do
  let d<-je o env
  EY b.atName
  let (f,first)<-Bo [d] (getMethod d c (do return(<-importBound o env).getD af))
  E1 pos f first (wc pos (pS a env)) []):=by
 show(do
  let d<-LM o c env (je o env)
  EY b.atName
  methodCall o c b pos env d (a.length+0) (wc pos (pS a env)) (backToKw pos (keywordEach [] env)))=_
 rw [Ck i];have hf:ab0 (a.length+0) (wc pos<|pS a env) (backToKw pos<|keywordEach [] env)=true:=by delta ab0;have:=zu (pos:=pos) (env:=env) hp;rw [LK] at this;simp only [eJ,dT,decide_eq_true_eq];refine⟨⟨λx e=>by simpa using this x e,λx e=>by cases e⟩,?_⟩;exact(hl:a.length+0+0<30)
 delta methodCall;refine ae hf ?_;have g:methodCallPos af o env b pos=eY pos:=if_pos<|wd.mpr<|.inr<|beq_iff_eq.mpr h;exact ae g rfl
theorem OR(h:SE B Γ k o e)(t:fk B Γ k xs m)(V:my e=af)(hl:m.length<30)(l:b.endLine=d.line)
 (j:Cr B.K C f nm=af) (T:(B.I.e C).contains nm=ai) (R:qj B Γ f=af):
 SE B Γ k (.I o C f xs) (.Call (.Attribute e nm b) m [] d):=λW A ρ E Q H s L q=>by
 refine MethodCall_ (h.J L q (λy v H' G S g r z=>ay z λw K=>cm w λa F P U=>?_) λx x z=>z)<|OO V t.U hl l;subst P;obtain rfl:=zr r;refine qa (g.2.4 a _ U) λc0 c1 c2 c3=>au (c3.e<|by simpa using T) λn Z Y=>?_;delta Cr at j;simp only [eJ,beq_iff_eq] at j;refine ay j λD M=>?_;obtain⟨⟨p,O⟩,N⟩:=D;have I:yJ G.heap a (yI C<|a - 1) C (aa n):=⟨c2,rfl,rfl,Z⟩;exact method_fn (oR g.1 g.2) I (plainGet_of p).1 (plainGet_of p).2 O (beq_iff_eq.mp N) (((ae Y rfl):(lookIn nm n).map _=_))<|zB (first:=[.ref a]) t (zC g.1 M) g K (λF us H'' c u i J hl q=>dX (CR.aN q i R<|ba.u kJ J) (λv c z=>z.I<|S.u u) λv c z=>z.I<|S.u u) λx x z=>z.I S
noncomputable def Cs(K:eK)(C f:hF):Bool:=makesIn K C&&mZ K (.ref C) "__init__"==aa (aa<|.ref f)&&Bp K (.ref f)==aa (.type "function")&&we K (.ref C)
theorem GF{h:aG}{d:Nat}(e:h.get? d=aa yO):h.Ns1 d λz=>none:=Heap.Ns1.of_empty<|y0 _ (#[]) _ e rfl (λe a=>by simp at a) λz=>rfl
theorem ia.OS{d:Nat}{a:List Str}(e:h.get? d=aa yO):ia h d a (oF a.length ag):=by
 refine(wC (List.length_replicate ..) _ (GF e) (λk nm b=>?_) λnm z=>rfl);have:((oF a.length (ag:Option V))[k]?).join=none:=by refine ae (ab1) ?_;split<;>rfl
 exact ae this rfl
theorem OT(d:C≠0)(c:n=(B.I.e C).length)(R:bO B H s):H (s.heap.objs.size+1)=ag/\aV B (λz=>False) H s (H.J (s.heap.objs.size+1)<|.b C<|oF n ag) {s with heap:=(s.heap.push yO).push (yI C s.heap.objs.size)}:=by
 subst c;refine aV.J (s':={s with heap:=(s.heap.push yO).push (yI C s.heap.objs.size)}) R (λb o e=>hJ _<|hJ _ e) (.inl rfl) (λb a=>?_) ⟨d,jP<|dR _,?_,?_⟩ rfl rfl
 ·have:s.heap.objs.size<=b:=by
   rcases a with rfl | a
   ·exact cP (.I (.v 0)<|.a (.v 0)<|.n 1) rfl [_] []
   ·have:b+1=s.heap.objs.size+1:=a;exact aD (.I (.v 0)<|.v 1) (.qe (.a (.v 1)<|.n 1)<|.a (.v 0)<|.n 1) rfl [] [_,_] a
  cases e:s.heap.get? b with| none=>rfl| some o=>exact absurd (sR e)<|LH.mpr this
 ·refine(?_:((s.heap.push yO).push<|yI C s.heap.objs.size).get? (s.heap.objs.size+1)=_);refine ae (show s.heap.objs.size+1=(s.heap.push yO).objs.size by rw [Bq]) ?_;rw [jO _ rfl,Bq];rfl
 ·exact ia.OS<|hJ _<|jO _ rfl
theorem OU(h:fk B Γ k xs J)(Y:C≠0)(F:n=(B.I.e C).length)(T:Γ.a.lookup x=aa .globalImplicit)(hd:iT x=af)(W:m8 B.K jN x=aa (aa<|.ref C))(D:Cs B.K C f=af)(U:qj B Γ f=af):
 SE B Γ k (.aT C f n xs) (.Call (.Name x p) J [] m):=λG A ρ E Q H s o q=>by
 unfold Cs at D;simp only [eJ,beq_iff_eq] at D;refine ay D λK R=>?_;obtain⟨⟨k1,k2⟩,k3⟩:=K;have u:G.kindOf x=aa .globalImplicit:=by unfold m9;exact ae o.3.2 T
 refine EZ<|yK o.3.3 u (Bj ?_ (mg_of o.1.1 o.1.2 W) ?_)<|rM hd
 ·exact ae o.3.4<|o.1.2.keeps o.2.1
 ·refine zB h (zC o.1 R) o q (λvs j H' O S c r hl q=>?_) λw w z=>z;have X:=oR c.1 c.2;refine ay (OT (n:=n) Y F c.2) λZ i=>?_;have q:=q _ Z;refine Bl ?_;obtain⟨V,g,d,t,os⟩:=O;refine make_core (makes_of X k1) (Bi X k2) (λa=>bind_fn X a k3) (.inl rfl) ?_;have b:=c.u i;refine L5 (q (A.under<|.builtin "type.__call__" ⟨.ref C::j,[]⟩) _ (.ref (V.objs.size+1)::j) b.1 b.2 b.4.e (GD U b.5)<|ba.u kJ<|r.U i.4) λr N z=>?_;induction r with
  | error e=>exact qa (Ge A C j) λM u2 u3 L=>dY.I (S.u i)<|dY.as (A:=A) z L.symm λl hl=>⟨[],ae M hl⟩
  | ok f=>induction f with| ret v=>obtain⟨y,I,S',P,rfl,z⟩:=z;obtain rfl:=Oo P;exact⟨rfl, .d _,I,(S.u i).u S',kJ,z⟩| _=>exact z
end
section
open PySem PySem.W PyProof.Rows PySem.Calls PySem.SeqAt Builtin Builtin.ObjectAttr Builtin.Getset_descriptor
variable {B:aF} {Γ:aI} {k:Nat} {A:bW} {E:aj->aq->Prop} {s:aq}
theorem GH{K:eK}{x C f:Nat}{g:dw}{c:Str}{p:k9}{v:aj}{b:Bool}{m:Str->Option aj}{o:List Str}{Q:Fin->aq->Prop}(X:K.In s.heap)(w:s.heap.get? x=aa g)(l:g.cls= .ref C)(G:(v7 K C).any (·.hasDict)=af)(hd:g.dict=aa f)
 (F:s.heap.Ns1 f m) (z:Br m o) (u:o.length<=1000)
 (h:∀e,e.Ns1 f (λy=>if y=c then aa v else m y)->uy f s.heap e->Q (.done (.ret .none)) {s with heap:=e,toks:=s.toks+1}):
 a0 (aL B.e B.w) A (L9 (.ref x) (.ref C) (.str c p) c v b) Q E s:=by
 refine au (v8 G) λN H k=>?_;obtain⟨L,r,t,q⟩:=g;skip;subst l hd;refine aJ<|cK<|aJ<|aJ<|E3 w<|aJ<|(L6 X H).here<|ae k<|cK (a:=aa f) ?_;skip;skip;exact aJ<|cK<|aJ<|wpAny_nsSet1 F λe d D=>fW (d.count<|z.cons c v) λM I J i j n=>aJ<|ab4 i (ae j<|ab3<|aH n<|ae dK<|ae L8<|aD (.I (.a (.v 0)<|.n 1)<|.a (.n 16777216)<|.n 1) (.I (.v 0)<|.n 1000) rfl [] [_] u)<|cK<|h e d D
theorem OV{a:List Str}(d:a.Nodup){i j:Nat}{nm:Str}(h:a[i]?=aa nm)(e:a[j]?=aa nm):i=j:=by refine o1 (oH.mp h) λg c=>?_;refine o1 (oH.mp e) λf b=>?_;exact(List.getElem_inj d).mp<|c.trans b.symm
theorem ia.J{h g:aG}{d j:Nat}{b:List Str}{f:List (Option V)}{nm:Str}{y:V}{v:aj}{m:Str->Option aj}(t:b.Nodup)(hl:b[j]?=aa nm)(o:f.length=b.length)
 (w:∀(k:Nat) (nm:Str),b[k]?=aa nm->match(f[k]?).join with | some x=>∃v,m nm=aa v/\aW h x v | none=>m nm=ag) (u:∀nm:Str,nm∉b->m nm=ag)
 (k:e8 h g) (l:g.Ns1 d (λy=>if y=nm then aa v else m y)) (r:aW g y v):ia g d b (f.set j<|aa y):=by
 refine(wC (ae ux o) _ l (λi a hi=>?_) λa hi=>?_)
 ·by_cases e:i=j
  ·subst e;obtain rfl:a=nm:=bP<|hi.symm.trans hl;have n:i<f.length:=by exact ae o<|(oH.mp hl).1
   refine ae (pT n) ?_;exact⟨v,if_pos rfl,r⟩
  ·refine ae (wg λq=>e q.symm) ?_;have c:a≠nm:=λq=>e<|OV t hi<|q▸hl;have:=w i a hi;refine ae (if_neg c) ?_;cases q:(f[i]?).join with
   | none=>replace this:=q▸this;exact this| some x=>replace this:=q▸this;exact au this λv s p=>⟨v,s,p.U k⟩
 ·have c:a≠nm:=λq=>hi (q▸wh hl);exact ae (if_neg c)<|u a hi
noncomputable def zD(K:eK)(C:hF)(nm:Str):Bool:=plainOver K C&&takerIn K C nm==aa ag&&(v7 K C).any (·.hasDict)&&mZ K (.ref C) "__setattr__"==aa (aa<|.builtin "object.__setattr__")
theorem OY(b:B.a)(R:bO B H s)(F:H a=aa (.b C f))(hl:(B.I.e C)[j]?=aa nm)(U:(B.I.e C).Nodup)(O:(B.I.e C).length<=1000)(k:zD B.K C nm=af)(r:aW s.heap y v)
 (h:∀x,aV B (λz=>False) H s (H.J a<|.b C<|f.set j<|aa y) x->Q () x):a0 (aL B.e B.w) A (setAttr (.ref a) nm v) Q E s:=by
 unfold zD at k;simp only [eJ,beq_iff_eq] at k;obtain⟨⟨⟨k1,k2⟩,k3⟩,N⟩:=k;refine qa (R.4 a _ F) λc0 g u L=>?_;have X:=oR b R;refine hW L.I λo es n hd z=>?_;have I:yJ s.heap a (yI C<|a - 1) C (aa o):=⟨u,rfl,rfl,hd⟩;refine L7 X I N<|osa_open (s:={s with toks:=s.toks+1}) X I k1 k2 λbb=>?_;skip;obtain⟨e0,m,K,e6,J⟩:=L
 have S:Br m (B.I.e C):=λy P=>by
  refine cO (Bb<|y∈B.I.e C) (λq=>?_) λq=>?_
  ·exact q
  ·exact absurd (J y q) P
 refine GH (s:={s with toks:=s.toks+1}) X u rfl k3 rfl K S O λG t T=>h _ ?_;have i:∀b,gj a (.b C<|f.set j<|aa y) b↔gj a (.b C f) b:=λb=>sV;have p:a - 1≠a:=sW<|Nat.sub_lt g ab2;have l:∀b o,b≠a - 1->s.heap.get? b=aa o->G.get? b=aa o:=λb o q e=>(T.2 b q).trans e
 have w:e8 s.heap G:=λb o it n d W c=>l b o (λq=>by
  subst q;rw [hd] at d;obtain rfl:=bP d;refine fW K λo' Z n' D M z=>?_;rw [hd] at D;obtain rfl:=bP D
  rw [M] at c;exact wF c) d
 exact aV.oP R F (λz z q=>by cases q) (λz z q=>by cases q) i (λb o Y d=>l b o (λq=>Y<|.inr<|by subst q;skip;exact j4 (aD (.I (.a (.v 0)<|.n 1)<|.v 1) (.u (.a (.v 0)<|.n 1)<|.v 1) rfl [] [_,_] (kZ<|aD (.I (.n 1)<|.v 0) (.I (.n 1)<|.v 0) rfl [] [_] g))<|aD (.I (.v 0)<|.a (.v 1)<|.n 1) (.qe (.a (.v 1)<|.n 1)<|.v 0) rfl [] [_,_] (kZ<|aD (.I (.n 1)<|.v 0) (.I (.n 1)<|.v 0) rfl [] [_] g)) d) ⟨c0,g,l _ _ p.symm u,ia.J U hl e0 e6 J w t<|r.U w⟩ rfl rfl
end
section
open PySem PySem.W PyProof.Rows PySem.Calls PySem.SeqAt
variable {B:aF} {Γ:aI} {k:Nat} {A:bW} {E:aj->aq->Prop} {s:aq}
theorem GJ{l:List d}{a b:d}(c:(l.map f).Nodup)(h:a∈l)(g:b∈l)(e:f a=f b):a=b:=by induction l with| nil=>exact absurd h dz| cons x l ih=>have c:=la.mp c;exact(dH.mp h).elim (λp=>(dH.mp g).elim (λq=>p.trans q.symm) λq=>(c.1<|ae p.symm<|ae e<|oI q).elim) λp=>(dH.mp g).elim (λq=>(c.1<|ae q.symm<|ae e.symm<|oI p).elim) λq=>ih c.2 p q
theorem GK{l:List (d×c)}{a:d}{b e:c}(f:(l.map (·.1)).Nodup)(h:(a,b)∈l)(g:(a,e)∈l):b=e:=(dI<|GJ f h g rfl).2
theorem Cu{l:List (d×c)}{a a':d}{b:c}(e:(l.map (·.2)).Nodup)(h:(a,b)∈l)(f:(a',b)∈l):a=a':=(dI<|GJ e h f rfl).1
theorem aI.U(h:Γ.J=af):(Γ.b.map (·.1)).Nodup:=by unfold aI.J at h;simp only [eJ,decide_eq_true_eq] at h;exact h.1.1
theorem aI.I(h:Γ.J=af):(Γ.b.map (·.2)).Nodup:=by unfold aI.J at h;simp only [eJ,decide_eq_true_eq] at h;exact h.1.2
theorem w5{ρ:aA}{i j:Nat}{y:Option V}(h:j≠i):(ρ.set i y)[j]?=ρ[j]?:=wg λq=>h q.symm
theorem OZ{ρ:aA}{i:Nat}{y x:V}(h:((ρ.set i<|aa y)[i]?).join=aa x):x=y:=by
 by_cases a:i<ρ.length
 ·rw [pT a] at h;exact(bP h).symm
 ·rw [Bs<|by rw [ux];exact aD (.I (.v 0)<|.v 1) (.nt (.v 1)<|.v 0) rfl [] [_,_] a] at h;exact a9 h
noncomputable def uP(a:Env)(x:Str)(b:Nat):Prop:=b=a.locals\/a.cells.lookup x=aa b
theorem Cv{ρ:aA}{i:Nat}:((ρ.set i ag)[i]?).join=none:=by
 by_cases h:i<ρ.length
 ·refine ae (pT h) ?_;rfl
 ·refine ae (Bs<|ae ux<|aD (.I (.v 0)<|.v 1) (.nt (.v 1)<|.v 0) rfl [] [_,_] h) ?_;rfl
theorem GI{h g:aG}{L c:Nat}{m:Str->Option aj}{z:Option aj}(l:h.Ns L m)(k:∀b f,b≠L->h.get? b=aa f->g.get? b=aa f)(n:h.IsCell c z):g.IsCell c z:=
 fW l λo p q e d y=>au n λa i j=>aM a (k c a (oK e d i j BJ) i) j
theorem Ct(q:d=x)(e:Γ.a.lookup x=aa a)(c:Γ.a.lookup d=aa b)(n:a≠b):False:=n<|bP<|e.symm.trans<|q▸c
theorem g7.e{d:Env}{ρ:aA}{H:HP}{h j:aG}{m k:Str->Option aj}{n:Str}{i:Nat}{z:Option V}(x:g7 B Γ d ρ H h)(r:e8 h j)(u:(n,i)∈Γ.b)(w:Γ.a.lookup n=aa .local)(t:∀b s,b≠d.locals->h.get? b=aa s->j.get? b=aa s)
 (v:h.Ns d.locals m) (hl:∀x i,(x,i)∈Γ.b->Γ.a.lookup x=aa .local->rL h (ρ[i]?).join (m x)) (p:j.Ns d.locals k) (l:∀y,y≠n->k y=m y) (A:rL j ((ρ.set i z)[i]?).join (k n)):g7 B Γ d (ρ.set i z) H j:=by
 have o:∀{a g},(a,g)∈Γ.b->g=i->a=n:=λh q=>Cu (aI.I x.1) h<|q▸u;refine⟨x.1,x.2,x.3,x.4,x.5,aM k p λa g e f=>?_,λa g e f=>?_,x.8,x.9,x.10,λa c e=>⟨o1 (x.11 a c e).1 λz q=>⟨z,GI v t q⟩,(x.11 a c e).2⟩⟩
 ·by_cases q:a=n
  ·subst q;have C:i=g:=GK (aI.U x.1) u e;exact ae C.symm A
  ·exact ae (w5 λz=>q<|o e z)<|ae (l a q)<|(hl a g e f).U r
 ·exact ae (w5 λq=>f.elim (λz=>Ct (o e q) w z nofun) λz=>Ct (o e q) w z nofun)<|iC (x.7 a g e f) λc z I G F E D=>jQ c z I (GI v t G) F E<|D.U r
theorem GN(R:bO B H s)(l:s.heap.Ns L m)(f:a.Ns L j)(k:∀b c,b≠L->s.heap.get? b=aa c->a.get? b=aa c)(h:¬fp H L)(i:B.u.get? L=ag)(p:O L):aV B O H s H {s with heap:=a,toks:=t}:=
 by
 exact fW l λo A C e d z=>fW f λg r u w x z=>aV.uK (L:=L) (s':={s with heap:=a,toks:=t}) R k h i (.inr p) (λc v=>⟨aM g w λz z z=>⟨_,_,x⟩,λy n q=>wF<|(jD e d v).symm.trans q⟩) rfl rfl
theorem GO{ρ:aA}{i:Nat}{y:V}{v:aj}{z:Option aj}(b:e8 h a)(r:aW h y v)(e:z=aa v):rL a ((ρ.set i<|aa y)[i]?).join z:=λu c=>aM v e<|OZ c▸r.U b
theorem GP{x:Str}{i:Nat}{y:V}{v:aj}{Q:Unit->aq->Prop}(o:bM B Γ d A k ρ H s)(I:(x,i)∈Γ.b)(hf:Γ.a.lookup x≠aa .free)(r:aW s.heap y v)
 (h:∀s',aV B (uP d x) H s H s'->bM B Γ d A k (ρ.set i<|aa y) H s'->Q () s'):a0 (aL B.e B.w) A' (Ma d x v) Q E s:=by
 have O:d.kindOf x=Γ.a.lookup x:=by unfold m9;exact ae o.3.2 rfl
 refine au o.3.6 λm N hl=>?_;rcases aI.u o.3.1 I with p | p | p
 ·refine ab5 (O.trans p) N (λG M W=>?_) (ae o.3.3 rfl);have C:∀b l,b≠d.locals->s.heap.get? b=aa l->G.get? b=aa l:=λb l q e=>(W.2 b q).trans e;have S:aV B (uP d x) H s H {s with heap:=G,toks:=s.toks+1}:=GN o.2 N M C o.3.8 o.3.9<|.inl rfl;exact h _ S ⟨o.1,S.1,o.3.e S.4 I p C N hl M (λy q=>if_neg q)<|GO S.4 r<|if_pos rfl,o.4.u S,o.5⟩
 ·refine iC (o.3.7 x i I<|.inl p) λc z T e2 e3 e4 e5=>wpAny_storeName_cell o.3.3 (O.trans p) T e2 (λG F W=>?_);have C:∀b l,b≠c->s.heap.get? b=aa l->G.get? b=aa l:=λb l q e=>(W.2 b q).trans e
  have S:aV B (uP d x) H s H {s with heap:=G}:=by
   refine au e2 λoc K P=>au F λU J w=>?_
   exact aV.uK (L:=c) (s':={s with heap:=G}) o.2 C e3 e4 (.inr (.inr T)) (λl e=>
   ⟨aM U J (λes n q=>nomatch (jD K P e).symm.trans q),λit n q=>nomatch (jD K P e).symm.trans q⟩) rfl rfl
  have X:d.locals≠c:=λq=>fW N λw w w eL dL w=>au e2 λw ec dc=>nA eL dL ec dc BJ q;have nq:∀{n' D},(n',D)∈Γ.b->D=i->n'=x:=λh q=>Cu (aI.I o.3.1) h<|q▸I;refine h _ S ⟨o.1,S.1,⟨o.3.1,o.3.2,o.3.3,o.3.4,o.3.5,aM m (N.at λo=>C _ o X) λu D a j=>?_,λu D a j=>?_,o.3.8,o.3.9,o.3.10,λu t a=>⟨?_,(o.3.11 u t a).2⟩⟩,o.4.u S,o.5⟩
  ·exact ae (w5 λq=>Ct (nq a q) p j nofun)<|(hl u D a j).U S.4
  ·refine iC (o.3.7 u D a j) λt z' R f2 f3 f4 f5=>?_;by_cases f:t=c
   ·have:=o.3.10 u x c (f▸R) T;have iq:i=D:=GK (aI.U o.3.1) I<|this▸a;exact ae iq.symm<|jQ c (aa v) (f▸R) F e3 e4<|GO S.4 r rfl
   ·exact ae (w5 λq=>f<|bP<|R.symm.trans<|nq a q▸T)<|jQ t z' R (au f2 λg Z Y=>aM g (C t g f Z) Y) f3 f4<|f5.U S.4
  ·by_cases f:t=c
   ·exact⟨_,f▸F⟩
   ·exact o1 (o.3.11 u t a).1 λz2 q=>au q λg Z Y=>⟨z2,aM g (C t g f Z) Y⟩
 ·exact absurd p hf
theorem uQ(o:bM B Γ a A k ρ H s)(e:(x,i)∈Γ.b)(hf:Γ.a.lookup x≠aa .free)(r:aW s.heap y v)
 (h:∀c,aV B (gC a) H s H c->bM B Γ a A k (ρ.set i<|aa y) H c->Q () c):a0 (aL B.e B.w) f (Ma a x v) Q E s:=
 GP o e hf r λc S d=>h c (S.U λb q=>q.imp id λq=>⟨x,q⟩) d
theorem rJ.I{c:aG}{b:Nat}{o:dw}(x:rJ c b o)(n:∀d n,o.data≠ .dict d n):c.get? b=aa o:=au x λa e q=>e.trans<|congrArg (λa=>aa {o with slots:=a})<|q n
theorem rJ.e{e:aG}{b:Nat}{c:aj}{d:Option Nat}{f:Array aj}{a:Array (Option aj)}(x:rJ e b ⟨c,d, .fields f,a⟩):e.get? b=aa ⟨c,d, .fields f,a⟩:=x.I λy y z=>hV z
theorem ia.u{h f:aG}{d:Nat}{a:List Str}{b:List (Option V)}(k:e8 h f)(p:∀o,h.get? d=aa o->rJ f d o)(x:ia h d a b):ia f d a b:=by
 refine BM x λu m j i t=>wC u m (hW j λo s n e c=>au (p o e) λw l z=>lq _ s n l c) (λg nm r=>?_) t;have q:=i g nm r;clear i j;revert q;cases(b[g]?).join with
 | none=>exact id| some y=>exactλq=>au q λv e c=>⟨v,e,c.U k⟩
theorem zE(x:mw B H s.heap l)(e:b∈l.filterMap (·.frame)):∃o a n,s.heap.get? b=aa o/\o.data= .dict a n/\B.u.get? b=ag/\¬fp H b:=
 au (List.mem_filterMap.mp e) λc d hf=>uD (x c d) λk i o a n h g f=>(bP<|i.symm.trans hf)▸⟨o,a,n,h,g,f⟩
theorem O2{k:aG}(R:bO B H s)(x:mw B H s.heap l)(j:Heap.SlotsOnly (l.filterMap (·.frame)) s.heap k):cS B H s H {s with heap:=k}:=
 have g:∀b o,b∉l.filterMap (·.frame)->s.heap.get? b=aa o->k.get? b=aa o:=λb o q e=>(j.2.1 b q).trans e;have u:∀b,b∈l.filterMap (·.frame)->¬fp H b:=λb q=>BO (zE x q) λy y y y y y w=>w;have t:e8 s.heap k:=λb o G n e p hd=>g b o (λq=>fW (zE x q) λD i v f C y=>nA e hd f C s7 rfl) e
 ⟨⟨λb o e=>g b o (λq=>BO (zE x q) λy y y y y A y=>a9 (A.symm.trans e)) (R.1 b o e),R.2,R.3,λa c p=>(R.4 a c p).U t λb o r e=>g b o (λq=>u b q ⟨a,c,p,r⟩) e,R.5,R.6⟩,
  λb o e r y=>(Bb<|b∈l.filterMap (·.frame)).elim (λq=>o1 (j.2.2 b o e) λm f=>⟨m,f,λz=>fW (zE x q) λD i v F E y=>(z i v<|jD F E e).elim⟩) λq=> .u<|g b o q e,
  λb h=> .inl h,t,λb o e=>o1 (j.2.2 b o e) λm f=>⟨_,f⟩,λb o i n e d r=>o1 (j.2.2 b o e) λm f=>⟨_,i,n,f,d⟩,λy y y e=>e, .I λa y i e=>⟨e,λo z=>g a o (λq=>u a q ⟨a,_,e, .inl rfl⟩) z⟩⟩
theorem gB.u{H i:HP}{s f:aq}{e d:Nat}{c:List V}{fr:Option Nat}(x:gB B A H e d c fr s.heap)(S:cS B H s i f):gB B A i e d c fr f.heap:=
 ⟨iC x.1 λm j b C w v u=>jQ m j ((S.2 e _ b x.3 id).e) C w v (u.imp id λa=>jj a λT l ts z t h g p r=>⟨T,l,ts,z,t,(S.2 T _ h r.2.2.1 id).I λy y q=>Mine.Internal.hV (g.symm.trans q),g,p,r.1,r.2.1,oQ S h r.2.2.1,r.2.2.2⟩),
  x.2.u S.4 λo q=>S.2 d o q x.4 id,cm x.1 λy y b y=>oQ S b x.3,hW x.2.I λo E n k D=>oQ S k x.4,x.5,x.6,x.7⟩
theorem Cx(R:bO B H s)(g:s.heap.get? b=aa ⟨c,dd, .fields j,f⟩)(h:¬fp H b)(i:B.u.get? b=ag)
 (k:∀x o,x≠b->s.heap.get? x=aa o->d.get? x=aa o) (a:d.get? b=aa ⟨c,dd, .fields fs',f⟩):aV B (·=b) H s H {s with heap:=d}:=
 aV.uK (L:=b) R k h i (.inr rfl) (λo e=>⟨aM _ a λm n q=>hV<|(jD g rfl e).symm.trans q,λl n q=>rG<|(jD g rfl e).symm.trans q⟩) rfl rfl
theorem Cw{h:aG}{b:Nat}{o a:dw}{f:dw->dw}(e:h.get? b=aa o)(ho:f o=a)(hf:a.isFreed=ai):(h.update b f).get? b=aa a:=by rw [wj _ e (by rw [ho];exact hf),ho]
theorem rO{h:aG}{b:Nat}{f:dw->dw}:∀x o,x≠b->h.get? x=aa o->(h.update b f).get? x=aa o:=λx o a e=>(Heap.get?_update_ne _ _ _ _ a).trans e
theorem qi.u{h:aG}{e b:Nat}{o:dw}{c:Array aj}{a:aj}(i:h.get? e=aa o)(hd:o.data= .fields c)(j:c[1]?=aa a)(x:qi h e b):a= .ref b:=
 bG x λl k g f d=>bP<|j.symm.trans<|(congrArg (·[1]?)<|Mb<|(jD i hd g).symm.trans f).trans d
noncomputable def lA(e:Nat)(h:aG):Prop:=∃T,qi h e T
noncomputable def mz(B:aF)(e:Nat)(H:HP)(s a:aq):Prop:=aV B (λb=>b=e\/qi s.heap e b) H s H a/\∀T,qi a.heap e T->qi s.heap e T\/s.heap.get? T=ag
theorem mz.u{e:Nat}{H:HP}{s c a:aq}(x:mz B e H s c)(y:mz B e H c a):mz B e H s a:=
 ⟨aV.wQ (O':=λb=>s.heap.get? b=ag) ((x.1.U λb q=> .inl q).u<|y.1.U λb q=>q.elim (λq=> .inl<|.inl q) λq=>(x.2 b q).imp .inr id) λb q=> .inr q,λT q=>(y.2 T q).elim (x.2 T) λq=> .inr<|wR x.1 q⟩
theorem mz.I{e:Nat}{H:HP}{s:aq}(R:bO B H s):mz B e H s s:=⟨.I R,λT q=> .inl q⟩
theorem gB.J{H:HP}{h:aG}{e d:Nat}{k:List V}{fr:Option Nat}(x:gB B A H e d k fr h):∀b o,b=e\/qi h e b->h.get? b=aa o->∃f,o.data= .fields f:=λb o c i=>
 iC x.1 λf r g y j y p=>c.elim (λq=>⟨f,jD g rfl<|q▸i⟩) λc=>p.elim (λz=>nomatch z.symm.trans<|c.u g rfl j) λa=>jj a λT s ts z n m l y y=>⟨ts,jD m l<|(rh<|(c.u g rfl j).symm.trans n)▸i⟩
inductive kc(B:aF)(A:bW)(O:Nat->Prop)(H₀:HP)(s₀:aq)(H:HP)(e d:Nat)(vs:List V)(fr:Option Nat)(s:aq):Prop
 | mk (st:aV B O H₀ s₀ H s)
  (fly:gB B A H e d vs fr s.heap)
  (own:qh H₀ s₀ e d s.heap)
theorem kc.oP(x:kc B A O c a H e d h fr s)(y:mz B e H s s')(f:gB B i H e d h g s'.heap):kc B i O c a H e d h g s':=
 ⟨aV.wQ (O':=λb=>b=e\/qi s.heap e b) ((x.1.U λb q=> .inl q).u<|y.1.U λb q=> .inr q) λb q=>q.elim (λq=>q▸x.3.1)<|x.3.2.1 b,f,x.3.1,λT q=>(y.2 T q).elim (x.3.2.1 T) λq=> .inr<|wR x.1 q,x.3.2.2⟩
theorem GR{H:HP}{e d T:Nat}{x:List V}{fr fr':Option Nat}{z:aj}{c ts:Array aj}{M:aj}{L:Option Nat}{K:Array (Option aj)}(R:bO B H s)(F:gB B A H e d x fr s.heap)
 (k:s.heap.get? e=aa ⟨.ref B.I.I,aa d, .fields c,#[]⟩) (h:c[1]?=aa (.ref T)) (m:s.heap.get? T=aa ⟨M,L, .fields ts,K⟩) (J:z= .none\/∃f,fr'=aa f/\z=v5 f):
 mz B e H s {s with heap:=s.heap.update T (rk (·.setIfInBounds 3 z))}/\gB B A H e d x fr' (s.heap.update T<|rk (·.setIfInBounds 3 z))/\lA e (s.heap.update T<|rk (·.setIfInBounds 3 z)):=by
 refine iC F.1 λfs' I Q P O N E=>?_;have w:c=fs':=Mb<|jD Q rfl k;have C:I= .ref T:=bP<|O.symm.trans<|w▸h;refine E.elim (λq=>nomatch q.symm.trans C) λa=>jj a λG W t U j i y l r=>?_;have D:G=T:=rh<|j.symm.trans C;have v:ts=t:=Mb<|jD i y<|D▸m;replace r:=D▸r;replace l:=v.symm▸l;clear E i y j a;have g:=Cw (f:=rk (·.setIfInBounds 3 z)) m rfl rfl;have S:=Cx (fs':=ts.setIfInBounds 3 z) R m r.2.2.1 r.2.2.2.1 rO g;have u:=rO (f:=rk (·.setIfInBounds 3 z)) e _ (λq=>r.2.2.2.2 q.symm) k
 exact⟨⟨S.U λb q=> .inr (b7 _ c k rfl (q▸h)),λG q=> .inl ⟨_,c,k,rfl,(rh (q.u u rfl h))▸h⟩⟩,
  ⟨jQ c _ u (w▸P) h (λp q=>w▸N p q) (.inr ⟨T,_,_,z,rfl,g,rfl,aH l (eW ab7.symm),ab6 (iO (by decide) l),J,r.2.2⟩),F.2.U S.4 λo q=>rO d o (λz=>hW F.2.I λX Y n j i=>oK m rfl j i hV z) q,F.3,F.4,F.5,F.6,F.7⟩,T,_,c,u,rfl,h⟩
theorem O1{k:List V}{fr fr':Option Nat}{Q:Unit->aq->Prop}(R:bO B H s)(F:gB B A H e d k fr s.heap)
 (h:∀b,mz B e H s b->gB B A H e d k fr' b.heap->(lA e s.heap->lA e b.heap)->Q () b):a0 (aL B.e B.w) D (setFlight (.ref e) fr') Q E s:=by
 refine iC F.1 λt G j C i x w=>?_;skip;refine aJ<|rj j rfl i<|w.elim (λq=>?_) λa=>jj a λT p ts z l g c v r=>?_
 ·exact ae q<|ae (if_neg<|by decide)<|cK<|h s (.I R) ⟨(jQ t _ j C i x<|.inl q),F.2,F.3,F.4,F.5,F.6,F.7⟩ id
 ·obtain⟨K,J,u,I⟩:=p;have c:u= .fields ts:=c;rw [c] at g;refine ae l<|ae (if_pos<|by simp)<|E4 g rfl (iO (by decide) v) ?_
  refine gI (GR (fr':=fr') (z:=fr'.elim .none λf=>v5 f) R F j (l▸i) g (by
   induction fr' with
   | none=>exact .inl rfl
   | some f=>exact .inr (aM f rfl rfl))) λo n m=>?_
  exact h _ o n λy=>m
noncomputable def zF(a:aj)(L:Nat)(pl:List aj):Obj:={cls:= .type "traceback",dict:=ag,data:= .fields ([a, .ref L, .none,v5 L, .none]++(if pl.isEmpty then oF 6 yP else pl)).toArray}
theorem GQ{Q:Unit->aq->Prop}(U:A.frames=aa (i::l))(R:bO B H s)(I:mw B H s.heap (i::l))(F:gB B A H e d J ag s.heap)
 (h:∀r,mz B e H s r->gB B A H e d J (aa i.locals) r.heap->lA e r.heap->Q () r):
 a0 (aL B.e B.w) A (do let a<-frameOf i;let pl<-entryPlaceOf i.locals P;let b<-ab8 j a .none (v5 i.locals) .none pl;setField (.ref e) 1 b) Q E s:=by
 have hf:i.frame=aa i.locals:=(I i<|.head _).2.1;refine aJ<|wpAny_frameOf_fun U I.I hf λc k=>?_;have G:=O2 R I k;have M:=F.u G;refine aJ<|wpAny_entryPlaceOf λpl w=>?_;delta ab8 newFields;refine aJ<|yN ?_<|w.sizeOk5 _ _ _ _ _;have D:cS B H {s with heap:=c} H {s with heap:=c.push (zF j i.locals pl)}:= .iS G.1 (uN _) rfl rfl;have m:=M.u D;refine fV m.1 λK X t C a3 a=>((E4 t rfl (C▸(by decide)) ?_):a0 _ _ (setField (.ref e) 1<|.ref c.objs.size) _ _ {s with heap:=c.push (zF j i.locals pl)});have S:(c.push<|zF j i.locals pl).get? c.objs.size=aa (zF j i.locals pl):=jO _ rfl;have p:c.objs.size≠e:=λq=>cm M.1 λfs' y v y=>LV _<|q▸sR v;have g:=Cw (f:=rk (·.setIfInBounds 1 (.ref c.objs.size))) t rfl rfl;have L:=Cx (fs':=K.setIfInBounds 1<|.ref c.objs.size) D.1 t m.3 m.5 rO g;have W:=rO (f:=rk (·.setIfInBounds 1 (.ref c.objs.size))) _ _ p S;have u:s.heap.get? c.objs.size=none:=ae k.1<|nP _;have x:(K.setIfInBounds 1<|.ref c.objs.size)[1]?=aa (.ref c.objs.size):=ab6<|C▸(by decide)
 refine h _ ⟨((G.u D).e.u (L.U λb q=> .inl q)),λT q=> .inr (rh (q.u g rfl x)▸u)⟩ ⟨(jQ _ (.ref c.objs.size) g (ab7.trans C) x (λq O=>(Array.getElem?_setIfInBounds_ne (by decide)).trans (a.1 q O)) (.inr ⟨_,_,_,v5 i.locals,rfl,W,rfl,?_,?_, .inr ⟨_,rfl,rfl⟩,λq=>o1 (R.u q) λo z=>a9 (u.symm.trans z),mq λo q=>a9 (u.symm.trans (R.1 _ _ q)),p⟩)),
  m.2.U L.4 λo q=>rO d o (λz=>hW m.2.I λY Z n v N=>oK t rfl v N hV z) q,m.3,m.4,m.5,m.6,m.7⟩ (mj c.objs.size _ _ g rfl x)
 ·simp
 ·simp
theorem gB.I{H:HP}{e d:Nat}{b:List V}{fr:Option Nat}{h:aG}(x:gB B A H e d b ag h):gB B A H e d b fr h:=
 ⟨iC x.1 λg c s p o n m=>jQ g c s p o n<|m.imp id λa=>jj a λT f ts z l k j i r=>⟨T,f,ts,z,l,k,j,i,r.1,r.2.1.imp id λq=>au q λy q y=>a9 q,r.2.2⟩,x.2,x.3,x.4,x.5,x.6,x.7⟩
theorem O0(t:A.frames=aa (b::l))(R:bO B H s)(n:mw B H s.heap (b::l))(F:gB B A H e d o (aa b.locals) s.heap)
 (h:∀c,mz B e H s c->gB B A H e d o (aa b.locals) c.heap->lA e c.heap->Q () c):a0 (aL B.e B.w) A (E5 (.ref e) b) Q E s:=by
 refine iC F.1 λu C j L i K J=>?_;unfold E5;refine ae (n b<|.head _).2.1<|aJ<|rj j rfl i<|J.elim (λq=>?_) λa=>jj a λT D ts z g f m I r=>?_
 ·exact ae q<|ae (if_neg<|by decide)<|GQ t R n ⟨(jQ u C j L i K<|.inl q),F.2,F.3,F.4,F.5,F.6,F.7⟩ h
 ·obtain⟨P,O,G,N⟩:=D;have m:G= .fields ts:=m;replace f:=m▸f;refine ae g<|ae (if_pos<|by simp)<|aJ<|rj f rfl r.1 ?_;by_cases p:(z==v5 b.locals)=af
  ·exact ae (if_pos p)<|cK<|h s (.I R) F<|mj T _ u j rfl<|g▸i
  ·exact ae (if_neg p)<|aJ<|E4 f rfl (iO (by decide) I)<|gI (GR (fr':=ag) (z:= .none) R F j (g▸i) f<|.inl rfl) λk y M=>ae g.symm<|GQ t k.1.1 (n.u k.1) y λc x w v=>h c (k.u x) w v
noncomputable def f6(B:aF)(Γ:aI)(a:Env)(A:bW)(k:Nat)(h:aA->List V->HP->Prop)(H:HP)(s:aq)(v:aj)(g:aq):Prop:=
 ∃e d f b c,v= .ref e/\kc B A (gC a) H s c e d f (aa a.locals) g/\bM B Γ a A k b c g/\h b f c
noncomputable def rP(B:aF)(Γ:aI)(b:Env)(A:bW)(k:Nat)(P:bA)(H:HP)(s:aq):Flow->aq->Prop
 | .next,d=>∃a c,aV B (gC b) H s c d/\bM B Γ b A k a c d/\P.nx a c| .brk,d=>∃a c,aV B (gC b) H s c d/\bM B Γ b A k a c d/\P.br a c| .ret v,d=>∃y c,aV B (gC b) H s c d/\aW d.heap y v/\P.a y c| .cont,_=>False
theorem kc.I{O:Nat->Prop}{b H H':HP}{a s f:aq}{e d:Nat}{c:List V}{fr:Option Nat}(S:aV B O b a H s)(x:kc B A O H s H' e d c fr f):kc B A O b a H' e d c fr f:=⟨S.u x.1,x.2,x.3.j6 S⟩
theorem f6.I{a:Env}{h:aA->List V->HP->Prop}{H H':HP}{s g b:aq}{v:aj}(S:aV B (gC a) H s H' g)(x:f6 B Γ a A k h H' g v b):f6 B Γ a A k h H s v b:=
 mr x λe d i c f q L o z=>p8 e d i c f q (L.I S) o z
theorem rP.I{c:Env}{P:bA}{H H':HP}{s e d:aq}{f:Flow}(S:aV B (gC c) H s H' e)(x:rP B Γ c A k P H' e f d):rP B Γ c A k P H s f d:=by induction f with| next=>exact cm x λb a U r=>⟨b,a,S.u U,r⟩| brk=>exact cm x λb a U r=>⟨b,a,S.u U,r⟩| ret v=>exact cm x λy a U r=>⟨y,a,S.u U,r⟩| cont=>exact x
theorem dY.J{a:Env}{ρ:aA}{b:aA->List V->HP->Prop}{H:HP}{v:aj}{s':aq}(o:bM B Γ a A k ρ H s)(x:dY B A (b ρ) H s v s'):f6 B Γ a A k b H s v s':=
 jj x λe d c f q S F w z=>p8 e d c ρ f q ⟨S.e,F.I,w⟩ (o.u S) z
noncomputable def SS(B:aF)(Γ:aI)(k:Nat)(x:S)(st:gh):Prop:=
 ∀a A l ρ P H s,A.frames=aa (a::l)->bM B Γ a A k ρ H s->FZ (CR B k) x ρ P H->a0 (aL B.e B.w) A (exec st a) (rP B Γ a A k P H s) (f6 B Γ a A k P.ex H s) s
class inductive gL(B:aF)(Γ:aI)(k:Nat):SL->List gh->Prop
 | I:gL B Γ k .I []
 | u {x r st sts} (h:SS B Γ k x st) (t:gL B Γ k r sts):gL B Γ k (.u x r) (st::sts)
theorem gL.fZ(h:gL B Γ k b c):∀(a:Env) (A:bW) (l:List Env) (ρ:aA) (P:bA) (H:HP) (s:aq),A.frames=aa (a::l)->bM B Γ a A k ρ H s->aw (CR B k) b ρ P H->
 a0 (aL B.e B.w) A (execs c a) (rP B Γ a A k P H s) (f6 B Γ a A k P.ex H s) s:=by
 induction h with
 | I=>exactλa A l ρ P H s g o q=>wk ⟨ρ,H, .I o.2,o,q⟩
 | u h _ ih=>
  refineλa A l ρ P H s g o q=>Mc<|dX (h a A l ρ _ H s g o q) (λf i z=>?_) λy y z=>z;induction f with
  | next=>exact bG z λd m S j z=>dX (ih a A l d P m i g j z) (λf e z=>z.I S) λv e z=>z.I S| _=>exact z
theorem gL.jE(h:gL B Γ k b c)(f:A.frames=aa (a::l))(o:bM B Γ a A k ρ H s)(S:cS B H s e d)(q:aw (CR B k) b ρ P e):
 a0 (aL B.e B.w) A (execs c a) (rP B Γ a A k P H s) (f6 B Γ a A k P.ex H s) d:=
 dX (h.fZ a A l ρ P e d f (o.u S) q) (λy y z=>z.I S.e) λy y z=>z.I S.e
noncomputable def uR(e:az):Bool:=!([8,9,10]:List Nat).contains e.ctorIdx
theorem Cy(h:uR value=af):Me value t n env=eY false:=by revert h;refine(@pQ (λe=>uR e=af->Me e t n env=eY ai) value ?_ ?_ ?_ ?_ ?_ ?_ ?_ ?_ ?_ ?_ ?_ ?_ ?_ ?_ ?_ ?_ ?_ ?_ ?_ ?_ ?_ ?_ ?_ ?_ ?_ ?_ ?_);all_goals (intros;first | rfl | exact bw<|by assumption)
theorem O5(h:SE B Γ k x e)(c:uR e=af):SS B Γ k (.f x) (.Expr e p):=λd A l ρ P H s g o q=>by exact wpAny_Expr_any (h.J o q (λy v f a S b r q=>(b7 ρ f S.e b q)) λv a z=>z.J o) (by unfold interactive;exact ae o.3.3 rfl)<|Cy c
theorem O8(h:SE B Γ k x e):SS B Γ k (.e x) (.Return (aa e) p):=λb A l ρ P H s f o q=>by exact wpAny_Return_some<|h.J o q (λy v c a S d r q=>(b7 y c S.e r q)) λv a z=>z.J o
theorem O9:SS B Γ k (.e<|.e .f) (.Return ag p):=λa A l ρ P H s b o q=>by exact wpAny_Return_none<|b7 .f H (.I o.2) uM q
theorem O4:SS B Γ k .r (.Break p):=λa A l ρ P H s b o q=>by exact wpAny_Break<|b7 ρ H (.I o.2) o q
theorem O7:SS B Γ k .s (.Pass p):=λa A l ρ P H s b o q=>by exact wpAny_Pass<|b7 ρ H (.I o.2) o q
theorem O6(h:SB B Γ k t e)(m:gL B Γ k a g)(j:gL B Γ k b bs):SS B Γ k (.d t a b) (.If e g bs p):=λd A l ρ P H s f o q=>by
 refine wpAny_If<|dX (h d A ρ _ _ H s o q) (λc i z=>au z λn S z=>?_) λv i z=>z.J o;induction c
 ·exact ae (if_neg gp)<|j.jE f o S<|z.2 rfl
 ·exact ae (if_pos rfl)<|m.jE f o S<|z.1 rfl
noncomputable def ST(B:aF)(Γ:aI)(k:Nat)(t:T)(e:az):Prop:=
 ∀a A l ρ (f:aA->List V->HP->Prop) (K:aA->HP->Prop) H s y v,A.frames=aa (a::l)->bM B Γ a A k ρ H s->aW s.heap y v->oO (CR B k) t y ρ (f ρ) K H->
  a0 (aL B.e B.w) A (Bt e a v) (λz d=>∃b c,aV B (gC a) H s c d/\bM B Γ a A k b c d/\K b c) (f6 B Γ a A k f H s) s
theorem Pa(b:(x,i)∈Γ.b)(hf:Γ.a.lookup x≠aa .free):ST B Γ k (.J i) (.Name x p):=λc A l ρ f K H s y v e o r q=>by skip;exact aJ<|pU<|E6<|uQ o b hf r λd S a=>(b7 _ H S a q)
theorem O3(h:SE B Γ k x e)(n:ST B Γ k t b)(C:uR e=af)(u:kK b=af)(g:∀a,wm [b] e a=eY ag):SS B Γ k (.c t x) (.Assign [b] e p):=λa A l ρ P H s D o q=>by
 refine Md (h.J o q (λy v F j S m r q=>?_) λv j z=>z.J o) (Cy C)<|g a;have w:(yQ [b] a).map (·.2)=[Bt b a]:=by revert u;refine(@pQ (λe=>kK e=af->(yQ [e] a).map (·.2)=[Bt e a]) b ?_ ?_ ?_ ?_ ?_ ?_ ?_ ?_ ?_ ?_ ?_ ?_ ?_ ?_ ?_ ?_ ?_ ?_ ?_ ?_ ?_ ?_ ?_ ?_ ?_ ?_ ?_);all_goals (intros;first | rfl | exact bw<|by assumption)
 exact ae w<|dX (n a A l ρ P.ex P.nx F j y v D m r q) (λ_ d z=>bG z λc i E f z=>(b7 c i (S.e.u E) f z)) λv d z=>z.I S.e
theorem fJ.I{K:Type} [DecidableEq K]{h:aG}{k:K}{y:V}{v:aj}(r:aW h y v){b:List (K×V)}{a:List (K×aj)}(e:fJ h b a):fJ h (b.map λx=>if x.1=k then(x.1,y) else x) (a.map λx=>if x.1=k then(x.1,v) else x):=by
 induction b generalizing a with
 | nil=>exact congrArg (Mf _) e
 | cons x l ih=>
  refine fV e λw g z c f d=>pZ _ _ (congrArg (Mf _) z) ?_ ?_<|ih d
  ·dsimp only;refine ae c.symm ?_;split<;>first | rfl | exact c
  ·dsimp only;refine ae c.symm ?_;split<;>first | exact r | exact f
theorem fJ.J{K:Type}{h:aG}{k:K}{y:V}{v:aj}(r:aW h y v){b:List (K×V)}{a:List (K×aj)}(e:fJ h b a):fJ h (b++[(k,y)]) (a++[(k,v)]):=by induction b generalizing a with| nil=>exact pZ (k,v) [] (congrArg (·++[(k,v)]) e) rfl r rfl| cons x l ih=>exact fV e λw g z f d c=>pZ w _ (congrArg (·++[(k,v)]) z) f d<|ih c
theorem fJ.Pb{K:Type} [DecidableEq K]{h:aG}{k:K}{c:List (K×V)}{a:List (K×aj)}(e:fJ h c a):a.any (λd=>d.1=k)=(c.lookup k).isSome:=by
 induction c generalizing a with
 | nil=>exact congrArg (List.any · _) e
 | cons x l ih=>
  refine fV e λw i z g j f=>ae z<|ae LX<|ae gV<|ae (ih f)<|ae g.symm ?_;by_cases b:x.1=k
  ·exact ae (decide_eq_true b)<|ae (show(k==x.1)=af from beq_iff_eq.mpr b.symm) rfl
  ·exact ae (decide_eq_false b)<|ae (show(k==x.1)=ai from beq_false_of_ne<|q8 b) rfl
theorem fJ.u{K:Type} [DecidableEq K]{h:aG}{k:K}{y:V}{v:aj}{b:List (K×V)}{a:List (K×aj)}(e:fJ h b a)(r:aW h y v):fJ h (gJ b k y) (aca a k v):=by
 delta gJ dA aca;refine ae (fJ.Pb e) ?_;split
 ·exact fJ.I r e
 ·exact fJ.J r e
theorem CA{K:Type} [DecidableEq K]{a:List (K×V)}{k:K}{y:V}:(gJ a k y).length<=a.length+1:=by
 unfold gJ;split
 ·rw [bB];exact cP (.I (.v 0)<|.a (.v 0)<|.n 1) rfl [_] []
 ·exact ae bI<|dC _
theorem oW(d:uy a h c):∀b o,¬(b=a\/False)->h.get? b=aa o->c.get? b=aa o:=λb o q e=>(d.2 b λz=>q<|.inl z).trans e
theorem w6(R:bO B H s)(g:H a=aa c)(k:∀b o,¬gj a c b->s.heap.get? b=aa o->e.get? b=aa o):e8 s.heap e:=λb o y y f d hd=>k b o (λq=>(R.J (cL a c g q) f).elim (λz=>z d) λz=>o2 z λy y z=>s7<|hd.symm.trans z) f
theorem Pd{k:Int}{t:k9}{v:aj}{Q:Unit->aq->Prop}(hl:gA s.heap l a)(h0:0<=k)(hf:k<2^63)(e:k<a.size)
 (h:∀c,gA c l (a.setIfInBounds k.toNat v)->uy l s.heap c->Q () {s with heap:=c}):a0 (aL B.e B.w) A (Bu (.ref l) (.int k t) v) Q E s:=by
 refine o1 hl.J λn ho=>?_;have b:=hl.u.typeIs;delta Bu;try with_reducible refine jz ?_
 refine aJ<|wpAny_sequenceKey b (by decide)<|aJ<|acf (name:=q6 "__setitem__") b ace<|acg ace b entry_list_setitem ?_<|args_list_setitem _ _ _;refine((aJ<|wpAny_listSubscript_int (fitsIndex_of h0 hf) ?_):a0 _ _ (adW (.int k t)>>=_) _ _ s);clear hf;refine o1 (Int.eq_ofNat_of_zero_le h0) λj d=>?_;obtain rfl:=d;have f:a[j]?=aa a[j]:=Array.getElem?_eq_getElem<|aD (.e (.v 0)<|.v 1) (.U (.c<|.v 0)<|.c<|.v 1) rfl [] [_,_] e;skip;exact aJ<|aJ<|wpAny_seqItemAt ho rfl<|cK<|ae f<|aJ (m:=setSeqItemAt l j v)<|wpAny_setSeqItemAt ho rfl<|cK<|aM .none rfl<|cK<|h _ ⟨_,wj _ ho rfl,rfl,⟨_,rfl⟩,rfl,rfl⟩<|yR ..
theorem Pc(h:uu i n=aa j):j<n:=by
 unfold uu at h;dsimp only at h;generalize (if i<0 then i+(n:Int) else i)=m at h;split at h
 ·rename_i q;have q:=oz.mp q;exact bP h▸(ab9<|of_decide_eq_true q.1).mpr (of_decide_eq_true q.2)
 ·exact a9 h
theorem GU{H U:HP}{x i y:V}{v u z:aj}{Q:Unit->aq->Prop}(X:A.units<9001)(R:bO B H s)(r:aW s.heap x v)(G:aW s.heap i u)(o:aW s.heap y z)(e:j9 H x i y U)
 (h:∀P,cS B H s U P->Q () P):a0 (aL B.e B.w) A (Bu v u z) Q E s:=by
 induction e with
 | @u a g l kk j y hl C hj=>refine o1 G.e λt D=>ae r.I<|ae D<|ay (wW hj) λb1 T=>bR (R.4 _ _ hl) λO hL m c=>?_;have q:=Gm T;rw [if_neg<|oC.mpr C] at q;have L:=Pc T;refine Pd hL C (wV b1).2 ((ab9 C).mp<|q.2▸ae hG (ae m.dN L)) λN M f=>h _ ?_;have d:=w6 R hl<|oW f;refine aV.oP R hl (λw w=>nofun) (λw w=>nofun) (λb=>sV) (oW f) (bT (O.set j z) ?_ (ba.J _ (m.U d)<|o.U d)<|aH (eW ux) c) rfl rfl;rw [<-List.setIfInBounds_toArray,<-q.2];exact M| @i a g F k y hl p=>refine o1 G.e λt D=>ae r.I<|ae D<|bR (R.4 _ _ hl) λI hd m c=>acb (uw _ _ _ _) hd (λN n f=>h _ ?_)<|m.dN▸kb▸jM p;have d:=w6 R hl<|oW f;exact aV.oP R hl (λw w=>nofun) (λw w=>nofun) (λb=>sV) (oW f) (bT _ n ((m.U d).u<|o.U d)<|aH CA p) rfl rfl
 | @s a g F k y hl p Z=>
  refine o1 G.is λt D=>ae r.I<|ae D<|bR (R.4 _ _ hl) λI hd m c=>acb (v9 _ _ _ _) hd (λN n f=>h _ ?_)<|m.dN▸kb▸jM p;have d:=w6 R hl<|oW f;have S:F++[(k,y)]=gJ F k y:=by unfold gJ;exact ae Z rfl
  exact ae S<|aV.oP R hl (λw w=>nofun) (λg' es' q=>ae ((Mine.Internal.cb.a.inj q).1).symm<|ae ((Mine.Internal.cb.a.inj q).2).symm ⟨_,rfl,ae S.symm<|ae bI<|mf _⟩) (λb=>sV) (oW f) (bT _ n ((m.U d).u<|o.U d)<|aH CA p) rfl rfl
 | @t a g F l k y hl p hk=>refine bG G.J λW O D Y K=>ae r.I<|ae D<|bR (R.4 _ _ hl) λxs hd m c=>?_;have J:xs.length=F.length:=(bB _).symm.trans m.dN;refine wpAny_setItem_heap (by skip;skip;exact aD (.e (.a (.v 0)<|.n 1)<|.n 9900) (.e (.v 0)<|.n 9001) rfl [] [_] X) (wX hk Y K) hd (λN n f=>h _ ?_)<|J▸kb▸jM p;have d:=w6 R hl<|oW f;refine aV.oP R hl (λw w=>nofun) (λw w=>nofun) (λb=>sV) (oW f) (bT _ n ?_<|aH CA p) rfl rfl;have:=kvsOf_storedH xs k W z;unfold kvsOf at this;exact ae this<|(m.U d).u<|o.U d
theorem Pf{o i:X}{e f:az}{p:Pos}(h:SE B Γ k o e)(E:SE B Γ k i f)(hf:oS f=af):ST B Γ k (.ak o i) (.Subscript e f p):=λF A l ρ M K H s y v L m r q=>by rw [arm_assign_Subscript];exact aJ<|jz<|h.J m q (λa O P j S n x C=>aJ<|jz<|E.J n C (λb N I u g c w d=>aJ<|pU<|aJ<|jz<|au d λG D d=>GU (by have:=c.4.3;exact aD (.e (.v 0)<|.n 9001) (.I (.a (.v 0)<|.m 100<|.v 1)<|.a (.n 9000)<|.m 50<|.n 0) rfl [] [_,_] this) c.2 (x.U g.4) w ((r.U S.4).U g.4) D λJ t=>Mg<|b7 ρ G (((S.u g).u t).e) (c.u t) d) λv j z=>(z.J n).I S.e) λv j z=>z.J m
theorem Pe(h:SE B Γ k o e)(hl:(B.I.e C)[j]?=aa nm)(t:(B.I.e C).Nodup)(n:(B.I.e C).length<=1000)(m:zD B.K C nm=af):ST B Γ k (.ao o C j) (.Attribute e nm p):=λw A l ρ J K H s y v I b r q=>by rw [acd];refine aJ<|jz<|h.J b q (λa D L g S f c d=>aJ<|pU<|aJ<|jz<|bG d λE F x u d=>?_) λv g z=>z.J b;have c:aW g.heap (.d E) D:=x▸c;exact ae c.I<|OY f.1 f.2 u hl t n m (r.U S.4) λG i=>Mg<|b7 ρ _ ((S.u i).e) (f.u i) d
class inductive mA(vis:List (Str×Nat)):List Nat->List az->Prop
 | I:mA vis [] []
 | u {x i p is es} (h:(x,i)∈vis) (t:mA vis is es):mA vis (i::is) (.Name x p::es)
theorem Ph(n:mA b c a):(yQ a env).length=a.length/\(yQ a env).findIdx? (·.1)=ag/\a.length=c.length:=by induction n with| I=>exact⟨rfl,rfl,rfl⟩| u _ _ ih=>exact⟨congrArg (·+1) ih.1,List.findIdx?_cons.trans<|ae ih.2.1 rfl,congrArg (·+1) ih.2.2⟩
theorem Pg(n:mA Γ.b f j)(hf:∀x i,(x,i)∈Γ.b->Γ.a.lookup x≠aa .free):∀{l:List V} {b:List aj} {ρ:aA} {H:HP} {s:aq} {Q:Unit->aq->Prop},l.length=f.length->bM B Γ a A k ρ H s->ba s.heap l b->
 (∀c,aV B (gC a) H s H c->bM B Γ a A k (wN ρ f l) H c->Q () c)->a0 (aL B.e B.w) A (Mh ((yQ j a).map (·.2)) b) Q E s:=by
 induction n with
 | I=>intro l b ρ H s Q hl o r h;obtain rfl:l=[]:=aci.mp hl;exact cK<|h s (.I o.2) o
 | u g _ ih=>
  intro l b ρ H s Q hl o r h;induction l with
  | nil=>exact absurd hl (Nat.succ_ne_zero _).symm| cons y l=>exact bG r λv z m q p=>ae m<|aJ<|jz<|aJ<|pU<|E6<|uQ o g (hf _ _ g) q λc S t=>ih (ach hl) t (ba.U S.4 p) λd w e=>h d (S.u w) e
theorem GV(o:bO B H s)(r:aW s.heap a v)(i:aW s.heap b u)(q:j8 H 0 n a b (.ah c))
 (h:∀w j,cS B H s H j->aW j.heap c w->R w j):a0 (aL B.e B.w) A (inplaceOp n v u) R E s:=by
 cases q with
 | x y=>
  refine o1 r λt f=>?_;clear r;obtain rfl:=f;refine o1 i λp f=>?_;clear i;obtain rfl:=f;have g:=λm t=>h (.int _ t) {s with toks:=m} (iG o) nN;induction y with
  | J=>exact PySem.P.iadd_int<|g _ _| ak=>exact PySem.P.isub_int<|g _ _| d C l=>exact PySem.P.imul_int (g _ _)<|.of_bits (zp C)<|zp l| c k=>exact adY k<|g _ _| e k l=>exact adX k (g _ _)<|.inl<|abP l
 | z hl=>refine o1 r λt f=>?_;clear r;obtain rfl:=f;refine o1 i λp f=>?_;clear i;obtain rfl:=f;exact PySem.SB.iadd (λt m=>h (.str _ t) _ (iG o) tB)<|ae kb.symm hl
theorem Pl{E:gH}{x:X}{e:az}{nm:Str}{R p:Pos}(C:(nm,i)∈Γ.b)(hf:Γ.a.lookup nm≠aa .free)(U:(nm==("__classdict__":Str))=ai)(h:SE B Γ k x e):
 SS B Γ k (.m i E x) (.AugAssign (.Name nm R) E e p):=λd A l ρ P H s hA o q=>by
 refine au q λa J q=>wpAny_AugAssign_Name ?_;have f:∀u,aW s.heap a u->a0 (aL B.e B.w) A (je e d) (λv n=>a0 (aL B.e B.w) A (inplaceOp E u v) (λr j=>a0 (aL B.e B.w) A (Ma d nm r) (λy D=>rP B Γ d A k P H s .next D) (f6 B Γ d A k P.ex H s) j) (f6 B Γ d A k P.ex H s) n) (f6 B Γ d A k P.ex H s) s:=λu F=>by exact h.J o q (λb v H' D S I r z=>au z λc V O=>GV I.2 (F.U S.4) r V λw M K N=>uQ (I.u K) C hf N λs3 S3 Q=>(b7 _ _ (((S.u K).e).u S3) Q O)) λv D z=>z.J o
 have t:d.kindOf nm=Γ.a.lookup nm:=by unfold m9;exact ae o.3.2 rfl
 rcases aI.u o.3.1 C with g | g | g
 ·exact au o.3.6 λm T hl=>au (hl nm i C g a<|ae J rfl) λu F G=>ET o.3.3 (t.trans g) T F<|f u G
 ·refine iC (o.3.7 nm i C<|.inl g) λc z Z Y y y W=>au (W a<|ae J rfl) λu L G=>?_;obtain rfl:=L;exact abI o.3.3 (t.trans g) Z Y<|f u G
 ·exact absurd g hf
theorem Pk(L:A.units<9001)(o:bO B H s)(r:aW s.heap (.d a) v)(j:aW s.heap (.x i) u)(e:fh H (.d a) (.x i) x)(hi:0<=i)
 (h:∀w c,cS B H s H c->aW c.heap x w->R w c):a0 (aL B.e B.w) A (yM v u) R E s:=by
 obtain rfl:=zr r;refine o1 j λt k=>?_;clear j;obtain rfl:=k;cases e with
 | u D e p=>exact bR (nM o D) λK F b z=>ay (wW e) λJ G=>au (b.eM p) λl q f=>Gk F J (ae hG<|ae b.dN G) (by simpa using q)<|h l _ (.I o) f
 | I d=>
  generalize n:aa x=y at d;cases d with
  | i hl=>exact bR (o.4 a _ hl) λm hd b z=>au ((DictOf.u (knd:=pP B.e B.w) b i).1 x n.symm) λv C g=>LQ (uw _ _ _ _) hd.mapOf C<|h v _ (iG o) g
theorem Pn{E:EP}{Q:QV}{H:HP}(q:aK CP (.e v) ρ E Q H):aK CP (.e v) ρ E (λb H=>b=v/\Q b H) H:=⟨rfl,q⟩
theorem Pj(h:oS d=af)(b c a:aj):augStore d b c a=(do
 Bo [a,b,c] (Bu b c a)
 release [a,b,c] []
 eY acj):=by
 revert h
 refine(@pQ (λd=>oS d=af->augStore d b c a=(do
  Bo [a,b,c] (Bu b c a)
  release [a,b,c] []
  eY acj)) d ?_ ?_ ?_ ?_ ?_ ?_ ?_ ?_ ?_ ?_ ?_ ?_ ?_ ?_ ?_ ?_ ?_ ?_ ?_ ?_ ?_ ?_ ?_ ?_ ?_ ?_ ?_)
 all_goals (intros;first | rfl | exact bw<|by assumption)
theorem Pm(h1:SE B Γ k G J)(h2:SE B Γ k t u)(h:SE B Γ k x e)(hn:oS u=af)(hi:∃i,t= .e (.x i)/\0<=i):
 SS B Γ k (.n G t I x) (.AugAssign (.Subscript J u Q) I e p):=λenv A l ρ P H s hA o q=>by
 obtain⟨i,rfl,hi⟩:=hi;refine wpAny_AugAssign_Subscript_any (h1.J o q (λa av H' j S M F W=>h2.J M (Pn W) (λb bv H'' R D d E n=>?_) λv j z=>(z.J M).I S.e) λv j z=>z.J o)<|Pj hn;clear q;obtain⟨rfl,⟨r,rfl⟩,Y,ho,n⟩:=n;obtain rfl:=zr F;have N:A.units<9001:=by have:=d.4.3;exact aD (.e (.v 0)<|.n 9001) (.I (.a (.v 0)<|.m 100<|.v 1)<|.a (.n 9000)<|.m 50<|.n 0) rfl [] [_,_] this
 refine Pk N d.2 (F.U D.4) E ho hi λw s3 g m=>?_;have L:=d.u g;exact h.J L n (λy yv H4 s4 C K T z=>au z λc hc z=>au z λH6 Z V=>GV K.2 (m.U C.4) T hc λcw s5 f U=>GU N f.1 kJ (((E.U g.4).U C.4).U f.4) U Z λs6 O=>(b7 ρ H6 ((((((S.u D).u g).u C).u f).u O).e) ((K.u f).u O) V)) λv j z=>(z.J L).I ((S.u D).u g).e
theorem bM.J{a:Env}{l:List Env}{ρ:aA}{H:HP}(o:bM B Γ a A k ρ H s)(b:A.frames=aa (a::l)):mw B H s.heap (a::l):=au o.4.1 λc e f=>bP (e.symm.trans b)▸f
theorem w8(j:A.frames=aa (a::l))(L:kc B A O c b H e d i (aa a.locals) s)(o:bM B Γ a A k ρ H s)
 (h:∀g,kc B A O c b H e d i (aa a.locals) g->bM B Γ a A k ρ H g->lA e g.heap->Q () g):a0 (aL B.e B.w) A (E5 (.ref e) a) Q E s:=
 O0 j o.2 (o.J j) L.2 λg y f m=>h g (L.oP y f) (o.I y.1 L.2.J) m
theorem tC(g:Option Nat)(L:kc B A O b a H e d j fr s)(o:bM B Γ i A k ρ H s)
 (h:∀c,kc B A O b a H e d j g c->bM B Γ i A k ρ H c->Q () c):a0 (aL B.e B.w) l (setFlight (.ref e) g) Q E s:=
 O1 o.2 L.2 λc y f z=>h c (L.oP y f)<|o.I y.1 L.2.J
theorem GX(j:A.frames=aa (a::l))(x:f6 B Γ a A k ex H s v b)
 (h:∀e b,v= .ref e->f6 B Γ a A k ex H s v b->lA e b.heap->Q v b):notedBy (aL B.e B.w) A a Q v b:=by
 exact mr x λe d g c m q L o z=>ae q<|w8 j L o λf L o i=>ae q.symm<|h e f q (p8 e d g c m q L o z) i
theorem GW(j:A.frames=aa (a::l))(x:f6 B Γ a A k f H s (.ref e) c)(i:lA e c.heap):Mi (aL B.e B.w) A a (f6 B Γ a A k f H s) (.ref e) c:=by refine mr x λr d g b t q L o z=>fW i λT u v p n m=>?_;skip;exact aJ<|rj p n m<|ae (if_neg<|by simp)<|ae (o.J j a<|.head _).2.1<|ae q<|tC (aa a.locals) L o λh L o=>p8 r d g b t rfl L o z
theorem zG(c:A.frames=aa (a::l))(x:f6 B Γ a A k d H s v b):notedBy (aL B.e B.w) A a (λe b=>Mi (aL B.e B.w) A a (f6 B Γ a A k d H s) e b) v b:=
 GX c x λe f q x g=>by subst q;exact GW c x g
noncomputable def Po(B:aF)(Γ:aI)(c:Env)(A:bW)(k:Nat)(P:bA)(H:HP)(s:aq)(t:Mine.Internal.B)(b:SL)(n:Nat)(e:aq):Prop:=
 ∃a d,aV B (gC c) H s d e/\bM B Γ c A k a d e/\zj (λρ K H=>gz (CR B k) t ρ (P.ex ρ) K H) (λρ P H=>aw (CR B k) b ρ P H) P n a d
theorem Pp(h:SB B Γ k t e)(I:gL B Γ k b bs):SS B Γ k (.k t b) (.While e bs [] p):=λg A l ρ P H s C o q=>by
 refine o1 q λn q=>wpAny_While<|codeAny_whileLoop (Po B Γ g A k P H s t b) (λn F z=>bG z λd J S w q=>?_) n<|b7 ρ H (.I o.2) o q;induction n with
 | zero=>exact q.elim
 | succ n _=>
  refine dX (h g A d _ _ J F w q) (λc i z=>au z λu D z=>?_) λv i z=>zG C<|(z.J w).I S;have m:=S.u D.e;induction c with
  | false=>exact wk ⟨d,u,m,w.u D,z.2 rfl⟩
  | true=>
   refine dX (I.fZ g A l d _ u i C (w.u D)<|z.1 rfl) (λf E z=>?_) λv E z=>zG C<|z.I m;induction f with
   | next=>exact bG z λa r j x z=>⟨n,mf _,a,r,m.u j,x,z⟩| brk=>exact bG z λa r j x z=>⟨a,r,m.u j,x,z⟩| ret v=>exact bG z λy r j G z=>⟨y,r,m.u j,G,z⟩| cont=>exact z.elim
noncomputable def zH(K:eK)(c:Nat):Bool:=subIn K (.ref c) (.type "BaseException")==aa af&&Bp K (.ref c)==aa (.type "type")
theorem GY:entryFor table "proto.unchain"=aa Builtin.«proto.unchain»:=entryFor_of_tree (by kernel_rfl)
theorem CB{H:HP}{a y:Nat}{c:cb}(h:(H.hZ a) y=aa c):y≠a/\H y=aa c:=if e:y=a then a9 ((if_pos e).symm.trans h) else⟨e,(if_neg e).symm.trans h⟩
theorem w9(h:ly (H.hZ a) b y):ly H b y/\y≠a:=au h λc q z=>⟨⟨c,(CB q).2,z⟩,(CB q).1⟩
theorem aV.hZ(R:bO B H s)(e:H a=aa (.f af d l)):aV B O H s (H.hZ a) s:=
 have g:∀b,fp (H.hZ a) b->fp H b:=λb h=>o1 h λy q=>⟨y,(w9 q).1⟩;have f:∀{b c},H b=aa c->(c= .f af d l->False)->(H.hZ a) b=aa c:=λ{b c} q n=>(show(H.hZ a) b=H b from if_neg λz=>n<|bP<|q.symm.trans<|(congrArg H z).trans e).trans q
 ⟨⟨R.1,R.2,R.3,λb c q=>R.4 b c (CB q).2,λb q=>R.5 b (g b q),λb y j q k=>R.6 b y j (w9 q).1 (w9 k).1⟩,λb o q x x=> .u q,λb q=> .inl (g b q), .I _,λb o q=>⟨o,q⟩,λb o i n q z x=>(lq o i n q z),
  λb p m q=>f q λz=>bw (Mine.Internal.cb.f.inj z).1, .I λb x i q=>⟨f q (nomatch ·),λx z=>z⟩⟩
theorem Pq(R:bO B H s)(e:H a=aa (.f af d l))(fr:∃l,A.frames=aa l/\mw B H s.heap l):
 ∃t,s.heap.get? a=aa ⟨.ref B.I.I,aa d, .fields<|rK t,#[]⟩/\(∀f,(A.handled=ag->f= .none)->∀g,(∀b o,b≠a->s.heap.get? b=aa o->g.get? b=aa o)->g.get? a=aa ⟨.ref B.I.I,aa d, .fields #[.ref t, .none,f, .none, .bool ai, .none],#[]⟩->gB B A (H.hZ a) a d l ag g):=by
 refine ay (R.4 a _ e) λz v=>ji z λP i S Q M=>o1 (M rfl) λt z=>?_;rw [z] at i;refine aM t i λf K g C J=>?_;have m:gj a (cb.f af d l) d:= .inr rfl;have u:gj a (cb.f af d l) a:= .inl rfl;have w:∀b,gj a (cb.f af d l) b->¬fp (H.hZ a) b:=λb I h=>o1 h λy q=>(w9 q).2<|R.6 b y a (w9 q).1 ⟨_,e,I⟩;have p:d≠a:=λq=>hW v.I λo L n k j=>oK i rfl k j hV q;exact⟨⟨_, .none,J,rfl,rfl,λq x=>congrArg aa<|K q, .inl rfl⟩,v.U (λb o O n q c z=>C b o (λD=>oK i rfl q z rG D) q) λo q=>C d o p q,w a u,w d m,R.5 a ⟨a,_,e,u⟩,R.5 d ⟨a,_,e,m⟩,λN r hl G q=>(au fr λF k j=>uD (j r<|bP (hl.symm.trans k)▸G) λx x o L n x x E=>E.2 ⟨a,_,e,q▸m⟩)⟩
theorem qh.u{H:HP}{a d:Nat}{l:List V}{b:aG}{c:aj}{dd:Option Nat}{f:Array aj}{sl}(e:H a=aa (.f af d l))(g:b.get? a=aa ⟨c,dd, .fields f,sl⟩)(h:f[1]?=aa .none):qh H s a d b:=
 ⟨.inl<|cL a _ e<|.inl rfl,λT q=>(by cases q.u g rfl h), .inl<|cL a _ e<|.inr rfl⟩
theorem Pr(h:SE B Γ k x e)(C:zH B.K B.I.I=af):SS B Γ k (.j x) (.Raise (aa e) ag p):=λj A l ρ P H s hA o q=>by
 delta zH at C;simp only [eJ,beq_iff_eq] at C;skip;refine aJ<|pU ?_;skip;skip;refine aJ<|aJ<|h.J o q (λy v n g S i r q=>aJ<|pU<|cK ?_) λv g z=>z.J o;obtain⟨a,d,I,rfl,m,q⟩:=q
 ·obtain rfl:v= .ref a:=r
  ·skip;have X:=oR i.1 i.2;obtain⟨t,c,hf⟩:=Pq (A:=A) i.2 m i.4.1;have U:∀{Q:aj->aq->Prop} {E:aj->aq->Prop},Q (.ref B.I.I) g->a0 (aL B.e B.w) A (typeOf<|.ref a) Q E g:=λq=>ack c q;have u:∀{N:Bool->aq->Prop} {E:aj->aq->Prop},N ai g->a0 (aL B.e B.w) A (isType<|.ref a) N E g:=by intro N E Z;simp only [isType,loadHead];exact aJ<|E3 c<|cK Z
   refine aJ<|cK ?_;skip;refine aJ<|jz ?_;skip;refine aJ<|aJ<|u ?_;simp only [yS,if_false];refine cK ?_;simp only [yS,if_false];skip;refine aJ<|aJ<|U<|(ES X C.1).here ?_;simp only [if_true];refine cK<|aJ<|u ?_;simp only [yS,if_false];skip;refine aJ<|aJ<|U<|aJ<|(looks_typeIn X C.2).here<|ae (if_pos<|by first | rfl | decide | simp)<|cK ?_;skip;refine aJ<|aJ<|rj c rfl (show(rK t)[1]?=aa .none from rfl)<|ae (if_neg<|by decide)<|cK<|aJ<|wpAny_handled ?_;have D:aV B (gC j) H s (n.hZ a) g:=S.e.u<|aV.hZ i.2 m;have J:bM B Γ j A k ρ (n.hZ a) g:=i.I (aV.hZ (O:=λw=>False) i.2 m) λb o q=>q.elim;rcases i.4.4 with G | ⟨b,db,V,G,R⟩
   ·exact ae G<|aJ<|cK<|E7<|p8 a d I ρ (n.hZ a) rfl ⟨D,(hf .none (λw=>rfl) _ (λb o w q=>q) c).I,(qh.u m c rfl).j6 S⟩ J q
   ·refine ae G ?_;dsimp only;have K:b≠a:=λz=>bC (Mine.Internal.cb.f.inj<|bP<|m.symm.trans<|z▸R).1;refine ae (if_pos<|by simpa using K) ?_;obtain⟨⟨fs,g1,g2,g3,g4⟩,_⟩:=i.2.4 b _ R;refine aJ<|jz<|acm<|acn GY ?_;skip;skip;refine aJ<|rj g1 rfl g3<|ae (if_pos<|by rfl)<|cK ?_;skip;skip;refine aJ<|aJ<|Mj c ?_;dsimp only;refine ae (if_pos<|by refine(?_:2<6);decide) ?_;refine Mk c<|E7 ?_;have M:=Cw (f:=rk (·.setIfInBounds 2 (q7 b))) c rfl rfl;have F:mz B a (n.hZ a) g {g with heap:=g.heap.update a (rk (·.setIfInBounds 2 (q7 b)))}:=by have W:=(hf .none (λw=>rfl) _ (λb o w q=>q) c).3;have Y:=(hf .none (λw=>rfl) _ (λb o w q=>q) c).5;refine⟨(Cx J.2 c W Y rO M).U λb q=> .inl q,λT q=>?_⟩;cases q.u M rfl (show _=aa yP from rfl)
    have Ff:=hf (.ref b) (λq=>by replace q:=G▸q;exact hU q) _ rO M;have L:kc B A (gC j) H s (n.hZ a) a d I (aa j.locals) g:=⟨D,(hf .none (λw=>rfl) _ (λb o w q=>q) c).I,(qh.u m c rfl).j6 S⟩;exact p8 a d I ρ (n.hZ a) rfl (L.oP F Ff.I) (J.I F.1 L.2.J) q
noncomputable def xa(K:eK)(c:Nat):Bool:=zH K c&&subIn K (.ref c) (.ref c)==aa af&&(K.lookup c).any λo=>o.data.ctorIdx==8
theorem Pu{d:oB}(h:(d.ctorIdx==8)=af):∃c,d= .cls c:=Data.cls.elim (motive:=λd=>∃c,d= .cls c) d (beq_iff_eq.mp h) λc=>⟨c,rfl⟩
theorem Pw{Q:Bool->aq->Prop}(X:B.K.In s.heap)(g:xa B.K c=af)(i:s.heap.get? e=aa f)(j:f.cls= .ref c)(h:Q af s):a0 (aL B.e B.w) A (excMatches (.ref e)<|.ref c) Q E s:=by
 refine ay (bh g) λa l=>ay (bh a) λa h3=>ay (bh (show(_&&_)=af from a)) λd b=>au (v8 l) λo k hd=>?_;replace d:=beq_iff_eq.mp d;replace b:=beq_iff_eq.mp b;replace h3:=beq_iff_eq.mp h3;obtain⟨r,q,m,n⟩:=o;obtain⟨p,rfl⟩:=Pu hd
 ·have ho:=X _ _ k;refine aJ<|aJ<|(looks_typeIn X b).here<|ae tc_notTuple<|cK ?_;skip;refine ae (if_neg gp)<|aJ<|cK ?_;simp only [aco,Ml];delta isExcClass isType;simp only [loadHead];refine aJ<|aJ<|aJ<|aJ<|aJ<|E3 ho<|cK ?_;skip;refine ae (if_pos rfl)<|(ES X d).here ?_;simp only [Bool.not_true,yS,if_false];refine cK<|cK<|aJ<|ack i<|ae j<|aJ<|aJ<|aJ<|(ES X h3).here ?_;simp only [if_true];exact cK<|cK<|cK h
theorem GZ(o:bM B Γ a A k ρ H s)(f:Γ.a.lookup x=aa .globalImplicit)(hd:iT x=af)(i:m8 B.K jN x=aa (aa<|.ref B.I.I))(g:xa B.K B.I.I=af)
 (j:s.heap.get? e=aa c) (l:c.cls= .ref B.I.I) (h:R (.ok .brk) s):sS (aL B.e B.w) m (.handlers (.ref e) [.ExceptHandler (aa<|.Name x d) ag [] p] a) R s:=by
 have b:a.kindOf x=aa .globalImplicit:=by unfold m9;exact ae o.3.2 f
 refine codeAny_handlers_test<|yK o.3.3 b (Bj ?_ (mg_of o.1.1 o.1.2 i) ?_)<|rM hd
 ·exact ae o.3.4<|o.1.2.keeps o.2.1
 ·exact Pw (oR o.1 o.2) g j l h
theorem Px(o:bM B Γ a A k ρ H s)(C:(x,i)∈Γ.b)(t:Γ.a.lookup x=aa .local)
 (h:∀f,aV B (·=a.locals) H s H f->bM B Γ a A k (ρ.set i ag) H f->Q () f):a0 (aL B.e B.w) F (do bindName a x .none;unbindBehindTheSuite a x p) Q E s:=by
 have d:a.kindOf x=Γ.a.lookup x:=by unfold m9;exact ae o.3.2 rfl
 refine au o.3.6 λm r hl=>?_;have hp:(a.scope.kind== .class||(a.scope.kind== .module&&a.locals !=a.globals))=false:=by exact ae o.3.3 rfl
 refine aJ<|E6<|ab5 (d.trans t) r (λG n l=>?_) hp;skip;refine wpAny_onRaise<|wpAny_unbindName_local (v:= .none) (d.trans t) n (if_pos rfl) hp λz u c j=>?_;have w:∀b g,b≠a.locals->s.heap.get? b=aa g->z.get? b=aa g:=λb g q e=>(j.2 b q).trans<|(l.2 b q).trans e;have S:aV B (·=a.locals) H s H {s with heap:=z,toks:=s.toks+1}:=GN o.2 r c w o.3.8 o.3.9 rfl;exact h _ S ⟨o.1,S.1,o.3.e S.4 C t w r hl c (λy q=>(if_neg q).trans<|if_neg q) λu D=>a9<|Cv.symm.trans D,o.4.u S,o.5⟩
theorem Pt(M:A.frames=aa (p::l))(hn:A.handled=ag)(hc:uG h=ai)(L:kc B A O r j H e d h fr s)(o:bM B Γ p A k ρ H s):
 H e=ag/\H d=ag/\e≠d/\aV B O r j (H.J e<|.f ai d h) s/\bM B Γ p A k ρ (H.J e<|.f ai d h) s:=by
 refine iC L.2.1 λfs tb P a2 w a4 w=>hW L.2.2.I λod esd nd E I=>?_;have W:e≠d:=λq=>nA P rfl E I hV q;have he:H e=none:=o.2.Cf L.2.3 L.2.5;have nw:∀{b},gj e (.f ai d h) b->¬fp H b:=λz=>z.elim (λz=>z▸L.2.3) λz=>z▸L.2.4;have v:∀b,¬fp H b->b≠e->b≠d->¬fp (H.J e<|.f ai d h) b:=λb h1 h2 h3 q=>(tA q).elim h1 λz=>z.elim h2 h3;have K:∀{c z},s.heap.IsCell c z->¬fp H c->¬fp (H.J e<|.f ai d h) c:=λq n=>au q λoc F J=>v _ n (oK P rfl F J BK)<|oK E I F J BJ;have u:∀{a c},H a=aa c->(H.J e<|.f ai d h) a=aa c:=λq=>(uL λz=>a9<|he.symm.trans<|z▸q).trans q
 have R:bO B (H.J e<|.f ai d h) s:=
  ⟨o.2.1,o.2.2,o.2.3,λb c q=>wU q (λz Q=>by subst z;subst Q;exact⟨⟨fs,P,a2,a4 hn hc,λq=>bw q⟩,L.2.2⟩) λw q=>o.2.4 b c q,
   λb q=>(tA q).elim (o.2.5 b) λz=>z.elim (λz=>z▸L.2.5) λz=>z▸L.2.6,
   λb y Y q Z=>nJ q (λz t=>nJ Z (λQ w=>z.trans Q.symm) λw m=>(nw t ⟨Y,m⟩).elim) λw t=>nJ Z (λw m=>(nw m ⟨y,t⟩).elim) λw m=>o.2.6 b y Y t m⟩
 have S:aV B O r j (H.J e (.f ai d h)) s:=⟨R,L.1.2,λb q=>(tA q).elim (L.1.3 b) λz=>z.elim (λz=>z▸L.3.1) λz=>z▸L.3.2.2,L.1.4,L.1.5,L.1.6,λa d' T q=>u (L.1.7 a d' T q),λa g N q=>
  au (L.1.8 a g N q) λX t m=>aM X (u t) m⟩
 have C:∀f∈p::l,¬fp (H.J e<|.f ai d h) f.locals:=λf G=>uD (o.J M f G) λw w o' N n m U q5=>v _ q5.2 (oK P rfl m U hV)<|L.2.7 _ f M G
 refine⟨he,o.2.Cf L.2.4 L.2.6,W,S,o.1,R,⟨o.3.1,o.3.2,o.3.3,o.3.4,o.3.5,o.3.6,λx i D hk=>iC (o.3.7 x i D hk) λc z e1 e2 e3 e4 e5=>jQ c z e1 e2 (K e2 e3) e4 e5,C p (.head _),o.3.9,o.3.10,λx c D=>⟨(o.3.11 x c D).1,o1 (o.3.11 x c D).1 λz q=>K q (o.3.11 x c D).2⟩⟩,
  ⟨aM _ M λf G=>?_,o.4.2,o.4.3, .inl hn⟩,o.5⟩
 exact uD (o.J M f G) λq0 t o' N n m U q4=>⟨q0,t,o',N,n,m,U,q4.1,C f G⟩
theorem g7.G0{e c:Bool}{d:List (Str×gU)}{a:List (Str×Nat)}{b:Env}{ρ:aA}{H:HP}{h:aG}(x:g7 B ⟨d,a,e⟩ b ρ H h):g7 B ⟨d,a,c⟩ b ρ H h:=⟨x.1,x.2,x.3,x.4,x.5,x.6,x.7,x.8,x.9,x.10,x.11⟩
theorem lA.u{O:Nat->Prop}{H h:HP}{s a:aq}{e d:Nat}{f:List V}{fr:Option Nat}(x:lA e s.heap)(F:gB B A H e d f fr s.heap)(S:aV B O H s h a)(ho:¬O e):lA e a.heap:=by exact fV F.1 λg i c z b z=>o1 x λT q=>(mj T _ g ((S.2 e _ c F.3 ho).e) rfl<|ae b<|congrArg aa<|q.u c rfl b)
theorem f6.J{c:Env}{l:List Env}{g H:HP}{f s s':aq}{e d:Nat}{m:List V}(E:A.frames=aa (c::l))(x:kc B A (gC c) g f H e d m (aa c.locals) s)(hd:∃o v n,s.heap.get? c.locals=aa o/\o.data= .dict v n)(S:aV B (·=c.locals) H s H s'):
 kc B A (gC c) g f H e d m (aa c.locals) s'/\(lA e s.heap->lA e s'.heap):=by
 refine iC x.2.1 λu D k L j K J=>hW hd λO v n t h=>?_;have p:e≠c.locals:=nA k rfl t h hV;have i:=(S.2 e _ k x.2.3 p).e;exact⟨⟨x.1.u<|S.U λb q=> .inl q,⟨jQ u D i L j K<|J.imp id λa=>jj a λT N ts z I C w G r=>au (S.2 T _ C r.2.2.1<|nA C w t h hV) λM F y=>⟨T,_,ts,z,I,F,w,G,r⟩,x.2.2.u S.4 λo q=>S.2 d o q x.2.4 λq=>x.2.7 _ c E (.head _) q.symm,x.2.3,x.2.4,x.2.5,x.2.6,x.2.7⟩,x.3.1,λT q=>x.3.2.1 T ⟨_,u,k,rfl,ae j<|congrArg aa<|q.u i rfl j⟩,x.3.2.2⟩,λq=>q.u x.2 S p⟩
theorem f6.u{c:Bool}{a:Env}{i:aA->List V->HP->Prop}{H:HP}{s f:aq}{h:Option aj}{v:aj}(g:A.handled=ag)(x:f6 B {Γ with hs:=c} a (A.mark h) k (λρ l H=>uG l=af/\i ρ l H) H s v f):f6 B Γ a A k i H s v f:=by exact M6 x λe d n b D q L o m j=>p8 e d n b D q ⟨L.1,⟨iC L.2.1 λr p C w u y t=>jQ r p C w u (λy z=>bC<|m.symm.trans z) t,L.2.2,L.2.3,L.2.4,L.2.5,L.2.6,L.2.7⟩,L.3⟩ ⟨o.1,o.2,o.3.G0,⟨o.4.1,o.4.2,o.4.3, .inl g⟩, .inr g⟩ j
theorem Pz(h:gL B Γ k b bs)(G:xa B.K B.I.I=af)(F:Γ.a.lookup x=aa .globalImplicit)(hd:iT x=af)(I:m8 B.K jN x=aa (aa<|.ref B.I.I))
 (E:(y,i)∈Γ.b) (hf:Γ.a.lookup y≠aa .free):SS B Γ k (.q b<|.u (.c (.J i)<|.e .f) .I) (.Try bs [.ExceptHandler (aa<|.Name x D) ag [.Assign [.Name y n] (.Constant .none j J) r] hp] [] [] p):=λc A l ρ P H s m o q=>by
 refine acp<|dX (h.fZ c A l ρ _ H s m o q) (λf t z=>?_) λv t z=>?_
 ·induction f with| next=>exact bG z λa g S C z=>wk ⟨a,g,S,C,z⟩| brk=>exact z| ret v=>exact z| cont=>exact z
 ·refine mr z λe d N a g q L o z=>ae q (w8 m L o λU L o w=>tC ag L o λT L o=>cm L.2.1 λV O K w=>acq (GZ o F hd I G K rfl<|codeAny_handlers_suite<|tC ag L o λR L o=>Mc<|Md ?_ rfl rfl) (nomatch ·));skip;refine cK ?_;skip;exact aJ<|pU<|E6<|uQ o E hf uM λQ M u=>wk<|b7 _ g (L.1.u M) u z
theorem Py(h1:gL B Γ k b bs)(hk:xa B.K B.I.I=af)(hx:Γ.a.lookup x=aa .globalImplicit)(hd:iT x=af)(hg:m8 B.K jN x=aa (aa<|.ref B.I.I))
 (hs:Γ.hs=ai) (hi:(n,i)∈Γ.b) (hl:Γ.a.lookup n=aa .local) (h2:gL B {Γ with hs:=af} k h (b0::M)):SS B Γ k (.l b i h) (.Try bs [.ExceptHandler (aa<|.Name x np) (aa n) (b0::M) hp] [] [] p):=λc A l ρ P H s a o q=>by
 have K:A.handled=none:=o.5.elim (λz=>by replace z:=hs▸z;exact bw z) id;refine acp<|dX (h1.fZ c A l ρ _ H s a o q) (λf s1 z=>?_) λv s1 z=>?_
 ·induction f with| next=>exact bG z λj R S o' z=>wk ⟨j,R,S,o',z⟩| brk=>exact z| ret v=>exact z| cont=>exact z
 ·refine mr z λe d V j R q L o z=>ae q (w8 a L o λs2 L o w=>tC ag L o λs3 L o=>cm L.2.1 λfs tb a1 w=>acq (GZ o hx hd hg hk a1 rfl<|codeAny_handlers_suite_as<|tC ag L o λs4 L o=>BN (Pt a K z.1 L o) λF O N Q J=>?_) (nomatch ·));replace z:=z.2 e d F O N;refine uQ J hi (ae hl nofun) (y:= .d e) kJ λX G g=>?_;replace G:=Q.u G;clear Q J L o F O N;refine dX (h2.fZ c (A.mark<|aa<|.ref e) l _ _ _ X a ⟨g.1,g.2,g.3.G0,⟨g.4.1,g.4.2,g.4.3, .inr<|lq e d V rfl Ci⟩, .inl rfl⟩ z) (λf W z=>?_) λv W z=>?_
  ·induction f with| next=>exact bG z λw w w w z=>z.elim| brk=>exact bG z λw w w w z=>z.elim| ret v=>exact bG z λw w w w z=>z.elim| cont=>exact z.elim
  ·refine mr (z.I G) λe' d' t U H7 q L o z=>ae q (w8 (A:=A.mark<|aa<|.ref e) a L o λs8 L I C=>Px I hi hl λs9 S9 o=>ay (f6.J (A:=A.mark<|aa<|.ref e) a L (au I.3.6 λm hm w=>fW hm λob es n E D w=>lq ob es n E D) S9) λL u=>fW (u C) λT oe fs9 E D g3=>?_);skip;exact aJ<|rj E D g3<|ae (if_neg<|by simp)<|ae (o.J a c<|.head _).2.1<|aJ<|tC (aa c.locals) L o λZ L o=>E7<|GX (ex:=λρ l H=>uG l=af/\P.ex ρ l H) a (p8 e' d' t _ H7 rfl L o z) λF Y q r C=>GW a (f6.u K r)<|rh q▸C
noncomputable def jS(e:az):Bool:=e.ctorIdx==23||e.ctorIdx==25
inductive oX(B:aF)(it:Nat)(src:gy)(tt:az)(Cur:List V->aG->Prop):Prop
 | mk (fld:∀{ys h},Cur ys h->∃o fs,h.get? it=aa o/\o.data= .fields fs)
  (keep:∀{O H s H' s' ys},Cur ys s.heap->src.J H->src.J H'->aV B O H s H' s'->(∀o,s.heap.get? it=aa o->s'.heap.get? it=aa o)->Cur ys s'.heap)
  (item:∀{A y ys H s} {Q:aj->aq->Prop} {E E':aj->aq->Prop} {R:aq->Prop},Cur (y::ys) s.heap->bO B H s->src.J H->¬fp H it->B.u.get? it=ag->
  (∀v s',aV B (·=it) H s H s'->Cur ys s'.heap->aW s'.heap y v->Q v s')->
  a0 (aL B.e B.w) A (Bx (.ref it)) (λr s1=>match r with | none=>R s1 | some v=>a0 (aL B.e B.w) A (Bv tt (.ref it) v) (λz s2=>Q v s2) E' s1) E s)
  (done:∀{A H s} {Q:aq->Prop} {E:aj->aq->Prop} {R:aj->aq->Prop},A.handled=ag->Cur [] s.heap->bO B H s->src.J H->
  (∀h',rm it s.heap h'->Q {s with heap:=h'})->a0 (aL B.e B.w) A (Bx (.ref it)) (λr s1=>match r with | none=>Q s1 | some v=>R v s1) E s)
  (self:∀{A ys s} {Q:aj->aq->Prop} {E:aj->aq->Prop},(∃x p,tt= .Name x p)->Cur ys s.heap->Q (.ref it) s->a0 (aL B.e B.w) A (Bw (.ref it)) Q E s)
theorem zI{k:Array aj}(x:g7 B Γ a ρ H s.heap)(e:s.heap.get? b=aa o)(d:o.data= .fields k):¬gC a b:=λq=>
 q.elim (λq=>au x.6 λm h w=>fW h λp r n j i w=>nA e d j i hV q) λq=>o1 q λy g=>o1 (x.11 y b g).1 λz q=>au q λl c f=>nA e d c f BK rfl
theorem CC(S:aV B O H s g c)(e:s.heap.get? a=aa o)(d:o.data= .fields j)(f:¬fp H a)(i:¬O a):(∀o,s.heap.get? a=aa o->c.heap.get? a=aa o)/\¬fp g a:=by refine⟨λh q=>au (S.2 a h q f i) λl b k=>?_,oQ S e f⟩;replace b:=(k λm n z=>hV<|(jD e d q).symm.trans z)▸b;exact b
theorem Qa(x:g7 B Γ b ρ H s.heap)(e:s.heap.get? a=aa o)(d:o.data= .fields g)(n:¬fp H a)(S:aV B (gC b) H s f c):(∀o,s.heap.get? a=aa o->c.heap.get? a=aa o)/\¬fp f a:=CC S e d n<|zI x e d
theorem aV.uS{u:aG}(S:aV B O j f H s)(e:s.heap.get? C=aa o)(d:∀K n,o.data= .seq K n->o.cls≠ .type "tuple")(G:¬fp H C)(I:B.u.get? C=ag)(hi:f.heap.get? C=ag)(x:rm C s.heap u):
 aV B O j f H {s with heap:=u}:=by
 have p:∀{b o},f.heap.get? b=aa o->b≠C:=λq z=>a9<|hi.symm.trans<|z▸q;have A:e8 s.heap u:=λb h i n q c z=>x b h (λy=>by obtain rfl:=bP<|e.symm.trans<|y▸q;exact d i n z c) q
 exact⟨S.1.kH A x G I,λb h q t ho=>au (S.2 b h q t ho) λE m l=>aM E (x b _ (p q) m) l,S.3,S.4.u A,λb h q=>o1 (S.5 b h q) λr F=>⟨r,x b _ (p q) F⟩,
  λb h v n q z t=>hW (S.6 b h v n q z t) λr k J m l=>⟨r,k,J,x b _ (p q) m,l⟩,S.7,λa g v q=>bR (S.8 a g v q) λk m l D=>⟨k,m,l,λz=>⟨(D z).1,λh w=>x a h (p w) ((D z).2 h w)⟩⟩⟩
theorem bM.uS(y:bM B Γ g A k ρ H s)(e:s.heap.get? C=aa o)(d:∀I n,o.data= .seq I n->o.cls≠ .type "tuple")(E:¬fp H C)(F:B.u.get? C=ag)(N:g.locals≠C)(M:∀n c,g.cells.lookup n=aa c->c≠C)(h3:∀l a,A.frames=aa l->a∈l->a.locals≠C)(x:rm C s.heap r):bM B Γ g A k ρ H {s with heap:=r}:=by
 have t:e8 s.heap r:=λb h i n q c z=>x b h (λy=>by obtain rfl:=bP<|e.symm.trans<|y▸q;exact d i n z c) q
 exact⟨y.1,y.2.kH t x E F,y.3.J t (λm K=>K.at λo=>x _ o N) (λn c z L J w=>au J λD j p=>aM D (x _ _ (M n c L) j) p) λb o w n=>n,
  ⟨au y.4.1 λl v f=>aM l v λa u=>uD (f a u) λk1 k2 h O n k3 G k5=>⟨k1,k2,h,O,n,x _ _ (h3 l a v u) k3,G,k5⟩,y.4.2,y.4.3,y.4.4⟩,y.5⟩
theorem aV.nI(S:aV B O b a H s)(e:s.heap.get? c=aa o)(d:o.data= .fields i)(g:¬fp H c)(h:B.u.get? c=ag)(hi:a.heap.get? c=ag)(x:rm c s.heap f):
 aV B O b a H {s with heap:=f}:=S.uS e (λc n q=>rG<|d.symm.trans q) g h hi x
theorem bM.nI(y:bM B Γ g A k ρ H s)(e:s.heap.get? a=aa o)(d:o.data= .fields t)(i:¬fp H a)(j:B.u.get? a=ag)(x:rm a s.heap h):bM B Γ g A k ρ H {s with heap:=h}:=
 y.uS e (λa n q=>rG<|d.symm.trans q) i j (λq=>zI y.3 e d<|.inl q.symm) (λn c r q=>zI y.3 e d<|.inr ⟨n,q▸r⟩)
  (λl b v p q=>au y.4.1 λC u f=>uD (f b<|bP (v.symm.trans u)▸p) λz z w D n k3 m z=>oK e d k3 m hV q) x
theorem Qb(q:uI a c b P d ρ H):a.J H:=by induction d with| _=>exact q.1
noncomputable def PX(B:aF)(Γ:aI)(a:Env)(A:bW)(k:Nat)(P:bA)(H:HP)(s:aq)(r:uz)(b:aq):Prop:=match r with | .ok f=>rP B Γ a A k P H s f b | .error e=>Mi (aL B.e B.w) A a (f6 B Γ a A k P.ex H s) e b
noncomputable def PW(B:aF)(Γ:aI)(c:Env)(A:bW)(k:Nat)(P:bA)(H:HP)(s:aq)(h:List V->aG->Prop)(i:Nat)(f:gy)(t:T)(b:SL)(n:Nat)(g:aq):Prop:=
 ∃e a d,n=e.length/\aV B (gC c) H s d g/\bM B Γ c A k a d g/\h e g.heap/\¬fp d i/\uI f (λv ρ K H=>oO (CR B k) t v ρ (P.ex ρ) K H) (λρ P H=>aw (CR B k) b ρ P H) P e a d
theorem PY(W:oX B m i O r)(ht:ST B Γ k t O)(h1:gL B Γ k b bs)
 (hh:A.handled=ag) (L:A.frames=aa (c::l)) (S:aV B (gC c) H s d g) (o:bM B Γ c A k ρ d g) (w:r a g.heap) (j:¬fp d m) (R:B.u.get? m=ag) (hi:s.heap.get? m=ag)
 (q:uI i (λv ρ K H=>oO (CR B k) t v ρ (P.ex ρ) K H) (λρ P H=>aw (CR B k) b ρ P H) P a ρ d):
 sS (aL B.e B.w) A (.forLoop O (.ref m) bs [] c) (PX B Γ c A k P H s) g:=by
 refine codeAny_forLoop_any (PW B Γ c A k P H s r m i t b) (λn s' z=>?_) a.length ⟨a,ρ,d,rfl,S,o,w,j,q⟩;clear S o w j q;obtain⟨N,D,U,rfl,S,o,w,j,q⟩:=z;refine cm (W.1 w) λoi fi J I=>?_;induction N with
 | nil=>exact W.4 hh w o.2 q.1 λh' z=>wk ⟨D,U,S.nI J I j R hi z,o.nI J I j R z,q.2⟩
 | cons y N _=>
  refine W.3 w o.2 q.1 j R λv Y z E r1=>cm (W.1 E) λoj fj j1 j2=>?_;have Z:=o.I z λb ob q e=>⟨fi,jD J I<|q▸e⟩;have F:aV B (gC c) H s U Y:=aV.wQ (O':=(·=m)) ((S.U λb q=> .inl q).u<|z.U λb q=> .inr q) λb q=> .inr<|q▸hi;clear S o z J I;refine dX (ht c A l D P.ex _ U Y y v L Z r1 q.2) (λx X z=>bG z λM H3 C o3 z3=>dX (h1.fZ c A l M _ H3 X L o3 z3) (λf s4 z=>?_) λv s4 z=>zG L<|z.I<|F.u C) λv X z=>zG L<|z.I F;induction f with
  | next=>refine bG z λh G p Q u=>?_;have k:=Qa Z.3 j1 j2 j<|C.u p;exact⟨_,mf _,N,h,G,rfl,F.u<|C.u p,Q,W.2 E q.1 (Qb u) (C.u p) k.1,k.2,u⟩| brk=>exact bG z λh G p Q u=>⟨h,G,F.u<|C.u p,Q,u⟩| ret v=>exact bG z λy4 G p r4 u=>⟨y4,G,F.u<|C.u p,r4,u⟩| cont=>exact z.elim
theorem Qi(c:jS a=af)(e:s.heap.get? b=aa o)(g:o.cls= .type n)(d:o.data= .fields i)
 (f:["enumerate","zip","dict_itemiterator","dict_reverseitemiterator","odict_iterator","itertools.zip_longest","itertools.pairwise"].contains n=ai) (h:Q () s):a0 M A (Bv a (.ref b) v) Q E s:=by
 revert c;refine(@pQ (λa=>jS a=af->a0 M A (Bv a (.ref b) v) Q E s) a ?_ ?_ ?_ ?_ ?_ ?_ ?_ ?_ ?_ ?_ ?_ ?_ ?_ ?_ ?_ ?_ ?_ ?_ ?_ ?_ ?_ ?_ ?_ ?_ ?_ ?_ ?_);all_goals (intros;first | exact bw (by assumption) | exact cK h | skip)
 ·skip;induction v<;>first | exact cK h | skip
  skip;refine aJ<|Mj e<|ae g<|ae d ?_;dsimp only;rw [f,E8,if_neg gp];exact cK h
noncomputable def kM(h:aG)(a:Nat)(n:String):Prop:=∃o b,h.get? a=aa o/\o.cls= .type n/\o.data= .fields b
theorem kM.u{h:aG}{a:Nat}{n:String}{b:Array aj}(x:∃o,h.get? a=aa o/\o.cls= .type n/\o.data= .fields b):kM h a n:=bR x λo e c d=>b7 o b e c d
theorem kM.I{h:aG}{b:Nat}{n:String}(x:kM h b n):∃o a,h.get? b=aa o/\o.data= .fields a:=bG x λo a e z d=>cL o a e d
theorem G5(R:bO B H s)(x:kM s.heap a n)(g:kM c a l)(i:¬fp H a)(j:B.u.get? a=ag)(k:uy a s.heap c):aV B (·=a) H s H {s with heap:=c,toks:=t'}:=by exact bG x λo u e z d=>bG g λh p r z z=>aV.uK (s':={s with heap:=c,toks:=t'}) (L:=a) R (λb o m q=>(k.2 b m).trans q) i j (.inr rfl) (λt q=>⟨aM h r λv n f=>hV<|(jD e d q).symm.trans f,λa n f=>rG<|(jD e d q).symm.trans f⟩) rfl rfl
theorem xb(c:jS e=af)(R:bO B H s)(x:kM s.heap a n)(d:kM b a n)(f:¬fp H a)(g:B.u.get? a=ag)(k:uy a s.heap b)
 (i:["enumerate","zip","dict_itemiterator","dict_reverseitemiterator","odict_iterator","itertools.zip_longest","itertools.pairwise"].contains n=ai) (h:aV B (·=a) H s H {s with heap:=b,toks:=t'}->Q () {s with heap:=b,toks:=t'}):
 a0 (aL B.e B.w) A (Bv e (.ref a) v) Q E {s with heap:=b,toks:=t'}:=bG d λp j l o m=>Qi (s:={s with heap:=b,toks:=t'}) c l o m i<|h<|G5 R x d f g k
theorem CD{i:Nat}{w:aj}(h:a[i]?=aa w):(k7 a)[i]?=aa w:=EV.trans h
theorem G3{i:Nat}{h:aG}(r:ba h l a)(q:l[i]?=ag):(k7 a)[i]?=none:=EV.trans<|Bs<|r.dN▸Mn.mp q
theorem zJ{l:List a}{i:Nat}{y:a}{b:List a}(h:y::b=l.drop i):l[i]?=aa y/\b=l.drop (i+1):=
 ⟨List.getElem?_drop.symm.trans<|(congrArg (·[0]?) h).symm,(congrArg List.tail h).trans List.tail_drop⟩
theorem zK{l:List a}{i:Nat}(h:[]=l.drop i):l[i]?=none:=Mn.mpr<|List.drop_eq_nil_iff.mp h.symm
noncomputable def Qc(c a:Nat)(l:List V)(b:List V)(h:aG):Prop:=∃i,h.IsListIter c a i/\b=l.drop i
theorem Qj{k a g:Nat}{l:List V}{j:az}(d:jS j=af):oX B k (.u a<|.u g l) j (Qc k a l):= .mk
 (λx=>au x λi x z=>(kM.u x).I)
 (λx z z z p=>au x λi x q=>aM i (x.at p) q)
 (λ{A y F H s Q E I R} x b c n o h=>by
  exact au x λi x q=>ay (zJ q) λv u=>bR (b.4 a _ c) λm hl e z=>au (e.eM v) λw D C=>wpAny_pyNext_list_item x hl.u (x:=w) (CD D) λG f r=>xb (t':=s.toks) d b (.u x) (.u f) n o r (by decide) λS=>h w _ S ⟨i+1,f,u⟩ (C.U S.4))
 (λ{A H s Q E R} t x b c h=>au x λi x q=>bR (b.4 a _ c) λm hl e z=>wpAny_pyNext_list_end t x hl.u (G3 e<|zK q) h)
 (λz x h=>au x λi x z=>wpAny_pyIter_listiter x h)
noncomputable def Qg(c t:Nat)(l:List V)(b:List V)(h:aG):Prop:=∃i a,h.IsTupleIter c t i/\h.IsTuple t (k7 a)/\ba h l a/\b=l.drop i
theorem Qn{k t:Nat}{l:List V}{g:az}(d:jS g=af):oX B k .b g (Qg k t l):= .mk
 (λx=>cm x λi z x z=>(kM.u x).I)
 (λx z z S u=>fV x λi a x y r q=>pZ i a (au x λo e r=>aM o (u _ e) r) (S.4.U y) (r.U S.4) q)
 (λ{A y J H s Q E L R} x j m n p h=>by
  exact fV x λi a x b c q=>ay (zJ q) λF D=>au (c.eM F) λw I G=>wpAny_pyNext_tuple_item x b (x:=w) (CD I) λK f v=>xb (t':=s.toks) d j (.u x) (.u f) n p v (by decide) λS=>h w _ S ⟨i+1,a,f,S.4.U b,c.U S.4,D⟩ (G.U S.4))
 (λ{A H s Q E R} C x j m h=>fV x λi a x b c q=>wpAny_pyNext_tuple_end C x b (G3 c<|zK q) h)
 (λz x h=>cm x λi z x z=>wpAny_pyIter_tupleiter x h)
theorem G4:eQ a (a+((n+1:Nat):Int))= .x a::eQ (a+1) (a+1+(n:Int)):=by unfold eQ;rw [show a+((n+1:Nat):Int) - a=((n+1:Nat):Int) by exact sX (cP (.Le (.s (.a (.v 0)<|.c<|.a (.v 0)<|.n 1)<|.v 0)<|.c<|.a (.v 0)<|.n 1) rfl [_] [_])<|cP (.Le (.c<|.a (.v 0)<|.n 1)<|.s (.a (.v 0)<|.c<|.a (.v 0)<|.n 1)<|.v 0) rfl [_] [_],show a+1+(n:Int) - (a+1)=n by exact sX (cP (.Le (.s (.a (.a (.v 0)<|.n 1)<|.c<|.v 0)<|.a (.v 0)<|.n 1)<|.c<|.v 0) rfl [_] [_])<|cP (.Le (.c<|.v 0)<|.s (.a (.a (.v 0)<|.n 1)<|.c<|.v 0)<|.a (.v 0)<|.n 1) rfl [_] [_],A9,A9,LW,gX,rq];exact congr (congrArg By<|congrArg V.x<|uo a)<|pV λi z=>congrArg V.x<|(congrArg (a+·)<|acs _ 1).trans (Ly a 1 i).symm
noncomputable def Qd(b:Nat)(a:List V)(h:aG):Prop:=∃(x:Int) (n:Nat),IsRangeIter h b x (n:Int) 1/\a=eQ x (x+n)
theorem CE(e:IsRangeIter h a x y z):kM h a "range_iterator":=b7 _ _ e rfl rfl
theorem Qk(a:jS c=af):oX B f .b c (Qd f):= .mk
 (λx=>cm x λx n e z=>(CE e).I)
 (λx z z S k=>cm x λx n e q=>cL x n (k _ e) q)
 (λ{A y o H s Q E r R} x d g i j h=>by
  refine cm x λx n e q=>?_;induction n with
  | zero=>simp [eQ] at q
  | succ n _=>
   replace q:=jA<|q.trans G4
   exact wpAny_pyNext_range_item e (by(simp;done)) λp b l=>xb a d (CE e) (CE b) i j l (by decide) λS=>h _ _ S ⟨x+1,n,(Mm n 1:((n:Int)+1) - 1=n)▸b,q.2⟩ (q.1▸nN))
 (λ{A H s Q E R} m x d g h=>by
  refine cm x λx n e q=>?_;induction n with
  | zero=>exact wpAny_pyNext_range_end m e (jy _) h
  | succ n _=>exact gw (q.trans G4))
 (λz x h=>cm x λz z x z=>wpAny_pyIter_rangeiter x h)
noncomputable def Qh(c a:Nat)(l:List V)(b:List V)(h:aG):Prop:=∃n:Nat,h.IsRevIter c a ((n:Int) - 1)/\n<=l.length/\b=(l.take n).reverse
theorem Ql{l:List V}{f:az}(d:jS f=af):oX B k (.u a<|.u g l) f (Qh k a l):= .mk
 (λx=>au x λi x z=>(kM.u x).I)
 (λx z z z r=>au x λi x q=>aM i (x.at r) q)
 (λ{A y F H s Q E J R} x c j o p h=>by
  refine bR x λn x b q=>?_;induction n with
  | zero=>exact gv q
  | succ n _=>
   refine bR (c.4 a _ j) λG hl u z=>?_;have m:l[n]?=aa l[n]:=iB b;rw [acv,m,acu] at q;replace q:=jA q;refine au (u.eM m) λw D C=>?_;replace x:=(Mm n 1:((n:Int)+1) - 1=n)▸x
   exact wpAny_pyNext_rev_item x hl.u (x:=w) (CD D) λI e t=>xb (t':=s.toks) d c (.u x) (.u e) o p t (by decide) λS=>h w _ S ⟨n,e,mh b,q.2⟩ (q.1▸C.U S.4))
 (λ{A H s Q E R} v x c j h=>by
  refine bR x λn x b q=>?_;induction n with
  | zero=>exact wpAny_pyNext_rev_end v x h
  | succ n _=>rw [acv,iB b,acu] at q;exact gw q)
 (λz x h=>au x λz x z=>acw x h)
noncomputable def G2(x:Str):List V:=x.cps.toList.map λc=> .z ⟨#[c]⟩
noncomputable def Qf(b:Nat)(x:Str)(t:k9)(a:List V)(h:aG):Prop:=∃i,h.IsStrIter b "str_ascii_iterator" x t i/\a=(G2 x).drop i
theorem Qm{k:Nat}{x:Str}{t:k9}{f:az}(b:jS f=af):oX B k .b f (Qf k x t):= .mk
 (λy=>au y λi y w=>(kM.u y).I)
 (λy w w w p=>au y λi y q=>aM i (au y λo e r=>aM o (p _ e) r) q)
 (λ{A y F H s Q E I R} z j l m n h=>by
  refine au z λi a q=>ay (zJ q) λD C=>au (oG.mp<|jf.symm.trans D) λc g e=>?_
  exact wpAny_pyNext_ascii_item a (c:=c) (acr.symm.trans g) λG d u=>xb b j (.u a) (.u d) m n u (by decide) λS=>h _ _ S ⟨i+1,d,C⟩ (e▸tB))
 (λ{A H s Q E R} v z j l h=>au z λi a q=>wpAny_pyNext_ascii_end v a (acr.symm.trans<|Bm.mp<|jf.symm.trans<|zK q) h)
 (λw y h=>au y λw x w=>wpAny_pyIter_striter_ascii x h)
noncomputable def zL(a:List (Str×V)):List V:=a.map λe=> .U [.z e.1,e.2]
theorem fJ.eM{i:Nat}{y:a×V}(e:fJ h x v)(q:x[i]?=aa y):∃w,v[i]?=aa w/\y.1=w.1/\aW h y.2 w.2:=by
 induction x generalizing v i with
 | nil=>exact a9 q
 | cons x l ih=>
  refine fV e λw r z g f d=>?_;induction i with
  | zero=>exact bT w (ae z rfl) (bP q▸g)<|bP q▸f| succ i _=>exact au (ih d q) λu c b=>aM u (ae z c) b
noncomputable def Qo(B:aF)(j a:Nat)(c:List (Str×V))(e:List V)(h:aG):Prop:=∃i d g f b,IsItemIter h j a i (pO b) d g f/\h.DictAt (sQ B.e B.w) a b d/\fJ h c b/\e=(zL c).drop i
theorem CF(e:IsItemIter h a d i m f c b):kM h a "dict_itemiterator":=b7 _ _ e rfl rfl
theorem Qp{C:Nat}{p:Pos}:oX B c (.u a<|.a g es) (.Tuple G C p) (Qo B c a es):= .mk
 (λx=>mr x λi u u u u e u u u=>(CF e).I)
 (λx h1 F S kk=>by
  refine mr x λi M J O f e hd l q=>bR (S.8 a _ es h1) λes' q1 q2 q3=>?_;have:=(Mine.Internal.cb.a.inj<|bP<|q1.symm.trans F).2
  exact p8 i M J O f (kk _ e) (hd.at' (q3 (congrArg pO this)).2) (l.U S.4) q)
 (λ{A y ys H s Q E E' R} x X J T Y h=>by
  refine mr x λi M P O f e hd l q=>ay (zJ q) λg1 g2=>au (oG.mp<|jf.symm.trans g1) λx g e0=>bR (l.eM g) λw e1 e2 e3=>?_;have D:a≠c:=λz=>T ⟨a,_,J, .inl z.symm⟩;refine wpAny_pyNext_items_item e hd (k:=w.1) (v:=w.2) e1 λj K hk W ht hz Z=>wpAny_letOwnedTupleGo_items W λF I hs=>?_;have r:∀b m,b≠c->K.get? b=aa m->F.get? b=aa m:=λb m hb z=>(hs.2 b hb).trans z;have S1:aV B (·=c) H s H {s with heap:=K}:=bG (CF e) λo fs q u d=>aV.uK (s':={s with heap:=K}) (L:=c) X Z T Y (.inr rfl) (λm z=>⟨aM _ W λes n N=>hV<|(jD q d z).symm.trans N,λc n N=>rG<|(jD q d z).symm.trans N⟩) rfl rfl;have S:aV B (·=c) H s H {s with heap:=F}:=S1.u<|G5 (s:={s with heap:=K}) (t':=s.toks) S1.1 (b7 _ _ W rfl rfl) (CF I) T Y hs;have U:s.heap.objs.size≠c:=λz=>a9<|(nP _).symm.trans<|z▸(show s.heap.get? c=_ from e)
  exact h _ _ S ⟨i+1,M,j,w.2,f,I,hd.at' λm z=>r _ _ D (Z _ _ D z),l.U S.4,g2⟩ (e0▸b7 _ [j,w.2] rfl ⟨_,r _ _ U ht,rfl,_,rfl⟩ (show ba F [.z x.1,x.2] [j,w.2] from ba.u (o1 (Value.isStrOf_shape hk) λt z=>⟨t,ae e2 z⟩) (ba.eN (e3.U S.4)))))
 (λ{A H s Q E R} hh x X J h=>mr x λi M P O f e hd l q=>wpAny_pyNext_items_end hh e hd (Bs<|l.dN▸Mn.mp (Bm.mp<|jf.symm.trans<|zK q)) h)
 (λx u u=>o2 x λu u z=>nomatch z)
noncomputable def CH(v:aj):Bool:=@EX (λz=>Bool) v ai ai ai (λz=>ai) (λz z=>ai) (λz z=>ai) (λz z=>ai) (λz z=>ai) (λz=>af) (λz=>af) λz=>ai
theorem G8(hf:CH f=af)(b:c.any (·.1)=ai)
 (h:a0 M A (evalArgs f af c []) (λa d=>a0 M A (gW f (first++a.pos) a.kw) Q E d) E s):a0 M A (E1 e f first c []) Q E s:=by
 induction f<;>first | exact bw hf;done | skip
 ·exact PySem.callWith_type b h
 ·exact adZ b h
theorem G6(hf:CH f=af)(h:fk B Γ k xs i){E:EP}{H:HP}{Q:List V->HP->Prop}{R:aj->aq->Prop}{j:aj->aq->Prop}{pos:Pos}
 (o:bM B Γ env A k ρ H s) (q:fA (CR B k) xs ρ E Q H)
 (n:∀g c d a,cS B H s d a->bM B Γ env A k ρ d a->ba a.heap g c->c.length=i.length->Q g d->a0 (aL B.e B.w) A (gW f<|first++c) R j a) (m:∀v a,dY B A E H s v a->j v a):
 a0 (aL B.e B.w) A (E1 pos f first (wc pos<|pS i env) []) R j s:=by
 have hp:=zu (pos:=pos) (env:=env) h.U;have b:=h.J (pos:=pos) (R:=λc a=>a0 (aL B.e B.w) A (gW f<|first++c) R j a) o q (λg c d a S l r hl q=>n g c d a S l r hl q) m;induction h with
 | I=>exact G8 hf rfl<|evalArgs_nil3<|n [] [] H s (.I o.2) o ba.I rfl q| @u x r e i h0 p t=>rw [zA p] at b hp⊢;exact G8 hf (ae hp rfl)<|abW b
noncomputable def qk(K:eK)(Γ:aI)(x:Str)(f:aj):Bool:=Γ.a.lookup x==aa .globalImplicit&&iT x&&x !="__name__"&&m8 K jN x==aa ag&&LI x==aa f&&CH f
theorem CG(h:fk B Γ k xs i)(e:qk B.K Γ x f=af){E:EP}{H:HP}{Q:List V->HP->Prop}{R:aj->aq->Prop}{j:aj->aq->Prop}
 (o:bM B Γ a A k ρ H s) (q:fA (CR B k) xs ρ E Q H)
 (n:∀m c l b,cS B H s l b->bM B Γ a A k ρ l b->ba b.heap m c->c.length=i.length->Q m l->a0 (aL B.e B.w) A (gW f c) R j b) (t:∀v b,dY B A E H s v b->j v b):
 a0 (aL B.e B.w) A (je (.Call (.Name x p) i [] d) a) R j s:=by
 unfold qk at e;simp only [eJ,beq_iff_eq,bne_iff_ne,ne_eq] at e;refine ay e λr u=>?_;obtain⟨⟨⟨⟨C,z⟩,h3⟩,y⟩,w⟩:=r;have g:a.kindOf x=aa .globalImplicit:=by unfold m9;exact ae o.3.2 C
 refine EZ<|yK o.3.3 g (loadGlobal_builtin (mg:=B.U) (mb:=B.J) (v:=f) ?_ (mg_none_of o.1.1 o.1.2 y) ?_ ((o.1.4 x h3).trans w) ?_)<|rM z
 ·exact ae o.3.4<|o.1.2.keeps o.2.1
 ·exact ae o.3.5<|o.1.3.keeps o.2.1
 ·exact G6 (first:=[]) u h o q n t
noncomputable def CJ(G:V->HP->Prop)(a:List V)(H:HP):Prop:=yT a False λv r=>yT r (G v H) λz z=>False
noncomputable def CK(G:V->V->HP->Prop)(a:List V)(H:HP):Prop:=yT a False λv r=>yT r False λw r=>yT r (G v w H) λz z=>False
theorem CJ.I{G:V->HP->Prop}{a:List V}{b:List aj}{h:aG}{H:HP}{T:Prop}(q:CJ G a H)(r:ba h a b)(k:∀v u,b=[u]->aW h v u->G v H->T):T:=by
 induction a with
 | nil=>exact q.elim
 | cons v l z=>induction l with
  | nil=>exact bG r λu r e c d=>k v u (e.trans<|congrArg _ d) c q| cons=>exact q.elim
theorem CK.I{G:V->V->HP->Prop}{b:List V}{d:List aj}{h:aG}{H:HP}{T:Prop}(q:CK G b H)(r:ba h b d)(k:∀v w u a,d=[u,a]->aW h v u->aW h w a->G v w H->T):T:=by
 induction b with
 | nil=>exact q.elim
 | cons v l z=>induction l with
  | nil=>exact q.elim
  | cons w l z=>induction l with
   | cons=>exact q.elim| nil=>exact bG r λu r e g f=>bG f λa m j c i=>k v w u a (e.trans<|congrArg _<|j.trans<|congrArg _ i) g c q
theorem G7(h:SE B Γ k y e)(m:kK e=af)(l:qk B.K Γ x f=af){E:EP}{H:HP}{G:V->HP->Prop}{R:aj->aq->Prop}{g:aj->aq->Prop}
 (o:bM B Γ b A k ρ H s) (q:aK (CR B k) y ρ E G H)
 (n:∀v u c a,cS B H s c a->bM B Γ b A k ρ c a->aW a.heap v u->G v c->a0 (aL B.e B.w) A (gW f [u]) R g a) (j:∀v a,dY B A E H s v a->g v a):
 a0 (aL B.e B.w) A (je (.Call (.Name x p) [e] [] d) b) R g s:=
 CG (.u h m .I) l o (Q:=CJ G) q (λt w c a S i r z q=>q.I r λv u e r q=>ae e<|n v u c a S i r q) j
theorem xd(R:bO B H s):¬fp H s.heap.objs.size/\B.u.get? s.heap.objs.size=none:=(R.I<|dC _).2
theorem mB(R:bO B H s):cS B H s H {s with heap:=s.heap.push o,toks:=t}:= .iS R (λb a e=>hJ _ e) rfl rfl
noncomputable def Qq(B:aF)(e:az)(d:Nat)(c:gy)(a:List V)(H:HP)(h:aG):Prop:=∃b,oX B d c e b/\b a h/\¬fp H d/\B.u.get? d=ag
noncomputable def zM(B:aF)(f:az)(K:gy->List V->HP->Prop)(H:HP)(s:aq)(v:aj)(e:aq):Prop:=∃c b a d,v= .ref c/\cS B H s d e/\s.heap.get? c=ag/\Qq B f c b a d e.heap/\K b a d
noncomputable def SI(B:aF)(Γ:aI)(k:Nat)(b:az)(x:It)(e:az):Prop:=
 ∀a A ρ E K H s,bM B Γ a A k ρ H s->FY (CR B k) x ρ E K H->a0 (aL B.e B.w) A (je e a) (λv c=>a0 (aL B.e B.w) A (Bw v) (zM B b K H s) (dY B A E H s) c) (dY B A E H s) s
theorem xc(S:aV B O H s b a):s.heap.get? a.heap.objs.size=none:=wR S<|nP _
theorem Hb(e:jS te=af){K:gy->List V->HP->Prop}(S:cS B d c H s)(r:aW s.heap y v)(hi:lr H y f b)(q:K f b H):a0 (aL B.e B.w) A (Bw v) (zM B te K d c) E s:=by
 have R:=S.1;have k:=xc S;refine ay (xd R) λj i=>?_;induction hi with
 | @z x C=>exact o1 r.is λt z=>ae z<|wpAny_pyIter_ascii C ⟨_, .b,G2 x,H,rfl,S.u<|mB R,k,(iQ _ (Qm (x:=x) (t:=t) e) ⟨0,⟨_,jO _ rfl,rfl,rfl⟩,rfl⟩ j i),q⟩| @U l=>refine bG r.J λa n z h o=>ae z ?_;have m:cS B H s H {s with heap:=s.heap.push {cls:= .type "tuple_iterator",data:= .fields #[.ref a, .int 0 0]},toks:=s.toks}:=mB R;exact acz h ⟨_, .b,l,H,rfl,S.u m,k,(iQ _ (Qn (t:=a) (l:=l) e) ⟨0,n,⟨_,jO _ rfl,rfl,rfl⟩,m.4.U h,o.U m.4,rfl⟩ j i),q⟩| @u a g l p=>exact au (R.4 a _ p) λn h w=>ae r.I<|wpAny_pyIter_list h.u<|nz _ (.u a<|.u g l) l H rfl (S.u<|mB R) k ⟨_,Qj (a:=a) (g:=g) (l:=l) e,⟨0,⟨_,jO _ rfl,rfl,rfl⟩,rfl⟩,j,i⟩ q
theorem Qs(b:jS c=af)(h:SE B Γ k x e):SI B Γ k c (.u x) e:=λf A ρ E K H s o q=>
 h.J o q (λy v j g S i r q=>cm q λd a hi q=>Hb b S r hi q) λw w z=>z
theorem Qr(d:gK a)(c:gK b):ad0 a b 1=true:=
 have h:∀{i},gK i-> -(2^62)<=i/\i<=2^62:=λh=>⟨dy (by decide)<|q9 h.1,dy (q9 h.2)<|by decide⟩
 small_one (dy (by decide)<|q9 d.1) (uA d.2<|by decide) (dy (by decide)<|q9 c.1) (uA c.2<|by decide)
theorem Ha(f:jS g=af){K:gy->List V->HP->Prop}(S:cS B d c H s)(i:IsRange s.heap r a b 1 t u z)(k:gK a)(j:gK b)(q:K .b (eQ a b) H):a0 (aL B.e B.w) A (Bw<|.ref r) (zM B g K d c) E s:=by
 have R:=S.1;have n:=xc S;refine ay (xd R) λm l=>wpAny_pyIter_range i (Qr k j)<|nz _ .b (eQ a b) H rfl (S.u<|mB R) n ⟨_,Qk f,⟨a,(b - a).toNat,?_,?_⟩,m,l⟩ q
 ·have e:ad1 a b 1=(((b - a).toNat:Nat):Int):=(rangeSize_one a b).trans (if h:a<b then(if_pos h).trans (kD<|vY<|q9 h).symm else(if_neg h).trans (congrArg gS<|Int.toNat_of_nonpos<|Int.sub_nonpos_of_le<|oC.mp h).symm);exact ae e<|jO _ rfl
 ·unfold eQ;have:(a+(((b - a).toNat:Nat):Int) - a).toNat=(b - a).toNat:=by exact j4 (aD (.I (.v 0)<|.v 1) (.Eq (.c<|.v 0)<|.s (.a (.v 0)<|.c<|.v 1)<|.v 0) rfl [_] [_,_] (kD<|cP (.Le (.n 0)<|.s (.a (.v 0)<|.c<|.v 0)<|.v 0) rfl [_] [_]))<|aD (.I (.v 0)<|.v 1) (.J (.c<|.v 1)<|.s (.a (.v 0)<|.c<|.v 0)<|.v 0) rfl [_] [_,_] (kD<|cP (.Le (.n 0)<|.s (.a (.v 0)<|.c<|.v 0)<|.v 0) rfl [_] [_])
  exact ae this rfl
theorem Qt{c:az}(b:jS c=af){x:X}{e:az}{n:Str}{p a:Pos}(h:SE B Γ k x e)(i:kK e=af)(f:qk B.K Γ n (.type "range")=af):SI B Γ k c (.a x) (.Call (.Name n p) [e] [] a):=λl A ρ E K H s o q=>
 G7 h i f o q (λv u w d S m r q=>bR q λn g j q=>by
  have r:aW d.heap (.x n) u:=g▸r
  exact o1 r.e λt z=>ae z (call_range_1 (Ha b (S.u (mB S.1)) (acy ..) (by unfold gK;decide) j q))) λy y z=>z
theorem Qu(i:jS l=af)(h:SE B Γ k x e)(L:kK e=af)(O:SE B Γ k y f)(j:kK f=af)(G:qk B.K Γ n (.type "range")=af):SI B Γ k l (.b x y) (.Call (.Name n p) [e,f] [] g):=λP A ρ E K H s o q=>
 CG (.u h L (.u O j .I)) G o (Q:=CK λv w H=>∃a b,v= .x a/\w= .x b/\gK a/\gK b/\K .b (eQ a b) H) q (λR T W C S V r m q=>q.I r λv w u F e d c q=>ae e (iC q λa b J I N M q=>by
  have d:aW C.heap (.x a) u:=J▸d;have c:aW C.heap (.x b) F:=I▸c
  exact o1 d.e λt z=>o1 c.e λU D=>ae z (ae D (call_range_2 (Ha i (S.u (mB S.1)) (acy ..) N M q))))) λm m z=>z
theorem Qv{f:az}(c:jS f=af){x:X}{e:az}{n:Str}{p b:Pos}(h:SE B Γ k x e)(D:kK e=af)(w:qk B.K Γ n (.type "reversed")=af):SI B Γ k f (.d x) (.Call (.Name n p) [e] [] b):=λJ A ρ E K H s o q=>
 G7 h D w o q (λv u L m S M r q=>by
  refine fW q λa g l C F q=>bR (S.1.4 a _ F) λd t j y=>ay (xd S.1) λI G=>?_;have r:aW m.heap (.d a) u:=C▸r;refine ae r.I<|call_reversed_list t.u<|acw (l:=a) (i:=(d.toArray.size:Int) - 1) (bT _ (jO _ rfl) rfl rfl)<|nz _ (.u a<|.u g l) l.reverse L rfl (S.u<|mB S.1) (xc S) ⟨_,Ql (a:=a) (g:=g) (l:=l) c,⟨d.length,?_,j.dN▸dC _,?_⟩,I,G⟩ q
  ·exact⟨_,jO _ rfl,rfl,rfl⟩
  ·exact ae j.dN (congrArg List.reverse acx).symm) λy y z=>z
noncomputable def ql(e:az):Bool:=([16,20,21,23,24,25]:List Nat).contains e.ctorIdx
theorem G9(h:ql e=af)(a:Env)(v:aj):Mo e a v=eY v:=by revert h;refine(@pQ (λe=>ql e=af->Mo e a v=eY v) e ?_ ?_ ?_ ?_ ?_ ?_ ?_ ?_ ?_ ?_ ?_ ?_ ?_ ?_ ?_ ?_ ?_ ?_ ?_ ?_ ?_ ?_ ?_ ?_ ?_ ?_ ?_);all_goals (intros;first | rfl | exact bw<|by assumption)
theorem Qw(y:ST B Γ k t c)(hi:SI B Γ k c g e)(F:gL B Γ k b bs)(f:Γ.hs=ai)(hf:ql e=af):SS B Γ k (.g t g b) (.For c e bs [] p):=λa A l ρ P H s E o q=>by
 have C:A.handled=none:=o.5.elim (λz=>bw<|f.symm.trans z) id;refine wpAny_For (dX (hi a A ρ _ _ H s o q) (λv J z=>dX z (λu I z=>?_) λv j z=>z.J o) λv j z=>z.J o) λx=>?_
 ·exact jj z λi h d K e S n w q=>ji w λG W D m r=>ae e<|PY W y F C E S.e (o.u S) D m r n q
 ·exact G9 hf a x
theorem Hc{o:X}{e:az}{xs:XL}{l:List az}{nm:Str}{T id:String}{c pos:Pos}{G:V->HP->Prop}(h:SE B Γ k o e)(J:fk B Γ k xs l)(U:my e=af)(hl:l.length<30)(w:c.endLine=pos.line)
 (pa:Mr T) (i:Slot T nm id) (u:typeOf (.builtin id)=eY (.type "method_descriptor"))
 (W:∀{y v H} {s:aq},bO B H s->aW s.heap y v->G y H->s.TypeIs v T/\∀a,v= .ref a->∃D,s.heap.get? a=aa D/\D.dict=ag)
 {env:Env} {ρ:aA} {E:EP} {H:HP} {Q:V->List V->HP->Prop} {R:aj->aq->Prop} {C:aj->aq->Prop}
 (O:bM B Γ env A k ρ H s) {P:V->HP->Prop} (q:aK (CR B k) o ρ E P H) (Y:∀y H,P y H->G y H/\fA (CR B k) xs ρ E (λd H=>Q y d H) H)
 (n:∀y v d f m b,cS B H s m b->bM B Γ env A k ρ m b->aW b.heap y v->ba b.heap d f->f.length=l.length->Q y d m->a0 (aL B.e B.w) A (gW (.builtin id)<|v::f) R C b) (I:∀v b,dY B A E H s v b->C v b):
 a0 (aL B.e B.w) A (je (.Call (.Attribute e nm c) l [] pos) env) R C s:=by
 refine wpAny_Call_method (T:=T) (id:=id) (Ck U _ _ _) ?_ (ae w<|beq_self_eq_true _) pa i u ?_
 ·have:=zu (pos:=pos) (env:=env) J.U;rw [LK] at this;simp only [eJ,dT,decide_eq_true_eq];refine⟨⟨λx t=>by simpa using this x t,λx t=>by cases t⟩,?_⟩;exact(hl:l.length+0+0<30)
 ·exact h.J O q (λy v m b S F r q=>ay (Y _ _ q) λg q=>ay (W F.2 r g) λM L=>⟨M,L,G6 (first:=[v]) rfl J F q (λd f Z j K p N hl q=>n y v d f _ _ (S.u K) p (r.U K.4) N hl q) λv j z=>I v j<|z.I S⟩) I
theorem Hf:s.TypeIs (.str x t) "str":=typeIs_str s x t
theorem CL(R:bO B H s)(f:H a=aa (.u g l)):s.TypeIs (.ref a) "list"/\∀b,q7 a= .ref b->∃c,s.heap.get? b=aa c/\c.dict=none:=by exact au (R.4 a _ f) λh d z=>o1 d.J λn e=>⟨d.u.typeIs,λb q=>by obtain rfl:=rh q;exact(aM _ e rfl)⟩
theorem Qx(R:bO B H s)(i:H a=aa c)(hd:c.J=af):s.TypeIs (.ref a) "dict"/\∀b,q7 a= .ref b->∃h,s.heap.get? b=aa h/\h.dict=none:=by
 have:∃o,s.heap.get? a=aa o/\o.ExactDict:=by
  have x:=R.4 a _ i;induction c with
  | a=>refine au x λg f z=>?_;obtain⟨o,_,_,e,d,_⟩:=f;exact⟨o,e,d⟩| e=>refine au x λg f z=>?_;obtain⟨o,_,_,e,d,_⟩:=f;exact⟨o,e,d⟩| c=>refine au x λg f z=>?_;obtain⟨o,_,_,e,d,_⟩:=f;exact⟨o,e,d⟩| _=>exact bw hd
 exact au this λo e d=>⟨(aM o e d.1),λb q=>by obtain rfl:=rh q;exact(aM o e d.2.1)⟩
noncomputable def mT(m:Nat):String:=["list","list","list","dict"].getD m "str"
theorem Hd(R:bO B H s)(r:aW s.heap y v)(g:jR H m y):s.TypeIs v (mT m)/\∀a,v= .ref a->∃d,s.heap.get? a=aa d/\d.dict=none:=by
 revert r;induction g with
 | u=>intro r;refine o1 r λt e=>?_;clear r;obtain rfl:=e;exact⟨Hf,λa q=>by cases q⟩| eM c hd=>intro r;obtain rfl:v=_:=r;exact Qx R c hd| hY c=>intro r;obtain rfl:v=_:=r;exact CL R c| nB c=>intro r;obtain rfl:v=_:=r;exact CL R c| b c=>intro r;obtain rfl:v=_:=r;exact CL R c
theorem He(R:bO B H s)(f:H a=aa (.u g l))(e:uy a s.heap c)(i:gA c a d.toArray)(h:ba s.heap l' d)(hl:l'.length<=cE):cS B H s (H.J a<|.u g l') {s with heap:=c}:=
 aV.oP (s':={s with heap:=c}) R f (λz z q=>by cases q) (λz z q=>by cases q) (λb=>sV) (oW e) (bT d i (h.U<|w6 R f<|oW e) hl) rfl rfl
theorem Qy(R:bO B H s)(h:H a=aa (.u g l))(r:aW s.heap y v)(hl:l.length<cE)(q:Q .f (H.J a<|.u g<|l++[y])):a0 (aL B.e B.w) A (gW (.builtin "list.append") [.ref a,v]) (g8 B Q H s) E s:=by
 refine bR (R.4 a _ h) λb i f z=>o1 i.J λn e=>?_;have c:b.toArray.size<=sizeLine:=by exact ae hG<|ae f.dN<|ae kb.symm z
 refine Bz Mq i.u.typeIs acD (acC _ _) (list_append a b.toArray n v c) ⟨e,?_⟩;have d:gA (s.heap.update a<|acH λxs=>xs.push v) a (b++[v]).toArray:=by exact ae (show(b++[v]).toArray=b.toArray.push v by simp)<|wD _ (wj _ e rfl) rfl ⟨_,rfl⟩ rfl rfl
 have S:=He R h (yR ..) d (f.hY<|ba.eN r)<|ae bI hl;exact(b7 _ _ S uM q)
theorem Q0(R:bO B H s)(k:H a=aa (.u g<|l++[y]))(q:Q y (H.J a<|.u g l)):a0 (aL B.e B.w) A (gW (.builtin "list.pop") [.ref a]) (g8 B Q H s) E s:=by
 refine bR (R.4 a _ k) λb m f hl=>o1 m.J λn e=>?_;have c:=f.dN;rw [bI] at c hl;have d:b.toArray.size<=sizeLine:=by exact ae hG<|ae c<|ae kb.symm hl
 refine au (f.eM (i:=l.length)<|by rw [Mp<|dC _,acB];rfl) λw o r=>?_;have c:b.length - 1=l.length:=by exact ae c rfl
 refine Bz acG m.u.typeIs PySem.F.entry_list_pop (PySem.F.args_list_pop_1 _) (MeetsSeq.list_pop_last a b.toArray n w (by refine ae hG<|ae c ?_;simpa using o) d) ⟨e,?_⟩;have h:b.length - 1<b.length:=by exact ae c<|(oH.mp o).1
 have p:b.toArray.eraseIdxIfInBounds (b.toArray.size - 1)=b.dropLast.toArray:=by unfold Array.eraseIdxIfInBounds;refine ae (dif_pos<|by simpa using h) ?_;apply Array.ext';simp [List.eraseIdx_length_sub_one]
 have j:gA (s.heap.update a<|acH λxs=>xs.eraseIdxIfInBounds<|b.toArray.size - 1) a b.dropLast.toArray:=by exact ae p.symm<|wD _ (wj _ e rfl) rfl ⟨_,rfl⟩ rfl rfl
 have S:=He (l':=l) R k (yR ..) j (by
  have:=f.zk l.length;rw [acA] at this
  rwa [List.dropLast_eq_take,c]) (mh hl)
 exact(b7 _ _ S (r.U S.4) q)
theorem Ra(e:kG l b):∀{a:List aj},ba h l a->a.countP (wZ z)=b.count z:=by induction e with| I=>rintro _ rfl;rfl| u _ ih=>rintro _ ⟨_,d,rfl,⟨t,rfl⟩,c⟩;exact ae List.countP_cons<|ae (ih c)<|ae List.count_cons rfl
theorem Qz(R:bO B H s)(p:H a=aa (.u g l))(r:aW s.heap y v)(o:Cb y l n)(q:Q (.x n) H):a0 (aL B.e B.w) A (gW (.builtin "list.count") [.ref a,v]) (g8 B Q H s) E s:=by
 refine bR (R.4 a _ p) λc f d z=>o1 f.J λm e=>?_;induction o with
 | @mk b _ _ h=>
  refine o1 r λt b=>?_;clear r;obtain rfl:=b;refine Bz acF f.u.typeIs PySem.F.entry_list_count (PySem.F.args_list_count_2 _ _) (list_countAt a c.toArray m ag #[] _<|wZ b) ⟨e,λu j=>?_,?_⟩
  ·refine o2 ((GC (k:=b) h d).2 u<|by simpa using j) λi t b=>?_;obtain rfl:=b;exact .str_str _ _ _ _
  ·exact .mk (iG R) (ae (show c.toArray.toList.countP (wZ b)=_ from Ra h d) nN) q
theorem Hh(c a b:Array Nat)(r:List Str):r.foldl (λd p=>d++c++p.cps) (a++b)=a++r.foldl (λd p=>d++c++p.cps) b:=by induction r generalizing b with| nil=>rfl| cons y r ih=>exact(congrArg (λz=>r.foldl (λd p=>d++c++p.cps) z) (show a++b++c++y.cps=a++(b++c++y.cps) from(congrArg (·++y.cps) E9).trans E9)).trans<|ih _
theorem Rf(a:Str)(r:List Str):∀(x:Str),(cW a<|x::r).cps=r.foldl (λb p=>b++a.cps++p.cps) x.cps:=by induction r with| nil=>exactλx=>rfl| cons y r ih=>exactλx=>(congrArg (λz=>x.cps++(a.cps++z))<|ih y).trans<|(congrArg (x.cps++·) (Hh _ _ _ _).symm).trans<|(Hh _ _ _ _).symm.trans<|congrArg (λz=>r.foldl _ z) E9.symm
theorem Rl(a:Str)(b:List (Str×k9)):(∃p,b=[p])\/joinMade a b= .str (Mv a<|b.map (·.1)):=by
 induction b with
 | nil=>exact .inr rfl
 | cons p r _=>induction r with
  | nil=>exact .inl ⟨p,rfl⟩| cons=>exact .inr rfl
theorem Rg(a:Str)(l:List Str):cW a l=Mv a l:=by induction l with| nil=>rfl| cons x r=>have:=Rf a r x;unfold Mv;exact ae List.drop_one<|ae List.tail_cons<|ae List.headD_cons<|ae this.symm rfl
theorem Rq(c:Nat)(r:List Str)(n:Nat):r.foldl (λn x=>n+x.length+c) n=n+r.foldl (λn x=>n+x.length+c) 0:=by induction r generalizing n with| nil=>rfl| cons y r ih=>exact(ih _).trans<|((congrArg (·+_)<|ng n y.length c).trans<|ng n _ _).trans<|congrArg (n+·)<|(congrArg (λz=>z+c+r.foldl _ 0) (jd y.length).symm).trans (ih _).symm
theorem Rh(a:Str)(l:List Str):(cW a l).length<=tf a l:=by
 induction l with
 | nil=>exact dR _
 | cons x r ih=>induction r with| nil=>exact aH (eW (jd _).symm)<|fz _ _| cons y r z=>exact ae (show tf a (x::y::r)=0+x.length+a.length+tf a (y::r) from Rq a.length (y::r) _)<|ae (show(cW a<|x::y::r).length=x.length+(a.length+(cW a<|y::r).length) from(rx ..).trans<|congrArg (x.length+·)<|rx ..)<|aD (.I (.a (.v 0)<|.a (.v 1)<|.v 2)<|.a (.a (.a (.n 0)<|.v 0)<|.v 1)<|.v 3) (.I (.v 2)<|.v 3) rfl [] [_,_,_,_] ih
theorem Rp(e:kG l c):∀{b:List aj},ba h l b->∃a:List (Str×k9),b=strValues a/\a.map (·.1)=c:=by induction e with| I=>rintro _ rfl;exact⟨[],rfl,rfl⟩| u _ ih=>rintro _ ⟨_,i,rfl,⟨t,rfl⟩,g⟩;refine au (ih g) λa d f=>?_;obtain rfl:=d;obtain rfl:=f;exact⟨(_,t)::a,rfl,rfl⟩
theorem Rm(R:bO B H s)(m:H a=aa (.u g l))(j:kG l b)(d:tf x b<=cE)(q:Q (.z<|cW x b) H):a0 (aL B.e B.w) A (gW (.builtin "str.join") [.str x t, .ref a]) (g8 B Q H s) E s:=by
 refine bR (R.4 a _ m) λo n k z=>au (Rp j k) λc f i=>?_;obtain rfl:=f;obtain rfl:=i;refine Bz acK Hf PySem.F.entry_str_join (PySem.F.args_str_join_2 _ _) (meets_str_join_list x t a c ?_) ⟨n.u,?_⟩
 ·unfold ad2;rw [List.foldl_toArray,decide_eq_false_iff_not,<-kb];exact LH.mpr d
 ·refine(Rl x c).elim (λh=>o1 h λp e=>?_) λe=>ae e ?_
  ·subst e;exact(b7 _ H (.I R) tB q)
  ·exact ae (Rg x _).symm<|MZ (ae kb.symm<|aH (Rh x _) d) _ H (.iS R (λz z e=>e) rfl rfl) tB q
theorem Hg(hsys:∃o,B.u.get? iN=aa o)(h0:A.units<9001)(o:B.a)(R:bO B H s)(g:aW s.heap y v)(K:aW s.heap dv d)(e:fH H a y r):
 ∃z,aW s.heap (r.getD dv) z/\∀{Q:aj->aq->Prop},(∀J,Q z {s with toks:=J})->a0 (aL B.e B.w) A (gW (.builtin "dict.get") [.ref a,v,d]) Q E s/\(d= .none->a0 (aL B.e B.w) A (gW (.builtin "dict.get") [.ref a,v]) Q E s):=by
 have m:A.in1.units<cLine:=by skip;skip;exact aD (.e (.a (.v 0)<|.n 1)<|.n 9900) (.e (.v 0)<|.n 9001) rfl [] [_] h0
 have C:∀{r:Option V} {t:Option aj},(∀x,r=aa x->∃v,t=aa v/\aW s.heap x v)/\(r=ag->t=ag)->aW s.heap (r.getD dv) (t.getD d):=λ{r t} k=>by induction r with| none=>exact ae (k.2 rfl) K| some z=>exact au (k.1 z rfl) λu L G=>ae L G
 induction e with| s f=>have b:=R.e o (R.5 a<|cL a _ f<|.inl rfl) hsys;refine bR (R.4 a _ f) λD hd j n=>o1 g λt l=>?_;clear g;obtain rfl:=l;refine(aM _ (C<|DictOf.u (knd:=sQ B.e B.w) j _) λ{Q} h=>⟨wq wo hd.typeIs yU (Mt _ _ _) (acM _ _ (v9 _ _ _ _) b _) ⟨_,hd.mapOf,h _⟩,λq=>?_⟩);subst q;exact wq wo hd.typeIs yU (Ms _ _) (acL _ _ (v9 _ _ _ _) b) ⟨_,hd.mapOf,h _⟩| i f=>have b:=R.e o (R.5 a<|cL a _ f<|.inl rfl) hsys;refine bR (R.4 a _ f) λD hd j n=>o1 g λt l=>?_;clear g;obtain rfl:=l;refine(aM _ (C<|DictOf.u (knd:=pP B.e B.w) j _) λ{Q} h=>⟨wq wo hd.typeIs yU (Mt _ _ _) (acM _ _ (uw _ _ _ _) b _) ⟨_,hd.mapOf,h _⟩,λq=>?_⟩);subst q;exact wq wo hd.typeIs yU (Ms _ _) (acL _ _ (uw _ _ _ _) b) ⟨_,hd.mapOf,h _⟩| t f N=>have b:=R.e o (R.5 a<|cL a _ f<|.inl rfl) hsys;refine bR (R.4 a _ f) λxs hd j n=>bG g λI O l M F=>?_;clear g;obtain rfl:=l;have c:=wX (prog:=B.e) (w:=B.w) N M F;refine(aM _ (C ⟨λx q=>au ((DictOfH.u j _).1 x q) λp e r=>⟨p.2,congrArg (yL (·.2)) e,r⟩,λq=>congrArg (yL (·.2))<|(DictOfH.u j _).2 q⟩) λ{Q} h=>⟨wq wo hd.typeIs yU (Mt _ _ _) (meetsH_dict_get_default (Bd<|pP B.e B.w) a I b d) ⟨m,_,xs,c,hd,h _⟩,λq=>?_⟩);subst q;exact wq wo hd.typeIs yU (Ms _ _) (meetsH_dict_get (Bd<|pP B.e B.w) a I b) ⟨m,_,xs,c,hd,h _⟩
noncomputable def mN(m:Nat):Str:=["append","pop","count","get"].getD m "join"
noncomputable def mI(m:Nat):String:=["list.append","list.pop","list.count","dict.get"].getD m "str.join"
theorem n5{P:Nat->Prop}(a:P 0)(b:P 1)(c:P 2)(d:P 3)(e:∀n,P<|n+4)(n):P n:=um n a λn=>um n b λn=>um n c λn=>um n d e
theorem Rj(m:Nat):Slot (mT m) (mN m) (mI m):=n5 (P:=λm=>Slot (mT m) (mN m)<|mI m) Mq acG acF wo (λz=>acK) m
theorem Rk(m:Nat):typeOf (.builtin<|mI m)=eY (.type "method_descriptor"):=n5 (P:=λm=>typeOf (.builtin<|mI m)=eY (.type "method_descriptor")) PySem.F.type_list_append PySem.F.type_list_pop PySem.F.type_list_count PySem.F.type_dict_get (λz=>PySem.F.type_str_join) m
theorem Ri(m:Nat):Mr (mT m):=n5 (P:=λm=>Mr<|mT m) Mu Mu Mu acI (λz=>PySem.F.plainAttrs_str) m
theorem Rb{k:List aj}{H C:HP}{Q:QV}(hsys:∃o,B.u.get? iN=aa o)(h0:A.units<9001)(o:B.a)(R:bO B H s)(r:aW s.heap y v)(a:ba s.heap p k)(e:hX H m y p x C)(q:Q x C):a0 (aL B.e B.w) A (gW (.builtin<|mI m)<|v::k) (g8 B Q H s) E s:=by
 revert r a q;induction e with
 | hY j hl=>intro r a q;obtain rfl:v=_:=r;refine bG a λu w c g i=>?_;clear a;obtain rfl:=c;obtain rfl:=i;exact Qy R j g hl q| nB j=>intro r a q;obtain rfl:v=_:=r;obtain rfl:k=_:=a;exact Q0 R j q| b j I=>intro r a q;obtain rfl:v=_:=r;refine bG a λu w c g i=>?_;clear a;obtain rfl:=c;obtain rfl:=i;exact Qz R j g I q| e d=>intro r a q;obtain rfl:v=_:=r;refine bG a λu w c g i=>?_;clear a;obtain rfl:=c;obtain rfl:=i;exact au (Hg (E:=E) (dv:= .f) (d:= .none) hsys h0 o R g uM d) λz l h=>(h λD=> .mk (iG R) l q).2 rfl| f d=>intro r a q;obtain rfl:v=_:=r;obtain⟨u,_,rfl,g,J,_,rfl,n,rfl⟩:=a;exact au (Hg (E:=E) hsys h0 o R g n d) λz l h=>(h λD=> .mk (iG R) l q).1| u j G F=>intro r a q;refine o1 r λt c=>?_;clear r;obtain rfl:=c;refine bG a λu w c g i=>?_;clear a;obtain rfl:=c;obtain rfl:=i;obtain rfl:u=_:=g;exact Rm R j G F q
theorem Rn{xs:XL}{g:List az}{a b:Pos}(hsys:∃o,B.u.get? iN=aa o)(h:SE B Γ k o e)(t:fk B Γ k xs g)(p:my e=af)(hl:g.length<30)(f:a.endLine=b.line):SE B Γ k (.bm m o xs) (.Call (.Attribute e (mN m) a) g [] b):=λu A ρ E Q H s n q=>
 Hc (G:=λy H=>jR H m y) (Q:=λy j H=>∃x i,hX H m y j x i/\Q x i) h t p hl f (Ri m) (Rj m) (Rk m) Hd n q (λw w z=>z)
  (λy v j D i F S d r l _ z=>cm z λx C e q=>dX (Rb hsys (by have:=d.4.3;exact aD (.e (.v 0)<|.n 9001) (.I (.a (.v 0)<|.m 100<|.v 1)<|.a (.n 9000)<|.m 50<|.n 0) rfl [] [_,_] this) d.1 d.2 r l e q) (λv c z=>z.I S) λv c z=>z) λw w z=>z
theorem Rc(h:j= .Tuple f e p){K:gy->List V->HP->Prop}(S:cS B c b H s)(m:s.heap.IsItemsView v a)(r:H a=aa (.a g es))(q:K (.u a<|.a g es) (zL es) H):a0 (aL B.e B.w) A (Bw<|.ref v) (zM B j K c b) E s:=by subst h;have R:=S.1;refine ay (xd R) λw u=>bR (R.4 a _ r) λd l n y=>?_;obtain⟨o,i,k,C,x⟩:=l;have hd:s.heap.DictAt (sQ B.e B.w) a d k:=(cL o i C x);refine wpAny_pyIter_items m hd<|nz _ (.u a<|.a g es) (zL es) H rfl (S.u<|mB R) (xc S) ⟨_,Qp (a:=a) (g:=g) (es:=es),⟨0,k, .none, .none,d,?_,hd.at' λD z=>hJ _ z,n.U (mB (B:=B) (t:=s.toks) R).4,rfl⟩,w,u⟩ q;exact jO _ rfl
theorem Ro(hsys:∃o,B.u.get? iN=aa o)(n:C= .Tuple l f p)(h:SE B Γ k x e)(M:my e=af)(u:b.endLine=c.line):SI B Γ k C (.c x) (.Call (.Attribute e "items" b) [] [] c):=λN A ρ E K H s J q=>by
 refine Hc (xs:= .I) (T:="dict") (G:=λy H=>jR H 3 y) (Q:=λy F H=>∃a g j,y= .d a/\H a=aa (.a g j)/\K (.u a<|.a g j) (zL j) H) h .I M (by decide) u acI acJ PySem.F.type_dict_items Hd J q (λy H z=>⟨?_,z⟩) (λy v F O R I S d r P hl q=>?_) λw w z=>z
 ·refine fW z λa g j D i w=>?_;clear z;obtain rfl:=D;exact .eM i rfl
 ·obtain⟨a,g,j,rfl,i,q⟩:=q;obtain rfl:=zr r;have L:=d.2.e d.1 (d.2.5 a<|cL a _ i<|.inl rfl) hsys;obtain⟨m,hd,_⟩:=d.2.4 a _ i;obtain rfl:=aci.mp hl;exact wq acJ hd.typeIs PySem.F.entry_dict_items (PySem.F.args_dict_items_1 _) (meets_dict_items (sQ B.e B.w) a L) ⟨⟨m,hd⟩,Rc n (S.u<|mB (t:=I.toks) d.2) (bT _ (jO _ rfl) rfl rfl) i q⟩
noncomputable def bF(b:Nat):Value:=[.builtin "len", .builtin "abs", .type "int", .type "str", .builtin "chr", .builtin "ord", .builtin "max"].getD b<|.type "tuple"
theorem Rr(v:b=6->A.handled=ag)(R:bO B H s)(g:ba s.heap M N)(e:fP H b M x)(q:Q x H):a0 (aL B.e B.w) A (gW (bF b) N) (g8 B Q H s) E s:=by
 revert v g q;induction e with
 | e F=>intro v g q;refine bG g λu z p y r=>?_;clear g;obtain rfl:=p;obtain rfl:=r;obtain rfl:u=_:=y;refine bR (nM R F) λL G C hl=>call_len_list G (by refine ae hG<|ae C.dN ?_;unfold cE at hl;exact aD (.U (.c<|.v 0)<|.n 9223372036854775808) (.I (.v 0)<|.n 16777216) rfl [] [_] hl)<|.mk (iG R) ?_ q;exact ae hG<|ae C.dN nN| @k i=>intro v g q;refine bG g λz z p r w=>?_;clear g;obtain rfl:=p;obtain⟨t,rfl⟩:=r;obtain rfl:=w;exact call_abs_int λZ T=> .mk (iG R) (ae (show(if i<0 then -i else i)=((i.natAbs:Nat):Int) from if h:i<0 then(if_pos h).trans (Int.ofNat_natAbs_of_nonpos<|q9 h).symm else(if_neg h).trans (Mw<|oC.mp h).symm) nN) q| x=>intro v g q;refine bG g λz z p r w=>?_;clear g;obtain rfl:=p;obtain⟨t,rfl⟩:=r;obtain rfl:=w;exact call_int_int<|.mk (.I R) nN q
 | @z i I=>
  intro v g q;refine bG g λz z p r w=>?_;clear g;obtain rfl:=p;obtain⟨t,rfl⟩:=r;obtain rfl:=w;refine P.str_of_int ?_<|.mk (iG R) tB q;by_cases h0:i.natAbs=0
  ·refine ae h0 ?_;decide
  ·exact(abO h0).mpr<|jg I (by decide+kernel)
 | d I X=>intro v g q;refine bG g λz z p r w=>?_;clear g;obtain rfl:=p;obtain⟨t,rfl⟩:=r;obtain rfl:=w;exact chr_of_range I (aD (.Le (.v 0)<|.n 1114111) (.U (.v 0)<|.n 55296) rfl [_] [] X)<|.mk (iG R) tB q| @o x n S=>intro v g q;refine bG g λz z p r w=>?_;clear g;obtain rfl:=p;obtain⟨t,rfl⟩:=r;obtain rfl:=w;obtain⟨⟨c⟩⟩:=x;dsimp only at S;subst S;exact P.ord_of_char<|.mk (iG R) nN q| m=>intro v g q;obtain⟨_,_,rfl,⟨t,rfl⟩,_,_,rfl,⟨T,rfl⟩,rfl⟩:=g;refine max_two_ints (v rfl) λJ k' D=> .mk (.iS R (λb o e=>D b o e) rfl rfl) ?_ q;split<;>exact nN| j=>intro v g q;refine bG g λz z p y r=>?_;clear g;obtain rfl:=p;obtain rfl:=r;refine bG (Gr y) λa L p W C=>?_;obtain rfl:=p;exact call_tuple_same W<|.mk (.I R) (show aW s.heap (.U l) _ from y) q| f F=>intro v g q;refine bG g λu z p y r=>?_;clear g;obtain rfl:=p;obtain rfl:=r;obtain rfl:u=_:=y;refine bR (nM R F) λL G C hl=>call_tuple_list G (λJ D=>?_)<|ae hG<|ae C.dN<|ae kb.symm hl;have K:cS B H s H {s with heap:=J}:= .iS R D rfl rfl;exact ay (Gq (O:=λz=>False) (s:={s with heap:=J}) (tk:=s.toks) K.1<|C.U K.4) λY U=> .mk (K.u Y) U q
noncomputable def bN(b:Nat):Str:=["len","abs","int","str","chr","ord","max"].getD b "tuple"
theorem Rt(h:fk B Γ k xs f)(g:qk B.K Γ (bN b) (bF b)=af)(i:b=6->Γ.hs=ai):SE B Γ k (.bi b xs) (.Call (.Name (bN b) p) f [] c):=λj A ρ E Q H s o q=>by exact CG h g o q (λl m t n S d r hl z=>au z λx e q=>dX (Rr (λz=>d.5.elim (λy=>by replace y:=(i z)▸y;exact bw y) id) d.2 r e q) (λv a z=>z.I S) λv a z=>z) λw w z=>z
noncomputable def xe(B:aF)(Γ:aI)(k:Nat)(x:X):Option az->Prop
 | none=>x= .e .f| some e=>SE B Γ k x e
theorem Hi(h:xe B Γ k x c){E:EP}{H:HP}{Q:QV}{R:aj->aq->Prop}{f:aj->aq->Prop}(o:bM B Γ b A k ρ H s)(q:aK (CR B k) x ρ E Q H)
 (n:∀y v d a,cS B H s d a->bM B Γ b A k ρ d a->aW a.heap y v->Q y d->R v a) (g:∀v a,dY B A E H s v a->f v a):a0 (aL B.e B.w) A (evalPart c b) R f s:=by
 induction c with| none=>have h:x= .e .f:=h;subst h;rw [evalPart_none];exact cK<|n .f .none H s (.I o.2) o uM q| some e=>rw [evalPart_some];exact SE.J h o q n g
theorem zN{E:EP}{x z:Option Int}(S:cS B H s c b)(R:bO B c b)(k:List aj->List aj)(J:∃d,b.heap.IsList a (k7 d)/\ba b.heap l d/\l.length<=cE)(G:v= .ref a)
 (F:IsPart h x) (D:IsPart i z) (I:∀d:List aj,ba b.heap l d->slicePick d.toArray x z ag=(k d).toArray/\ba b.heap m (k d)/\m.length<=l.length) (q:zh g Q m c):
 a0 (aL B.e B.w) A (subscriptTail e (.Slice n r ag p) v<|.ref b.heap.objs.size) (g8 B Q H s) (dY B A E H s) {b with heap:=b.heap.push {cls:= .type "slice",data:= .fields #[h,i, .none]},toks:=b.toks}:=by
 refine bR J λd t o f=>gI (I d o) λC w u=>?_;have j:cS B c b c {b with heap:=b.heap.push {cls:= .type "slice",data:= .fields #[h,i, .none]},toks:=b.toks}:=mB R;exact ae G<|Bn (t.push _).typeIs slot_list_getitem.lookup (wpAny_getItem_list_slice (t.push _) (ad4 ..) F D .none (by simp) (ae C<|ay (Cm (O:=λy=>False) (g:=g) (tk:=b.toks) j.1 (w.U j.4)<|aH u f) λL K=>b7 _ _ (S.u<|j.u K) kJ<|q _ L)<|ae hG<|ae o.dN f) (show LR (.Slice n r ag p) ai _ _=operate [_,_] _ from rfl)
theorem Rx{g:Nat}{o M hi:X}{e:az}{N O:Option az}{p T:Pos}(h:SE B Γ k o e)(hl:xe B Γ k M N)(Y:xe B Γ k hi O):SE B Γ k (.q g o M hi) (.Subscript e (.Slice N O ag p) T):=λZ A ρ E Q H s U q=>by
 refine Subscript_<|h.J U q (λy v H1 s1 F o1 D q=>wpAny_Slice<|Hi hl o1 q (λyl K H2 s2 J L n q=>Hi Y L q (λyh R H3 s3 I c C u=>?_) λx x z=>z.I<|F.u J) λx x z=>z.I F) λx x z=>z;rw [evalPart_none];refine cK<|au u λm W u=>?_;have S:=F.u<|J.u I;replace n:=n.U I.4;clear F J I o1 L;induction W with
 | @d _ _ l i f=>refine o1 C.e λt w=>ae w<|ae (show K= .none from n)<|zN S c.2 (λa=>a.take<|fQ l.length i) (nM c.2 f) D.I .none (.int _ _) (λa r=>⟨?_,r.zk _,Mx _ _⟩) u;rw [Fb];simp [r.dN]| @j _ l i f=>refine o1 C.e λt w=>bR (c.2.4 _ _ f) λa P V hl=>ae w<|ae (show K= .none from n)<|zN S c.2 (λa=>a.take<|fQ l.length i) (bT a (au P λo e z=>aM o (c.2.1 _ _ e) z) (V.U<|.J c.2.1) hl) D.I .none (.int _ _) (λa r=>⟨?_,r.zk _,Mx _ _⟩) u;rw [Fb];simp [r.dN]| @b _ _ l i j f=>refine o1 n.e λt G=>o1 C.e λt w=>ae w<|ae G<|zN S c.2 (λa=>(a.take<|fQ l.length j).drop<|fQ l.length i) (nM c.2 f) D.I (.int _ _) (.int _ _) (λa r=>⟨?_,(r.zk _).nI _,aH (lg▸yV _ _)<|Mx _ _⟩) u;rw [Fb];simp [r.dN,acN]| @e _ _ l i f=>refine o1 n.e λt G=>ae (show R= .none from C)<|ae G<|zN S c.2 (λa=>a.drop<|fQ l.length i) (nM c.2 f) D.I (.int _ _) .none (λa r=>⟨?_,r.nI _,lg▸yV _ _⟩) u;have hl:=r.dN;rw [Fb];have:LG (a.length - yH l.length i) (a.drop<|yH l.length i)=a.drop (yH l.length i):=acO<|ae lg<|dC _;simp only [hG,Option.elim,hl] at this⊢;exact ae this rfl
theorem Ru:SE B Γ k (.h g j) (.Dict [] [] p):=λf A ρ E Q H s c q=>by
 have a:(∀b,gj s.heap.objs.size (lu g j) b↔b=s.heap.objs.size\/False)/\nH B.I B.e B.w (s.heap.push {cls:= .type "dict",data:= .dict #[]}) s.heap.objs.size (lu g j):=by
  clear q;induction j with
  | zero=>exact⟨λb=>sV,[],My _,rfl,dR _⟩
  | succ j z=>induction j with
   | zero=>exact⟨λb=>sV,[],My _,rfl,dR _⟩| succ j z=>exact⟨λb=>sV,[],ad3 _,rfl,dR _⟩
 exact wpAny_Dict_empty (ay a λh0 e=>
  ay (aV.J (s':={s with heap:=s.heap.push {cls:= .type "dict",data:= .dict #[]}}) c.2 (uN _) ((h0 _).mpr (.inl rfl)) (λb d=>((h0 b).mp d).elim (λz=>z▸nP _) ER) e rfl rfl) λi h=>b7 _ _ h kJ (q _ i))
theorem Rv:SE B Γ k (.w g (.e<|.z x)<|.ax<|.u (.e<|.x n)<|.u (.e<|.z y) .I) (.Dict [aa<|.Constant (.str x) I v] [.Tuple [.Constant (.int n) G u, .Constant (.str y) F t] C r] p):=λm A ρ E Q H s K q=>by
 obtain⟨_,h,q⟩:=q;obtain rfl:=Mine.Internal.V.z.inj h;have D:=@wpAny_Dict_walk B.e B.w Str _ (sQ B.e B.w) A (dY B A E H s) s m [aa<|.Constant (.str x) I v] [.Tuple [.Constant (.int n) G u, .Constant (.str y) F t] C r] p (g8 B Q H s) rfl rfl (List.cons_ne_nil _ _) (by refine(?_:1<=15);decide);refine D ?_;refine pairTrees_cons_walk<|Constant_str ?_;refine Tuple_<|L4 (EU<|L4 (Constant_str<|abU<|yN (pairTrees_nil_walk ?_) (show(2:Nat)<=sizeLine by rw [<-kb];decide)) rfl) rfl;have hd:(s.heap.push {cls:= .type "dict",data:= .dict #[]}).DictOf (sQ B.e B.w) s.heap.objs.size []:=My _;refine(bT ([(x, .ref _)]) ⟨v9 _ _ _ _,rfl,trivial⟩ (hd.push _) λf l h=>?_);rw [merged_nil_of_nodup _<|by simp] at l
 have L:∀b o,s.heap.get? b=aa o->f.get? b=aa o:=λb o e=>by
  have d:b≠s.heap.objs.size:=λz=>by rw [z,nP] at e;exact a9 e
  exact(h.2 b d).trans<|hJ _<|hJ _ e
 have J:(s.heap.push {cls:= .type "dict",data:= .dict #[]}).objs.size=s.heap.objs.size+1:=Bq ..;have M:∀j i,f.get? (s.heap.objs.size+1)=aa {cls:= .type "tuple",data:= .seq #[.int n j, .str y i]}->aW f (.U [.x n, .z y]) (.ref<|s.heap.objs.size+1):=λj i e=>by simp only [aW,ba];exact⟨_,[.int n j, .str y i],rfl,⟨_,e,rfl,0,rfl⟩,⟨_,_,rfl,⟨_,rfl⟩,_,_,rfl,⟨_,rfl⟩,rfl⟩⟩
 rw [J] at l;have N:f.get? (s.heap.objs.size+1)=aa {cls:= .type "tuple",data:= .seq #[.int n<|s.toks+1, .str y<|s.toks+1+1]}:=by refine(h.2 _<|Nat.succ_ne_self _).trans (?_:((s.heap.push {cls:= .type "dict",data:= .dict #[]}).push {cls:= .type "tuple",data:= .seq #[.int n<|s.toks+1, .str y<|s.toks+1+1]}).get? (s.heap.objs.size+1)=_);rw [<-J];exact jO _ rfl
 refine ay (aV.J (O:=λw=>False) (s':={s with heap:=f,toks:=s.toks+1+1+1+1}) (c:= .a g [(x, .U [.x n, .z y])]) (a:=s.heap.objs.size) K.2 L (.inl rfl) (λb d=>by
  rcases d with rfl | d
  ·exact nP _
  ·exact d.elim) ⟨_,l,⟨_,_,rfl,rfl,M _ _ N,rfl⟩,by delta cE;simp⟩ rfl rfl) λR P=>?_
 exact⟨_,_,P,kJ,q _ R⟩
theorem Rw:SE B Γ k (.e<|.x<|10^30) (.BinOp (.Constant (.int 10) f b) .Pow (.Constant (.int 30) d a) p):=λg A ρ E Q H s c q=>by exact wpAny_BinOp<|EU<|EU<|pow_int (by decide) (by decide)<|b7 _ H (.iS c.2 (λz z e=>e) rfl rfl) nN q
theorem aV.Ry(S:aV B O f a H s)(x:nH B.I B.e B.w s.heap D c)(p:¬fp H D)(r:B.u.get? D=ag)(hi:a.heap.get? D=ag)(ho:∀b,gj D c b->b=D):
 H D=ag/\aV B O f a (H.J D c) s:=by
 have t:H D=none:=S.1.Cf p r;have i:∀{y d},H y=aa d->(H.J D c) y=aa d:=λe=>(uL λq=>a9<|t.symm.trans<|q▸e).trans e;have o:∀{b},gj D c b->¬fp H b:=λq=>ho _ q▸p
 exact⟨t,⟨S.1.1,S.1.2,S.1.3,λy d e=>wU e (λq k=>by subst q;subst k;exact x) λw e=>S.1.4 y d e,λb l=>(tA l).elim (S.1.5 b) λq=>ho b q▸r,
  λb y n q k=>nJ q (λz j=>nJ k (λu w=>z.trans u.symm) λw h=>(o j ⟨n,h⟩).elim) λw j=>nJ k (λw h=>(o h ⟨y,j⟩).elim) λw h=>S.1.6 b y n j h⟩,
  S.2,λb l=>(tA l).elim (S.3 b) λq=> .inr (ho b q▸hi),S.4,S.5,S.6,λy d v e=>i (S.7 y d v e),λy g A e=>au (S.8 y g A e) λm E C=>aM m (i E) C⟩
noncomputable def Hj(o:dw):Prop:=(∀a n,o.data≠ .dict a n)/\∀z,o.data≠ .cell z
theorem g7.U{a:Env}{ρ:aA}{O:Nat->Prop}{H i:HP}{g:aq}(x:g7 B Γ a ρ H s.heap)(S:aV B O H s i g)(h:∀b o,O b->s.heap.get? b=aa o->Hj o):g7 B Γ a ρ i g.heap:=
 x.J S.4 (λm r=>fW r λo t u ho hd p=>au (S.2 a.locals o ho x.8 λq=>(h _ o q ho).1 _ _ hd) λj f y=>mj _ t u f hd p)
  (λn c z y l k=>au l λo e d=>au (S.2 c o e k λq=>(h c o q e).2 _ d) λj f y=>aM _ f d) λb o=>oQ S
theorem bM.U{a:Env}{ρ:aA}{O:Nat->Prop}{H d:HP}{c:aq}(x:bM B Γ a A k ρ H s)(S:aV B O H s d c)(e:∀b o,O b->s.heap.get? b=aa o->Hj o):bM B Γ a A k ρ d c:=⟨x.1,S.1,x.3.U S e,x.4.u S,x.5⟩
theorem gA.I{O:Nat->Prop}{H H':HP}{b:aq}{D:Nat}{a:Array aj}(S:aV B O H s H' b)(x:gA s.heap D a)(c:¬fp H D)(f:¬O D):gA b.heap D a/\¬fp H' D:=
 FC x λo e g d i h=>⟨au (S.2 D o e c f) λl k j=>wD _ k g d i<|(j λm n q=>o1 d λn d=>s7<|d.symm.trans q).trans h,oQ S e c⟩
abbrev uT:aj->aq->Prop:=λz z=>False
noncomputable def Hk(d:List az)(a:Env):Sem Bool:=forIn d af λc r=>if r=af then do let b<-isTrue c a (je c a);eY (acP b) else eY<|acP r
noncomputable def RE(B:aF)(A:bW)(a d:az)(c:List az)(e:aj)(b:Env)(G:aq->Prop)(v:aj)(s:aq):Prop:=
 a0 (aL B.e B.w) A (Bt a b v) (λz s=>a0 (aL B.e B.w) A (Hk c b) (λf s=>(f=af->a0 (aL B.e B.w) A (je d b) (λx s=>
  a0 (aL B.e B.w) A (gW (.builtin "list.append") [e,x]) (λz s=>G s) uT s) uT s)/\(f=ai->G s)) uT s) uT s
theorem RD{w k:aj}{d:Env}{R:uz->aq->Prop}(I:Nat->aq->Prop)
 (l:∀n s,I n s->a0 (aL B.e B.w) A (Bx w) (λr b=>match r with
  | none=>R (.ok .next) b
  | some v=>a0 (aL B.e B.w) A (Bv a w v) (λy s=>RE B A a j i k d (λs=>∃m,m<n/\I m s) v s) uT b) uT s)
 (n:Nat) (h:I n s):sS (aL B.e B.w) A (.compLoop (.ListComp j [⟨a,e,i,0⟩] c o) 0 w k d) R s:=by
 refine codeAny_loop rfl I (λn s J=>((wpAny_noted ?_):a0 _ A ((compTurn (.ListComp j [⟨a,e,i,0⟩] c o) 0 w k d).onRaise (λx=>do E5 x d;theTreesLotGoes x)) _ _ s)) n h;rw [compTurn_list];refine aJ<|pU<|aJ<|dX (l n s J) (λr b g=>?_) λy y z=>z.elim;induction r with
 | none=>exact cK g
 | some v=>
  refine aJ<|dX g (λy G u=>aJ<|dX u (λy F t=>aJ<|dX t (λH E f=>?_) λy y z=>z.elim) λy y z=>z.elim) λy y z=>z.elim;induction H with
  | false=>exact cK ⟨rfl,f.2 rfl⟩| true=>exact aJ<|aJ<|dX (f.1 rfl) (λx D q=>aJ<|dX q (λy C p=>cK<|cK ⟨rfl,p⟩) λy y z=>z.elim) λy y z=>z.elim
inductive lB(B:aF)(Γ:aI)(k:Nat):BL->List az->Prop
 | I:lB B Γ k .I []
 | eN {b e} (h:SB B Γ k b e):lB B Γ k (.u b .I) [e]
theorem lB.fZ(h:lB B Γ k c b){K:Bool->HP->Prop}(o:bM B Γ a A k ρ H s)(q:gZ (CR B k) c ρ (λy y=>False) K af H):
 a0 (aL B.e B.w) A (Hk b a) (uO B K H s) E s:=by
 induction h with
 | I=>exact wpAny_tests_nil ⟨H, .I o.2,q⟩
 | eN h=>
  refine wpAny_tests_one<|dX (h a A ρ _ _ H s o q) (λe d z=>au z λf S z=>(aM f S ?_)) λv d z=>?_
  ·induction e
   ·exact z.2 rfl
   ·exact z.1 rfl
  ·exact jj z λy y y y y y y y z=>z.elim
theorem dY.u{H:HP}{v:aj}{a:aq}(x:dY B A (λy y=>False) H s v a):False:=by exact jj x λy y y y y y y y z=>z
theorem RC(x:gA s.heap D a.toArray)(hl:a.length<cE)(h:∀c,gA c D (a++[v]).toArray->uy D s.heap c->Q .none {s with heap:=c}):
 a0 (aL B.e B.w) A (gW (.builtin "list.append") [.ref D,v]) Q E s:=by
 refine o1 x.J λn e=>?_;haveI b:a.toArray.size<=sizeLine:=by exact ae hG<|ae kb.symm<|aD (.I (.v 0)<|.v 1) (.e (.v 0)<|.v 1) rfl [] [_,_] hl
 exact Bz Mq x.u.typeIs acD (acC _ _) (list_append D a.toArray n v b) ⟨e,h _ (ae (show(a++[v]).toArray=a.toArray.push v by simp)<|wD _ (wj _ e rfl) rfl ⟨_,rfl⟩ rfl rfl)<|yR ..⟩
inductive CI(B:aF)(Cur:List V->aG->Prop)(it D:Nat)(H:HP)(s:aq)(vs:List V)(ws:List aj)(ys:List V)(H':HP)(s':aq):Prop
 | mk (S:cS B H s H' s')
  (c:Cur ys s'.heap)
  (ni:¬fp H' it)
  (L:gA s'.heap D (k7 ws))
  (v:ba s'.heap vs ws)
  (nD:¬fp H' D)
theorem CM(S:cS B H s e d)(U:aV B O e d c a)(f:∀b,O b->s.heap.get? b=ag):cS B H s c a:=
 aV.wQ (O':=O) ((S.U λb q=> .inl q).u<|U.U λb q=> .inr q) λb q=> .inr<|f b q
theorem CI.jE(x:CI B d f D H s m j i h n)(W:oX B f a p d)(U:aV B O h n c e)
 (o:a.J h) (r:a.J c) (g:∀b,O b->b≠f/\b≠D/\s.heap.get? b=ag):CI B d f D H s m j i c e:=by
 refine cm (W.1 x.2) λv w u t=>?_;have k:=CC U u t x.3 λq=>(g f q).1 rfl;have l:=x.4.I U x.6 λq=>(g D q).2.1 rfl;exact⟨CM x.1 U λb q=>(g b q).2.2,W.2 x.2 o r U k.1,k.2,l.1,x.5.U U.4,l.2⟩
theorem RG(o:g7 B Γ b ρ H h)(L:gA h D j):¬uP b x D:=by
 refine ji L λp e c a y=>?_;obtain⟨n,d⟩:=a;rintro(q | q)
 ·refine au o.6 λm a y=>?_;obtain⟨r,t,s,i,k,_⟩:=a;replace i:=q▸i;exact s7<|d.symm.trans<|(congrArg vX<|bP<|e.symm.trans i).trans k
 ·refine ay (o.11 x D q) λa y=>?_;obtain⟨z,l,f,g⟩:=a;have:=d.symm.trans<|(congrArg vX<|bP<|e.symm.trans f).trans g;cases this
theorem zO(q:nG g b Q a c d H):b.J H:=by induction c with| _=>exact q.1
theorem gA.U{h:aG}{D:Nat}{g:Array aj}(L:gA h D g){a:dw}(e:h.get? D=aa a):(∀b n,a.data≠ .dict b n)/\∀z,a.data≠ .cell z:=by refine ji L λo i c f y=>?_;obtain⟨n,d⟩:=f;have d:a.data=_:=(congrArg vX<|bP<|e.symm.trans i).trans d;exact⟨λb n q=>s7<|d.symm.trans q,λz q=>by cases d.symm.trans q⟩
theorem RB(R:bO B H s)(L:gA s.heap D f)(t:gA d D a)(k:uy D s.heap d)(i:¬fp H D)(j:B.u.get? D=ag):aV B (·=D) H s H {s with heap:=d}:=by refine au t λh p z=>aV.uK (L:=D) R (λb g l e=>(k.2 b l).trans e) i j (.inr rfl) (λg e=>⟨⟨h,p,λm n q=>((L.U e).1 m n q).elim⟩,λz z z=>(bR L λo r c z=>ae (bP<|r.symm.trans e).symm<|ae c ?_)⟩) rfl rfl;decide
def Rz(B:aF)(Γ:aI)(A:bW)(k:Nat)(a:Env)(ρ:aA)(i:Nat)(e:List V->aG->Prop)(h D:Nat)(H:HP)(s:aq)(G:List V->List V->HP->Prop)(n:Nat)(f:aq):Prop:=
 ∃b z d c g,n=b.length/\bM B Γ a A k (ρ.set i z) d f/\CI B e h D H s c g b d f/\c.length<=cE/\G b c d
theorem RF{C D i g:Nat}{x:Str}{px pos:Pos}{G:gy}{l:List V->aG->Prop}{M:X}{L:BL}{ee iter:az}{es:List az}{I:oJ}{a:Env}{ρ:aA}{z:Option V}{H d:HP}{h:aq}{f:List V}{Q:QV}{R:uz->aq->Prop}(W:oX B C G (.Name x px) l)
 (hx:(x,i)∈Γ.b) (hf:Γ.a.lookup x≠aa .free) (he:SE B Γ k M ee) (ht:lB B Γ k L es) (hh:A.handled=ag)
 (S:cS B H s d h) (o:bM B Γ a A k (ρ.set i z) d h) (hc:l f h.heap) (nf:¬fp d C) (nb:B.u.get? C=ag) (hi:s.heap.get? C=ag)
 (hD:gA h.heap D #[]) (Z:¬fp d D) (nbD:B.u.get? D=ag) (hiD:s.heap.get? D=ag) (hO:∀b,uP a x b->s.heap.get? b=ag)
 (q:nG g G Q (λv K K' H=>gZ (CR B k) L (ρ.set i<|aa v) (λt t=>False) (nE (aK (CR B k) M (ρ.set i<|aa v) (λt t=>False) K) K') af H) f [] d)
 (fin:∀E p F m z,cS B H s E p->bM B Γ a A k (ρ.set i z) E p->gA p.heap D (k7 F)->ba p.heap m F->m.length<=cE->¬fp E D->(∀c,E c=ag->Q (.d c) (E.J c<|.u g m))->R (.ok .next) p):
 sS (aL B.e B.w) A (.compLoop (.ListComp ee [⟨.Name x px,iter,es,0⟩] I pos) 0 (.ref C) (.ref D) a) R h:=by
 refine RD (Rz B Γ A k a ρ i l C D H s<|nG g G Q λv K K' H=>gZ (CR B k) L (ρ.set i<|aa v) (λt t=>False) (nE (aK (CR B k) M (ρ.set i<|aa v) (λt t=>False) K) K') af H) ?_ f.length
  ⟨f,z,d,[],[],rfl,o,⟨S,hc,nf,hD,ba.I,Z⟩,dR _,q⟩
 clear S o hc nf hD Z q;rintro n p ⟨Y,z,E,m,F,rfl,o,c,hl,q⟩;refine cm (W.1 c.2) λoi fi P O=>ji (id c.4) λoD eD t zz t=>?_;obtain⟨nD,dD⟩:=zz;have J:C≠D:=λe=>rG<|O.symm.trans<|(congrArg vX<|bP<|P.symm.trans<|(congrArg p.heap.get? e).trans eD).trans dD;induction Y with
 | nil=>refine W.4 hh c.2 o.2 q.1 λh' x=>?_;have tk:e8 p.heap h':=λb ob i n q c z=>x b ob (λy=>rG<|O.symm.trans<|(congrArg vX<|bP<|P.symm.trans<|y▸q).trans z) q;exact fin E _ F m z (c.1.nI P O c.3 nb hi x) (o.nI P O c.3 nb x) (au c.4 λo e r=>⟨o,x D _ (q8 J) e,r⟩) (c.5.U tk) hl c.6 q.2| cons y Y _=>refine W.3 c.2 o.2 q.1 c.3 nb λv s1 U hc1 r1=>?_;have l1:=c.4.I U c.6<|q8 J;have c1:CI B l C D H s m F Y E s1:=⟨CM c.1 U λb q=>q▸hi,hc1,c.3,l1.1,c.5.U U.4,l1.2⟩;have o1:=o.I U λb ob q e=>⟨fi,by rw [q,P] at e;exact ae (bP e).symm O⟩;have ok:=q.1;replace q:=q.2;clear U l1 c o P O eD dD;refine acQ<|GP o1 hx hf r1 λs2 S2 N=>?_;rw [List.set_set] at N;refine cm (W.1 c1.2) λoj fj j1 j2=>?_;have c2:=c1.jE W S2 ok ok λb q=>⟨λe=>zI o1.3 j1 j2<|e▸q.imp id λe=>⟨x,e⟩,λe=>RG o1.3 c1.4<|e▸q,hO b q⟩;clear o1 c1 j1 j2 r1 S2;refine dX (ht.fZ N q) (λb s3 z3=>au z3 λH3 T q=>⟨λe=>dX (he a A _ _ _ H3 s3 (N.u T)<|q.1 e) (λu s4 z4=>fV z4 λw H4 S4 r4 hlt q=>?_) λv s4 z=>z.u.elim,λe=>⟨_,mf _,Y,_,H3,m,F,rfl,N.u T,c2.jE W T ok (zO<|q.2 e) λb q=>q.elim,hl,q.2 e⟩⟩) λt t z=>z;have j:=c2.jE W (T.u S4) ok (zO q) λb q=>q.elim;have o4:=N.u<|T.u S4;clear z4 z3 N c2 T S4;refine RC j.4 (ae j.5.dN hlt) λh' hL' hs=>?_;have S5:=RB o4.2 j.4 hL' hs j.6 nbD;refine cm (W.1 j.2) λoj fj j1 j2=>?_;have k:=CC S5 j1 j2 j.3 J;exact⟨_,mf _,Y,_,H4,m++[w],F++[u],rfl,o4.U S5 λb ob q e=>(j.4.U<|q▸e),⟨CM j.1 S5 λb q=>q▸hiD,W.2 j.2 (zO q) (zO q) S5 k.1,k.2,hL',(j.5.hY<|ba.eN r4).U S5.4,j.6⟩,by refine ae bI ?_;exact hlt,q⟩
noncomputable def uU(Γ:aI)(a:List (Str×gU)):List (Str×gU):=a.map λp=>(p.1,if(p.2== .free&&Γ.a.lookup p.1==aa .cell)=af then .cell else p.2)
noncomputable def aI.e(Γ:aI)(a:List (Str×gU))(x:Str)(i:Nat):aI:=⟨uU Γ a,(x,i)::Γ.b.filter λp=>a.lookup p.1==aa .free,Γ.hs⟩
abbrev CN(Γ:aI)(a:List (Str×gU))(x:Str):Prop:=
 (∀p∈a,p.2= .free->p.1≠x/\(∃q∈Γ.b,q.1=p.1)/\(Γ.a.lookup p.1=aa .cell\/Γ.a.lookup p.1=aa .free))/\(∀p∈a,p.2= .cell->p.1=x)/\(∀p∈a,p.2= .local->a.lookup p.1=aa .local)/\(a.lookup x=aa .local\/a.lookup x=aa .cell)
noncomputable def Hn(Γ:aI)(a:List (Str×gU))(x:Str):Decidable (CN Γ a x):=inferInstance
noncomputable def tD(Γ:aI)(a:List (Str×gU))(x:Str)(i:Nat):Bool:=(Γ.e a x i).J&&@dS (CN Γ a x) (Hn Γ a x)
theorem Hm(h:tD Γ a x i=af):(Γ.e a x i).J=af/\CN Γ a x:=ay (bh h) λc b=>⟨c,@of_decide_eq_true _ (Hn Γ a x) b⟩
theorem RL(h:c=d):(if c=af then(x,y) else(x,z))=(x,if d=af then y else z):=ae h<|EN rfl rfl d
theorem RM(d:b.scope.kind= .function)(c:b.scope.names=Γ.a):(relabel a b).names=uU Γ a.names:=
 pV λp z=>by unfold m9;exact ae d<|ae c<|RL<|congrArg (·&&_)<|pR _
theorem CO:(uU Γ a).lookup y=(a.lookup y).map λb=>if(b== .free&&Γ.a.lookup y==aa .cell)=af then .cell else b:=by induction a with| nil=>rfl| cons p r ih=>exact gV.trans<|ae gV (if q:y=p.1 then ae (beq_iff_eq.mpr q) (q▸rfl) else ae (beq_false_of_ne q) ih)
noncomputable def oY(b:Env)(c:List (Str×gU))(a:List (Str×hF)):List (Str×hF):=@gq (Str×gU) (λz=>List (Str×hF)->List (Str×hF)) (λa=>a) (λp z ih a=>if p.2= .free then ih ((p.1,(b.cells.lookup p.1).getD 0)::a) else ih a) c a
theorem RI(f:Str×gU->List (Str×hF)->Sem (ForInStep<|List<|Str×hF))(hf:∀p cs,f p cs=if p.2== .free then(do let a<-cellOf env p.1;eY (.yield<|(p.1,a)::cs)) else eY<|.yield cs)(e:List (Str×gU)):
 ∀(b:List (Str×hF)),(∀n,(n,uB)∈e->∃c,env.cells.lookup n=aa c)->forIn e b f=eY (oY env e b):=by
 induction e with
 | nil=>exactλb z=>Ml ..
 | cons p r ih=>
  refineλb h=>(aco ..).trans<|ae (hf p b) (if d:p.2= .free then ?_ else ?_)
  ·exact o1 (h p.1<|d▸cu) λc i=>ae (if_pos<|beq_iff_eq.mpr d)<|ae (show cellOf env p.1=eY c by unfold cellOf;exact ae i rfl)<|(ih ((p.1,c)::b) λn g=>h n<|df _ g).trans<|congrArg eY<|Eq.symm<|(if_pos d).trans<|ae i rfl
  ·exact ae (if_neg λz=>d<|beq_iff_eq.mp z)<|(ih b λn g=>h n<|df _ g).trans<|congrArg eY (if_neg d).symm
theorem RK(g:a.cells.lookup y=aa c):∀{b:List (Str×hF)},(y,uB)∈f\/b.lookup y=aa c->(oY a f b).lookup y=aa c:=by induction f with| nil=>exactλe=>e.elim (λz=>(dz z).elim) id| cons p r ih=>refineλe=>if hk:p.2= .free then(congrArg (wt y)<|if_pos hk).trans (ih (if d:y=p.1 then .inr (gV.trans<|ae (beq_iff_eq.mpr d)<|d▸ae g rfl) else e.imp (λe=>(dH.mp e).elim (λe=>absurd (congrArg Prod.fst e) d) id) λe=>gV.trans<|ae (beq_false_of_ne d) e)) else(congrArg (wt y)<|if_neg hk).trans<|ih<|e.imp (λe=>(dH.mp e).elim (λe=>absurd (congrArg Prod.snd e).symm hk) id) id
theorem Ho:∀{b:List (Str×hF)},(∀n,(n,uB)∈f->∃c,a.cells.lookup n=aa c)->(y,c)∈oY a f b->((y,uB)∈f/\a.cells.lookup y=aa c)\/(y,c)∈b:=by induction f with| nil=>exactλz e=> .inr e| cons p r ih=>intro b h e;have g:∀n,(n,uB)∈r->∃c,a.cells.lookup n=aa c:=λn i=>h n<|df _ i;refine if hk:p.2= .free then(ih g<|(show oY a (p::r) b=oY a r ((p.1,(a.cells.lookup p.1).getD 0)::b) from if_pos hk)▸e).elim (λq=> .inl ⟨.tail _ q.1,q.2⟩) (λq=>(dH.mp q).elim (λq=> .inl ?_) .inr) else(ih g<|(show oY a (p::r) b=oY a r b from if_neg hk)▸e).elim (λq=> .inl ⟨.tail _ q.1,q.2⟩) .inr;have k:(p.1,uB)∈p::r:=hk▸cu;exact o1 (h _ k) λd hd=>ae (show y=p.1 from congrArg Prod.fst q) ⟨k,hd.trans<|congrArg aa ((congrArg Prod.snd q).trans<|ae hd rfl).symm⟩
theorem Hl(b:List (Str×gU)):∀(n:Nat) (a:List (Str×hF)),nj n b a=nj n b []++a:=by induction b with| nil=>exactλn a=>rfl| cons p r ih=>exactλn a=>if hk:(p.2== .cell)=af then(if_pos hk).trans ((ih (n+1)<|(p.1,n)::a).trans<|Eq.symm<|(congrArg (·++a)<|(if_pos hk).trans<|ih (n+1) [(p.1,n)]).trans<|cv ..) else(if_neg hk).trans<|(ih n a).trans<|congrArg (·++a) (if_neg hk).symm
theorem RH:∀{n:Nat},(y,c)∈nj n a []->(y,MB)∈a:=by induction a with| nil=>exactλh=>(dz h).elim| cons p r ih=>exactλ{n} h=>if hk:(p.2== .cell)=af then((fG.mp<|(show nj n (p::r) []=nj (n+1) r []++[(p.1,n)] from(if_pos hk).trans<|Hl r (n+1) [(p.1,n)])▸h).elim (λh=> .tail _<|ih h) λh=>(show(y,MB)=p from Fc (dI<|d5.mp h).1 (beq_iff_eq.mp hk).symm)▸cu) else .tail _<|ih<|(show nj n (p::r) []=nj n r [] from if_neg hk)▸h
theorem RJ(X:bM B Γ env A k N H₀ W)(hk:tD Γ scope.names x i=af)(hkd:scope.kind= .function):
 ∃cl,closureFor scope env=eY cl/\∀{s:aq} {H:HP} {ρ:aA} {Q:Env->aq->Prop} {E:aj->aq->Prop},bM B Γ env A k ρ H s->
  (∀d h',s.heap.get? d.locals=ag->¬fp H d.locals->B.u.get? d.locals=ag->(∃m,h'.Ns d.locals m)->(∀b P,s.heap.get? b=aa P->h'.get? b=aa P)->cS B H s H {s with heap:=h'}->
   bM B (Γ.e scope.names x i) {d with scope:=relabel scope env} A k (ρ.set i ag) H {s with heap:=h'}->(∀b,uP d x b->s.heap.get? b=ag)->Q d {s with heap:=h'})->
  a0 (aL B.e B.w) A (acT scope env.globals cl [] env.qual ag .none<|aa env) Q E s:=by
 refine ay (Hm hk) λk1 w=>qa w λk3 k4 k2 k5=>?_;clear w k2 hk;have g:∀n,(n,uB)∈scope.names->n≠x/\∃j,(n,j)∈Γ.b/\(Γ.a.lookup n=aa .cell\/Γ.a.lookup n=aa .free):=λn hn=>gI (k3 _ hn rfl) λa b c=>au b λq D e=>⟨a,q.2,(show q.1=n from e)▸D,c⟩;have C:∀n,(n,uB)∈scope.names->∃c,env.cells.lookup n=aa c:=λn hn=>Fy (g n hn) λu j D M=>cm (X.3.7 n j D M) λc z e1 u=>⟨c,e1⟩;refine(aM (oY env scope.names []) ?_ λ{s H ρ Q E} o h=>?_)
 ·exact(congrArg (·>>=λcs=>eY cs)<|RI (env:=env) _ (λp cs=>by obtain⟨n,kd⟩:=p;induction kd<;>rfl) scope.names [] C).trans rfl
 have O:∀{n:Nat} {y:Str} {c:Nat},(y,c)∈nj n scope.names []->y=x:=λU=>k4 _ (RH U) rfl;have K:∀{c:Nat},(oY env scope.names []).lookup x≠aa c:=λ{c} e=>(Ho C<|pW e).elim (λq=>(g x q.1).1 rfl) dz;simp only [acT,Option.isSome_some,if_true];refine aJ<|wpAny_alloc<|aJ<|wpAny_layCells _ (λname kind cells=>by cases hkc:kind==MB<;>simp) _ _ _ _<|ae Ml<|aJ<|cK<|cK ?_;dsimp only;have Y:=cellsFrom_ok scope.names (s.heap.push {cls:= .type "dict",data:= .dict #[]}) (s.heap.objs.size+1) [] ⟨λu u U=>((dz U).elim),ad5⟩ (by rw [Bq];exact dC _);rw [Bq] at Y⊢;have Z:∀b P,s.heap.get? b=aa P->(pushCells (s.heap.push {cls:= .type "dict",data:= .dict #[]}) scope.names).get? b=aa P:=λb P e=>acS _ _ b P<|hJ _ e;have R:=(Heap.Ns.new s.heap<|.type "dict").keeps<|acS scope.names<|s.heap.push {cls:= .type "dict",data:= .dict #[]};generalize pushCells (s.heap.push {cls:= .type "dict",data:= .dict #[]}) scope.names=h2 at Y Z R⊢;rw [Hl];have r:∀y c,(y,c)∈nj (s.heap.objs.size+1) scope.names []->y=x:=λy c=>O;have L:scope.names.lookup x=aa .cell->∃c,(nj (s.heap.objs.size+1) scope.names []).lookup x=aa c:=λz=>acR.mp<|MA _ _ _<|.inl z;generalize nj (s.heap.objs.size+1) scope.names []=F at Y r L⊢;have S:cS B H s H {s with heap:=h2}:= .iS o.2 Z rfl rfl;have J:∀b,s.heap.objs.size<=b->s.heap.get? b=ag/\¬fp H b/\B.u.get? b=none:=λb hb=>o.2.I hb
 have I:∀y c,(F++oY env scope.names []).lookup y=aa c->(y=x/\(y,c)∈F)\/(y≠x/\env.cells.lookup y=aa c):=λy c e=>by
  rw [wu] at e;cases q:F.lookup y with
  | some c'=>replace e:=q▸e;exact .inl ⟨r y c'<|pW q,bP e▸pW q⟩| none=>replace e:=q▸e;exact .inr ⟨λz=>K<|z▸e,(Ho C<|pW e).elim (λz=>z.2) λz=>(dz z).elim⟩
 have l:∀y c,(y,c)∈F->h2.IsCell c ag/\s.heap.get? c=ag/\¬fp H c/\B.u.get? c=none:=λy c U=>⟨(Y.empty y c U).1,J c (by have z2:=(Y.empty y c U).2;exact aD (.I (.v 0)<|.v 1) (.I (.a (.v 0)<|.n 1)<|.v 1) rfl [] [_,_] z2)⟩;have f:=J s.heap.objs.size<|dC _;have no:∀{y z c},env.cells.lookup z=aa c->(y,c)∈F->False:=λe m=>o1 (o.3.11 _ _ e).1 λu q=>au q λoc G u=>a9<|(l _ _ m).2.1.symm.trans G
 refine h _ h2 f.1 f.2.1 f.2.2 ⟨_,R⟩ Z S ⟨o.1,S.1,⟨k1,RM o.3.3 o.3.2,hkd,o.3.4,o.3.5,⟨_,R,λy j D hl=>?_⟩,λy j D hl=>?_,f.2.1,f.2.2,
  λy z c D hz=>(I y c D).elim (λa=>(I z c hz).elim (λb=>a.1.trans b.1.symm) λb=>(no b.2 a.2).elim) λa=>(I z c hz).elim (λb=>(no a.2 b.2).elim) λb=>o.3.10 y z c a.2 b.2,λy c D=>?_⟩,o.4.u S,o.5⟩ λb hb=>?_
 ·refine(dH.mp D).elim (λe=>?_) λe=>?_
  ·exact ae ((dI e).2)<|ae Cv λv e=>a9 e
  ·have V:=(Mz.mp e).2;simp only [beq_iff_eq] at V;have t:(uU Γ scope.names).lookup y=aa .local:=hl;rw [CO,V] at t;simp only [Option.map_some] at t;split at t<;>cases t
 ·refine(dH.mp D).elim (λe=>?_) λe=>ay (Mz.mp e) λe1 V=>?_
  ·have t:(uU Γ scope.names).lookup x=aa .cell\/(uU Γ scope.names).lookup x=aa .free:=(dI e).1▸hl;have M:scope.names.lookup x=aa .cell:=k5.elim (λz=>by rw [CO,z] at t;simp at t) id;refine o1 (L M) λc M=>?_;have w:=l x c<|pW M;exact ae ((dI e).1)<|ae ((dI e).2)<|ae Cv ⟨c,ag,wu.trans<|congrArg (Option.or · _) M,w.1,w.2.2.1,w.2.2.2,λv e=>a9 e⟩
  ·simp only [beq_iff_eq] at V;exact Fy (g y<|pW V) λhx j' u M=>iC (o.3.7 y j e1 M) λc z g1 g2 g3 g4 g5=>⟨c,z,wu.trans<|ae (mq λc' q=>hx<|r y c'<|pW q)<|RK g1<|.inl<|pW V,au g2 λoc G T=>aM oc (Z _ _ G) T,g3,g4,ae (w5 λq:j=i=>hx<|Cu (aI.I k1) D (show(x,j)∈(Γ.e scope.names x i).b from q▸cu))<|g5.U S.4⟩
 ·exact(I y c D).elim (λa=>⟨⟨_,(l y c a.2).1⟩,(l y c a.2).2.2.1⟩) λa=>⟨o1 (o.3.11 y c a.2).1 λz q=>au q λoc G T=>⟨z,aM oc (Z _ _ G) T⟩,(o.3.11 y c a.2).2⟩
 ·exact hb.elim (λq=>q▸f.1) λhb=>(I x b hb).elim (λa=>(l x b a.2).2.1) λa=>absurd rfl a.1
end
section
open PySem PySem.W PyProof.Rows PySem.Calls PySem.SeqAt
section
variable {B:aF} {Γ:aI} {k:Nat} {A:bW} {s:aq}
theorem Hp{G it:X}{t:BL}{i g:Nat}{x:Str}{J r:Pos}{ee d:az}{S:List az}{scope:oJ}{l:Env}{ρ:aA}{E:EP}{H:HP}{Q:QV}{Q' V:aj->aq->Prop}{use:Option (aj->Sem Unit)}
 (hΓ:Γ.hs=ai) (hk:tD Γ scope.names x i=af) (N:scope.kind= .function) (hi:SE B Γ k it d) (he:SE B (Γ.e scope.names x i) k G ee) (ht:lB B (Γ.e scope.names x i) k t S) (hf:ql d=af)
 (o:bM B Γ l A k ρ H s) (q:aK (CR B k) (.c g G i it t) ρ E Q H) (n':∀v s',dY B A E H s v s'->V v s')
 (fin:∀C D U s',cS B H s U s'->s.heap.get? C=ag->¬fp U C->B.u.get? C=ag->(∃m,s'.heap.Ns C m)->Q (.d D) U->compPost (aL B.e B.w) A V use Q' (.ref D) C (.ok .next) s'):
 a0 (aL B.e B.w) A (comprehension (.ListComp ee [⟨.Name x J,d,S,0⟩] scope r) scope l (firstIterPos [⟨.Name x J,d,S,0⟩] r) (newList []) ai (je d l) use) Q' V s:=by
 refine au (RJ o hk N) λcl hcl hce=>?_;have hh:A.handled=none:=o.5.elim (λz=>by replace z:=hΓ▸z;exact bw z) id;refine gI (Hm hk).2.2 λw k2 k5=>?_;clear w;have hfs:∀v,Mo d l v=eY v:=λv=>G9 hf _ v;refine wpAny_comprehension_free (use:=use) rfl hfs hcl N k2<|hi.J o q (λy v H1 s1 S1 o1 r1 q=>cm q λn f hit _=>?_) n';clear q;rename_i q
 ·refine dX (Hb (te:= .Name x J) rfl S1 r1 hit q (K:=λn f H1=>nG g n Q (λv K K' H=>gZ (CR B k) t (ρ.set i<|aa v) (λ_ _=>False) (λb H=>(b=af->aK (CR B k) G (ρ.set i<|aa v) (λ_ _=>False) K H)/\(b=ai->K' H)) af H) f [] H1)) (λitv h z=>jj z λI n f T zz S2 fI zy q=>?_) λ_ _ z=>z;clear z;obtain rfl:=zz;obtain⟨Cur,W,hc,nf,nb⟩:=zy;have R2:=S2.1;refine wpAny_newList<|ay (xd R2) λd1 d2=>?_;have d0:=xc S2;have SD:cS B T h T {h with heap:=h.heap.push {cls:= .type "list",data:= .seq ([]:List aj).toArray},toks:=h.toks}:=mB R2;have hD:(h.heap.push {cls:= .type "list",data:= .seq ([]:List aj).toArray}).get? h.heap.objs.size=aa {cls:= .type "list",data:= .seq ([]:List aj).toArray}:=jO _ rfl;have S3:=S2.u SD;have nfI3:¬fp T I:=nf;refine hce (o.u S3) λj P R nfC nbC hns kp S4 o4 hO=>?_;have S34:=S3.u S4;have hDl:gA P h.heap.objs.size #[]:=(wD _ (kp _ _ hD) rfl ⟨_,rfl⟩ rfl rfl);have bk:∀b,(h.heap.push {cls:= .type "list",data:= .seq ([]:List aj).toArray}).get? b=ag->s.heap.get? b=none:=λb e=>by cases q:s.heap.get? b with| none=>rfl| some L=>obtain⟨Y,e'⟩:=S3.5 b L q;replace e':=e▸e';exact a9 e'
  refine cm (W.1 hc) λoi fi i1 i2=>?_;have i13:(h.heap.push {cls:= .type "list",data:= .seq ([]:List aj).toArray}).get? I=aa oi:=hJ _ i1;have kI:∀L,h.heap.get? I=aa L->P.get? I=aa L:=λL e=>kp _ _<|hJ _ e;have M:n.J T:=by induction f<;>exact q.1
  have O:Cur f P:=W.2 (s':={h with heap:=P}) hc M M (SD.u S4) kI
  have p:sS (aL B.e B.w) A (.compLoop (.ListComp ee [⟨.Name x J,d,S,0⟩] scope r) 0 (.ref I) (.ref h.heap.objs.size) {j with scope:=relabel scope l}) (compPost (aL B.e B.w) A V use Q' (.ref h.heap.objs.size) j.locals) {h with heap:=P,toks:=h.toks}:=by
   refine RF (s:=s) (H:=H) (z:=ag) W cu ?_ he ht hh S34 o4 O nf nb fI hDl d1 d2 d0 (λb F=>bk b<|hO b F) q ?_
   ·skip;refine ae CO ?_;refine cO k5 (λz=>?_) (λz=>?_)<;>(refine ae z ?_;simp)
   ·intro U s' ws vs z S' Y hL hv hl Z q';have u:nH B.I B.e B.w s'.heap h.heap.objs.size (.u g vs):=(bT ws hL hv hl)
    refine ay (S'.Ry u Z d2 d0 (λb F=>by
     refine cO F (λF=>?_) λF=>?_
     ·exact F
     ·exact F.elim)) λhDn S5=>?_
    refine fin j.locals h.heap.objs.size _ s' S5 (bk _ R) (λz=>cm z λa c e w=>?_) nbC (au Y.3.6 λm hm _=>⟨m,hm⟩)<|q' _ hDn;unfold HP.J at e;split at e
    ·rename_i ha;obtain rfl:=bP e;refine cO w (λw=>?_) λw=>?_
     ·have:j.locals=h.heap.objs.size:=w.trans ha;replace R:=hD▸this▸R;exact hU R
     ·exact w.elim
    ·exact Y.3.8<|cL a c e w
  exact codeAny_compStart_list p<|W.5 ⟨x,J,rfl⟩ O p
theorem Hq{h:aG}{C:Nat}{m:Str->Option aj}(x:h.Ns C m):∃o a n,h.get? C=aa o/\o.data= .dict a n:=fW x λo a n e d z=>lq o a n e d
theorem RN{f p:X}{c:BL}{i g:Nat}{x:Str}{G h:Pos}{F b:az}{v:List az}{a:oJ}
 (r:Γ.hs=ai) (J:tD Γ a.names x i=af) (u:a.kind= .function) (hi:SE B Γ k p b) (K:SE B (Γ.e a.names x i) k f F) (I:lB B (Γ.e a.names x i) k c v) (hf:ql b=af):
 SE B Γ k (.c g f i p c) (.ListComp F [⟨.Name x G,b,v,0⟩] a h):=λM A ρ E Q H s o q=>by
 rw [eval_ListComp];exact Hp r J u hi K I hf o q (λy y z=>z) λC D N O S L j l t q=>o1 t λm w=>(aM m w λR x=>hW (Hq w) λP v n e d=>⟨.d D,N,S.uS e (λp n z=>by rw [d] at z;exact wF z) j l L x.extBut,kJ,q⟩)
theorem RO{K M:X}{F:BL}{i j g:Nat}{x y:Str}{px L h t:Pos}{ee f:az}{es:List az}{a:oJ}
 (T:Γ.hs=ai) (hk:tD Γ a.names x i=af) (Y:a.kind= .function) (hi:SE B Γ k M f) (Z:SE B (Γ.e a.names x i) k K ee) (ht:lB B (Γ.e a.names x i) k F es) (hf:ql f=af)
 (hy:(y,j)∈Γ.b) (G:Γ.a.lookup y=aa .local) (W:L.line==h.line) (U:(a.names.any λp=>p.1==y&&(p.2== .local||p.2== .cell))=ai):
 SS B Γ k (.c (.J j)<|.c g K i M F) (.Assign [.Name y L] (.ListComp ee [⟨.Name x px,f,es,0⟩] a h) t):=λb A l ρ P H s hA o q=>by
 have I:b.kindOf y=aa .local:=by delta m9;exact ae o.3.2 G
 have hw:Me (.ListComp ee [⟨.Name x px,f,es,0⟩] a h) (aa<|.Name y L) t.line b=eY true:=by
  refine(?_:(eY (b.blockKind== .function&&b.kindOf y==aa .local&&L.line==h.line&&!(a.names.any λp=>p.1==y&&(p.2== .local||p.2== .cell))):Sem Bool)=eY af);have:b.blockKind= .function:=by delta Env.blockKind;exact ae o.3.3 rfl
  exact ae this<|ae I<|ae W<|ae U rfl
 refine ae (exec_Assign_Name_used _ _ _ _ hw)<|aJ<|pU<|aJ ?_;skip;refine aJ<|Hp T hk Y hi Z ht hf o q (λw w z=>z.J o) λC D H' s' S O u E V q=>?_;skip;refine o1 V λm hn=>hW (Hq hn) λob es' n e d=>acQ<|uQ (o.u S) hy (by refine ae G ?_;decide) (y:= .d D) kJ λs2 Q o2=>?_;have nl:b.locals≠C:=λz=>by refine au o.3.6 λm R w=>?_;obtain⟨o1,_,_,r,_⟩:=R;rw [z,O] at r;exact a9 r
 have nc:∀n c,b.cells.lookup n=aa c->c≠C:=λn c hc z=>by refine ay (o.3.11 n c hc) λR w=>?_;obtain⟨_,o1,r,_⟩:=R;rw [z,O] at r;exact a9 r
 have nO:¬gC b C:=by
  rintro(z | ⟨n,z⟩)
  ·exact nl z.symm
  ·exact nc n C z rfl
 refine au (Q.2 C ob e u nO) λsl e2 w=>fW hn λo1 es1 n1 r g2 N=>?_;replace r:=e▸r;obtain rfl:=bP r;refine(aM m ⟨_,es1,n1,e2,g2,N⟩ λh' x=>cK<|cK ⟨_,H',(S.e.u Q).uS e2 (λM n z=>by replace z:=(show _=_ from d)▸z;exact wF z) (Cj Q e u) E O x.extBut,o2.uS e2 (λM n z=>by replace z:=(show _=_ from d)▸z;exact wF z) (Cj Q e u) E nl nc (λl' J hl Z z=>au o.4.1 λl2 v fr=>?_) x.extBut,q⟩);replace v:=hl▸v;obtain rfl:=bP v;obtain⟨_,_,o3,_,_,N,_⟩:=fr J Z;rw [z,O] at N;exact a9 N
end
end
section
open PySem PySem.W PyProof.Rows PySem.Calls PySem.SeqAt
variable {B:aF} {Γ:aI} {k:Nat} {A:bW} {E:aj->aq->Prop} {s:aq}
theorem RV(r:A.frames=aa (a::l))(x:f6 B Γ a A k m H s v j)(p:∀b,gC a b->mv H s b)
 (h:∀f,dY B A (λg i=>∃c,m c g i) H s v f->Q () f):a0 (aL B.e B.w) A (leaving a v) Q E j:=by
 refine mr x λe d g c i q L o z=>ae q ?_;skip;exact aJ<|w8 r L o λt L o y=>tC ag L o λn L o=>ae q.symm<|h n ⟨e,d,g,i,q,L.1.Cg p,L.2,L.3,c,z⟩
theorem RT:∀{bs:List (Str×aj)} {m:Str->Option aj},x∉bs.map (·.1)->bindL c bs m x=m x:=by
 intro a;induction a with
 | nil=>intro _ _;exact rfl
 | cons b r ih=>
  obtain⟨n,v⟩:=b;intro m h;rw [gX,dH,not_or] at h;skip;refine ae (ih h.2) ?_;split
  ·exact if_neg h.1
  ·rfl
theorem RR(f:b x=aa .local):∀{bs:List (Str×aj)} {m:Str->Option aj},(bs.map (·.1)).Nodup->(x,v)∈bs->bindL b bs m x=aa v:=by
 intro c;induction c with
 | nil=>intro _ _ h;exact by cases h
 | cons d r ih=>
  obtain⟨n,u⟩:=d;intro m a h;rw [gX,la] at a;unfold bindL;refine cO (dH.mp h) (λe=>?_) λh=>?_
  ·obtain rfl:=(dI e).1;obtain rfl:=(dI e).2;rw [RT a.1,if_pos f,if_pos rfl]
  ·exact ih a.2 h
theorem RQ:∀{bs:List (Str×aj)} {m:Str->Option aj},x∉bs.map (·.1)->bindC c bs m x=m x:=by
 intro a;induction a with
 | nil=>intro _ _;exact rfl
 | cons b r ih=>
  obtain⟨n,v⟩:=b;intro m h;rw [gX,dH,not_or] at h;skip;refine ae (ih h.2) ?_;split
  ·rfl
  ·exact if_neg h.1
theorem RP(f:b x≠aa .local):∀{bs:List (Str×aj)} {m:Str->Option aj},(bs.map (·.1)).Nodup->(x,v)∈bs->bindC b bs m x=aa v:=by
 intro c;induction c with
 | nil=>intro _ _ h;exact by cases h
 | cons d r ih=>
  obtain⟨n,u⟩:=d;intro m a h;rw [gX,la] at a;unfold bindC;refine cO (dH.mp h) (λe=>?_) λh=>?_
  ·obtain rfl:=(dI e).1;obtain rfl:=(dI e).2;rw [RQ a.1,if_neg f,if_pos rfl]
  ·exact ih a.2 h
theorem CS{a:List d}{b:List c}(h:a.length=b.length):(a.zip b).map (·.1)=a:=List.map_fst_zip<|eW h
theorem Hr{a:List d}{b:List c}{i:Nat}{x:d}{y:c}(h:a[i]?=aa x)(e:b[i]?=aa y):(x,y)∈a.zip b:=wh (i:=i)<|List.getElem?_zip_eq_some.mpr ⟨h,e⟩
theorem RW{n i:Nat}{y:V}(h:((iF a n)[i]?).join=aa y):a[i]?=aa y:=by
 unfold iF at h;by_cases hi:i<a.length
 ·rw [List.getElem?_append_left (by rw [bB];exact hi),jf] at h;cases q:a[i]? with
  | none=>rw [q] at h;exact a9 h| some z=>rw [q] at h;exact h
 ·rw [Mp (by rw [bB];exact aD (.I (.v 0)<|.v 1) (.nt (.v 1)<|.v 0) rfl [] [_,_] hi),ab1] at h;split at h<;>exact a9 h
noncomputable def CQ(a:List Str)(Γ:aI):Bool:=Γ.J&&dS a.Nodup&&Γ.b.all (λp=>Γ.a.lookup p.1!=aa .free&&(uq a.length p.2||a[p.2]?==aa p.1))&&a.all λx=>Γ.a.lookup x==aa .local||Γ.a.lookup x==aa .cell
theorem RU{sl:SL}
 (hK:B.K.lookup f=aa o) (hd:o.data= .func h) (hcd:codeIn B.K h.code h.qualname=af) (O:h.body= .stmts I) (hg:h.globals=jN) (T:h.builtins=Be) (hclo:h.closure=[])
 (hco:h.scope.isCoroutine=ai) (hgen:h.scope.isGenerator=ai) (hk:h.scope.kind= .function) (F:Γ.a=h.scope.names) (N:CQ ps Γ=af)
 (P:∀(s:aq) (p:List aj),B.K.In s.heap->p.length=na->∃du,ba s.heap ds du/\BindsTo s h ⟨p,[]⟩ (ps.zip<|p++du)/\(p++du).length=ps.length)
 (hs:gL B Γ k sl I) (hhs:Γ.hs=B.I.J f) {U:List V} {E:EP} {Q:QV} {H:HP} (hl:U.length=na) (q:aw (CR B k) sl (iF (U++ds) n) (.e E Q) H):CR B (k+1) f U E Q H:=by
 intro A s p b R C z r;have X:=oR b R;have ho:s.heap.get? f=aa o:=X _ _ hK;refine bR (P s p X<|r.dN.trans hl) λdu rd hbd t=>?_;delta CQ at N;simp only [eJ,decide_eq_true_eq] at N;refine ay N λzz k4=>?_;obtain⟨⟨k1,k2⟩,k3⟩:=zz;have hlim:=b.5.keeps R.1;have K:∀x∈ps,h.scope.names.lookup x=aa .local\/h.scope.names.lookup x=aa .cell:=λx hx=>by have:=dT.mp k4 x hx;refine ae F.symm ?_;simpa using this
 refine codeAny_call_function (by have:=C.2;skip;exact aD (.e (.v 0)<|.n 1000) (.I (.a (.v 0)<|.m 3<|.a (.v 1)<|.n 1)<|.a (.n 900)<|.n 1) rfl [] [_,_] this) ho hd hco hgen O (codeRec_of X hcd)<|hbd _ _ _ _ ?_;refine ae hclo ?_;refine wpAny_newFunctionEnv_cells hk (λy j=>?_) λa G s1 x=>?_
 ·have L:y.1∈ps:=by have:y.1∈(ps.zip<|p++du).map (·.1):=gi.mpr<|aM y j rfl;rwa [CS t.symm] at this
  rcases K _ L with z | z
  ·exact .inl z
  ·exact .inr ⟨z,MA _ _ _<|.inl z⟩
 ·subst G;refine⟨hlim.keeps x.toInCall.keep,codeAny_func<|cm x.done λh1 tk zz kp=>?_⟩;obtain rfl:=zz;generalize G:newEnv h.scope s.heap.objs.size h.globals (nj (s.heap.objs.size+1) h.scope.names []) (h.qualname++".<locals>.") (aa f) h.code ag h.builtins=a at x⊢;have eS:a.scope=h.scope:=by exact ae G.symm rfl
  have eL:a.locals=s.heap.objs.size:=by exact ae G.symm rfl
  have eC:a.cells=nj (s.heap.objs.size+1) h.scope.names []:=by exact ae G.symm rfl
  have eG:a.globals=mainGlobals:=by exact ae G.symm hg
  have eB:a.builtins=builtinsNs:=by exact ae G.symm T
  have eF:a.frame=aa a.locals:=by exact ae G.symm rfl
  have S:cS B H s H {s with heap:=h1,toks:=tk}:= .iS R kp rfl rfl;have D:∀b,s.heap.objs.size<=b->s.heap.get? b=ag/\¬fp H b/\B.u.get? b=none:=λb T=>R.I T;refine gI (D a.locals<|ae eL<|dC _) λf1 f2 f3=>?_
  have g:∀y c,a.cells.lookup y=aa c->s.heap.get? c=ag/\¬fp H c/\B.u.get? c=none:=λy c j=>D c (by
   have:=x.above y c<|pW j;replace this:=eL▸this
   exact jM this)
  have kdE:∀y,a.kindOf y=Γ.a.lookup y:=λy=>by delta m9;exact ae eS<|ae F rfl
  have bnd:(ps.zip<|p++du).map (·.1)=ps:=CS t.symm;have nd:((ps.zip<|p++du).map (·.1)).Nodup:=by exact ae bnd k2
  have Z:ba h1 (U++ds) (p++du):=(r.hY rd).U S.4
  have J:∀y i,(y,i)∈Γ.b->Γ.a.lookup y≠aa .free/\∀v,((iF (U++ds) n)[i]?).join=aa v->∃u,(y,u)∈ps.zip (p++du)/\aW h1 v u:=λy i j=>by
   have:=dT.mp k3 (y,i) j;simp only [eJ,bne_iff_ne,ne_eq,Bh,beq_iff_eq,Nat.ble_eq] at this;refine⟨this.1,λv M=>?_⟩;have M:=RW M;refine au (Z.eM M) λu W Y=>?_;have hi:i<ps.length:=by refine ae t.symm ?_;exact(oH.mp W).1
   rcases this.2 with z | z
   ·exact absurd hi<|EK z
   ·exact(aM u (Hr z W) Y)
  have o0:bM B Γ a (A.deeper a) k (iF (U++ds) n) H {s with heap:=h1,toks:=tk}:=by
   refine⟨b,S.1,⟨k1,by exact ae eS<|ae F rfl,by refine ae eS ?_;exact hk,eG,eB,(aM _ x.toInCall.ns λy i j hl v M=>?_),λy i j hl=>?_,f2,f3,λy y' c j L=>name_of_addr x.apart (pW j)<|pW L,λy c j=>⟨⟨_,x.cell y c j⟩,(g y c j).2.1⟩⟩,?_,?_⟩
   ·exact au ((J y i j).2 v M) λu W Y=>⟨u,RR ((kdE y).trans hl) nd W,Y⟩
   ·have hc:Γ.a.lookup y=aa .cell:=hl.elim id λz=>absurd z (J y i j).1;refine o1 (acR.mp<|MA h.scope.names (s.heap.objs.size+1) [] (.inl<|F▸hc)) λc m=>?_;replace m:=eC.symm▸m;exact⟨c,_,m,x.cell y c m,(g y c m).2.1,(g y c m).2.2,λv M=>(au ((J y i j).2 v M) λu W Y=>⟨u,RP (by rw [kdE,hc];decide) nd W,Y⟩)⟩
   ·refine au C.1 λl hl fr=>fW x.toInCall.ns λoL esL epL hoL hdL w=>⟨⟨a::l,by refine((ae hl ?_):A.frames.map (a::·)=_);rfl,λenv' he'=>?_⟩,by have:=C.2;skip;exact aD (.I (.a (.a (.v 0)<|.n 1)<|.m 3<|.v 1)<|.a (.n 900)<|.n 0) (.I (.a (.v 0)<|.m 3<|.a (.v 1)<|.n 1)<|.a (.n 900)<|.n 1) rfl [] [_,_] this,by have:=C.3;skip;exact aD (.I (.a (.a (.v 0)<|.n 3)<|.m 100<|.v 1)<|.a (.n 9000)<|.m 50<|.n 0) (.I (.a (.v 0)<|.m 100<|.a (.v 1)<|.n 1)<|.a (.n 9000)<|.m 50<|.n 1) rfl [] [_,_] this,C.4⟩;rcases dH.mp he' with e | e
    ·subst e;exact⟨by refine ae eS<|ae hk ?_;decide,eF,oL,esL,epL,hoL,hdL,f3,f2⟩
    ·exact fr.u S env' e
   ·refine ae hhs ?_;exact z
  refine au C.1 λl hl w=>?_;have hA:(A.deeper a).frames=aa (a::l):=by exact((ae hl rfl):A.frames.map (a::·)=_)
  have hO:∀b,gC a b->mv H s b:=λb T=> .inr (by
   rcases T with e | ⟨y,e⟩
   ·exact ae e f1
   ·exact(g y b e).1)
  have hO1:∀b,gC a b->mv H {s with heap:=h1,toks:=tk} b->mv H s b:=λb T w=>hO b T;refine dX (hs.fZ a (A.deeper a) l _ _ H _ hA o0 q) (λfl s2 z=>?_) λv s2 z=>RV hA (z.I S.e) hO λs3 z=>?_
  ·induction fl with| next=>exact bG z λρ' H' S2 w z=>⟨.f,H',(S.e.u S2).Cg hO,uM,z⟩| brk=>exact bG z λw w w w z=>z.elim| ret v=>exact bG z λy H' S2 rr z=>⟨y,H',(S.e.u S2).Cg hO,rr,z⟩| cont=>exact z.elim
  ·have z:=dY.as (A:=A) z rfl λl' hl'=>⟨[a],((ae hl' rfl):A.frames.map (a::·)=_)⟩;exact jj z λe d vs' H' e1 e2 e3 e4 e5=>o1 e5 λw e5=>nz e d vs' H' e1 e2 e3 e4 e5
end
section
open PySem PySem.W PyProof.Rows PySem.Calls PySem.SeqAt Builtin Builtin.ObjectAttr Builtin.Getset_descriptor
variable {B:aF} {Γ:aI} {k:Nat} {A:bW} {E:aj->aq->Prop} {s:aq}
section
variable {M:Model} {prog:k8} {w:l9} {A:bW} {E:aj->aq->Prop} {R:uz->aq->Prop} {h:aG} {g:Array GenState} {d:Drawn} {t:Nat} {os:OsState}
variable {nm q:Str} {C N:hF} {bs bm:List aj} {hdct:Bool} {sn:List Str} {sub:List aj} {ab:Bool} {col:Option Bool} {dd:Option hF} {k0 k1 k2 k3 k5:Option aj}
noncomputable abbrev uV:List Value:=[.type "Exception", .type "BaseException", .type "object"]
theorem RX{K:eK}(T:OwnTail h uV bm){rest:List aj}{fI:hF}{Q:aj->aq->Prop}
 (X:K.In h) (hi:mZ K (.ref C) "__init__"=aa (aa<|.ref fI)) (hf:Bp K (.ref fI)=aa (.type "function"))
 (c:h.get? C=aa (MD nm q C N bs bm hdct sn sub ab col dd k0 k1 k2 k3 k5 "Exception.__new__")) (f:rest.length<=sizeLine)
 (u:∀n,(∀b o,h.get? b=aa o->n.get? b=aa o)->n.get? (h.objs.size+1)=aa {cls:= .ref C,data:= .fields #[.ref h.objs.size, .none, .none, .none, .bool ai, .none]}->h.get? (h.objs.size+1)=ag->
  a0 (aL prog w) (A.under (.builtin "type.__call__" ⟨.ref C::rest,[]⟩)) (gW (.ref fI) (.ref (h.objs.size+1)::rest)) (λr p=>r= .none/\Q (.ref (h.objs.size+1)) p) E ⟨n,g,d,t,os⟩):
 a0 (aL prog w) A (gW (.ref C) rest) Q E ⟨h,g,d,t,os⟩:=by
 have j:=PySem.F.excBase_Exception;have D:=tc_lookup;have B:=tc_bind<|.ref C;have y:(⟨h,g,d,t,os⟩:aq).TypeIs (.ref C) "type":=(aM _ c rfl);refine Bl<|codeAny_of_tree ?_;skip;repeat (any_goals (first | assumption | with_reducible refine ME c ?_ | wp_step))
 refine⟨rfl,codeAny_call_builtin_at (acU _<|by decide+kernel) entry_typeCall<|wpAny_check_type_call_sub c ?_⟩;skip;repeat (first | with_reducible refine ME c ?_ | with_reducible refine wpAny_madeBy_exc c ?_ | wp_step)
 refine codeAny_call_builtin_code (acU _ j.quiet)<|wpAny_check_new_subU j j.hasB T c<|codeAny_exc_new_subU j j.hasB j T c ?_ f;skip;have k:∀b o,h.get? b=aa o->((h.push {cls:= .type "tuple",data:= .seq rest.toArray}).push {cls:= .ref C,data:= .fields #[.ref h.objs.size, .none, .none, .none, .bool ai, .none]}).get? b=aa o:=λb o e=>hJ _<|hJ _ e;have i:=k _ _ c
 have a:((h.push {cls:= .type "tuple",data:= .seq rest.toArray}).push
  {cls:= .ref C,data:= .fields #[.ref h.objs.size, .none, .none, .none, .bool ai, .none]}).get? (h.objs.size+1)=aa
  {cls:= .ref C,data:= .fields #[.ref h.objs.size, .none, .none, .none, .bool ai, .none]}:=by heap_get
 have m:(q7 C::bm).contains (.ref C)=true:=by simp
 have l:uv (aL prog w) _ (typeLookup (.ref C) "__init__") (aa<|.ref fI):=Bi (X.keeps k) hi;have hb1:uv (aL prog w) _ (bindSpecial (.ref fI)<|.ref<|h.objs.size+1) (.ref fI,[.ref<|h.objs.size+1]):=bind_fn (X.keeps k) _ hf;skip;repeat (first | with_reducible refine ME a ?_ | wp_step)
 refine wpAny_isSubtype_exc i<|ae m ?_;repeat (first | wp_step)
 skip;refine l.at<|jz<|aJ<|hb1.at<|aJ<|dX (u _ k a<|Heap.get?_none_of_le<|MC _) (λr p s=>?_) λz z x=>x;obtain⟨rfl,v⟩:=s
 wp_walk
 exact v
end
theorem Sb{K:eK}{x C:Nat}{t:Array aj}{c:Str}{F:k9}{v:aj}{b:Bool}{Q:Fin->aq->Prop}(X:K.In s.heap)(k:s.heap.get? x=aa {cls:= .ref C,dict:=ag,data:= .fields t,slots:=#[]})(I:(v7 K C).any (·.hasDict)=af)
 (h:∀f d,f.get? x=aa {cls:= .ref C,dict:=aa d,data:= .fields t,slots:=#[]}->s.heap.get? d=ag->f.Ns1 d (λy=>if y=c then aa v else ag)->(∀b o,b≠x->s.heap.get? b=aa o->f.get? b=aa o)->Q (.done (.ret .none)) {s with heap:=f,toks:=s.toks+1}):
 a0 (aL B.e B.w) A (L9 (.ref x) (.ref C) (.str c F) c v b) Q E s:=by
 refine au (v8 I) λO J n=>aJ<|cK<|aJ<|aJ<|E3 k<|aJ<|(L6 X J).here<|ae n<|aJ<|wpAny_alloc ?_;have j:=sR k;have g:(s.heap.push {cls:= .type "dict",data:= .dict #[]}).get? x=aa {cls:= .ref C,dict:=ag,data:= .fields t,slots:=#[]}:=hJ _ k;refine aJ<|Mk g<|cK (a:=aa s.heap.objs.size) ?_;have D:=wj (λo:dw=>{o with dict:=aa s.heap.objs.size}) g rfl;have z:((s.heap.push {cls:= .type "dict",data:= .dict #[]}).update x λo=>{o with dict:=aa s.heap.objs.size}).get? s.heap.objs.size=aa emptyDict:=by refine ae (acW _ _<|sW j) ?_;exact jO _ rfl
 have u:∀b o,b≠x->s.heap.get? b=aa o->((s.heap.push {cls:= .type "dict",data:= .dict #[]}).update x λo=>{o with dict:=aa s.heap.objs.size}).get? b=aa o:=λb o r e=>by refine ae (acW _ _<|q8 r) ?_;exact hJ _ e
 generalize ((s.heap.push {cls:= .type "dict",data:= .dict #[]}).update x λo=>{o with dict:=aa s.heap.objs.size})=h1 at D z u⊢;skip;skip;have H:=GF z;refine aJ<|cK<|aJ<|wpAny_nsSet1 (s:={s with heap:=h1}) H λf i w=>?_
 refine fW (i.count (ns:=[c]) (λy G=>by
  by_cases q:y=c
  ·exact ae q cu
  ·exact absurd (if_neg q) G)) λN L M l m p=>?_
 refine aJ<|ab4 l (ae m<|ab3<|aH p<|by refine ae L8 ?_;skip;(simp;done)) ?_;refine cK<|h f s.heap.objs.size ?_ (nP _) i λb o r e=>?_
 ·exact(w.2 x<|sW j).trans D
 ·exact(w.2 b λq=>by rw [q,nP] at e;exact a9 e).trans<|u b o r e
noncomputable def CW(l:List aj):Bool:=gq (motive:=λz=>Bool) ai (λv r ih=>v.ctorIdx==10&&ih||(v== .type "Exception"&&r==[.type "BaseException", .type "object"])) l
theorem R9(a:aj)(e:CW l=af):refuseLoop a "__setattr__" l=eY ():=by
 revert e;induction l with
 | nil=>exactλe=>bw e
 | cons x r ih=>
  intro e;rcases wd.mp (show(x.ctorIdx==10&&CW r||(x== .type "Exception"&&r==[.type "BaseException", .type "object"]))=af from e) with e | e
  ·exact ay (bh e) λd b=>Value.ref.elim (motive:=λx=>refuseLoop a "__setattr__" (x::r)=eY ()) x (beq_iff_eq.mp d) λc=>by rw [refuseLoop_ref];exact ih b
  ·exact ay (bh e) λd b=>ae (beq_iff_eq.mp d)<|ae (beq_iff_eq.mp b)<|PySem.F.store_Exception.passes a
noncomputable def rQ(K:eK)(C:hF)(nm:Str):Bool:=mroIn K C (.type "object")==aa af&&(v7 K C).any (λa=>CW a.mro)&&takerIn K C nm==aa ag&&(v7 K C).any (·.hasDict)&&mZ K (.ref C) "__setattr__"==aa (aa<|.builtin "object.__setattr__")
theorem Hv{K:eK}{x C:Nat}{n:dw}{od:Option dw}{c:Str}{i:k9}{v:aj}{R:uz->aq->Prop}(X:K.In s.heap)(I:yJ s.heap x n C od)(k:rQ K C c=af)
 (h:∀b,a0 (aL B.e B.w) A.in1 (L9 (.ref x) (.ref C) (.str c i) c v b) (λf j=>f= .done (.ret .none)/\R (.ok<|.ret .none) j) (λe j=>R (.error e) j) s):
 sS (aL B.e B.w) A (.call (.builtin "object.__setattr__") ⟨[.ref x, .str c i,v],[]⟩) R s:=by
 unfold rQ at k;simp only [eJ,beq_iff_eq] at k;refine ay k λm k5=>?_;obtain⟨⟨⟨k1,k2⟩,k3⟩,w⟩:=m;refine au (v8 k2) λt p ho=>?_;have g:=PySem.F.store_object;have sub:uv (aL B.e B.w) s.heap (isInstance (.ref x)<|.type "object") true:=I.type.andThen<|looks_mroIn X k1;refine au (rA.mp k3) λd r l=>?_;have o:uv (aL B.e B.w) s.heap (mroOf<|.ref C) t.mro:=(L6 X p).andThen .now
 have u:uv (aL B.e B.w) s.heap (storeTaker? d) none:=by
  induction d with
  | none=>exact .now
  | some a=>
   refine au (oG.mp l) λb q l=>?_;induction b with
   | true=>exact hU l| false=>exact(looks_takesIn X q).andThen .now
 refine abJ g.slot.plain g.entry<|@check_slot (aL B.e B.w) _ _ s "object.__setattr__" "object" "__setattr__" (.ref x) [.str c i,v] [] _ g.kind g.split sub (g.args (.ref x) (.str c i) v) ?_;rw [osa_eq,refuse_eq];refine aJ<|aJ<|I.type.here<|aJ<|o.here<|ae (R9 _ ho)<|cK<|aJ<|I.type.here<|aJ<|(Bi X r).here<|aJ<|u.here<|dX (h _) (λf j z=>?_) λy y z=>z;obtain⟨rfl,z⟩:=z;exact z
inductive uW(B:aF)(s₀:aq)(L e t:Nat)(m md:Str->Option aj)(s:aq):Prop
 | mk (keep:∀b o,s₀.heap.get? b=aa o->s.heap.get? b=aa o)
  (gens:s.gens=s₀.gens)
  (os:s.os=s₀.os)
  (ns:s.heap.Ns L m)
  (nL:s₀.heap.get? L=ag)
  (ne:s₀.heap.get? e=ag)
  (ob:((∀y,md y=ag)/\s.heap.get? e=aa {cls:= .ref B.I.I,dict:=ag,data:= .fields (rK t),slots:=#[]})\/
  ∃d,s.heap.get? e=aa {cls:= .ref B.I.I,dict:=aa d,data:= .fields (rK t),slots:=#[]}/\s.heap.Ns1 d md/\s₀.heap.get? d=ag/\d≠L)
theorem R4{k:List Str}{Q:Unit->aq->Prop}(b:B.a)(C:B.u.StaysIn a.heap)(x:uW B a L e t m F s)(G:rQ B.K B.I.I nm=af)(W:Br F k)(V:k.length<=1000)
 (h:∀O,uW B a L e t m (λy=>if y=nm then aa v else F y) O->Q () O):a0 (aL B.e B.w) A (setAttr (.ref e) nm v) Q E s:=by
 have X:B.K.In s.heap:=b.1.keeps λb o e=>x.1 b o<|C b o e;have j:=G;unfold rQ at j;simp only [eJ,beq_iff_eq] at j;refine ay j λU k5=>?_;obtain⟨_,P⟩:=U;refine fW (id x.4) λD r u c f n=>?_;have J:e≠L:=λq=>x.7.elim (λz=>nA z.2 rfl c f hV q) λz=>au z λd z w=>nA z rfl c f hV q;rcases x.7 with ⟨h0,g⟩ | ⟨d,g,hd,R,i⟩
 ·refine L7 X (od:=ag) ⟨g,rfl,rfl,trivial⟩ k5 (Hv (s:={s with toks:=s.toks+1}) X (od:=ag) ⟨g,rfl,rfl,trivial⟩ G λbb=>Sb (s:={s with toks:=s.toks+1}) X g P λN d e1 T e3 S=>⟨rfl,h _ ?_⟩);have l:∀b o,a.heap.get? b=aa o->N.get? b=aa o:=λb o q=>S b o (λz=>a9<|x.6.symm.trans<|z▸q)<|x.1 b o q;refine⟨l,x.2,x.3,(mj D r u (S L D (q8 J) c) f n),x.5,x.6, .inr<|iQ d e1 ?_ ?_ λq=>?_⟩
  ·have:(λy=>if y=nm then aa v else F y)=λy=>if y=nm then aa v else none:=funext λy=>by exact ae (h0 y) rfl
   exact ae this e3
  ·exact mq λo q=>a9<|(show s.heap.get? d=ag from T).symm.trans<|x.1 d o q
  ·exact a9<|(show s.heap.get? d=ag from T).symm.trans<|q▸c
 ·refine fW (id hd) λod Z epd p M w=>?_;have K:d≠e:=λq=>oK g rfl p M hV q;have I:yJ s.heap e _ B.I.I (aa od):=⟨g,rfl,rfl,p⟩;refine L7 X I k5<|Hv (s:={s with toks:=s.toks+1}) X I G λbb=>GH (s:={s with toks:=s.toks+1}) X g rfl P rfl hd W V λN H Y=>⟨rfl,h _ ?_⟩;have l:∀b o,b≠d->s.heap.get? b=aa o->N.get? b=aa o:=λb o q z=>(Y.2 b q).trans z;exact⟨λb o q=>l b o (λz=>a9<|R.symm.trans<|z▸q)<|x.1 b o q,x.2,x.3,(mj D r u (l L D (q8 i) c) f n),x.5,x.6, .inr<|iQ d (l e _ (q8 K) g) H R i⟩
noncomputable def Ht(nm:Str)(st:gh):Prop:=∃d c b a,st= .Assign [.Attribute (.Name "self" d) nm c] (.Name nm b) a
noncomputable def R3(nm:Str)(st:gh):OP (Ht nm st):=
 BW st (λts v c=>iR ts (λt=>uF t (λo n e=>iE o (λa f=>iE v (λb d=>iD a "self" (iD n nm (iD b nm (.J ⟨f,e,d,c,rfl⟩) λz=> .u) λz=> .u) λz=> .u) λz=> .u) λz=> .u) λz=> .u) λz=> .u) λz=> .u
theorem R7{st:gh}{Q:Flow->aq->Prop}(b:B.a)(d:B.u.StaysIn a.heap)(i:Ht nm st)(x:uW B a env.locals e t m g s)(r:rQ B.K B.I.I nm=af)(w:Br g c)(u:c.length<=1000)
 (l:env.scope.kind= .function) (D:env.kindOf "self"=aa .local) (C:env.kindOf nm=aa .local) (h3:m "self"=aa (.ref e)) (z:m nm=aa v) (hd:iT nm=af)
 (h:∀f,uW B a env.locals e t m (λy=>if y=nm then aa v else g y) f->Q .next f):a0 (aL B.e B.w) A (exec st env) Q E s:=by
 obtain⟨k,j,q,p,rfl⟩:=i;refine Md (LL (ET l C x.4 z (?_:a0 _ _ (Bt (.Attribute (.Name "self" k) nm j) env v) _ _ _))<|rM hd) (Cy (env:=env) (n:=p.line) (t:=aa<|.Attribute (.Name "self" k) nm j) (value:= .Name nm q) rfl) rfl;rw [acd];exact aJ<|jz<|LL (ET l D x.4 h3<|aJ<|pU<|aJ<|jz<|R4 b d x r w u λf o=>Mg<|h f o) (by decide)
noncomputable def CX(b:List Str):List gh->Bool:=gq (motive:=λz=>List gh->Bool) (λa=>a.isEmpty) (λn z ih a=>yT a ai λst a=>(R3 n st).e&&ih a) b
theorem R6(b:B.a)(g:B.u.StaysIn s₀.heap)(J:env.scope.kind= .function)(K:env.kindOf "self"=aa .local)(h3:m "self"=aa (.ref e))(G:lay.length<=1000):
 ∀{c:List Str} {a:List gh} {md:Str->Option aj} {s:aq} {Q:Flow->aq->Prop},CX c a=af->uW B s₀ env.locals e t m md s->Br md lay->(∀nm∈c,nm∈lay/\rQ B.K B.I.I nm=af/\env.kindOf nm=aa .local/\(∃v,m nm=aa v)/\iT nm=af)->
  (∀k,uW B s₀ env.locals e t m (λy=>if y∈c then m y else md y) k->Q .next k)->a0 (aL B.e B.w) A (execs a env) Q E s:=by
 intro c;induction c with
 | nil=>
  intro a md s Q i x _ _ h;induction a with
  | nil=>exact wk<|h s (by simpa using x)| cons _ _=>exact bw i
 | cons nm c ih=>
  intro a md s Q i x p r h;induction a with
  | nil=>exact bw i
  | cons st a=>
   refine ay (bh i) λM L=>BN (r nm cu) λF D C u z=>?_;obtain⟨v,o⟩:=u;refine Mc<|R7 b g (OP.eM M) x D p G J K C h3 o z λk w=>ih L w (λy H=>?_) (λn I=>r n<|df _ I) λj d=>h j ?_
   ·by_cases q:y=nm
    ·exact ae q F
    ·exact p y (by have l:(if y=nm then aa v else md y)≠none:=H;rwa [if_neg q] at l)
   ·have:(λy=>if y∈c then m y else if y=nm then aa v else md y)=λy=>if y∈nm::c then m y else md y:=funext λy=>by
     by_cases q:y∈c
     ·exact ae (if_pos q)<|ae (if_pos<|df _ q) rfl
     ·refine ae (if_neg q) ?_;by_cases f:y=nm
      ·exact ae (if_pos f)<|ae (if_pos<|ae f cu)<|ae f<|ae o rfl
      ·exact ae (if_neg f)<|ae (if_neg<|by simp [q,f]) rfl
    replace d:=this▸d;exact d
theorem R8{l:List (Str×d)}{n:Str}{c:d}(b:(l.map (·.1)).Nodup)(a:(n,c)∈l):l.lookup n=aa c:=by
 induction l with
 | nil=>exact absurd a dz
 | cons y l ih=>
  have b:=la.mp b;refine(dH.mp a).elim (λe=>?_) λa=>?_
  ·exact ae e.symm List.lookup_cons_self
  ·exact ae gV<|ae (show(n==y.1)=ai from beq_false_of_ne λq=>b.1<|gi.mpr<|aM (n,c) a q)<|ih b.2 a
theorem Hu{l:List (Str×a)}{n:Str}{c:a}(b:(l.map (·.1)).Nodup)(d:(n,c)∈l):l.reverse.lookup n=aa c:=
 R8 (ae List.map_reverse<|(List.reverse_perm _).nodup_iff.mpr b) (List.mem_reverse.mpr d)
inductive kN(B:aF)(fI:Nat):Prop
 | mk (cls:∃nm q N bs bm hdct sn sub ab col dd k0 k1 k2 k3 k5,B.K.lookup B.I.I=aa (MD nm q B.I.I N bs bm hdct sn sub ab col dd k0 k1 k2 k3 k5 "Exception.__new__")/\∀{h},B.K.In h->OwnTail h uV bm)
  (init:mZ B.K (.ref B.I.I) "__init__"=aa (aa (.ref fI)))
  (isFn:Bp B.K (.ref fI)=aa (.type "function"))
  (keep:we B.K (.ref B.I.I)=af)
  (lay:(B.I.e 0).length=4/\(("self":Str)::B.I.e 0).Nodup)
  (sets:∀nm∈B.I.e 0,rQ B.K B.I.I nm=af/\iT nm=af)
  (fn:∃o fd body,B.K.lookup fI=aa o/\o.data= .func fd/\codeIn B.K fd.code fd.qualname=af/\fd.body= .stmts body/\fd.closure=[]/\fd.scope.isCoroutine=ai/\fd.scope.isGenerator=ai/\fd.scope.kind= .function/\
  (∀x∈fd.scope.names,x.2≠ .cell)/\(∀nm∈("self":Str)::B.I.e 0,fd.scope.names.lookup nm=aa .local)/\CX (B.I.e 0) body=af/\
  ∀(s:aq) (us:List aj),B.K.In s.heap->us.length=5->BindsTo s fd ⟨us,[]⟩ ((("self":Str)::B.I.e 0).zip us))
theorem RY(Y:kN B fI)(X:B.K.In s.heap)(a:rest.length<=sizeLine)
 (e:∀c,(∀b o,s.heap.get? b=aa o->c.get? b=aa o)->c.get? (s.heap.objs.size+1)=aa {cls:= .ref B.I.I,dict:=ag,data:= .fields (rK s.heap.objs.size),slots:=#[]}->s.heap.get? (s.heap.objs.size+1)=ag->
  a0 (aL B.e B.w) (A.under (.builtin "type.__call__" ⟨.ref B.I.I::rest,[]⟩)) (gW (.ref fI) (.ref (s.heap.objs.size+1)::rest)) (λr d=>r= .none/\Q (.ref (s.heap.objs.size+1)) d) E {s with heap:=c}):
 a0 (aL B.e B.w) A (gW (.ref B.I.I) rest) Q E s:=by
 obtain⟨j,g,k,h,os⟩:=s;obtain⟨nm,i,N,bs,bm,hdct,sn,sub,ab,col,dd,k0,k1,k2,k3,k5,f,T⟩:=Y.1;exact RX (T X) X Y.2 Y.3 (X _ _ f) a e
noncomputable def Hs(B:aF)(e:Nat)(a:List aj):List (Str×aj):=(("self":Str)::B.I.e 0).zip<|.ref e::a
noncomputable def CU(B:aF)(e:Nat)(a:List aj)(x:Str):Option Value:=(Hs B e a).reverse.lookup x
theorem CT(Y:kN B fI)(b:a.length=4):(Hs B e a).map (·.1)=("self":Str)::B.I.e 0:=CS<|congrArg (·+1)<|Y.5.1.trans b.symm
theorem CV{fI e j:Nat}{a:List aj}{n:Str}{u:aj}(Y:kN B fI)(b:a.length=4)(d:(B.I.e 0)[j]?=aa n)(c:a[j]?=aa u):CU B e a n=aa u:=
 Hu (ae (CT Y b) Y.5.2) (df _<|Hr d c)
theorem R5{s₀:aq}{fI e t:Nat}{p:List aj}{Q:aj->aq->Prop}(Y:kN B fI)(b:B.a)(f:B.u.StaysIn s₀.heap)(D:∀b o,s₀.heap.get? b=aa o->s.heap.get? b=aa o)(S:s.gens=s₀.gens)(ho:s.os=s₀.os)
 (T:s.heap.get? e=aa {cls:= .ref B.I.I,dict:=ag,data:= .fields<|rK t,slots:=#[]}) (K:s₀.heap.get? e=ag) (g:p.length=4) (V:A.depth<1000)
 (h:∀q d,(∀b o,s₀.heap.get? b=aa o->q.heap.get? b=aa o)->q.gens=s₀.gens->q.os=s₀.os->q.heap.get? e=aa {cls:= .ref B.I.I,dict:=aa d,data:= .fields (rK t),slots:=#[]}->
  q.heap.Ns1 d (λy=>if y∈B.I.e 0 then CU B e p y else ag)->s₀.heap.get? d=ag->Q .none q):a0 (aL B.e B.w) A (gW (.ref fI) (.ref e::p)) Q E s:=by
 obtain⟨of,fd,body,U,C,M,k,N,L,w,v,i,c,J,l⟩:=Y.7;have X:B.K.In s.heap:=b.1.keeps λa o z=>D a o<|f a o z;refine Bl<|codeAny_call_def (fd:=fd) (body:=body) V (X _ _ U) C ((b.5.keeps f).keeps D) (codeRec_of X M) k (l s _ X<|congrArg (·+1) g) i (λy F=>c _<|CT (e:=e) Y g▸oI F) (λh2 G r=>?_) L w v
 refine R6 (env:=callEnv fd s.heap.objs.size fI) (s₀:=s₀) (m:=CU B e p) (md:=λx=>ag) (lay:=B.I.e 0) b f v (c _ cu) (Hu (ae (CT Y g) Y.5.2) cu) (ae Y.5.1<|by decide) J
  ⟨λa o z=>r a o<|D a o z,S,ho,G,mq λo z=>a9<|(nP _).symm.trans<|D _ _ z,K, .inl ⟨λx=>rfl,r _ _ T⟩⟩ (λy F=>absurd rfl F) (λn u=>?_) λO I=>?_
 ·refine o1 (List.mem_iff_getElem?.mp u) λj hj=>?_;have H:j<p.length:=g.trans Y.5.1.symm▸(oH.mp hj).1;exact⟨u,(Y.6 n u).1,c n<|df _ u,⟨_,CV Y g hj<|iB H⟩,(Y.6 n u).2⟩
 ·refine I.7.elim (λz=>?_) λz=>ji z λd e1 Z W x=>h O d I.1 I.2 I.3 e1 Z W;have R:0<(B.I.e 0).length:=ae Y.5.1 (by decide);have P:0<p.length:=ae g (by decide);have:=z.1 (B.I.e 0)[0];rw [if_pos<|wx _,CV Y g (iB R)<|iB P] at this;exact hU this
theorem Sa{xs:XL}{F:List az}{fI:Nat}{p t:Pos}(h:fk B Γ k xs F)(hl:F.length=4)(Y:kN B fI)(U:Γ.a.lookup x=aa .globalImplicit)(hd:iT x=af)(W:m8 B.K jN x=aa (aa<|.ref B.I.I)):
 SE B Γ k (.s xs) (.Call (.Name x p) F [] t):=λG A ρ E Q H s o q=>by
 have g:G.kindOf x=aa .globalImplicit:=by unfold m9;exact ae o.3.2 U
 refine EZ<|yK o.3.3 g (Bj (ae o.3.4<|o.1.2.keeps o.2.1) (mg_of o.1.1 o.1.2 W)<|zB h (zC o.1 Y.4) o q (λm I H' s' S e r v q=>?_) λy y z=>z)<|rM hd;have f:I.length=4:=v.trans hl;have u:m.length=4:=r.dN.symm.trans f;refine RY Y (oR e.1 e.2) (by rw [acV,f,L8];exact cP (.I (.n 4)<|.n 16777216) rfl [] []) λh1 T X l=>R5 (s₀:=s') Y e.1 e.2.1 T rfl rfl X l f (by have:=e.4.2;skip;exact aD (.e (.a (.v 0)<|.n 1)<|.n 1000) (.I (.a (.v 0)<|.m 3<|.v 1)<|.a (.n 900)<|.n 0) rfl [] [_,_] this) λP d k3 g3 R L K J=>⟨rfl,?_⟩;have D:s'.heap.objs.size+1≠d:=λq=>fW K λod y y g1 g2 y=>nA L rfl g1 g2 hV q
 refine ay (aV.J (B:=B) (O:=λy=>False) (s':=P) (a:=s'.heap.objs.size+1) (c:= .f af d m) e.2 k3 (.inl rfl) (λb Z=>Z.elim (λz=>z▸l) λz=>(show b=d from z)▸J)
  ⟨iQ _ L rfl rfl (λy=>⟨_,rfl⟩),(bB _).trans (u.trans Y.5.1.symm),_,K,λj n hj=>?_,λn V=>if_neg V⟩ g3 R) λa1 a2=>?_
 ·have C:j<I.length:=f.trans Y.5.1.symm▸(oH.mp hj).1;have i:j<m.length:=r.dN▸C;refine ae jf<|ae (iB i)<|au (r.eM<|iB i) λw N M=>?_;exact⟨w,(if_pos<|wh hj).trans<|CV Y f hj N,M.U<|.J k3⟩
 ·exact b7 _ _ (S.u a2) kJ<|q _ d a1 (mq λc q=>o1 (e.2.U q) λob q=>a9<|J.symm.trans q) D
end
section
open PySem PySem.W PyProof.Rows PySem.Calls PySem.SeqAt
variable {B:aF} {Γ:aI} {k:Nat} {A:bW} {E:aj->aq->Prop} {s:aq}
theorem Sd{k:Type}{a c:Nat}{d oc:dw}{n m:Array aj}{Q:k->aq->Prop}(p:A.handled=aa (.ref c))(q:s.heap.get? c=aa oc)(e:oc.data= .fields m)(f:m[2]?=aa .none)(i:s.heap.get? a=aa d)(b:d.data= .fields n)(o:2<n.size)(g:c≠a)
 (h:∀j l,rm a s.heap j->j.get? a=aa l->l.cls=d.cls->E (.ref a) {s with heap:=j}):a0 (aL B.e B.w) A (raiseNew (.ref a):Sem k) Q E s:=by
 unfold raiseNew;refine aJ<|wpAny_handled<|ae p ?_;dsimp only;refine ae (if_pos<|by simpa using g)<|aJ<|jz<|acm<|acn GY ?_;unfold Builtin.«proto.unchain»;skip;refine aJ<|rj q e f<|ae (if_pos<|by rfl)<|cK ?_;skip;skip;refine aJ<|aJ<|Mj i<|ae b ?_;dsimp only;refine ae (if_pos o)<|Mk i<|E7 ?_;obtain⟨v,u,t,r⟩:=d;skip;subst b;exact h _ _ (yR ..).extBut (wj _ i rfl) rfl
theorem Sf{f t i c:Nat}{d:Array aj}{oc:dw}{G:Array aj}{Q:Option aj->aq->Prop}(J:A.handled=aa (.ref c))(D:s.heap.get? c=aa oc)(v:oc.data= .fields G)(w:G[2]?=aa .none)(h:c≠f)
 (g:s.heap.IsTupleIter f t i) (I:s.heap.IsTuple t d) (l:d[i]?=ag)
 (L:∀z,rm f s.heap z->Q ag {s with heap:=z}):a0 (aL B.e B.w) A (Bx<|.ref f) Q E s:=by
 obtain⟨o,ho,K,hd⟩:=id g;obtain⟨N,n,_,P,r⟩:=I;unfold Bx
 refine aJ (wpAny_attempt (acf (name:=q6 "__next__") g.typeIs acX
  (acg acX g.typeIs PySem.F.entry_tuple_iterator_next ?_ (PySem.F.args_tuple_iterator_next_1 _))))
 show a0 _ _ (field (.ref f) 0>>=_) _ _ s;refine aJ<|rj ho hd (x:= .ref t) rfl ?_;show a0 _ _ (if(q7 t==yP)=af then _ else _) _ _ s;refine ae (if_neg (show¬((q7 t==yP)=af) from gp)) ?_;show a0 _ _ (field (.ref f) 1>>=_) _ _ s;refine aJ<|rj ho hd (x:= .int i 0) rfl ?_;show a0 _ _ (seqItems? (.ref t)>>=_) _ _ s;refine aJ<|wpAny_seqItems n r ?_;simp only [A9,l];refine aJ<|wpAny_rule<|aJ<|E4 ho hd (by simp) ?_;show a0 _ _ (newExc (.type "StopIteration") []>>=_) _ _ _;refine aJ ?_;simp only [newExc,newTuple];refine aJ<|yN (aJ (m:=firstArgMember _ _)<|wpAny_of_eq (a:=yP) (by first | rfl | (simp only [firstArgMember];rfl))<|yN ?_<|by size_fits) (by size_fits);generalize M:s.heap.update f (rk λx=>x.setIfInBounds 0 yP)=H;have j:rm f s.heap H:=M▸(yR ..).extBut;dsimp only;have y:c≠(H.push {cls:= .type "tuple",data:= .seq ([]:List aj).toArray}).objs.size:=λq=>by have C:=sR<|hJ {cls:= .type "tuple",data:= .seq ([]:List aj).toArray} (j c oc h D);exact absurd q<|sW C
 refine Sd (oc:=oc) J (hJ _<|hJ _<|j c oc h D) v w (jO _ rfl) rfl (ae rx<|iO (show 2<6 by decide)<|fz 6 _) y λz O l p u=>?_;refine aJ<|wpAny_isInstance (T:="StopIteration") (b:=af) (aM _ p u) isSubtype_stop<|cK<|L _ λb k F e=>l b k (λq=>?_)<|hJ _<|hJ _<|j b k F e;have C:=sR<|hJ {cls:= .type "tuple",data:= .seq ([]:List aj).toArray} (j b k F e);exact absurd q<|sW C
theorem Sg(G:A.handled=aa (.ref c))(x:s.heap.get? c=aa w)(u:w.data= .fields D)(v:D[2]?=aa .none)(n:s.heap.IsTuple t a)
 (F:d.length=a.size) (j:d.findIdx? (·.1)=ag)
 (h:∀C,rm s.heap.objs.size s.heap C->a0 (aL B.e B.w) A (Mh (d.map (·.2)) a.toList) Q E {s with heap:=C}):
 a0 (aL B.e B.w) A (unpack (.ref t) d) Q E s:=by
 unfold unpack;refine ae F<|ae j<|aJ<|jz ?_;have p:t≠s.heap.objs.size:=by exact au n λo ho z=>sW<|sR ho
 have q:c≠s.heap.objs.size:=sW<|sR x;unfold unpackItems;refine aJ ?_;unfold notIterableAtAll;refine aJ<|wpAny_specialOf n.typeIs PySem.F.slot_tuple_iter.lookup<|cK ?_;simp only [yS,if_false];refine aJ<|jz<|acz n<|aJ<|jz<|wpAny_draw_tuple p a.size 0 _ _ (bT _ (jO _ rfl) rfl rfl) (n.push _) (by(simp;done)) λm g f=>?_;have r:LG a.size (List.drop 0 a.toList)=a.toList:=by exact ae List.drop_zero<|acO (by simp)
 refine ae r<|ae (if_neg<|by simp) ?_;have i:m.IsTuple t a:=(n.push _).extBut f.extBut p;refine aJ<|jz<|Sf G (f.extBut c _ q<|hJ _ x) u v q g i (by simp) λl k=>?_;simp only [Option.isSome_none,yS,if_false];exact cK<|h l λb o y e=>k b o y<|f.extBut b o y<|hJ _ e
theorem Se(M:mA Γ.b J D)(hf:∀x i,(x,i)∈Γ.b->Γ.a.lookup x≠aa .free):ST B Γ k (.U J) (.Tuple D i p):=λenv A l ρ W K H s y v Z o r q=>by
 refine bR q λm g t O=>?_;clear q;obtain rfl:=g;refine bG (Gr r) λa N g L u=>?_;obtain rfl:=g;refine gI (Ph (env:=env) M) λI G F=>?_;rw [arm_assign_Tuple];refine aJ<|pU ?_;have h:∀j,rm s.heap.objs.size s.heap j->a0 (aL B.e B.w) A (Mh ((yQ D env).map (·.2)) N.toArray.toList) (λw n=>∃f E,aV B (gC env) H s E n/\bM B Γ env A k f E n/\K f E) (f6 B Γ env A k W H s) {s with heap:=j}:=λj R=>by have S:cS B H s H {s with heap:=j}:= .iS o.2 (λb P e=>R b P (λz=>by subst z;rw [nP] at e;exact a9 e) e) rfl rfl;exact Pg M hf t (o.u S) (u.U S.4) λn X Q=>(b7 _ H (S.e.u X) Q O)
 rcases o.4.4 with C | ⟨c,d,Y,C,T⟩
 ·exact wpAny_unpack_tuple C L (ae I<|ae F<|ae hG<|ae u.dN<|ae t rfl) G h
 ·refine ay (o.2.4 c _ T) λg w=>?_;obtain⟨fs,V,_,U,_⟩:=g;exact Sg C V rfl U L (ae I<|ae F<|ae hG<|ae u.dN<|ae t rfl) G h
end
section
open PySem PySem.W PyProof.Rows PySem.Calls PySem.SeqAt
@[elab_as_elim] noncomputable def CZ{motive:V->Type}(e:V)(f:∀i,motive<|.x i)(d:∀e,motive e):motive e:=V.casesOn (motive_1:=motive) e (d _) (λz=>d _) f (λz=>d _) (λz=>d _) λz=>d _
@[elab_as_elim] noncomputable def HG{motive:V->Type}(e:V)(f:∀i,motive<|.z i)(d:∀e,motive e):motive e:=V.casesOn (motive_1:=motive) e (d _) (λz=>d _) (λz=>d _) f (λz=>d _) λz=>d _
@[elab_as_elim] noncomputable def tE{motive:X->Type}(e:X)(f:∀i,motive<|.e i)(d:∀e,motive e):motive e:=X.casesOn (motive_1:=motive) e (d _) f (λz=>d _) (λz z z=>d _) (λz z=>d _) (λz z z z=>d _) (λz z z z=>d _) (λz=>d _) (λz=>d _) (λz z=>d _) (λz z z=>d _) (λz z z=>d _) (λz=>d _) (λz z=>d _) (λz z=>d _) (λz z z=>d _) (λz z=>d _) (λz z z z=>d _) (λz=>d _) (λz z z z=>d _) (λz z=>d _) (λz z z=>d _) λz z z z z=>d _
@[elab_as_elim] noncomputable def Sl{motive:X->Type}(e:X)(f:∀i,motive<|.ax i)(d:∀e,motive e):motive e:=X.casesOn (motive_1:=motive) e (d _) (λz=>d _) (λz=>d _) (λz z z=>d _) (λz z=>d _) (λz z z z=>d _) (λz z z z=>d _) (λz=>d _) (λz=>d _) (λz z=>d _) (λz z z=>d _) (λz z z=>d _) f (λz z=>d _) (λz z=>d _) (λz z z=>d _) (λz z=>d _) (λz z z z=>d _) (λz=>d _) (λz z z z=>d _) (λz z=>d _) (λz z z=>d _) λz z z z z=>d _
@[elab_as_elim] noncomputable def HH{motive:XL->Type}(e:XL)(f:∀x r,motive<|.u x r)(d:∀e,motive e):motive e:=XL.casesOn (motive_2:=motive) e (d _) f
@[elab_as_elim] noncomputable def Sm{motive:XL->Type}(e:XL)(f:motive .I)(d:∀e,motive e):motive e:=XL.casesOn (motive_2:=motive) e f λz z=>d _
@[elab_as_elim] noncomputable def C0{motive:V->Type}(e:V)(f:motive .f)(d:∀e,motive e):motive e:=V.casesOn (motive_1:=motive) e f (λz=>d _) (λz=>d _) (λz=>d _) (λz=>d _) λz=>d _
section
variable {B:aF} {k:Nat}
noncomputable def CY(v:V):Option Const:=V.casesOn (motive_1:=λz=>Option Const) v (aa .none) (λb=>aa<|.bool b) (λi=>aa<|.int i) (λs=>aa<|.str s) (λz=>ag) λz=>ag
theorem Sr(h:(CY v==aa c)=af):SE B Γ k (.e v) (.Constant c i p):=
 V.casesOn (motive_1:=λv=>CY v=aa c->SE B Γ k (.e v) (.Constant c i p)) v (λh=>bP h▸N9) (λb h=>bP h▸N7) (λi h=>bP h▸N8) (λs h=>bP h▸Oa) (λz h=>a9 h) (λz h=>a9 h) (beq_iff_eq.mp h)
noncomputable def gN(K:eK)(Γ:aI)(x:Str)(a:Nat):Bool:=Γ.a.lookup x==aa .globalImplicit&&(iT x&&m8 K jN x==aa (aa<|.ref a))
theorem xf{K:eK}{Γ:aI}{x:Str}{a:Nat}(h:gN K Γ x a=af):Γ.a.lookup x=aa .globalImplicit/\iT x=af/\m8 K jN x=aa (aa<|.ref a):=
 ay (bh h) λc b=>
 ay (bh b) λb h3=>
 ⟨beq_iff_eq.mp c,b,beq_iff_eq.mp h3⟩
noncomputable def HB(K:eK)(Γ:aI)(x:Str)(v:V):Bool:=Γ.a.lookup x==aa .globalImplicit&&(iT x&&((m8 K jN x).bind id).any λu=>(zm K 5 v u).e)
theorem Ss(h:HB B.K Γ x v=af):SE B Γ k (.e v) (.Name x p):=by refine ay (bh h) λb h=>ay (bh h) λa h=>?_;exact au (v8 h) λu e h=>au (rA.mp e) λw d c=>Ob (beq_iff_eq.mp b) a (d.trans<|congrArg aa c) h
noncomputable def Sk(Γ:aI)(v:V)(e f:az)(o:gH)(p:Pos):OP (SE B Γ k (.e v)<|.BinOp e o f p):=
 tc e (λc z z=>tc f (λd z z=>CZ v (λi=>iD c (.int 10) (iD d (.int 30) (iD o .Pow (iD i (10^30) (.J Rw) λz=> .u) λz=> .u) λz=> .u) λz=> .u) λz=> .u) λz=> .u) λz=> .u
noncomputable def Sh(Γ:aI)(v:V)(e:az):OP (SE B Γ k (.e v) e):=
 tc e (λc i p=>dq (CY v==aa c) Sr) λe=>iE e (λx p=>dq (HB B.K Γ x v) Ss) λe=>FK e (λe o f p=>Sk Γ v e f o p) λz=> .u
noncomputable def HC(Γ:aI)(x:Str)(i:Nat):Bool:=Γ.b.contains (x,i)&&(iT x&&!(x==("__classdict__":Str)))
theorem Su(h:HC Γ x i=af):SE B Γ k (.J i) (.Name x p):=
 ay (bh h) λb a=>
 ay (bh a) λa h3=>
 Oc (rB.mp b) a (by simpa using h3)
noncomputable def Hw(B:aF)(e:az)(C j:Nat)(nm:Str):Bool:=my e&&((B.I.e C)[j]?==aa nm&&zl B.K (if C=0 then B.I.I else C) nm)
theorem Sn(s:SE B Γ k o e)(h:Hw B e C j nm=af):SE B Γ k (.ao o C j) (.Attribute e nm p):=
 ay (bh h) λb a=>
 ay (bh a) λa h3=>
 Oh s b (beq_iff_eq.mp a) h3
noncomputable def HF(x:X)(a:Option az)(f:(e:az)->OP (SE B Γ k x e)):OP (xe B Γ k x a):=
 sN (motive:=λa=>OP<|xe B Γ k x a) a (tE x (λv=>C0 v (.J rfl) λz=> .u) λz=> .u) f
noncomputable def HD(B:aF)(Γ:aI)(e:az)(b:List az)(c a:Pos)(C f:Nat)(nm:Str):Bool:=my e&&(Nat.blt b.length 30&&(c.endLine==a.line&&(Cr B.K C f nm&&(!(B.I.e C).contains nm&&qj B Γ f))))
theorem Sv(s:SE B Γ k o e)(d:fk B Γ k xs c)(h:HD B Γ e c a b C f nm=af):SE B Γ k (.I o C f xs) (.Call (.Attribute e nm a) c [] b):=
 ay (bh h) λl h=>
 ay (bh h) λj h=>
 ay (bh h) λh3 h=>
 ay (bh h) λi h=>
 ay (bh h) λg h=>
 OR s d l (acY.mp j) (beq_iff_eq.mp h3) i (by simpa using g) h
noncomputable def Hz(B:aF)(Γ:aI)(x:Str)(f:Nat):Bool:=gN B.K Γ x f&&(we B.K (.ref f)&&qj B Γ f)
theorem Sq{x:Str}{xs:XL}{b:List az}{p a:Pos}(s:fk B Γ k xs b)(h:Hz B Γ x f=af):SE B Γ k (.aN f xs) (.Call (.Name x p) b [] a):=
 ay (bh h) λd h=>
 ay (bh h) λc h3=>
 gI (xf d) λi g e=>
 OQ s i g e c h3
noncomputable def HE(B:aF)(Γ:aI)(x:Str)(C f n:Nat):Bool:=gN B.K Γ x C&&(!(C==0)&&(n==(B.I.e C).length&&(Cs B.K C f&&qj B Γ f)))
theorem Sw{x:Str}{xs:XL}{b:List az}{p a:Pos}(s:fk B Γ k xs b)(h:HE B Γ x C f n=af):SE B Γ k (.aT C f n xs) (.Call (.Name x p) b [] a):=
 ay (bh h) λe h=>
 ay (bh h) λd h=>
 ay (bh h) λh3 h=>
 ay (bh h) λc h=>
 gI (xf e) λj i g=>
 OU s (by simpa using d) (beq_iff_eq.mp h3) j i g c h
noncomputable def HA(B:aF)(Γ:aI)(x:Str)(a:List az):Bool:=gN B.K Γ x B.I.I&&a.length==4
noncomputable def Hx(B:aF)(Γ:aI)(b:Nat)(x:Str):Bool:=x==bN b&&(qk B.K Γ (bN b) (bF b)&&(!Γ.hs||b !=6))
theorem So(s:fk B Γ k xs c)(h:Hx B Γ b x=af):SE B Γ k (.bi b xs) (.Call (.Name x p) c [] a):=by
 refine ay (bh h) λf h=>ay (bh h) λe h3=>?_;obtain rfl:=beq_iff_eq.mp f
 exact Rt s e λq=>by
  subst q;cases d:Γ.hs with
  | false=>rfl| true=>replace h3:=d▸h3;exact bw h3
noncomputable def Hy(m:Nat)(nm:Str)(e:az)(b:List az)(c a:Pos):Bool:=nm==mN m&&(my e&&(Nat.blt b.length 30&&c.endLine==a.line))
theorem Sp(hsys:∃o,B.u.get? iN=aa o)(s:SE B Γ k o e)(d:fk B Γ k xs c)(h:Hy m nm e c a b=af):SE B Γ k (.bm m o xs) (.Call (.Attribute e nm a) c [] b):=by refine ay (bh h) λi h=>ay (bh h) λg h=>ay (bh h) λh3 f=>?_;obtain rfl:=beq_iff_eq.mp i;exact Rn hsys s d g (acY.mp h3)<|beq_iff_eq.mp f
noncomputable def Sj(Γ:aI)(g:Nat)(x v:X)(c b a:Const)(u t s q:Nat)(o m l j p:Pos):OP (SE B Γ k (.w g x v)<|.Dict [aa<|.Constant c u o] [.Tuple [.Constant b t m, .Constant a s l] q j] p):=
 tE x (λf=>HG f (λi=>iD c (.str i) (Sl v (λxs=>HH xs (λy r=>tE y (λe=>CZ e (λn=>iD b (.int n) (HH r (λz r=>tE z (λd=>HG d (λh=>iD a (.str h) (Sm r (by with_reducible exact OP.J Rv) λw=> .u) λw=> .u) λw=> .u) λw=> .u) λw=> .u) λw=> .u) λw=> .u) λw=> .u) λw=> .u) λw=> .u) λw=> .u) λw=> .u) λw=> .u
noncomputable def Si(Γ:aI)(g:Nat)(x v:X)(e:az):OP (SE B Γ k (.w g x v) e):=
 FN e (λm d p=>iR m (λl=>wL l (λa=>iR d (λw=>BZ w (λt n f=>qc t (λb r=>iR r (λc=>
  tc a (λA s j=>tc b (λy q i=>tc c (λu o h=>Sj Γ g x v A y u s q o n j i h f p) λz=> .u) λz=> .u) λz=> .u) λz=> .u) λz=> .u) λz=> .u) λz=> .u) λz=> .u) λz=> .u) λz=> .u
end
@[elab_as_elim] noncomputable def Sy{motive:BL->Type}(e:BL)(f:motive .I)(d:∀e,motive e):motive e:=BL.casesOn (motive_4:=motive) e f λz z=>d _
section
variable {B:aF} {k:Nat}
noncomputable def zP(a:k6)(o:k6)(f:az):Bool:=o==a&&!LY a f
theorem Tb(hsys:∃o,B.u.get? iN=aa o)(s:SE B Γ k l e)(b:SE B Γ k r f)(h:zP a o f=af):SE B Γ k (.U l a r) (.Compare e [o] [f] p):=by refine ay (bh h) λd c=>?_;obtain rfl:=beq_iff_eq.mp d;exact OB hsys s b (by simpa using c)
theorem Sz(hsys:∃o,B.u.get? iN=aa o)(s:SE B Γ k l e)(b:SE B Γ k r f)(h:zP a o f=af):SB B Γ k (.ah<|.U l a r) (.Compare e [o] [f] p):=by refine ay (bh h) λd c=>?_;obtain rfl:=beq_iff_eq.mp d;exact OE hsys s b (by simpa using c)
theorem S0(s:SE B Γ k l e)(b:SE B Γ k r f)(h:(o==a)=af):SE B Γ k (.aS g a l r) (.BinOp e o f p):=by obtain rfl:=beq_iff_eq.mp h;exact Oq s b
theorem Ta(s:fk B Γ k xs b)(h:(o==w4 a)=af):SE B Γ k (.cU a xs) (.BoolOp o b p):=by obtain rfl:=beq_iff_eq.mp h;exact OJ s
theorem Tf(s:fk B Γ k xs a)(h:uq a.length 1000=af):SE B Γ k (.ax xs) (.Tuple a i p):=ON s<|vZ h
theorem Te(s:fk B Γ k xs a)(h:uq a.length 1000=af):SE B Γ k (.u g xs) (.List a p):=OM s<|vZ h
theorem Td(Y:kN B fI)(s:fk B Γ k xs b)(h:HA B Γ x b=af):SE B Γ k (.s xs) (.Call (.Name x p) b [] a):=
 ay (bh h) λd c=>
 gI (xf d) λg f e=>
 Sa s (beq_iff_eq.mp c) Y g f e
noncomputable def zQ(Γ:aI)(sc:oJ)(x:Str)(i:Nat)(a:az):Bool:=!Γ.hs&&(tD Γ sc.names x i&&(sc.kind== .function&&ql a))
theorem HI(h:zQ Γ sc x i a=af):Γ.hs=ai/\tD Γ sc.names x i=af/\sc.kind= .function/\ql a=true:=
 ay (bh h) λc h=>
 ay (bh h) λb h=>
 ay (bh h) λh3 h=>
 ⟨by simpa using c,b,beq_iff_eq.mp h3,h⟩
theorem Tc(hi:SE B Γ k e a)(n:SE B (Γ.e sc.names x i) k c j)(m:lB B (Γ.e sc.names x i) k b f)(h:zQ Γ sc x i a=af):
 SE B Γ k (.c g c i e b) (.ListComp j [⟨.Name x l,a,f,0⟩] sc d):=
 qa (HI h) λq p h3 o=>
 RN q p h3 hi n m o
variable (hsys:∃o,B.u.get? iN=aa o) {fI:Nat} (Y:kN B fI)
noncomputable def OW(B:aF)(k:Nat)(x:X):Type:=@X.casesOn (λz=>Type) x Unit (λz=>Unit) (λz=>Unit) (λz z z=>Unit) (λz z=>Unit) (λz z z z=>Unit) (λz z z z=>Unit) (λz=>Unit) (λz=>Unit) (λz z=>Unit) (λz z z=>Unit) (λt z z=>∀Γ e,OP<|SB B Γ k t e) (λz=>Unit) (λz z=>Unit) (λz z=>Unit) (λz z z=>Unit) (λz z=>Unit) (λz z z z=>Unit) (λz=>Unit) (λz z z z=>Unit) (λz z=>Unit) (λz z z=>Unit) λz z z z c=>∀Γ a,OP<|lB B Γ k c a
noncomputable def OX(B:aF)(k:Nat)(x:X):Type:=(∀Γ e,OP<|SE B Γ k x e)×(∀Γ e,OP<|SB B Γ k (.ah x) e)×OW B k x
noncomputable def gM(e:∀Γ e,OP<|SE B Γ k x e)(v:∀Γ e,OP<|SB B Γ k (.ah x) e)(w:OW B k x):OX B k x:=(e,v,w)
noncomputable def OX.e{x:X}(o:OX B k x):∀Γ e,OP (SE B Γ k x e):=o.1
noncomputable def OX.v(o:OX B k x):∀Γ e,OP (SB B Γ k (.ah x) e):=o.2.1
noncomputable def OX.w(o:OX B k x):OW B k x:=o.2.2
noncomputable def C1(k:Nat)(x:X):OX B k x:=@X.rec (OX B k) (λxs=>∀Γ w,OP<|fk B Γ k xs w) (λb=>∀Γ e,OP<|SB B Γ k b e) (λbs=>(∀Γ w,OP<|rN B Γ k bs w)×∀Γ w,OP<|lB B Γ k bs w)
 (gM (λz z=> .u) (λz z=> .u) ⟨⟩)
 (λv=>gM (λΓ e=>Sh Γ v e) (λz z=> .u) ⟨⟩)
 (λi=>gM (λΓ e=>iE e (λx p=>dq (HC Γ x i) Su) λz=> .u) (λz z=> .u) ⟨⟩)
 (λo C j A=>gM (λΓ e=>uF e (λf nm p=>(A.e Γ f).bo λh=>dq (Hw B f C j nm)<|Sn h) λz=> .u) (λz z=> .u) ⟨⟩)
 (λo i A V=>gM (λΓ e=>ze e (λa f p=>(A.e Γ a).bo λh=>(V.e Γ f).bo λE=>dq (oS f)<|Oi h E) λz=> .u) (λz z=> .u) ⟨⟩)
 (λg o lo hi A O Q=>gM (λΓ e=>ze e (λa f p=>Nn f (λl u s J=>BY s ((A.e Γ a).bo λh=>(HF lo l<|O.e Γ).bo λS=>(HF hi u<|Q.e Γ).bo λR=> .J<|Rx h S R) λz=> .u) λz=> .u) λz=> .u) (λz z=> .u) ⟨⟩)
 (λg T l r I D=>gM (λΓ e=>FK e (λa o f p=>(I.e Γ a).bo λh=>(D.e Γ f).bo λE=>dq (o==T)<|S0 h E) λz=> .u) (λz z=> .u) ⟨⟩)
 (λx y=>gM (λΓ e=>Ca e (λo f p=>iD o .USub ((y.e Γ f).bo λh=> .J<|Ot h) λz=> .u) λz=> .u) (λz z=> .u) ⟨⟩)
 (λx y=>gM (λΓ e=>Ca e (λo f p=>iD o .Not ((y.e Γ f).bo λh=> .J<|Ou h) λz=> .u) λz=> .u) (λz z=> .u) ⟨⟩)
 (λa xs d=>gM (λΓ e=>BX e (λo w p=>(d Γ w).bo λh=>dq (o==w4 a)<|Ta h) λz=> .u) (λz z=> .u) ⟨⟩)
 (λl T r I D=>gM (λΓ e=>FL e (λa os Z p=>iR os (λo=>iR Z (λf=>(I.e Γ a).bo λh=>(D.e Γ f).bo λE=>dq (zP T o f)<|Tb hsys h E) λz=> .u) λz=> .u) λz=> .u) (λΓ e=>FL e (λa os Z p=>iR os (λo=>iR Z (λf=>(I.e Γ a).bo λh=>(D.e Γ f).bo λE=>dq (zP T o f)<|Sz hsys h E) λz=> .u) λz=> .u) λz=> .u) ⟨⟩)
 (λt a b N W M=>gM (λΓ e=>Ng e (λc f g p=>(N Γ c).bo λh=>(W.e Γ f).bo λS=>(M.e Γ g).bo λR=> .J<|OL h S R) λz=> .u) (λz z=> .u) N)
 (λxs d=>gM (λΓ e=>BZ e (λw i p=>(d Γ w).bo λh=>dq (uq w.length 1000)<|Tf h) λz=> .u) (λz z=> .u) ⟨⟩)
 (λg xs d=>gM (λΓ e=>Nh e (λw p=>(d Γ w).bo λh=>dq (uq w.length 1000)<|Te h) λz=> .u) (λz z=> .u) ⟨⟩)
 (λg j=>gM (λΓ e=>FN e (λF vs p=>fX F (fX vs (.J Ru) λz=> .u) λz=> .u) λz=> .u) (λz z=> .u) ⟨⟩)
 (λg x v y i_v=>gM (λΓ e=>Si Γ g x v e) (λz z=> .u) ⟨⟩)
 (λf xs d=>gM (λΓ e=>oN e (λc w F p=>iE c (λx J=>fX F ((d Γ w).bo λh=>dq (Hz B Γ x f)<|Sq h) λz=> .u) λz=> .u) λz=> .u) (λz z=> .u) ⟨⟩)
 (λC f n xs d=>gM (λΓ e=>oN e (λc w F p=>iE c (λx J=>fX F ((d Γ w).bo λh=>dq (HE B Γ x C f n)<|Sw h) λz=> .u) λz=> .u) λz=> .u) (λz z=> .u) ⟨⟩)
 (λxs d=>gM (λΓ e=>oN e (λc w F p=>iE c (λx J=>fX F ((d Γ w).bo λh=>dq (HA B Γ x w)<|Td Y h) λz=> .u) λz=> .u) λz=> .u) (λz z=> .u) ⟨⟩)
 (λo C f xs A d=>gM (λΓ e=>oN e (λc w F p=>uF c (λa nm J=>fX F ((A.e Γ a).bo λh=>(d Γ w).bo λE=>dq (HD B Γ a w J p C f nm)<|Sv h E) λz=> .u) λz=> .u) λz=> .u) (λz z=> .u) ⟨⟩)
 (λb xs d=>gM (λΓ e=>oN e (λc w F p=>iE c (λx J=>fX F ((d Γ w).bo λh=>dq (Hx B Γ b x)<|So h) λz=> .u) λz=> .u) λz=> .u) (λz z=> .u) ⟨⟩)
 (λm o xs A d=>gM (λΓ e=>oN e (λc w F p=>uF c (λa nm J=>fX F ((A.e Γ a).bo λh=>(d Γ w).bo λE=>dq (Hy m nm a w J p)<|Sp hsys h E) λz=> .u) λz=> .u) λz=> .u) (λz z=> .u) ⟨⟩)
 (λg elt i it U L P G=>gM (λΓ e=>FO e (λee gs sc p=>iR gs (λq=>acZ (motive_3:=λq=>OP<|SE B Γ k (.c g elt i it U)<|.ListComp ee [q] sc p) q λtg K w as=>iE tg (λx px=>iD as 0 ((P.e Γ K).bo λh=>(L.e (Γ.e sc.names x i) ee).bo λS=>(G.2 (Γ.e sc.names x i) w).bo λR=>dq (zQ Γ sc x i K)<|Tc h S R) λz=> .u) λz=> .u) λz=> .u) λz=> .u) (λz z=> .u) G.2)
 (λz w=>fX w (.J .I) λz=> .u)
 (λx r y D Γ w=>qc w (λe w=>(y.e Γ e).bo λh=>(D Γ w).bo λE=>dq (kK e) λc=> .u h c E) λz=> .u)
 (λx y Γ e=>dite (zw e=af) (λc=>(y.e Γ e).bo λh=> .J<|OI h c) λz=>y.v Γ e)
 (λb M Γ e=>Ca e (λo f p=>iD o .Not ((M Γ f).bo λh=> .J<|OG h) λz=> .u) λz=> .u)
 (λbs H Γ e=>BX e (λo w p=>iD o .And ((H.1 Γ w).bo λh=> .J<|OD h) λz=> .u) λz=> .u)
 (λbs H Γ e=>BX e (λo w p=>iD o .Or ((H.1 Γ w).bo λh=> .J<|OH h) λz=> .u) λz=> .u)
 (λz z z z z z z z=> .u)
 (λz z z z z z z z z z=> .u)
 ⟨λz w=>fX w (.J .I) λz=> .u,λz w=>fX w (.J .I) λz=> .u⟩
 (λx r y D=>⟨λΓ w=>qc w (λe w=>(y Γ e).bo λh=>(D.1 Γ w).bo λE=> .J<|.u h E) λz=> .u,λΓ w=>iR w (λe=>Sy r ((y Γ e).bo λh=> .J<|.eN h) λz=> .u) λz=> .u⟩)
 x
noncomputable def iU(k:Nat)(x:X):(Γ:aI)->(e:az)->OP (SE B Γ k x e):=(C1 hsys Y k x).e
noncomputable def HJ(k:Nat)(b:Mine.Internal.B):(Γ:aI)->(e:az)->OP (SB B Γ k b e):=(C1 hsys Y k<|.d b .p .p).w
noncomputable def Sx(k:Nat)(bs:BL):(Γ:aI)->(a:List az)->OP (lB B Γ k bs a):=(C1 hsys Y k<|.c 0 .p 0 .p bs).w
end
section
variable {B:aF} {k:Nat}
noncomputable def HT(a e:az):Bool:=([20,21,23]:List Nat).contains a.ctorIdx||a.ctorIdx==25&&e.ctorIdx !=25
theorem TQ(h:([20,21,23]:List Nat).contains a.ctorIdx=af):wm [a] e b=eY none:=by revert h;refine(@pQ (λa=>([20,21,23]:List Nat).contains a.ctorIdx=af->wm [a] e b=eY ag) a ?_ ?_ ?_ ?_ ?_ ?_ ?_ ?_ ?_ ?_ ?_ ?_ ?_ ?_ ?_ ?_ ?_ ?_ ?_ ?_ ?_ ?_ ?_ ?_ ?_ ?_ ?_);all_goals (intros;first | rfl | exact bw<|by assumption)
theorem TP(h:(e.ctorIdx !=25)=af):wm [.Tuple ts i p] e a=eY none:=by revert h;refine(@pQ (λe=>(e.ctorIdx !=25)=af->wm [.Tuple ts i p] e a=eY ag) e ?_ ?_ ?_ ?_ ?_ ?_ ?_ ?_ ?_ ?_ ?_ ?_ ?_ ?_ ?_ ?_ ?_ ?_ ?_ ?_ ?_ ?_ ?_ ?_ ?_ ?_ ?_);all_goals (intros;first | rfl | exact bw<|by assumption)
theorem TO(h:HT a e=af)(b:Env):wm [a] e b=eY none:=by
 refine cO (wd.mp h) (λh=>?_) λh=>?_
 ·exact TQ h
 ·exact ay (bh h) λd c=>ac1 (motive_1:=λa=>wm [a] e b=eY ag) a (beq_iff_eq.mp d) λz z z=>TP c
noncomputable def HN(a e:az):Bool:=uR e&&(kK a&&HT a e)
theorem TH(h:SE B Γ k x e)(b:ST B Γ k t a)(c:HN a e=af):SS B Γ k (.c t x) (.Assign [a] e p):=
 ay (bh c) λf c=>
 ay (bh c) λd h3=>
 O3 h b f d (TO h3)
noncomputable def uY(Γ:aI)(x:Str)(i:Nat):Bool:=Γ.b.contains (x,i)&&Γ.a.lookup x !=aa .free
theorem uZ(h:uY Γ x i=af):(x,i)∈Γ.b/\Γ.a.lookup x≠aa .free:=
 ay (bh h) λb a=>
 ⟨rB.mp b,bne_iff_ne.mp a⟩
theorem TM(h:uY Γ x i=af):ST B Γ k (.J i) (.Name x p):=Pa (uZ h).1 (uZ h).2
noncomputable def HS(B:aF)(C j:Nat)(nm:Str):Bool:=(B.I.e C)[j]?==aa nm&&(dS (B.I.e C).Nodup&&(uq (B.I.e C).length 1000&&zD B.K C nm))
theorem TL(s:SE B Γ k o e)(h:HS B C j nm=af):ST B Γ k (.ao o C j) (.Attribute e nm p):=
 ay (bh h) λb h=>
 ay (bh h) λa h=>
 ay (bh h) λh3 h=>
 Pe s (beq_iff_eq.mp b) (of_decide_eq_true a) (vZ h3) h
noncomputable def Tg(b:List (Str×Nat))(c:List Nat):∀a,OP (mA b c a):=@gq Nat (λc=>∀a,OP<|mA b c a) (λa=>fX (motive:=λa=>OP<|mA b [] a) a (.J .I) λz=> .u)
 (λi c ih a=>qc (motive:=λa=>OP<|mA b (i::c) a) a (λe a=>iE (motive:=λe=>OP<|mA b (i::c)<|e::a) e (λx p=>(dq (b.contains (x,i)) id).bo λh=>(ih a).bo λt=> .J<|.u (rB.mp h) t) λz=> .u) λz=> .u) c
theorem TN(n:mA Γ.b a b)(h:(Γ.b.all λp=>Γ.a.lookup p.1!=aa .free)=af):ST B Γ k (.U a) (.Tuple b i p):=
 Se n λx i c=>bne_iff_ne.mp<|dT.mp h (x,i) c
noncomputable def HK(Γ:aI)(sc:oJ)(x y:Str)(i j:Nat)(c:az)(b a:Pos):Bool:=zQ Γ sc x i c&&(Γ.b.contains (y,j)&&(Γ.a.lookup y==aa .local&&(b.line==a.line&&!(sc.names.any λp=>p.1==y&&(p.2== .local||p.2== .cell)))))
theorem Tx(hi:SE B Γ k l a)(q:SE B (Γ.e sc.names x i) k e n)(p:lB B (Γ.e sc.names x i) k d m)(h:HK Γ sc x y i j a f c=af):
 SS B Γ k (.c (.J j)<|.c g e i l d) (.Assign [.Name y f] (.ListComp n [⟨.Name x o,a,m,0⟩] sc c) b):=
 ay (bh h) λh0 h=>
 qa (HI h0) λt s h3 r=>
 ay (bh h) λz h=>
 ay (bh h) λw h=>
 ay (bh h) λv u=>
 RO t s h3 hi q p r (rB.mp z) (beq_iff_eq.mp w) v (by simpa using u)
theorem TF{st:gh}:SS B Γ k .p st:=λa A l ρ P H s b o q=>q.elim
noncomputable def HL(Γ:aI)(nm:Str)(i:Nat)(a:gH)(o:gH):Bool:=o==a&&(uY Γ nm i&&!(nm==("__classdict__":Str)))
theorem Tz(s:SE B Γ k x e)(h:HL Γ nm i b o=af):SS B Γ k (.m i b x) (.AugAssign (.Name nm c) o e p):=by refine ay (bh h) λd a=>ay (bh a) λa h3=>?_;obtain rfl:=beq_iff_eq.mp d;exact Pl (uZ a).1 (uZ a).2 (by simpa using h3) s
noncomputable def HM(a:gH)(o:gH)(b:az):Bool:=o==a&&oS b
theorem TC(j:SE B Γ k b d)(g:SE B Γ k (.e<|.x i) a)(s:SE B Γ k x e)(hi:dS (0<=i)=af)(h:HM c o a=af):SS B Γ k (.n b (.e<|.x i) c x) (.AugAssign (.Subscript d a f) o e p):=by refine ay (bh h) λm l=>?_;obtain rfl:=beq_iff_eq.mp m;exact Pm j g s l<|aM _ rfl<|of_decide_eq_true hi
noncomputable def C2(B:aF)(Γ:aI)(x:Str):Bool:=gN B.K Γ x B.I.I&&xa B.K B.I.I
theorem TJ(s:gL B Γ k b bs)(h:(C2 B Γ x&&uY Γ y i)=af):SS B Γ k (.q b<|.u (.c (.J i)<|.e .f) .I) (.Try bs [.ExceptHandler (aa<|.Name x f) ag [.Assign [.Name y d] (.Constant .none j n) e] hp] [] [] p):=
 ay (bh h) λa c=>
 ay (bh a) λa h3=>
 gI (xf a) λm l g=>
 Pz s h3 m l g (uZ c).1 (uZ c).2
noncomputable def HU(B:aF)(Γ:aI)(x n:Str)(i:Nat):Bool:=C2 B Γ x&&(!Γ.hs&&(Γ.b.contains (n,i)&&Γ.a.lookup n==aa .local))
theorem TK(f:gL B Γ k b bs)(e:gL B {Γ with hs:=af} k h (b0::d))(c:HU B Γ x n i=af):SS B Γ k (.l b i h) (.Try bs [.ExceptHandler (aa<|.Name x g) (aa n) (b0::d) hp] [] [] p):=
 ay (bh c) λa c=>
 ay (bh a) λa s=>
 gI (xf a) λm l j=>
 ay (bh c) λr c=>
 ay (bh c) λq o=>
 Py f s m l j (by simpa using r) (rB.mp q) (beq_iff_eq.mp o) e
noncomputable def uX(B:aF)(Γ:aI)(a:az)(n:Str)(f:String)(b:List az):Bool:=jS a&&(b.all kK&&qk B.K Γ n (.type f))
noncomputable def HO(b e:az)(nm:Str)(c a:Pos):Bool:=b.ctorIdx==25&&(nm==("items":Str)&&(my e&&c.endLine==a.line))
theorem Tt(hsys:∃o,B.u.get? iN=aa o)(s:SE B Γ k x e)(h:HO c e nm a b=af):SI B Γ k c (.c x) (.Call (.Attribute e nm a) [] [] b):=by refine ay (bh h) λg d=>ay (bh d) λd h3=>ay (bh h3) λh3 f=>?_;obtain rfl:=beq_iff_eq.mp d;exact ac1 (motive_1:=λc=>SI B Γ k c (.c x)<|.Call (.Attribute e _ a) [] [] b) c (beq_iff_eq.mp g) λz z z=>Ro hsys rfl s h3<|beq_iff_eq.mp f
theorem Tu(s:SE B Γ k x e)(h:uX B Γ b n "range" [e]=af):SI B Γ k b (.a x) (.Call (.Name n p) [e] [] a):=
 ay (bh h) λd h=>
 ay (bh h) λc h3=>
 Qt d s (dT.mp c _<|.head _) h3
theorem Tv(s:SE B Γ k x e)(d:SE B Γ k y f)(h:uX B Γ b n "range" [e,f]=af):SI B Γ k b (.b x y) (.Call (.Name n p) [e,f] [] a):=
 ay (bh h) λg h=>
 ay (bh h) λc h3=>
 Qu g s (dT.mp c _<|.head _) d (dT.mp c _<|.tail _<|.head _) h3
theorem Tw(s:SE B Γ k x e)(h:uX B Γ b n "reversed" [e]=af):SI B Γ k b (.d x) (.Call (.Name n p) [e] [] a):=
 ay (bh h) λd h=>
 ay (bh h) λc h3=>
 Qv d s (dT.mp c _<|.head _) h3
variable (hsys:∃o,B.u.get? iN=aa o) {fI:Nat} (Y:kN B fI)
noncomputable def HQ(k:Nat)(Γ:aI)(t:T)(e:az):OP (ST B Γ k t e):=T.casesOn (motive:=λt=>OP<|ST B Γ k t e) t
 (λi=>iE e (λx p=>dq (uY Γ x i) TM) λz=> .u)
 (λo C j=>uF e (λf nm p=>(iU hsys Y k o Γ f).bo λh=>dq (HS B C j nm)<|TL h) λz=> .u)
 (λo i=>ze e (λa f p=>(iU hsys Y k o Γ a).bo λh=>(iU hsys Y k i Γ f).bo λc=>dq (oS f)<|Pf h c) λz=> .u)
 λb=>BZ e (λd i p=>(Tg Γ.b b d).bo λn=>dq (Γ.b.all λp=>Γ.a.lookup p.1!=aa .free)<|TN n) λz=> .u
noncomputable def Tj(k:Nat)(Γ:aI)(d:az)(t:It)(e:az):OP (SI B Γ k d t e):=It.casesOn (motive:=λt=>OP<|SI B Γ k d t e) t
 (λx=>(iU hsys Y k x Γ e).bo λh=>dq (jS d) λc=>Qs c h)
 (λx=>oN e (λc g f p=>iE c (λn i=>iR g (λa=>fX f ((iU hsys Y k x Γ a).bo λh=>dq (uX B Γ d n "range" [a])<|Tu h) λz=> .u) λz=> .u) λz=> .u) λz=> .u)
 (λx y=>oN e (λc g f p=>iE c (λn i=>qc g (λa r=>iR r (λb=>fX f ((iU hsys Y k x Γ a).bo λh=>(iU hsys Y k y Γ b).bo λj=>dq (uX B Γ d n "range" [a,b])<|Tv h j) λz=> .u) λz=> .u) λz=> .u) λz=> .u) λz=> .u)
 (λx=>oN e (λc g f p=>iE c (λn i=>iR g (λa=>fX f ((iU hsys Y k x Γ a).bo λh=>dq (uX B Γ d n "reversed" [a])<|Tw h) λz=> .u) λz=> .u) λz=> .u) λz=> .u)
 λx=>oN e (λc g f p=>uF c (λa nm i=>fX g (fX f ((iU hsys Y k x Γ a).bo λh=>dq (HO d a nm i p)<|Tt hsys h) λz=> .u) λz=> .u) λz=> .u) λz=> .u
@[elab_as_elim] noncomputable def HR{motive:T->Type}(e:T)(f:∀i,motive<|.J i)(d:∀e,motive e):motive e:=T.casesOn (motive:=motive) e f (λz z z=>d _) (λz z=>d _) λz=>d _
@[elab_as_elim] noncomputable def Tp{motive:X->Type}(e:X)(f:∀a b c d g,motive<|.c a b c d g)(d:∀e,motive e):motive e:=X.casesOn (motive_1:=motive) e (d _) (λz=>d _) (λz=>d _) (λz z z=>d _) (λz z=>d _) (λz z z z=>d _) (λz z z z=>d _) (λz=>d _) (λz=>d _) (λz z=>d _) (λz z z=>d _) (λz z z=>d _) (λz=>d _) (λz z=>d _) (λz z=>d _) (λz z z=>d _) (λz z=>d _) (λz z z z=>d _) (λz=>d _) (λz z z z=>d _) (λz z=>d _) (λz z z=>d _) f
@[elab_as_elim] noncomputable def Tq{motive:S->Type}(e:S)(f:∀a b,motive<|.c a b)(d:∀e,motive e):motive e:=S.casesOn (motive_1:=motive) e (d _) (λz=>d _) f (λz z z=>d _) (λz z z z=>d _) (λz z z=>d _) (λz z=>d _) (λz z z=>d _) (λz=>d _) (λz=>d _) (λz z=>d _) (λz z z=>d _) (d _)<|d _
@[elab_as_elim] noncomputable def Tr{motive:SL->Type}(e:SL)(f:∀a b,motive<|.u a b)(d:∀e,motive e):motive e:=SL.casesOn (motive_2:=motive) e (d _) f
@[elab_as_elim] noncomputable def Ts{motive:SL->Type}(e:SL)(f:motive .I)(d:∀e,motive e):motive e:=SL.casesOn (motive_2:=motive) e f λz z=>d _
noncomputable def Ti(k:Nat)(Γ:aI)(t:T)(x:X)(f e:az)(p:Pos):OP (SS B Γ k (.c t x)<|.Assign [f] e p):=
 HR t (λj=>Tp x (λg d i m c=>iE f (λy l=>FO e (λn u sc b=>iR u (λq=>acZ (motive_3:=λq=>OP (SS B Γ k (.c (.J j) (.c g d i m c)) (.Assign [.Name y l] (.ListComp n [q] sc b) p))) q λo a v w=>iE o (λx A=>iD w 0
  ((iU hsys Y k m Γ a).bo λh=>(iU hsys Y k d (Γ.e sc.names x i) n).bo λs=>(Sx hsys Y k c (Γ.e sc.names x i) v).bo λr=>dq (HK Γ sc x y i j a l b) (Tx h s r)) λz=> .u) λz=> .u) λz=> .u) λz=> .u) λz=> .u) λz=> .u) λz=> .u
noncomputable def Th(k:Nat)(Γ:aI)(t:T)(x:X)(a e:az)(p:Pos):OP (SS B Γ k (.c t x)<|.Assign [a] e p):=
 Bool.casesOn (e.ctorIdx==8) ((iU hsys Y k x Γ e).bo λh=>(HQ hsys Y k Γ t a).bo λb=>dq (HN a e)<|TH h b) (Ti hsys Y k Γ t x a e p)
noncomputable def To(k:Nat)(Γ:aI)(b h:SL)(bs:List gh)(f:List ExceptHandler)(p:Pos)(s:gL B Γ k b bs):OP (SS B Γ k (.q b h)<|.Try bs f [] [] p):=
 Tr h (λl r=>Ts r (Tq l (λt x=>HR t (λi=>tE x (λv=>C0 v (iR f (λhd=>ac0 (motive_4:=λhd=>OP (SS B Γ k (.q b (.u (.c (.J i) (.e .f)) .I)) (.Try bs [hd] [] [] p))) hd λd nm a hp=>
  wL d (λd=>iE d (λx o=>BY nm (iR a (λst=>BW st (λts e n=>iR ts (λg=>iE g (λy m=>tc e (λc j q=>iD c .none (dq (C2 B Γ x&&uY Γ y i) (TJ s)) λz=> .u) λz=> .u) λz=> .u) λz=> .u) λz=> .u) λz=> .u) λz=> .u) λz=> .u) λz=> .u) λz=> .u) λz=> .u) λz=> .u) λz=> .u) λz=> .u) λz=> .u) λz=> .u
noncomputable def Tn(k:Nat)(x:SL):(Γ:aI)->(d:List gh)->OP (gL B Γ k x d):=@SL.rec (λx=>∀Γ st,OP<|SS B Γ k x st) (λx=>∀Γ d,OP<|gL B Γ k x d)
 (λz z=> .J TF)
 (λx Γ st=>Nm st (λe p=>(iU hsys Y k x Γ e).bo λh=>dq (uR e)<|O5 h) λz=> .u)
 (λt x Γ st=>BW st (λts e p=>iR ts (λq=>Th hsys Y k Γ t x q e p) λz=> .u) λz=> .u)
 (λi y x Γ st=>FJ st (λt o e p=>iE t (λnm I=>(iU hsys Y k x Γ e).bo λh=>dq (HL Γ nm i y o)<|Tz h) λz=> .u) λz=> .u)
 (λG J y x Γ st=>FJ st (λt o e p=>ze t (λH F N=>(iU hsys Y k G Γ H).bo λg=>(iU hsys Y k x Γ e).bo λh=>tE J (λv=>CZ v (λi=>(iU hsys Y k (.e<|.x i) Γ F).bo λl=>(dq (dS<|0<=i) id).bo λc=>dq (HM y o F)<|TC g l h c) λz=> .u) λz=> .u) λz=> .u) λz=> .u)
 (λt a b D f Γ st=>Nf st (λe M bs p=>(HJ hsys Y k t Γ e).bo λh=>(D Γ M).bo λg=>(f Γ bs).bo λl=> .J<|O6 h g l) λz=> .u)
 (λt b f Γ st=>Np st (λe bs os p=>fX os ((HJ hsys Y k t Γ e).bo λh=>(f Γ bs).bo λg=> .J<|Pp h g) λz=> .u) λz=> .u)
 (λt K b f Γ st=>Nd st (λq e bs os p=>fX os ((HQ hsys Y k Γ t q).bo λh=>(Tj hsys Y k Γ q K e).bo λE=>(f Γ bs).bo λg=>dq (!Γ.hs&&ql e) λc=>Qw h E g (by simpa using (bh c).1) (bh c).2) λz=> .u) λz=> .u)
 (λx Γ st=>Nk st (λv p=>sN (motive:=λv=>OP<|SS B Γ k (.e x)<|.Return v p) v (tE x (λv=>C0 v (.J O9) λz=> .u) λz=> .u) λe=>(iU hsys Y k x Γ e).bo λh=> .J<|O8 h) λz=> .u)
 (λx Γ st=>Nj st (λv c p=>wL v (λe=>BY c ((iU hsys Y k x Γ e).bo λh=>dq (zH B.K B.I.I)<|Pr h) λz=> .u) λz=> .u) λz=> .u)
 (λb h f j Γ st=>FP st (λbs hs os u p=>fX os (fX u ((f Γ bs).bo λs=>To k Γ b h bs hs p s) λz=> .u) λz=> .u) λz=> .u)
 (λb i h f j Γ st=>FP st (λbs hs os u p=>iR hs (λhd=>ac0 (motive_4:=λhd=>OP<|SS B Γ k (.l b i h)<|.Try bs [hd] os u p) hd λw nm m hp=>wL w (λw=>iE w (λx I=>wL nm (λn=>qc m (λb0 L=>fX os (fX u ((f Γ bs).bo λg=>(j {Γ with hs:=af} (b0::L)).bo λl=>dq (HU B Γ x n i)<|TK g l) λz=> .u) λz=> .u) λz=> .u) λz=> .u) λz=> .u) λz=> .u) λz=> .u) λz=> .u)
 (λΓ st=>Nc st (λp=> .J O4) λz=> .u)
 (λΓ st=>Ni st (λp=> .J O7) λz=> .u)
 (λz d=>fX d (.J .I) λz=> .u)
 (λs r A C Γ d=>qc d (λst d=>(A Γ st).bo λh=>(C Γ d).bo λE=> .J<|.u h E) λz=> .u)
 x
end
end
section
open PySem
noncomputable abbrev xx:Str:=⟨#[116,104,114,111,119]⟩
noncomputable abbrev xu:Str:=⟨#[99,97,116,99,104]⟩
noncomputable abbrev xC:Str:=⟨#[36,86,65,82]⟩
noncomputable abbrev Dc:Str:=⟨#[115,121,115,116,101,109]⟩
noncomputable abbrev C8:Str:=⟨#[101,110,100,95,111,102,95,102,105,108,101]⟩
noncomputable abbrev fR:Str:=⟨#[]⟩
noncomputable abbrev qs:Str:=⟨#[101,114,114,111,114]⟩
noncomputable abbrev xJ:Str:=⟨#[94]⟩
noncomputable abbrev tT:Str:=⟨#[61]⟩
noncomputable abbrev nR:Str:=⟨#[99,97,108,108]⟩
noncomputable abbrev tN:Str:=⟨#[102,97,108,115,101]⟩
noncomputable abbrev tM:Str:=⟨#[102,97,105,108]⟩
noncomputable abbrev tQ:Str:=⟨#[116,114,117,101]⟩
noncomputable abbrev xB:Str:=⟨#[33]⟩
noncomputable abbrev xD:Str:=⟨#[45,45,62]⟩
noncomputable abbrev xH:Str:=⟨#[63,45]⟩
noncomputable abbrev tS:Str:=⟨#[58,45]⟩
noncomputable abbrev xI:Str:=⟨#[92,43]⟩
noncomputable abbrev xE:Str:=⟨#[45,62]⟩
noncomputable abbrev xG:Str:=⟨#[59]⟩
noncomputable abbrev cG:Str:=⟨#[124]⟩
noncomputable abbrev bZ:Str:=⟨#[44]⟩
noncomputable abbrev xF:Str:=⟨#[47]⟩
noncomputable abbrev De:Str:=⟨#[42]⟩
noncomputable abbrev tR:Str:=⟨#[43]⟩
noncomputable abbrev dU:Str:=⟨#[45]⟩
noncomputable abbrev eR:Str:=⟨#[123,125]⟩
noncomputable abbrev kg:Str:=⟨#[46]⟩
noncomputable abbrev mJ:Str:=⟨#[91,93]⟩
noncomputable abbrev Ub:Str:=⟨#[43,45,42,47,92,94,60,62,61,126,58,46,63,64,35,38,36]⟩
noncomputable abbrev vj:Str:=⟨#[101,111,102]⟩
noncomputable abbrev iJ:Str:=⟨#[40]⟩
noncomputable abbrev r8:Str:=⟨#[111,112,101,110]⟩
noncomputable abbrev mH:Str:=⟨#[111,112,101,110,95,99,116]⟩
noncomputable abbrev fS:Str:=⟨#[110,97,109,101]⟩
noncomputable abbrev r9:Str:=⟨#[118,97,114]⟩
noncomputable abbrev kR:Str:=⟨#[113,110,97,109,101]⟩
noncomputable abbrev tO:Str:=⟨#[115,116,114,105,110,103]⟩
noncomputable abbrev TS:Str:=⟨#[98,97,99,107]⟩
noncomputable abbrev Dd:Str:=⟨#[41,91,93,123,125,44,124]⟩
noncomputable abbrev nU:Str:=⟨#[112,117,110,99,116]⟩
noncomputable abbrev TZ:Str:=⟨#[33,59]⟩
noncomputable abbrev Ir:Str:=⟨#[117,110,100,101,102,105,110,101,100,95,99,104,97,114]⟩
noncomputable abbrev lK:Str:=⟨#[101,110,100]⟩
noncomputable abbrev lL:Str:=⟨#[105,110,116]⟩
noncomputable abbrev TY:Str:=⟨#[117,110,102,105,110,105,115,104,101,100,95,113,117,111,116,101,100]⟩
noncomputable abbrev vo:Str:=⟨#[118]⟩
noncomputable abbrev mG:Str:=⟨#[97]⟩
noncomputable abbrev nT:Str:=⟨#[105]⟩
noncomputable abbrev iI:Str:=⟨#[115]⟩
noncomputable abbrev eP:Str:=⟨#[41]⟩
noncomputable abbrev dZ:Str:=⟨#[93]⟩
noncomputable abbrev e9:Str:=⟨#[125]⟩
noncomputable abbrev r7:Str:=⟨#[102,120]⟩
noncomputable abbrev qt:Str:=⟨#[102,121]⟩
noncomputable abbrev xK:Str:=⟨#[120,102,120]⟩
noncomputable abbrev fq:Str:=⟨#[120,102,121]⟩
noncomputable abbrev qw:Str:=⟨#[121,102,120]⟩
noncomputable abbrev se:Str:=⟨#[120,102]⟩
noncomputable abbrev qv:Str:=⟨#[121,102]⟩
noncomputable abbrev Iw:Str:=⟨#[119,97,114,110,105,110,103]⟩
noncomputable abbrev Iv:Str:=⟨#[117,110,107,110,111,119,110]⟩
noncomputable abbrev Im:Str:=⟨#[111,99,99,117,114,115,95,99,104,101,99,107]⟩
noncomputable abbrev xA:Str:=⟨#[117,110,98,111,117,110,100,101,100]⟩
noncomputable abbrev Il:Str:=⟨#[109,97,120,95,97,114,105,116,121]⟩
noncomputable abbrev Ii:Str:=⟨#[100,111,119,110]⟩
noncomputable abbrev xy:Str:=⟨#[116,111,119,97,114,100,95,122,101,114,111]⟩
noncomputable abbrev Ik:Str:=⟨#[105,110,116,101,103,101,114,95,114,111,117,110,100,105,110,103,95,102,117,110,99,116,105,111,110]⟩
noncomputable abbrev C6:Str:=⟨#[97,116,111,109]⟩
noncomputable abbrev C7:Str:=⟨#[99,104,97,114,115]⟩
noncomputable abbrev kf:Str:=⟨#[99,111,100,101,115]⟩
noncomputable abbrev vi:Str:=⟨#[100,111,117,98,108,101,95,113,117,111,116,101,115]⟩
noncomputable abbrev xw:Str:=⟨#[111,102,102]⟩
noncomputable abbrev Io:Str:=⟨#[111,110]⟩
noncomputable abbrev Ih:Str:=⟨#[100,101,98,117,103]⟩
noncomputable abbrev Ig:Str:=⟨#[98,111,117,110,100,101,100]⟩
noncomputable abbrev vk:Str:=⟨#[112,114,101,102,105,120]⟩
noncomputable abbrev xv:Str:=⟨#[105,110,102,105,120]⟩
noncomputable abbrev Iq:Str:=⟨#[112,111,115,116,102,105,120]⟩
noncomputable abbrev Ij:Str:=⟨#[101,110,100,95,101,120,112,101,99,116,101,100]⟩
noncomputable abbrev eE:Str:=⟨#[95]⟩
noncomputable abbrev TV:Str:=⟨#[117,110,98,97,108,97,110,99,101,100]⟩
noncomputable abbrev Iu:Str:=⟨#[117,110,101,120,112,101,99,116,101,100,95,116,111,107,101,110]⟩
noncomputable abbrev TU:Str:=⟨#[111,112,101,114,97,116,111,114,95,99,108,97,115,104]⟩
noncomputable abbrev lM:Str:=⟨#[114,111,117,110,100]⟩
noncomputable abbrev eH:Str:=⟨#[91]⟩
noncomputable abbrev jm:Str:=⟨#[108,105,115,116]⟩
noncomputable abbrev fL:Str:=⟨#[123]⟩
noncomputable abbrev lJ:Str:=⟨#[99,117,114,108,121]⟩
noncomputable abbrev ic:Str:=⟨#[97,114,103,115]⟩
noncomputable abbrev zT:Str:=⟨#[112,114,105,111,114,105,116,121]⟩
noncomputable abbrev fm:Str:=⟨#[111,112,101,114,97,116,111,114]⟩
noncomputable abbrev qu:Str:=⟨#[116,97,105,108]⟩
noncomputable abbrev Ip:Str:=⟨#[111,112,101,114,97,116,111,114,95,101,120,112,101,99,116,101,100]⟩
noncomputable abbrev TX:Str:=⟨#[117,110,101,120,112,101,99,116,101,100,95,101,111,102]⟩
noncomputable abbrev C9:Str:=⟨#[109,111,100]⟩
noncomputable abbrev Df:Str:=⟨#[126,62]⟩
noncomputable abbrev nS:Str:=⟨#[102,111,111]⟩
noncomputable abbrev Iy:Str:=⟨#[121]⟩
noncomputable abbrev tP:Str:=⟨#[116,101,114,109]⟩
noncomputable abbrev jG:Str:=⟨#[39]⟩
noncomputable abbrev lI:Str:=⟨#[95,90]⟩
noncomputable abbrev r6:Str:=⟨#[89]⟩
noncomputable abbrev rZ:Str:=⟨#[88]⟩
noncomputable abbrev TR:Str:=⟨#[97,98,99]⟩
noncomputable abbrev fK:Str:=⟨#[32]⟩
noncomputable abbrev o7:Str:=⟨#[102]⟩
noncomputable abbrev f9:Str:=⟨#[32,44,32]⟩
noncomputable abbrev zU:Str:=⟨#[32,124,32]⟩
noncomputable abbrev Ua:Str:=⟨#[34,97,34,34,34]⟩
noncomputable abbrev Uc:Str:=⟨#[91,32,93]⟩
noncomputable abbrev vp:Str:=⟨#[32,46,10]⟩
noncomputable abbrev ar:X:= .J 0
noncomputable abbrev bE:X:= .e<|.x 1
noncomputable abbrev bU:X:= .e<|.x 0
noncomputable abbrev a8:X:= .J 2
noncomputable abbrev aU:X:= .J 1
noncomputable abbrev f7:X:= .e<|.x 2
noncomputable abbrev cT:XL:= .u a8 .I
noncomputable abbrev bY:X:= .J 3
noncomputable abbrev dO:XL:= .u aU .I
noncomputable abbrev cM:X:= .J 4
noncomputable abbrev lC:X:= .e<|.z tP
noncomputable abbrev iV:XL:= .u f7 .I
noncomputable abbrev gO:XL:= .u bU .I
noncomputable abbrev fB:X:= .e .f
noncomputable abbrev dE:T:= .J 2
noncomputable abbrev fD:X:= .J 5
noncomputable abbrev rR:X:= .e<|.e ai
noncomputable abbrev mD:X:= .e<|.z fS
noncomputable abbrev qm:XL:= .u (.ao ar 843 7) .I
noncomputable abbrev rS:S:= .f<|.I ar 843 702 .I
noncomputable abbrev lD:X:= .e<|.x 3
noncomputable abbrev lE:T:= .ao ar 370 1
noncomputable abbrev mE:X:= .e<|.e af
noncomputable abbrev tH:X:= .e<|.z dU
noncomputable abbrev HV:XL:= .u (.e<|.z tR)<|.u tH<|.u (.e<|.z tT)<|.u (.e<|.z nS)<|.u (.e<|.z Df)<|.u (.e<|.z C9) .I
noncomputable abbrev jF:XL:= .u bY .I
noncomputable abbrev u7:X:= .e<|.z bZ
noncomputable abbrev xp:X:= .e<|.z cG
noncomputable abbrev zR:XL:= .u u7<|.u xp .I
noncomputable abbrev qo:X:= .e<|.z nR
noncomputable abbrev oZ:X:= .ao ar 843 5
noncomputable abbrev rT:X:= .aS 0 .Add cM bE
noncomputable abbrev qp:X:= .e<|.z iI
noncomputable abbrev lF:X:= .ak a8 bU
noncomputable abbrev lG:XL:= .u ar .I
noncomputable abbrev mF:XL:= .u cM .I
noncomputable abbrev tF:X:= .I ar 843 695 .I
noncomputable abbrev gD:X:= .J 8
noncomputable abbrev nQ:XL:= .u bE .I
noncomputable abbrev gP:T:= .J 3
noncomputable abbrev qq:X:= .ao ar 370 1
noncomputable abbrev tG:X:= .ao a8 635 0
noncomputable abbrev C3:X:= .ak aU<|.aN 904<|.u ar<|.u (.e<|.x 9) .I
noncomputable abbrev xg:XL:= .u (.e<|.x 1200) .I
noncomputable abbrev u5:XL:= .u (.ak aU bE) .I
noncomputable abbrev rU:X:= .e<|.z mG
noncomputable abbrev rW:T:= .ao ar 843 6
noncomputable abbrev rX:X:= .ao ar 843 0
noncomputable abbrev iW:X:= .J 9
noncomputable abbrev iH:X:= .J 7
noncomputable abbrev ke:X:= .fg bE
noncomputable abbrev u6:X:= .aS 0 .Add a8 bE
noncomputable abbrev zS:X:= .aN 904<|.u ar<|.u lD .I
noncomputable abbrev iX:X:= .J 6
noncomputable abbrev lH:X:= .J 10
noncomputable abbrev HW:X:= .ax<|.u qp<|.u (.I ar 154 109<|.u iW nQ)<|.u (.ax<|.u lH .I) .I
noncomputable abbrev C4:X:= .U (.ak ar bU) .Eq<|.e<|.z nU
noncomputable abbrev jl:T:= .J 4
noncomputable abbrev xh:X:= .aN 904<|.u ar iV
noncomputable abbrev tI:X:= .ao ar 370 0
noncomputable abbrev u9:SL:= .u (.e fB) .I
noncomputable abbrev va:X:= .e<|.z lK
noncomputable abbrev vb:SL:= .u (.e rR) .I
noncomputable abbrev kP:X:= .J 12
noncomputable abbrev qr:XL:= .u fD .I
noncomputable abbrev HX:X:= .U (.ak ar bE) .In<|.e<|.U [.z eP, .z dZ, .z e9]
noncomputable abbrev C5:B:= .ah<|.U tG .Eq<|.e<|.z jm
noncomputable abbrev xj:X:= .e<|.z tN
noncomputable abbrev xk:X:= .e<|.z fR
noncomputable abbrev xm:X:= .aS 0 .Add aU bE
noncomputable abbrev HY:X:= .aT 635 632 7<|.u (.e<|.z fm)<|.u (.ao ar 843 6) .I
noncomputable abbrev xn:X:= .aS 0 .Sub fD bE
noncomputable abbrev HZ:SL:= .u (.e<|.ax<|.u lC<|.u (.ax<|.u (.e<|.z vo) mF) cT) .I
noncomputable abbrev xo:X:= .e<|.z tQ
noncomputable abbrev rY:X:= .ak aU bU
noncomputable abbrev vc:X:= .ao ar 843 1
noncomputable abbrev ve:X:= .e<|.x 999
noncomputable abbrev Ia:SL:= .u (.j<|.I ar 843 709<|.u (.e<|.z zT) cT) .I
noncomputable abbrev vf:X:= .ao ar 886 3
noncomputable abbrev tJ:X:= .e<|.x 4
noncomputable abbrev tK:X:= .e<|.x 5
noncomputable abbrev tL:X:= .e<|.x 7
noncomputable abbrev Ib:B:= .ah<|.U (.ao (.ak oZ ke) 635 0) .Eq<|.e<|.z fm
noncomputable abbrev kQ:T:= .J 1
noncomputable abbrev xq:SL:= .u (.e bU) .I
noncomputable abbrev xr:X:= .e<|.z fq
noncomputable abbrev xt:X:= .e<|.z dZ
noncomputable abbrev Ic:BL:= .u (.ah<|.aN 660<|.u aU<|.u (.e<|.z eP) .I) .I
noncomputable abbrev vg:X:= .e<|.x 10
noncomputable abbrev Ie:X:= .I ar 843 709<|.u (.e<|.z Iu) dO
noncomputable def U7:SL:= .u (.e<|.ax<|.u (.e<|.z mJ)<|.u (.e<|.z kg)<|.u (.e<|.z eR)<|.u tH<|.u (.e<|.z tR)<|.u (.e<|.z De)<|.u (.e<|.z xF)<|.u u7<|.u xp<|.u (.e<|.z xG)<|.u (.e<|.z xE)<|.u (.e<|.z xI)<|.u (.e<|.z tS)<|.u (.e<|.z xH)<|.u (.e<|.z xD)<|.u (.e<|.z xB)<|.u xo<|.u (.e<|.z tM)<|.u xj<|.u qo<|.u (.e<|.z tT)<|.u (.e<|.z xJ)<|.u (.e<|.z qs)<|.u xk<|.u (.e<|.z C8)<|.u (.e<|.z Dc)<|.u (.e<|.z xC)<|.u (.e<|.z xu)<|.u (.e<|.z xx) .I) .I
noncomputable def U8:SL:= .u (.e<|.ax<|.u (.ax<|.u (.e<|.z kg) iV)<|.u (.ax<|.u u7 iV)<|.u (.ax<|.u (.e<|.z xG) iV)<|.u (.ax<|.u (.e<|.z xE) iV)<|.u (.ax<|.u (.e<|.z xI) nQ)<|.u (.ax<|.u (.e<|.z tS) iV)<|.u (.ax<|.u (.e<|.z tS) nQ)<|.u (.ax<|.u (.e<|.z xH) nQ)<|.u (.ax<|.u (.e<|.z xD) iV)<|.u (.ax<|.u (.e<|.z eR) nQ)<|.u (.ax<|.u (.e<|.z tT) iV)<|.u (.ax<|.u (.e<|.z xJ) iV)<|.u (.ax<|.u tH nQ)<|.u (.ax<|.u tH iV)<|.u (.ax<|.u (.e<|.z tR) iV)<|.u (.ax<|.u (.e<|.z xF) iV)<|.u (.ax<|.u (.e<|.z qs) iV)<|.u (.ax<|.u (.e<|.z xC) nQ)<|.u (.ax<|.u (.e<|.z xu)<|.u lD .I)<|.u (.ax<|.u (.e<|.z xx) nQ)<|.u (.ax<|.u (.e<|.z xB) gO)<|.u (.ax<|.u xo gO)<|.u (.ax<|.u (.e<|.z tM) gO)<|.u (.ax<|.u xj gO)<|.u (.ax<|.u qo nQ)<|.u (.ax<|.u qo iV)<|.u (.ax<|.u qo<|.u lD .I)<|.u (.ax<|.u qo<|.u tJ .I)<|.u (.ax<|.u qo<|.u tK .I)<|.u (.ax<|.u qo<|.u (.e<|.x 6) .I)<|.u (.ax<|.u qo<|.u tL .I)<|.u (.ax<|.u qo<|.u (.e<|.x 8) .I) .I) .I
noncomputable def IH:SL:= .u (.f<|.I ar 154 88 dO) .I
noncomputable def II:SL:= .u (.f<|.I ar 154 109<|.u lF<|.u (.ak a8 bE) .I) .I
noncomputable def UN:SL:= .u (.c (.ao ar 154 0)<|.u 1 .I)<|.u (.c (.ao ar 154 1)<|.h 2 0)<|.u (.c (.ao ar 154 2)<|.u 3 .I)<|.u (.c (.ao ar 154 3)<|.h 4 2)<|.u (.g kQ (.u<|.aN 60 .I) IH)<|.u (.g dE (.u<|.aN 67 .I) II) .I
noncomputable def UK:SL:= .u (.c dE<|.bm 3 (.ao ar 154 1)<|.u aU<|.u ke .I)<|.u (.d (.ah<|.U a8 .GtE bU) (.u (.e a8) .I) .I)<|.u (.c gP<|.bi 0<|.u (.ao ar 154 0) .I)<|.u (.f<|.bm 0 (.ao ar 154 0) dO)<|.u (.c (.ak (.ao ar 154 1) aU) bY)<|.u (.e bY) .I
noncomputable def UO:SL:= .u (.e<|.ak (.ao ar 154 0) aU) .I
noncomputable def UM:SL:= .u (.c gP<|.ax<|.u aU cT)<|.u (.c jl<|.bm 3 (.ao ar 154 3)<|.u bY<|.u ke .I)<|.u (.d (.ah<|.U cM .GtE bU) (.u (.e cM) .I) .I)<|.u (.c (.J 5)<|.bi 0<|.u (.ao ar 154 2) .I)<|.u (.f<|.bm 0 (.ao ar 154 2) jF)<|.u (.c (.ak (.ao ar 154 3) bY) fD)<|.u (.e fD) .I
noncomputable def UL:SL:= .u (.e<|.I ar 154 102<|.u (.I ar 154 88 dO) cT) .I
noncomputable def Vf:SL:= .u (.e<|.cU ai<|.u (.U ar .Eq<|.e<|.x 32)<|.u (.cU af<|.u (.U (.e<|.x 9) .LtE ar)<|.u (.U ar .LtE<|.e<|.x 13) .I) .I) .I
noncomputable def Ve:SL:= .u (.e<|.cU af<|.u (.U (.e<|.x 48) .LtE ar)<|.u (.U ar .LtE<|.e<|.x 57) .I) .I
noncomputable def Vi:SL:= .u (.e<|.cU af<|.u (.U (.e<|.x 97) .LtE ar)<|.u (.U ar .LtE<|.e<|.x 122) .I) .I
noncomputable def Vd:SL:= .u (.e<|.cU af<|.u (.U (.e<|.x 65) .LtE ar)<|.u (.U ar .LtE<|.e<|.x 90) .I) .I
noncomputable def Vc:SL:= .u (.e<|.cU ai<|.u (.aN 179 lG)<|.u (.aN 186 lG)<|.u (.aN 172 lG)<|.u (.U ar .Eq<|.e<|.x 95) .I) .I
noncomputable def Vj:SL:= .u (.e<|.cU af<|.u (.U bU .LtE ar)<|.u (.U ar .Lt<|.e<|.x 128)<|.u (.U (.bi 4 lG) .In<|.e<|.z Ub) .I) .I
noncomputable def Vh:SL:= .u (.e<|.cU af<|.u (.U ar .GtE<|.e<|.x 32)<|.u (.U ar .NotEq<|.e<|.x 127)<|.u (.U ar .LtE<|.e<|.x 1114111) .I) .I
noncomputable def U5:SL:= .u (.d (.ah<|.aN 172 lG) (.u (.e<|.aS 0 .Sub ar<|.e<|.x 48) .I) .I)<|.u (.d (.ah<|.aN 179 lG) (.u (.e<|.aS 0 .Sub ar<|.e<|.x 87) .I) .I)<|.u (.d (.ah<|.aN 186 lG) (.u (.e<|.aS 0 .Sub ar<|.e<|.x 55) .I) .I)<|.u (.e ke) .I
noncomputable def U4:SL:= .u (.e<|.bm 4 xk<|.u (.c 5 (.bi 4 dO) 1 ar .I) .I) .I
noncomputable def Vr:SL:= .u (.d (.ah<|.U ar .Eq<|.e<|.x 98) (.u (.e f7) .I) .I)<|.u (.d (.ah<|.U ar .Eq<|.e<|.x 111) (.u (.e<|.e<|.x 8) .I) .I)<|.u (.d (.ah<|.U ar .Eq<|.e<|.x 120) (.u (.e<|.e<|.x 16) .I) .I) xq
noncomputable def IK:SL:= .u (.c (.ao ar 370 0) aU)<|.u (.c lE a8)<|.u (.c (.ao ar 370 2) a8) .I
noncomputable def UP:SL:= .u (.d (.ah<|.U aU .GtE<|.bi 0<|.u tI .I) (.u (.e<|.e<|.x (-1)) .I) .I)<|.u (.c dE<|.ak tI aU)<|.u (.d (.cQ<|.u (.ah<|.U a8 .Lt bU)<|.u (.ah<|.U a8 .Gt<|.e<|.x 1114111) .I) (.u (.e<|.e<|.x (-2)) .I) .I)<|.u (.e a8) .I
noncomputable def IM:SL:= .u (.d (.ah<|.U (.ak tI cM) .Eq vg) (.u (.c dE u6)<|.u (.c gP bE) .I)<|.u (.c gP<|.aS 0 .Add bY bE) .I)<|.u (.c jl rT) .I
noncomputable def UT:SL:= .u (.c dE bE)<|.u (.c gP bE)<|.u (.c jl bU)<|.u (.k (.aB<|.u (.ah<|.U cM .Lt aU)<|.u (.ah<|.U cM .Lt<|.bi 0<|.u tI .I) .I) IM)<|.u (.e<|.ax<|.u a8 jF) .I
noncomputable def US:SL:= .u (.c (.U [3,4])<|.I ar 370 262 cT)<|.u (.e<|.s<|.u aU<|.u a8<|.u bY mF) .I
noncomputable def fM:SL:= .u (.c kQ qq)<|.u (.f<|.I ar 370 290 .I)<|.u (.c dE qq)<|.u (.d (.ah<|.U a8 .GtE<|.bi 0<|.u tI .I) (.u (.e<|.ax<|.u (.e<|.z vj)<|.u xk cT) .I) .I)<|.u (.c gP<|.I ar 370 255 cT)<|.u (.d (.ah<|.U bY .Eq<|.e<|.x 40) (.u (.c lE u6)<|.u (.d (.cQ<|.u (.ah<|.U a8 .Gt aU)<|.u (.ah<|.U a8 .Eq<|.ao ar 370 2) .I) (.u (.e<|.ax<|.u (.e<|.z r8)<|.u (.e<|.z iJ) cT) .I) .I)<|.u (.e<|.ax<|.u (.e<|.z mH)<|.u (.e<|.z iJ) cT) .I) .I)<|.u (.d (.ah<|.aN 179 jF) (.u (.e<|.ax<|.u mD<|.u (.I ar 370 311 cT) cT) .I) .I)<|.u (.d (.cQ<|.u (.ah<|.aN 186 jF)<|.u (.ah<|.U bY .Eq<|.e<|.x 95) .I) (.u (.e<|.ax<|.u (.e<|.z r9)<|.u (.I ar 370 311 cT) cT) .I) .I)<|.u (.d (.ah<|.aN 172 jF) (.u (.e<|.I ar 370 332 cT) .I) .I)<|.u (.d (.ah<|.U bY .Eq<|.e<|.x 39) (.u (.e<|.ax<|.u (.e<|.z kR)<|.u (.aN 219<|.u (.I ar 370 353<|.u a8<|.u (.e<|.x 39) .I) .I) cT) .I) .I)<|.u (.d (.ah<|.U bY .Eq<|.e<|.x 34) (.u (.e<|.ax<|.u (.e<|.z tO)<|.u (.bi 7<|.u (.I ar 370 353<|.u a8<|.u (.e<|.x 34) .I) .I) cT) .I) .I)<|.u (.d (.ah<|.U bY .Eq<|.e<|.x 96) (.u (.e<|.ax<|.u (.e<|.z TS)<|.u (.bi 7<|.u (.I ar 370 353<|.u a8<|.u (.e<|.x 96) .I) .I) cT) .I) .I)<|.u (.d (.ah<|.aN 200 jF) (.u (.e<|.I ar 370 318 cT) .I) .I)<|.u (.c lE u6)<|.u (.c jl<|.bi 4<|.u (.bi 6<|.u bY gO) .I)<|.u (.d (.ah<|.U cM .In<|.e<|.z Dd) (.u (.e<|.ax<|.u (.e<|.z nU)<|.u cM cT) .I) .I)<|.u (.d (.ah<|.U cM .In<|.e<|.z TZ) (.u (.e<|.ax<|.u mD<|.u cM cT) .I) .I)<|.u (.j<|.I ar 370 269<|.u (.e<|.z Ir) cT) .I
noncomputable def IQ:SL:= .u (.c kQ<|.I ar 370 255<|.u qq .I)<|.u (.d (.ah<|.aN 165 dO) (.u (.c lE<|.aS 0 .Add qq bE) .I)<|.u (.d (.ah<|.U aU .Eq<|.e<|.x 37) (.u .p .I)<|.u (.d (.aB<|.u (.ah<|.U aU .Eq<|.e<|.x 47)<|.u (.ah<|.U (.I ar 370 255<|.u (.aS 0 .Add qq bE) .I) .Eq<|.e<|.x 42) .I) (.u .p .I) u9) .I) .I) .I
noncomputable def UW:SL:= .u (.k (.ah mE) IQ) .I
noncomputable def U0:SL:= .u (.c dE u6) .I
noncomputable def UZ:SL:= .u (.c dE aU)<|.u (.k (.ah<|.aN 193<|.u (.I ar 370 255 cT) .I) U0)<|.u (.c lE a8)<|.u (.e<|.aN 219<|.u (.q 6 tI aU a8) .I) .I
noncomputable def UY:SL:= .u (.c dE u6) .I
noncomputable def UX:SL:= .u (.d (.aB<|.u (.ah<|.U (.I ar 370 255 dO) .Eq<|.e<|.x 46)<|.u (.ah<|.I ar 370 325<|.u xm .I) .I) (.u (.c lE xm)<|.u (.e<|.ax<|.u va<|.u (.e<|.z kg) dO) .I) .I)<|.u (.c dE aU)<|.u (.k (.ah<|.aN 200<|.u (.I ar 370 255 cT) .I) UY)<|.u (.c lE a8)<|.u (.e<|.ax<|.u mD<|.u (.aN 219<|.u (.q 7 tI aU a8) .I) dO) .I
noncomputable def UR:SL:= .u (.c dE<|.I ar 370 255 dO)<|.u (.e<|.cU ai<|.u (.U a8 .Eq<|.e<|.x (-1))<|.u (.U a8 .Eq<|.e<|.x 37)<|.u (.aN 165 cT) .I) .I
noncomputable def IL:SL:= .u (.d (.ah<|.U (.I ar 370 255 dO) .Eq<|.e<|.x 48) (.u (.c dE<|.I ar 370 255<|.u xm .I)<|.u (.d (.ah<|.U a8 .Eq<|.e<|.x 39) (.u .p .I) .I)<|.u (.c gP<|.aN 233 cT)<|.u (.c jl<|.aN 214<|.u (.I ar 370 255<|.u (.aS 0 .Add aU f7) .I) .I)<|.u (.d (.aB<|.u (.ah<|.U bU .LtE cM)<|.u (.ah<|.U cM .Lt bY) .I) (.u (.e<|.ax<|.u (.e<|.z lL)<|.u (.I ar 370 339<|.u (.aS 0 .Add aU f7) jF) dO) .I) .I) .I) .I)<|.u (.c (.J 5)<|.I ar 370 339<|.u aU<|.u vg .I)<|.u (.d (.aB<|.u (.ah<|.U (.I ar 370 255<|.u qq .I) .Eq<|.e<|.x 46)<|.u (.ah<|.aN 172<|.u (.I ar 370 255<|.u (.aS 0 .Add qq bE) .I) .I) .I) (.u (.f<|.I ar 370 339<|.u (.aS 0 .Add qq bE)<|.u vg .I)<|.u .p .I) .I)<|.u (.e<|.ax<|.u (.e<|.z lL)<|.u fD dO) .I
noncomputable def IJ:SL:= .u (.c jl<|.aN 214<|.u (.I ar 370 255 dO) .I)<|.u (.d (.cQ<|.u (.ah<|.U cM .Lt bU)<|.u (.ah<|.U cM .GtE a8) .I) (.u (.c lE aU)<|.u (.e bY) .I) .I)<|.u (.c gP<|.aS 0 .Add (.aS 0 .Mult bY a8) cM)<|.u (.c kQ xm) .I
noncomputable def UQ:SL:= .u (.c gP bU)<|.u (.k (.ah mE) IJ) .I
noncomputable def IP:SL:= .u (.c jl qq)<|.u (.c (.J 5)<|.I ar 370 255 mF)<|.u (.d (.ah<|.U fD .Eq a8) (.u (.d (.ah<|.U (.I ar 370 255<|.u rT .I) .NotEq a8) (.u (.c lE rT)<|.u (.e bY) .I) .I)<|.u (.f<|.bm 0 bY cT)<|.u (.c lE<|.aS 0 .Add cM f7) .I)<|.u (.d (.cQ<|.u (.ah<|.U fD .Eq<|.e<|.x (-1))<|.u (.ah<|.U fD .Eq vg) .I) (.u (.j<|.I ar 370 269<|.u (.e<|.z TY) dO) .I)<|.u (.d (.aB<|.u (.ah<|.U fD .Eq<|.e<|.x 92)<|.u (.ah<|.U (.I ar 370 255<|.u rT .I) .Eq vg) .I) (.u (.c lE<|.aS 0 .Add cM f7) .I)<|.u (.d (.ah<|.U fD .Eq<|.e<|.x 92) (.u .p<|.u (.d (.ah<|.U iX .Lt bU) (.u .p<|.u .p .I) .I)<|.u (.f<|.bm 0 bY<|.u iX .I) .I)<|.u (.d (.ah<|.aN 207 qr) (.u (.f<|.bm 0 bY qr)<|.u (.c lE rT) .I)<|.u .p<|.u (.j<|.I ar 370 269<|.u (.e<|.z Ir) mF) .I) .I) .I) .I) .I) .I
noncomputable def UU:SL:= .u (.c lE xm)<|.u (.c gP<|.u 8 .I)<|.u (.k (.ah mE) IP) .I
noncomputable def Vt:SL:= .u (.e<|.ax<|.u (.e<|.z vo) lG) .I
noncomputable def U1:SL:= .u (.e<|.ax<|.u rU lG) .I
noncomputable def Vb:SL:= .u (.e<|.ax<|.u (.e<|.z nT) lG) .I
noncomputable def Vs:SL:= .u (.e<|.ax<|.u qp<|.u ar<|.u (.bi 7 dO) .I) .I
noncomputable def I2:SL:= .u (.c dE<|.ax<|.u qp<|.u bU<|.u (.ax<|.u bY cT) .I) .I
noncomputable def I1:SL:= .u (.c dE<|.d (.ah<|.U aU .Is fB) (.e<|.U [.z mG, .x 0]) aU)<|.u (.g gP (.d ar) I2)<|.u (.e a8) .I
noncomputable def Va:SL:= .u (.e<|.ax<|.u (.ax<|.u (.e<|.z Ig)<|.u xj<|.u (.ax<|.u xo<|.u xj .I)<|.u rR .I)<|.u (.ax<|.u (.e<|.z Ih)<|.u (.e<|.z xw)<|.u (.ax<|.u (.e<|.z Io)<|.u (.e<|.z xw) .I)<|.u mE .I)<|.u (.ax<|.u (.e<|.z vi)<|.u (.e<|.z kf)<|.u (.ax<|.u (.e<|.z kf)<|.u (.e<|.z C7)<|.u (.e<|.z C6) .I)<|.u mE .I)<|.u (.ax<|.u (.e<|.z Ik)<|.u (.e<|.z xy)<|.u (.ax<|.u (.e<|.z xy)<|.u (.e<|.z Ii) .I)<|.u rR .I)<|.u (.ax<|.u (.e<|.z Il)<|.u (.e<|.z xA)<|.u (.ax<|.u (.e<|.z xA) .I)<|.u rR .I)<|.u (.ax<|.u (.e<|.z Im)<|.u xo<|.u (.ax<|.u xo<|.u xj .I)<|.u mE .I)<|.u (.ax<|.u (.e<|.z Iv)<|.u (.e<|.z qs)<|.u (.ax<|.u (.e<|.z qs)<|.u (.e<|.z tM)<|.u (.e<|.z Iw) .I)<|.u mE .I) .I) .I
noncomputable def U9:SL:= .u (.d (.ah<|.U ar .In<|.e<|.U [.z r7, .z qt]) (.u (.e<|.e<|.z vk) .I) .I)<|.u (.d (.ah<|.U ar .In<|.e<|.U [.z xK, .z fq, .z qw]) (.u (.e<|.e<|.z xv) .I) .I)<|.u (.d (.ah<|.U ar .In<|.e<|.U [.z se, .z qv]) (.u (.e<|.e<|.z Iq) .I) .I) u9
noncomputable def U2:SL:= .u (.c dE<|.aS 0 .Sub ar bE)<|.u (.d (.ah<|.U aU .Eq<|.e<|.z r7) (.u (.e<|.ax<|.u bU cT) .I) .I)<|.u (.d (.ah<|.U aU .Eq<|.e<|.z qt) (.u (.e<|.ax<|.u bU lG) .I) .I)<|.u (.d (.ah<|.U aU .Eq<|.e<|.z se) (.u (.e<|.ax<|.u a8 gO) .I) .I)<|.u (.d (.ah<|.U aU .Eq<|.e<|.z qv) (.u (.e<|.ax<|.u ar gO) .I) .I)<|.u (.d (.ah<|.U aU .Eq xr) (.u (.e<|.ax<|.u a8 lG) .I) .I)<|.u (.d (.ah<|.U aU .Eq<|.e<|.z qw) (.u (.e<|.ax<|.u ar cT) .I) .I)<|.u (.e<|.ax<|.u a8 cT) .I
noncomputable def Iz:SL:= .u (.c (.ao ar 558 0) aU)<|.u (.c (.ao ar 558 1)<|.h 9 1)<|.u (.c (.ao ar 558 2)<|.h 10 1)<|.u (.c (.ao ar 558 3)<|.h 11 1)<|.u (.f<|.I ar 558 499<|.u (.e<|.x 1000)<|.u xr<|.u tL .I)<|.u (.d (.ah a8) (.u .p .I) .I) .I
noncomputable def Ul:SL:= .u (.e<|.bm 3 (.ao ar 558 1) dO) .I
noncomputable def Ui:SL:= .u (.e<|.bm 3 (.ao ar 558 2) dO) .I
noncomputable def Uk:SL:= .u (.e<|.bm 3 (.ao ar 558 3) dO) .I
noncomputable def Uj:SL:= .u (.e<|.cU ai<|.u (.U aU .In<|.ao ar 558 1)<|.u (.U aU .In<|.ao ar 558 2)<|.u (.U aU .In<|.ao ar 558 3) .I) .I
noncomputable def Um:SL:= .u (.c dE<|.aN 435 dO)<|.u (.d (.ah<|.U a8 .Eq<|.e<|.z vk) (.u (.e<|.ao ar 558 1) .I) .I)<|.u (.d (.ah<|.U a8 .Eq<|.e<|.z xv) (.u (.e<|.ao ar 558 2) .I) .I)<|.u (.e<|.ao ar 558 3) .I
noncomputable def Uh:SL:= .u (.c jl<|.I ar 558 492 cT)<|.u (.d (.ah<|.U aU .Gt bU) (.u (.c (.ak cM bY)<|.ax<|.u aU cT) .I)<|.u (.d (.ah<|.U bY .In cM) (.u .p .I) .I) .I) .I
noncomputable def Dg:SL:= .u (.c (.ak (.ao ar 612 1) a8)<|.I aU 154 88 jF)<|.u (.c (.ak (.ao ar 612 2) a8) cM)<|.u (.d (.j<|.ah fD) (.u (.f<|.bm 0 (.ao ar 612 3) cT) .I) .I) .I
noncomputable def Ud:SL:= .u (.c (.ao ar 612 0) aU)<|.u (.c (.ao ar 612 1)<|.h 12 0)<|.u (.c (.ao ar 612 2)<|.h 13 0)<|.u (.c (.ao ar 612 3)<|.u 14 .I)<|.u (.g (.U [2,3,4,5]) (.u<|.aN 428 .I) Dg) .I
noncomputable def Ue:SL:= .u (.d (.ah<|.U aU .NotIn<|.ao ar 612 1) u9 .I)<|.u (.e<|.aN 389<|.u (.ak (.ao ar 612 1) aU) .I) .I
noncomputable def Ug:SL:= .u (.c (.ao ar 635 0) aU)<|.u (.c (.ao ar 635 1) a8)<|.u (.c (.ao ar 635 2) ke)<|.u (.c (.ao ar 635 3) ke)<|.u (.c (.ao ar 635 4) bU)<|.u (.c (.ao ar 635 5) fB)<|.u (.c (.ao ar 635 6)<|.u 15 .I) .I
noncomputable def U6:SL:= .u (.e<|.cU ai<|.u (.U (.ak ar bU) .Eq va)<|.u (.cU af<|.u C4<|.u (.cU ai<|.u HX<|.u (.U (.ak ar bE) .In<|.e<|.U [.z bZ, .z cG]) .I) .I) .I) .I
noncomputable def U3:SL:= .u (.e<|.cU ai<|.u (.U (.ak ar bU) .Eq va)<|.u (.cU af<|.u C4<|.u HX .I) .I) .I
noncomputable def Vg:SL:= .u (.e<|.cU af<|.u C4<|.u (.U (.ak ar bE) .Eq aU) .I) .I
noncomputable def Ut:SL:= .u (.c (.ao ar 843 0) aU)<|.u (.c (.ao ar 843 1) a8)<|.u (.c (.ao ar 843 2) bY)<|.u (.c (.ao ar 843 3) cM)<|.u (.c (.ao ar 843 4) bU)<|.u (.c (.ao ar 843 5)<|.u 16 .I)<|.u (.c rW<|.e<|.x 1200)<|.u (.c (.ao ar 843 7) fB)<|.u (.c (.ao ar 843 8) bU)<|.u (.c (.ao ar 843 9)<|.h 17 0)<|.u (.c (.ao ar 843 10)<|.u 18 .I)<|.u (.c (.ao ar 843 11)<|.h 19 1)<|.u (.c (.ao ar 843 12) bU) .I
noncomputable def Up:SL:= .u (.c (.U [1,2])<|.I ar 843 723 xg)<|.u (.c gP tF)<|.u (.d (.ah<|.U (.ak bY bU) .NotEq va) (.u (.j<|.I ar 843 716<|.u bY<|.u (.e<|.z Ij) .I) .I) .I)<|.u (.e aU) .I
noncomputable def IC:SL:= .u (.d (.aB<|.u (.ah<|.U (.ak (.ao ar 843 11) bY) .Eq bE)<|.u (.ah<|.U lF .NotEq<|.e<|.z eE) .I) (.u (.f<|.bm 0 aU<|.u (.ax<|.u a8 jF) .I) .I) .I) .I
noncomputable def UC:SL:= .u (.c kQ<|.u 20 .I)<|.u (.g (.U [2,3]) (.u<|.ao ar 843 10) IC)<|.u (.e aU) .I
noncomputable def Ux:SL:= .u (.e<|.ak (.ao ar 843 3)<|.ao ar 843 4) .I
noncomputable def UG:SL:= .u (.c kQ<|.ak (.ao ar 843 3)<|.ao ar 843 4)<|.u (.c (.ao ar 843 4)<|.aS 0 .Add (.ao ar 843 4) bE)<|.u (.e aU) .I
noncomputable def Us:SL:= .u (.e<|.s<|.u aU<|.u (.ak a8 f7)<|.u bU gO) .I
noncomputable def Uu:SL:= .u (.d (.ah<|.aN 653 dO) (.u (.e<|.I ar 843 709<|.u (.e<|.z TV) dO) .I) .I)<|.u (.d (.aB<|.u (.ah<|.U rY .Eq<|.e<|.z nU)<|.u (.ah<|.U (.ak aU bE) .In<|.e<|.U [.z bZ, .z cG]) .I) (.u (.e Ie) .I) .I)<|.u (.c gP<|.I ar 843 784 dO)<|.u (.d (.aB<|.u (.ah<|.U bY .GtE bU)<|.u (.cQ<|.u (.ah<|.U (.I vc 558 471 jF) .IsNot fB)<|.u (.ah<|.U (.I vc 558 478 jF) .IsNot fB) .I) .I) (.u (.e<|.I ar 843 709<|.u (.e<|.z TU) dO) .I) .I)<|.u (.e<|.I ar 843 709<|.u a8 dO) .I
noncomputable def zW:SL:= .u (.d (.ah<|.U a8 .Eq bU) (.u (.c dE<|.I ar 843 744 .I) .I)<|.u (.c dE<|.I ar 843 791 .I) .I) .I
noncomputable def IB:SL:= .u (.c rW aU)<|.u (.c dE bU)<|.u (.k (.ah<|.U a8 .NotEq f7) zW)<|.u (.e<|.ax<|.u (.ao ar 843 7)<|.u (.ao ar 843 8) .I) .I
noncomputable def UA:SL:= .u (.c (.ao ar 843 7) aU)<|.u (.c (.ao ar 843 8) a8)<|.u (.e bE) .I
noncomputable def Ur:SL:= .u (.c jl<|.aT 635 632 7<|.u aU<|.u (.ao ar 843 6) .I)<|.u (.c (.ao cM 635 3) a8)<|.u (.f<|.bm 0 oZ mF)<|.u (.c rW bY) xq
noncomputable def zV:SL:= .u (.c kQ<|.I ar 843 702 .I)<|.u (.c dE rY)<|.u (.d (.ah<|.U a8 .Eq<|.e<|.z lL) (.u (.e<|.I ar 843 730<|.u (.aN 396 u5) gO) .I) .I)<|.u (.d (.ah<|.U a8 .Eq<|.e<|.z r9) (.u (.e<|.I ar 843 730<|.u (.I ar 843 772 u5) gO) .I) .I)<|.u (.d (.ah<|.U a8 .Eq<|.e<|.z tO) (.u (.e<|.I ar 843 730<|.u (.I ar 843 777 u5) gO) .I) .I)<|.u (.d (.cQ<|.u (.ah<|.U a8 .Eq<|.e<|.z r8)<|.u (.ah<|.U a8 .Eq<|.e<|.z mH) .I) (.u (.e<|.I ar 843 737<|.u (.e<|.z lM)<|.u ke xg) .I) .I)<|.u (.d (.cQ<|.u (.ah<|.U a8 .Eq mD)<|.u (.ah<|.U a8 .Eq<|.e<|.z kR) .I) (.u (.e<|.I ar 843 751<|.u (.I rX 154 88 u5) dO) .I) .I)<|.u (.d (.ah<|.aN 660<|.u aU<|.u (.e<|.z eH) .I) (.u (.d (.ah<|.aN 660<|.u tF<|.u xt .I) (.u rS<|.u (.e<|.I ar 843 751<|.u bU dO) .I) .I)<|.u (.e<|.I ar 843 737<|.u (.e<|.z jm)<|.u ke<|.u ve .I) .I) .I)<|.u (.d (.ah<|.aN 660<|.u aU<|.u (.e<|.z fL) .I) (.u (.d (.ah<|.aN 660<|.u tF<|.u (.e<|.z e9) .I) (.u rS<|.u (.e<|.I ar 843 751<|.u f7 dO) .I) .I)<|.u (.e<|.I ar 843 737<|.u (.e<|.z lJ)<|.u ke xg) .I) .I)<|.u (.j Ie) .I
noncomputable def Uv:SL:= .u (.c gP tF)<|.u (.d (.ah<|.U (.ak bY bU) .Eq<|.e<|.z mH) (.u rS<|.u (.e<|.I ar 843 737<|.u (.e<|.z ic)<|.u aU<|.u ve .I) .I) .I)<|.u (.d (.aB<|.u (.ah<|.U lF .Eq mD)<|.u (.ah<|.U (.ak a8 bE) .Eq tH)<|.u (.ah<|.U (.ak bY bU) .Eq<|.e<|.z lL)<|.u (.ah<|.U (.ak bY f7) .Eq<|.aS 0 .Add (.ak a8 f7) bE) .I) (.u rS<|.u (.e<|.I ar 843 730<|.u (.aN 396<|.u (.fg<|.ak bY bE) .I) gO) .I) .I)<|.u (.d (.ah<|.I vc 558 485 dO) (.u (.e<|.I ar 843 758<|.u aU cT) .I) .I)<|.u (.e<|.I ar 843 730<|.u (.aN 389 dO) gO) .I
noncomputable def IA:SL:= .u (.d (.ah<|.aN 646<|.u tF .I) (.u (.d (.j<|.ah<|.I ar 843 765 .I) Ia .I)<|.u (.e<|.I ar 843 730<|.u (.aN 389 dO) gO) .I) .I)<|.u (.c gP<|.I vc 558 464 dO)<|.u (.d (.cQ<|.u (.ah<|.U bY .Is fB)<|.u (.ah<|.U (.ak bY bU) .Gt<|.ao ar 843 6) .I) Ia .I)<|.u (.c jl HY)<|.u (.c (.ao cM 635 2)<|.I rX 154 102<|.u aU nQ)<|.u (.c (.ao cM 635 4)<|.ak bY bU)<|.u (.f<|.bm 0 oZ mF)<|.u (.c rW<|.ak (.aN 442<|.u (.ak bY bU)<|.u (.ak bY bE) .I) bE) xq
noncomputable def UD:SL:= .u (.d (.aB<|.u (.ah oZ)<|.u Ib .I) vb .I)<|.u (.e<|.cU ai<|.u (.U (.ao ar 843 6) .Eq ve)<|.u (.aN 653<|.u tF .I) .I) .I
noncomputable def UH:SL:= .u (.d (.aB<|.u (.ah<|.U aU .NotEq<|.e<|.z eE)<|.u (.ah<|.U aU .In<|.ao ar 843 9) .I) (.u (.c dE<|.ak (.ao ar 843 9) aU)<|.u (.c (.ak (.ao ar 843 11) a8)<|.aS 0 .Add (.ak (.ao ar 843 11) a8) bE)<|.u (.e<|.aN 382 cT) .I) .I)<|.u (.c dE<|.ao ar 843 12)<|.u (.c (.ao ar 843 12) u6)<|.u (.d (.ah<|.U aU .NotEq<|.e<|.z eE) (.u (.c (.ak (.ao ar 843 9) aU) a8)<|.u (.c (.ak (.ao ar 843 11) a8) bE)<|.u (.f<|.bm 0 (.ao ar 843 10)<|.u (.ax<|.u aU cT) .I) .I) .I)<|.u (.e<|.aN 382 cT) .I
noncomputable def UE:SL:= .u (.d (.ah<|.U (.ao ar 843 2) .Eq<|.e<|.z C6) (.u (.e<|.aN 389<|.u (.I rX 154 88<|.u (.bm 4 xk<|.u (.c 21 (.bi 4 cT) 2 aU .I) .I) .I) .I) .I) .I)<|.u (.d (.ah<|.U (.ao ar 843 2) .Eq<|.e<|.z C7) (.u (.e<|.aN 411<|.u (.c 22 (.aN 389<|.u (.I rX 154 88<|.u (.bi 4 jF) .I) .I) 3 aU .I) .I) .I) .I)<|.u (.e<|.aN 411<|.u (.c 23 (.aN 396 mF) 4 aU .I) .I) .I
noncomputable def Uw:SL:= .u (.d (.cQ<|.u (.ah<|.U rY .Eq mD)<|.u (.ah<|.U rY .Eq<|.e<|.z kR) .I) (.u (.e<|.I rX 154 88 u5) .I) .I)<|.u (.d (.ah<|.aN 660<|.u aU<|.u u7 .I) (.u (.e tL) .I) .I)<|.u (.d (.ah<|.aN 660<|.u aU<|.u xp .I) (.u (.e<|.e<|.x 8) .I) .I)<|.u (.e ke) .I
noncomputable def sf:SL:= .u (.c kQ tF)<|.u (.c dE<|.I ar 843 784 dO)<|.u (.d (.aB<|.u (.ah<|.U a8 .GtE bU)<|.u (.ah<|.I ar 843 805 cT) .I) xq .I)<|.u (.d (.aB<|.u (.ah<|.U a8 .GtE bU)<|.u (.ah<|.I ar 843 812 cT) .I) (.u (.e bE) .I) .I)<|.u (.d (.j<|.ah oZ) (.u (.e f7) .I) .I)<|.u (.d Ib (.u (.f<|.I ar 843 819 .I)<|.u (.e bE) .I) .I)<|.u (.e<|.I ar 843 826 dO) .I
noncomputable def Un:SL:= .u (.d (.cQ<|.u (.ah<|.U aU .Is fB)<|.u (.ah<|.U rY .Gt<|.ao ar 843 6) .I) vb .I)<|.u (.e<|.U (.ao ar 843 8) .LtE<|.ak (.aN 442<|.u rY u5) bU) .I
noncomputable def UB:SL:= .u (.c dE<|.I vc 558 471 dO)<|.u (.d (.j<|.ah<|.I ar 843 798 cT) vb .I)<|.u rS<|.u (.c gP HY)<|.u (.c (.ao bY 635 2)<|.I rX 154 102<|.u aU iV)<|.u (.c (.ao bY 635 4) lF)<|.u (.c (.ao bY 635 5)<|.ao ar 843 7)<|.u (.f<|.bm 0 oZ jF)<|.u (.c rW<|.ak (.aN 442<|.u lF<|.u (.ak a8 bE) .I) bE)<|.u (.e mE) .I
noncomputable def Uo:SL:= .u (.c dE<|.I vc 558 478 dO)<|.u (.d (.j<|.ah<|.I ar 843 798 cT) vb .I)<|.u rS<|.u (.f<|.I ar 843 730<|.u (.aN 403<|.u (.I rX 154 102<|.u aU nQ)<|.u (.ax qm) .I)<|.u lF .I)<|.u (.e mE) .I
noncomputable def Uy:SL:= .u (.c kQ<|.bm 1 oZ .I)<|.u (.c rW<|.ao aU 635 1)<|.u (.d (.ah<|.U (.ao aU 635 5) .Is fB) (.u (.f<|.I ar 843 730<|.u (.aN 403<|.u (.ao aU 635 2)<|.u (.ax qm) .I)<|.u (.ao aU 635 4) .I) .I)<|.u (.f<|.I ar 843 730<|.u (.aN 403<|.u (.ao aU 635 2)<|.u (.ax<|.u (.ao aU 635 5) qm) .I)<|.u (.ao aU 635 4) .I) .I) .I
noncomputable def Dh:SL:= .u (.c dE<|.ak oZ ke)<|.u (.d (.aB<|.u (.ah<|.U tG .Eq<|.e<|.z lM) Ic) (.u (.e<|.I ar 843 840 qm) .I) .I)<|.u (.d (.aB<|.u (.ah<|.U tG .Eq<|.e<|.z lJ)<|.u (.ah<|.aN 660<|.u aU<|.u (.e<|.z e9) .I) .I) (.u (.e<|.I ar 843 840<|.u (.aN 403<|.u (.e<|.x 9)<|.u (.ax qm) .I) .I) .I) .I)<|.u (.d (.aB<|.u (.ah<|.U tG .Eq<|.e<|.z qu)<|.u (.ah<|.aN 660<|.u aU<|.u xt .I) .I) (.u (.e<|.I ar 843 840<|.u (.aN 411<|.u (.ao a8 635 6) qm) .I) .I) .I)<|.u (.d (.cQ<|.u (.ah<|.U tG .Eq<|.e<|.z ic)<|.u C5 .I) (.u (.d (.ah<|.aN 660<|.u aU<|.u u7 .I) (.u (.e<|.I ar 843 833<|.u tG .I) .I) .I)<|.u (.d (.aB<|.u C5<|.u (.ah<|.aN 660<|.u aU<|.u xp .I) .I) (.u (.e<|.I ar 843 833<|.u (.e<|.z qu) .I) .I) .I)<|.u (.d (.aB<|.u C5<|.u (.ah<|.aN 660<|.u aU<|.u xt .I) .I) (.u (.e<|.I ar 843 840<|.u (.aN 411<|.u (.aS 24 .Add (.ao a8 635 6)<|.u 25 qm) .I) .I) .I) .I)<|.u (.d (.aB<|.u (.ah<|.U tG .Eq<|.e<|.z ic) Ic) (.u (.c gP<|.aS 26 .Add (.ao a8 635 6)<|.u 27 qm)<|.u (.e<|.I ar 843 840<|.u (.aN 403<|.u (.I rX 154 102<|.u (.ao a8 635 3)<|.u (.bi 0 jF) .I)<|.u (.bi 7 jF) .I) .I) .I) .I) .I) .I)<|.u (.j<|.I ar 843 716<|.u aU<|.u (.e<|.z Ip) .I) .I
noncomputable def Uz:SL:= .u rS<|.u (.c dE<|.ak oZ ke)<|.u (.f<|.bm 0 (.ao a8 635 6) qm)<|.u (.c (.ao a8 635 0) aU)<|.u (.c rW ve) xq
noncomputable def Uq:SL:= .u rS<|.u (.c dE<|.bm 1 oZ .I)<|.u (.c rW<|.ao a8 635 1)<|.u (.e<|.I ar 843 730<|.u aU gO) .I
noncomputable def IF:SL:= .u (.c (.ao ar 886 0) aU)<|.u (.c (.ao ar 886 1) a8)<|.u (.c (.ao ar 886 2) bY)<|.u (.c (.ao ar 886 3)<|.aT 370 248 3<|.u cM qr)<|.u (.c (.ao ar 886 4) fD) .I
noncomputable def IG:SL:= .u (.c kQ<|.I ar 886 883 .I)<|.u (.d (.j<|.ah aU) u9 .I)<|.u (.c dE<|.aT 843 674 13<|.u (.ao ar 886 0)<|.u (.ao ar 886 1)<|.u (.I ar 886 876 .I) dO)<|.u (.l (.u (.c gP<|.I a8 843 681 .I) .I) 4<|.u (.j<|.I vf 370 269<|.u (.ao cM 0 0)<|.u (.ao cM 0 1) .I) .I)<|.u (.e<|.ax<|.u bY<|.u (.ao a8 843 10)<|.u (.I a8 843 688 .I) .I) .I
noncomputable def UJ:SL:= .u (.e<|.I (.ao ar 886 0) 154 95<|.u (.ak (.I (.ao ar 886 2) 612 581<|.u (.e<|.z vi) .I) bE) .I) .I
noncomputable def ID:SL:= .u (.f<|.bm 0 aU cT)<|.u (.c dE<|.I vf 370 276 .I) .I
noncomputable def UI:SL:= .u (.c kQ<|.u 28 .I)<|.u (.l (.u (.c dE<|.I vf 370 276 .I)<|.u (.k (.aB<|.u (.ah<|.U lF .NotEq va)<|.u (.ah<|.U lF .NotEq<|.e<|.z vj) .I) ID) .I) 3<|.u .p<|.u (.c (.ao ar 886 4)<|.ao vf 370 1)<|.u (.j bY) .I)<|.u (.c (.ao ar 886 4)<|.ao vf 370 1)<|.u (.d (.ah<|.U lF .Eq va) (.u (.f<|.bm 0 aU cT) .I)<|.u (.d (.ah aU) (.u (.j<|.I vf 370 269<|.u (.e<|.z TX)<|.u (.ak a8 f7) .I) .I) .I) .I)<|.u (.e aU) .I
noncomputable def IV:SL:= .u (.f<|.bm 0 aU<|.u (.aS 0 .Mod fD<|.e<|.x 840) .I)<|.u (.m 5 .FloorDiv<|.e<|.x 840)<|.u (.d (.ah<|.U fD .Eq bU) (.u .r .I) .I) .I
noncomputable def IU:SL:= .u (.c jl<|.bi 2 jF)<|.u (.c dE<|.aS 0 .Mod (.aS 0 .Add (.aS 0 .Mult a8<|.e<|.x 31) cM)<|.e<|.x 1009)<|.u (.c (.J 5)<|.bi 1 mF)<|.u (.g (.J 6) (.a<|.e<|.x 60) IV)<|.u (.d (.ah<|.U (.bi 0 dO) .Gt<|.e<|.x 400) (.u .r .I) .I) .I
noncomputable def Vo:SL:= .u (.c kQ<|.u 29 .I)<|.u (.c dE tK)<|.u (.g gP (.u<|.q 30 ar fB<|.e<|.x 40) IU)<|.u (.e<|.u 31<|.u aU<|.u bU cT) .I
noncomputable def Vn:SL:= .u (.d (.ah<|.U (.ak ar bE) .Lt<|.bi 0<|.u (.ak ar bU) .I) (.u (.c dE<|.ak (.ak ar bU)<|.ak ar bE)<|.u (.n ar bE .Add bE) .I)<|.u (.d (.ah<|.U (.bi 0<|.u (.ak ar bU) .I) .Lt lD) (.u (.c dE bU) .I)<|.u (.c (.ak ar f7)<|.aS 0 .Mod (.aS 0 .Add (.aS 0 .Mult (.ak ar f7)<|.e<|.x 37)<|.e<|.x 11)<|.e<|.x 1009)<|.u (.c dE<|.ak ar f7) .I) .I)<|.u (.e<|.aS 0 .Mod a8 aU) .I
noncomputable def xO:SL:= .u (.c (.J 6)<|.aN 904<|.u ar<|.u tL .I)<|.u (.d (.ah<|.U iX .In<|.u 37<|.u bE<|.u lD<|.u tK .I) (.u (.c (.ak a8 fD)<|.ax<|.u C3<|.u (.ak (.u 38<|.u (.e<|.z qt)<|.u (.e<|.z r7) .I) xh) .I) .I) .I)<|.u (.d (.ah<|.U iX .In<|.u 39<|.u bU<|.u f7<|.u lD .I) (.u (.c (.ak bY fD)<|.ax<|.u C3<|.u (.ak (.u 40<|.u (.e<|.z qw)<|.u xr<|.u (.e<|.z xK) .I) zS) .I) .I) .I)<|.u (.d (.ah<|.U iX .In<|.u 41<|.u tJ<|.u tK .I) (.u (.c (.ak cM fD)<|.ax<|.u C3<|.u (.ak (.u 42<|.u (.e<|.z qv)<|.u (.e<|.z se) .I) xh) .I) .I) .I) .I
noncomputable def Vq:SL:= .u (.c kQ<|.u 32<|.u (.e<|.x 500)<|.u (.e<|.x 499)<|.u ve<|.u (.e<|.x 1000)<|.u (.e<|.x 1001)<|.u (.e<|.x 1200)<|.u (.e<|.x 1199)<|.u bE iV)<|.u (.c dE<|.h 33 0)<|.u (.c gP<|.w 34 u7<|.ax<|.u (.e<|.x 1000)<|.u xr .I)<|.u (.c jl<|.h 35 0)<|.u (.g (.J 5) (.u<|.u 36 HV) xO)<|.u (.d (.ah<|.U xh .Eq bE) (.u (.c (.ak bY xp)<|.ax<|.u (.e<|.x 1100)<|.u xr .I) .I) .I)<|.u (.e<|.ax<|.u a8<|.u bY mF) .I
noncomputable def Vp:SL:= .u (.c (.U [1,2]) ar)<|.u (.c gP<|.d (.ah<|.U lF .Eq<|.e<|.z Iy) aU<|.aS 0 .Sub aU bE)<|.u (.c jl<|.d (.ah<|.U (.ak a8 ke) .Eq<|.e<|.z Iy) aU<|.aS 0 .Sub aU bE)<|.u (.e<|.ax<|.u bY mF) .I
noncomputable def Di:SL:= .u (.c (.J 9)<|.ak (.ak a8 kP) bE)<|.u (.d (.aB<|.u (.ah<|.U (.ak (.ak a8 kP) bU) .Eq mD)<|.u (.ah<|.U iW .In iH)<|.u (.ah<|.U (.ax<|.u cM<|.u kP .I) .In bY)<|.u (.ah<|.U (.ax<|.u (.aS 0 .Add kP bE) qr) .In bY) .I) (.u (.c (.U [13,14])<|.ak bY<|.ax<|.u cM<|.u kP .I)<|.u (.c (.U [15,16])<|.ak bY<|.ax<|.u (.aS 0 .Add kP bE) qr)<|.u (.c (.J 17)<|.aN 918<|.u (.ak iH iW) .I)<|.u (.d (.aB<|.u (.ah<|.U (.J 14) .LtE<|.ak (.J 17) bU)<|.u (.ah<|.U (.J 16) .LtE<|.ak (.J 17) bE) .I) (.u (.e<|.ax<|.u (.ax<|.u qp<|.u (.I ar 154 109<|.u iW iV)<|.u (.ax<|.u (.J 13)<|.u (.J 15) .I) .I)<|.u (.ak (.ak iH iW) bU) .I) .I) .I) .I) .I) .I
noncomputable def Vk:SL:= .u (.c (.U [6,7,8]) aU)<|.u (.c (.J 9)<|.ak (.ak a8 cM) bE)<|.u (.d (.aB<|.u (.ah<|.U (.ak (.ak a8 cM) bU) .Eq mD)<|.u (.ah<|.U iW .In iX)<|.u (.ah<|.U (.ax<|.u rT qr) .In bY) .I) (.u (.c (.U [10,11])<|.ak bY<|.ax<|.u rT qr)<|.u (.d (.ah<|.U (.J 11) .LtE<|.ak (.aN 918<|.u (.ak iX iW) .I) bE) (.u (.e<|.ax<|.u HW<|.u (.ak (.ak iX iW) bU) .I) .I) .I) .I) .I)<|.u (.g (.J 12) (.b rT xn) Di)<|.u (.c (.J 9)<|.ak (.ak a8 xn) bE)<|.u (.d (.aB<|.u (.ah<|.U (.ak (.ak a8 xn) bU) .Eq mD)<|.u (.ah<|.U iW .In gD)<|.u (.ah<|.U (.ax<|.u cM<|.u xn .I) .In bY) .I) (.u (.c (.U [10,11])<|.ak bY<|.ax<|.u cM<|.u xn .I)<|.u (.d (.ah<|.U (.J 11) .LtE<|.ak (.aN 918<|.u (.ak gD iW) .I) bU) (.u (.e<|.ax<|.u HW<|.u (.ak (.ak gD iW) bU) .I) .I) .I) .I) .I) u9
noncomputable def Dl:SL:= .u (.d (.aB<|.u (.ah<|.U (.ak cM bU) .Eq lC)<|.u (.ah<|.U (.ak cM bE) .Is fB) .I) u9 .I) .I
noncomputable def xN:SL:= .u (.c (.J 9) fB)<|.u (.c jl<|.ak a8 gD)<|.u (.d (.ah<|.U iH .Gt bE) (.u (.c (.J 9)<|.aN 925<|.u ar<|.u aU<|.u a8<|.u iX<|.u gD<|.u (.aS 0 .Add gD iH) .I) .I)<|.u (.d (.ah<|.U (.ak cM bU) .Eq lC) (.u (.c (.J 9)<|.ax<|.u (.ak cM bE) gO) .I)<|.u (.d (.aB<|.u (.ah<|.U (.ak cM bE) .NotIn<|.u 46 zR)<|.u (.j<|.ah<|.c 45 bE 11 aU<|.u (.ah<|.U (.ak cM bE) .In<|.J 11) .I) .I) (.u (.c (.J 9)<|.ax<|.u (.ax<|.u rU<|.u (.I ar 154 88<|.u (.ak cM bE) .I) .I) gO) .I) .I) .I) .I)<|.u (.d (.ah<|.U iW .IsNot fB) (.u (.c (.ak iX<|.ax<|.u gD<|.u (.aS 0 .Add gD iH) .I) iW) .I) .I) .I
noncomputable def IX:SL:= .u (.g (.J 8) (.a<|.aS 0 .Add (.aS 0 .Sub fD iH) bE) xN) .I
noncomputable def IW:SL:= .u (.g jl (.u a8) Dl)<|.u (.c (.J 5)<|.bi 0 cT)<|.u (.d (.aB<|.u (.ah<|.U fD .Eq bE)<|.u (.ah<|.U (.ak lF bU) .Eq mD) .I) (.u (.e<|.d (.ah<|.U (.ak lF bE) .In<|.u 43 zR) fB<|.ax<|.u rU<|.u (.I ar 154 88<|.u (.ak lF bE) .I) .I) .I) .I)<|.u (.c (.J 6)<|.h 44 2)<|.u (.g (.J 7) (.b bE<|.aS 0 .Add fD bE) IX)<|.u (.c (.J 10)<|.bm 3 iX<|.u (.ax<|.u bU qr)<|.u (.ax<|.u fB gO) .I)<|.u (.e<|.d (.ah<|.U (.ak lH bE) .LtE bY) (.ak lH bU) fB) .I
noncomputable def xM:SL:= .u (.c jl<|.aS 47 .Add (.u 48 HV)<|.d (.ah bY) (.u 49 .I)<|.u 50 zR)<|.u (.c (.J 5)<|.c 51 gD 8 cM<|.u (.ah<|.c 52 bE 9 a8<|.u (.ah<|.U gD .In<|.ak aU iW) .I) .I)<|.u (.d (.cQ<|.u (.ah<|.U fD .Eq<|.u 53 .I)<|.u (.ah<|.U (.aN 904<|.u ar<|.u (.e<|.x 8) .I) .Eq tL) .I) (.u (.c (.J 5) cM) .I) .I)<|.u (.c (.J 6)<|.ak fD<|.aN 904<|.u ar<|.u (.bi 0 qr) .I)<|.u (.c (.J 7)<|.cU af<|.u (.U iX .NotIn<|.u 54 zR)<|.u (.U (.aN 904<|.u ar<|.u (.e<|.x 6) .I) .Eq tK) .I)<|.u (.e<|.ax<|.u mD<|.u iX<|.u (.d (.ah iH) (.aS 0 .Add (.aS 0 .Add (.e<|.z jG) iX)<|.e<|.z jG) iX) .I) .I
noncomputable def IZ:SL:= .u (.d (.ah<|.U bY .Eq a8) (.u (.f<|.bm 0 (.ak aU bE) cT) HZ) .I) .I
noncomputable def IY:SL:= .u (.c dE<|.ak (.u 55<|.u (.e<|.z rZ)<|.u (.e<|.z r6)<|.u (.e<|.z lI)<|.u (.e<|.z eE) .I)<|.aN 904<|.u ar<|.u tJ .I)<|.u (.g (.U [3,4]) (.u rY) IZ)<|.u (.c jl<|.ak aU f7)<|.u (.n aU f7 .Add bE)<|.u (.d (.ah<|.U a8 .NotEq<|.e<|.z eE) (.u (.f<|.bm 0 rY<|.u (.ax<|.u a8 mF) .I)<|.u (.f<|.bm 0 (.ak aU bE) cT) .I) .I) HZ
noncomputable def Dj:SL:= .u (.c (.J 11)<|.aN 961<|.u ar<|.u aU<|.u a8<|.u bY<|.u cM<|.u (.aS 0 .Add fD bE)<|.u mE .I)<|.u (.f<|.bm 0 (.J 13)<|.u (.aN 930<|.u aU<|.u a8<|.u (.J 11)<|.u ve .I) .I)<|.u (.f<|.bm 0 (.J 14)<|.u (.bm 4 (.e<|.z fK)<|.u (.c 59 (.ak (.J 20) f7) 20 (.J 11) .I) .I) .I) .I
noncomputable def IT:SL:= .u (.c (.J 10)<|.ax<|.u qp<|.u bU<|.u (.ax<|.u kP<|.u lH .I) .I) .I
noncomputable def jo:SL:= .u (.n cM lD .Sub bE)<|.u (.c (.J 8)<|.aN 904<|.u ar<|.u (.d (.aB<|.u (.ah<|.U fD .Lt f7)<|.u (.ah<|.U (.ak cM lD) .Gt bU) .I) vg lD) .I)<|.u (.d (.ah<|.U gD .Eq bU) (.u (.c (.J 9)<|.ak (.e<|.z TR) zS)<|.u (.e<|.ax<|.u lC<|.u (.ax<|.u rU<|.u (.I aU 154 88<|.u iW .I) .I)<|.u iW .I) .I) .I)<|.u (.d (.ah<|.U gD .Eq bE) (.u (.c (.J 10)<|.ak bY<|.aN 904<|.u ar<|.u (.bi 0 jF) .I)<|.u (.d (.aB<|.u (.ah iX)<|.u (.ah<|.U xh .Eq bE) .I) (.u (.e<|.ax<|.u lC<|.u (.ax<|.u (.e<|.z nT)<|.u (.fg lH) .I)<|.u (.aS 0 .Add tH<|.bi 3<|.u lH .I) .I) .I) .I)<|.u (.e<|.ax<|.u lC<|.u (.ax<|.u (.e<|.z nT)<|.u lH .I)<|.u (.bi 3<|.u lH .I) .I) .I) .I)<|.u (.d (.ah<|.U gD .Eq f7) (.u (.e<|.aN 942<|.u ar mF) .I) .I)<|.u (.d (.cQ<|.u (.ah<|.U gD .Eq lD)<|.u (.ah<|.U gD .Eq<|.e<|.x 6) .I) (.u (.c (.J 11)<|.aN 961<|.u ar<|.u aU<|.u a8<|.u bY<|.u cM<|.u (.aS 0 .Add fD bE)<|.u rR .I)<|.u (.c (.J 12)<|.aN 930<|.u aU<|.u a8<|.u (.J 11) xg)<|.u (.c (.J 9)<|.bm 4 (.e<|.z fK)<|.u (.c 56 (.ak (.J 19) f7) 19 (.J 11) .I) .I)<|.u (.d (.ah<|.U gD .Eq lD) (.u (.e<|.ax<|.u lC<|.u kP<|.u (.aS 0 .Add (.aS 0 .Add (.e<|.z iJ) iW)<|.e<|.z eP) .I) .I) .I)<|.u (.e<|.ax<|.u lC<|.u (.d (.ah<|.U kP .Is fB) fB<|.ax<|.u qp<|.u (.e<|.x 9)<|.u (.ax<|.u kP .I) .I)<|.u (.aS 0 .Add (.aS 0 .Add (.e<|.z fL) iW)<|.e<|.z e9) .I) .I) .I)<|.u (.d (.cQ<|.u (.ah<|.U gD .Eq tJ)<|.u (.ah<|.U gD .Eq tK) .I) (.u (.c (.J 13)<|.u 57 .I)<|.u (.c (.J 14)<|.u 58 .I)<|.u (.g (.J 15) (.a<|.aS 0 .Add bE zS) Dj)<|.u (.c (.J 16)<|.U (.c 60 bE 21 (.J 13)<|.u (.ah<|.U (.J 21) .Is fB) .I) .NotEq<|.u 61 .I)<|.u (.d (.ah<|.U gD .Eq tJ) (.u (.c (.J 17)<|.d (.ah iH) (.ak (.u 62<|.u (.e<|.z o7)<|.u tH<|.u (.e<|.z nS) .I) zS)<|.e<|.z o7)<|.u (.c (.J 10)<|.d (.ah<|.J 16) fB<|.ax<|.u qp<|.u (.I aU 154 109<|.u (.J 17)<|.u (.bi 0<|.u (.J 13) .I) .I)<|.u (.bi 7<|.u (.J 13) .I) .I)<|.u (.e<|.ax<|.u lC<|.u lH<|.u (.aS 0 .Add (.aS 0 .Add (.aS 0 .Add (.J 17)<|.e<|.z iJ)<|.bm 4 (.e<|.z f9)<|.u (.J 14) .I)<|.e<|.z eP) .I) .I) .I)<|.u (.c (.J 10)<|.ax<|.u rU gO)<|.u (.c (.J 18)<|.aS 0 .Add (.aS 0 .Add (.e<|.z eH)<|.bm 4 (.e<|.z f9)<|.u (.J 14) .I) xt)<|.u (.d (.aB<|.u (.ah<|.U (.bi 0<|.u (.J 13) .I) .Gt bE)<|.u (.ah<|.U xh .Eq bE) .I) (.u (.c (.J 10)<|.bm 1 (.J 13) .I)<|.u (.c (.J 18)<|.aS 0 .Add (.aS 0 .Add (.aS 0 .Add (.aS 0 .Add (.e<|.z eH)<|.bm 4 (.e<|.z f9)<|.u (.q 63 (.J 14) fB ke) .I)<|.e<|.z zU)<|.ak (.J 14) ke) xt) .I) .I)<|.u (.g (.J 12) (.d<|.J 13) IT)<|.u (.e<|.ax<|.u lC<|.u (.d (.ah<|.J 16) fB lH)<|.u (.J 18) .I) .I) .I)<|.u (.d (.ah<|.U gD .Eq tL) (.u (.e<|.ax<|.u lC<|.u (.ax<|.u qp<|.u bU<|.u (.ax<|.u (.ax<|.u (.e<|.z nT)<|.u (.e<|.x 97) .I)<|.u (.ax<|.u qp<|.u bU<|.u (.ax<|.u (.ax<|.u (.e<|.z nT)<|.u (.e<|.x 34) .I)<|.u (.ax<|.u rU gO) .I) .I) .I) .I)<|.u (.e<|.z Ua) .I) .I) .I)<|.u (.d (.ah<|.U gD .Eq<|.e<|.x 8) (.u (.e<|.ax<|.u lC<|.u (.ax<|.u rU gO)<|.u (.e<|.z Uc) .I) .I) .I)<|.u (.e<|.ax<|.u lC<|.u (.ax<|.u rU iV)<|.u (.e<|.z eR) .I) .I
noncomputable def IS:SL:= .u (.c dE<|.cU af<|.u (.U (.ak bY bU) .Eq mD)<|.u (.U (.ak bY bE) .In<|.ak aU<|.d (.ah a8) bU bE) .I) .I
noncomputable def Vl:SL:= .u (.c dE mE)<|.u (.g gP (.u ar) IS)<|.u (.e a8) .I
noncomputable def Dk:SL:= .u (.c (.J 10)<|.U (.aN 904<|.u ar<|.u (.e<|.x 12) .I) .Eq<|.e<|.x 11)<|.u (.d (.ah<|.U gD .NotEq lH) (.u (.d (.ah<|.U (.aN 904<|.u ar<|.u tJ .I) .Eq lD) (.u (.f<|.bm 0 iH<|.u (.aN 935<|.u ar<|.u a8<|.u (.u 65 gO)<|.u iX .I) .I) .I)<|.u (.f<|.bm 0 iH<|.u (.aN 947<|.u ar<|.u aU<|.u a8<|.u bY<|.u cM<|.u fD<|.u (.U iH .Eq<|.u 66 .I)<|.u (.aN 954<|.u iH cT) .I) .I)<|.u (.c (.J 8) rR) .I) .I)<|.u (.c (.J 11)<|.aN 935<|.u ar<|.u a8<|.u (.u 67<|.u bE iV)<|.u iX .I)<|.u (.f<|.bm 0 iH<|.u (.J 11) .I)<|.u (.c (.J 8)<|.U (.ak (.J 11) bE) .NotIn<|.ak a8 f7) .I) .I
noncomputable def Vm:SL:= .u (.c (.J 7)<|.u 64 .I)<|.u (.c (.J 8) mE)<|.u (.g (.J 9) (.a<|.aS 0 .Add bE<|.aN 904<|.u ar<|.u (.aS 0 .Sub tL<|.aS 0 .Mult f7 fD) .I) Dk)<|.u (.d (.aB<|.u (.ah gD)<|.u (.ah<|.U (.aN 904<|.u ar<|.u (.e<|.x 6) .I) .Lt tK) .I) (.u (.f<|.bm 0 iH<|.u (.aN 947<|.u ar<|.u aU<|.u a8<|.u bY<|.u cM<|.u fD<|.u (.U iH .Eq<|.u 68 .I)<|.u (.aN 954<|.u iH cT) .I) .I) .I) .I)<|.u (.e iH) .I
noncomputable def Dp:SL:= .u (.f<|.I cM 558 499<|.u (.ak iH bU)<|.u (.ak iH bE)<|.u (.I a8 154 88<|.u iX .I) .I) .I
noncomputable def Dm:SL:= .u (.g (.U [6,7]) (.c fD) Dp) .I
noncomputable def Dq:SL:= .u (.c (.J 12)<|.u 74<|.u (.u 76 .I)<|.u (.u 75 .I)<|.u bU<|.u (.e<|.x 12) .I)<|.u (.c (.J 13)<|.aN 961<|.u aU<|.u a8<|.u bY<|.u gD<|.u kP<|.u bU<|.u rR .I)<|.u (.m 9 .Add<|.aS 0 .Add (.bm 4 (.e<|.z fK)<|.u (.c 77 (.ak (.J 20) f7) 20 (.J 13) .I) .I)<|.e<|.z vp)<|.u (.c (.J 14)<|.aN 930<|.u a8<|.u bY<|.u (.J 13) xg)<|.u (.c (.J 15)<|.c 78 (.J 21) 21 (.ak kP bU)<|.u (.aB<|.u (.ah<|.U (.bm 2 (.ak kP bE)<|.u (.ak (.J 21) bU) .I) .Eq bE)<|.u (.ah<|.U (.ak (.J 21) bU) .NotEq<|.e<|.z lI) .I) .I)<|.u (.f<|.bm 0 lH<|.u (.d (.ah<|.U (.J 14) .Is fB) fB<|.ax<|.u (.J 14)<|.u (.ak kP bU)<|.u (.J 15) .I) .I) .I
noncomputable def Dr:SL:= .u (.c (.J 18) fB)<|.u (.q (.u (.c (.J 18)<|.I (.J 16) 886 869 .I)<|.u (.d (.ah<|.U (.J 18) .Is fB) vb .I) .I)<|.u (.c (.J 18) fB) .I)<|.u (.d (.ah<|.U (.J 18) .NotEq<|.J 17) vb .I) .I
noncomputable def I0:SL:= .u (.c kQ<|.aN 897 lG)<|.u (.c dE<|.aT 154 81 4 .I)<|.u (.c gP<|.aN 911 dO)<|.u (.c jl<|.aT 558 457 4<|.u a8<|.u rR .I)<|.u (.g (.J 5) (.u bY) Dm)<|.u (.c (.J 8)<|.aS 69 .Add (.u 70<|.u bE gO)<|.c 72 (.aS 0 .Mod (.bi 1<|.u (.bi 2<|.u (.J 19) .I) .I)<|.e<|.x<|10^30) 19 (.q 71 ar fB tJ) .I)<|.u (.c (.J 9) xk)<|.u (.c (.J 10)<|.u 73 .I)<|.u (.g (.J 11) (.a<|.aS 0 .Add bE<|.aN 904<|.u aU<|.u lD .I) Dq)<|.u (.c (.J 16)<|.aT 886 862 5<|.u a8<|.u cM<|.u (.aT 612 574 4 cT)<|.u (.c 79 (.bi 5<|.u (.J 22) .I) 22 iW .I) .I)<|.u (.g (.J 17) (.u lH) Dr)<|.u (.e<|.U (.I (.J 16) 886 869 .I) .Is fB) .I
noncomputable abbrev mC:Type:=(List V)×Nat×SL
noncomputable abbrev mC.e(x:mC):List V:=x.1
noncomputable abbrev mC.n(x:mC):Nat:=x.2.1
noncomputable abbrev mC.u(x:mC):SL:=x.2.2
noncomputable def tU:List (Nat×mC):=[(600,⟨[],0,U7⟩),
 (670,⟨[],0,U8⟩),
 (811,⟨[],2,UN⟩),
 (882,⟨[],2,UK⟩),
 (952,⟨[],0,UO⟩),
 (1023,⟨[],3,UM⟩),
 (1093,⟨[],0,UL⟩),
 (1651,⟨[],0,Vf⟩),
 (1721,⟨[],0,Ve⟩),
 (1791,⟨[],0,Vi⟩),
 (1861,⟨[],0,Vd⟩),
 (1931,⟨[],0,Vc⟩),
 (2001,⟨[],0,Vj⟩),
 (2071,⟨[],0,Vh⟩),
 (2141,⟨[],0,U5⟩),
 (2191,⟨[],1,U4⟩),
 (2331,⟨[],0,Vr⟩),
 (2483,⟨[],0,IK⟩),
 (2482,⟨[.x 0],0,IK⟩),
 (2552,⟨[],1,UP⟩),
 (2622,⟨[],3,UT⟩),
 (2693,⟨[],2,US⟩),
 (2761,⟨[],4,fM⟩),
 (2901,⟨[],1,UW⟩),
 (3112,⟨[],1,UZ⟩),
 (3182,⟨[],1,UX⟩),
 (3252,⟨[],1,UR⟩),
 (3322,⟨[],4,IL⟩),
 (3393,⟨[],2,UQ⟩),
 (3533,⟨[],4,UU⟩),
 (3821,⟨[],0,Vt⟩),
 (3891,⟨[],0,U1⟩),
 (3961,⟨[],0,Vb⟩),
 (4032,⟨[],0,Vs⟩),
 (4112,⟨[],2,I1⟩),
 (4111,⟨[.f],2,I1⟩),
 (4280,⟨[],0,Va⟩),
 (4351,⟨[],0,U9⟩),
 (4422,⟨[],1,U2⟩),
 (4573,⟨[],4,Iz⟩),
 (4572,⟨[.e af],4,Iz⟩),
 (4642,⟨[],0,Ul⟩),
 (4712,⟨[],0,Ui⟩),
 (4782,⟨[],0,Uk⟩),
 (4852,⟨[],0,Uj⟩),
 (4922,⟨[],1,Um⟩),
 (4994,⟨[],1,Uh⟩),
 (5742,⟨[],4,Ud⟩),
 (5812,⟨[],0,Ue⟩),
 (6323,⟨[],0,Ug⟩),
 (6461,⟨[],0,U6⟩),
 (6531,⟨[],0,U3⟩),
 (6602,⟨[],0,Vg⟩),
 (6745,⟨[],0,Ut⟩),
 (6811,⟨[],3,Up⟩),
 (6881,⟨[],3,UC⟩),
 (6951,⟨[],0,Ux⟩),
 (7021,⟨[],1,UG⟩),
 (7093,⟨[],0,Us⟩),
 (7163,⟨[],1,Uu⟩),
 (7232,⟨[],1,IB⟩),
 (7303,⟨[],0,UA⟩),
 (7374,⟨[],1,Ur⟩),
 (7441,⟨[],2,zV⟩),
 (7513,⟨[],1,Uv⟩),
 (7583,⟨[],2,IA⟩),
 (7651,⟨[],0,UD⟩),
 (7722,⟨[],1,UH⟩),
 (7772,⟨[],3,UE⟩),
 (7842,⟨[],0,Uw⟩),
 (7911,⟨[],2,sf⟩),
 (7982,⟨[],0,Un⟩),
 (8052,⟨[],2,UB⟩),
 (8122,⟨[],1,Uo⟩),
 (8191,⟨[],1,Uy⟩),
 (8262,⟨[],2,Dh⟩),
 (8332,⟨[],1,Uz⟩),
 (8402,⟨[],1,Uq⟩),
 (8626,⟨[],0,IF⟩),
 (8625,⟨[.x 0],0,IF⟩),
 (8691,⟨[],4,IG⟩),
 (8761,⟨[],0,UJ⟩),
 (8831,⟨[],3,UI⟩),
 (8971,⟨[],6,Vo⟩),
 (9042,⟨[],1,Vn⟩),
 (9111,⟨[],6,Vq⟩),
 (9181,⟨[],4,Vp⟩),
 (9256,⟨[],12,Vk⟩),
 (9304,⟨[],8,IW⟩),
 (9354,⟨[],6,xM⟩),
 (9422,⟨[],3,IY⟩),
 (9478,⟨[],14,jo⟩),
 (9542,⟨[],2,Vl⟩),
 (9617,⟨[],5,Vm⟩),
 (9661,⟨[],22,I0⟩)]
end
section
open PySem PySem.W PyProof.Rows PySem.Calls PySem.SeqAt
noncomputable def sh(K:eK)(a:Nat):Option FuncData:=(K.lookup a).bind λo=>@BB (λz=>Option pX) o.data ag (λz=>ag) (λz z=>ag) (λz z=>ag) (λz z z=>ag) (λz z=>ag) (λz=>ag) aa (λz=>ag) (λz=>ag) ag
theorem I4{K:eK}{a:Nat}{c:pX}(h:sh K a=aa c):∃o,K.lookup a=aa o/\o.data= .func c:=
 au (rA.mp h) λo e b=>⟨o,e,by
  revert b;generalize o.data=d;intro b
  induction d<;>first | exact congrArg Data.func (bP b) | exact a9 b⟩
noncomputable def vu(a:pX):List Str:=a.params.args.map (·.arg)
noncomputable def vt(K:eK)(c:pX)(n:Nat):List Value:=@EX (λz=>List aj) c.defaults [] [] [] (λz=>[]) (λz z=>[]) (λz z=>[]) (λz z=>[]) (λz z=>[]) (λz=>[]) (λz=>[]) λa=>@sN dw (λz=>List aj) (K.lookup a) [] λo=>@BB (λz=>List aj) o.data [] (λz=>[]) (λb z=>b.toList.drop<|b.size - n) (λz z=>[]) (λz z z=>[]) (λz z=>[]) (λz=>[]) (λz=>[]) (λz=>[]) (λz=>[]) []
theorem Vu{K:eK}{b:pX}:vt K b 0=[]:=by
 delta vt;generalize b.defaults=v;induction v with
 | ref a=>
  refine(?_:@sN dw (λz=>List aj) (K.lookup a) _ _=[]);generalize K.lookup a=m;induction m with
  | none=>rfl| some o=>refine(?_:@BB (λz=>List aj) o.data _ _ _ _ _ _ _ _ _ _ _=[]);generalize o.data=d;induction d<;>first | rfl | exact MF<|eW ac2
 | _=>rfl
noncomputable def vq(K:eK)(S:Setting)(u:Nat->aj)(a:List (Nat×Nat×List V)):List (Option<|List<|Str×aj):=
 a.map λr=>(sh K r.1).bind λb=>peek K S<|bindArgs b ⟨(sO r.2.1).map u,[]⟩
noncomputable def vr(K:eK)(u:Nat->aj)(a:List (Nat×Nat×List V)):List (Option<|List<|Str×aj):=
 a.map λr=>(sh K r.1).bind λb=>aa<|(vu b).zip<|(sO r.2.1).map u++vt K b r.2.2.length
theorem Vx(a:List aj):(sO a.length).map (λi=>a.getD i .none)=a:=by
 apply List.ext_getElem
 ·simp
 ·intro i c b;simp [b]
theorem I3{K:eK}{b:List (Nat×Nat×List V)}(h:∀S u,vq K S u b=vr K u b){a e:Nat}{f:List V}(g:(a,e,f)∈b){d:pX}(hf:sh K a=aa d){s:aq}{c:List aj}(X:K.In s.heap)(hl:c.length=e):
 BindsTo s d ⟨c,[]⟩ ((vu d).zip<|c++vt K d f.length):=by
 subst hl;refine kp_binds X λS=>?_;have:=(List.map_inj_left.mp<|h S λi=>c.getD i .none) _ g;rw [hf,Bf,Bf,Vx] at this;exact this
noncomputable def Vy(a:Nat)(b:List (Str×gU)):List (Str×Nat):=((b.filter λp=>p.2== .local||p.2== .cell).map (·.1)).zipIdx.map λp=>(p.1,if a==935 then(if p.2==5 then 6 else if p.2==6 then 5 else p.2) else p.2)
section
variable {B:aF} (hsys:∃o,B.u.get? iN=aa o) {fI:Nat} (Y:kN B fI)
noncomputable def zX(B:aF)(a:Nat)(b:pX):aI:=⟨b.scope.names,Vy a b.scope.names,B.I.J a⟩
noncomputable def I5(B:aF)(a d:Nat)(c:List V)(b:pX):Bool:=
 codeIn B.K b.code b.qualname&&(b.globals==jN&&(b.builtins==Be&&(b.closure.isEmpty&&(!b.scope.isCoroutine&&(!b.scope.isGenerator&&(b.scope.kind== .function&&(CQ (vu b) (zX B a b)&&((Gi B.K (zm B.K 1) c<|vt B.K b c.length).e&&d+c.length==(vu b).length))))))))
noncomputable def vv:List (Nat×mC)->List (Nat×Nat×List V):=Mf λr=>(r.1/10,r.1%10,r.2.e)
noncomputable def Vw(k:Nat)(r:Nat×mC):OP (∃d a,sh B.K (r.1/10)=aa d/\d.body= .stmts a/\gL B (zX B (r.1/10) d) k r.2.u a/\I5 B (r.1/10) (r.1%10) r.2.e d=af):=
 @sN pX (λm=>sh B.K (r.1/10)=m->OP _) (sh B.K (r.1/10)) (λz=> .u) (λd e=>@MG (λb=>d.body=b->OP _) d.body (λa f=>
  (Tn hsys Y k r.2.u (zX B (r.1/10) d) a).bo λh=>dq (I5 B (r.1/10) (r.1%10) r.2.e d) λc=>⟨d,a,e,f,h,c⟩) (λz z=> .u) rfl) rfl
noncomputable def Ds(k:Nat)(l:List (Nat×mC)):Bool:=l.all λr=>(Vw hsys Y k r).e
theorem Vv(h:∀k,Ds hsys Y k l=af)(m:∀S u,vq B.K S u (vv l)=vr B.K u (vv l))(f:r∈l){E:EP}{Q:QV}{H:HP}(hl:a.length=r.1%10)
 (q:aw (CR B k) r.2.u (iF (a++r.2.e) r.2.n) (.e E Q) H):CR B (k+1) (r.1/10) a E Q H:=by
 refine fV (OP.eM<|dT.mp (h k) r f) λg j i w v t=>au (I4 i) λo p n=>ay (bh t) λI c=>ay (bh c) λG c=>ay (bh c) λF c=>ay (bh c) λD c=>ay (bh c) λC c=>ay (bh c) λA c=>ay (bh c) λz c=>ay (bh c) λy c=>ay (bh c) λx b=>?_
 exact RU (Γ:=zX B (r.1/10) g) (ps:=vu g) (na:=r.1%10) (ds:=r.2.e) p n I w (beq_iff_eq.mp G) (beq_iff_eq.mp F) (ac3.mp D) (by simpa using C) (by simpa using A) (beq_iff_eq.mp z) rfl y
  (λs J X e=>have d:=OP.eM x X;(bT _ d (I3 m (gi.mpr ⟨r,f,rfl⟩) i X e)<|ae bI<|ae d.dN<|ae e<|beq_iff_eq.mp b)) v rfl hl q
end
noncomputable def Vz:List (Nat×List Str):=[
 (0,["kind","at","row","column"]),
 (154,["texts","atom_numbers","functors","functor_numbers"]),
 (370,["codes","at","origin"]),
 (558,["symbols","prefixes","infixes","postfixes"]),
 (612,["symbols","values","fitting","fixed"]),
 (635,["kind","limit","functor","name","priority","left","items"]),
 (843,["symbols","operators","mode","tokens","place","frames","limit","term","priority","numbers","names","counts","next_number"]),
 (886,["symbols","operators","flags","tokenizer","at"])]
noncomputable def vw(h:aG):PD:=⟨h,51,λa=>(Vz.lookup a).getD [],λa=>a==269||a==262⟩
end
section
open PySem
inductive Tm where
 | j (t:Str)
 | x (i:Int)
 | d (n:Int)
 | U (f:Str) (args:List Tm)
set_option genInjectivity true in
inductive aO where | u (s:Str) | J (t:Option Tm)
noncomputable def Tm.ctorIdx(t:Tm):Nat:=@Tm.casesOn (λz=>Nat) t (λz=>0) (λz=>1) (λz=>2) λz z=>3
noncomputable def aO.ctorIdx(t:aO):Nat:=@aO.casesOn (λz=>Nat) t (λz=>0) λz=>1
structure cX where
 bp:Str->Option (Int×Int)
 aZ:Str->Option (Int×Int×Int)
 bD:Str->Option (Int×Int)
noncomputable def cX.e(O:cX)(s:Str):Bool:=(O.bp s).isSome||(O.aZ s).isSome||(O.bD s).isSome
noncomputable def b9(s:Str):Bool:=s==bZ||s==cG
theorem I8(h:b9 s=af):s=bZ\/s=cG:=(wd.mp h).imp beq_iff_eq.mp beq_iff_eq.mp
inductive cX.a(O:cX):Prop
 | mk (pre:∀{s p r},O.bp s=aa (p,r)->0<=r/\r<=p/\1<=p/\b9 s=ai)
  (inf:∀{s p l r},O.aZ s=aa (p,l,r)->0<=l/\l<=p/\0<=r/\r<=p/\1<=p/\O.bD s=ag)
  (post:∀{s p l},O.bD s=aa (p,l)->0<=l/\l<=p/\1<=p/\b9 s=ai/\O.aZ s=ag)
section
variable (O:cX)
class inductive D:List aO->Tm->Int->Prop
 | J {t}:D [.J (aa t)] t 0
 | j {s} (h:O.e s=ai) (h':b9 s=ai):D [.u s] (.j s) 0
 | bp {s p r l t q} (h:O.bp s=aa (p,r)) (d:D l t q) (b:q<=r):D (.u s::l) (.U s [t]) p
 | aZ {s p x y l t q m u v} (d:D l t q) (h:O.aZ s=aa (p,x,y)) (b:q<=x) (e:D m u v) (b':v<=y):D (l++ .u s::m) (.U s [t,u]) p
 | bD {s p x l t q} (d:D l t q) (h:O.bD s=aa (p,x)) (b:q<=x):D (l++[.u s]) (.U s [t]) p
class inductive C:List aO->Tm->Int->Int->Prop
 | J {t}:C [.J (aa t)] t 0 (-1)
 | j {s} (h:O.e s=ai) (h':b9 s=ai):C [.u s] (.j s) 0 (-1)
 | bp {s p r l t q z} (h:O.bp s=aa (p,r)) (d:C l t q z) (b:q<=r):C (.u s::l) (.U s [t]) p r
 | aZ {s p x y l t q m u v z w} (d:C l t q z) (h:O.aZ s=aa (p,x,y)) (b:q<=x) (c:z<p) (e:C m u v w) (b':v<=y):C (l++ .u s::m) (.U s [t,u]) p y
 | bD {s p x l t q z} (d:C l t q z) (h:O.bD s=aa (p,x)) (b:q<=x) (c:z<p):C (l++[.u s]) (.U s [t]) p (-1)
variable {O}
theorem C.e{l t q z}(h:C O l t q z):D O l t q:=by induction h with| J=>exact .J| j h a=>exact .j h a| bp h _ b i=>exact .bp h i b| aZ _ h b _ _ c i j=>exact .aZ i h b j c| bD _ h b _ i=>exact .bD i h b
theorem C.u(W:O.a){l t q z}(h:C O l t q z):z<=q/\0<=q:=by induction h with| J=>exact⟨by decide,jy _⟩| j=>exact⟨by decide,jy _⟩| bp h d b=>exact⟨(W.1 h).2.1,dy (W.1 h).1 (W.1 h).2.1⟩| aZ d h b c e a=>exact⟨(W.2 h).2.2.2.1,dy (W.2 h).1 (W.2 h).2.1⟩| bD d h b c=>exact⟨dy (by decide)<|dy (W.3 h).1 (W.3 h).2.1,dy (W.3 h).1 (W.3 h).2.1⟩
theorem D.U{l t q}(W:O.a)(h:D O l t q):∃x r,l=x::r/\∀s,x= .u s->b9 s=false:=by induction h with| J=>exact⟨_,_,rfl,λs e=>nomatch e⟩| j h a=>exact⟨_,_,rfl,λs e=>Mine.Internal.aO.u.inj e▸a⟩| bp h d b i=>exact⟨_,_,rfl,λs e=>Mine.Internal.aO.u.inj e▸(W.1 h).2.2.2⟩| aZ d h b e c i j=>exact cm i λx r z k=>⟨x,_,congrArg (·++_) z,k⟩| bD d h b i=>exact cm i λx r z k=>⟨x,_,congrArg (·++_) z,k⟩
noncomputable def jq(O:cX)(b:Bool)(l:List aO)(a:Int):Option Int:=@gq aO (λz=>Bool->Int->Option Int) (λb a=>if b then ag else aa a) (λx z ih b a=>@aO.casesOn (λz=>Option Int) x (λs=>if b then(match O.bp s with | some e=>ih af (max a e.1) | none=>ih ai a) else(match O.aZ s with | some e=>ih af (max a e.1) | none=>match O.bD s with | some e=>ih ai (max a e.1) | none=>ag)) (λz=>if b then ih ai a else ag)) l b a
theorem I6{a p q:Int}(h:q<=p):max (max a p) q=max a p:=MI<|dy h<|Int.le_max_right a p
theorem I7{a p q:Int}(h:q<=p):max (max a q) p=max a p:=(Int.max_assoc a q p).trans<|congrArg (max a)<|A8 h
theorem VG(h:O.e s=ai):O.bp s=none:=mq λx e=>bC<|(congrArg uk e).symm.trans (Fd.mp (Fd.mp h).1).1
theorem D.jq(W:O.a){l t q}(h:D O l t q):0<=q/\∀r a,0<=a->Mine.Internal.jq O af (l++r) a=Mine.Internal.jq O ai r (max a q):=by induction h with| J=>exact⟨jy _,λr a h=>congrArg (Mine.Internal.jq O ai r) (MI h).symm⟩| @j s h g=>refine⟨jy _,λr a c=>(?_:(match O.bp s with | some e=>Mine.Internal.jq O af r (max a e.1) | none=>Mine.Internal.jq O ai r a)=_)⟩;exact ae (VG h)<|congrArg (Mine.Internal.jq O ai r) (MI c).symm| @bp s p x l t q h d b i=>have w:=W.1 h;refine⟨dy w.1 w.2.1,λr a c=>(?_:(match O.bp s with | some e=>Mine.Internal.jq O af (l++r) (max a e.1) | none=>Mine.Internal.jq O ai (l++r) a)=_)⟩;exact ae h<|(i.2 r _<|dy c<|MH a p).trans<|congrArg (Mine.Internal.jq O ai r)<|I6<|dy b w.2.1| @aZ s p x y l t q m u v d h b e f i j=>have w:=W.2 h;refine⟨dy w.1 w.2.1,λr a c=>ae (cv ..)<|ae (i.2 _ _ c) (?_:(match O.aZ s with | some e=>Mine.Internal.jq O af (m++r) (max (max a q) e.1) | none=>_)=_)⟩;exact ae h<|(j.2 r _<|dy c<|dy (MH a q)<|MH _ p).trans<|congrArg (Mine.Internal.jq O ai r)<|(I6<|dy f w.2.2.2.1).trans<|I7<|dy b w.2.1| @bD s p x l t q d h b i=>have w:=W.3 h;refine⟨dy w.1 w.2.1,λr a c=>ae (cv ..)<|ae (i.2 _ _ c) (?_:(match O.aZ s with | some e=>_ | none=>match O.bD s with | some e=>Mine.Internal.jq O ai r (max (max a q) e.1) | none=>ag)=_)⟩;exact ae w.2.2.2.2<|ae h<|congrArg (Mine.Internal.jq O ai r)<|I7<|dy b w.2.1
theorem D.e(W:O.a){l t q t' q'}(h:D O l t q)(a:D O l t' q'):q=q':=
 (A8 (h.jq W).1).symm.trans ((bP<|((h.jq W).2 [] 0<|jy _).symm.trans<|(a.jq W).2 [] 0<|jy _).trans<|A8 (a.jq W).1)
noncomputable def g9(O:cX)(l:List aO):Option (Tm×Int)->Prop
 | some (t,q)=>∃z,C O l t q z| none=>∀t q,¬D O l t q
theorem g9.eM(W:O.a)(h:g9 O l r)(d:D O l t q):∃a,r=aa (a,q)/\∃z,C O l a q z:=by induction r with| none=>exact absurd d<|h t q| some x=>exact o1 h λz c=>D.e W c.e d▸⟨x.1,rfl,z,c⟩
theorem C.U(W:O.a){l m:List aO}{t:Tm}{q z p x:Int}{u:Tm->Tm}(c:C O l t q z)(B:x<=p)(hp:1<=p)(b:q<=x)(A:∀a f o,D O a f o->o<=x->D O (a++m) (u f) p)
 (G:∀s a r f,l= .u s::a->O.bp s=aa (p,r)->D O (a++m) f p->¬p<=r)
 (F:∀v s g i j y n w,l=v++ .u s::g->O.aZ s=aa (p,i,j)->D O v y n->n<=i->D O (g++m) w p->¬p<=j):z<p:=by
 cases c with| J=>exact uA (by decide) hp| j=>exact uA (by decide) hp| bD=>exact uA (by decide) hp| @bp s _ _ a f o Q h d M=>refine ac4.mp λk=>?_;have e:p=q:=sX (dy k (W.1 h).2.1)<|dy b B;exact G s a z _ rfl (e▸h) (A a f o d.e<|dy M<|dy (W.1 h).2.1 b) k| @aZ s _ i _ v y n g w E P N I h L R H K=>refine ac4.mp λk=>?_;have e:p=q:=sX (dy k (W.2 h).2.2.2.1)<|dy b B;exact F v s g i z y n _ rfl (e▸h) I.e L (A g w E H.e<|dy K<|dy (W.2 h).2.2.2.1 b) k
structure OF where
 e:Int
 fn:Str
 c:Int
 b:Option Tm
noncomputable def OF.I(f:OF)(t:Tm):Tm×Int:=(match f.b with | none=> .U f.fn [t] | some u=> .U f.fn [u,t],f.c)
noncomputable def kT(O:cX)(s:Str)(L p:Int):Prop:=(∃i x y,O.aZ s=aa (i,x,y)/\i<=L/\p<=x)\/(∃i x,O.bD s=aa (i,x)/\i<=L/\p<=x)
class inductive fb(O:cX):Option (Tm×Int)->List aO->List OF->Int->Option (Tm×Int)->Prop
 | J {t r st L x} (h:fb O (aa (t,0)) r st L x):fb O ag (.J (aa t)::r) st L x
 | j {s r st L x} (h:O.e s=ai) (h':b9 s=ai) (k:fb O (aa (.j s,0)) r st L x):fb O ag (.u s::r) st L x
 | c {s L x} (h:O.e s=af) (h':b9 s=ai) (k:fb O (aa (.j s,0)) [] [] L x):fb O ag [.u s] [] L x
 | bp {s p y r st L x i m} (h:O.bp s=aa (p,y)) (e:r=i::m) (e':∀s,i= .u s->b9 s=ai) (b:p<=L) (k:fb O ag r (⟨L,s,p,ag⟩::st) y x):fb O ag (.u s::r) st L x
 | o {st L}:fb O ag [] st L ag
 | l {r st L}:fb O ag (.J ag::r) st L ag
 | kS {s r st L} (h:b9 s=af):fb O ag (.u s::r) st L ag
 | U {s r st L} (h:O.e s=af) (h':b9 s=ai) (e:r=[]\/∃s' m,r= .u s'::m/\b9 s'=af) (n:r≠[]\/st≠[]):fb O ag (.u s::r) st L ag
 | d {s r st L i m} (h:O.e s=af) (h':b9 s=ai) (e:r=i::m) (e':∀s,i= .u s->b9 s=ai) (n:∀p y,O.bp s=aa (p,y)->¬p<=L):fb O ag (.u s::r) st L ag
 | aZ {s i a y r st L t p x} (h:O.aZ s=aa (i,a,y)) (b:i<=L) (b':p<=a) (k:fb O ag r (⟨L,s,i,aa t⟩::st) y x):fb O (aa (t,p)) (.u s::r) st L x
 | bD {s i a r st L t p x} (h:O.bD s=aa (i,a)) (h':O.aZ s=ag) (b:i<=L) (b':p<=a) (k:fb O (aa (.U s [t],i)) r st L x):fb O (aa (t,p)) (.u s::r) st L x
 | g {r f st L t p x} (n:∀s m,r= .u s::m->¬kT O s L p) (k:fb O (aa (f.I t)) r st f.e x):fb O (aa (t,p)) r (f::st) L x
 | I {L t p}:fb O (aa (t,p)) [] [] L (aa (t,p))
 | u {i r L t p} (n:∀s,i= .u s->¬kT O s L p):fb O (aa (t,p)) (i::r) [] L ag
noncomputable def zY(O:cX)(b:Int)(r:List aO):Prop:=∀s m,r= .u s::m->∀L p,L<=b->¬kT O s L p
theorem zY.I{b a:Int}{r}(h:zY O b r)(k:a<=b):zY O a r:=λs m e L p q=>h s m e L p<|dy q k
theorem VE(h:O.aZ s=aa (i,x,y))(n:O.bD s=ag)(a:kT O s L p):i<=L/\p<=x:=
 a.elim (λa=>fW a λg f d e b c=>let q:=dI<|bP<|h.symm.trans e;⟨q.1▸b,(dI q.2).1▸c⟩) λa=>cm a λz z e z=>a9<|n.symm.trans e
theorem VF(h:O.bD s=aa (i,x))(n:O.aZ s=ag)(a:kT O s L p):i<=L/\p<=x:=
 a.elim (λa=>hW a λz z z e z=>a9<|n.symm.trans e) λa=>bG a λf d e b c=>let q:=dI<|bP<|h.symm.trans e;⟨q.1▸b,q.2▸c⟩
theorem C.fZ(W:O.a)(c:C O l t q z):∀{rest st L x},q<=L->zY O z rest->fb O (aa (t,q)) rest st L x->fb O ag (l++rest) st L x:=by induction c with| J=>exactλb k r=> .J r| j h E=>exactλb k r=> .j h E r| @bp s p y l t q z h d b i=>exactλf k r=>cm (d.e.U W) λF m e hi=> .bp h (congrArg (·++_) e) hi f<|i b (k.I<|dy (d.u W).1 b)<|.g (λg n e=>k g n e _ _<|jy _) r| @aZ s p a y l t q m u v z w d h b c e B i j=>have w:=W.2 h;exactλ{rest st L x} f k r=>ae (cv ..)<|i (dy b<|dy w.2.1 f) (λg n e L D A o=>oC.mpr (dy (VE (Mine.Internal.aO.u.inj (jA e).1▸h) (Mine.Internal.aO.u.inj (jA e).1▸w.2.2.2.2.2) o).1 A) c)<|.aZ h f b<|j B (k.I<|dy (e.u W).1 B)<|.g (λg n e=>k g n e _ _<|jy _) r| @bD s p a l t q z d h b c i=>have w:=W.3 h;exactλ{rest st L x} f k r=>ae (cv ..)<|i (dy b<|dy w.2.1 f) (λg n e L D A o=>oC.mpr (dy (VF (Mine.Internal.aO.u.inj (jA e).1▸h) (Mine.Internal.aO.u.inj (jA e).1▸w.2.2.2.2) o).1 A) c)<|.bD h w.2.2.2.2 f b r
class inductive vx(O:cX)(M:Int):List OF->Int->List aO->Prop
 | I:vx O M [] M []
 | bp {s p y st L e} (h:O.bp s=aa (p,y)) (b:p<=L) (k:vx O M st L e):vx O M (⟨L,s,p,ag⟩::st) y (e++[.u s])
 | aZ {s p a y st L e l t q} (h:O.aZ s=aa (p,a,y)) (b:p<=L) (d:D O l t q) (b':q<=a) (k:vx O M st L e):vx O M (⟨L,s,p,aa t⟩::st) y (e++(l++[.u s]))
noncomputable def VD(O:cX)(M:Int)(st:List OF)(e:List aO)(t:Tm)(p:Int)(l:List aO):Option (Tm×Int)->Prop
 | none=>(D O (e++l) t p/\p<=M)\/∃s,l=[.u s]/\st=[]/\t= .j s/\O.e s=af/\b9 s=ai| some (u,q)=>∀{g},D O g u q->D O (e++(g++l)) t p/\p<=M
theorem xP{p q L:Int}(e:aa (t,p)=aa (u,q))(h:p<=L):q<=L:=(dI<|bP e).2▸h
theorem fb.BR(W:O.a){c l st L x}(h:fb O c l st L x):∀{e},vx O M st L e->0<=L->(∀u q,c=aa (u,q)->q<=L)->∀t p,x=aa (t,p)->VD O M st e t p l c:=by
 induction h with
 | J h i=>exactλk B b t p A=> .inl<|i k B (λu q e=>xP e B) t p A .J| j h F _ i=>exactλk B b t p A=> .inl<|i k B (λu q e=>xP e B) t p A<|.j h F
 | c h F k i=>
  intro e _ B b t p A;cases k with
  | I=>exact .inr ⟨_,rfl,rfl,((dI<|bP A).1).symm,h,F⟩
 | @bp s p y r st L x i m h e P b _ j=>exactλ{C} k B _ t p A=>(j (.bp h b k) (W.1 h).1 (λz z e=>a9 e) t p A).elim (λd=> .inl ⟨(show D O (C++([.u s]++r)) t p from cv C [.u s] r▸d.1),d.2⟩) λq=>bR q λz z q z=>gv q| o=>exactλk B b t p A=>a9 A| l=>exactλk B b t p A=>a9 A| kS=>exactλk B b t p A=>a9 A| U=>exactλk B b t p A=>a9 A| d=>exactλk B b t p A=>a9 A| @aZ s i a y r st L H K x h b E _ j=>exactλ{C} k B _ t p A {g} d=>(j (.aZ h b d E k) (W.2 h).2.2.1 (λz z e=>a9 e) t p A).elim (λd=>⟨(cv C _ r).trans (congrArg (C++·)<|cv g [.u s] r)▸d.1,d.2⟩) λq=>bR q λz z q z=>gv q| @bD s i a r st L H K x h F b E _ j=>exactλ{C} k B _ t p A {g} d=>cv g [.u s] r▸j k B (λu q e=>xP e b) t p A (D.bD d h E)
 | @g r f st L H K x n _ j=>
  intro C k B G t p A g d;have hp:=G _ _ rfl;cases k with
  | @bp s q y st L e h b k=>have w:=W.1 h;exact cv e [.u s] (g++r)▸j k (dy (dy w.1 w.2.1) b) (λu q e=>xP e b) t p A (D.bp h d hp)| @aZ s q a y st L e l u v h b N E k=>have w:=W.2 h;have:=j k (dy (dy w.1 w.2.1) b) (λu q e=>xP e b) t p A<|D.aZ N h E d hp;rw [cv,cv];rw [cv] at this;exact this
 | I=>
  intro C k B G t p A g d;have A:=dI<|bP A;cases k with
  | I=>exact⟨ae (jh g)<|A.1▸A.2▸d,A.2▸G _ _ rfl⟩
 | u=>exactλk B b t p A=>a9 A
theorem fb.VC(W:O.a):∀(l:List aO) (c st L),∃x,fb O c l st L x:=by
 intro l;induction l with
 | nil=>
  intro c st L;induction c with
  | none=>exact⟨_, .o⟩
  | some q=>induction st generalizing q L with| nil=>exact⟨_, .I⟩| cons f st i=>exact o1 (i f.e<|f.I q.1) λx h=>⟨x, .g (λw w e=>gw e) h⟩
 | cons i r ih=>
  intro c st L;induction c with
  | none=>
   induction i with
   | J t=>induction t with| none=>exact⟨_, .l⟩| some t=>exact o1 (ih (aa (t,0)) st L) λx h=>⟨x, .J h⟩
   | u s=>
    cases g:b9 s with
    | true=>exact⟨_, .kS g⟩
    | false=>
     cases h:O.e s with
     | false=>exact o1 (ih (aa (.j s,0)) st L) λx k=>⟨x, .j h g k⟩
     | true=>
      induction r with
      | nil=>induction st with| nil=>exact⟨_, .c h g .I⟩| cons f st=>exact⟨_, .U h g (.inl rfl)<|.inr λe=>gv e⟩
      | cons j m=>
       by_cases e:∃o,j= .u o/\b9 o=af
       ·obtain⟨o,rfl,e⟩:=e;exact⟨_, .U h g (.inr<|cL o m rfl e)<|.inl λe=>gv e⟩
       ·have v:∀s,j= .u s->b9 s=false:=λs q=>by cases z:b9 s with| false=>rfl| true=>exact absurd (aM s q z) e
        by_cases n:∃p y,O.bp s=aa (p,y)/\p<=L
        ·exact cm n λp y hp b=>o1 (ih ag (⟨L,s,p,ag⟩::st) y) λx k=>⟨x, .bp hp rfl v b k⟩
        ·exact⟨_, .d h g rfl v λp y a b=>n<|cL p y a b⟩
  | some q=>
   induction st generalizing q L with
   | nil=>
    by_cases n:∃s,i= .u s/\kT O s L q.2
    ·obtain⟨s,rfl,⟨j,a,y,h,b,d⟩ | ⟨j,a,h,b,d⟩⟩:=n
     ·exact o1 (ih ag (⟨L,s,j,aa q.1⟩::[]) y) λx k=>⟨x, .aZ h b d k⟩
     ·exact o1 (ih (aa (.U s [q.1],j)) [] L) λx k=>⟨x, .bD h (W.3 h).2.2.2.2 b d k⟩
    ·exact⟨_, .u λs e a=>n<|aM s e a⟩
   | cons f st z=>
    by_cases n:∃s,i= .u s/\kT O s L q.2
    ·obtain⟨s,rfl,⟨j,a,y,h,b,d⟩ | ⟨j,a,h,b,d⟩⟩:=n
     ·exact o1 (ih ag (⟨L,s,j,aa q.1⟩::f::st) y) λx k=>⟨x, .aZ h b d k⟩
     ·exact o1 (ih (aa (.U s [q.1],j)) (f::st) L) λx k=>⟨x, .bD h (W.3 h).2.2.2.2 b d k⟩
    ·exact o1 (z f.e<|f.I q.1) λx k=>⟨x, .g (λs m e a=>n<|aM s (by obtain rfl:=(jA e).1;obtain rfl:=(jA e).2;rfl) a) k⟩
noncomputable def o9(O:cX)(g:List aO):Prop:=∀s l p r t q,g= .u s::l->O.bp s=aa (p,r)->D O l t q->¬q<=r
noncomputable def jH(O:cX)(g:List aO)(k:Nat):Prop:=∀l s m p x y t q u v,g=l++ .u s::m->l.length<k->O.aZ s=aa (p,x,y)->D O l t q->q<=x->D O m u v->¬v<=y
theorem C.VA(W:O.a){g l m s p x y t q z u v w}(G:o9 O g)(F:jH O g l.length)(e:g=l++ .u s::m)(c:C O l t q z)(h:O.aZ s=aa (p,x,y))(b:q<=x)(o:C O m u v w)(A:v<=y):C O g (.U s [t,u]) p y:=by
 subst e;have k:=W.2 h
 exact .aZ c h b (C.U W (m:= .u s::m) (u:=λt=> .U s [t,u]) c k.2.1 k.2.2.2.2.1 b (λI n M d e=> .aZ d h e o.e A) (λa I r n e f d=>G a _ p r n p (ae e rfl) f d)
  λH a N i j D E B e f K L J=>F H a _ p i j D E B p (by rw [e,cv];rfl) (ae e (ae bI (ae dK (cP (.e (.v 0) (.a (.v 0) (.a (.v 1) (.n 1)))) rfl [_,_] [])))) f K L J) o A
theorem C.I(W:O.a){g l s p x t q z}(A:o9 O g)(y:jH O g l.length)(e:g=l++[.u s])(c:C O l t q z)(h:O.bD s=aa (p,x))(b:q<=x):C O g (.U s [t]) p (-1):=by
 subst e;have k:=W.3 h
 exact .bD c h b (C.U W (m:=[.u s]) (u:=λt=> .U s [t]) c k.2.1 k.2.2.1 b (λD n H d e=> .bD d h e) (λa D r n e f d=>A a _ p r n p (ae e rfl) f d)
  λB a I i j v w o e f F G E=>y B a _ p i j v w o p (by rw [e,cv];rfl) (ae e (ae bI (ae dK (cP (.e (.v 0) (.a (.v 0) (.a (.v 1) (.n 1)))) rfl [_,_] [])))) f F G E)
theorem D.u{g}(h:2<=g.length)(f:o9 O g)(c:jH O g g.length)(a:∀l s p x t q,g=l++[.u s]->O.bD s=aa (p,x)->D O l t q->¬q<=x)(t q):¬D O g t q:=λd=>by cases d with| J=>exact absurd h<|ac5 1| j=>exact absurd h<|ac5 1| bp h d b=>exact f _ _ _ _ _ _ rfl h d b| aZ d h b e i=>exact c _ _ _ _ _ _ _ _ _ _ rfl (ae bI<|ae dK<|cP (.e (.v 0)<|.a (.v 0)<|.a (.v 1)<|.n 1) rfl [_,_] []) h d b e i| bD d h b=>exact a _ _ _ _ _ _ rfl h d b
theorem D.VB(d:D O g t q):aO.J ag∉g:=by induction d with| J=>exactλh=>nomatch d5.mp h| j=>exactλh=>nomatch d5.mp h| bp _ _ _ i=>exactλh=>(dH.mp h).elim (λe=>nomatch e) i| aZ _ _ _ _ _ i j=>exactλh=>(fG.mp h).elim i λh=>(dH.mp h).elim (λe=>nomatch e) j| bD _ _ _ i=>exactλh=>(fG.mp h).elim i λh=>nomatch d5.mp h
noncomputable def Rd(O:cX)(M:Int)(g:List aO):Option Tm->Prop
 | some t=>(∃q z,C O g t q z/\q<=M)\/∃s,g=[.u s]/\b9 s=ai/\t= .j s| none=>aO.J ag∈g\/(∀t q,D O g t q->¬q<=M)/\∀s,g=[.u s]->b9 s=af
theorem Rd.fZ(W:O.a)(a:0<=M){g r}(h:Rd O M g r):match r with | some t=>∃q,q<=M/\fb O ag g [] M (aa (t,q)) | none=>fb O ag g [] M none:=by
 induction r with
 | some t=>
  rcases h with ⟨q,z,c,b⟩ | ⟨s,rfl,h,rfl⟩
  ·have:=c.fZ W (rest:=[]) (st:=[]) (L:=M) b (λy y e=>gw e) .I;rw [jh] at this;exact(aM q b this)
  ·refine(aM 0 a ?_);cases e:O.e s with
   | true=>exact .c e h .I| false=>exact .j e h .I
 | none=>
  refine o1 (fb.VC W g ag [] M) λx k=>?_;induction x with
  | none=>exact k
  | some x=>
   have:=k.BR W (M:=M) .I a (λy y e=>a9 e) x.1 x.2 rfl;rcases this with ⟨d,b⟩ | ⟨s,rfl,_,_,_,e⟩
   ·rcases h with h | h
    ·exact absurd h d.VB
    ·exact absurd b<|h.1 _ _ d
   ·rcases h with h | h
    ·exact nomatch d5.mp h
    ·rw [h.2 s rfl] at e;exact bC e
end
set_option genInjectivity true in
inductive aE where | u (s:Str) | f (s:Str) | d (s:Str) | x (i:Int) (g:Bool) | z | l | b | a (c:Str) | I
noncomputable def aE.ctorIdx(t:aE):Nat:=@aE.casesOn (λz=>Nat) t (λz=>0) (λz=>1) (λz=>2) (λz z=>3) 4 5 6 (λz=>7) 8
structure VS where
 J:List (Str×Int)
 e:List Str
 nx:Int
inductive VS.nW:VS->Str->VS->Int->Prop
 | a {v s n} (h:s≠eE) (e:v.J.lookup s=aa n):nW v s ⟨v.J,v.e++[s],v.nx⟩ n
 | aT {v s} (h:s≠eE) (e:v.J.lookup s=ag):nW v s ⟨v.J++[(s,v.nx)],v.e++[s],v.nx+1⟩ v.nx
 | p {v}:nW v eE ⟨v.J,v.e,v.nx+1⟩ v.nx
structure cI where
 k:Str
 e:Int
 fn:Str
 c:Int
 b:Option Tm
 a:List Tm
structure PS where
 U:List aE
 J:List cI
 e:Int
 b:Option Tm
 c:Int
 a:VS
noncomputable def jr(l:List Tm)(t:Tm):Tm:=@gq Tm (λz=>Tm) t (λx z ih=> .U kg [x,ih]) l
noncomputable def gk:Tm:= .j mJ
noncomputable def pb:Tm:=jr [.x 97, .x 34] gk
noncomputable def aE.J(t:aE):Option Str:=@aE.casesOn (λz=>Option Str) t aa aa (λz=>ag) (λz z=>ag) ag ag ag (λc=>if b9 c then aa c else ag) ag
noncomputable def aE.e(t:aE):Bool:=@aE.casesOn (λz=>Bool) t (λz=>ai) (λz=>ai) (λz=>ai) (λz z=>ai) ai ai ai (λc=>c==eP||c==dZ||c==e9) af
noncomputable def aE.U(t:aE):Bool:=t.e||@aE.casesOn (λz=>Bool) t (λz=>ai) (λz=>ai) (λz=>ai) (λz z=>ai) ai ai ai b9 ai
inductive dP:aE->Str->Prop
 | u {s}:dP (.u s) s
 | f {s}:dP (.f s) s
noncomputable def cI.I(f:cI)(t:Tm):Tm:=match f.b with | none=> .U f.fn [t] | some u=> .U f.fn [u,t]
noncomputable def nX(fr:List cI):Prop:=∃f l,fr=f::l/\f.k=fm
noncomputable def mK(t a:aE):Prop:=a≠ .b/\∀i,t= .u dU->a≠ .x i af
section
variable (O:cX)
inductive jI:PS->Bool->PS->Prop
 | x {i g r fr L t p v}:jI ⟨.x i g::r,fr,L,t,p,v⟩ ai ⟨r,fr,L,aa (.x i),0,v⟩
 | d {s r fr L t p v v' n} (h:v.nW s v' n):jI ⟨.d s::r,fr,L,t,p,v⟩ ai ⟨r,fr,L,aa (.d n),0,v'⟩
 | z {r fr L t p v}:jI ⟨.z::r,fr,L,t,p,v⟩ ai ⟨r,fr,L,aa pb,0,v⟩
 | l {k r fr L t p v} (h:k= .l\/k= .b):jI ⟨k::r,fr,L,t,p,v⟩ af ⟨r,⟨lM,L,fR,0,ag,[]⟩::fr,1200,t,p,v⟩
 | m {k s r fr L t p v} (h:dP k s):jI ⟨k:: .b::r,fr,L,t,p,v⟩ af ⟨r,⟨ic,L,s,0,ag,[]⟩::fr,999,t,p,v⟩
 | fg {i r fr L t p v}:jI ⟨.u dU:: .x i af::r,fr,L,t,p,v⟩ ai ⟨r,fr,L,aa (.x (-i)),0,v⟩
 | j {k s f r fr L t p v} (h:dP k s) (hf:mK k f) (o:O.e s=ai):jI ⟨k::f::r,fr,L,t,p,v⟩ ai ⟨f::r,fr,L,aa (.j s),0,v⟩
 | c {k s f r fr L t p v} (h:dP k s) (hf:mK k f) (o:O.e s=af) (e:f.U=af) (n:¬nX fr) (b:L=999\/f.e=af):jI ⟨k::f::r,fr,L,t,p,v⟩ ai ⟨f::r,fr,L,aa (.j s),0,v⟩
 | bp {k s f r fr L t p v q y} (h:dP k s) (hf:mK k f) (e:f.U=ai) (hp:O.bp s=aa (q,y)) (b:q<=L):jI ⟨k::f::r,fr,L,t,p,v⟩ af ⟨f::r,⟨fm,L,s,q,ag,[]⟩::fr,y,t,p,v⟩
 | I {f r fr L t p v} (hf:f≠ .b):jI ⟨.a eH:: .a dZ::f::r,fr,L,t,p,v⟩ ai ⟨f::r,fr,L,aa gk,0,v⟩
 | a {f r fr L t p v} (hf:f≠ .a dZ):jI ⟨.a eH::f::r,fr,L,t,p,v⟩ af ⟨f::r,⟨jm,L,fR,0,ag,[]⟩::fr,999,t,p,v⟩
 | u {f r fr L t p v} (hf:f≠ .b):jI ⟨.a fL:: .a e9::f::r,fr,L,t,p,v⟩ ai ⟨f::r,fr,L,aa (.j eR),0,v⟩
 | w {f r fr L t p v} (hf:f≠ .a e9):jI ⟨.a fL::f::r,fr,L,t,p,v⟩ af ⟨f::r,⟨lJ,L,fR,0,ag,[]⟩::fr,1200,t,p,v⟩
inductive tV:PS->Prop
 | a {k s f r fr L t p v} (h:dP k s) (hf:mK k f) (o:O.e s=af) (e:f.U=af) (n:nX fr\/¬(L=999\/f.e=af)):tV ⟨k::f::r,fr,L,t,p,v⟩
 | d {k s f r fr L t p v} (h:dP k s) (hf:mK k f) (o:O.e s=af) (e:f.U=ai) (n:∀q y,O.bp s=aa (q,y)->¬q<=L):tV ⟨k::f::r,fr,L,t,p,v⟩
 | l {k r fr L t p v} (h:k= .I\/∃c,k= .a c/\c≠eH/\c≠fL):tV ⟨k::r,fr,L,t,p,v⟩
noncomputable def lO(k:aE)(L p:Int):Prop:=∀a,k.J=aa a->¬kT O a L p
inductive lP:PS->Bool->PS->Prop
 | aZ {k a q x y r fr L t p v} (h:k.J=aa a) (e:O.aZ a=aa (q,x,y)) (b:q<=L) (b':p<=x):lP ⟨k::r,fr,L,aa t,p,v⟩ af ⟨r,⟨fm,L,a,q,aa t,[]⟩::fr,y,aa t,p,v⟩
 | bD {k a q x r fr L t p v} (h:k.J=aa a) (n:O.aZ a=ag) (e:O.bD a=aa (q,x)) (b:q<=L) (b':p<=x):lP ⟨k::r,fr,L,aa t,p,v⟩ ai ⟨r,fr,L,aa (.U a [t]),q,v⟩
 | g {k r f fr L t p v} (n:lO O k L p) (h:f.k=fm):lP ⟨k::r,f::fr,L,aa t,p,v⟩ ai ⟨k::r,fr,f.e,aa (f.I t),f.c,v⟩
 | i {r f fr L t p v} (h:f.k=lM):lP ⟨.a eP::r,f::fr,L,aa t,p,v⟩ ai ⟨r,fr,f.e,aa t,0,v⟩
 | d {r f fr L t p v} (h:f.k=lJ):lP ⟨.a e9::r,f::fr,L,aa t,p,v⟩ ai ⟨r,fr,f.e,aa (.U eR [t]),0,v⟩
 | I {r f fr L t p v} (h:f.k=qu):lP ⟨.a dZ::r,f::fr,L,aa t,p,v⟩ ai ⟨r,fr,f.e,aa (jr f.a t),0,v⟩
 | c {r f fr L t p v} (n:lO O (.a bZ) L p) (h:f.k=ic\/f.k=jm):lP ⟨.a bZ::r,f::fr,L,aa t,p,v⟩ af ⟨r,⟨f.k,f.e,f.fn,f.c,f.b,f.a++[t]⟩::fr,999,aa t,p,v⟩
 | j {r f fr L t p v} (n:lO O (.a cG) L p) (h:f.k=jm):lP ⟨.a cG::r,f::fr,L,aa t,p,v⟩ af ⟨r,⟨qu,f.e,f.fn,f.c,f.b,f.a++[t]⟩::fr,999,aa t,p,v⟩
 | u {r f fr L t p v} (h:f.k=jm):lP ⟨.a dZ::r,f::fr,L,aa t,p,v⟩ ai ⟨r,fr,f.e,aa (jr (f.a++[t]) gk),0,v⟩
 | m {r f fr L t p v} (h:f.k=ic) (hl:f.a.length<8):lP ⟨.a eP::r,f::fr,L,aa t,p,v⟩ ai ⟨r,fr,f.e,aa (.U f.fn (f.a++[t])),0,v⟩
noncomputable def Dt(f:cI)(k:aE):Prop:=f.k≠fm/\((∀c,k≠ .a c)\/(∃c,k= .a c/\(c=eH\/c=fL))\/((f.k=lM\/f.k=lJ)/\∃c,k= .a c/\b9 c=af))
inductive xQ:PS->Prop
 | a {k r f fr L t p v} (n:lO O k L p) (h:Dt f k):xQ ⟨k::r,f::fr,L,aa t,p,v⟩
inductive zZ:PS->Prop
 | mk {k r L t p v} (n:lO O k L p):zZ ⟨k::r,[],L,aa t,p,v⟩
class inductive nV:Nat->Bool->PS->Bool->PS->Prop
 | I {b σ}:nV 0 b σ b σ
 | J {n σ b σ' b' σ''} (h:jI O σ b σ') (k:nV n b σ' b' σ''):nV (n+1) af σ b' σ''
 | e {n σ b σ' b' σ''} (h:lP O σ b σ') (k:nV n b σ' b' σ''):nV (n+1) ai σ b' σ''
variable {O}
theorem nV.u{n m b σ b' σ' b'' σ''}(h:nV O n b σ b' σ')(k:nV O m b' σ' b'' σ''):nV O (n+m) b σ b'' σ'':=by induction h with| I=>rw [jd];exact k| J h _ i=>rw [sU];exact .J h<|i k| e h _ i=>rw [sU];exact .e h<|i k
variable (O)
noncomputable def Go(b:Bool)(σ:PS)(a:Bool)(σ':PS):Prop:=∃n,nV O n b σ a σ'
noncomputable def lN(b:Bool)(σ:PS):Prop:=∃a σ',Go O b σ a σ'/\((a=af/\tV O σ')\/(a=ai/\xQ O σ')\/(a=ai/\zZ O σ'/\∀r,σ'.U≠ .I::r))
variable {O}
theorem Go.I{b σ}:Go O b σ b σ:=⟨0, .I⟩
theorem Go.u{b σ b' σ' b'' σ''}(h:Go O b σ b' σ')(k:Go O b' σ' b'' σ''):Go O b σ b'' σ'':=o1 h λz h=>o1 k λz k=>⟨_,h.u k⟩
theorem Go.J{σ b σ'}(h:jI O σ b σ'):Go O af σ b σ':=⟨1, .J h .I⟩
theorem Go.e{σ b σ'}(h:lP O σ b σ'):Go O ai σ b σ':=⟨1, .e h .I⟩
theorem lN.I{b σ b' σ'}(h:Go O b σ b' σ')(k:lN O b' σ'):lN O b σ:=cm k λz z g k=>cL _ _ (h.u g) k
theorem lN.J{σ}(h:tV O σ):lN O af σ:=(cL _ _ .I<|.inl ⟨rfl,h⟩)
theorem lN.e{σ}(h:xQ O σ):lN O ai σ:=(cL _ _ .I<|.inr<|.inl ⟨rfl,h⟩)
end
section
variable (O:cX)
noncomputable def iY(t:aE):Prop:=t≠ .b/\∀i,t≠ .x i af
noncomputable def sj(t:aE):Prop:=(∀a,t.J=aa a->O.e a=ai)/\((∀c,t≠ .a c)\/∃c,t= .a c/\(c=eH\/c=fL))/\t≠ .I
noncomputable def si(b:Bool)(σ:PS)(r:List aE)(fr:List cI)(L:Int)(v:VS):Option (Tm×Int)->Prop
 | some (x,q)=>Go O b σ ai ⟨r,fr,L,aa x,q,v⟩| none=>lN O b σ
inductive js(tk:List aE)(t:Option Tm)(v v':VS):Prop
 | mk (ne:∃k m,tk=k::m/\(∀c,k= .a c->c≠dZ/\c≠e9/\b9 c=ai)/\k.U=ai)
  (run:∀fr L u p f r,iY f->si O af ⟨tk++f::r,fr,L,u,p,v⟩ (f::r) fr L v' (t.map (·,0)))
class inductive ek(out:Bool):Bool->List aO->List aE->VS->VS->Prop
 | I {fr v}:ek out fr [] [] v v
 | u {fr s k g tk v v'} (h:dP k s) (hs:b9 s=ai) (c:∀x r,tk=x::r->iY x) (k':ek out (if fr then(O.bp s).isSome else(O.aZ s).isSome) g tk v v'):ek out fr (.u s::g) (k::tk) v v'
 | kS {fr s g tk v v'} (h:b9 s=af) (ho:out=af) (c:∀x r,tk=x::r->iY x) (k':ek out (if fr then(O.bp s).isSome else(O.aZ s).isSome) g tk v v'):ek out fr (.u s::g) (.a s::tk) v v'
 | J {fr t k m g tk v v' v''} (h:js O (k::m) t v v') (hi:fr=ai->sj O k) (c:∀x r,tk=x::r->iY x) (k':ek out ai g tk v' v''):ek out fr (.J t::g) (k::(m++tk)) v v''
inductive xR(out:Bool)(M:Int)(F:List cI)(cl:aE):Prop
 | mk (clean:iY cl)
  (na:∀L p,L<=M->lO O cl L p)
  (ends:cl.U=af)
  (alone:M=999\/cl.e=af)
  (top:¬nX F)
  (bad:cl= .I\/∃c,cl= .a c/\c≠eH/\c≠fL)
  (base:∀f l,F=f::l->out=af->f.k=lM\/f.k=lJ)
  (notEnd:F≠[]\/cl= .I)
  (sepOut:out=af->M≠999/\∀c,cl= .a c->b9 c=ai)
variable {O}
noncomputable def OF.u(f:OF):cI:=⟨fm,f.e,f.fn,f.c,f.b,[]⟩
noncomputable def I9(l:List OF)(L:Int):Int:=@gq OF (λz=>Int->Int) (λL=>L) (λf z ih z=>ih f.e) l L
noncomputable def tW(M:Int)(l:List OF)(L:Int):Prop:=@gq OF (λz=>Int->Prop) (λL=>L<=M) (λf z ih L=>L<=M/\ih f.e) l L
theorem tW.I{M:Int}:∀{st L},tW M st L->L<=M:=by
 intro a;induction a with
 | nil=>intro _ h;exact h| cons _ _ ih=>intro _ h;exact h.1
theorem tW.nY{st L}{f:OF}{y:Int}(h:tW M st L)(hf:f.e=L)(a:y<=L):tW M (f::st) y:=⟨dy a h.I,hf▸h⟩
theorem vA(h:iY f):mK k f:=⟨h.1,λi z=>h.2 i⟩
theorem Jc(h:dP k s):k.J=aa s:=by induction h<;>rfl
theorem Jf(h:b9 s=af):(aE.a s).J=aa s:=if_pos h
theorem VY(h:k.J=aa s)(n:¬kT O s L p):lO O k L p:=λa e=>bP (h.symm.trans e)▸n
theorem VZ(h:O.e s=ai):¬kT O s L p:=λa=>ay (Fd.mp h) λc b=>a.elim (λa=>hW a λi x y e z=>bC<|(congrArg uk e).symm.trans (Fd.mp c).2) λa=>cm a λi x e z=>bC<|(congrArg uk e).symm.trans b
theorem V0(h:O.e s=ai):(O.bp s).isSome=false:=by
 unfold cX.e at h;cases q:(O.bp s).isSome with
 | false=>rfl| true=>replace h:=q▸h;exact bC h
theorem ek.U{out fr tk v v'}(h:ek O out fr [] tk v v'):tk=[]/\v=v':=by cases h;exact⟨rfl,rfl⟩
theorem ek.xS(h:ek O out fr (.J t::g) tk v v'):∃k m a w,tk=k::(m++a)/\js O (k::m) t v w/\(fr=ai->sj O k)/\(∀x r,a=x::r->iY x)/\ek O out ai g a w v':=by cases h with| J h hi c b=>exact(nz _ _ _ _ rfl h hi c b)
theorem ek.e{out fr s g tk v v'}(h:ek O out fr (.u s::g) tk v v'):∃k a,tk=k::a/\k.J=aa s/\(∀x r,a=x::r->iY x)/\ek O out (if fr then(O.bp s).isSome else(O.aZ s).isSome) g a v v'/\
 (b9 s=ai/\dP k s\/b9 s=af/\out=af/\k= .a s):=by
 cases h with| u d e c b=>exact⟨_,_,rfl,Jc d,c,b, .inl ⟨e,d⟩⟩| kS h ho c b=>exact(jQ _ _ rfl (Jf h) c b<|.inr ⟨h,ho,rfl⟩)
theorem ek.vy(h:ek O out fr (.u s::g) tk v v')(f:b9 s=ai):∃k a,tk=k::a/\dP k s/\(∀x r,a=x::r->iY x)/\ek O out (if fr then(O.bp s).isSome else(O.aZ s).isSome) g a v v':=by
 obtain⟨k,a,e,_,c,d,⟨_,i⟩ | ⟨b,_⟩⟩:=h.e
 ·exact(pZ k a e i c d)
 ·rw [f] at b;exact bw b
theorem vz(rest:List aE)(c:∀x r,a=x::r->iY x)(b:iY cl):∃f r,a++cl::rest=f::r/\iY f:=by induction a with| nil=>exact⟨cl,rest,rfl,b⟩| cons x r=>exact(cL x (r++cl::rest) rfl<|c x r rfl)
theorem VX(h:dP k s):k.U=false:=by induction h<;>rfl
theorem Je(h:b9 s=af):(aE.a s).U=true:=by unfold aE.U;rw [Bh];exact .inr h
theorem V1(h:js O (k::m) t v v'):k.U=false:=by refine bG h.1 λy y q y z=>?_;injection q with q _;exact ae q z
theorem Ja(h:ek O out fr (i::m) tk v v')(e:tk++cl::rest=f::r)(d:∀s,i= .u s->b9 s=ai):f.U=false:=by
 induction i with
 | u s=>refine bG (h.vy<|d s rfl) λk a b c z=>?_;obtain rfl:=b;injection e with e _;exact ae e.symm<|VX c
 | J t=>obtain⟨k,m,a,w,rfl,h,_⟩:=h.xS;injection e with e _;exact ae e.symm<|V1 h
theorem VW(h:ek O out fr g tk v v')(e:tk++cl::rest=f::r)(q:g=[]\/∃s m,g= .u s::m/\b9 s=af):g=[]/\f=cl\/∃s,b9 s=af/\out=af/\f= .a s:=by
 rcases q with rfl | ⟨s,m,rfl,b⟩
 ·refine ay h.U λc z=>?_;obtain rfl:=c;injection e with e _;exact .inl ⟨rfl,e.symm⟩
 ·obtain⟨k,d,rfl,_,_,_,⟨a,_⟩ | ⟨_,ho,rfl⟩⟩:=h.e
  ·replace a:=b▸a;exact bC a
  ·injection e with e _;exact .inr<|bT s b ho e.symm
theorem Jb(rest:List aE)(h:ek O out ai g tk v v')(B:lO O cl L p)(n:∀s m,g= .u s::m->¬kT O s L p):
 ∃k r,tk++cl::rest=k::r/\lO O k L p/\(g=[]\/k≠ .I/\∀f:cI,f.k≠fm->(out=af->f.k=lM\/f.k=lJ)->Dt f k):=by
 cases g with
 | nil=>refine ay h.U λb z=>?_;obtain rfl:=b;exact⟨cl,rest,rfl,B, .inl rfl⟩
 | cons i m=>
  cases i with
  | J t=>obtain⟨k,m,d,w,rfl,_,hi,_⟩:=h.xS;exact gI (hi rfl) λx o l=>⟨k,_,rfl,λa e=>VZ<|x a e, .inr ⟨l,λf hf z=>⟨hf,o.imp id .inl⟩⟩⟩
  | u s=>
   refine iC h.e λk d b A z z q=>?_;obtain rfl:=b;refine(b7 k _ rfl (VY A<|n s m rfl)<|.inr ?_);rcases q with ⟨_,j⟩ | ⟨y,ho,rfl⟩
   ·exact⟨λq=>(by subst q;cases j),λf hf z=>⟨hf, .inl λc q=>(by subst q;cases j)⟩⟩
   ·exact⟨λq=>(nomatch q),λf hf C=>⟨hf, .inr<|.inr ⟨C ho,_,rfl,y⟩⟩⟩
theorem nZ:∀{x},Go O b σ b' σ'->si O b' σ' r F M v' x->si O b σ r F M v' x
 | none,h,k=>lN.I h k| some _,h,k=>Go.u h k
section
variable (O) (out:Bool) (M:Int) (F:List cI) (cl:aE) (rest:List aE)
noncomputable def pg(a:List aE)(st:List OF)(L:Int)(u:Option Tm)(p:Int)(v:VS):PS:=⟨a++cl::rest,st.map OF.u++F,L,u,p,v⟩
noncomputable def mL(g:List aO)(st:List OF)(L:Int)(x:Option (Tm×Int)):Prop:=∀{a v v' u p},ek O out af g a v v'->tW M st L->I9 st L=M->si O af (pg F cl rest a st L u p v) (cl::rest) F M v' x
noncomputable def pe(t:Tm)(q:Int)(g:List aO)(st:List OF)(L:Int)(x:Option (Tm×Int)):Prop:=∀{a v v'},ek O out ai g a v v'->tW M st L->I9 st L=M->si O ai (pg F cl rest a st L (aa t) q v) (cl::rest) F M v' x
noncomputable def Cl:Option (Tm×Int)->List aO->List OF->Int->Option (Tm×Int)->Prop
 | none=>mL O out M F cl rest| some (t,q)=>pe O out M F cl rest t q
variable {O} {out} {M} {F} {cl} {rest} (K:xR O out M F cl)
include K
theorem VQ{t r st L x}(i:pe O out M F cl rest t 0 r st L x):mL O out M F cl rest (.J (aa t)::r) st L x:=λ{_ _ _ u p} G b d=>by obtain⟨k,m,j,w,rfl,h,_,c,G⟩:=G.xS;obtain⟨f,a,e,g⟩:=vz rest c K.1;have:=h.2 (st.map OF.u++F) L u p f a g;rw [<-e] at this;unfold pg;rw [jB,cv];exact nZ this<|i G b d
theorem VJ{r st L}:mL O out M F cl rest (.J ag::r) st L none:=λ{_ _ _ u p} G i j=>by refine jj G.xS λk m g w a h z c G=>?_;obtain rfl:=a;refine cm (vz rest c K.1) λf b e d=>?_;have:=h.2 (st.map OF.u++F) L u p f b d;rw [<-e] at this;unfold pg;rw [jB,cv];exact this
theorem VI{s r st L x}(h:O.e s=ai)(g:b9 s=ai)(i:pe O out M F cl rest (.j s) 0 r st L x):mL O out M F cl rest (.u s::r) st L x:=λG b d=>by obtain⟨k,l,rfl,a,c,G⟩:=G.vy g;obtain⟨f,m,e,j⟩:=vz rest c K.1;rw [if_pos rfl,V0 h] at G;refine nZ ?_<|i G b d;unfold pg;exact ae jB<|ae e<|.J<|.j a (vA j) h
theorem VH(h:O.e s=af)(d:b9 s=ai):mL O out M F cl rest [.u s] [] L (aa (.j s,0)):=λG f a=>by obtain⟨k,e,rfl,b,c,G⟩:=G.vy d;obtain⟨rfl,rfl⟩:=G.U;have a:L=M:=a;subst a;exact .J<|.c b (vA K.1) h K.3 K.5 K.4
theorem VT(W:O.a){s p y st L x i m}(h:O.bp s=aa (p,y))(n:∀s,i= .u s->b9 s=ai)(b:p<=L)(ih:mL O out M F cl rest (i::m) (⟨L,s,p,ag⟩::st) y x):mL O out M F cl rest (.u s::i::m) st L x:=λ{_ _ _ a d} G j l=>by have w:=W.1 h;obtain⟨k,q,rfl,g,c,G⟩:=G.vy w.2.2.2;obtain⟨f,r,e,o⟩:=vz rest c K.1;rw [if_pos rfl,h] at G;refine nZ ?_<|ih (u:=a) (p:=d) G (j.nY rfl<|dy w.2.1 b) l;unfold pg;exact ae jB<|ae e<|.J<|.bp g (vA o) (Ja G e n) h b
theorem VK{st L}:mL O out M F cl rest [] st L none:=λG b c=>by refine ay G.U λa z=>?_;obtain rfl:=a;exact .J<|.l K.6
omit K in
theorem VV{s r st L}(h:b9 s=af):mL O out M F cl rest (.u s::r) st L none:=λG c d=>by
 obtain⟨k,b,rfl,_,_,_,⟨a,_⟩ | ⟨_,_,rfl⟩⟩:=G.e
 ·replace a:=h▸a;exact bC a
 ·exact .J<|.l<|.inr<|bT s rfl (λq=>(by subst q;revert h;decide)) λq=>(by subst q;revert h;decide)
omit K in
theorem V2(h:b9 s=af):(aE.a s).e=false:=by exact(I8 h).elim (ae · rfl) (ae · rfl)
theorem VL{s r st L}(h:O.e s=af)(g:b9 s=ai)(e:r=[]\/∃b m,r= .u b::m/\b9 b=af)(n:r≠[]\/st≠[]):mL O out M F cl rest (.u s::r) st L none:=λG p a=>by
 obtain⟨k,l,rfl,d,c,G⟩:=G.vy g;obtain⟨f,o,q,j⟩:=vz rest c K.1;have z:=VW G q e
 have i:f.U=true:=by
  rcases z with ⟨_,rfl⟩ | ⟨s,h,_,rfl⟩
  ·exact K.3
  ·exact Je h
 unfold pg;refine ae jB<|ae q<|.J<|.a d (vA j) h i ?_;induction st with
 | cons f st=>exact .inl ⟨_,_,rfl,rfl⟩
 | nil=>
  rcases z with ⟨rfl,_⟩ | ⟨s,h,ho,rfl⟩
  ·exact absurd rfl<|n.resolve_left λw=>w rfl
  ·have a:L=M:=a;refine .inr λw=>?_;rw [V2 h,a] at w;exact w.elim (K.9 ho).1 λe=>bw e
theorem VP{s st L i m}(h:O.e s=af)(b:b9 s=ai)(d:∀s,i= .u s->b9 s=ai)(n:∀p y,O.bp s=aa (p,y)->¬p<=L):mL O out M F cl rest (.u s::i::m) st L none:=λG o q=>by obtain⟨k,j,rfl,a,c,G⟩:=G.vy b;obtain⟨f,l,e,g⟩:=vz rest c K.1;unfold pg;exact ae jB<|ae e<|.J<|.d a (vA g) h (Ja G e d) n
omit K in
theorem VN(W:O.a){s i a y r st L t p x}(h:O.aZ s=aa (i,a,y))(b:i<=L)(f:p<=a)(ih:mL O out M F cl rest r (⟨L,s,i,aa t⟩::st) y x):pe O out M F cl rest t p (.u s::r) st L x:=λG d e=>by have w:=W.2 h;obtain⟨k,g,rfl,c,_,G,_⟩:=G.e;rw [if_neg gp,h] at G;exact nZ (.e<|.aZ c h b f)<|ih G (d.nY rfl<|dy w.2.2.2.1 b) e
omit K in
theorem VR{s i a r st L t p x}(h:O.bD s=aa (i,a))(c:O.aZ s=ag)(b:i<=L)(g:p<=a)(ih:pe O out M F cl rest (.U s [t]) i r st L x):pe O out M F cl rest t p (.u s::r) st L x:=λG e f=>by obtain⟨k,j,rfl,d,_,G,_⟩:=G.e;rw [if_neg gp,c] at G;exact nZ (.e<|.bD d c h b g)<|ih G e f
theorem VU{r f st L t p x}(n:∀s m,r= .u s::m->¬kT O s L p)(ih:pe O out M F cl rest (f.I t).1 (f.I t).2 r st f.e x):pe O out M F cl rest t p r (f::st) L x:=λG a c=>by refine bG (Jb rest G (K.2 L p a.I) n) λk d e b z=>nZ ?_<|ih G a.2 c;unfold pg;exact ae e<|.e<|.g (f:=f.u) b rfl
omit K in
theorem VM:pe O out M F cl rest t p [] [] L (aa (t,p)):=λG d a=>by refine ay G.U λb c=>?_;obtain rfl:=b;obtain rfl:=c;have a:L=M:=a;subst a;exact .I
theorem VO(n:∀s,i= .u s->¬kT O s L p):pe O out M F cl rest t p (i::r) [] L none:=λG d h=>by
 refine bG (Jb rest G (K.2 L p d.I) λs m e=>n s<|by injection e) λk g e b a=>ay (a.resolve_left λe=>gv e) λc a=>?_;unfold pg;refine ae e ?_;induction F with
 | nil=>exact⟨_,_, .I, .inr<|.inr ⟨rfl, .mk b,λr q=>c<|by injection q⟩⟩| cons f F=>exact .e<|.a b<|a f (λq=>K.5<|cL _ _ rfl q) λho=>K.7 f F rfl ho
theorem Jd(W:O.a){c g st L x}(h:fb O c g st L x):Cl O out M F cl rest c g st L x:=by
 induction h with
 | J _ i=>exact VQ K i| j h a _ i=>exact VI K h a i
 | c h a k i=>cases k with| I=>exact VH K h a
 | bp h e f b _ i=>subst e;exact VT K W h f b i| o=>exact VK K| l=>exact VJ K| kS h=>exact VV h| U h a e n=>exact VL K h a e n| d h a e f n=>subst e;exact VP K h a f n| aZ h b m _ i=>exact VN W h b m i| bD h a b m _ i=>exact VR h a b m i| g n _ i=>exact VU K n i| I=>exact VM| u n=>exact VO K n
end
end
section
variable {O:cX}
noncomputable def qx(O:cX):Prop:=∀s p x y,b9 s=af->O.aZ s=aa (p,x,y)->999<p
theorem Dx(W:O.a)(Z:qx O)(h:b9 s=af)(c:L<=999):lO O (.a s) L p:=λa e=>by
 rw [Jf h] at e;injection e with e;subst e;rintro(⟨i,x,y,e,b,_⟩ | ⟨i,x,e,_⟩)
 ·exact absurd (uA (Z _ _ _ _ h e) b)<|oC.mpr c
 ·rw [(W.3 e).2.2.2.1] at h;exact bw h
theorem ph(h:k.J=ag):lO O k L p:=λa e=>by replace e:=h▸e;exact a9 e
theorem vE(W:O.a)(K:xR O out M F cl)(a:0<=M)(G:ek O out af g tk v v')(h:Rd O M g r):
 ∃q,si O af ⟨tk++cl::rest,F,M,u,p,v⟩ (cl::rest) F M v' (r.map (·,q)):=by
 induction r with| none=>exact⟨0,Jd K W (h.fZ W a) (u:=u) (p:=p) G (jy _) rfl⟩| some t=>exact au (h.fZ W a) λq z k=>⟨q,Jd K W k (u:=u) (p:=p) G (jy _) rfl⟩
theorem Dw(G:ek O out fr g tk v v')(n:g≠[]):∃f r,tk=f::r/\f≠ .a dZ/\f≠ .a e9:=by
 cases g with
 | nil=>exact absurd rfl n
 | cons i g=>
  cases i with
  | J t=>refine wG G.xS λk m a w b h y=>?_;obtain rfl:=b;refine bG h.1 λy y q z y=>?_;injection q with q _;exact⟨_,_,rfl,λe=>(z _<|q▸e).1 rfl,λe=>(z _<|q▸e).2.1 rfl⟩
  | u s=>
   obtain⟨k,a,rfl,_,_,_,⟨_,h⟩ | ⟨h,_,rfl⟩⟩:=G.e
   ·exact(b7 _ _ rfl (λe=>(by subst e;cases h)) λe=>(by subst e;cases h))
   ·exact(b7 _ _ rfl (λe=>(by obtain rfl:=Mine.Internal.aE.a.inj e;revert h;decide)) λe=>(by obtain rfl:=Mine.Internal.aE.a.inj e;revert h;decide))
theorem Ji(h:f.k≠fm):¬nX (f::l):=λz=>cm z λz z e k=>by injection e with e _;exact h<|e▸k
theorem Jg(hf:f.k=lM\/f.k=lJ)(a:c=eP\/c=e9):xR O af 1200 (f::l) (.a c):= .mk
 (⟨λe=>(nomatch e),λz e=>(nomatch e)⟩)
 (λL p z=>ph<|by rcases a with rfl | rfl<;>decide)
 (by rcases a with rfl | rfl<;>decide)
 (.inr<|by rcases a with rfl | rfl<;>decide)
 (Ji<|by refine cO hf (λh=>?_) (λh=>?_)<;>refine ae h ?_<;>decide)
 (.inr<|bT c rfl (by rcases a with rfl | rfl<;>decide)<|by rcases a with rfl | rfl<;>decide)
 (λz z e z=>by injection e with e _;exact e▸hf)
 (.inl λe=>gv e)
 (λz=>⟨by decide,λz e=>by injection e with e;subst e;rcases a with rfl | rfl<;>decide⟩)
theorem Dv(W:O.a)(Z:qx O)(hf:f.k=ic\/f.k=jm\/f.k=qu)(a:c=eP\/c=dZ\/b9 c=af):xR O ai 999 (f::l) (.a c):= .mk
 (⟨λe=>(nomatch e),λz e=>(nomatch e)⟩)
 (λL p d=>by rcases a with rfl | rfl | h;exact ph (by decide);exact ph (by decide);exact Dx W Z h d)
 (by rcases a with rfl | rfl | h;decide;decide;exact Je h)
 (.inl rfl)
 (Ji<|by refine cO hf (λh=>?_) (λb=>cO b (λh=>?_) λh=>?_)<;>refine ae h ?_<;>decide)
 (.inr<|bT c rfl (by rintro rfl;revert a;decide)<|by rintro rfl;revert a;decide)
 (λz z z e=>bw e)
 (.inl λe=>gv e)
 (λe=>bw e)
theorem V4:xR O af 1200 [] .I:= .mk
 (⟨λe=>(nomatch e),λz e=>(nomatch e)⟩)
 (λL p z=>ph rfl)
 rfl
 (.inr rfl)
 (λz=>cm z λz z e z=>gw e)
 (.inl rfl)
 (λz z e=>gw e)
 (.inr rfl)
 (λz=>⟨by decide,λz e=>nomatch e⟩)
theorem vB(h:si O b σ r F M v' (t.map (·,q))):(t=ag/\lN O b σ)\/∃x,t=aa x/\Go O b σ ai ⟨r,F,M,aa x,q,v'⟩:=by induction t with| none=>exact .inl ⟨rfl,h⟩| some x=>exact .inr<|aM x rfl h
theorem z0(a:∀c,k≠ .a c)(b:k.U=ai)(h:∀fr L u p f r,iY f->jI O ⟨k::f::r,fr,L,u,p,v⟩ ai ⟨f::r,fr,L,aa x,0,v'⟩):js O [k] (aa x) v v':=
 ⟨(b7 k ([]) rfl (λc e=>absurd e<|a c) b),λfr L u p f r c=> .J<|h fr L u p f r c⟩
theorem V6(h:O.e s=ai):js O [.u s] (aa<|.j s) v v:=z0 (λz e=>nomatch e) rfl λz z z z z z c=> .j .u (vA c) h
theorem V9:js O [.x i g] (aa<|.x i) v v:=z0 (λz e=>nomatch e) rfl λz z z z z z z=> .x
theorem Wf(h:v.nW s v' n):js O [.d s] (aa<|.d n) v v':=z0 (λz e=>nomatch e) rfl λz z z z z z z=> .d h
theorem We:js O [.z] (aa pb) v v:=z0 (λz e=>nomatch e) rfl λz z z z z z z=> .z
theorem Wb:js O [.u dU, .x i af] (aa<|.x (-i)) v v:=⟨(b7 _ _ rfl (λz e=>(nomatch e)) rfl),λz z z z z z z=> .J .fg⟩
theorem Wc:js O [.a eH, .a dZ] (aa gk) v v:=⟨(b7 _ _ rfl (λc e=>by injection e with e;subst e;decide) rfl),λz z z z z z c=> .J<|.I c.1⟩
theorem V7:js O [.a fL, .a e9] (aa<|.j eR) v v:=⟨(b7 _ _ rfl (λc e=>by injection e with e;subst e;decide) rfl),λz z z z z z c=> .J<|.u c.1⟩
theorem Wd(W:O.a)(a:k= .l\/k= .b)(G:ek O af af g tk v v')(h:Rd O 1200 g r):js O (k::(tk++[.a eP])) r v v':=by
 refine⟨(b7 _ _ rfl (λc e=>(by rcases a with rfl | rfl<;>cases e))<|by rcases a with rfl | rfl<;>rfl),λfr L u p f b c=>?_⟩;rw [jB,cv];refine nZ (.J<|.l a)<|o1 (vE W (rest:=f::b) (Jg (f:=⟨lM,L,fR,0,ag,[]⟩) (l:=fr) (.inl rfl)<|.inl rfl) (by decide) (u:=u) (p:=p) G h) λq z=>?_;rcases vB z with ⟨rfl,z⟩ | ⟨x,rfl,z⟩
 ·exact z
 ·exact z.u<|.e<|.i rfl
theorem V8(W:O.a)(n:g≠[])(G:ek O af af g tk v v')(h:Rd O 1200 g r):js O (.a fL::(tk++[.a e9])) (r.map λt=> .U eR [t]) v v':=by
 refine⟨(b7 _ _ rfl (λc e=>by injection e with e;subst e;decide) rfl),λfr L u p f b c=>?_⟩;rw [jB,cv];refine o1 (vE W (rest:=f::b) (Jg (f:=⟨lJ,L,fR,0,ag,[]⟩) (l:=fr) (.inr rfl)<|.inr rfl) (by decide) (u:=u) (p:=p) G h) λq z=>bG (Dw G n) λi d a y hf=>?_;obtain rfl:=a;refine nZ (.J<|.w hf) ?_;rcases vB z with ⟨rfl,z⟩ | ⟨x,rfl,z⟩
 ·exact z
 ·exact z.u<|.e<|.d rfl
class inductive lQ(O:cX):List (Option Tm)->List aE->VS->VS->Prop
 | eN {g tk v v' r} (n:g≠[]) (G:ek O ai af g tk v v') (h:Rd O 999 g r):lQ O [r] tk v v'
 | u {g tk v v' v'' r rs tk'} (n:g≠[]) (G:ek O ai af g tk v v') (h:Rd O 999 g r) (k:lQ O rs tk' v' v''):lQ O (r::rs) (tk++ .a bZ::tk') v v''
noncomputable def ew(l:List (Option Tm)):Option (List Tm):=@gq (Option Tm) (λz=>Option<|List Tm) (aa []) (λr z ih=>@ac6 Tm (λz=>Option<|List Tm) ag (λt=>ih.map (t::·)) r) l
theorem lQ.e{rs tk v v'}(A:lQ O rs tk v v'):∃f r,tk=f::r/\f≠ .a dZ:=by induction A with| eN n G h=>refine bG (Dw G n) λf r a h z=>?_;obtain rfl:=a;exact⟨f,r,rfl,h⟩| u n G h k=>refine bG (Dw G n) λf r a h z=>?_;obtain rfl:=a;exact(cL f _ rfl h)
noncomputable def cI.J(f:cI)(l:List Tm):cI:=⟨f.k,f.e,f.fn,f.c,f.b,f.a++l⟩
theorem Du(W:O.a)(Z:qx O)(A:lQ O a b v v'):∀{f:cI} {fr cl rest u p},f.k=ic\/f.k=jm->cl=eP\/cl=dZ\/b9 cl=af->
 (ew a=ag/\lN O af ⟨b++ .a cl::rest,f::fr,999,u,p,v⟩)\/∃l t q,ew a=aa (l++[t])/\Go O af ⟨b++ .a cl::rest,f::fr,999,u,p,v⟩ ai ⟨.a cl::rest,f.J l::fr,999,aa t,q,v'⟩:=by
 induction A with
 | eN n G h=>
  intro f fr cl rest u p hf d;refine o1 (vE W (rest:=rest) (Dv W Z (f:=f) (l:=fr) (hf.imp id .inl) d) (by decide) (u:=u) (p:=p) G h) λq z=>?_;rcases vB z with ⟨rfl,z⟩ | ⟨x,rfl,z⟩
  ·exact .inl ⟨rfl,z⟩
  ·exact .inr<|lq ([]) x q rfl<|ae (show f.J []=f by delta cI.J;rw [jh]) z
 | @u g b v v' j r a c n G h k i=>
  intro f fr cl rest u p hf d;rw [cv];refine o1 (vE W (rest:=c++ .a cl::rest) (Dv W Z (f:=f) (l:=fr) (hf.imp id .inl)<|.inr<|.inr (show b9 bZ=af by decide)) (by decide) (u:=u) (p:=p) G h) λq z=>?_;rcases vB z with ⟨rfl,z⟩ | ⟨x,rfl,z⟩
  ·exact .inl ⟨rfl,z⟩
  ·have z:=z.u (.e<|.c (Dx W Z (by decide)<|by decide) hf);rcases i (f:=f.J [x]) (fr:=fr) (cl:=cl) (rest:=rest) (u:=aa x) (p:=q) hf d with ⟨e,k⟩ | ⟨l,t,q',e,k⟩
   ·exact .inl ⟨by refine((ae e ?_):(ew a).map (x::·)=ag);rfl,k.I z⟩
   ·refine .inr (lq (x::l) t q' (((ae e rfl):(ew a).map (x::·)=_)) ?_);have e:(f.J [x]).J l=f.J (x::l):=by delta cI.J;rw [cv];rfl
    replace k:=e▸k;exact z.u k
theorem V3:∀{a:List (Option Tm)} {l},ew a=aa l->l.length=a.length:=by
 intro b;induction b with
 | nil=>intro _ e;exact by obtain rfl:=bP e;rfl
 | cons r a ih=>
  intro l e;induction r with
  | none=>exact a9 e
  | some t=>
   have e:(ew a).map (t::·)=aa l:=e;cases q:ew a with
   | none=>rw [q] at e;exact a9 e| some m=>rw [q] at e;obtain rfl:=bP e;exact congrArg (·+1)<|ih q
theorem V5(W:O.a)(Z:qx O)(b:rs.length<9)(A:lQ O rs tk v v'):js O (.u s:: .b::(tk++[.a eP])) ((ew rs).map λl=> .U s l) v v':=by
 refine⟨(b7 _ _ rfl (λc e=>(nomatch e)) rfl),λfr L u p f a c=>?_⟩;rw [jB,jB,cv];refine nZ (.J<|.m .u) ?_;rcases Du W Z A (f:=⟨ic,L,s,0,ag,[]⟩) (fr:=fr) (rest:=f::a) (u:=u) (p:=p) (.inl rfl) (.inl rfl) with ⟨e,k⟩ | ⟨l,t,q,e,k⟩
 ·exact ae e k
 ·refine ae e ?_;have:=V3 e;rw [bI,gY] at this;exact k.u<|.e<|.m rfl (by refine(?_:([]++l).length<8);rw [acV];exact bJ (.e (.v 0)<|.n 8) (.u (.a (.v 0)<|.n 1)<|.v 1) (.e (.v 1)<|.n 9) rfl [] [_,_] this b)
theorem Wa(W:O.a)(Z:qx O)(A:lQ O rs tk v v'):js O (.a eH::(tk++[.a dZ])) ((ew rs).map λl=>jr l gk) v v':=by
 refine⟨(b7 _ _ rfl (λc e=>by injection e with e;subst e;decide) rfl),λfr L u p f b c=>?_⟩;rw [jB,cv];have k:=Du W Z A (f:=⟨jm,L,fR,0,ag,[]⟩) (fr:=fr) (rest:=f::b) (u:=u) (p:=p) (.inr rfl)<|.inr<|.inl rfl;refine cm A.e λg d a hf=>?_;obtain rfl:=a;refine nZ (.J<|.a hf) ?_;rcases k with ⟨e,k⟩ | ⟨l,t,q,e,k⟩
 ·exact ae e k
 ·exact ae e<|k.u<|.e<|.u rfl
theorem Jh(W:O.a)(Z:qx O)(A:lQ O rs a v v')(n:g≠[])(G:ek O ai af g tk' v' v'')(h:Rd O 999 g r):
 js O (.a eH::(a++ .a cG::(tk'++[.a dZ]))) (match ew rs,r with | some l,aa t=>aa (jr l t) | _,_=>ag) v v'':=by
 refine⟨(b7 _ _ rfl (λc e=>by injection e with e;subst e;decide) rfl),λfr L u p f b c=>?_⟩;rw [jB,cv,jB,cv];have k:=Du W Z A (f:=⟨jm,L,fR,0,ag,[]⟩) (fr:=fr) (rest:=tk'++([.a dZ]++f::b)) (u:=u) (p:=p) (cl:=cG) (.inr rfl)<|.inr<|.inr (by decide);refine cm A.e λm i d hf=>?_;obtain rfl:=d;refine nZ (.J<|.a hf) ?_;rcases k with ⟨e,k⟩ | ⟨l,t,q,e,k⟩
 ·exact ae e k
 ·have k:=k.u (.e<|.j (Dx W Z (by decide)<|by decide) rfl);refine ae e<|o1 (vE W (rest:=f::b) (Dv W Z (f:=⟨qu,L,fR,0,ag,[]++l++[t]⟩) (l:=fr) (.inr<|.inr rfl)<|.inr<|.inl rfl) (by decide) (u:=aa t) (p:=q) G h) λj z=>?_;rcases vB z with ⟨rfl,z⟩ | ⟨x,rfl,z⟩
  ·exact z.I k
  ·exact(k.u z).u<|.e<|.I rfl
end
noncomputable def co(s:Str):List Nat:=s.cps.toList
theorem iL(a b:Str):co (a++b)=co a++co b:=Array.toList_append
noncomputable def lR(c:Nat):Bool:=97<=c&&c<=122
noncomputable def n7(c:Nat):Bool:=65<=c&&c<=90
noncomputable def d4(c:Nat):Bool:=48<=c&&c<=57
noncomputable def iK(c:Nat):Bool:=lR c||n7 c||d4 c||c==95
noncomputable def ij(c:Nat):Bool:=[43,45,42,47,92,94,60,62,61,126,58,46,63,64,35,38,36].contains c
noncomputable def tY(c:Nat):Bool:=[41,91,93,123,125,44,124].contains c
noncomputable def nh(f:Nat->Bool)(r:List Nat):Prop:=∃c m,r=c::m/\f c=ai
noncomputable def jJ(r:List Nat):Prop:=∃c m,r=c::m/\(c=32\/c=41\/c=93\/c=125)
noncomputable def kh(w:List Nat):Nat:=w.foldl (λn c=>n*10+(c - 48)) 0
noncomputable abbrev cs(l:List Nat):Str:=⟨l.toArray⟩
noncomputable def cy:List Str:=[mJ,kg,eR,dU,tR,De,xF,bZ,cG,xG,xE,xI,tS,xH,xD,xB,tQ,tM,tN,nR,tT,xJ,qs,fR,C8,Dc,xC,xu,xx,
 nS,Df,C9,o7,xw,kf,xy,xA,mG,cs [98],cs [99]]
inductive n6:Bool->List Nat->aE->List Nat->Prop
 | e {b c w r} (h:lR c=af) (hw:w.all iK=af) (hr:nh iK r) (hu:cs (c::w)∈cy):n6 b (c::(w++r)) (.u ⟨(c::w).toArray⟩) r
 | d {b c w r} (h:n7 c=af\/c=95) (hw:w.all iK=af) (hr:nh iK r):n6 b (c::(w++r)) (.d ⟨(c::w).toArray⟩) r
 | f {b c w r} (h:ij c=af) (hd:c≠46/\c≠47) (hw:w.all ij=af) (hr:nh ij r) (hu:cs (c::w)∈cy):n6 b (c::(w++r)) (.u ⟨(c::w).toArray⟩) r
 | x {b c w r} (h:d4 c=af) (hw:w.all d4=af) (h0:c=48->w=[]) (hl:w.length<40) (hr:jJ r):n6 b (c::(w++r)) (.x (kh (c::w)) (!b)) r
 | g {b w r} (hw:w.all (λc=>33<=c&&c<=126&&c !=39&&c !=92)=af) (hr:jJ r) (hu:cs w∈cy):n6 b (39::(w++39::r)) (.f ⟨w.toArray⟩) r
 | z {b r} (hr:jJ r):n6 b (34::97::34::34::34::r) .z r
 | l {b r}:n6 b (40::r) (if b then .l else .b) r
 | a {b c r} (h:tY c=af):n6 b (c::r) (.a ⟨#[c]⟩) r
inductive sr:Bool->List Nat->aE->List Nat->Prop
 | eN {b r t r1} (h:n6 b r t r1):sr b r t r1
 | I {b r}:sr b (46::10::r) .I (10::r)
class inductive Lx:Bool->List Nat->List aE->Bool->List Nat->Prop
 | I {b r}:Lx b r [] b r
 | a {b c r tk b' r'} (h:c=32\/c=10) (k:Lx af r tk b' r'):Lx b (c::r) tk b' r'
 | J {b r t r1 tk b' r'} (h:n6 b r t r1) (k:Lx ai r1 tk b' r'):Lx b r (t::tk) b' r'
theorem Lx.u{b r tk b' r' tk' b'' r''}(h:Lx b r tk b' r')(k:Lx b' r' tk' b'' r''):Lx b r (tk++tk') b'' r'':=by induction h with| I=>exact k| a h _ i=>exact .a h<|i k| J h _ i=>exact .J h<|i k
noncomputable def ez(s:Str)(a:Bool->List aE):Prop:=∀b r,jJ r->Lx b (co s++r) (a b) ai r
theorem jJ.nh(h:jJ r)(f:Nat->Bool)(hf:f 32=ai/\f 41=ai/\f 93=ai/\f 125=ai):nh f r:=by refine cm h λi g e q=>?_;clear h;obtain rfl:=e;refine qa hf λa b c d=>?_;clear hf;refine(cL i g rfl ?_);rcases q with rfl | rfl | rfl | rfl<;>assumption
theorem Dy(h:lR c=af)(a:w.all iK=af)(d:cs (c::w)∈cy):ez ⟨(c::w).toArray⟩ (λz=>[.u ⟨(c::w).toArray⟩]):=λb r e=> .J (.e h a (e.nh _<|by decide) d) .I
theorem Ab(h:n7 c=af\/c=95)(a:w.all iK=af):ez ⟨(c::w).toArray⟩ (λz=>[.d ⟨(c::w).toArray⟩]):=λb r d=> .J (.d h a<|d.nh _<|by decide) .I
theorem Aa(h:ij c=af)(hd:c≠46/\c≠47)(a:w.all ij=af)(d:cs (c::w)∈cy):ez ⟨(c::w).toArray⟩ (λz=>[.u ⟨(c::w).toArray⟩]):=λb r e=> .J (.f h hd a (e.nh _<|by decide) d) .I
theorem Wr(a:w.all (λc=>33<=c&&c<=126&&c !=39&&c !=92)=af)(d:cs w∈cy):ez ⟨(39::(w++[39])).toArray⟩ (λz=>[.f ⟨w.toArray⟩]):=λb r e=>by refine(?_:Lx b (39::(w++[39])++r) _ _ _);rw [jB,cv];exact .J (.g a e d) .I
theorem Jl(h:tY c=af):ez ⟨#[c]⟩ (λz=>[.a ⟨#[c]⟩]):=λb r a=> .J (.a h) .I
theorem Wn(h:d4 c=af)(a:w.all d4=af)(h0:c=48->w=[])(hl:w.length<40):ez ⟨(c::w).toArray⟩ (λb=>[.x (kh<|c::w)<|!b]):=λb r d=> .J (.x h a h0 hl d) .I
theorem xU(h:d4 c=af):c<58:=by unfold d4 at h;exact BC<|of_decide_eq_true (oz.mp h).2
theorem Wj:∀c:Fin 58,d4 c.1=af->ij c.1=false:=by decide
theorem Wi(h:d4 c=af):ij c=false:=Wj ⟨c,xU h⟩ h
theorem Wo(h:d4 c=af)(a:w.all d4=af)(h0:c=48->w=[])(hl:w.length<40):ez ⟨(45::c::w).toArray⟩ (λz=>[.u dU, .x (kh<|c::w) af]):=λb r d=>
 .J (.f (c:=45) (w:=[]) (by decide) (by decide) rfl (cL c _ rfl<|Wi h)<|by decide+kernel) (.J (b:=ai) (.x h a h0 hl d) .I)
theorem Wu:ez ⟨#[34,97,34,34,34]⟩ (λz=>[.z]):=λb r a=> .J (.z a) .I
theorem Wq:ez ⟨#[91,32,93]⟩ (λz=>[.a eH, .a dZ]):=λb r a=> .J (.a (c:=91)<|by decide)<|.a (.inl rfl)<|.J (.a (c:=93)<|by decide) .I
theorem Wl:ez ⟨#[123,125]⟩ (λz=>[.a fL, .a e9]):=λb r a=> .J (.a (c:=123)<|by decide)<|.J (.a (c:=125)<|by decide) .I
theorem xT(r):jJ (32::r):=(cL _ _ rfl<|.inl rfl)
theorem Jj(r):jJ (41::r):=(cL _ _ rfl<|.inr<|.inl rfl)
theorem Wh(r):jJ (93::r):=(cL _ _ rfl<|.inr<|.inr<|.inl rfl)
theorem Wg(r):jJ (125::r):=(cL _ _ rfl<|.inr<|.inr<|.inr rfl)
theorem Ws(h:ez s tk):ez (iJ++s++eP) (λb=>(if b then .l else .b)::(tk ai++[.a eP])):=λb r a=>by rw [iL,iL,cv,cv];exact .J .l<|(h ai _<|Jj _).u<|.J (.a (c:=41)<|by decide) .I
theorem Wm(h:ez s tk):ez (fL++s++e9) (λb=> .a fL::(tk ai++[.a e9])):=λb r a=>by rw [iL,iL,cv,cv];exact .J (.a (c:=123)<|by decide)<|(h ai _<|Wg _).u<|.J (.a (c:=125)<|by decide) .I
theorem Jk(h:ez s tk):ez (eH++s++dZ) (λb=> .a eH::(tk ai++[.a dZ])):=λb r a=>by rw [iL,iL,cv,cv];exact .J (.a (c:=91)<|by decide)<|(h ai _<|Wh _).u<|.J (.a (c:=93)<|by decide) .I
theorem Wk(hf:∀b r,Lx b (co f++40::r) [k] ai<|40::r)(h:ez s tk):ez (f++iJ++s++eP) (λb=>k:: .b::(tk ai++[.a eP])):=λb r a=>by rw [iL,iL,iL,cv,cv,cv];exact(hf b _).u<|.J (b:=ai) .l<|(h ai _<|Jj _).u<|.J (.a (c:=41)<|by decide) .I
theorem Wt(h:ez s tk)(c:ez s' tk'):ez (s++(fK++s')) (λb=>tk b++tk' af):=λb r a=>by rw [iL,iL,cv,cv];exact(h b _<|xT _).u<|.a (.inl rfl)<|c af _ a
theorem Jm(e:tY c=af)(h:ez s a)(f:ez s' tk'):ez (s++(cs [32,c,32]++s')) (λb=>a b++ .a ⟨#[c]⟩::tk' af):=λb r d=>by rw [iL,iL,cv,cv];exact(h b _<|xT _).u<|.a (.inl rfl)<|.J (.a e)<|.a (.inl rfl)<|f af _ d
section
variable (O:cX)
noncomputable def iZ(a:Bool)(t:Option Tm)(s:Str)(v v':VS):Prop:=∃c:Bool->List aE,(∀b,js O (c b) t v v')/\(∀k r,c af=k::r->iY k)/\(a=ai->∀k r,c af=k::r->sj O k)/\ez s c
noncomputable def tX(a:Bool)(s:Str):Bool:=if a then(O.bp s).isSome else(O.aZ s).isSome
inductive pj(out:Bool):Bool->aO->Str->VS->VS->Bool->Prop
 | u {fr s k x v} (h:dP k s) (hs:b9 s=ai) (lx:ez x (λz=>[k])):pj out fr (.u s) x v v (tX O fr s)
 | kS {fr s v} (h:b9 s=af) (ho:out=af):pj out fr (.u s) s v v (tX O fr s)
 | J {fr t x v v'} (h:iZ O fr t x v v'):pj out fr (.J t) x v v' ai
class inductive ig(out:Bool):Bool->List (aO×Str)->VS->VS->Bool->Prop
 | I {fr v}:ig out fr [] v v fr
 | u {fr i x v v' fr' l v'' fr''} (h:pj O out fr i x v v' fr') (k:ig out fr' l v' v'' fr''):ig out fr ((i,x)::l) v v'' fr''
variable {O}
theorem ig.J{out fr l v v' fr' i x v'' fr''}(h:ig O out fr l v v' fr')(k:pj O out fr' i x v' v'' fr''):ig O out fr (l++[(i,x)]) v v'' fr'':=by induction h with| I=>exact .u k .I| u h _ i=>exact .u h<|i k
set_option tactic.hygienic true in
theorem pj.U{out fr i x v v' fr'}(h:pj O out fr i x v v' fr'):∃f:Bool->List aE,ez x f/\(∃k r,f af=k::r/\iY k)/\(∀b n:Bool,b=af\/fr=af->∀g a w,ek O out fr' g a v' w->(∀x r,a=x::r->iY x)->ek O out fr (i::g) (f b++a) v w):=by
 cases h with
 | u h o j=>rename_i s k;exact⟨λ_=>[k],j,(cL k ([]) rfl<|by cases h<;>exact⟨λe=>(nomatch e),λ_ e=>(nomatch e)⟩),λb n d g a w G c=> .u h o c G⟩
 | kS h ho=>
  have e:x=bZ\/x=cG:=I8 h;refine(bT (λ_=>[.a x]) ?_ ⟨_,[],rfl,λe=>(nomatch e),λ_ e=>(nomatch e)⟩ λb n d g a w G c=> .kS h ho c G);rcases e with rfl | rfl
  ·exact Jl (c:=44) (by decide)
  ·exact Jl (c:=124) (by decide)
 | J h=>
  refine ji h λf m p h3 j=>(bT f j ?_ λb n d g a w G c=>?_)
  ·exact cm ((m af).1) λk r e _=>⟨k,r,e,p k r e⟩
  ·refine cm ((m b).1) λk r e _=>?_
   have l:fr=ai->sj O k:=λhf=>by
    rcases d with rfl | d
    ·exact h3 hf k r e
    ·rw [hf] at d;exact bw d
   have:=m b;rw [e] at this⊢;exact .J this l c G
theorem ig.U{out fr l v v' d}(h:ig O out fr l v v' d):(l=[]/\v=v')\/∃a:Bool->List aE,ez (cW fK<|l.map (·.2)) a/\(∃k r,a af=k::r/\iY k)/\∀b,b=af\/fr=af->ek O out fr (l.map (·.1)) (a b) v v':=by
 induction h with
 | I=>exact .inl ⟨rfl,rfl⟩
 | @u fr i x v v' d l s p h k ih=>
  refine bR h.U λa n cl g=> .inr ?_;rcases ih with ⟨rfl,rfl⟩ | ⟨f,j,⟨y,w,q,t⟩,o⟩
  ·refine(bT a n cl λb m=>?_);have:=g b af m [] [] _ .I λz z e=>gw e;rwa [jh] at this
  ·refine(bT (λb=>a b++f af) ?_ ?_ λb m=>g b af m _ _ _ (o af<|.inl rfl) λx r e=>?_)
   ·have e:cW fK (((i,x)::l).map (·.2))=x++(fK++cW fK (l.map (·.2))):=by induction l with| nil=>have G:=o af<|.inl rfl;replace G:=q▸G;cases G| cons _ _=>rfl
    exact ae e<|Wt n j
   ·exact cm cl λk r e c=>⟨k,_,by dsimp only;refine ae e ?_;rfl,c⟩
   ·replace e:=q▸e;injection e with e _;exact e▸t
end
inductive bX(CP:Nat->Nat->List V->EP->QV->HP->Prop):Prop
 | mk (fn:∀{n row},tU.lookup n=aa row->∀{k vs E Q H},vs.length=n%10->aw (CP k) row.u (iF (vs++row.e) row.n) (.e E Q) H->CP (k+1) (n/10) vs E Q H)
noncomputable abbrev Jn:=Nat->List V->EP->QV->HP->Prop
inductive EQ where
 | a (x:X) (v:V)
 | f (xs:XL) (vs:List V)
 | g (d:Bool) (xs:XL) (v:V)
 | e (t:B) (c:Bool)
 | b (d:Bool) (l:BL) (c:Bool)
noncomputable def EQ.ctorIdx(e:EQ):Nat:=@EQ.casesOn (λz=>Nat) e (λz z=>0) (λz z=>1) (λz z z=>2) (λz z=>3) λz z z=>4
noncomputable def Jo(CP:Jn)(H:HP)(ρ:aA)(q:EQ):Prop:=EQ.casesOn q
 (λx v=>∀E (Q:QV),Q v H->aK CP x ρ E Q H) (λx v=>∀E (Q:List V->HP->Prop),Q v H->fA CP x ρ E Q H) (λd x v=>∀E (Q:QV),Q v H->tu CP d x ρ E Q H)
 (λt c=>∀E (Q:Bool->HP->Prop),Q c H->gz CP t ρ E Q H) λd l c=>∀E (Q:Bool->HP->Prop),Q c H->gZ CP l ρ E Q d H
inductive aP(H:HP)(ρ:aA)(q:EQ):Prop
 | mk (at_:∀CP,Jo CP H ρ q)
section
variable {H:HP} {ρ:aA}
theorem aP.e{v}:aP H ρ (.a (.e v) v):=⟨λCP E Q q=>q⟩
theorem aP.J{i v}(h:ρ[i]?=aa (aa v)):aP H ρ (.a (.J i) v):=⟨λCP E Q q=>⟨_,h,q⟩⟩
theorem aP.ao{o C k a x}(h:aP H ρ (.a o a))(e:zf H a C k x):aP H ρ (.a (.ao o C k) x):=⟨λCP E Q q=>h.1 CP _ _ ⟨_,e,q⟩⟩
theorem aP.ak(h:aP H ρ (.a o a))(c:aP H ρ (.a i b))(e:fh H a b x):aP H ρ (.a (.ak o i) x):=⟨λCP E Q q=>h.1 CP _ _<|c.1 CP _ _<|aM _ e q⟩
theorem aP.aS(h:aP H ρ (.a l a))(c:aP H ρ (.a r b))(e:j8 H g op a b (.ah x)):aP H ρ (.a (.aS g op l r) x):=⟨λCP E Q q=>h.1 CP _ _<|c.1 CP _ _<|aM _ e q⟩
theorem aP.fg(h:aP H ρ (.a x<|.x i)):aP H ρ (.a (.fg x)<|.x (-i)):=⟨λCP E Q q=>h.1 CP _ _ ⟨_,rfl,q⟩⟩
theorem aP.U{l op r a b c}(h:aP H ρ (.a l a))(d:aP H ρ (.a r b))(e:cg H op a b c):aP H ρ (.a (.U l op r)<|.e c):=⟨λCP E Q q=>h.1 CP _ _<|d.1 CP _ _<|aM _ e q⟩
theorem aP.lT(h:aP H ρ (.e t af))(c:aP H ρ (.a a v)):aP H ρ (.a (.d t a b) v):=⟨λCP E Q q=>h.1 CP _ _ ⟨λz=>c.1 CP _ _ q,λe=>bC e⟩⟩
theorem aP.n8(h:aP H ρ (.e t ai))(c:aP H ρ (.a b v)):aP H ρ (.a (.d t a b) v):=⟨λCP E Q q=>h.1 CP _ _ ⟨λe=>(bw e),λz=>c.1 CP _ _ q⟩⟩
theorem aP.ax(h:aP H ρ (.f xs vs)):aP H ρ (.a (.ax xs)<|.U vs):=⟨λCP E Q q=>h.1 CP _ _ q⟩
theorem aP.bi(h:aP H ρ (.f xs vs))(e:fP H b vs x):aP H ρ (.a (.bi b xs) x):=⟨λCP E Q q=>h.1 CP _ _ ⟨_,e,q⟩⟩
theorem aP.bm(h:aP H ρ (.a o a))(b:jR H m a)(c:aP H ρ (.f xs vs))(e:hX H m a vs x H):aP H ρ (.a (.bm m o xs) x):=⟨λCP E Q q=>h.1 CP _ _ ⟨b,c.1 CP _ _<|cL _ _ e q⟩⟩
theorem aP.cU(h:aP H ρ (.g d xs v)):aP H ρ (.a (.cU d xs) v):=⟨λCP E Q q=>h.1 CP _ _ q⟩
theorem aP.I:aP H ρ (.f .I []):=⟨λCP E Q q=>q⟩
theorem aP.u{x r v vs}(h:aP H ρ (.a x v))(a:aP H ρ (.f r vs)):aP H ρ (.f (.u x r)<|v::vs):=⟨λCP E Q q=>h.1 CP _ _<|a.1 CP _ _ q⟩
theorem aP.i6(h:aP H ρ (.a x v)):aP H ρ (.g d (.u x .I) v):=⟨λCP E Q q=>h.1 CP _ _ ⟨λz=>q,λe=>bC e⟩⟩
theorem aP.n9(h:aP H ρ (.a x v))(e:ka H v (!d)):aP H ρ (.g d (.u x<|.u y r) v):=⟨λCP E Q q=>h.1 CP _ _ ⟨λe=>(bw e),λw=>(bT _ e (λz=>(by induction d<;>cases z)) λw=>q)⟩⟩
theorem aP.go(h:aP H ρ (.a x v))(e:ka H v d)(a:aP H ρ (.g d (.u y r) w)):aP H ρ (.g d (.u x<|.u y r) w):=⟨λCP E Q q=>h.1 CP _ _ ⟨λe=>(bw e),λu=>(bT _ e (λu=>a.1 CP _ _ q) λz=>(by induction d<;>cases z))⟩⟩
theorem aP.bo(h:aP H ρ (.a x<|.e b))(a:aP H ρ (.g af (.u y r)<|.e c)):aP H ρ (.g af (.u x<|.u y r)<|.e<|b&&c):=⟨λCP E Q q=>h.1 CP _ _ ⟨λe=>(bw e),λw=>(bT _ .e (λz=>(by obtain rfl:=z;exact a.1 CP _ _ q)) λz=>(by obtain rfl:=z;exact q))⟩⟩
theorem aP.or(h:aP H ρ (.a x<|.e b))(a:aP H ρ (.g ai (.u y r)<|.e c)):aP H ρ (.g ai (.u x<|.u y r)<|.e<|b||c):=⟨λCP E Q q=>h.1 CP _ _ ⟨λe=>(bw e),λw=>(bT _ .e (λz=>(by obtain rfl:=z;exact a.1 CP _ _ q)) λz=>(by obtain rfl:=z;exact q))⟩⟩
theorem aP.ah(h:aP H ρ (.a x v))(e:ka H v b):aP H ρ (.e (.ah x) b):=⟨λCP E Q q=>h.1 CP _ _ ⟨_,e,q⟩⟩
theorem aP.gE(h:aP H ρ (.e t c)):aP H ρ (.e (.j t)<|!c):=⟨λCP E Q q=>h.1 CP _ _ q⟩
theorem aP.aB(h:aP H ρ (.b af l c)):aP H ρ (.e (.aB l) c):=⟨λCP E Q q=>h.1 CP _ _ q⟩
theorem aP.cQ(h:aP H ρ (.b ai l c)):aP H ρ (.e (.cQ l) c):=⟨λCP E Q q=>h.1 CP _ _ q⟩
theorem aP.gm:aP H ρ (.b d .I d):=⟨λCP E Q q=>q⟩
theorem aP.dJ(h:aP H ρ (.e t<|!d)):aP H ρ (.b d (.u t r)<|!d):=⟨λCP E Q q=>h.1 CP _ _ ⟨λz=>(by induction d<;>cases z),λy=>q⟩⟩
theorem aP.cB(h:aP H ρ (.e t d))(a:aP H ρ (.b d r c)):aP H ρ (.b d (.u t r) c):=⟨λCP E Q q=>h.1 CP _ _ ⟨λy=>a.1 CP _ _ q,λz=>(by induction d<;>cases z)⟩⟩
theorem aP.lS(h:aP H ρ (.e t b))(a:aP H ρ (.b af r c)):aP H ρ (.b af (.u t r)<|b&&c):=⟨λCP E Q q=>h.1 CP _ _ ⟨λz=>(by obtain rfl:=z;exact a.1 CP _ _ q),λz=>(by obtain rfl:=z;exact q)⟩⟩
theorem aP.su(h:aP H ρ (.e t b))(a:aP H ρ (.b ai r c)):aP H ρ (.b ai (.u t r)<|b||c):=⟨λCP E Q q=>h.1 CP _ _ ⟨λz=>(by obtain rfl:=z;exact a.1 CP _ _ q),λz=>(by obtain rfl:=z;exact q)⟩⟩
theorem aP.fZ(CP:Jn)(h:aP H ρ q):Jo CP H ρ q:=h.1 CP
end
noncomputable def xV(v:V):Option Int:=@V.casesOn (λz=>Option Int) v ag (λz=>ag) (λi=>aa i) (λz=>ag) (λz=>ag) λz=>ag
noncomputable def Jq(c:gH)(a b:Option V):Option V:=(a.bind xV).bind λa=>(b.bind xV).bind λb=>@ac7 (λz=>Option V) c (aa<|.x<|a+b) (aa<|.x<|a - b) ag ag ag ag ag ag ag ag ag ag ag
theorem DA(h:xV v=aa i):v= .x i:=by cases v with| x=>exact congrArg V.x<|bP h| _=>exact a9 h
noncomputable def Jp(ρ:aA)(x:X):Option V:=@X.rec (λz=>Option V) (λz=>Option<|List V) (λz=>Unit) (λz=>Unit) ag aa (λi=>(ρ[i]?).join) (λz z z z=>ag) (λz z z z=>ag) (λz z z z z z z=>ag) (λz c z z a b=>Jq c a b) (λz a=>(a.bind xV).map λi=> .x (-i)) (λz z=>ag) (λz z z=>ag) (λz z z z z=>ag) (λz z z z z z=>ag) (λz a=>a.map V.U) (λz z z=>ag) (λz z=>ag) (λz z z z z=>ag) (λz z z=>ag) (λz z z z z=>ag) (λz z=>ag) (λz z z z z z=>ag) (λz z z=>ag) (λz z z z z=>ag) (λz z z z z z z z=>ag) (aa []) (λz z v r=>v.bind λv=>r.map (v::·)) (λz z=>()) (λz z=>()) (λz z=>()) (λz z=>()) (λz z z z z z=>()) (λz z z z z z z z=>()) () (λz z z z=>()) x
noncomputable def Dz(ρ:aA)(x:XL):Option (List V):=@XL.rec (λz=>Option V) (λz=>Option<|List V) (λz=>Unit) (λz=>Unit) ag aa (λi=>(ρ[i]?).join) (λz z z z=>ag) (λz z z z=>ag) (λz z z z z z z=>ag) (λz c z z a b=>Jq c a b) (λz a=>(a.bind xV).map λi=> .x (-i)) (λz z=>ag) (λz z z=>ag) (λz z z z z=>ag) (λz z z z z z=>ag) (λz a=>a.map V.U) (λz z z=>ag) (λz z=>ag) (λz z z z z=>ag) (λz z z=>ag) (λz z z z z=>ag) (λz z=>ag) (λz z z z z z=>ag) (λz z z=>ag) (λz z z z z=>ag) (λz z z z z z z z=>ag) (aa []) (λz z v r=>v.bind λv=>r.map (v::·)) (λz z=>()) (λz z=>()) (λz z=>()) (λz z=>()) (λz z z z z z=>()) (λz z z z z z z z=>()) () (λz z z z=>()) x
section
variable {H:HP} {ρ:aA}
theorem Wv(h:aP H ρ (.a l v))(a:aP H ρ (.a r u))(e:v= .x i)(f:u= .x j)(d:@ac7 (λz=>Option V) op (aa<|.x<|i+j) (aa<|.x<|i - j) ag ag ag ag ag ag ag ag ag ag ag=aa w):aP H ρ (.a (.aS g op l r) w):=by
 subst e f;induction op with
 | Add=>exact bP d▸ .aS h a (.x .J)| Sub=>exact bP d▸ .aS h a (.x .ak)| _=>exact a9 d
theorem bH:∀{v},Jp ρ x=aa v->aP H ρ (.a x v):=λ{v}=>@X.rec (λx=>∀v,Jp ρ x=aa v->aP H ρ (.a x v)) (λx=>∀v,Dz ρ x=aa v->aP H ρ (.f x v)) (λz=>True) (λz=>True) (λz h=>a9 h) (λv w h=>bP h▸ .e) (λi w h=> .J<|Option.join_eq_some_iff.mp h) (λz z z z z h=>a9 h) (λz z z z z h=>a9 h) (λz z z z z z z z h=>a9 h) (λz n l r hl m w h=>au (rA.mp h) λi a b=>au (rA.mp b) λj c d=>au (rA.mp a) λv a e=>au (rA.mp c) λu c f=>Wv (hl v a) (m u c) (DA e) (DA f) d) (λx g w h=>au (oG.mp h) λi a e=>au (rA.mp a) λv a f=>e▸ .fg (DA f▸g v a)) (λz z z h=>a9 h) (λz z z z h=>a9 h) (λz z z z z z h=>a9 h) (λz z z z z z z h=>a9 h) (λxs g w h=>au (oG.mp h) λk a e=>e▸ .ax (g k a)) (λz z z z h=>a9 h) (λz z z h=>a9 h) (λz z z z z z h=>a9 h) (λz z z z h=>a9 h) (λz z z z z z h=>a9 h) (λz z z h=>a9 h) (λz z z z z z z h=>a9 h) (λz z z z h=>a9 h) (λz z z z z z h=>a9 h) (λz z z z z z z z z h=>a9 h) (λw h=>bP h▸ .I) (λx r g m w h=>au (rA.mp h) λv a b=>au (oG.mp b) λk c e=>e▸ .u (g v a) (m k c)) (λz z=>trivial) (λz z=>trivial) (λz z=>trivial) (λz z=>trivial) (λz z z z z z=>trivial) (λz z z z z z z z=>trivial) trivial (λz z z z=>trivial) x v
theorem aC:∀{v},Dz ρ x=aa v->aP H ρ (.f x v):=λ{v}=>@XL.rec (λz=>True) (λx=>∀v,Dz ρ x=aa v->aP H ρ (.f x v)) (λz=>True) (λz=>True) trivial (λz=>trivial) (λz=>trivial) (λz z z z=>trivial) (λz z z z=>trivial) (λz z z z z z z=>trivial) (λz z z z z z=>trivial) (λz z=>trivial) (λz z=>trivial) (λz z z=>trivial) (λz z z z z=>trivial) (λz z z z z z=>trivial) (λz z=>trivial) (λz z z=>trivial) (λz z=>trivial) (λz z z z z=>trivial) (λz z z=>trivial) (λz z z z z=>trivial) (λz z=>trivial) (λz z z z z z=>trivial) (λz z z=>trivial) (λz z z z z=>trivial) (λz z z z z z z z=>trivial) (λw h=>bP h▸ .I) (λx r g f w h=>au (rA.mp h) λv a b=>au (oG.mp b) λd c e=>e▸ .u (bH a) (f d c)) (λz z=>trivial) (λz z=>trivial) (λz z=>trivial) (λz z=>trivial) (λz z z z z z=>trivial) (λz z z z z z z z=>trivial) trivial (λz z z z=>trivial) x v
end
noncomputable abbrev Ev(H:HP)(ρ:aA)(x:X)(v:V):Prop:=aP H ρ<|.a x v
noncomputable abbrev mM(H:HP)(ρ:aA)(x:XL)(v:List V):Prop:=aP H ρ<|.f x v
noncomputable abbrev fE(H:HP)(ρ:aA)(t:B)(c:Bool):Prop:=aP H ρ<|.e t c
noncomputable def cb.I:cb->Nat
 | .u g _=>g| .a g _=>g| .e g _=>g| .c g _=>g| .b C _=>1000+C| .f _ _ _=>999| .j _=>0
noncomputable def Fr(S:List Nat)(H b:HP):Prop:=∀a c,H a=aa c->S.contains c.I=ai->b a=aa c
theorem Fr.I{S H}:Fr S H H:=λz z h z=>h
theorem Fr.u{S H H' H''}(h:Fr S H H')(k:Fr S H' H''):Fr S H H'':=λa c e s=>k a c (h a c e s) s
theorem dh{H:HP}{a b:Nat}{c d:cb}(n:H b=ag)(h:H a=aa c):(H.J b d) a=aa c:=by unfold HP.J;exact ae (if_neg λe=>by rw [e,n] at h;exact a9 h) h
theorem aQ{H:HP}{a:Nat}{c:cb}:(H.J a c) a=aa c:=if_pos rfl
theorem fT{H:HP}{a b:Nat}{c d:cb}(h:H a=aa c)(f:H b=aa d)(n:(c.I==d.I)=ai):a≠b:=λe=>bC<|(beq_iff_eq.mpr<|congrArg cb.I<|bP<|h.symm.trans<|(congrArg H e).trans f).symm.trans n
theorem gc{H:HP}{a b:Nat}{c d:cb}(n:a≠b)(h:H a=aa c):(H.J b d) a=aa c:=by unfold HP.J;exact ae (if_neg n) h
theorem cH{H:HP}{a b:Nat}{c d e:cb}(f:H b=aa e)(h:H a=aa c)(n:(c.I==e.I)=ai):(H.J b d) a=aa c:=gc (fT h f n) h
theorem Fr.aT{S H a c}(h:H a=ag):Fr S H (H.J a c):=λb d e z=>dh h e
theorem Fr.J{S H a}{c d:cb}(h:H a=aa d)(s:S.contains d.I=af):Fr S H (H.J a c):=λb e f g=>gc (λq=>by subst q;rw [h] at f;injection f with f;rw [f,g] at s;exact bw s) f
theorem Fr.U{S T:List Nat}{H H'}(h:Fr S H H')(k:S.all (T.contains ·)=af):Fr T H H':=λa c e s=>h a c e (by
 cases q:S.contains c.I with
 | false=>rfl
 | true=>replace s:=(dT.mp k _ (rB.mp q))▸s;exact bC s)
theorem Fr.e{S T U:List Nat}{H H' H''}(h:Fr S H H')(k:Fr T H' H'')(a:S.all (U.contains ·)=af)(b:T.all (U.contains ·)=af):Fr U H H'':=(h.U a).u<|k.U b
noncomputable abbrev lU:=Nat->List V->EP->QV->HP->Prop
noncomputable abbrev bA.u(P:bA)(CP:lU)(r:SL):bA:={P with nx:=λρ H=>aw CP r ρ P H}
noncomputable abbrev bA.I(P:bA)(nx:aA->HP->Prop):bA:={P with nx:=nx,br:=P.nx}
noncomputable abbrev Jv(CP:lU)(r:SL)(P:bA):aA->HP->Prop:=λρ H=>aw CP r ρ P H
noncomputable abbrev WA(CP:lU)(r:SL)(ρ:aA)(P:bA):QV:=λz H=>aw CP r ρ P H
noncomputable abbrev Jt(CP:lU)(r:SL)(ρ:aA)(i:Nat)(P:bA):QV:=λv H=>aw CP r (ρ.set i<|aa v) P H
noncomputable abbrev WH(CP:lU)(r:SL)(ρ:aA)(a:List Nat)(P:bA):QV:=λv H=>∃l,v= .U l/\l.length=a.length/\aw CP r (wN ρ a l) P H
noncomputable abbrev DB(CP:lU)(r:SL)(t:T)(ρ:aA)(P:bA):QV:=λv H=>oO CP t v ρ (P.ex ρ) (Jv CP r P) H
noncomputable abbrev WC(C k:Nat)(v:V)(ρ:aA)(K:aA->HP->Prop):QV:=λu H=>∃a b,u= .d a/\H a=aa (.b C b)/\K ρ (H.J a<|.b C<|b.set k<|aa v)
noncomputable abbrev Ju(a v:V)(ρ:aA)(K:aA->HP->Prop):QV:=λb H=>∃c,j9 H a b v c/\K ρ c
noncomputable abbrev WD(ρ:aA)(P:bA):QV:=λv H=>∃a d l,v= .d a/\H a=aa (.f af d l)/\P.ex ρ l (H.hZ a)
noncomputable abbrev Jr(CP:lU)(a b:SL)(ρ:aA)(P:bA):Bool->HP->Prop:=nE (aw CP a ρ P)<|aw CP b ρ P
noncomputable abbrev Ac(CP:lU)(f:Nat)(v:V)(E:EP)(Q:QV):List V->HP->Prop:=λa H=>CP f (v::a) E Q H
noncomputable abbrev Js(CP:lU)(f:Nat)(E:EP)(Q:QV):List V->HP->Prop:=λa H=>CP f a E Q H
noncomputable abbrev WE(CP:lU)(i:X)(ρ:aA)(E:EP)(Q:QV):QV:=λa H=>aK CP i ρ E (FW a Q) H
noncomputable abbrev Wx(CP:lU)(g:Nat)(b:gH)(x:X)(ρ:aA)(E:EP)(Q:QV):QV:=λa H=>aK CP x ρ E (FU g b a Q) H
noncomputable abbrev Wy(CP:lU)(b:k6)(x:X)(ρ:aA)(E:EP)(Q:QV):QV:=λa H=>aK CP x ρ E (FV b a Q) H
noncomputable abbrev Wz(v:V)(Q:List V->HP->Prop):List V->HP->Prop:=λa H=>Q (v::a) H
noncomputable abbrev WB(CP:lU)(xs:XL)(ρ:aA)(E:EP)(Q:List V->HP->Prop):QV:=λv H=>fA CP xs ρ E (Wz v Q) H
noncomputable abbrev WG(Q:QV):List V->HP->Prop:=λa H=>Q (.U a) H
section
variable {CP:Nat->List V->EP->QV->HP->Prop} {ρ:aA} {P:bA} {H:HP} {r:SL} {E:EP} {Q:QV}
theorem bj(q:P.nx ρ H):aw CP .I ρ P H:=q
theorem aX(e:Ev H ρ x v)(q:Q v H):aK CP x ρ E Q H:=e.fZ CP E Q q
theorem cF{Q:List V->HP->Prop}(e:mM H ρ xs vs)(q:Q vs H):fA CP xs ρ E Q H:=e.fZ CP E Q q
theorem dB(q:aK CP x ρ (P.ex ρ) (WA CP r ρ P) H):aw CP (.u (.f x) r) ρ P H:=q
theorem bz(q:aK CP x ρ (P.ex ρ) (Jt CP r ρ i P) H):aw CP (.u (.c (.J i) x) r) ρ P H:=q
theorem bQ(e:Ev H ρ x v)(q:aw CP r (ρ.set i<|aa v) P H):aw CP (.u (.c (.J i) x) r) ρ P H:=aX (Q:=Jt CP r ρ i P) e q
theorem x6(e:Ev H ρ x (.U l))(n:l.length=is.length)(q:aw CP r (wN ρ is l) P H):aw CP (.u (.c (.U is) x) r) ρ P H:=aX (Q:=DB CP r (.U is) ρ P) e<|bT l rfl n q
theorem x7(q:aK CP x ρ (P.ex ρ) (WH CP r ρ is P) H):aw CP (.u (.c (.U is) x) r) ρ P H:=q
theorem mO{o C k v a vs}{K:aA->HP->Prop}(ho:Ev H ρ o (.d a))(c:H a=aa (.b C vs))(q:K ρ (H.J a<|.b C<|vs.set k<|aa v)):oO CP (.ao o C k) v ρ E K H:=
 aX (Q:=WC C k v ρ K) ho (b7 a vs rfl c q)
theorem mP(ho:Ev H ρ o a)(hi:Ev H ρ i b)(c:j9 H a b v H')(q:K ρ H'):oO CP (.ak o i) v ρ E K H:=
 aX (Q:=λa H=>aK CP i ρ E (Ju a v ρ K) H) ho (aX (Q:=Ju a v ρ K) hi<|aM H' c q)
theorem qz(q:aK CP x ρ (P.ex ρ) (DB CP r t ρ P) H):aw CP (.u (.c t x) r) ρ P H:=q
theorem jT(e:Ev H ρ x v)(q:oO CP t v ρ (P.ex ρ) (Jv CP r P) H):aw CP (.u (.c t x) r) ρ P H:=aX (Q:=DB CP r t ρ P) e q
theorem aY(e:Ev H ρ x v)(q:P.a v H):aw CP (.u (.e x) r) ρ P H:=aX e q
theorem cC(q:aK CP x ρ (P.ex ρ) P.a H):aw CP (.u (.e x) r) ρ P H:=q
theorem vI(q:aK CP x ρ (P.ex ρ) (WD ρ P) H):aw CP (.u (.j x) r) ρ P H:=q
theorem sv(e:fE H ρ t c)(q:c=af->aw CP a ρ (P.u CP r) H)(d:c=ai->aw CP b ρ (P.u CP r) H):aw CP (.u (.d t a b) r) ρ P H:=
 e.fZ CP _ (Jr CP a b ρ<|P.u CP r) ⟨q,d⟩
theorem gF(e:fE H ρ t c)(q:c=af->aw CP a ρ (P.u CP r) H)(b:c=ai->aw CP r ρ P H):aw CP (.u (.d t a .I) r) ρ P H:=sv e q b
theorem cY(e:fE H ρ t af)(q:aw CP a ρ (P.u CP r) H):aw CP (.u (.d t a b) r) ρ P H:=sv e (λz=>q) λe=>bC e
theorem kj(e:fE H ρ t ai)(q:aw CP b ρ (P.u CP r) H):aw CP (.u (.d t a b) r) ρ P H:=sv e (λe=>bw e) λz=>q
theorem cz(e:fE H ρ t ai)(q:aw CP r ρ P H):aw CP (.u (.d t a .I) r) ρ P H:=kj e q
theorem di(q:gz CP t ρ (P.ex ρ) (Jr CP a b ρ<|P.u CP r) H):aw CP (.u (.d t a b) r) ρ P H:=q
theorem WI(h:ρ[i]?=aa (aa a))(e:Ev H ρ x b)(k:j8 H 0 op a b (.ah c))(q:aw CP r (ρ.set i<|aa c) P H):aw CP (.u (.m i op x) r) ρ P H:=(aM a h<|aX (Q:=λb H=>∃c,j8 H 0 op a b (.ah c)/\aw CP r (ρ.set i<|aa c) P H) e ⟨c,k,q⟩)
theorem bV{f xs vs}(e:mM H ρ xs vs)(q:CP f vs E Q H):aK CP (.aN f xs) ρ E Q H:=cF (Q:=Js CP f E Q) e q
theorem a7{o C f xs a ws vs}(ho:Ev H ρ o (.d a))(c:H a=aa (.b C ws))(e:mM H ρ xs vs)(q:CP f (.d a::vs) E Q H):aK CP (.I o C f xs) ρ E Q H:=
 aX (Q:=Ce C λv H=>fA CP xs ρ E (Ac CP f v E Q) H) ho ⟨(cL a ws rfl c),cF (Q:=Ac CP f (.d a) E Q) e q⟩
theorem jL{o C f xs a ws}(ho:Ev H ρ o (.d a))(c:H a=aa (.b C ws))(q:fA CP xs ρ E (Ac CP f (.d a) E Q) H):aK CP (.I o C f xs) ρ E Q H:=
 aX (Q:=Ce C λv H=>fA CP xs ρ E (Ac CP f v E Q) H) ho ⟨(cL a ws rfl c),q⟩
theorem fv{g xs vs}(e:mM H ρ xs vs)(q:∀c,H c=ag->Q (.d c) (H.J c<|.u g vs)):aK CP (.u g xs) ρ E Q H:=cF (Q:=zh g Q) e q
theorem vG{m o xs a vs x H'}(ho:Ev H ρ o a)(b:jR H m a)(e:mM H ρ xs vs)(k:hX H m a vs x H')(q:Q x H'):aK CP (.bm m o xs) ρ E Q H:=
 aX (Q:=λv H=>jR H m v/\fA CP xs ρ E (Cd m v Q) H) ho ⟨b,cF (Q:=Cd m a Q) e<|cL x H' k q⟩
theorem jt(ho:Ev H ρ o (.d a))(e:Ev H ρ x v)(c:H a=aa (.u g l))(h:l.length<cE)(q:Q .f (H.J a<|.u g<|l++[v])):aK CP (.bm 0 o<|.u x .I) ρ E Q H:=
 vG ho (.hY c) (.u e .I) (.hY c h) q
theorem mQ(q:aK CP o ρ E (WE CP i ρ E Q) H):aK CP (.ak o i) ρ E Q H:=q
theorem og(q:aK CP l ρ E (Wx CP g op x ρ E Q) H):aK CP (.aS g op l x) ρ E Q H:=q
theorem gQ(q:fA CP xs ρ E (Js CP f E Q) H):aK CP (.aN f xs) ρ E Q H:=q
theorem Ad(q:tu CP d xs ρ E Q H):aK CP (.cU d xs) ρ E Q H:=q
theorem wa{d x r}(q:aK CP x ρ E (FT r.e d (tu CP d r ρ E Q) Q) H):tu CP d (.u x r) ρ E Q H:=q
theorem gf(q:aK CP l ρ E (Wy CP op x ρ E Q) H):aK CP (.U l op x) ρ E Q H:=q
theorem cD(q:aK CP x ρ E (FX K) H):gz CP (.ah x) ρ E K H:=q
theorem tZ(q:gz CP t ρ E (λc H=>K (!c) H) H):gz CP (.j t) ρ E K H:=q
theorem pk(q:gZ CP l ρ E K af H):gz CP (.aB l) ρ E K H:=q
theorem Af(q:gZ CP l ρ E K ai H):gz CP (.cQ l) ρ E K H:=q
theorem fc{t r d}{K:Bool->HP->Prop}(q:gz CP t ρ E (FR d (gZ CP r ρ E K d) K) H):gZ CP (.u t r) ρ E K d H:=q
theorem kU(q:K d H):gZ CP .I ρ E K d H:=q
theorem wb(e:fE H ρ t c)(q:K c H):gz CP t ρ E K H:=e.fZ CP E K q
theorem x5(b:Ev H ρ o a)(d:Ev H ρ lo l)(e:Ev H ρ hi h)(k:qf H a l h m)(q:∀c,H c=ag->Q (.d c) (H.J c<|.u g m)):aK CP (.q g o lo hi) ρ E Q H:=
 aX (Q:=λa H=>aK CP lo ρ E (λl H=>aK CP hi ρ E (zi g a l Q) H) H) b
  (aX (Q:=λl H=>aK CP hi ρ E (zi g a l Q) H) d<|aX (Q:=zi g a l Q) e<|aM m k q)
theorem Jw{d:gy}(f:Fr [] H e)(h:d.J H):d.J e:=by induction d with| b=>trivial| u a c=>exact f a c h rfl
theorem Ww{H:HP}:∀{a e:List V} {d:HP} {Q:QV},Fr [] H d->src.J H->e.length+a.length<=cE->
 (∀v∈a,∀d,Fr [] H d->∀K,(∀b,Fr [] d b->K (p v) b)->gZ CP ifs (ρ.set i<|aa v) (λz z=>False) K af d)->
 (∀v∈a,p v=af->∀d,Fr [] H d->∀K,(∀b,Fr [] d b->K (f v) b)->aK CP elt (ρ.set i<|aa v) (λz z=>False) K d)->
 (∀b c,Fr [] H b->b c=ag->Q (.d c) (b.J c<|.u g<|e++(a.filter p).map f))->
 nG g src Q (λv K t H=>gZ CP ifs (ρ.set i<|aa v) (λz z=>False) (nE (aK CP elt (ρ.set i<|aa v) (λz z=>False) K) t) af H) a e d:=by
 intro s;induction s with
 | nil=>intro e d Q F o hl l k q;exact⟨Jw F o,λc j=>by have:=q d c F j;rwa [ac8,MJ,jh] at this⟩
 | cons v a ih=>
  intro e d Q F o hl l k q;replace hl:=dK▸hl;refine⟨Jw F o,l v cu d F _ λu r=>⟨λhp=>?_,λhp=>?_⟩⟩
  ·refine k v cu hp u (F.u r) _ λy x=>⟨by exact aD (.e (.v 0)<|.v 1) (.I (.a (.v 0)<|.a (.v 2)<|.n 1)<|.v 1) rfl [] [_,_,_] hl,ih ((F.u r).u x) o (by exact ae bI<|ae gY<|aD (.I (.a (.a (.v 0)<|.n 1)<|.v 1)<|.v 2) (.I (.a (.v 0)<|.a (.v 1)<|.n 1)<|.v 2) rfl [] [_,_,_] hl) (λw h=>l w<|df _ h) (λw h=>k w<|df _ h) λm c n j=>?_⟩;have:=q m c n j;rw [uC,if_pos hp,gX] at this;rw [cv];exact this
  ·refine ih (F.u r) o (by exact aD (.I (.a (.v 0)<|.v 1)<|.v 2) (.I (.a (.v 0)<|.a (.v 1)<|.n 1)<|.v 2) rfl [] [_,_,_] hl) (λw h=>l w<|df _ h) (λw h=>k w<|df _ h) λm c n j=>?_;have:=q m c n j;rwa [uC,if_neg<|by exact ae hp gp] at this
theorem xX(e:Ev H ρ it v)(hi:lr H v src items)(o:src.J H)(hl:items.length<=cE)
 (h:∀v∈items,∀b,Fr [] H b->∀K,(∀a,Fr [] b a->K (p v) a)->gZ CP ifs (ρ.set i<|aa v) (λz z=>False) K af b)
 (d:∀v∈items,p v=af->∀b,Fr [] H b->∀K,(∀a,Fr [] b a->K (f v) a)->aK CP elt (ρ.set i<|aa v) (λz z=>False) K b)
 (q:∀b c,Fr [] H b->b c=ag->Q (.d c) (b.J c<|.u g<|(items.filter p).map f)):aK CP (.c g elt i it ifs) ρ E Q H:=
 aX (Q:=λv H=>∃src items,lr H v src items/\nG g src Q (λv K j H=>gZ CP ifs (ρ.set i<|aa v) (λz z=>False) (nE (aK CP elt (ρ.set i<|aa v) (λz z=>False) K) j) af H) items [] H) e
  (cL src items hi<|Ww .I o (by rw [rC,jd];exact hl) h d<|q)
theorem xY(e:Ev H ρ it v)(hi:lr H v b a)(o:b.J H)(hl:a.length<=cE)
 (j:∀v∈a,∀K:QV,K (f v) H->aK CP d (ρ.set i<|aa v) (λz z=>False) K H)
 (q:∀c,H c=ag->Q (.d c) (H.J c<|.u g<|a.map f)):aK CP (.c g d i it .I) ρ E Q H:=by
 refine aX (Q:=λv H=>∃b a,lr H v b a/\nG g b Q (λv K m H=>gZ CP .I (ρ.set i<|aa v) (λz z=>False) (nE (aK CP d (ρ.set i<|aa v) (λz z=>False) K) m) af H) a [] H) e<|cL b a hi ?_
 have:∀(l h:List V),(∀v∈l,∀K:QV,K (f v) H->aK CP d (ρ.set i<|aa v) (λz z=>False) K H)->h.length+l.length<=cE->(∀c,H c=ag->Q (.d c) (H.J c<|.u g<|h++l.map f))->
  nG g b Q (λv K m H=>gZ CP .I (ρ.set i<|aa v) (λz z=>False) (nE (aK CP d (ρ.set i<|aa v) (λz z=>False) K) m) af H) l h H:=by
  intro l;induction l with
  | nil=>exactλh z z q=>⟨o,λc k=>by have:=q c k;rwa [MJ,jh] at this⟩| cons v l ih=>intro h j hl q;replace hl:=dK▸hl;refine⟨o,λz=>j v cu _ ⟨aD (.e (.v 0)<|.v 1) (.I (.a (.v 0)<|.a (.v 2)<|.n 1)<|.v 1) rfl [] [_,_,_] hl,ih _ (λw n=>j w<|df _ n) (ae bI<|ae gY<|aD (.I (.a (.a (.v 0)<|.n 1)<|.v 1)<|.v 2) (.I (.a (.v 0)<|.a (.v 1)<|.n 1)<|.v 2) rfl [] [_,_,_] hl) λc k=>?_⟩,λe=>bC e⟩;have:=q c k;rw [cv];exact this
 exact this a [] j (by rw [rC,jd];exact hl) q
theorem bx{Q:List V->HP->Prop}(q:aK CP x ρ E (WB CP xs ρ E Q) H):fA CP (.u x xs) ρ E Q H:=q
theorem jU(q:fA CP xs ρ E (WG Q) H):aK CP (.ax xs) ρ E Q H:=q
noncomputable def dQ(b:Nat)(H c:HP):Prop:=∀a d,a≠b->H a=aa d->c a=aa d
theorem dQ.u{b:Nat}{H f c:HP}(h:dQ b H f)(k:dQ b f c):dQ b H c:=λa d n e=>k a d n<|h a d n e
theorem dQ.J{b S}{c:cb}{H f:HP}(h:dQ b H f)(g:H b=aa c)(s:S.contains c.I=af):Fr S H f:=λa d e q=>h a d (λz=>by rw [z,g] at e;injection e with e;rw [<-e,s] at q;exact bC q) e
theorem km{C k x c b vs}(i:∀(E:EP) (Q:QV),(∀t,H t=ag->Q (.d t) (H.J t c))->aK CP x ρ E Q H)(h0:ρ[0]?=aa (aa<|.d b))(h:H b=aa (.b C vs))
 (q:∀t g,H t=ag->g b=aa (.b C<|vs.set k<|aa<|.d t)->g t=aa c->dQ b H g->aw CP r ρ P g):aw CP (.u (.c (.ao (.J 0) C k) x) r) ρ P H:=
 qz (i _ _ λt f=>mO (.J h0) (dh f h)<|q t _ f aQ ((gc (λe=>by rw [e,h] at f;exact hU f) aQ)) λa d n e=>gc n<|dh f e)
theorem vF(E:EP)(Q:QV)(q:∀t,H t=ag->Q (.d t) (H.J t<|.u g [])):aK CP (.u g .I) ρ E Q H:=q
theorem qy{g k}(E:EP)(Q:QV)(q:∀t,H t=ag->Q (.d t) (H.J t<|lu g k)):aK CP (.h g k) ρ E Q H:=q
theorem cZ{C k x v b vs}(e:Ev H ρ x v)(h0:ρ[0]?=aa (aa<|.d b))(f:H b=aa (.b C vs))(q:∀c,c b=aa (.b C<|vs.set k<|aa v)->dQ b H c->aw CP r ρ P c):aw CP (.u (.c (.ao (.J 0) C k) x) r) ρ P H:=
 jT e (mO (.J h0) f<|q _ aQ λa d n e=>gc n e)
noncomputable def dF(CP:Nat->List V->EP->QV->HP->Prop)(t:T)(b:SL)(P:bA)(a:gy):List V->aA->HP->Prop:=uI a (λv ρ K H=>oO CP t v ρ (P.ex ρ) K H) (λρ P H=>aw CP b ρ P H) P
noncomputable def jK(CP:Nat->List V->EP->QV->HP->Prop)(t:B)(b:SL)(P:bA):Nat->aA->HP->Prop:=zj (λρ K H=>gz CP t ρ (P.ex ρ) K H) (λρ P H=>aw CP b ρ P H) P
theorem ik(h:src.J H)(q:P.nx ρ H):dF CP t b P src [] ρ H:=⟨h,q⟩
theorem i7(h:src.J H)(q:aw CP b (ρ.set i<|aa v) (P.I<|dF CP (.J i) b P src l) H):dF CP (.J i) b P src (v::l) ρ H:=⟨h,q⟩
theorem xW(h:src.J H)(n:m.length=is.length)(q:aw CP b (wN ρ is m) (P.I<|dF CP (.U is) b P src l) H):dF CP (.U is) b P src (.U m::l) ρ H:=(wC h m rfl n q)
theorem vH(e:Ev H ρ x v)(i:lr H v c a)(q:dF CP t b (P.u CP r) c a ρ H):aw CP (.u (.g t (.u x) b) r) ρ P H:=aX (Q:=λv H=>∃c a,lr H v c a/\dF CP t b (P.u CP r) c a ρ H) e<|cL c a i q
theorem xZ(q:aK CP x ρ (P.ex ρ) (λv H=>∃c a,lr H v c a/\dF CP t b (P.u CP r) c a ρ H) H):aw CP (.u (.g t (.u x) b) r) ρ P H:=q
theorem Jx(e:Ev H ρ x (.x n))(h:gK n)(q:dF CP t b (P.u CP r) .b (eQ 0 n) ρ H):aw CP (.u (.g t (.a x) b) r) ρ P H:=aX (Q:=λv H=>∃n,v= .x n/\gK n/\dF CP t b (P.u CP r) .b (eQ 0 n) ρ H) e<|bT n rfl h q
theorem Jy(e:Ev H ρ x (.x m))(f:Ev H ρ y (.x n))(h:gK m)(d:gK n)(q:dF CP t b (P.u CP r) .b (eQ m n) ρ H):aw CP (.u (.g t (.b x y) b) r) ρ P H:=
 aX (Q:=λv H=>aK CP y ρ (P.ex ρ) (λw H=>∃a c,v= .x a/\w= .x c/\gK a/\gK c/\dF CP t b (P.u CP r) .b (eQ a c) ρ H) H) e
  (aX (Q:=λw H=>∃a c,V.x m= .x a/\w= .x c/\gK a/\gK c/\dF CP t b (P.u CP r) .b (eQ a c) ρ H) f<|jQ m n rfl rfl h d q)
theorem Ae(e:Ev H ρ x (.d a))(c:H a=aa (.u g l))(q:dF CP t b (P.u CP r) (.u a<|.u g l) l.reverse ρ H):aw CP (.u (.g t (.d x) b) r) ρ P H:=aX (Q:=λv H=>∃a g l,v= .d a/\H a=aa (.u g l)/\dF CP t b (P.u CP r) (.u a<|.u g l) l.reverse ρ H) e<|mj a g l rfl c q
theorem DC(e:Ev H ρ x (.d a))(c:H a=aa (.a g d))(q:dF CP t b (P.u CP r) (.u a<|.a g d) (d.map λ(e:Str×V)=>V.U [.z e.1,e.2]) ρ H):aw CP (.u (.g t (.c x) b) r) ρ P H:=aX (Q:=λv H=>∃a g d,v= .d a/\H a=aa (.a g d)/\dF CP t b (P.u CP r) (.u a<|.a g d) (d.map λ(e:Str×V)=>V.U [.z e.1,e.2]) ρ H) e<|mj a g d rfl c q
theorem Jz(q:gz CP t ρ (P.ex ρ) (λc H=>(c=af->aw CP b ρ (P.I<|jK CP t b P n) H)/\(c=ai->P.nx ρ H)) H):jK CP t b P (n+1) ρ H:=q
theorem kV(e:fE H ρ t af)(q:aw CP b ρ (P.I<|jK CP t b P n) H):jK CP t b P (n+1) ρ H:=e.fZ CP _ (λc H=>(c=af->aw CP b ρ (P.I<|jK CP t b P n) H)/\(c=ai->P.nx ρ H)) ⟨λz=>q,λe=>bC e⟩
theorem x8(e:fE H ρ t ai)(q:P.nx ρ H):jK CP t b P (n+1) ρ H:=e.fZ CP _ (λc H=>(c=af->aw CP b ρ (P.I<|jK CP t b P n) H)/\(c=ai->P.nx ρ H)) ⟨λe=>(bw e),λz=>q⟩
theorem qA(n:Nat)(q:jK CP t b (P.u CP r) n ρ H):aw CP (.u (.k t b) r) ρ P H:=⟨n,q⟩
end
end
section
open PySem
variable {CP:Nat->Nat->List V->EP->QV->HP->Prop} (L:bX CP) {k:Nat} {E:EP} {Q:QV} {H:HP}
theorem cR:cg H .Eq (.x a) (.x b) (a==b):= .u ⟨dR _, .x⟩
theorem qB:cg H .NotEq (.x a) (.x b) (!(a==b)):= .ne ⟨dR _, .x⟩
theorem cj:cg H .Eq (.z a) (.z b) (a==b):= .u ⟨dR _, .z⟩
theorem kn:cg H .NotEq (.z a) (.z b) (!(a==b)):= .ne ⟨dR _, .z⟩
section
include L
noncomputable def sx(c:Int):Bool:=c==32||(dS (9<=c)&&dS (c<=13))
theorem DE(q:Q (.e<|sx c) H):CP (k+1) 165 [.x c] E Q H:=by exact L.1 (n:=1651) rfl rfl<|aY (v:= .e<|sx c) (.cU<|.or (.U (.J rfl) .e cR)<|.i6<|.cU<|.bo (.U .e (.J rfl) .I)<|.i6<|.U (.J rfl) .e .I) q
noncomputable def de(p:Int)(s:Str):Int×Int:=
 if s==r7 then(0,p - 1) else if s==qt then(0,p) else if s==se then(p - 1,0) else if s==qv then(p,0) else if s==fq then(p - 1,p) else if s==qw then(p,p - 1) else(p - 1,p - 1)
theorem DD(q:Q (.U [.x (de p s).1, .x (de p s).2]) H):CP (k+1) 442 [.x p, .z s] E Q H:=by
 refine L.1 (n:=4422) rfl rfl<|bQ (v:= .x<|p - 1) ((bH rfl)) ?_;unfold de at q;refine gF (c:=s==r7) ((.ah (.U (.J rfl) .e cj) .e)) (λh=>?_) λh=>?_
 ·replace q:=(if_pos h)▸q;exact aY ((bH rfl)) q
 replace q:=(if_neg<|ne_true_of_eq_false h)▸q;refine gF (c:=s==qt) ((.ah (.U (.J rfl) .e cj) .e)) (λh=>?_) λh=>?_
 ·replace q:=(if_pos h)▸q;exact aY ((bH rfl)) q
 replace q:=(if_neg<|ne_true_of_eq_false h)▸q;refine gF (c:=s==se) ((.ah (.U (.J rfl) .e cj) .e)) (λh=>?_) λh=>?_
 ·replace q:=(if_pos h)▸q;exact aY ((bH rfl)) q
 replace q:=(if_neg<|ne_true_of_eq_false h)▸q;refine gF (c:=s==qv) ((.ah (.U (.J rfl) .e cj) .e)) (λh=>?_) λh=>?_
 ·replace q:=(if_pos h)▸q;exact aY ((bH rfl)) q
 replace q:=(if_neg<|ne_true_of_eq_false h)▸q;refine gF (c:=s==fq) ((.ah (.U (.J rfl) .e cj) .e)) (λh=>?_) λh=>?_
 ·replace q:=(if_pos h)▸q;exact aY ((bH rfl)) q
 replace q:=(if_neg<|ne_true_of_eq_false h)▸q;refine gF (c:=s==qw) ((.ah (.U (.J rfl) .e cj) .e)) (λh=>?_) λh=>?_
 ·replace q:=(if_pos h)▸q;exact aY ((bH rfl)) q
 replace q:=(if_neg<|ne_true_of_eq_false h)▸q;exact aY ((bH rfl)) q
end
noncomputable def lW(c:b->a)(i:Nat)(l:List b):List (a×V):=@gq b (λz=>Nat->List (a×V)) (λz=>[]) (λx z ih i=>(c x, .x i)::ih (i+1)) l i
theorem JA(a:b->c)(l:List b):∀i:Nat,(lW a i l).length=l.length:=by induction l with| nil=>exactλi=>rfl| cons x l ih=>exactλi=>congrArg (·+1)<|ih<|i+1
theorem JB(a:b->c)(y:b)(l:List b):∀(i:Nat),lW a i (l++[y])=lW a i l++[(a y, .x ((i+l.length:Nat):Int))]:=by induction l with| nil=>exactλi=>rfl| cons x l ih=>exactλi=>congrArg (By (a x,V.x i))<|(ih<|i+1).trans<|congrArg (λn:Nat=>lW a (i+1) l++[(a y,V.x (n:Int))])<|sU i 1 l.length
theorem DF [BEq b] [LawfulBEq b] [DecidableEq d](a:b->d)(c:∀x y,a x=a y->x=y)(y:b)(l:List b):∀(i:Nat),(y∈l->dA (lW a i l) (a y)=aa (.x ((i+l.idxOf y:Nat):Int)))/\(y∉l->dA (lW a i l) (a y)=ag):=by
 induction l with
 | nil=>exactλi=>⟨λh=>((dz h).elim),λw=>rfl⟩
 | cons x l ih=>
  intro i;have ih:=ih<|i+1;refine(?_:(_->wt (a y) ((a x,V.x i)::lW a (i+1) l)=_)/\(_->wt (a y) ((a x,V.x i)::lW a (i+1) l)=_));refine ae gV<|ae List.idxOf_cons ?_;by_cases e:x=y
  ·refine ae e<|ae (beq_self_eq_true _)<|ae (beq_self_eq_true _) ⟨λw=>rfl,λn=>absurd cu n⟩
  ·refine ae (beq_false_of_ne λq=>e<|c _ _ q.symm)<|ae (beq_false_of_ne e) ⟨λm=>(ih.1<|(dH.mp m).resolve_left λz=>e z.symm).trans<|congrArg (λn:Nat=>aa<|V.x (n:Int))<|sU i 1 _,λn=>ih.2 λm=>n<|df _ m⟩
theorem JF [DecidableEq a]:∀{l U:List a},l.Nodup->(∀x∈l,x∈U)->l.length<=U.length:=by
 intro c;induction c with
 | nil=>intro _ _ _;exact dR _| cons x l ih=>intro U n h;rw [la] at n;have:=ih (U:=U.erase x) n.2 λy b=>(List.mem_erase_of_ne λq=>n.1<|by exact ae q.symm b).mpr<|h y<|df _ b;rw [List.length_erase_of_mem<|h x cu] at this;have p:0<U.length:=List.length_pos_of_mem<|h x cu;exact ae dK<|bJ (.I (.a (.v 0)<|.n 1)<|.v 1) (.I (.v 0)<|.v 2) (.u (.a (.v 2)<|.n 1)<|.v 1) rfl [] [_,_,_] this<|kZ<|aD (.I (.n 1)<|.v 0) (.e (.n 0)<|.v 0) rfl [] [_] p
theorem JG(l:List Str)(t:Str):(t∈l->dA (lW id 0 l) t=aa (.x<|l.idxOf t))/\(t∉l->dA (lW id 0 l) t=ag):=by have:=DF (id:Str->Str) (λx y e=>e) t l 0;rw [jd] at this;exact this
noncomputable abbrev Bk:Type:=(List Str)×(List<|Nat×Nat)
noncomputable abbrev Bk.U(x:Bk):List Str:=x.1
noncomputable abbrev Bk.fs(x:Bk):List (Nat×Nat):=x.2
noncomputable abbrev BA:Type:=Nat×Nat×Nat×Nat×Nat
noncomputable abbrev BA.b(x:BA):Nat:=x.1
noncomputable abbrev BA.t(x:BA):Nat:=x.2.1
noncomputable abbrev BA.n(x:BA):Nat:=x.2.2.1
noncomputable abbrev BA.f(x:BA):Nat:=x.2.2.2.1
noncomputable abbrev BA.m(x:BA):Nat:=x.2.2.2.2
noncomputable def t6(x:Nat×Nat):List Int:=[x.1,x.2]
theorem JC(x y:Nat×Nat)(h:t6 x=t6 y):x=y:=by unfold t6 at h;injection h with b a;injection a with a;exact Fc (wy b)<|wy a
inductive Bk.a(k:Bk):Prop
 | mk (nt:k.U.Nodup)
  (ut:∀x∈k.U,x∈cy)
  (nf:k.fs.Nodup)
  (uf:∀x∈k.fs,x.1<40/\x.2<10)
theorem Bk.a.e{k:Bk}(h:k.a):k.U.length<=40:=JF h.1 h.2
theorem WJ:∀{l:List c},(∀x∈l,∀y∈l,g x=g y->x=y)->l.Nodup->(l.map g).Nodup:=by
 intro i;induction i with
 | nil=>intro _ _;exact rD| cons x l ih=>intro h n;rw [la] at n;rw [gX,la];exact⟨λq=>au (gi.mp q) λy d e=>n.1<|h x cu y (df _ d) e.symm▸d,ih (λa k b j=>h a (df _ k) b<|df _ j) n.2⟩
theorem Bk.a.I{k:Bk}(h:k.a):k.fs.length<=400:=by
 have:=JF (l:=k.fs.map λx=>x.1*10+x.2) (U:=sO 400) (WJ (λx c y g e=>by
  have a:=h.4 x c;have b:=h.4 y g;have e:x.1*10+x.2=y.1*10+y.2:=e
  exact Fc ((dm a.2).1.symm.trans ((congrArg (·/10) e).trans (dm b.2).1)) ((dm a.2).2.symm.trans ((congrArg (·%10) e).trans (dm b.2).2))) h.3) λz f=>by refine au (gi.mp f) λx c d=>?_;obtain rfl:=d;have:=h.4 x c;exact List.mem_range.mpr<|bJ (.e (.a (.u (.v 0) 10)<|.v 1)<|.n 400) ⟨10,ai, .e (.v 0)<|.n 40⟩ (.e (.v 1)<|.n 10) rfl [] [_,_] this.1 this.2
 rwa [bB,ada] at this
inductive cJ(H:HP)(A:BA)(k:Bk):Prop
 | mk (b:H A.b=aa (.b 154 [aa (.d A.t),aa (.d A.n),aa (.d A.f),aa (.d A.m)]))
  (t:H A.t=aa (.u 1 (k.U.map V.z)))
  (n:H A.n=aa (.a 2 (lW id 0 k.U)))
  (f:H A.f=aa (.u 3 (k.fs.map λx=> .U [.x x.1, .x x.2])))
  (m:H A.m=aa (.c 4 (lW t6 0 k.fs)))
  (ok:k.a)
noncomputable def Bk.e(k:Bk)(t:Str):Nat:=k.U.idxOf t
noncomputable def Bk.kr(k:Bk)(x:Nat×Nat):Nat:=k.fs.idxOf x
noncomputable def Bk.J(k:Bk)(t:Str):Bk:=if t∈k.U then k else⟨k.U++[t],k.fs⟩
noncomputable def Bk.u(k:Bk)(x:Nat×Nat):Bk:=if x∈k.fs then k else⟨k.U,k.fs++[x]⟩
inductive Bk.I(k k':Bk):Prop
 | mk (t:k.U<+:k'.U)
  (f:k.fs<+:k'.fs)
theorem Bk.I.I(k:Bk):k.I k:=⟨Fg _,Fg _⟩
theorem Bk.I.u{a b c:Bk}(h:a.I b)(k:b.I c):a.I c:=⟨h.1.trans k.1,h.2.trans k.2⟩
theorem JD [BEq a] [LawfulBEq a](h:l<+:m){x:a}(c:x∈l):m.idxOf x=l.idxOf x:=by refine o1 h λr b=>?_;clear h;obtain rfl:=b;exact ae ac9<|ae (if_pos c) rfl
theorem JE [BEq a] [LawfulBEq a]{x:a}(h:x∉l):(l++[x]).idxOf x=l.length:=by rw [ac9,if_neg h,List.idxOf_cons_self,jd]
theorem Bk.lV(k:Bk)(t:Str):k.I (k.J t):=by
 unfold Bk.J;split
 ·exact .I _
 ·exact⟨adb _ _,Fg _⟩
theorem Bk.x9(k:Bk)(x:Nat×Nat):k.I (k.u x):=by
 unfold Bk.u;split
 ·exact .I _
 ·exact⟨Fg _,adb _ _⟩
theorem Bk.pn(k:Bk)(t:Str):t∈(k.J t).U:=by
 unfold Bk.J;split
 ·assumption
 ·exact ma _ cu
theorem Bk.ya(k:Bk)(x:Nat×Nat):x∈(k.u x).fs:=by
 unfold Bk.u;split
 ·assumption
 ·exact ma _ cu
theorem Ag(h:l.Nodup)(n:x∉l):(l++[x]).Nodup:=by rw [BD];exact⟨h,la.mpr ⟨dz,rD⟩,λa f b d e=>n<|ae (d5.mp d).symm<|ae e.symm f⟩
theorem Bk.a.J{k:Bk}(h:k.a){t:Str}(b:t∈cy):(k.J t).a:=by
 unfold Bk.J;split
 ·exact h
 ·rename_i n;refine⟨Ag h.1 n,λx a=>cO (fG.mp a) (λq=>?_) λq=>?_,h.3,h.4⟩
  ·exact h.2 x q
  ·exact ae (d5.mp q) b
theorem Bk.a.u{k:Bk}(h:k.a){x:Nat×Nat}(b:x.1<40/\x.2<10):(k.u x).a:=by
 unfold Bk.u;split
 ·exact h
 ·rename_i n;refine⟨h.1,h.2,Ag h.3 n,λy a=>(cO (fG.mp a) (λq=>?_) λq=>?_)⟩
  ·exact h.4 y q
  ·exact ae (d5.mp q) b
noncomputable def gR:List Nat:=[1,2,3,4]
theorem gE(h:(!b)=af):b=false:=by induction b;rfl;exact bw h
theorem cJ.J{H a:HP}{A:BA}{k:Bk}{S:List Nat}(h:cJ H A k)(f:Fr S H a)(s:[1154,1,2,3,4].all (λn=>!S.contains n)=af):cJ a A k:=by have s:∀n∈[1154,1,2,3,4],S.contains n=false:=λn b=>gE<|dT.mp s n b;exact⟨f _ _ h.1<|s 1154 (by decide),f _ _ h.2<|s 1 (by decide),f _ _ h.3<|s 2 (by decide),f _ _ h.4<|s 3 (by decide),f _ _ h.5<|s 4 (by decide),h.6⟩
section
variable {A:BA} {bk:Bk}
include L
theorem qC{t:Str}(h:cJ H A bk)(r:t∈cy)(q:∀o,Fr gR H o->cJ o A (bk.J t)->Q (.x<|(bk.J t).e t) o):CP (k+1) 88 [.d A.b, .z t] E Q H:=by
 have j:=h.1;have l:=h.3;have c:=hX.f (H:=H) (d:= .x (-1))<|.s (k:=t) l;refine L.1 (n:=882) rfl rfl ?_;by_cases m:t∈bk.U
 ·replace c:=((JG bk.U t).1 m)▸c;have e:bk.J t=bk:=if_pos m;refine bQ (v:= .x<|bk.e t) (.bm (by exact(.ao (.J rfl)<|.b j rfl)) (.eM l rfl) (.u (.J rfl)<|.u (by exact(.fg .e)) .I) c) ?_
  ·refine cY (.ah (v:= .e af) (.U (.J rfl) .e ?_) .e) (aY (.J rfl) ?_)
   ·have:=cg.i (H:=H) (a:=(bk.e t:Int)) (b:=0);rwa [decide_eq_true<|iA _] at this
   ·have:=q H .I (show cJ H A (bk.J t) by exact ae e h);rwa [e] at this
 ·have g:=(JG bk.U t).2 m;replace c:=g▸c;have e:bk.J t=⟨bk.U++[t],bk.fs⟩:=if_neg m;refine bQ (v:= .x (-1)) (.bm ((.ao (.J rfl)<|.b j rfl)) (.eM l rfl) (.u (.J rfl)<|.u ((.fg .e)) .I) c) ?_
  ·have i:=h.2;have hl:=h.6.e;refine cz (.ah (v:= .e ai) (.U (.J rfl) .e cg.i) .e)<|bQ (v:= .x bk.U.length) (.bi (.u ((.ao (.J rfl)<|.b j rfl)) .I) ?_) ?_
   ·have:=fP.e i;rwa [bB] at this
   refine dB<|jt ((.ao (.J rfl)<|.b j rfl)) (.J rfl) i (by rw [bB];skip;exact aD (.e (.v 0)<|.n 16777216) (.I (.v 0)<|.n 40) rfl [] [_] hl) ?_;have hb1:=cH (d:= .u 1<|bk.U.map V.z++[V.z t]) i j rfl;have f:=cH (d:= .u 1<|bk.U.map V.z++[V.z t]) i l rfl;refine jT (.J rfl)<|mP ((.ao (.J rfl)<|.b hb1 rfl)) (.J rfl) (.s f (by rw [JA];skip;exact aD (.e (.v 0)<|.n 16777216) (.I (.v 0)<|.n 40) rfl [] [_] hl) g)<|aY (.J rfl) ?_;have hb2:=cH (d:= .a 2<|lW id 0 bk.U++[(t,V.x bk.U.length)]) f hb1 rfl;have s:((bk.J t).e t:Int)=bk.U.length:=by exact ae e<|congrArg gS<|JE m
   replace q:=s▸q;refine q _ ((Fr.J i rfl).u<|Fr.J f rfl) ?_;have p:=h.6.J r;rw [e] at p⊢;refine⟨hb2,?_,?_,cH f (cH i h.4 rfl) rfl,cH f (cH i h.5 rfl) rfl,p⟩
   ·exact(cH f aQ rfl).trans<|ae ed rfl
   ·refine aQ.trans ?_;rw [JB,jd];rfl
end
noncomputable def Bk.t7(k:Bk)(t:Str)(n:Nat):Bk:=(k.J t).u ((k.J t).e t,n)
noncomputable def Bk.fn(k:Bk)(t:Str)(n:Nat):Nat:=k.kr (k.e t,n)
theorem Bk.yb{k:Bk}(h:k.a){t:Str}(m:t∈k.U):k.e t<40:=iO (MK m) h.e
theorem Bk.WK(k:Bk)(x:Nat×Nat):(k.u x).U=k.U:=by unfold Bk.u;split<;>rfl
theorem Bk.WL(k:Bk)(t:Str)(n:Nat):(k.t7 t n).fn t n=((k.J t).u ((k.J t).e t,n)).kr ((k.J t).e t,n):=by delta Bk.fn Bk.t7 Bk.e;rw [Bk.WK]
theorem JI{n j:Nat}{i:Int}(e:(if i<0 then i+n else i)=(j:Int))(h:j<n):uu i n=aa j:=
 (congrArg (λk:Int=>if(dS (0<=k)&&dS (k<n))=af then aa k.toNat else ag) e).trans (if_pos<|oz.mpr ⟨decide_eq_true<|iA j,decide_eq_true<|j3.mpr h⟩)
theorem lX{n i:Nat}(h:i<n)(a:n<1099511627776):qg n (i:Int)=aa i:=
 (if_pos<|jg h a).trans (JI (if_neg<|oC.mpr<|iA i) h)
section
include L
theorem yc(h:cJ H A bk)(r:x.1<40/\x.2<10)(q:∀o,Fr gR H o->cJ o A (bk.u x)->Q (.x<|(bk.u x).kr x) o):CP (k+1) 102 [.d A.b, .x x.1, .x x.2] E Q H:=by
 have j:=h.1;have l:=h.5;have hi:nC [.x x.1, .x x.2] (t6 x):= .u<|.u .I;refine L.1 (n:=1023) rfl rfl<|bQ (v:= .U [.x x.1, .x x.2]) ((bH rfl)) ?_;have c:=hX.f (H:=H) (d:= .x (-1))<|.t l hi;by_cases m:x∈bk.fs
 ·rw [(DF t6 JC x bk.fs 0).1 m,jd] at c;have e:bk.u x=bk:=if_pos m;replace q:=e▸q;refine bQ (v:= .x<|bk.kr x) (.bm ((.ao (.J rfl)<|.b j rfl)) (.eM l rfl) (.u (.J rfl)<|.u ((bH rfl)) .I) c)<|cY (.ah (v:= .e af) (.U (.J rfl) .e ?_) .e)<|aY (.J rfl)<|q H .I h;have:=cg.i (H:=H) (a:=(bk.kr x:Int)) (b:=0);rwa [decide_eq_true<|iA _] at this
 ·have g:=(DF t6 JC x bk.fs 0).2 m;replace c:=g▸c;have e:bk.u x=⟨bk.U,bk.fs++[x]⟩:=if_neg m;have s:((bk.u x).kr x:Int)=bk.fs.length:=by exact ae e<|congrArg gS<|JE m
  replace q:=s▸q;have p:=h.6.u r;rw [e] at q p;have i:=h.4;have hl:=h.6.I;refine bQ (v:= .x (-1)) (.bm ((.ao (.J rfl)<|.b j rfl)) (.eM l rfl) (.u (.J rfl)<|.u ((bH rfl)) .I) c)<|cz (.ah (v:= .e ai) (.U (.J rfl) .e cg.i) .e)<|bQ (v:= .x bk.fs.length) (.bi (.u ((.ao (.J rfl)<|.b j rfl)) .I) ?_) ?_
  ·have:=fP.e i;rwa [bB] at this
  refine dB<|jt ((.ao (.J rfl)<|.b j rfl)) (.J rfl) i (by rw [bB];exact eX hl<|by decide) ?_;have hb1:=cH (d:= .u 3<|bk.fs.map (λx=> .U [.x x.1, .x x.2])++[V.U [.x x.1, .x x.2]]) i j rfl;have f:=cH (d:= .u 3<|bk.fs.map (λx=> .U [.x x.1, .x x.2])++[V.U [.x x.1, .x x.2]]) i l rfl;refine jT (.J rfl)<|mP ((.ao (.J rfl)<|.b hb1 rfl)) (.J rfl) (.t f (by rw [JA];exact eX hl<|by decide) hi)<|aY (.J rfl)<|q _ ((Fr.J i rfl).u<|Fr.J f rfl) ⟨cH f hb1 rfl,cH f (cH i h.2 rfl) rfl,cH f (cH i h.3 rfl) rfl,?_,?_,p⟩
  ·exact(cH f aQ rfl).trans<|ae ed rfl
  ·refine aQ.trans ?_;unfold gJ;rw [g,JB,jd];rfl
theorem JH{t:Str}{n:Nat}(h:cJ H A bk)(c:t∈cy)(d:n<10)(q:∀a,Fr gR H a->cJ a A (bk.t7 t n)->Q (.x<|(bk.t7 t n).fn t n) a):CP (k+2) 109 [.d A.b, .z t, .x n] E Q H:=by refine L.1 (n:=1093) rfl rfl<|cC<|jL (.J rfl) h.1<|bx<|a7 (.J rfl) h.1 ((aC rfl))<|qC L h c λj i b=>cF (vs:=[.x n]) ((aC rfl))<|yc L (x:=((bk.J t).e t,n)) b ⟨Bk.yb b.6<|bk.pn t,d⟩ λf g e=>?_;have:=q f (i.u g) e;rwa [Bk.WL] at this
theorem WM{i:Nat}(h:cJ H A bk)(e:bk.U[i]?=aa t)(q:Q (.z t) H):CP (k+1) 95 [.d A.b, .x i] E Q H:=by
 have b:=h.1;have a:=h.2;have hi:i<bk.U.length:=(oH.mp e).1;refine L.1 (n:=952) rfl rfl<|aY (.ak ((.ao (.J rfl)<|.b b rfl)) (.J rfl)<|.u a (j:=i) ?_ ?_) q
 ·rw [bB];exact lX hi<|eX h.6.e (by decide)
 ·refine ae (jf)<|ae e ?_;rfl
end
noncomputable def DG:List Str:=[mJ,kg,eR,dU,tR,De,xF,bZ,cG,xG,xE,xI,tS,xH,xD,xB,tQ,tM,tN,nR,tT,xJ,qs,fR,C8,Dc,xC,xu,xx]
noncomputable def DH:List (Str×Nat):=[(kg,2),(bZ,2),(xG,2),(xE,2),(xI,1),(tS,2),(tS,1),(xH,1),(xD,2),(eR,1),(tT,2),(xJ,2),(dU,1),(dU,2),(tR,2),(xF,2),(qs,2),(xC,1),(xu,3),(xx,1),(xB,0),(tQ,0),(tM,0),(tN,0),(nR,1),(nR,2),(nR,3),(nR,4),(nR,5),(nR,6),(nR,7),(nR,8)]
noncomputable def WQ:Bk:=DG.foldl Bk.J ⟨[],[]⟩
noncomputable def fU:Bk:=DH.foldl (λk x=>k.t7 x.1 x.2) WQ
theorem WO:fU.e mJ=0/\fU.e eR=2/\fU.e bZ=7/\fU.e cG=8/\fU.fn kg 2=0/\fU.fn eR 1=9:=by decide+kernel
theorem JJ:mJ∈fU.U/\eR∈fU.U/\bZ∈fU.U/\cG∈fU.U/\kg∈fU.U/\(fU.e kg,2)∈fU.fs/\(fU.e eR,1)∈fU.fs:=by decide+kernel
theorem WN:∀t∈DG,t∈cy:=by decide+kernel
theorem WV:∀t∈DH,t.1∈cy/\t.2<10:=by decide+kernel
section
include L
theorem WT(q:Q (.U<|DG.map V.z) H):CP (k+1) 60 [] E Q H:=L.1 (n:=600) rfl rfl<|aY ((bH rfl)) q
theorem WU(q:Q (.U<|DH.map λx=> .U [.z x.1, .x x.2]) H):CP (k+1) 67 [] E Q H:=L.1 (n:=670) rfl rfl<|aY ((bH rfl)) q
theorem WW:∀{l:List Str} {bk:Bk} {H:HP} {x:Option V} {P:bA},cJ H A bk->(∀t∈l,t∈cy)->(∀a x,Fr gR H a->cJ a A (l.foldl Bk.J bk)->P.nx [aa<|.d A.b,x,y] a)->
 dF (CP<|k+1) (.J 1) IH P .b (l.map V.z) [aa<|.d A.b,x,y] H:=by
 intro c;induction c with
 | nil=>intro bk H x P h b q;exact ik trivial<|q H x .I h
 | cons t l ih=>
  intro bk H x P h b q
  exact i7 trivial (dB (a7 (.J rfl) h.1 (aC rfl) (qC L h (b t cu) λg f d=>
   bj (ih d (λt m=>b t (df _ m)) λa x F e=>q a x (f.u F) e))))
theorem WX:∀{l:List (Str×Nat)} {bk:Bk} {H:HP} {y:Option V} {P:bA},cJ H A bk->(∀t∈l,t.1∈cy/\t.2<10)->(∀a y,Fr gR H a->cJ a A (l.foldl (λk x=>k.t7 x.1 x.2) bk)->P.nx [aa<|.d A.b,x,y] a)->
 dF (CP<|k+2) (.J 2) II P .b (l.map λx=> .U [.z x.1, .x x.2]) [aa<|.d A.b,x,y] H:=by
 intro c;induction c with
 | nil=>intro bk H x P h b q;exact ik trivial<|q H x .I h
 | cons t l ih=>
  intro bk H x P h b q
  exact i7 trivial (dB (a7 (.J rfl) h.1 (vs:=[.z t.1, .x t.2]) ((.u (.ak (.J rfl) .e (.U rfl rfl)) (.u (.ak (.J rfl) .e (.U rfl rfl)) .I))) (JH L h (b t cu).1 (b t cu).2 λg f d=>
   bj (ih d (λt m=>b t (df _ m)) λa x F e=>q a x (f.u F) e))))
theorem WR(l:H b=aa (.b 154 [ag,ag,ag,ag]))(q:∀o A,A.b=b->Fr [1154,1,2,3,4] H o->cJ o A fU->Q .f o):CP (k+3) 81 [.d b] E Q H:=by
 refine L.1 (n:=811) rfl rfl<|km vF rfl l λt Y r hb1 C U=>?_;have a:t≠b:=λe=>by rw [e,l] at r;exact hU r
 refine km qy rfl hb1 λn X s hb2 G v=>?_;have c:n≠b:=λe=>by rw [e,hb1] at s;exact hU s
 have B:=v _ _ a C;refine km vF rfl hb2 λf W u j J p=>?_;have g:f≠b:=λe=>by rw [e,hb2] at u;exact hU u
 have w:=p _ _ a B;have D:=p _ _ c G;refine km qy rfl j λm P nm i I d=>?_;have K:cJ P ⟨b,t,n,f,m⟩ ⟨[],[]⟩:=⟨i,d _ _ a w,d _ _ c D,d _ _ g J,I,⟨rD,λz h=>((dz h).elim),rD,λz h=>(dz h).elim⟩⟩;have F:=(((U.u v).u p).u d).J l (S:=[1154,1,2,3,4]) rfl;exact xZ<|bV (vs:=[]) .I<|WT L<|cL _ _ .U<|WW L (A:=⟨b,t,n,f,m⟩) K WN λV x T N=>xZ<|bV (vs:=[]) .I<|WU L ⟨_,_, .U,WX L (A:=⟨b,t,n,f,m⟩) N WV λO y R M=>(q O _ rfl ((F.u<|T.U rfl).u<|R.U rfl) M)⟩
end
noncomputable def JM(k:Bk)(f:Str)(n:Nat)(a:List V):V:= .U [.z iI, .x<|k.fn f n, .U a]
noncomputable def tv(k:Bk)(t:Tm):V:=@Tm.rec (λz=>V) (λz=>List V) (λt=> .U [.z mG, .x<|k.e t]) (λi=> .U [.z nT, .x i]) (λn=> .U [.z vo, .x n]) (λf b l=>JM k f b.length l) [] (λz z a l=>a::l) t
noncomputable def eU(k:Bk)(t:List Tm):List V:=@Tm.rec_1 (λz=>V) (λz=>List V) (λt=> .U [.z mG, .x<|k.e t]) (λi=> .U [.z nT, .x i]) (λn=> .U [.z vo, .x n]) (λf b l=>JM k f b.length l) [] (λz z a l=>a::l) t
noncomputable def Tm.e(k:Bk)(t:Tm):Prop:=@Tm.rec (λz=>Prop) (λz=>Prop) (λt=>t∈k.U) (λz=>True) (λz=>True) (λf a p=>f∈k.U/\(k.e f,a.length)∈k.fs/\p) True (λz z p q=>p/\q) t
noncomputable def Tm.u(k:Bk)(t:List Tm):Prop:=@Tm.rec_1 (λz=>Prop) (λz=>Prop) (λt=>t∈k.U) (λz=>True) (λz=>True) (λf a p=>f∈k.U/\(k.e f,a.length)∈k.fs/\p) True (λz z p q=>p/\q) t
theorem i8{k a:Bk}(h:k.I a){t:Str}(m:t∈k.U):a.e t=k.e t:=JD h.1 m
theorem Ah{k a:Bk}(h:k.I a){t:Str}{n:Nat}(m:t∈k.U)(f:(k.e t,n)∈k.fs):a.fn t n=k.fn t n:=by unfold Bk.fn;exact ae (i8 h m)<|JD h.2 f
theorem kW{k a:Bk}(h:k.I a)(t:Tm):t.e k->t.e a/\tv a t=tv k t:=
 @Tm.rec (λt=>t.e k->t.e a/\tv a t=tv k t) (λl=>Tm.u k l->Tm.u a l/\eU a l=eU k l)
  (λt m=>⟨h.1.subset m,congrArg (λn:Nat=>V.U [.z mG, .x n])<|i8 h m⟩)
  (λz z=>⟨trivial,rfl⟩) (λz z=>⟨trivial,rfl⟩)
  (λf c ih m=>gI m λm n l=>⟨⟨h.1.subset m,(i8 h m).symm▸h.2.subset n,(ih l).1⟩,wB (λ(n:Nat) l=>V.U [.z iI, .x n, .U l]) (Ah h m n) (ih l).2⟩)
  (λz=>⟨trivial,rfl⟩) (λt l ih b m=>⟨⟨(ih m.1).1,(b m.2).1⟩,wB By (ih m.1).2 (b m.2).2⟩) t
theorem Ai{k a:Bk}(h:k.I a)(l:List Tm):Tm.u k l->Tm.u a l/\eU a l=eU k l:=by induction l with| nil=>exactλz=>⟨trivial,rfl⟩| cons t l ih=>exactλm=>⟨⟨(kW h t m.1).1,(ih m.2).1⟩,wB By (kW h t m.1).2 (ih m.2).2⟩
theorem vJ(k:Bk)(l:List Tm):eU k l=l.map (tv k):=by induction l with| nil=>rfl| cons t l ih=>exact congrArg (By<|tv k t) ih
theorem qD(k:Bk)(l:List Tm):Tm.u k l↔∀t∈l,Tm.e k t:=by induction l with| nil=>exact⟨λz z h=>((dz h).elim),λz=>trivial⟩| cons t l ih=>exact(and_congr_right λz=>ih).trans abE.symm
noncomputable def oh(l:List V)(t:V):V:=@gq V (λz=>V) t (λx z ih=> .U [.z iI, .x 0, .U [x,ih]]) l
noncomputable def sA:V:= .U [.z mG, .x 0]
theorem k0{k:Bk}(h:fU.I k):k.e mJ=0/\k.e eR=2/\k.e bZ=7/\k.e cG=8/\k.fn kg 2=0/\k.fn eR 1=9:=by obtain⟨a,b,c,d,e,f⟩:=WO;exact Fz JJ λo g n m l j i=>⟨(i8 h o).trans a,(i8 h g).trans b,(i8 h n).trans c,(i8 h m).trans d,(Ah h l j).trans e,(Ah h g i).trans f⟩
theorem mR{k:Bk}(h:fU.I k):mJ∈k.U/\eR∈k.U/\bZ∈k.U/\cG∈k.U/\kg∈k.U/\(k.e kg,2)∈k.fs/\(k.e eR,1)∈k.fs:=by
 refine Fz JJ λg b f e a d c=>⟨h.1.subset g,h.1.subset b,h.1.subset f,h.1.subset e,h.1.subset a,?_,?_⟩
 ·exact ae (i8 h a)<|h.2.subset d
 ·exact ae (i8 h b)<|h.2.subset c
theorem qE{k:Bk}(h:fU.I k):tv k gk=sA/\gk.e k:=⟨by refine((ae ((k0 h).1) ?_):V.U [_, .x<|k.e mJ]=_);rfl,(mR h).1⟩
theorem pq{k:Bk}(h:fU.I k)(t:Tm)(l:List Tm):tv k (jr l t)=oh (eU k l) (tv k t)/\(Tm.u k l->t.e k->(jr l t).e k):=by induction l with| nil=>exact⟨rfl,λz m=>m⟩| cons x l ih=>exact⟨wB (λ(n:Nat) w=>V.U [.z iI, .x n, .U [tv k x,w]]) (k0 h).2.2.2.2.1 ih.1,λm n=>⟨(mR h).2.2.2.2.1,(mR h).2.2.2.2.2.1,m.1,ih.2 m.2 n,trivial⟩⟩
section
include L
theorem DK(q:Q (.U [.z vo, .x n]) H):CP (k+1) 382 [.x n] E Q H:=L.1 (n:=3821) rfl rfl<|aY ((bH rfl)) q
theorem DI(q:Q (.U [.z mG, .x n]) H):CP (k+1) 389 [.x n] E Q H:=L.1 (n:=3891) rfl rfl<|aY ((bH rfl)) q
theorem DJ(q:Q (.U [.z nT, .x n]) H):CP (k+1) 396 [.x n] E Q H:=L.1 (n:=3961) rfl rfl<|aY ((bH rfl)) q
theorem yd(q:Q (.U [.z iI,f, .U l]) H):CP (k+1) 403 [f, .U l] E Q H:=L.1 (n:=4032) rfl rfl<|aY ((.ax<|.u .e<|.u (.J rfl)<|.u (.bi (.u (.J rfl) .I) .j) .I)) q
omit L in
theorem JL:∀{l:List V} {t:V} {z:Option V} {P:bA},H c=aa (.u g all)->(∀z,P.nx [aa<|.d a,aa x,aa<|oh l.reverse t,z] H)->
 dF (CP k) (.J 3) I2 P (.u c<|.u g all) l [aa<|.d a,aa x,aa t,z] H:=by
 intro d;induction d with
 | nil=>intro t z P h q;exact ik h<|q z
 | cons y l ih=>
  intro t z P h q
  exact i7 h (bQ ((bH rfl)) (bj (ih h λz=>by
   have:=q z;rw [BE] at this;have e:∀m:List V,oh (m++[y]) t=oh m (.U [.z iI, .x 0, .U [y,t]]):=λm=>by induction m with| nil=>rfl| cons b m i=>exact congrArg (λz=>V.U [.z iI, .x 0, .U [b,z]]) i
   rwa [e] at this)))
theorem WY(h:H a=aa (.u g l))(b:(x= .f/\t=sA)\/(x=t/\x.u=ai))(q:Q (oh l t) H):CP (k+1) 411 [.d a,x] E Q H:=by
 refine L.1 (n:=4112) rfl rfl ?_
 have e:Ev H (iF ([.d a,x]++[]) 2) (.d (.ah<|.U (.J 1) .Is<|.e .f) (.e<|.U [.z mG, .x 0])<|.J 1) t:=by
  rcases b with ⟨rfl,rfl⟩ | ⟨rfl,n⟩
  ·exact .lT (.ah (.U (.J rfl) .e .d) .e) .e
  ·have:=cg.d (H:=H) (v:=x);rw [n] at this;exact .n8 (.ah (.U (.J rfl) .e this) .e)<|.J rfl
 refine bQ e<|Ae (.J rfl) h<|JL (a:=a) (x:=x) (l:=l.reverse) (t:=t) h λz=>aY (.J rfl) ?_;rw [Fh];exact q
theorem JK(h:H a=aa (.u g l))(q:Q (oh l sA) H):CP (k+1) 411 [.d a] E Q H:=by refine L.1 (n:=4111) rfl rfl<|bQ (v:=sA) (.lT (.ah (.U (.J rfl) .e .d) .e) .e)<|Ae (.J rfl) h<|JL (a:=a) (x:= .f) (l:=l.reverse) (t:=sA) h λz=>aY (.J rfl) ?_;rw [Fh];exact q
end
noncomputable abbrev ct:=Int×Str
noncomputable abbrev bS:Type:=(List<|Str×ct)×(List<|Str×ct)×(List<|Str×ct)
noncomputable abbrev bS.bp(x:bS):List (Str×ct):=x.1
noncomputable abbrev bS.aZ(x:bS):List (Str×ct):=x.2.1
noncomputable abbrev bS.bD(x:bS):List (Str×ct):=x.2.2
noncomputable abbrev OA:Type:=Nat×Nat×Nat×Nat
noncomputable abbrev OA.o(x:OA):Nat:=x.1
noncomputable abbrev OA.p(x:OA):Nat:=x.2.1
noncomputable abbrev OA.i(x:OA):Nat:=x.2.2.1
noncomputable abbrev OA.q(x:OA):Nat:=x.2.2.2
noncomputable def eV(e:ct):V:= .U [.x e.1, .z e.2]
noncomputable def oV:Option ct->V
 | none=> .f| some e=>eV e
noncomputable def ju(k:Bk)(l:List (Str×ct)):List (Int×V):=l.map λx=>((k.e x.1:Int),eV x.2)
noncomputable def bK(l:List (Str×ct))(s:Str):Option ct:=l.lookup s
inductive fN(H:HP)(O:OA)(b:Nat)(k:Bk)(T:bS):Prop
 | mk (o:H O.o=aa (.b 558 [aa (.d b),aa (.d O.p),aa (.d O.i),aa (.d O.q)]))
  (p:H O.p=aa (.e 9 (ju k T.bp)))
  (i:H O.i=aa (.e 10 (ju k T.aZ)))
  (q:H O.q=aa (.e 11 (ju k T.bD)))
  (np:∀x∈T.bp,x.1∈k.U)
  (ni:∀x∈T.aZ,x.1∈k.U)
  (nq:∀x∈T.bD,x.1∈k.U)
theorem fN.J{H a:HP}{O:OA}{b:Nat}{k:Bk}{T:bS}{S:List Nat}(h:fN H O b k T)(f:Fr S H a)(s:[1558,9,10,11].all (λn=>!S.contains n)=af):fN a O b k T:=by have s:∀n∈[1558,9,10,11],S.contains n=false:=λn c=>gE<|dT.mp s n c;exact⟨f _ _ h.1<|s 1558 (by decide),f _ _ h.2<|s 9 (by decide),f _ _ h.3<|s 10 (by decide),f _ _ h.4<|s 11 (by decide),h.5,h.6,h.7⟩
theorem W3{k:Bk}{s t:Str}(m:s∈k.U)(e:k.e s=k.e t):s=t:=by
 have a:=MK m;have b:k.U.idxOf t<k.U.length:=by exact ae (show k.U.idxOf t=k.U.idxOf s from e.symm) a
 have e:k.U.idxOf s=k.U.idxOf t:=e;refine ae (ML a).symm<|ae (ML b).symm ?_;simp only [e]
theorem ye{k c:Bk}(h:k.I c){s:Str}(m:s∈c.U):∀{l:List (Str×ct)},(∀x∈l,x.1∈k.U)->dA (ju k l) (c.e s:Int)=(bK l s).map eV:=by
 intro d;induction d with
 | nil=>intro _;exact rfl
 | cons x l ih=>
  intro n;have ih:=ih λy f=>n y<|df _ f;have nx:=n x cu;skip;refine((ae gV<|ae gV<|ae (i8 h nx).symm ?_):wt (c.e s:Int) (((k.e x.1:Int),eV x.2)::ju k l)=(wt s<|(x.1,x.2)::l).map eV);by_cases e:s=x.1
  ·rw [<-e,beq_self_eq_true,beq_self_eq_true];rfl
  ·exact ae (beq_false_of_ne e)<|ae (beq_false_of_ne (a:=(c.e s:Int)) (b:=(c.e x.1:Int)) λq=>e<|W3 m<|wy q) ih
theorem DQ:(r.map eV).getD .f=oV r:=by induction r<;>rfl
noncomputable def qG:List Str:=[r7,qt]
noncomputable def qF:List Str:=[xK,fq,qw]
noncomputable def yf:List Str:=[se,qv]
section
variable {O:OA} {b:Nat} {bk bk':Bk} {T:bS}
include L
theorem JO(h:fN H O b bk T)(l:bk.I bk')(m:s∈bk'.U)(q:Q (oV<|bK T.bp s) H):CP (k+1) 464 [.d O.o, .x<|bk'.e s] E Q H:=by have ho:=h.1;have g:=hX.e (H:=H)<|.i (k:=(bk'.e s:Int)) h.2;rw [ye l m h.5,DQ] at g;exact L.1 (n:=4642) rfl rfl<|aY (.bm ((.ao (.J rfl)<|.b ho rfl)) (.eM h.2 rfl) (aC rfl) g) q
theorem DM(h:fN H O b bk T)(l:bk.I bk')(m:s∈bk'.U)(q:Q (oV<|bK T.aZ s) H):CP (k+1) 471 [.d O.o, .x<|bk'.e s] E Q H:=by have ho:=h.1;have g:=hX.e (H:=H)<|.i (k:=(bk'.e s:Int)) h.3;rw [ye l m h.6,DQ] at g;exact L.1 (n:=4712) rfl rfl<|aY (.bm ((.ao (.J rfl)<|.b ho rfl)) (.eM h.3 rfl) (aC rfl) g) q
theorem DN(h:fN H O b bk T)(l:bk.I bk')(m:s∈bk'.U)(q:Q (oV<|bK T.bD s) H):CP (k+1) 478 [.d O.o, .x<|bk'.e s] E Q H:=by have ho:=h.1;have g:=hX.e (H:=H)<|.i (k:=(bk'.e s:Int)) h.4;rw [ye l m h.7,DQ] at g;exact L.1 (n:=4782) rfl rfl<|aY (.bm ((.ao (.J rfl)<|.b ho rfl)) (.eM h.4 rfl) (aC rfl) g) q
omit L in
theorem DO(h:H a=aa (.e g<|ju bk l))(b:bk.I bk')(m:s∈bk'.U)(n:∀x∈l,x.1∈bk.U)(e:ρ[1]?=aa (aa<|.x<|bk'.e s))(d:Ev H ρ x (.d a)):
 Ev H ρ (.U (.J 1) .In x) (.e (bK l s).isSome):=by
 have c:=cg.c<|.I<|.i (k:=(bk'.e s:Int)) h;rw [ye b m n,Fi] at c;exact .U (.J e) d c
theorem W0(h:fN H O b bk T)(l:bk.I bk')(m:s∈bk'.U)(q:Q (.e<|(bK T.bp s).isSome||((bK T.aZ s).isSome||(bK T.bD s).isSome)) H):CP (k+1) 485 [.d O.o, .x<|bk'.e s] E Q H:=by have ho:=h.1;exact L.1 (n:=4852) rfl rfl<|aY (.cU<|.or (DO h.2 l m h.5 rfl<|(.ao (.J rfl)<|.b ho rfl))<|.or (DO h.3 l m h.6 rfl<|(.ao (.J rfl)<|.b ho rfl))<|.i6<|DO h.4 l m h.7 rfl<|(.ao (.J rfl)<|.b ho rfl)) q
omit L in
theorem DL(e:ρ[0]?=aa (aa<|.z s))(c:List Str)(h:qd (.z s) (c.map V.z) (c.contains s)):fE H ρ (.ah<|.U (.J 0) .In<|.e<|.U<|c.map V.z) (c.contains s):=
 .ah (.U (.J e) .e<|.c<|.U h) .e
theorem WZ(q:Q (if qG.contains s then .z vk else if qF.contains s then .z xv else if yf.contains s then .z Iq else .f) H):CP (k+1) 435 [.z s] E Q H:=by
 refine L.1 (n:=4351) rfl rfl<|gF (DL rfl qG<|.z<|.u<|.u .I) (λe=>aY .e ?_) λe=>?_
 ·rw [if_pos e] at q;exact q
 rw [if_neg<|ne_true_of_eq_false e] at q;refine gF (DL rfl qF<|.z<|.u<|.u<|.u .I) (λe=>aY .e ?_) λe=>?_
 ·rw [if_pos e] at q;exact q
 rw [if_neg<|ne_true_of_eq_false e] at q;refine gF (DL rfl yf<|.z<|.u<|.u .I) (λe=>aY .e ?_) λe=>?_
 ·rw [if_pos e] at q;exact q
 rw [if_neg<|ne_true_of_eq_false e] at q;exact aY .e q
theorem W2(h:H o=aa (.b 558 [aa<|.d b,aa<|.d p,aa<|.d i,aa<|.d r]))(c:yf.contains s=af\/qG.contains s=af\/qF.contains s=af)
 (q:Q (.d (if qG.contains s then p else if qF.contains s then i else r)) H):CP (k+2) 492 [.d o, .z s] E Q H:=by
 refine L.1 (n:=4922) rfl rfl<|bz<|bV (aC rfl)<|WZ L ?_;cases e:qG.contains s with
 | true=>rw [e,if_pos rfl] at q;exact ae (if_pos rfl)<|cY (.ah (.U (.J rfl) .e<|cj (b:=vk)) .e)<|aY ((.ao (.J rfl)<|.b h rfl)) q
 | false=>
  rw [e,if_neg gp] at q;refine ae (if_neg gp) ?_;cases a:qF.contains s with
  | true=>rw [a,if_pos rfl] at q;exact ae (if_pos rfl)<|cz (.ah (.U (.J rfl) .e<|cj (b:=vk)) .e)<|cY (.ah (.U (.J rfl) .e<|cj (b:=xv)) .e)<|aY ((.ao (.J rfl)<|.b h rfl)) q| false=>rw [a,if_neg gp] at q;refine ae (if_neg gp)<|ae (if_pos<|c.resolve_right<|by refine ae e<|ae a ?_;decide) ?_;exact cz (.ah (.U (.J rfl) .e<|cj (b:=vk)) .e)<|cz (.ah (.U (.J rfl) .e<|cj (b:=xv)) .e)<|aY ((.ao (.J rfl)<|.b h rfl)) q
theorem JN(h:H o=aa (.b 558 [aa<|.d b,aa<|.d p,aa<|.d i,aa<|.d r]))(f:yf.contains s=af\/qG.contains s=af\/qF.contains s=af)
 (hd:d=if qG.contains s then p else if qF.contains s then i else r) (j:H d=aa (.e g c)) (hl:c.length<cE) (e:0<n) (q:Q .f (H.J d<|.e g<|gJ c a<|eV (n,s))):CP (k+3) 499 [.d o, .x n, .z s, .x a] E Q H:=by
 subst hd;refine L.1 (n:=4994) rfl rfl<|bz<|a7 (.J rfl) h (vs:=[.z s]) ((aC rfl))<|W2 L h f<|cY (.ah (v:= .e af) (.U (.J rfl) .e ?_) .e)<|jT (v:=eV (n,s)) ((bH rfl))<|mP (.J rfl) (.J rfl) (.i j hl) q;have:=cg.j (H:=H) (a:=n) (b:=0);rwa [decide_eq_true e] at this
end
noncomputable def Aj:List (Str×Str×V×Bool):=[(Ig,tN, .U [.z tQ, .z tN],ai),(Ih,xw, .U [.z Io, .z xw],af),(vi,kf, .U [.z kf, .z C7, .z C6],af),
 (Ik,xy, .U [.z xy, .z Ii],ai),(Il,xA, .U [.z xA],ai),(Im,tQ, .U [.z tQ, .z tN],af),(Iv,qs, .U [.z qs, .z tM, .z Iw],af)]
noncomputable def DR(r:Str×Str×V×Bool):V:= .U [.z r.1, .z r.2.1,r.2.2.1, .e r.2.2.2]
noncomputable abbrev FA:Type:=Nat×Nat×Nat×Nat
noncomputable abbrev FA.f(x:FA):Nat:=x.1
noncomputable abbrev FA.v(x:FA):Nat:=x.2.1
noncomputable abbrev FA.t(x:FA):Nat:=x.2.2.1
noncomputable abbrev FA.x(x:FA):Nat:=x.2.2.2
inductive om(H:HP)(F:FA)(b:Nat)(k:Bk)(d:List (Str×Str×V×Bool))(fx:List V):Prop
 | mk (f:H F.f=aa (.b 612 [aa (.d b),aa (.d F.v),aa (.d F.t),aa (.d F.x)]))
  (v:H F.v=aa (.a 12 (d.map λr=>(r.1, .x (k.e r.2.1)))))
  (t:H F.t=aa (.a 13 (d.map λr=>(r.1,r.2.2.1))))
  (x:H F.x=aa (.u 14 fx))
  (m:∀r∈d,r.2.1∈k.U)
  (l:fx.length<=d.length)
theorem JP{g:a->Str}{h:a->V}{d:List a}:(∀r∈d,g r≠s)->dA (d.map λr=>(g r,h r)) s=none:=by induction d with| nil=>exactλz=>rfl| cons r d ih=>exactλn=>gV.trans<|ae (beq_false_of_ne (n r cu).symm)<|ih λx b=>n x<|df _ b
theorem JQ{k a:Bk}(h:k.I a){d:List (Str×Str×V×Bool)}(m:∀r∈d,r.2.1∈k.U):(d.map λr=>(r.1,V.x<|a.e r.2.1))=d.map λr=>(r.1,V.x<|k.e r.2.1):=
 pV λr b=>ae (i8 h<|m r b) rfl
theorem om.J{H a:HP}{F:FA}{b:Nat}{k:Bk}{d fx}{S:List Nat}(h:om H F b k d fx)(f:Fr S H a)(s:[1612,12,13,14].all (λn=>!S.contains n)=af):om a F b k d fx:=by have s:∀n∈[1612,12,13,14],S.contains n=false:=λn c=>gE<|dT.mp s n c;exact⟨f _ _ h.1<|s 1612 (by decide),f _ _ h.2<|s 12 (by decide),f _ _ h.3<|s 13 (by decide),f _ _ h.4<|s 14 (by decide),h.5,h.6⟩
theorem om.I{H:HP}{F:FA}{b:Nat}{k a:Bk}{d fx}(h:om H F b k d fx)(l:k.I a):om H F b a d fx:=
 ⟨h.1,by refine ae (JQ l h.5) ?_;exact h.2,h.3,h.4,λr c=>l.1.subset<|h.5 r c,h.6⟩
section
variable {A:BA} {bk:Bk}
include L
theorem W6(q:Q (.U<|Aj.map DR) H):CP (k+1) 428 [] E Q H:=L.1 (n:=4280) rfl rfl<|aY ((bH rfl)) q
theorem W8{F:FA}:∀{l d:List (Str×Str×V×Bool)} {fx:List V} {bk:Bk} {H:HP} {x y z w:Option V} {P:bA},cJ H A bk->om H F A.b bk d fx->(∀r∈l,r.2.1∈cy)->((d++l).map (·.1)).Nodup->(d++l).length<=10->
 (∀p bk' fx x y z w,Fr [1,2,3,4,12,13,14] H p->cJ p A bk'->bk.I bk'->om p F A.b bk' (d++l) fx->P.nx [aa<|.d F.f,aa<|.d A.b,x,y,z,w] p)->
 dF (CP<|k+1) (.U [2,3,4,5]) Dg P .b (l.map DR) [aa<|.d F.f,aa<|.d A.b,x,y,z,w] H:=by
 intro R;induction R with
 | nil=>intro d fx bk H x y z w P h f K E hl q;exact ik trivial<|q H bk fx x y z w .I h (.I _) (by rw [jh];exact f)
 | cons S l ih=>
  obtain⟨n,s,v,b⟩:=S;intro d fx bk H x y z w P h f K E hl q;have hd:d.length<cE:=eX (aH (by rw [bI];(simp;done)) hl) (by decide);have t:∀r∈d,r.1≠n:=λr B e=>by rw [ed,BD] at E;exact E.2.2 r.1 (gi.mpr<|aM r B rfl) n cu e
  refine xW trivial rfl<|qz<|a7 (.J rfl) h.1 (vs:=[.z s]) ((aC rfl))<|qC L h (K _ cu) λD Q Y=>?_;have j:=f.J Q rfl;have G:=bk.lV s;have hf:=j.1;have Z:j9 D (.d F.v) (.z n) (.x<|(bk.J s).e s) _:= .s j.2 (by rw [bB];exact hd)<|JP t;refine mP ((.ao (.J rfl)<|.b hf rfl)) (.J rfl) Z ?_;have M:=cH (d:= .a 12<|d.map (λr=>(r.1,V.x<|bk.e r.2.1))++[(n, .x<|(bk.J s).e s)]) j.2 hf rfl;have i:=cH (d:= .a 12<|d.map (λr=>(r.1,V.x<|bk.e r.2.1))++[(n, .x<|(bk.J s).e s)]) j.2 j.3 rfl;refine jT (.J rfl)<|mP ((.ao (.J rfl)<|.b M rfl)) (.J rfl) (.s i (by rw [bB];exact hd)<|JP t) ?_
  have C:∀o m,o F.x=aa (.u 14 m)->m.length<=(d++[(n,s,v,b)]).length->(∀a c,D a=aa c->[12,13,14].contains c.I=ai->o a=aa c)->
   o F.v=aa (.a 12<|d.map (λr=>(r.1,V.x<|bk.e r.2.1))++[(n, .x<|(bk.J s).e s)])->o F.t=aa (.a 13<|d.map (λr=>(r.1,r.2.2.1))++[(n,v)])->
   dF (CP<|k+1) (.U [2,3,4,5]) Dg P .b (l.map DR) [aa<|.d F.f,aa<|.d A.b,aa<|.z n,aa<|.z s,aa v,aa<|.e b] o:=λo m U I fr W X=>by
   have fr:Fr [12,13,14] D o:=fr;refine ih (d:=d++[(n,s,v,b)]) (Y.J fr rfl) ⟨fr _ _ hf rfl,?_,?_,U,?_,I⟩ (λr B=>K r<|df _ B) (by rw [cv];exact E) (by rw [cv];exact hl) λp bk' fx x y z w F3 h3 T O=>?_
   ·exact ae W<|ae ed<|ae (JQ G f.5) rfl
   ·exact ae X<|ae ed rfl
   ·intro r B;rcases fG.mp B with e | e
    ·exact G.1.subset<|f.5 r e
    ·exact ae (d5.mp e)<|bk.pn s
   ·exact q p bk' fx x y z w (((Q.U rfl).u<|fr.U rfl).u F3) h3 (G.u T) (by rw [cv] at O;exact O)
  have J:=aQ (H:=D) (a:=F.v) (c:= .a 12<|d.map (λr=>(r.1,V.x<|bk.e r.2.1))++[(n, .x<|(bk.J s).e s)]);have g:=cH (d:= .a 13<|d.map (λr=>(r.1,r.2.2.1))++[(n,v)]) i (cH (d:= .a 12<|d.map (λr=>(r.1,V.x<|bk.e r.2.1))++[(n, .x<|(bk.J s).e s)]) j.2 j.4 rfl) rfl;have N:Fr [12,13,14] D _:=(Fr.J j.2 rfl).u<|Fr.J (c:= .a 13<|d.map (λr=>(r.1,r.2.2.1))++[(n,v)]) i rfl;have u:=cH (d:= .a 13<|d.map (λr=>(r.1,r.2.2.1))++[(n,v)]) i J rfl;induction b with
  | true=>exact cz (.gE (c:=af)<|.ah (.J rfl) .e)<|C _ fx g (aH f.6<|ae bI<|fz _ _) N u aQ| false=>exact cY (.gE (c:=ai)<|.ah (.J rfl) .e)<|dB<|jt (by have:=N _ _ hf rfl;exact(.ao (.J rfl)<|.b this rfl)) (.J rfl) g (eX f.6 hd)<|bj<|C _ _ aQ (ae bI<|ae bI<|jC f.6 1) (N.u<|Fr.J g rfl) (cH g u rfl)<|cH g aQ rfl
theorem W4(h:cJ H A bk)(hf:H f=aa (.b 612 [ag,ag,ag,ag]))(q:∀g F bk' fx,F.f=f->Fr [1612,1,2,3,4,12,13,14] H g->cJ g A bk'->bk.I bk'->om g F A.b bk' Aj fx->Q .f g):CP (k+2) 574 [.d f, .d A.b] E Q H:=by
 refine L.1 (n:=5742) rfl rfl<|cZ (.J rfl) rfl hf λH0 c M=>km qy rfl c λv P o b w K=>?_;have a:v≠f:=λe=>by rw [e,c] at o;exact hU o
 refine km qy rfl b λt O p l y s=>?_;have i:t≠f:=λe=>by rw [e,b] at p;exact hU p
 refine km vF rfl l λx N nx j u m=>?_;have F:=(((M.u K).u s).u m).J hf (S:=[1612]) rfl;exact xZ<|bV (vs:=[]) .I<|W6 L<|cL _ _ .U<|W8 L (F:=⟨f,v,t,x⟩) (d:=[]) (fx:=[]) (h.J F rfl) ⟨j,m _ _ a<|s _ _ a w,m _ _ i y,u,λr C=>((dz C).elim),dC _⟩ (by decide+kernel) (by decide+kernel) (by decide+kernel) λI bk' fx z z z z J D B G=>q I _ bk' fx rfl (F.e J rfl rfl) D B G
theorem W7(f:om H F A.b bk Aj a)(q:Q (.U [.z mG, .x<|bk.e kf]) H):CP (k+2) 581 [.d F.f, .z vi] E Q H:=by
 have hf:=f.1;have g:fH H F.v (.z vi) (aa<|.x<|bk.e kf):=by have:=fH.s (k:=vi) f.2;exact this
 have c:=cg.g<|fY.I g;exact L.1 (n:=5812) rfl rfl<|cz (.ah (.U (.J rfl) ((.ao (.J rfl)<|.b hf rfl)) c) .e)<|cC<|bV (.u (.ak ((.ao (.J rfl)<|.b hf rfl)) (.J rfl)<|.I g) .I)<|DI L q
theorem W5(h:cJ H A bk)(l:fU.I bk)(ho:H o=aa (.b 558 [ag,ag,ag,ag]))(q:∀s O,O.o=o->Fr [1558,9,10,11] H s->fN s O A.b bk ⟨[],[(bZ,1000,fq)],[]⟩->Q .f s):CP (k+4) 457 [.d o, .d A.b, .e ai] E Q H:=by
 refine L.1 (n:=4573) rfl rfl<|cZ (.J rfl) rfl ho λH0 g I=>km qy rfl g λp N u f B G=>?_;have b:p≠o:=λe=>by rw [e,g] at u;exact hU u
 refine km qy rfl f λi M v m C w=>?_;have j:i≠o:=λe=>by rw [e,f] at v;exact hU v
 refine km qy rfl m λr K J a y t=>?_;have F:=(((I.u G).u w).u t).J ho (S:=[1558,9,10,11]) rfl;have c:=t _ _ j C;refine dB<|a7 (.J rfl) a (vs:=[.x 1000, .z fq, .x 7]) ((aC rfl))<|JN L (d:=i) a (.inr<|.inr rfl) rfl c (by decide) (by decide) ?_;have e:(7:Int)=bk.e bZ:=by exact ae ((k0 l).2.2.1) rfl
 refine cz (.ah (.J rfl) .e)<|q _ ⟨o,p,i,r⟩ rfl (F.u<|.J c rfl) ⟨cH c a rfl,cH c (t _ _ b<|w _ _ b B) rfl,?_,cH c y rfl,λz h=>((dz h).elim),λx D=>?_,λz h=>((dz h).elim)⟩
 ·exact ae e aQ
 ·exact ae (d5.mp D)<|(mR l).2.2.1
end
noncomputable def qJ(c:Int):Bool:=dS (97<=c)&&dS (c<=122)
noncomputable def qH(c:Int):Bool:=dS (65<=c)&&dS (c<=90)
noncomputable def qI(c:Int):Bool:=dS (48<=c)&&dS (c<=57)
noncomputable def Ak(c:Int):Bool:=qJ c||(qH c||(qI c||c==95))
noncomputable def Aq(c:Int):Bool:=dS (c>=32)&&(!(c==127)&&dS (c<=1114111))
theorem vK(a b:Nat):dS ((a:Int)<=b)=dS (a<=b):=decide_eq_decide.mpr oE
theorem DW(c:Nat):qJ c=lR c:=by delta qJ lR;exact ae (vK 97 c).symm<|ae (vK c 122).symm rfl
theorem DS(c:Nat):qH c=n7 c:=by delta qH n7;exact ae (vK 65 c).symm<|ae (vK c 90).symm rfl
theorem Al(c:Nat):qI c=d4 c:=by delta qI d4;exact ae (vK 48 c).symm<|ae (vK c 57).symm rfl
theorem Xb(a b:Nat):((a:Int)==b)=(a==b):=by rw [EW,beq_iff_eq,beq_iff_eq];exact Int.ofNat_inj
theorem W9(c:Nat):Ak c=iK c:=by delta Ak iK;rw [DW,DS,Al,<-Xb c 95,BF,BF];rfl
inductive cN(H:HP)(t cl:Nat)(cs:List Nat)(at_:Nat):Prop
 | mk (t:H t=aa (.b 370 [aa (.d cl),aa (.x at_),aa (.x 0)]))
  (c:H cl=aa (.u 79 (cs.map λ(c:Nat)=>V.x (c:Int))))
  (ok:∀c∈cs,c<128)
  (len:cs.length<=1000000)
theorem cN.J{H b:HP}{t cl cs a}{S:List Nat}(h:cN H t cl cs a)(f:Fr S H b)(s:[1370,79].all (λn=>!S.contains n)=af):cN b t cl cs a:=by have s:∀n∈[1370,79],S.contains n=false:=λn c=>gE<|dT.mp s n c;exact⟨f _ _ h.1<|s 1370 (by decide),f _ _ h.2<|s 79 (by decide),h.3,h.4⟩
theorem cN.kH{t cl cs}{a a':Nat}(h:cN H t cl cs a)(b:dQ t H c)(d:c t=aa (.b 370 [aa<|.d cl,aa<|.x a',aa<|.x 0])):cN c t cl cs a':=
 ⟨d,b _ _ (fT h.2 h.1 rfl) h.2,h.3,h.4⟩
theorem cN.e{H c:HP}{t cl cs a}(h:cN H t cl cs a)(b:dQ t H c):Fr [1370] H c:=b.J h.1 rfl
noncomputable def cd(cs:List Nat)(i:Nat):Int:=match cs[i]? with | some c=>(c:Int) | none=> -1
theorem gg{cs r:List Nat}{i c:Nat}(h:cs.drop i=c::r):cd cs i=c:=by
 have:cs[i]?=aa c:=by refine ae (ade).symm<|ae h ?_;rfl
 unfold cd;exact ae this rfl
theorem Xa{cs r:List Nat}{i c:Nat}(h:cs.drop i=c::r):i<cs.length:=by
 have:(cs.drop i).length=r.length+1:=by exact ae h rfl
 exact Lr<|(lg▸this:cs.length - i=r.length+1)▸oA _
theorem oo{cs r:List Nat}{i c:Nat}(h:cs.drop i=c::r):cs.drop (i+1)=r:=by exact ae pY.symm<|ae h rfl
theorem yg{cs r:List Nat}{i c:Nat}(h:cs.drop i=c::r):c∈cs:=Fj<|ae h cu
section
include L
theorem An(q:Q (.e<|qI c) H):CP (k+1) 172 [.x c] E Q H:=L.1 (n:=1721) rfl rfl<|aY (v:= .e<|qI c) ((.cU<|.bo (.U .e (.J rfl) .I)<|.i6<|.U (.J rfl) .e .I)) q
theorem Ao(q:Q (.e<|qJ c) H):CP (k+1) 179 [.x c] E Q H:=L.1 (n:=1791) rfl rfl<|aY (v:= .e<|qJ c) ((.cU<|.bo (.U .e (.J rfl) .I)<|.i6<|.U (.J rfl) .e .I)) q
theorem Am(q:Q (.e<|qH c) H):CP (k+1) 186 [.x c] E Q H:=L.1 (n:=1861) rfl rfl<|aY (v:= .e<|qH c) ((.cU<|.bo (.U .e (.J rfl) .I)<|.i6<|.U (.J rfl) .e .I)) q
theorem Xd(q:Q (.e<|Aq c) H):CP (k+1) 207 [.x c] E Q H:=L.1 (n:=2071) rfl rfl<|aY (v:= .e<|Aq c) ((.cU<|.bo (.U (.J rfl) .e .i)<|.bo (.U (.J rfl) .e qB)<|.i6<|.U (.J rfl) .e .I)) q
theorem Xc(q:Q (.e<|Ak c) H):CP (k+2) 193 [.x c] E Q H:=by
 unfold Ak at q;refine L.1 (n:=1931) rfl rfl<|cC<|Ad<|wa<|bV (aC rfl)<|Ao L ⟨λe=>(bw e),λz=>(bT _ .e (λh=>?_) λh=>?_)⟩
 ·replace q:=h▸q;refine wa<|bV (aC rfl)<|Am L ⟨λe=>(bw e),λz=>⟨_, .e,λh=>?_,λh=>?_⟩⟩
  ·replace q:=h▸q;refine wa<|bV (aC rfl)<|An L ⟨λe=>(bw e),λz=>⟨_, .e,λh=>?_,λh=>?_⟩⟩
   ·replace q:=h▸q;exact wa<|aX (.U (.J rfl) .e cR) ⟨λz=>q,λe=>bC e⟩
   ·rw [h] at q⊢;exact q
  ·rw [h] at q⊢;exact q
 ·rw [h] at q⊢;exact q
theorem DV(d:c<128)(q:Q (.e<|ij c) H):CP (k+1) 200 [.x c] E Q H:=by have f:=cg.I (H:=H) (a:=0) (b:=(c:Int));have e:=cg.e (H:=H) (a:=(c:Int)) (b:=128);rw [decide_eq_true<|iA _] at f;rw [decide_eq_true<|by exact aD (.U (.c<|.v 0)<|.n 128) (.e (.v 0)<|.n 128) rfl [] [_] d] at e;exact L.1 (n:=2001) rfl rfl<|aY (v:= .e<|ij c) (.cU<|.bo (.U .e (.J rfl) f)<|.bo (.U (.J rfl) .e e)<|.i6<|.U (.bi (.u (.J rfl) .I)<|.d (iA _)<|aD (.U (.c<|.v 0)<|.n 55296) (.e (.v 0)<|.n 128) rfl [] [_] d) .e<|.c<|.z (n:=c) rfl) q
theorem DU(q:Q (.x (if qI c then c - 48 else if qJ c then c - 87 else if qH c then c - 55 else -1)) H):CP (k+2) 214 [.x c] E Q H:=by
 refine L.1 (n:=2141) rfl rfl<|di<|cD<|bV (aC rfl)<|An L<|bT _ .e (λh=>?_) λh=>?_
 ·rw [if_pos h] at q;exact aY ((bH rfl)) q
 rw [if_neg<|ne_true_of_eq_false h] at q;refine bj<|di<|cD<|bV (aC rfl)<|Ao L ⟨_, .e,λh=>?_,λh=>?_⟩
 ·rw [if_pos h] at q;exact aY ((bH rfl)) q
 rw [if_neg<|ne_true_of_eq_false h] at q;refine bj<|di<|cD<|bV (aC rfl)<|Am L ⟨_, .e,λh=>?_,λh=>?_⟩
 ·rw [if_pos h] at q;exact aY ((bH rfl)) q
 rw [if_neg<|ne_true_of_eq_false h] at q;exact bj<|aY (v:= .x (-1)) ((bH rfl)) q
omit L in
theorem Xf(a:List Nat):kG (a.map λc=>V.z ⟨#[c]⟩) (a.map λc=>⟨#[c]⟩):=by induction a with| nil=>exact .I| cons z l ih=>exact .u ih
omit L in
theorem Xe(a:List Nat):co (cW fR<|a.map λc=>⟨#[c]⟩)=a:=by
 induction a with
 | nil=>rfl
 | cons c l ih=>induction l with
  | nil=>rfl| cons d l z=>exact(iL _ _).trans<|congrArg (c::·)<|(iL _ _).trans ih
omit L in
theorem JR(h:co a=co b):a=b:=by
 induction a;induction b
 exact congrArg Str.mk<|Array.toList_inj.mp h
omit L in
theorem Ap(a:Str)(b:Nat)(l:List Str):∀n:Nat,(∀x∈l,x.length<=b)->l.foldl (λn x=>n+x.length+a.length) n<=n+l.length*(b+a.length):=by induction l with| nil=>exactλn z=>fz _ _| cons x l ih=>exactλn h=>ae (Fl l.length 1 _)<|bJ (.I (.v 0)<|.a (.v 1)<|.a (.v 2)<|.m 1<|.a (.v 3)<|.v 4) (.I (.v 0)<|.a (.a (.a (.v 1)<|.v 5)<|.v 4)<|.v 2) (.I (.v 5)<|.v 3) rfl [] [_,_,_,_,_,_] (ih (n+x.length+a.length) λy c=>h y<|df _ c)<|h x cu
theorem DT{d:List Nat}(h:H a=aa (.u g<|d.map λ(c:Nat)=>V.x (c:Int)))(o:∀c∈d,c<128)(hl:d.length<=1000000)(q:∀l,Fr [] H l->Q (.z ⟨d.toArray⟩) l):CP (k+1) 219 [.d a] E Q H:=by
 refine L.1 (n:=2191) rfl rfl<|cC<|aX (Q:=λv H=>jR H 4 v/\_) .e ⟨.u,bx<|xY (f:=λv=>match v with | .x i=> .z ⟨#[i.toNat]⟩ | _=> .f) (.J rfl) (.u h) h (by rw [bB];exact aH hl<|by decide) (λv p K q=>?_) λc j=>?_⟩
 ·refine au (gi.mp p) λc j e=>?_;obtain rfl:=e;exact aX (.bi (aC rfl)<|.d (iA _) (by have:=o c j;exact aD (.U (.c<|.v 0)<|.n 55296) (.e (.v 0)<|.n 128) rfl [] [_] this)) q
 ·refine ae rq (cL _ _ (.u aQ (Xf d) ?_) ?_)
  ·refine aH (Ap fR 1 _ 0 λx m=>au (gi.mp m) λc z e=>?_)<|aH (eW<|(jd _).trans<|(Nat.mul_one _).trans<|bB _)<|aH hl (by decide);obtain rfl:=e;exact dC _
  ·exact ae (JR (a:=cW fR _) (b:=⟨d.toArray⟩)<|Xe d)<|q _<|.aT j
end
theorem Xg{cs:List Nat}{i:Nat}(h:cs.drop i=[]):cs.length<=i:=by
 have:(cs.drop i).length=0:=by exact ae h rfl
 replace this:=lg▸this;exact bJ (.I (.v 0)<|.v 1) (.I (.v 0)<|.a (.v 2)<|.v 1) (.u (.v 2)<|.n 0) rfl [] [_,_,_] Na this
theorem JS{cs:List Nat}{i:Nat}(h:cs.length<=i):cd cs i= -1:=by unfold cd;rw [Bs h]
section
variable {t cl:Nat} {cs:List Nat} {at_:Nat}
include L
theorem Xh{i:Nat}(h:cN H t cl cs at_)(q:Q (.x<|cd cs i) H):CP (k+1) 255 [.d t, .x i] E Q H:=by
 have f:=h.1;have m:=h.2;have hl:=fP.e m;rw [bB] at hl;refine L.1 (n:=2552) rfl rfl ?_;by_cases hi:i<cs.length
 ·have d:=cg.i (H:=H) (a:=(i:Int)) (b:=(cs.length:Int));rw [decide_eq_false<|by exact aD (.Nl (.c<|.v 0)<|.c<|.v 1) (.e (.v 1)<|.v 0) rfl [] [_,_] hi] at d;have e:cd cs i=(cs[i]:Int):=by unfold cd;rw [iB hi]
  replace q:=e▸q;have o:=h.3 _<|wx hi;refine cz (.ah (.U (.J rfl) (.bi (.u (by exact(.ao (.J rfl)<|.b f rfl)) .I) hl) d) .e)<|bQ (v:= .x (cs[i]:Int)) (.ak (by exact(.ao (.J rfl)<|.b f rfl)) (.J rfl)<|.u (j:=i) m ?_ ?_) ?_
  ·rw [bB];exact lX hi<|eX h.4 (by decide)
  ·refine ae (jf)<|ae (iB hi) ?_;rfl
  have l:=cg.e (H:=H) (a:=(cs[i]:Int)) (b:=0);have g:=cg.j (H:=H) (a:=(cs[i]:Int)) (b:=1114111);replace l:=(decide_eq_false<|oC.mpr<|iA cs[i])▸l;replace g:=(decide_eq_false λh:(cs[i]:Int)>1114111=>absurd (LP h<|j3.mpr o)<|by decide)▸g;exact cz (.cQ<|.su (c:=ai) (.ah (.U (.J rfl) .e l) .e)<|.su (c:=ai) (.ah (.U (.J rfl) .e g) .e) .gm)<|aY (.J rfl) q
 ·have d:=cg.i (H:=H) (a:=(i:Int)) (b:=(cs.length:Int));rw [decide_eq_true<|by exact aD (.Le (.c<|.v 0)<|.c<|.v 1) (.nt (.v 1)<|.v 0) rfl [] [_,_] hi] at d;replace q:=(JS<|EM hi)▸q;exact cY (.ah (.U (.J rfl) (.bi (.u ((.ao (.J rfl)<|.b f rfl)) .I) hl) d) .e)<|aY .e q
theorem i9{i:Nat}(h:cN H t cl cs at_)(h0:ρ[0]?=aa (aa<|.d t))(e:Ev H ρ x (.x i))(q:Q (.x<|cd cs i) H):aK (CP<|k+1) (.I (.J 0) 370 255<|.u x .I) ρ E Q H:=
 a7 (.J h0) h.1 (.u e .I) (Xh L h q)
theorem Xi{r:List Nat}:∀{j:List Nat} {at_:Nat} {H:HP} {z:Option V} {P:bA},cN H t cl cs at_->cs.drop at_=j++r->(∀c∈j,c=32\/c=10)->(∀c m,r=c::m->sx c=ai/\c≠37/\c≠47)->
 (∀o,dQ t H o->cN o t cl cs (at_+j.length)->P.a .f o)->jK (CP<|k+1) (.ah<|.e<|.e af) IQ P (j.length+1) [aa<|.d t,z] H:=by
 intro C;induction C with
 | nil=>
  intro at_ H z P h hd hl s q;have n:=h.1;refine kV (.ah .e .e)<|bz<|i9 L h rfl (i:=at_) ((.ao (.J rfl)<|.b n rfl)) ?_;have F:sx (cd cs at_)=ai/\cd cs at_≠37/\cd cs at_≠47:=by induction r with| nil=>refine ae (JS<|Xg hd) ?_;decide| cons c m=>exact ae (gg (r:=m) hd)<|gI (s c m rfl) λa b c=>⟨a,λl=>(iP b).elim (λf=>bJ .a (.J (.c<|.v 0)<|.n 37) (.e (.v 0)<|.n 37) rfl [] [_] l f) λf=>bJ .a (.e (.n 37)<|.v 0) (.Eq (.c<|.v 0)<|.n 37) rfl [] [_] f l,λl=>(iP b).elim (λf=>bJ .a (.J (.c<|.v 0)<|.n 47) (.e (.v 0)<|.n 37) rfl [] [_] l f) λf=>(iP c).elim (λg=>bJ .a (.J (.c<|.v 0)<|.n 47) (.e (.v 0)<|.n 47) rfl [] [_] l g) λg=>bJ .a (.e (.n 47)<|.v 0) (.Eq (.c<|.v 0)<|.n 47) rfl [] [_] g l⟩
  refine di<|cD<|bV (aC rfl)<|DE L<|bT _ .e (λe=>(by replace e:=F.1▸e;exact bw e)) λy=>?_;have u:=cR (H:=H) (a:=cd cs at_) (b:=37);replace u:=(beq_false_of_ne F.2.1)▸u;have x:=cR (H:=H) (a:=cd cs at_) (b:=47);rw [beq_false_of_ne F.2.2] at x;exact kj (.ah (.U (.J rfl) .e u) .e)<|kj (.aB<|.dJ (d:=af)<|.ah (.U (.J rfl) .e x) .e)<|aY .e<|q H (λy y y e=>e) h
 | cons c j ih=>
  intro at_ H z P h hd hl s q;have n:=h.1;refine kV (.ah .e .e)<|bz<|i9 L h rfl (i:=at_) ((.ao (.J rfl)<|.b n rfl))<|ae (gg (r:=j++r) hd) ?_;have e:sx c=true:=by rcases hl c cu with rfl | rfl<;>decide
  refine di<|cD<|bV (aC rfl)<|DE L<|bT _ .e (λy=>cZ (v:= .x ((at_+1:Nat):Int)) ((.aS (.ao (.J rfl)<|.b n rfl) .e<|.x .J)) rfl n λD p A=>(ih (h.kH A p) (oo hd) (λd hd=>hl d<|df _ hd) s λo B w=>q o (A.u B) ?_)) λz=>(by replace z:=e▸z;exact bC z);rw [ng,pN 1] at w;exact w
theorem JT(h:cN H t cl cs at_)(hd:cs.drop at_=a++r)(hl:∀c∈a,c=32\/c=10)(d:∀c m,r=c::m->sx c=ai/\c≠37/\c≠47)(q:∀b,dQ t H b->cN b t cl cs (at_+a.length)->Q .f b):CP (k+2) 290 [.d t] E Q H:=
 L.1 (n:=2901) rfl rfl (qA (a.length+1)<|Xi L h hd hl d q)
theorem JV{p:Nat->Bool}{r:List Nat}{b:SL}(l:b= .u (.c (.J 2)<|.aS 0 .Add (.J 2)<|.e<|.x 1) .I)(h:cN H t cl cs at_)(hp:∀c E (Q:QV),c<128->Q (.e<|p c) H->CP (k+1) f [.x c] E Q H)(d:nh p r){x:V}:
 ∀{w:List Nat} {e:Nat} {P:bA},cs.drop e=w++r->w.all p=af->P.nx [aa<|.d t,aa x,aa<|.x ((e+w.length:Nat):Int)] H->
  jK (CP<|k+1) (.ah<|.aN f<|.u (.I (.J 0) 370 255<|.u (.J 2) .I) .I) b P (w.length+1) [aa<|.d t,aa x,aa<|.x e] H:=by
 intro i;induction i with
 | nil=>intro e P hd a q;refine cm d λc m g j=>?_;clear d;obtain rfl:=g;exact Jz<|cD<|gQ<|bx<|i9 L h rfl (.J rfl)<|ae (gg hd)<|hp c _ _ (h.3 _<|yg hd) ⟨_, .e,λe=>(by rw [j] at e;exact bw e),λz=>q⟩| cons c w ih=>intro e P hd a q;rw [me,eJ] at a;refine Jz<|cD<|gQ<|bx<|i9 L h rfl (.J rfl)<|ae (gg (r:=w++r) hd)<|hp c _ _ (h.3 _<|yg hd)<|bT _ .e (λz=>?_) λe=>(by replace e:=a.1▸e;exact bC e);subst l;refine bQ (v:= .x ((e+1:Nat):Int)) ((bH rfl))<|bj<|ih (oo hd) a.2 ?_;replace q:=dK▸q;rwa [ng,pN 1]
omit L in
theorem JW(hd:cs.drop a=w++r)(b:w≠[])(h:H y=aa (.u g<|cs.map λ(c:Nat)=>V.x (c:Int))):qf H (.d y) (.x a) (.x ((a+w.length:Nat):Int)) (w.map λ(c:Nat)=>V.x (c:Int)):=by
 have k:=qf.b (i:=(a:Int)) (h:=((a+w.length:Nat):Int)) h
 have hl:a+w.length<=cs.length:=by
  have:(cs.drop a).length=w.length+r.length:=by rw [hd,bI]
  rw [lg] at this;induction w with
  | nil=>exact absurd rfl b| cons c w=>exact aD (.I (.a (.v 0)<|.a (.v 1)<|.n 1)<|.v 2) (.qe (.v 2)<|.a (.v 0)<|.a (.a (.v 1)<|.v 3)<|.n 1) rfl [] [_,_,_,_] (BQ<|this.trans<|sU _ _ _)
 have cl:∀n:Nat,n<=cs.length->fQ (cs.map λ(c:Nat)=>V.x (c:Int)).length (n:Int)=n:=λn d=>by rw [FQ,bB];exact Ba d
 rw [cl _ hl,cl _ (by exact aD (.I (.v 0)<|.v 1) (.I (.a (.v 0)<|.v 2)<|.v 1) rfl [] [_,_,_] hl),<-MM,<-List.map_drop,acN,hd,Fm,List.take_left' rfl] at k;exact k
theorem JU{c:Nat}{w r:List Nat}(h:cN H t cl cs at_)(hd:cs.drop at_=c::(w++r))(s:(c::w).all iK=af)(u:nh iK r)(q:∀f,Fr [1370] H f->cN f t cl cs (at_+(w.length+1))->Q (.z<|Mine.Internal.cs<|c::w) f):CP (k+3) 311 [.d t, .x at_] E Q H:=by
 refine L.1 (n:=3112) rfl rfl<|bQ (.J rfl)<|qA _<|JV L rfl h (p:=iK) (λc E Q z q=>Xc L<|by rw [W9];exact q) u (w:=c::w) (e:=at_) hd s<|cZ (.J rfl) rfl h.1 λv a o=>?_;have j:=h.kH o a;refine cC<|gQ<|bx<|x5 ((.ao (.J rfl)<|.b a rfl)) (.J rfl) (.J rfl) (JW (w:=c::w) hd (λe=>gv e) j.2) λy g=>DT L aQ (λd b=>h.3 d ?_) ?_ λl m=>q l (((h.e o).u<|.aT g).u<|m.U rfl)<|j.J (((Fr.aT g).u m):Fr [] v l) rfl
 ·exact Fj (i:=at_)<|ae hd<|ae jB.symm<|lh _ b
 ·have:(cs.drop at_).length=((c::w)++r).length:=by refine ae hd ?_;rfl
  rw [lg,bI] at this;have:=h.4;exact oM (.I (.a (.v 0)<|.n 1)<|.n 1000000) (.qe (.v 1)<|.a (.a (.v 0)<|.n 1)<|.v 2) (.I (.v 1)<|.v 3) (.I (.v 3)<|.n 1000000) rfl [] [_,_,_,_] (by assumption) (yV _ _) this
end
noncomputable def ck:Nat->SL->SL
 | 0,s=>s
 | n+1,s=>match s with
  | .I=> .I| .u _ r=>ck n r
noncomputable def qK(t y:Nat)(H b:HP):Prop:=∀a d,a≠t->a≠y->H a=aa d->b a=aa d
theorem dQ.I{t y:Nat}{H H':HP}(h:dQ t H H'):qK t y H H':=λa d n z e=>h a d n e
theorem qK.u{t y:Nat}{H c b:HP}(h:qK t y H c)(k:qK t y c b):qK t y H b:=λa d n m e=>k a d n m<|h a d n m e
theorem JX:qK t y H (H.J y c):=λa d z m e=>gc m e
class inductive QT(q:Nat):List Nat->List Nat->Prop
 | I:QT q [] []
 | d {c l m} (h:32<=c/\c<=126/\c≠q/\c≠92) (k:QT q l m):QT q (c::l) (c::m)
 | a {l m} (k:QT q l m):QT q (q::q::l) (q::m)
theorem Xr{c:Nat}(h:32<=c/\c<=126):Aq c=true:=by unfold Aq;exact ae (decide_eq_true<|by exact aD (.Le (.n 32)<|.c<|.v 0) (.I (.n 32)<|.v 0) rfl [] [_] h.1)<|ae (decide_eq_true<|by exact aD (.Le (.c<|.v 0)<|.n 1114111) (.I (.v 0)<|.n 126) rfl [] [_] h.2)<|ae (beq_false_of_ne λa=>bJ .a (.J (.c<|.v 0)<|.n 127) (.I (.v 0)<|.n 126) rfl [] [_] a h.2) rfl
noncomputable def aR(p:Nat):aE->V
 | .u s=> .U [.z fS, .z s, .x p]| .f s=> .U [.z kR, .z s, .x p]| .d s=> .U [.z r9, .z s, .x p]| .x i _=> .U [.z lL, .x i, .x p]| .z=> .U [.z tO, .U [.x 97, .x 34], .x p]| .l=> .U [.z r8, .z iJ, .x p]| .b=> .U [.z mH, .z iJ, .x p]| .a c=> .U [.z nU, .z c, .x p]| .I=> .U [.z lK, .z kg, .x p]
section
variable {t cl:Nat} {cs:List Nat} {at_:Nat}
include L
theorem Xm(h:cN H t cl cs at_)(hd:cs.drop i=10::r)(q:Q (.e af) H):CP (k+2) 325 [.d t, .x i] E Q H:=by exact L.1 (n:=3252) rfl rfl<|bz<|i9 L h rfl (.J rfl)<|ae (gg hd)<|cC<|Ad<|wa<|aX (.U (.J rfl) .e cR) ⟨λe=>(bw e),λz=>(bT ai .e (λz=>wa<|aX (.U (.J rfl) .e cR) ⟨λe=>(bw e),λz=>⟨ai, .e,λz=>wa<|bV (aC rfl)<|DE L ⟨λz=>q,λe=>bC e⟩,λe=>bw e⟩⟩) λe=>bw e)⟩
theorem Xo(h:cN H t cl cs at_)(hd:cs.drop at_=46::10::r)(q:∀b,dQ t H b->cN b t cl cs (at_+1)->Q (aR at_ .I) b):CP (k+3) 318 [.d t, .x at_] E Q H:=by have c:=h.1;exact L.1 (n:=3182) rfl rfl<|di<|pk<|fc<|cD<|gf<|i9 L h rfl (.J rfl)<|ae (gg hd)<|aX .e<|lj af cR _ .e (λz=>fc<|cD<|a7 (.J rfl) c (vs:=[.x ((at_+1:Nat):Int)]) ((aC rfl))<|Xm L h (oo hd) ⟨_, .e,λz=>kU ⟨λz=>cZ (v:= .x ((at_+1:Nat):Int)) ((bH rfl)) rfl c λf a d=>aY ((bH rfl))<|q f d<|h.kH d a,λe=>bC e⟩,λe=>bC e⟩) λe=>bC e
theorem Xn(h:cN H t cl cs at_)(hd:cs.drop at_=c::(w++r))(l:c≠46)(C:(c::w).all ij=af)(F:nh ij r)(q:∀m,Fr [1370] H m->cN m t cl cs (at_+(w.length+1))->Q (aR at_<|.u<|Mine.Internal.cs<|c::w) m):CP (k+3) 318 [.d t, .x at_] E Q H:=by
 have D:=h.1;refine L.1 (n:=3182) rfl rfl<|di<|pk<|fc<|cD<|gf<|i9 L h rfl (.J rfl)<|ae (gg hd) ?_;have v:=cR (H:=H) (a:=(c:Int)) (b:=46);rw [beq_false_of_ne<|by exactλs=>(iP l).elim (λf=>bJ .a (.J (.c<|.v 0)<|.n 46) (.e (.v 0)<|.n 46) rfl [] [_] s f) λf=>bJ .a (.e (.n 46)<|.v 0) (.Eq (.c<|.v 0)<|.n 46) rfl [] [_] f s] at v;refine aX .e<|lj ai v _ .e (λe=>(bw e)) λz=>⟨λe=>(bw e),λz=>bj<|bQ (.J rfl)<|qA _<|JV L rfl h (p:=ij) (λc E Q l q=>DV L l q) F (w:=c::w) (e:=at_) hd C<|cZ (.J rfl) rfl D λG g B=>?_⟩;have u:=h.kH B g;refine cC<|jU<|bx<|aX .e<|bx<|gQ<|bx<|x5 ((.ao (.J rfl)<|.b g rfl)) (.J rfl) (.J rfl) (JW (w:=c::w) hd (λe=>gv e) u.2) λy o=>DT L aQ (λd j=>h.3 d ?_) ?_ λx A=>cF (aC rfl)<|q x (((h.e B).u<|.aT o).u<|A.U rfl)<|u.J (((Fr.aT o).u A):Fr [] G x) rfl
 ·exact Fj (i:=at_)<|ae hd<|ae jB.symm<|lh _ j
 ·have:(cs.drop at_).length=((c::w)++r).length:=by refine ae hd ?_;rfl
  rw [lg,bI] at this;have:=h.4;exact oM (.I (.a (.v 0)<|.n 1)<|.n 1000000) (.qe (.v 1)<|.a (.a (.v 0)<|.n 1)<|.v 2) (.I (.v 1)<|.v 3) (.I (.v 3)<|.n 1000000) rfl [] [_,_,_,_] (by assumption) (yV _ _) this
omit L in
theorem Xk(h:d4 c=af):(if qI c then(c:Int) - 48 else if qJ c then(c:Int) - 87 else if qH c then(c:Int) - 55 else -1)=((c - 48:Nat):Int):=by rw [Al,h,if_pos rfl];unfold d4 at h;have:=of_decide_eq_true (oz.mp h).1;exact sX (aD (.Le (.s (.c<|.v 0)<|.n 48)<|.c<|.v 1) (.qe (.a (.v 1)<|.n 48)<|.v 0) rfl [] [_,_] (kZ<|aD (.I (.n 48)<|.v 0) (.I (.n 48)<|.v 0) rfl [] [_] this))<|aD (.Le (.c<|.v 0)<|.s (.c<|.v 1)<|.n 48) (.u (.a (.v 0)<|.n 48)<|.v 1) rfl [] [_,_] (kZ<|aD (.I (.n 48)<|.v 0) (.I (.n 48)<|.v 0) rfl [] [_] this)
omit L in
theorem Xj(h:d4 c=af):c - 48<10:=eX (Nat.sub_le_sub_right (MN<|xU h) 48) (by decide)
noncomputable def Xq(v:Nat)(w:List Nat):Nat:=w.foldl (λn c=>n*10+(c - 48)) v
theorem Xp(x:jJ r):∀{w:List Nat} {i v n:Nat} {z:Option V} {P:bA},cN H t cl cs at_->cs.drop i=w++r->w.all d4=af->v<10^n->n+w.length<=40->
 (∀g,dQ t H g->cN g t cl cs (i+w.length)->P.a (.x<|Xq v w) g)->jK (CP<|k+2) (.ah<|.e<|.e af) IJ P (w.length+1) [aa<|.d t,aa<|.x i,aa<|.x 10,aa<|.x v,z] H:=by
 intro D;induction D with
 | nil=>
  intro i v n z P h hd f l hl q;refine cm x λc m C j=>?_;clear x;obtain rfl:=C;refine kV (.ah .e .e)<|bz<|gQ<|bx<|i9 L h rfl (.J rfl)<|ae (gg hd)<|DU L ?_;have e:(if qI c then(c:Int) - 48 else if qJ c then(c:Int) - 87 else if qH c then(c:Int) - 55 else -1)= -1:=by rcases j with rfl | rfl | rfl | rfl<;>rfl
  exact ae e<|cY (.cQ<|.dJ (d:=ai)<|.ah (.U (.J rfl) .e .e) .e)<|cZ (.J rfl) rfl h.1 λF o A=>aY (.J rfl)<|q F A<|h.kH A o
 | cons c w ih=>
  intro i v n z P h hd f l hl q;rw [me,eJ] at f;rw [dK] at hl q;have j:=Xj f.1;refine kV (.ah .e .e)<|bz<|gQ<|bx<|i9 L h rfl (.J rfl)<|ae (gg (r:=w++r) hd)<|DU L<|ae (Xk f.1) ?_;have u:=cg.e (H:=H) (a:=((c - 48:Nat):Int)) (b:=0);have s:=cg.i (H:=H) (a:=((c - 48:Nat):Int)) (b:=10);replace u:=(decide_eq_false<|oC.mpr<|iA<|c - 48)▸u;replace s:=(decide_eq_false λh:((c - 48:Nat):Int)>=10=>LB j<|oE.mp h)▸s;refine cz (.cQ<|.cB (.ah (.U (.J rfl) .e u) .e)<|.cB (.ah (.U (.J rfl) (.J rfl) s) .e) .gm) ?_;have p:v*10+(c - 48)<10^(n+1):=by rw [Nat.pow_succ];exact bJ (.e (.a (.u (.v 0) 10)<|.v 1)<|.u (.v 2) 10) ⟨10,ai, .e (.v 0)<|.v 2⟩ (.e (.v 1)<|.n 10) rfl [] [_,_,_] l j
  have E:v<2^200:=iO l<|aH (Nat.pow_le_pow_right (by decide) (show n<=40 by exact aD (.I (.v 0)<|.n 40) (.I (.a (.v 0)<|.a (.v 1)<|.n 1)<|.n 40) rfl [] [_,_] hl)) (by decide);refine bQ (v:= .x ((v*10+(c - 48):Nat):Int)) (.aS (.aS (.J rfl) (.J rfl)<|.x<|.d (by rw [Int.natAbs_natCast];exact E)<|by decide) (.J rfl)<|.x .J)<|bQ (v:= .x ((i+1:Nat):Int)) ((bH rfl))<|bj<|ih h (oo hd) f.2 p (aD (.I (.a (.a (.v 0)<|.n 1)<|.v 1)<|.n 40) (.I (.a (.v 0)<|.a (.v 1)<|.n 1)<|.n 40) rfl [] [_,_] hl) λg B y=>q g B ?_;rw [ng,pN 1] at y;exact y
theorem Xl(c:jJ r)(h:cN H t cl cs at_)(hd:cs.drop i=w++r)(b:w.all d4=af)(hl:w.length<=40)(q:∀a,dQ t H a->cN a t cl cs (i+w.length)->Q (.x<|kh w) a):CP (k+3) 339 [.d t, .x i, .x 10] E Q H:=
 L.1 (n:=3393) rfl rfl (bQ .e<|qA _<|Xp L c (v:=0) (n:=0) h hd b (by decide) (by rw [jd];exact hl) q)
end
section
variable {t cl:Nat} {cs:List Nat} {at_:Nat}
include L
theorem Xt(h:c≠98/\c≠111/\c≠120)(q:Q (.x 0) H):CP (k+1) 233 [.x c] E Q H:=by have f:=cR (H:=H) (a:=c) (b:=98);have e:=cR (H:=H) (a:=c) (b:=111);have d:=cR (H:=H) (a:=c) (b:=120);rw [beq_false_of_ne h.1] at f;rw [beq_false_of_ne h.2.1] at e;rw [beq_false_of_ne h.2.2] at d;exact L.1 (n:=2331) rfl rfl<|cz (.ah (.U (.J rfl) .e f) .e)<|cz (.ah (.U (.J rfl) .e e) .e)<|cz (.ah (.U (.J rfl) .e d) .e)<|aY .e q
omit L in
theorem kX(h:a≠b):cg H .Eq (.x a) (.x b) false:=by have:=cR (H:=H) (a:=a) (b:=b);rwa [beq_false_of_ne h] at this
theorem JZ(h:cN H t cl cs at_)(hd:cs.drop at_=c::(w++r))(p:(c::w).all d4=af)(hl:w.length<40)(g:jJ r)(h0:∃a b d e,ρ=[aa<|.d t,aa<|.x at_,a,b,d,e])
 (q:∀l,dQ t H l->cN l t cl cs (at_+(w.length+1))->P.a (aR at_<|.x (kh<|c::w) af) l):aw (CP<|k+4) (ck 1 IL) ρ P H:=by
 obtain⟨a,b,d,e,rfl⟩:=h0;refine bz<|a7 (.J rfl) h.1 (vs:=[.x at_, .x 10]) ((aC rfl))<|Xl L (w:=c::w) g h hd p (by refine ae dK ?_;assumption) λu v j=>?_;have f:=j.1;have s:cs.drop (at_+(w.length+1))=r:=by exact ae pY.symm<|ae hd<|ae jB.symm<|BG rfl
 refine cm g λx m n o=>?_;clear g;obtain rfl:=n;refine di<|pk<|fc<|cD<|gf<|i9 L j rfl (i:=at_+(w.length+1)) ((.ao (.J rfl)<|.b f rfl))<|ae (gg s)<|aX .e<|lj ai (kX<|wA (P:=λx=>(x:Int)≠46) o (by decide) (by decide) (by decide)<|by decide) _ .e (λe=>(bw e)) λz=>⟨λe=>(bw e),λz=>bj<|aY ((bH rfl))<|q u v j⟩
theorem Xs(h:cN H t cl cs at_)(hd:cs.drop at_=c::(w++r))(D:d4 c=af)(C:w.all d4=af)(h0:c=48->w=[])(hl:w.length<40)(p:jJ r)
 (q:∀s,dQ t H s->cN s t cl cs (at_+(w.length+1))->Q (aR at_<|.x (kh<|c::w) af) s):CP (k+5) 332 [.d t, .x at_] E Q H:=by
 have G:=h.1;have j:(c::w).all d4=true:=by exact ae me<|ae D<|ae C rfl
 refine L.1 (n:=3322) rfl rfl<|di<|cD<|gf<|i9 L h rfl (.J rfl)<|ae (gg hd) ?_;by_cases e:c=48
 ·have z:=h0 e;subst e z;refine cm (id p) λx m B u=>?_;obtain rfl:=B;have F:cs.drop (at_+1)=x::m:=oo hd;refine aX .e<|lj af cR _ .e (λy=>bz<|i9 L h rfl (i:=at_+1) (by exact(bH rfl))<|ae (gg F)<|cz (.ah (.U (.J rfl) .e<|kX<|wA (P:=λx=>(x:Int)≠39) u (by decide) (by decide) (by decide)<|by decide) .e)<|bz<|bV (aC rfl)<|Xt L (wA (P:=λx=>(x:Int)≠98/\(x:Int)≠111/\(x:Int)≠120) u (by decide) (by decide) (by decide)<|by decide)<|bz<|gQ<|bx<|i9 L h rfl (i:=at_+2) (by exact(bH rfl))<|DU L ?_) λe=>bC e;generalize (if qI (cd cs<|at_+2) then cd cs (at_+2) - 48 else if qJ (cd cs<|at_+2) then cd cs (at_+2) - 87 else if qH (cd cs<|at_+2) then cd cs (at_+2) - 55 else -1)=d;have l:=JZ L (k:=k) (w:=[]) (r:=x::m) (ρ:=[aa<|.d t,aa<|.x at_,aa<|.x x,aa<|.x 0,aa<|.x d,ag]) (P:= .e E Q) h hd j hl p ⟨_,_,_,_,rfl⟩ q;have g:=cg.I (H:=H) (a:=0) (b:=d);have A:=cg.e (H:=H) (a:=d) (b:=0);by_cases o:0<=d
  ·replace g:=(decide_eq_true o)▸g;rw [decide_eq_false<|by exact aD (.Nt (.v 0)<|.n 0) (.Le (.n 0)<|.v 0) rfl [_] [] o] at A;exact cz (.aB<|.cB (.ah (.U .e (.J rfl) g) .e)<|.dJ (d:=af)<|.ah (.U (.J rfl) (.J rfl) A) .e) l
  ·replace g:=(decide_eq_false o)▸g;exact cz (.aB<|.dJ (d:=af)<|.ah (.U .e (.J rfl) g) .e) l
 ·exact aX .e<|lj ai (kX λv=>(iP e).elim (λf=>bJ .a (.J (.c<|.v 0)<|.n 48) (.e (.v 0)<|.n 48) rfl [] [_] v f) λf=>bJ .a (.e (.n 48)<|.v 0) (.Eq (.c<|.v 0)<|.n 48) rfl [] [_] f v) _ .e (λe=>(bw e)) λy=>bj<|JZ L (k:=k) (w:=w) (P:= .e E Q) h hd j hl p ⟨_,_,_,_,rfl⟩ q
omit L in
theorem ady(e:H t=aa c)(b:H y=aa d)(n:(c.I==d.I)=ai):t≠y:=fT e b n
theorem Xu(R:q=39\/q=34)(O:d≠q){D g:List Nat}(T:QT q D g):∀{at_:Nat} {acc:List V} {H:HP} {x z w:Option V} {P:bA},cN H t cl cs at_->cs.drop at_=D++q::d::m->H y=aa (.u 8 acc)->acc.length+g.length<=1000000->
 (∀F,qK t y H F->cN F t cl cs (at_+(D.length+1))->F y=aa (.u 8<|acc++g.map λ(c:Nat)=>V.x (c:Int))->P.a (.d y) F)->
 jK (CP<|k+1) (.ah<|.e<|.e af) IP P (g.length+1) [aa<|.d t,aa b0,aa<|.x q,aa<|.d y,x,z,w] H:=by
 induction T with
 | I=>intro at_ acc H x z w P h hd p hl o;have j:=h.1;exact kV (.ah .e .e)<|bQ (v:= .x at_) (by exact(.ao (.J rfl)<|.b j rfl))<|bz<|i9 L h rfl (.J rfl)<|ae (gg (r:=d::m) hd)<|cY (.ah (.U (.J rfl) (.J rfl) (by have:=cR (H:=H) (a:=(q:Int)) (b:=q);rwa [beq_self_eq_true] at this)) .e)<|di<|cD<|gf<|i9 L h rfl (i:=at_+1) (by exact(bH rfl))<|ae (gg<|oo hd)<|aX (.J rfl)<|lj af (by have:=qB (H:=H) (a:=(d:Int)) (b:=q);rwa [beq_false_of_ne<|by exactλs=>(iP O).elim (λG=>bJ .a (.e (.v 0)<|.v 1) (.J (.c<|.v 0)<|.c<|.v 1) rfl [] [_,_] G s) λG=>bJ .a (.e (.v 0)<|.v 1) (.Eq (.c<|.v 1)<|.c<|.v 0) rfl [] [_,_] G s] at this) _ .e (λu=>cZ (v:= .x ((at_+1:Nat):Int)) ((bH rfl)) rfl j λN C E=>aY (.J rfl)<|o N E.I (h.kH E C)<|by rw [MJ,jh];exact E _ _ (fT p j rfl) p) λe=>bC e
 | @d c l g K T ih=>
  intro at_ acc H x z w P h hd p hl o;have j:=h.1;rw [dK] at hl o;have n:cs.drop at_=c::(l++q::d::m):=hd;refine kV (.ah .e .e)<|bQ (v:= .x at_) ((.ao (.J rfl)<|.b j rfl))<|bz<|i9 L h rfl (.J rfl)<|ae (gg n)<|kj (.ah (.U (.J rfl) (.J rfl)<|kX λs=>(iP K.2.2.1).elim (λf=>bJ .a (.e (.v 0)<|.v 1) (.J (.c<|.v 0)<|.c<|.v 1) rfl [] [_,_] f s) λf=>bJ .a (.e (.v 0)<|.v 1) (.Eq (.c<|.v 1)<|.c<|.v 0) rfl [] [_,_] f s) .e)<|kj (.cQ<|.cB (.ah (.U (.J rfl) .e<|kX<|by(simp;done)) .e)<|.cB (.ah (.U (.J rfl) .e<|kX λR=>bJ .a (.I (.n 32)<|.v 0) (.Eq (.c<|.v 0)<|.n 10) rfl [] [_] K.1 R) .e) .gm)<|kj (.aB<|.dJ (d:=af)<|.ah (.U (.J rfl) .e<|kX λs=>(iP K.2.2.2).elim (λf=>bJ .a (.J (.c<|.v 0)<|.n 92) (.e (.v 0)<|.n 92) rfl [] [_] s f) λf=>bJ .a (.e (.n 92)<|.v 0) (.Eq (.c<|.v 0)<|.n 92) rfl [] [_] f s) .e)<|kj (.ah (.U (.J rfl) .e<|kX λs=>(iP K.2.2.2).elim (λf=>bJ .a (.J (.c<|.v 0)<|.n 92) (.e (.v 0)<|.n 92) rfl [] [_] s f) λf=>bJ .a (.e (.n 92)<|.v 0) (.Eq (.c<|.v 0)<|.n 92) rfl [] [_] f s) .e)<|di<|cD<|bV (aC rfl)<|Xd L<|bT _ .e (λu=>dB<|jt (.J rfl) (.J rfl) p (by skip;exact aD (.e (.v 0)<|.n 16777216) (.I (.a (.v 0)<|.a (.v 1)<|.n 1)<|.n 1000000) rfl [] [_,_] hl)<|cZ (v:= .x ((at_+1:Nat):Int)) ((bH rfl)) rfl (cH p j rfl) λN C E=>?_) λe=>(by replace e:=(Xr ⟨K.1,K.2.1⟩)▸e;exact bC e);have B:qK t y H N:=JX.u E.I;have J:=E _ _ (fT p j rfl)<|aQ (H:=H) (a:=y) (c:= .u 8<|acc++[V.x c]);refine ih (at_:=at_+1) (acc:=acc++[V.x c]) ⟨C,B _ _ (fT h.2 j rfl) (fT h.2 p rfl) h.2,h.3,h.4⟩ (oo n) J (ae bI<|ae gY<|aD (.I (.a (.a (.v 0)<|.n 1)<|.v 1)<|.n 1000000) (.I (.a (.v 0)<|.a (.v 1)<|.n 1)<|.n 1000000) rfl [] [_,_] hl) λF Q M A=>o F (B.u Q) ?_ ?_
  ·rw [ng,pN 1] at M;exact M
  ·rw [cv] at A;exact A
 | @a l g T ih=>
  intro at_ acc H x z w P h hd p hl o;have j:=h.1;replace hl:=dK▸hl;have n:cs.drop at_=q::q::(l++q::d::m):=hd;refine kV (.ah .e .e)<|bQ (v:= .x at_) ((.ao (.J rfl)<|.b j rfl))<|bz<|i9 L h rfl (.J rfl)<|ae (gg n)<|cY (.ah (.U (.J rfl) (.J rfl) (by have:=cR (H:=H) (a:=(q:Int)) (b:=q);rwa [beq_self_eq_true] at this)) .e)<|di<|cD<|gf<|i9 L h rfl (i:=at_+1) ((bH rfl))<|ae (gg<|oo n)<|aX (.J rfl)<|lj ai (by have:=qB (H:=H) (a:=(q:Int)) (b:=q);rwa [beq_self_eq_true] at this) _ .e (λe=>(bw e)) λu=>dB<|jt (.J rfl) (.J rfl) p (by skip;exact aD (.e (.v 0)<|.n 16777216) (.I (.a (.v 0)<|.a (.v 1)<|.n 1)<|.n 1000000) rfl [] [_,_] hl)<|cZ (v:= .x ((at_+2:Nat):Int)) ((bH rfl)) rfl (cH p j rfl) λN C E=>?_;have B:qK t y H N:=JX.u E.I;have J:=E _ _ (fT p j rfl)<|aQ (H:=H) (a:=y) (c:= .u 8<|acc++[V.x q]);refine ih (at_:=at_+2) (acc:=acc++[V.x q]) ⟨C,B _ _ (fT h.2 j rfl) (fT h.2 p rfl) h.2,h.3,h.4⟩ (oo<|oo n) J (ae bI<|ae gY<|aD (.I (.a (.a (.v 0)<|.n 1)<|.v 1)<|.n 1000000) (.I (.a (.v 0)<|.a (.v 1)<|.n 1)<|.n 1000000) rfl [] [_,_] hl) λF Q M A=>o F (B.u Q) ?_ ?_
  ·replace M:=(show at_+2+(l.length+1)=at_+((q::q::l).length+1) from(ng at_ 2 _).trans<|congrArg (at_+·)<|pN 2 _)▸M;exact M
  ·rw [cv] at A;exact A
theorem JY{m body b:List Nat}(x:q=39\/q=34)(l:d≠q)(T:QT q body b)(hl:b.length<=1000000)(h:cN H t cl cs at_)(hd:cs.drop at_=q::(body++q::d::m))
 (o:∀f y,Fr [1370] H f->cN f t cl cs (at_+(body.length+2))->f y=aa (.u 8<|b.map λ(c:Nat)=>V.x (c:Int))->Q (.d y) f):CP (k+2) 353 [.d t, .x at_, .x q] E Q H:=by
 refine L.1 (n:=3533) rfl rfl<|cZ (v:= .x ((at_+1:Nat):Int)) ((bH rfl)) rfl h.1 λD j w=>?_;have C:=h.kH w j;refine bz<|fv .I λy i=>qA (b.length+1) ?_;have A:cN (D.J y<|.u 8 []) t cl cs (at_+1):=C.J (S:=[]) (.aT i) rfl;refine Xu L x l T A (oo hd) aQ (by rw [rC,jd];exact hl) λf B u g=>o f y ?_ ?_ g
 ·intro a c e s;have r:a≠t:=λz=>by rw [z,h.1] at e;injection e with e;replace s:=e.symm▸s;exact bC s
  have p:=w _ _ r e;exact B _ _ r (λz=>by rw [z,i] at p;exact a9 p)<|dh i p
 ·rw [ng,pN 1] at u;exact u
end
section
variable {t cl:Nat} {cs:List Nat} {at_:Nat} {ρ:aA} {P:bA} {c:Nat}
include L
omit L in
theorem Ar(h3:ρ[3]?=aa (aa<|.x c))(n:c≠40)(q:aw (CP k) (ck 6 fM) ρ P H):aw (CP k) (ck 5 fM) ρ P H:=cz (.ah (.U (.J h3) .e<|kX λb=>(iP n).elim (λa=>bJ .a (.J (.c<|.v 0)<|.n 40) (.e (.v 0)<|.n 40) rfl [] [_] b a) λa=>bJ .a (.e (.n 40)<|.v 0) (.Eq (.c<|.v 0)<|.n 40) rfl [] [_] a b) .e) q
theorem DX(h3:ρ[3]?=aa (aa<|.x c))(n:lR c=ai)(q:aw (CP<|k+1) (ck 7 fM) ρ P H):aw (CP<|k+1) (ck 6 fM) ρ P H:=
 di (cD<|bV (.u (.J h3) .I)<|Ao L<|bT _ .e (λe=>(by rw [DW,n] at e;exact bw e)) λz=>q)
theorem J2(h3:ρ[3]?=aa (aa<|.x c))(n:n7 c=ai)(d:c≠95)(q:aw (CP<|k+1) (ck 8 fM) ρ P H):aw (CP<|k+1) (ck 7 fM) ρ P H:=
 di (Af<|fc<|cD<|bV (.u (.J h3) .I)<|Am L<|bT _ .e (λz=>fc<|wb (.ah (.U (.J h3) .e<|kX λb=>(iP d).elim (λa=>bJ .a (.J (.c<|.v 0)<|.n 95) (.e (.v 0)<|.n 95) rfl [] [_] b a) λa=>bJ .a (.e (.n 95)<|.v 0) (.Eq (.c<|.v 0)<|.n 95) rfl [] [_] a b) .e) ⟨λz=>kU ⟨λe=>(bw e),λz=>q⟩,λe=>bw e⟩) λe=>(by rw [DS,n] at e;exact bw e))
theorem XH(h3:ρ[3]?=aa (aa<|.x c))(n:d4 c=ai)(q:aw (CP<|k+1) (ck 9 fM) ρ P H):aw (CP<|k+1) (ck 8 fM) ρ P H:=
 di (cD<|bV (.u (.J h3) .I)<|An L<|bT _ .e (λe=>(by rw [Al,n] at e;exact bw e)) λz=>q)
omit L in
theorem DY(h3:ρ[3]?=aa (aa<|.x c))(n:c≠39)(q:aw (CP k) (ck 10 fM) ρ P H):aw (CP k) (ck 9 fM) ρ P H:=cz (.ah (.U (.J h3) .e<|kX λb=>(iP n).elim (λa=>bJ .a (.J (.c<|.v 0)<|.n 39) (.e (.v 0)<|.n 39) rfl [] [_] b a) λa=>bJ .a (.e (.n 39)<|.v 0) (.Eq (.c<|.v 0)<|.n 39) rfl [] [_] a b) .e) q
omit L in
theorem J1(h3:ρ[3]?=aa (aa<|.x c))(n:c≠34/\c≠96)(q:aw (CP k) (ck 12 fM) ρ P H):aw (CP k) (ck 10 fM) ρ P H:=cz (.ah (.U (.J h3) .e<|kX λd=>(iP n.1).elim (λa=>bJ .a (.J (.c<|.v 0)<|.n 34) (.e (.v 0)<|.n 34) rfl [] [_] d a) λa=>bJ .a (.e (.n 34)<|.v 0) (.Eq (.c<|.v 0)<|.n 34) rfl [] [_] a d) .e)<|cz (.ah (.U (.J h3) .e<|kX λd=>(iP n.1).elim (λa=>bJ .a (.J (.c<|.v 0)<|.n 96) (.e (.v 0)<|.n 34) rfl [] [_] d a) λa=>(iP n.2).elim (λb=>bJ .a (.J (.c<|.v 0)<|.n 96) (.e (.v 0)<|.n 96) rfl [] [_] d b) λb=>bJ .a (.e (.n 96)<|.v 0) (.Eq (.c<|.v 0)<|.n 96) rfl [] [_] b d) .e) q
theorem XG(h3:ρ[3]?=aa (aa<|.x c))(a:c<128)(n:ij c=ai)(q:aw (CP<|k+1) (ck 13 fM) ρ P H):aw (CP<|k+1) (ck 12 fM) ρ P H:=
 di (cD<|bV (.u (.J h3) .I)<|DV L a<|bT _ .e (λe=>(by replace e:=n▸e;exact bw e)) λz=>q)
noncomputable def DZ(c:Nat):Bool:=c !=40&&!lR c&&!n7 c&&c !=95&&!d4 c
theorem As(h3:ρ[3]?=aa (aa<|.x c))(n:DZ c=af)(q:aw (CP<|k+1) (ck 9 fM) ρ P H):aw (CP<|k+1) (ck 5 fM) ρ P H:=by exact ay (bh n) λn e=>ay (bh n) λn d=>ay (bh n) λn f=>ay (bh n) λa b=>Ar h3 (bne_iff_ne.mp a)<|DX L h3 (gE b)<|J2 L h3 (gE f) (bne_iff_ne.mp d)<|XH L h3 (gE e) q
noncomputable def pw(t cl:Nat)(cs:List Nat)(H:HP)(a n:Nat)(v:V)(Q:QV):Prop:=∀b,Fr [1370] H b->cN b t cl cs (a+n)->Q v b
noncomputable abbrev mS(t b0 a:Nat)(c:Int)(z:Option V):aA:=[aa<|.d t,aa<|.x b0,aa<|.x a,aa<|.x c,z]
variable {b0:Nat} {z:Option V} (h:cN H t cl cs at_)
include h
theorem XF(hd:cs.drop at_=c::(w++r))(a:lR c=af)(b:w.all iK=af)(f:nh iK r)(q:pw t cl cs H at_ (w.length+1) (aR at_<|.u<|Mine.Internal.cs<|c::w) Q):aw (CP<|k+6) (ck 5 fM) (mS t b0 at_ c z) (.e E Q) H:=by have d:=h.1;exact Ar (c:=c) rfl (λe=>(by replace a:=e▸a;exact absurd a<|by decide))<|di<|cD<|bV (aC rfl)<|Ao L<|bT _ .e (λy=>cC<|jU<|bx<|aX .e<|bx<|a7 (.J rfl) d (aC rfl)<|JU L h hd (by rw [me,b,pR];unfold iK;exact ae a rfl) f λi F g=>cF (aC rfl)<|q i F g) λe=>(by rw [DW,a] at e;exact bC e)
theorem XE(hd:cs.drop at_=c::(w++r))(a:n7 c=af\/c=95)(m:w.all iK=af)(n:nh iK r)(q:pw t cl cs H at_ (w.length+1) (aR at_<|.d<|Mine.Internal.cs<|c::w) Q):aw (CP<|k+6) (ck 5 fM) (mS t b0 at_ c z) (.e E Q) H:=by
 have f:=h.1;have b:∀c:Fin 96,n7 c.1=af\/c.1=95->c.1≠40/\lR c.1=ai/\iK c.1=true:=by decide
 have j:c<96:=by
  rcases a with a | rfl
  ·have:=of_decide_eq_true (oz.mp a).2;exact aD (.e (.v 0)<|.n 96) (.I (.v 0)<|.n 90) rfl [] [_] this
  ·decide
 have b:=b ⟨c,j⟩ a;have g:=JU L (k:=k+3) (E:=λl H=>E l H) (Q:=λv H=>fA (CP<|k+6) (.u (.J 2) .I) (mS t b0 at_ c z) (λl H=>E l H) (λi H=>Q (.U<|.z r9::v::i) H) H) h hd (ae me<|ae m<|ae b.2.2 rfl) n λp F o=>cF (aC rfl)<|q p F o;refine Ar (c:=c) rfl b.1<|DX L (c:=c) rfl b.2.1<|di<|Af<|fc<|cD<|bV (aC rfl)<|Am L<|bT _ .e (λe=>?_) λe=>⟨λy=>?_,λd=>(by replace d:=e▸d;exact bC d)⟩
 ·refine fc (wb (.ah (.U (.J rfl) .e (c:=af) ?_) .e) ⟨λe=>(bC e),λy=>⟨λy=>?_,λe=>bC e⟩⟩)
  ·rcases a with a | rfl
   ·rw [DS,a] at e;exact bC e
   ·exact cR
  ·exact cC<|jU<|bx<|aX .e<|bx<|a7 (.J rfl) f (aC rfl) g
 ·exact cC<|jU<|bx<|aX .e<|bx<|a7 (.J rfl) f (aC rfl) g
omit L h in
theorem XK:∀c:Fin 128,ij c.1=af->DZ c.1=af/\c.1≠39/\c.1≠34/\c.1≠96:=by decide
theorem J0(a:c<128)(d:ij c=af)(q:CP (k+6) 318 [.d t, .x at_] E Q H):aw (CP<|k+6) (ck 5 fM) (mS t b0 at_ c z) (.e E Q) H:=by have b:=XK ⟨c,a⟩ d;exact As L (c:=c) rfl b.1<|DY (c:=c) rfl b.2.1<|J1 (c:=c) rfl b.2.2<|di<|cD<|bV (aC rfl)<|DV L a<|bT _ .e (λy=>cC<|a7 (.J rfl) h.1 (aC rfl) q) λe=>(by replace e:=d▸e;exact bC e)
theorem XD(hd:cs.drop at_=c::(w++r))(b:ij c=af)(a:c≠46)(d:w.all ij=af)(e:nh ij r)(q:pw t cl cs H at_ (w.length+1) (aR at_<|.u<|Mine.Internal.cs<|c::w) Q):aw (CP<|k+6) (ck 5 fM) (mS t b0 at_ c z) (.e E Q) H:=
 J0 L h (h.3 _<|yg hd) b (Xn L h hd a (ae me<|ae d<|ae b rfl) e q)
theorem Xx(hd:cs.drop at_=46::10::r)(q:pw t cl cs H at_ 1 (aR at_ .I) Q):aw (CP<|k+6) (ck 5 fM) (mS t b0 at_ 46 z) (.e E Q) H:=
 J0 L h (c:=46) (by decide) (by decide) (Xo L h hd λb B a=>q b (h.e B) a)
omit L h in
theorem Xv:∀c:Fin 58,d4 c.1=af->c.1≠40/\lR c.1=ai/\n7 c.1=ai/\c.1≠95:=by decide
theorem Xy(hd:cs.drop at_=c::(w++r))(b:d4 c=af)(d:w.all d4=af)(h0:c=48->w=[])(hl:w.length<40)(f:jJ r)(q:pw t cl cs H at_ (w.length+1) (aR at_<|.x (kh<|c::w) af) Q):aw (CP<|k+6) (ck 5 fM) (mS t b0 at_ c z) (.e E Q) H:=by have a:=Xv ⟨c,xU b⟩ b;exact Ar (c:=c) rfl a.1<|DX L (c:=c) rfl a.2.1<|J2 L (c:=c) rfl a.2.2.1 a.2.2.2<|di<|cD<|bV (aC rfl)<|An L<|bT _ .e (λy=>cC<|a7 (.J rfl) h.1 (aC rfl)<|Xs L h hd b d h0 hl f λi B g=>q i (h.e B) g) λe=>(by rw [Al,b] at e;exact bC e)
omit L h in
theorem XJ:∀{w:List Nat},w.all (λc=>33<=c&&c<=126&&c !=39&&c !=92)=af->QT 39 w w:=by
 intro f;induction f with
 | nil=>intro _;exact .I| cons c w ih=>intro h;exact ay (bh (show(_&&_)=af from h)) λh g=>ay (bh h) λh d=>ay (bh h) λh e=>ay (bh h) λa b=> .d ⟨aH (by decide)<|of_decide_eq_true a,of_decide_eq_true b,bne_iff_ne.mp e,bne_iff_ne.mp d⟩<|ih g
theorem XB(hd:cs.drop at_=39::(w++39::r))(b:w.all (λc=>33<=c&&c<=126&&c !=39&&c !=92)=af)(e:jJ r)(q:pw t cl cs H at_ (w.length+2) (aR at_<|.f<|Mine.Internal.cs w) Q):aw (CP<|k+6) (ck 5 fM) (mS t b0 at_ 39 z) (.e E Q) H:=by
 refine cm e λd m g a=>?_;clear e;obtain rfl:=g
 have hl:w.length<=1000000:=by
  have:(cs.drop at_).length=(39::(w++39::d::m)).length:=by exact ae hd rfl
  rw [lg,dK,bI] at this;have:=h.4;exact oM (.I (.v 0)<|.n 1000000) (.qe (.v 1)<|.a (.a (.v 0)<|.a (.a (.v 2)<|.n 1)<|.n 1)<|.n 1) (.I (.v 1)<|.v 3) (.I (.v 3)<|.n 1000000) rfl [] [_,_,_,_] (by assumption) (yV _ _) this
 refine As L (c:=39) rfl (by decide)<|cY (.ah (.U (.J rfl) .e (c:=af) cR) .e)<|cC<|jU<|bx<|aX .e<|bx<|gQ<|bx<|a7 (.J rfl) h.1 (vs:=[.x at_, .x (39:Nat)]) (aC rfl)<|JY L (q:=39) (.inl rfl) (wA (P:=(·≠39)) a (by decide) (by decide) (by decide)<|by decide) (XJ b) hl h hd λp y o l i=>DT L i (λc j=>?_) hl λn f=>cF (aC rfl)<|q n (o.u<|f.U rfl)<|l.J f rfl;have:=dT.mp b c j;exact eX (of_decide_eq_true (bh (bh (bh this).1).1).2) (by decide)
theorem XC(hd:cs.drop at_=34::97::34::34::34::r)(b:jJ r)(q:pw t cl cs H at_ 5 (aR at_ .z) Q):aw (CP<|k+6) (ck 5 fM) (mS t b0 at_ 34 z) (.e E Q) H:=by refine cm b λd m e a=>?_;clear b;obtain rfl:=e;exact As L (c:=34) rfl (by decide)<|DY (c:=34) rfl (by decide)<|cY (.ah (.U (.J rfl) .e (c:=af) cR) .e)<|cC<|jU<|bx<|aX .e<|bx<|bx<|a7 (.J rfl) h.1 (vs:=[.x at_, .x (34:Nat)]) (aC rfl)<|JY L (q:=34) (body:=[97,34,34]) (.inr rfl) (wA (P:=(·≠34)) a (by decide) (by decide) (by decide)<|by decide) (.d (by decide)<|.a .I) (by decide) h hd λi y j g f=>(aM _ (.f f)<|cF (aC rfl)<|q i j g)
omit L in
theorem Xz(hd:cs.drop at_=40::r)(n:b=af↔at_>b0\/at_=0)(q:pw t cl cs H at_ 1 (aR at_ (if b then .l else .b)) Q):aw (CP<|k+6) (ck 5 fM) (mS t b0 at_ 40 z) (.e E Q) H:=by
 refine cY (.ah (.U (.J rfl) .e (c:=af) cR) .e)<|cZ (v:= .x ((at_+1:Nat):Int)) (by exact(bH rfl)) rfl h.1 λm f o=>?_;have j:=q m (h.e o)<|h.kH o f;have i:=cg.j (H:=m) (a:=(at_:Int)) (b:=b0);have l:=cR (H:=m) (a:=(at_:Int)) (b:=0);induction b with
 | true=>
  have z:=n.mp rfl;refine cY (.cQ (c:=af) ?_)<|aY (by exact(bH rfl)) j;by_cases g:at_>b0
  ·rw [decide_eq_true<|by exact aD (.U (.c<|.v 0)<|.c<|.v 1) (.e (.v 0)<|.v 1) rfl [] [_,_] g] at i;exact .dJ (d:=ai)<|.ah (.U (.J rfl) (.J rfl) i) .e
  ·rw [decide_eq_false<|by exact aD (.Nt (.c<|.v 0)<|.c<|.v 1) (.nt (.v 0)<|.v 1) rfl [] [_,_] g] at i;rw [show((at_:Int)==0)=af from beq_iff_eq.mpr<|congrArg gS<|z.resolve_left g] at l;exact .cB (.ah (.U (.J rfl) (.J rfl) i) .e)<|.dJ (d:=ai)<|.ah (.U (.J rfl) ((.ao (.J rfl)<|.b f rfl)) l) .e
 | false=>
  have z:¬(at_>b0\/at_=0):=λe=>by have:=n.mpr e;exact bw this
  replace i:=(decide_eq_false λh=>z<|.inl<|j3.mp h)▸i;replace l:=(beq_false_of_ne λh=>z<|.inr<|Int.ofNat_eq_zero.mp h)▸l;exact cz (.cQ<|.cB (.ah (.U (.J rfl) (.J rfl) i) .e)<|.cB (.ah (.U (.J rfl) ((.ao (.J rfl)<|.b f rfl)) l) .e) .gm)<|aY ((bH rfl)) j
omit L h in
theorem XI:∀c:Fin 128,tY c.1=af->DZ c.1=af/\c.1≠39/\(c.1≠34/\c.1≠96)/\ij c.1=false:=by decide
theorem XA(hd:cs.drop at_=c::r)(j:tY c=af)(q:pw t cl cs H at_ 1 (aR at_<|.a ⟨#[c]⟩) Q):aw (CP<|k+6) (ck 5 fM) (mS t b0 at_ c z) (.e E Q) H:=by have d:=h.3 _<|yg hd;have e:=XI ⟨c,d⟩ j;refine As L (c:=c) rfl e.1<|DY (c:=c) rfl e.2.1<|J1 (c:=c) rfl e.2.2.1<|XG L (c:=c) rfl d e.2.2.2<|cZ (v:= .x ((at_+1:Nat):Int)) ((bH rfl)) rfl h.1 λg f l=>?_;have m:=fP.m (H:=g) (a:=(c:Int)) (b:=0);rw [if_neg<|oC.mpr<|iA c] at m;refine bQ (v:= .z ⟨#[c]⟩) (.bi (.u (.bi (aC rfl) m) .I)<|.d (iA _)<|aD (.U (.c<|.v 0)<|.n 55296) (.e (.v 0)<|.n 128) rfl [] [_] d) ?_;have i:=fY.z (H:=g) (c:=⟨#[c]⟩) (s:=Dd) (n:=c) rfl;rw [show Dd.cps.toList.contains c=af from j] at i;exact cY (.ah (.U (.J rfl) .e<|.c i) .e)<|aY ((bH rfl))<|q g (h.e l)<|h.kH l f
omit h in
theorem Xw(O:sr b r tok i)(h:cN H t cl cs at_)(hd:cs.drop at_=r)(u:b=af↔at_>b0\/at_=0)(q:pw t cl cs H at_ (r.length - i.length) (aR at_ tok) Q):
 aw (CP<|k+6) (ck 5 fM) (mS t b0 at_ (cd cs at_) z) (.e E Q) H:=by
 have n:∀(c:Nat) (w i:List Nat),(c::(w++i)).length - i.length=w.length+1:=λc w i=>y7 (c::w) i;revert hd q;cases O with
 | @I m=>intro hd q;refine ae (gg hd) ?_;rw [show(46::10::m).length - (10::m).length=1 from y7 [46] (10::m)] at q;exact Xx L h hd q| eN O=>
 intro hd q;revert hd q;cases O with
 | e p o j=>intro hd q;refine ae (gg hd) ?_;rw [n] at q;exact XF L h hd p o j q| d p o j=>intro hd q;refine ae (gg hd) ?_;rw [n] at q;exact XE L h hd p o j q| f p s o j=>intro hd q;refine ae (gg hd) ?_;rw [n] at q;exact XD L h hd p s.1 o j q| x p o h0 hl j=>intro hd q;refine ae (gg hd) ?_;rw [n] at q;exact Xy L h hd p o h0 hl j q| @g w _ o j=>intro hd q;refine ae (gg hd) ?_;rw [show(39::(w++39::i)).length - i.length=w.length+2 by rw [dK,bI,dK];exact j4 (aD (.I (.v 0)<|.a (.v 1)<|.n 2) (.u (.a (.v 0)<|.v 2)<|.a (.a (.v 1)<|.a (.v 2)<|.n 1)<|.n 1) rfl [] [_,_,_] (kZ<|cP (.I (.v 0)<|.a (.a (.v 1)<|.a (.v 0)<|.n 1)<|.n 1) rfl [_,_] []))<|aD (.I (.a (.v 0)<|.n 2)<|.v 1) (.qe (.a (.v 1)<|.v 2)<|.a (.a (.v 0)<|.a (.v 2)<|.n 1)<|.n 1) rfl [] [_,_,_] (kZ<|cP (.I (.v 0)<|.a (.a (.v 1)<|.a (.v 0)<|.n 1)<|.n 1) rfl [_,_] [])] at q;exact XB L h hd o j q| z j=>intro hd q;refine ae (gg hd) ?_;rw [show(34::97::34::34::34::i).length - i.length=5 from y7 [34,97,34,34,34] i] at q;exact XC L h hd j q| l=>intro hd q;refine ae (gg hd) ?_;rw [show(40::i).length - i.length=1 by rw [dK];exact j4 (aD (.I (.v 0)<|.n 1) (.u (.a (.v 0)<|.v 1)<|.a (.v 1)<|.n 1) rfl [] [_,_] (kZ<|cP (.I (.v 0)<|.a (.v 0)<|.n 1) rfl [_] []))<|aD (.I (.n 1)<|.v 0) (.qe (.a (.v 0)<|.v 1)<|.a (.v 1)<|.n 1) rfl [] [_,_] (kZ<|cP (.I (.v 0)<|.a (.v 0)<|.n 1) rfl [_] [])] at q;exact Xz h hd u q| @a c _ p=>intro hd q;refine ae (gg hd) ?_;rw [show(c::i).length - i.length=1 by rw [dK];exact j4 (aD (.I (.v 0)<|.n 1) (.u (.a (.v 0)<|.v 1)<|.a (.v 1)<|.n 1) rfl [] [_,_] (kZ<|cP (.I (.v 0)<|.a (.v 0)<|.n 1) rfl [_] []))<|aD (.I (.n 1)<|.v 0) (.qe (.a (.v 0)<|.v 1)<|.a (.v 1)<|.n 1) rfl [] [_,_] (kZ<|cP (.I (.v 0)<|.a (.v 0)<|.n 1) rfl [_] [])] at q;exact XA L h hd p q
end
noncomputable abbrev RA:Type:=Nat×Nat×Nat×Nat×Nat
noncomputable abbrev RA.r(x:RA):Nat:=x.1
noncomputable abbrev RA.b(x:RA):Nat:=x.2.1
noncomputable abbrev RA.o(x:RA):Nat:=x.2.2.1
noncomputable abbrev RA.f(x:RA):Nat:=x.2.2.2.1
noncomputable abbrev RA.t(x:RA):Nat:=x.2.2.2.2
theorem XR(O:sr b r tok r1):∃c m,r=c::m/\(c<128->sx c=ai/\c≠37/\c≠47):=by
 have k:∀c:Fin 128,(lR c.1=af\/n7 c.1=af\/c.1=95\/d4 c.1=af\/tY c.1=af\/ij c.1=af/\c.1≠47\/c.1=39\/c.1=34\/c.1=40\/c.1=46)->sx c.1=ai/\c.1≠37/\c.1≠47:=by decide
 induction O with| I=>exact⟨_,_,rfl,λi=>by decide⟩| eN O=>
 induction O with| e j=>exact⟨_,_,rfl,λi=>k ⟨_,i⟩<|.inl j⟩| d j=>exact⟨_,_,rfl,λi=>k ⟨_,i⟩<|j.elim (λh=> .inr<|.inl h) λh=> .inr<|.inr<|.inl h⟩| f j h=>exact⟨_,_,rfl,λi=>k ⟨_,i⟩<|.inr<|.inr<|.inr<|.inr<|.inr<|.inl ⟨j,h.2⟩⟩| x j=>exact⟨_,_,rfl,λi=>k ⟨_,i⟩<|.inr<|.inr<|.inr<|.inl j⟩| g=>exact⟨_,_,rfl,λi=>by decide⟩| z=>exact⟨_,_,rfl,λi=>by decide⟩| l=>exact⟨_,_,rfl,λi=>by decide⟩| a j=>exact(cL _ _ rfl λi=>k ⟨_,i⟩<|.inr<|.inr<|.inr<|.inr<|.inl j)
inductive D0(cs:List Nat)(a:Nat)(tok:aE)(p a':Nat):Prop
 | mk (ex:∃ls b r r1,cs.drop a=ls++r/\(∀c∈ls,c=32\/c=10)/\sr b r tok r1/\p=a+ls.length/\(b=af↔p>a\/p=0)/\a'=p+(r.length - r1.length))
class inductive lY(cs:List Nat):Nat->List (aE×Nat)->Nat->Prop
 | I {a}:lY cs a [] a
 | u {a tok p a' l a''} (h:D0 cs a tok p a') (k:lY cs a' l a''):lY cs a ((tok,p)::l) a''
noncomputable def dg:aE->Str
 | .u _=>fS| .f _=>kR| .d _=>r9| .x _ _=>lL| .z=>tO| .l=>r8| .b=>mH| .a _=>nU| .I=>lK
noncomputable def D1:aE->V
 | .u s=> .z s| .f s=> .z s| .d s=> .z s| .x i _=> .x i| .z=> .U [.x 97, .x 34]| .l=> .z iJ| .b=> .z iJ| .a c=> .z c| .I=> .z kg
theorem pz(p:Nat)(k:aE):aR p k= .U [.z<|dg k,D1 k, .x p]:=by induction k<;>rfl
theorem J4{k:aE}(h:k≠ .I):(dg k==lK)=ai/\(dg k==vj)=false:=by induction k<;>first | exact absurd rfl h | exact⟨rfl,rfl⟩
section
variable {t cl:Nat} {cs:List Nat} {a:Nat}
include L
theorem J3(h:cN H t cl cs a)(N:D0 cs a tok p a')(q:∀u,Fr [1370] H u->cN u t cl cs a'->Q (aR p tok) u):CP (k+7) 276 [.d t] E Q H:=by
 refine BP N.1 λj b r G hd hl O i z y=>?_;obtain rfl:=i;obtain rfl:=y;have w:=h.1;refine cm (XR O) λc m i o=>?_;obtain rfl:=i;have s:cs.drop (a+j.length)=c::m:=by rw [<-pY,hd];exact BG rfl
 have o:=o<|h.3 c<|yg s;refine L.1 (n:=2761) rfl rfl<|bQ (v:= .x a) ((.ao (.J rfl)<|.b w rfl))<|dB<|a7 (.J rfl) w .I<|JT L h hd hl (λJ I e=>by injection e with e _;exact e▸o) λC F g=>?_;have f:=g.1;have l:=g.2;have d:=fP.e l;rw [bB] at d;have x:=cg.i (H:=C) (a:=((a+j.length:Nat):Int)) (b:=cs.length);rw [decide_eq_false (by have:=Xa s;exact aD (.Nl (.c<|.v 0)<|.c<|.a (.v 1)<|.v 2) (.e (.a (.v 1)<|.v 2)<|.v 0) rfl [] [_,_,_] this)] at x;exact bQ (v:= .x ((a+j.length:Nat):Int)) ((.ao (.J rfl)<|.b f rfl))<|cz (.ah (.U (.J rfl) (.bi (.u ((.ao (.J rfl)<|.b f rfl)) .I) d) x) .e)<|bz<|i9 L g rfl (.J rfl)<|Xw L (b0:=a) O g s z λB D A=>q B ((h.e F).u D) A
theorem XN(h:cN H t cl cs a)(hd:∀c∈cs.drop a,c=32\/c=10)(m:a<=cs.length)(q:∀j,Fr [1370] H j->cN j t cl cs cs.length->Q (.U [.z vj, .z fR, .x cs.length]) j):CP (k+7) 276 [.d t] E Q H:=by have l:=h.1;refine L.1 (n:=2761) rfl rfl<|bQ (v:= .x a) ((.ao (.J rfl)<|.b l rfl))<|dB<|a7 (.J rfl) l .I<|JT L (r:=[]) h (by rw [jh]) hd (λw u e=>gw e) λp s g=>?_;rw [lg,show a+(cs.length - a)=cs.length by exact j4 (aD (.I (.a (.v 0)<|.v 1)<|.v 2) (.u (.a (.v 1)<|.v 0)<|.v 2) rfl [] [_,_,_] (kZ<|aD (.I (.v 0)<|.v 1) (.I (.v 0)<|.v 1) rfl [] [_,_] m))<|aD (.I (.v 0)<|.a (.v 1)<|.v 2) (.qe (.a (.v 2)<|.v 1)<|.v 0) rfl [] [_,_,_] (kZ<|aD (.I (.v 0)<|.v 1) (.I (.v 0)<|.v 1) rfl [] [_,_] m)] at g;have f:=g.1;have i:=g.2;have d:=fP.e i;rw [bB] at d;have o:=cg.i (H:=p) (a:=(cs.length:Int)) (b:=cs.length);rw [decide_eq_true<|jy _] at o;exact bQ (v:= .x cs.length) ((.ao (.J rfl)<|.b f rfl))<|cY (.ah (.U (.J rfl) (.bi (.u ((.ao (.J rfl)<|.b f rfl)) .I) d) o) .e)<|aY ((bH rfl))<|q p (h.e s) g
omit L in
theorem XQ(h:cN H t cl cs a)(q:∀(r c:Int) x,1<=r->P.nx [aa<|.d t,aa<|.x i,aa<|.x r,aa<|.x c,x] H):∀{n j:Nat} {r c:Int},n+j=cs.length->1<=r->
 jK (CP k) (.aB<|.u (.ah<|.U (.J 4) .Lt<|.J 1)<|.u (.ah<|.U (.J 4) .Lt<|.bi 0<|.u (.ao (.J 0) 370 0) .I) .I) IM P (n+1) [aa<|.d t,aa<|.x i,aa<|.x r,aa<|.x c,aa<|.x j] H:=by
 have m:=h.1;have o:=h.2;have d:=fP.e o;rw [bB] at d
 have b:∀(j:Nat) (r c:Int),fE H [aa<|.d t,aa<|.x i,aa<|.x r,aa<|.x c,aa<|.x j] (.aB<|.u (.ah<|.U (.J 4) .Lt<|.J 1)<|.u (.ah<|.U (.J 4) .Lt<|.bi 0<|.u (.ao (.J 0) 370 0) .I) .I) (dS ((j:Int)<i)&&(dS ((j:Int)<cs.length)&&af)):=
  λj r c=> .aB<|.lS (.ah (.U (.J rfl) (.J rfl) .e) .e)<|.lS (.ah (.U (.J rfl) (.bi (.u ((.ao (.J rfl)<|.b m rfl)) .I) d) .e) .e) .gm
 intro n;induction n with
 | zero=>intro j r c hj f;have e:=b j r c;rw [decide_eq_false (p:=(j:Int)<cs.length)<|aD (.Nt (.c<|.v 0)<|.c<|.v 1) (.qe (.a (.n 0)<|.v 0)<|.v 1) rfl [] [_,_] hj,E8,Bg] at e;exact x8 e<|q r c _ f
 | succ n ih=>
  intro j r c hj f;have e:=b j r c;rw [decide_eq_true (p:=(j:Int)<cs.length)<|aD (.U (.c<|.v 0)<|.c<|.v 1) (.u (.a (.a (.v 2)<|.n 1)<|.v 0)<|.v 1) rfl [] [_,_,_] hj,pR,pR] at e;by_cases l:(j:Int)<i
  ·replace e:=(decide_eq_true l)▸e;have g:j<cs.length:=by exact aD (.e (.v 0)<|.v 1) (.u (.a (.a (.v 2)<|.n 1)<|.v 0)<|.v 1) rfl [] [_,_,_] hj
   have s:fh H (.d cl) (.x j) (.x (cs[j]:Int)):= .u (j:=j) o (by rw [bB];exact lX g<|eX h.4<|by decide) (by refine ae (jf)<|ae (iB g) ?_;rfl);refine kV e<|sv (.ah (.U (.ak ((.ao (.J rfl)<|.b m rfl)) (.J rfl) s) .e cR) .e) (λz=>?_) λz=>?_
   ·exact bQ (v:= .x<|r+1) ((bH rfl))<|bQ .e<|bQ (v:= .x ((j+1:Nat):Int)) ((bH rfl))<|ih (j:=j+1) (j4 (aD (.I (.a (.v 0)<|.a (.v 1)<|.n 1)<|.v 2) (.u (.a (.a (.v 0)<|.n 1)<|.v 1)<|.v 2) rfl [] [_,_,_] hj)<|aD (.I (.v 0)<|.a (.v 1)<|.a (.v 2)<|.n 1) (.qe (.a (.a (.v 1)<|.n 1)<|.v 2)<|.v 0) rfl [] [_,_,_] hj)<|aD (.Le (.n 1)<|.a (.v 0)<|.n 1) (.Le (.n 1)<|.v 0) rfl [_] [] f
   ·exact bQ (v:= .x<|c+1) ((bH rfl))<|bQ (v:= .x ((j+1:Nat):Int)) ((bH rfl))<|ih (j:=j+1) (j4 (aD (.I (.a (.v 0)<|.a (.v 1)<|.n 1)<|.v 2) (.u (.a (.a (.v 0)<|.n 1)<|.v 1)<|.v 2) rfl [] [_,_,_] hj)<|aD (.I (.v 0)<|.a (.v 1)<|.a (.v 2)<|.n 1) (.qe (.a (.a (.v 1)<|.n 1)<|.v 2)<|.v 0) rfl [] [_,_,_] hj) f
  ·replace e:=(decide_eq_false l)▸e;exact x8 e<|q r c _ f
theorem XO(h:cN H t cl cs a)(q:∀r c:Int,1<=r->Q (.U [.x r, .x c]) H):CP (k+1) 262 [.d t, .x i] E Q H:=
 L.1 (n:=2622) rfl rfl (bQ .e<|bQ .e<|bQ .e<|qA (cs.length+1)<|XQ (n:=cs.length) (j:=0) h (λr c x b=>aY ((bH rfl))<|q r c b) rfl<|jy _)
theorem XP(h:cN H t cl cs a)(q:∀x d (r c:Int),H x=ag->1<=r->Q (.d x) (H.J x<|.f af d [.z s, .x i, .x r, .x c])):CP (k+2) 269 [.d t, .z s, .x i] E Q H:=by exact L.1 (n:=2693) rfl rfl<|x7<|a7 (.J rfl) h.1 (aC rfl)<|XO L h λr c e=>(bT _ rfl rfl<|cC<|cF (Q:=λvs H=>∀a d,H a=ag->H d=ag->a≠d->Q (.d a) (H.J a<|.f af d vs)) (vs:=[.z s, .x i, .x r, .x c]) ((aC rfl)) λx d b hd n=>q x d r c b e)
theorem XM(b:H t=aa (.b 370 [ag,ag,ag]))(d:H cl=aa (.u 79<|cs.map λ(c:Nat)=>V.x (c:Int)))(e:∀c∈cs,c<128)(hl:cs.length<=1000000)(q:∀a,dQ t H a->cN a t cl cs 0->Q .f a):CP (k+1) 248 [.d t, .d cl, .x 0] E Q H:=by refine L.1 (n:=2483) rfl rfl<|cZ (.J rfl) rfl b λo g l=>cZ (.J rfl) rfl g λm f j=>cZ (.J rfl) rfl f λh h3 i=>?_;have B:=(l.u j).u i;exact q h B ⟨h3,B _ _ (fT d b rfl) d,e,hl⟩
noncomputable def ja(H:HP)(R:RA)(x:V):Prop:=H R.r=aa (.b 886 [aa<|.d R.b,aa<|.d R.o,aa<|.d R.f,aa<|.d R.t,aa x])
end
theorem XU(O:sr b r tok r1):∃p,r=p++r1/\p≠[]:=by
 induction O with| I=>exact⟨[46],rfl,λe=>gv e⟩| eN O=>
 induction O with| @e c w _ j i h=>exact⟨c::w,rfl,λe=>gv e⟩| @d c w _ j i h=>exact⟨c::w,rfl,λe=>gv e⟩| @f c w _ j k i h=>exact⟨c::w,rfl,λe=>gv e⟩| @x c w _ j i h0 hl h=>exact⟨c::w,rfl,λe=>gv e⟩| @g w _ i h=>exact⟨39::(w++[39]),by rw [jB,cv];rfl,λe=>gv e⟩| z h=>exact⟨[34,97,34,34,34],rfl,λe=>gv e⟩| l=>exact⟨[40],rfl,λe=>gv e⟩| @a c _ j=>exact(aM ([c]) rfl λe=>gv e)
theorem XX{cs p b:List Nat}{a:Nat}(h:cs.drop a=p++b):cs.drop (a+((p++b).length - b.length))=b:=by rw [bI,EJ,<-pY,h];exact BG rfl
theorem XW{cs:List Nat}{b r toks m j}(X:Lx b r toks m j):∀{a ls},cs.drop a=ls++r->(∀c∈ls,c=32\/c=10)->(b=af↔a+ls.length>a\/a+ls.length=0)->
 ∃l a' f,lY cs a l a'/\l.map (·.1)=toks/\cs.drop a'=f++j/\(∀c∈f,c=32\/c=10)/\(m=af↔a'+f.length>a'\/a'+f.length=0):=by
 induction X with
 | I=>intro a ls hd hl k;exact⟨[],a,ls, .I,rfl,hd,hl,k⟩
 | @a b c r o m j h _ i=>
  intro a ls hd hl k;refine i (a:=a) (ls:=ls++[c]) (by rw [hd,cv];rfl) (λd hd=>cO (fG.mp hd) (λe=>?_) λe=>?_) ⟨λz=> .inl<|ae bI<|ae gY<|cP (.e (.v 0)<|.a (.v 0)<|.a (.v 1)<|.n 1) rfl [_,_] [],λz=>rfl⟩
  ·exact hl d e
  ·exact ae (d5.mp e) h
 | @J b r t g o m j O _ i=>
  intro a ls hd hl k;refine au (XU<|.eN O) λp n hp=>?_;obtain rfl:=n;have w:cs.drop (a+ls.length)=p++g:=by exact ae pY.symm<|ae hd<|BG rfl
  have pl:0<(p++g).length - g.length:=ae (congrArg (· - g.length) bI)<|ae (EJ ..)<|Fo.mpr hp;exact FD (i (a:=a+ls.length+((p++g).length - g.length)) (ls:=[]) (XX w) (λz h=>(dz h).elim) ⟨λe=>(bw e),λe=>e.elim (λz=>absurd z<|LV _) λz=>absurd (show a+ls.length+((p++g).length - g.length)=0 from z)<|Bc<|iO pl<|qY _ _⟩) λl a' f S v u s q=>⟨(t,a+ls.length)::l,a',f, .u ⟨ls,b,p++g,g,hd,hl, .eN O,rfl,k,rfl⟩ S,ae gX<|ae v rfl,u,s,q⟩
class inductive jv:List (aE×Nat)->Prop
 | I:jv []
 | u {k p l} (h:k= .u dU->∀i g p' r,l=(.x i g,p')::r->(p'=p+1↔g=af)) (t:jv l):jv ((k,p)::l)
theorem XT(O:sr b r (.u dU) r1):r=45::r1:=by
 cases O with| eN O=>
 generalize h:aE.u dU=k at O;induction O with
 | @e c w _ j=>injection h with h;injection h with h;have e:[45]=c::w:=congrArg adf h;injection e with i m;subst i;exact absurd j (by decide)
 | @f c w _ j=>injection h with h;injection h with h;have e:[45]=c::w:=congrArg adf h;injection e with i m;subst i m;rfl
 | d=>cases h| x=>cases h| g=>cases h| z=>cases h| l=>induction b<;>cases h| a=>cases h
theorem XS(O:sr b r (.x i g) r1):g=!b:=by
 cases O with| eN O=>
 generalize c:aE.x i g=k at O;induction O with
 | x=>injection c| e=>cases c| d=>cases c| f=>cases c| g=>cases c| z=>cases c| l=>induction b<;>cases c| a=>cases c
theorem lY.U{cs:List Nat}{a l a'}(S:lY cs a l a'):jv l:=by
 induction S with
 | I=>exact .I
 | @u a tok p a' l v N S i=>
  refine .u (λe j g A r q=>?_) i;subst e q;refine BP N.1 λk b x h y y O f y m=>?_;obtain rfl:=f;obtain rfl:=m;have e:=XT O;subst e;cases S with
  | u w _=>
   refine BP w.1 λd t o n y y O' f c y=>?_;obtain rfl:=f;have s:(45::h).length - h.length=1:=y7 [45] h;rw [s] at c⊢;refine ae (XS O') ?_;induction t with
   | true=>have:=c.mp rfl;exact⟨λe=>this.elim (λz=>absurd e<|Bc z) λz=>absurd z<|Bc<|iO (oA _)<|fz _ _,λe=>bw e⟩
   | false=>
    have:¬(a+k.length+1+d.length>a+k.length+1\/a+k.length+1+d.length=0):=λe=>by have:=c.mpr e;exact bw this
    exact⟨λy=>rfl,λy=>j4 (aD (.I (.a (.a (.a (.v 0)<|.v 1)<|.n 1)<|.v 2)<|.a (.a (.v 0)<|.v 1)<|.n 1) (.nt (.a (.a (.v 0)<|.v 1)<|.n 1)<|.a (.a (.a (.v 0)<|.v 1)<|.n 1)<|.v 2) rfl [] [_,_,_] (λz=>this<|.inl z))<|cP (.I (.a (.a (.v 0)<|.v 1)<|.n 1)<|.a (.a (.a (.v 0)<|.v 1)<|.n 1)<|.v 2) rfl [_,_,_] []⟩
noncomputable abbrev PZ:Type:=BA×OA×bS×Bk×Nat×Nat×Nat×Nat×Nat×Nat×(List<|aE×Nat)
noncomputable abbrev PZ.A(x:PZ):BA:=x.1
noncomputable abbrev PZ.O(x:PZ):OA:=x.2.1
noncomputable abbrev PZ.T(x:PZ):bS:=x.2.2.1
noncomputable abbrev PZ.I(x:PZ):Bk:=x.2.2.2.1
noncomputable abbrev PZ.p(x:PZ):Nat:=x.2.2.2.2.1
noncomputable abbrev PZ.U(x:PZ):Nat:=x.2.2.2.2.2.1
noncomputable abbrev PZ.e(x:PZ):Nat:=x.2.2.2.2.2.2.1
noncomputable abbrev PZ.J(x:PZ):Nat:=x.2.2.2.2.2.2.2.1
noncomputable abbrev PZ.nl(x:PZ):Nat:=x.2.2.2.2.2.2.2.2.1
noncomputable abbrev PZ.cd(x:PZ):Nat:=x.2.2.2.2.2.2.2.2.2.1
noncomputable abbrev PZ.aB(x:PZ):List (aE×Nat):=x.2.2.2.2.2.2.2.2.2.2
noncomputable def dG(k:Bk):Option Tm->V
 | none=> .f| some t=>tv k t
noncomputable def iu(k:Bk):Option Tm->Prop
 | none=>True| some t=>t.e k
noncomputable def XY(k:Bk)(f:cI)(b a:Int):Prop:=
 (f.k=fm->f.fn∈k.U/\(k.e f.fn,(match f.b with | none=>1 | some _=>2))∈k.fs/\b=k.fn f.fn (match f.b with | none=>1 | some _=>2))/\(f.k=ic->f.fn∈k.U/\a=k.e f.fn)
inductive jV(H:HP)(k:Bk)(f:cI)(a il:Nat):Prop
 | mk (c:∃fu na,H a=aa (.b 635 [aa (.z f.k),aa (.x f.e),aa (.x fu),aa (.x na),aa (.x f.c),aa (dG k f.b),aa (.d il)])/\XY k f fu na)
  (l:H il=aa (.u 15 (eU k f.a)))
  (i:Tm.u k f.a)
  (j:iu k f.b)
class inductive jW(H:HP)(k:Bk):List cI->List (Nat×Nat)->Prop
 | I:jW H k [] []
 | u {f a il fs l} (h:jV H k f a il) (n:∀x∈l,x.1≠a/\x.2≠il) (t:jW H k fs l):jW H k (f::fs) ((a,il)::l)
noncomputable def vD(v:VS):List (Str×V):=v.J.map λx=>(x.1, .x x.2)
noncomputable def vL(v:VS):List V:=v.J.map λx=> .U [.z x.1, .x x.2]
noncomputable def vC(v:VS):List (Int×V):=v.J.map λx=>(x.2, .x<|v.e.count x.1)
inductive VS.a(v:VS):Prop
 | mk (nk:(v.J.map (·.1)).Nodup)
  (nn:(v.J.map (·.2)).Nodup)
  (lt:∀x∈v.J,x.2<v.nx)
  (ub:∀x∈v.J,x.1≠eE)
  (oc:∀s∈v.e,s∈v.J.map (·.1))
inductive b8(H:HP)(Z:PZ)(k:Bk)(fr:List cI)(fas:List (Nat×Nat))(v:VS):Prop
 | mk (b:cJ H Z.A k)
  (b0:fU.I k)
  (o:fN H Z.O Z.A.b Z.I Z.T)
  (ko:Z.I.I k)
  (t:H Z.U=aa (.u 28 (Z.aB.map λx=>aR x.2 x.1)))
  (f:H Z.e=aa (.u 16 (fas.map λx=>V.d x.1).reverse))
  (fs:jW H k fr fas)
  (nd:H Z.J=aa (.a 17 (vD v)))
  (nl:H Z.nl=aa (.u 18 (vL v)))
  (cd:H Z.cd=aa (.e 19 (vC v)))
  (v:v.a)
theorem qL{k a:Bk}(h:k.I a):∀{t:Option Tm},iu k t->dG a t=dG k t/\iu a t
 | none,_=>⟨rfl,trivial⟩| some t,i=>⟨(kW h t i).2,(kW h t i).1⟩
theorem jV.U{H b:HP}{k d:Bk}{f a il}(x:jV H k f a il)(h:k.I d)(o:∀c,H a=aa c->b a=aa c)(hi:∀c,H il=aa c->b il=aa c):jV b d f a il:=by
 obtain⟨⟨p,g,e,w⟩,l,i,j⟩:=x;have z:=qL h j;have y:=Ai h f.a i;refine⟨(b7 p g (by refine ae z.1 ?_;exact o _ e) (λq=>?_) λq=>?_),by refine ae y.2 ?_;exact hi _ l,y.1,z.2⟩
 ·exact gI (w.1 q) λm n e=>⟨h.1.subset m,by refine ae (i8 h m) ?_;exact h.2.subset n,by refine ae (Ah h m n) ?_;exact e⟩
 ·exact ay (w.2 q) λm e=>⟨h.1.subset m,ae (i8 h m) e⟩
theorem jW.U{H a:HP}{k b:Bk}{fs l}(x:jW H k fs l)(h:k.I b)(d:∀y∈l,(∀c,H y.1=aa c->a y.1=aa c)/\∀c,H y.2=aa c->a y.2=aa c):jW a b fs l:=by induction x with| I=>exact .I| u x n _ i=>have:=d _ cu;exact .u (x.U h this.1 this.2) n<|i λy e=>d y<|df _ e
theorem jV.u{H:HP}{k:Bk}{f a il}(x:jV H k f a il):(∃c,H a=aa c/\c.I=1635)/\∃c,H il=aa c/\c.I=15:=by obtain⟨⟨d,b,e,_⟩,l,_⟩:=x;exact⟨(aM _ e rfl),(aM _ l rfl)⟩
theorem jW.Au{H:HP}{k:Bk}{fs l}(x:jW H k fs l):∀y∈l,(∃c,H y.1=aa c/\c.I=1635)/\∃c,H y.2=aa c/\c.I=15:=by
 induction x with
 | I=>exactλz h=>(dz h).elim
 | u x n _ i=>
  intro y b
  (refine cO (dH.mp b) (λa=>?tl) λb=>?tr;case' tl=>obtain rfl:=a)
  ·exact x.u
  ·exact i y b
theorem jW.J{H b:HP}{k a:Bk}{fs l}{S:List Nat}(x:jW H k fs l)(h:k.I a)(F:Fr S H b)(s:[1635,15].all (λn=>!S.contains n)=af):jW b a fs l:=by
 have s:∀n∈[1635,15],S.contains n=false:=λn j=>gE<|dT.mp s n j;refine x.U h λy i=>ay (x.Au y i) λf g=>?_;obtain⟨c,q,p⟩:=f;obtain⟨d,o,m⟩:=g;refine⟨λr e=>F _ _ e ?_,λr e=>F _ _ e ?_⟩
 ·replace e:=q▸e;injection e with e;exact ae e.symm<|ae p<|s 1635 (by decide)
 ·replace e:=o▸e;injection e with e;exact ae e.symm<|ae m<|s 15 (by decide)
theorem jW.e{H:HP}{k:Bk}{fs l}(x:jW H k fs l):l.length=fs.length:=by induction x with| I=>rfl| u _ _ _ i=>exact congrArg (·+1) i
theorem b8.J{H d:HP}{Z:PZ}{k a:Bk}{fr fas v}{S:List Nat}(x:b8 H Z k fr fas v)(F:Fr S H d)(b:cJ d Z.A a)(h:k.I a)(s:[1558,9,10,11,28,16,1635,15,17,18,19].all (λn=>!S.contains n)=af):b8 d Z a fr fas v:=by
 have s':∀n∈[1558,9,10,11,28,16,1635,15,17,18,19],S.contains n=false:=λn c=>gE<|dT.mp s n c;have sub:∀{l:List Nat},(∀n∈l,n∈[1558,9,10,11,28,16,1635,15,17,18,19])->l.all (λn=>!S.contains n)=true:=λhl=>dT.mpr λn c=>by exact ae (s' n<|hl n c) rfl
 exact⟨b,x.2.u h,x.3.J F<|sub (by decide),x.4.u h,F _ _ x.5<|s' 28 (by decide),F _ _ x.6<|s' 16 (by decide),x.7.J h F<|sub (by decide),F _ _ x.8<|s' 17 (by decide),F _ _ x.9<|s' 18 (by decide),F _ _ x.10<|s' 19 (by decide),x.11⟩
theorem b8.u{H c:HP}{Z:PZ}{k a:Bk}{fr fas v}(x:b8 H Z k fr fas v)(F:Fr gR H c)(b:cJ c Z.A a)(h:k.I a):b8 c Z a fr fas v:=x.J F b h rfl
theorem b8.U{H a:HP}{Z:PZ}{k:Bk}{fr fas v}{S:List Nat}(x:b8 H Z k fr fas v)(F:Fr S H a)(s:[1154,1,2,3,4,1558,9,10,11,28,16,1635,15,17,18,19].all (λn=>!S.contains n)=af):b8 a Z k fr fas v:=by rw [show [1154,1,2,3,4,1558,9,10,11,28,16,1635,15,17,18,19]=[1154,1,2,3,4]++[1558,9,10,11,28,16,1635,15,17,18,19] from rfl,adg,eJ] at s;exact x.J F (x.1.J F s.1) (.I _) s.2
noncomputable def bc(Z:PZ)(k:Bk)(pl:Nat)(L:Int)(t:Option Tm)(p:Int)(nx:Int):cb:=
 .b 843 [aa<|.d Z.A.b,aa<|.d Z.O.o,aa<|.z kf,aa<|.d Z.U,aa<|.x pl,aa<|.d Z.e,aa<|.x L,aa<|dG k t,aa<|.x p,aa<|.d Z.J,aa<|.d Z.nl,aa<|.d Z.cd,aa<|.x nx]
inductive cA(H:HP)(Z:PZ)(k:Bk)(pl:Nat)(fas:List (Nat×Nat))(σ:PS):Prop
 | mk (p:H Z.p=aa (bc Z k pl σ.e σ.b σ.c σ.a.nx))
  (c:b8 H Z k σ.J fas σ.a)
  (tk:(Z.aB.drop pl).map (·.1)=σ.U)
  (i:iu k σ.b)
  (nf:σ.J.length<=pl)
  (ni:∀f∈σ.J,f.a.length<=pl)
  (nv:σ.a.J.length<=pl)
  (na:Z.aB.length<=1000000)
noncomputable def mV(k:aE)(s:Str):Bool:=match k with | .a c=>c==s | _=>ai
theorem Ax{k:aE}(h:∀c,k≠ .a c):(dg k==nU)=false:=by induction k<;>first | exact absurd rfl (h _) | rfl
theorem vM{k:aE}(h:∀c,k≠ .a c)(s:Str):mV k s=false:=by induction k<;>first | exact absurd rfl (h _) | rfl
theorem J6{k:aE}(h:∀c,k≠ .a c)(a:k≠ .I):k.e=ai/\k.U=false:=by induction k<;>first | exact absurd rfl (h _) | exact absurd rfl a | exact⟨rfl,rfl⟩
noncomputable def D2:List Str:=[eP,dZ,e9]
noncomputable def D3:List Str:=[bZ,cG]
theorem J5(c:Str):D2.contains c=(aE.a c).e:=by refine(?_:[eP,dZ,e9].contains c=(c==eP||c==dZ||c==e9));exact ae j5<|ae j5<|ae j5<|ae (BF _ _ _)<|congrArg (λx=>c==eP||(c==dZ||x))<|sY _
theorem XZ(c:Str):D3.contains c=b9 c:=ae (show D3.contains c=_ from j5)<|ae j5<|congrArg (λx=>c==bZ||x)<|sY _
theorem Ka(n:Nat)(h:n<1099511627775):qg (n+1) (-1)=aa n:=
 (if_pos<|by decide).trans (JI ((if_pos<|by decide).trans (show(-1:Int)+((n:Int)+1)=n from(acs _ _).trans<|Int.add_neg_cancel_right _ _))<|mf n)
theorem pC(k:aE):(∃c,k= .a c)\/∀c,k≠ .a c:=by induction k<;>first | exact .inl ⟨_,rfl⟩ | exact .inr λz e=>nomatch e
theorem J9(k:aE):k= .I\/k≠ .I:=by induction k<;>first | exact .inl rfl | exact .inr λe=>nomatch e
section
include L
theorem pA(q:Q (.e<|mV t s) H):CP (k+1) 660 [aR p t, .z s] E Q H:=by
 rw [pz];refine L.1 (n:=6602) rfl rfl ?_
 (refine cO (pC t) (λe=>?tl) λh=>?tr;case' tl=>obtain⟨c,rfl⟩:=e)
 ·exact aY (v:= .e<|af&&(c==s)) (.cU<|.bo (.U ((.ak (.J rfl) .e<|.U rfl rfl)) .e cj)<|.i6<|.U ((.ak (.J rfl) .e<|.U rfl rfl)) (.J rfl) cj) q
 ·rw [vM h] at q;have f:=cj (H:=H) (a:=dg t) (b:=nU);rw [Ax h] at f;exact aY (.cU<|.n9 (d:=af) (.U ((.ak (.J rfl) .e<|.U rfl rfl)) .e f) .e) q
theorem J8{p:Nat}(q:Q (.e t.e) H):CP (k+1) 653 [aR p t] E Q H:=by
 rw [pz];refine L.1 (n:=6531) rfl rfl ?_
 (refine cO (J9 t) (λe=>?tl) λg=>?tr;case' tl=>obtain rfl:=e)
 ·exact aY (.cU<|.n9 (d:=ai) (.U ((.ak (.J rfl) .e<|.U rfl rfl)) .e<|cj (a:=lK)) .e) q
 have f:=cj (H:=H) (a:=dg t) (b:=lK);rw [(J4 g).1] at f;rcases pC t with ⟨c,rfl⟩ | h
 ·have m:=cg.c (H:=H) (fY.U<|qd.z (k:=c) (ks:=D2)<|.u<|.u<|.u .I);rw [J5] at m;exact aY (v:= .e<|ai||(af&&(aE.a c).e)) (.cU<|.or (.U ((.ak (.J rfl) .e<|.U rfl rfl)) .e f)<|.i6<|.cU<|.bo (.U ((.ak (.J rfl) .e<|.U rfl rfl)) .e cj)<|.i6<|.U ((.ak (.J rfl) .e<|.U rfl rfl)) .e m) q
 ·rw [(J6 h g).1] at q;have i:=cj (H:=H) (a:=dg t) (b:=nU);rw [Ax h] at i;exact aY (.cU<|.go (d:=ai) (.U ((.ak (.J rfl) .e<|.U rfl rfl)) .e f) .e<|.i6<|.cU<|.n9 (d:=af) (.U ((.ak (.J rfl) .e<|.U rfl rfl)) .e i) .e) q
theorem Av{p:Nat}(q:Q (.e t.U) H):CP (k+1) 646 [aR p t] E Q H:=by
 rw [pz];refine L.1 (n:=6461) rfl rfl ?_
 (refine cO (J9 t) (λe=>?tl) λi=>?tr;case' tl=>obtain rfl:=e)
 ·exact aY (.cU<|.n9 (d:=ai) (.U ((.ak (.J rfl) .e<|.U rfl rfl)) .e<|cj (a:=lK)) .e) q
 have f:=cj (H:=H) (a:=dg t) (b:=lK);rw [(J4 i).1] at f;rcases pC t with ⟨c,rfl⟩ | h
 ·have m:=cg.c (H:=H) (fY.U<|qd.z (k:=c) (ks:=D2)<|.u<|.u<|.u .I);have g:=cg.c (H:=H)<|fY.U<|qd.z (k:=c) (ks:=D3)<|.u<|.u .I;rw [J5] at m;rw [XZ] at g;exact aY (v:= .e<|ai||(af&&((aE.a c).e||b9 c))) (.cU<|.or (.U ((.ak (.J rfl) .e<|.U rfl rfl)) .e f)<|.i6<|.cU<|.bo (.U ((.ak (.J rfl) .e<|.U rfl rfl)) .e cj)<|.i6<|.cU<|.or (.U ((.ak (.J rfl) .e<|.U rfl rfl)) .e m)<|.i6<|.U ((.ak (.J rfl) .e<|.U rfl rfl)) .e g) q
 ·rw [(J6 h i).2] at q;have j:=cj (H:=H) (a:=dg t) (b:=nU);rw [Ax h] at j;exact aY (.cU<|.go (d:=ai) (.U ((.ak (.J rfl) .e<|.U rfl rfl)) .e f) .e<|.i6<|.cU<|.n9 (d:=af) (.U ((.ak (.J rfl) .e<|.U rfl rfl)) .e j) .e) q
section
variable {Z:PZ} {b:Bk} {pl:Nat} {Li:Int} {t:Option Tm} {pr nx:Int} {fr:List cI} {fas:List (Nat×Nat)} {v:VS} (hp:H Z.p=aa (bc Z b pl Li t pr nx)) (c:b8 H Z b fr fas v)
include hp c
omit L in
theorem Kb(hd:Z.aB.drop pl=(x,p)::r)(hl:Z.aB.length<=1000000):fh H (.d Z.U) (.x pl) (aR p x):=by
 have e:Z.aB[pl]?=aa (x,p):=by refine ae (ade).symm<|ae hd ?_;rfl
 have a:pl<Z.aB.length:=(oH.mp e).1;exact .u (j:=pl) c.5 (by rw [bB];exact lX a<|eX hl<|by decide) (by refine ae (jf)<|ae e ?_;rfl)
theorem mU(hd:Z.aB.drop pl=(x,p)::r)(hl:Z.aB.length<=1000000)(q:Q (aR p x) H):CP (k+1) 695 [.d Z.p] E Q H:=by unfold bc at hp;exact L.1 (n:=6951) rfl rfl<|aY (.ak ((.ao (.J rfl)<|.b hp rfl)) ((.ao (.J rfl)<|.b hp rfl))<|Kb (hp) c hd hl) q
theorem qM(hd:Z.aB.drop pl=(x,p)::r)(hl:Z.aB.length<=1000000)(q:∀a,dQ Z.p H a->a Z.p=aa (bc Z b (pl+1) Li t pr nx)->Q (aR p x) a):CP (k+1) 702 [.d Z.p] E Q H:=by have s:=Kb hp c hd hl;unfold bc at hp;exact L.1 (n:=7021) rfl rfl<|bQ (.ak ((.ao (.J rfl)<|.b hp rfl)) ((.ao (.J rfl)<|.b hp rfl)) s)<|cZ (v:= .x ((pl+1:Nat):Int)) ((.aS (.ao (.J rfl)<|.b hp rfl) .e<|.x .J)) rfl hp λe d f=>aY (.J rfl)<|q e f d
omit c in
theorem pB(q:∀a,dQ Z.p H a->a Z.p=aa (bc Z b pl Li (aa x) n nx)->Q (.x 1) a):CP (k+1) 730 [.d Z.p,tv b x, .x n] E Q H:=by unfold bc at hp;exact L.1 (n:=7303) rfl rfl<|cZ (.J rfl) rfl hp λh d g=>cZ (.J rfl) rfl d λe c f=>aY .e<|q e (g.u f) c
end
theorem Aw{p:Nat}(q:∀a d,H a=ag->Q (.d a) (H.J a<|.f af d [.z s, .x p, .x 0, .x 0])):CP (k+1) 709 [.d Z, .z s,aR p x] E Q H:=by rw [pz];exact L.1 (n:=7093) rfl rfl<|cC<|cF (Q:=λvs H=>∀a d,H a=ag->H d=ag->a≠d->Q (.d a) (H.J a<|.f af d vs)) (vs:=[.z s, .x p, .x 0, .x 0]) ((.u (.J rfl)<|.u (.ak (.J rfl) .e<|.U rfl rfl)<|aC rfl)) λa d b hd n=>q a d b
theorem J7(h:H a=aa (.b 635 [ag,ag,ag,ag,ag,ag,ag]))(q:∀b il,dQ a H b->H il=ag->b a=aa (.b 635 [aa<|.z s,aa<|.x n,aa<|.x (-1),aa<|.x (-1),aa<|.x 0,aa .f,aa<|.d il])->b il=aa (.u 15 [])->Q .f b):CP (k+1) 632 [.d a, .z s, .x n] E Q H:=by
 refine L.1 (n:=6323) rfl rfl<|cZ (.J rfl) rfl h λJ o A=>cZ (.J rfl) rfl o λI m y=>cZ (v:= .x (-1)) ((.fg .e)) rfl m λG h3 x=>cZ (v:= .x (-1)) ((.fg .e)) rfl h3 λF l w=>cZ .e rfl l λD j u=>cZ .e rfl j λC f t=>km vF rfl f λil p d i g r=>?_;have B:=((((A.u y).u x).u w).u u).u t;refine q p il (B.u r) ?_ i g;cases e:H il with
 | none=>rfl| some c=>have:=B il c (λz=>by rw [z,f] at d;exact hU d) e;rw [d] at this;exact a9 this
end
theorem b8.nY(c:b8 H Z b fr fas v)(x:jV H b f a il)(n:∀y∈fas,y.1≠a/\y.2≠il):b8 (H.J Z.e<|.u 16<|(fas.map λx=>V.d x.1).reverse++[.d a]) Z b (f::fr) ((a,il)::fas) v:=by
 have F:Fr [16] H (H.J Z.e<|.u 16<|(fas.map λx=>V.d x.1).reverse++[.d a]):= .J c.6 rfl;refine⟨c.1.J F rfl,c.2,c.3.J F rfl,c.4,F _ _ c.5 rfl,?_, .u (x.U (.I _) (λd e=>F _ _ e ?_) λd e=>F _ _ e ?_) n<|c.7.J (.I _) F rfl,F _ _ c.8 rfl,F _ _ c.9 rfl,F _ _ c.10 rfl,c.11⟩
 ·exact ae gX<|ae BE aQ
 ·obtain⟨⟨h,g,q⟩,_⟩:=x.u;replace e:=g▸e;injection e with e;exact ae e.symm<|ae q rfl
 ·obtain⟨_,⟨h,g,q⟩⟩:=x.u;replace e:=g▸e;injection e with e;exact ae e.symm<|ae q rfl
theorem b8.nB(c:b8 H Z b (f::fr) ((a,il)::fas) v):jV H b f a il/\hX H 1 (.d Z.e) [] (.d a) (H.J Z.e<|.u 16 (fas.map λx=>V.d x.1).reverse)/\
 b8 (H.J Z.e<|.u 16 (fas.map λx=>V.d x.1).reverse) Z b fr fas v:=by
 have hf:=c.6;rw [gX,BE] at hf;have F:Fr [16] H (H.J Z.e<|.u 16 (fas.map λx=>V.d x.1).reverse):= .J hf rfl;cases c.7 with
 | u x n t=>exact⟨x, .nB hf,c.1.J F rfl,c.2,c.3.J F rfl,c.4,F _ _ c.5 rfl,aQ,t.J (.I _) F rfl,F _ _ c.8 rfl,F _ _ c.9 rfl,F _ _ c.10 rfl,c.11⟩
theorem b8.e{H:HP}{Z:PZ}{b:Bk}{f:cI}{fr}{a il:Nat}{fas v}(c:b8 H Z b (f::fr) ((a,il)::fas) v)(hl:fas.length<=1000000):jV H b f a il/\fh H (.d Z.e) (.x (-1)) (.d a):=by
 have hf:=c.6;rw [gX,BE] at hf;cases c.7 with
 | u x n t=>
  refine⟨x, .u (j:=fas.length) hf ?_ ?_⟩
  ·rw [bI,yW,bB];exact Ka _<|eX hl (by decide)
  ·rw [Mp (by rw [yW,bB];exact dC _),yW,bB,acB];rfl
theorem gG{H:HP}{a b:Nat}{c:cb}(h:H a=aa c)(n:H b=ag):a≠b:=λe=>by rw [e,n] at h;exact a9 h
theorem b8.I{H:HP}{Z:PZ}{b:Bk}{fr fas v}(c:b8 H Z b fr fas v){a il:Nat}(f:H a=ag)(d:H il=ag):∀y∈fas,y.1≠a/\y.2≠il:=λy g=>
 ay (c.7.Au y g) λu w=>au u λz e z=>au w λz h z=>
 ⟨gG e f,gG h d⟩
noncomputable def Az:List Nat:=[1,2,3,4,15,16,17,18,19,1635,1843]
section
variable {Z:PZ} {b:Bk} {pl:Nat} {Li:Int} {t:Option Tm} {pr nx:Int} {fr:List cI} {fas:List (Nat×Nat)} {v:VS} (hp:H Z.p=aa (bc Z b pl Li t pr nx)) (c:b8 H Z b fr fas v)
include L hp c
theorem Ay{s:Str}{n m:Int}(hl:fas.length<=1000000){fn:Str}(u:s=ic->fn∈b.U/\n=b.e fn)(ho:s≠fm)
 (q:∀j a il,Fr [1843,16] H j->j Z.p=aa (bc Z b pl m t pr nx)->b8 j Z b (⟨s,Li,fn,0,ag,[]⟩::fr) ((a,il)::fas) v->Q (.x 0) j):CP (k+2) 737 [.d Z.p, .z s, .x n, .x m] E Q H:=by
 have o:=hp;skip;refine L.1 (n:=7374) rfl rfl<|bz<|cF (Q:=λvs H=>∀a,H a=ag->CP (k+1) 632 (.d a::vs) _ (λr H=>r= .f/\_) _) (vs:=[.z s, .x Li]) ((.u (.J rfl)<|.u (.ao (.J rfl)<|.b o rfl) .I)) λa g=>J7 L aQ λw il N A C B=>⟨rfl,?_⟩;have M:Fr [] H w:=λx d e z=>N x d (gG e g)<|dh g e;have l:H il=none:=by cases e:H il with| none=>rfl| some d=>rw [dh g e] at A;exact hU A
 refine jT (.J rfl)<|mO (.J rfl) C ?_;have p:il≠a:=fT B C rfl;have y:Fr [] H (w.J a<|.b 635 [aa<|.z s,aa<|.x Li,aa<|.x (-1),aa<|.x n,aa<|.x 0,aa .f,aa<|.d il]):=λx d e s=>gc (gG e g)<|M x d e s;have J:=aQ (H:=w) (a:=a) (c:= .b 635 [aa<|.z s,aa<|.x Li,aa<|.x (-1),aa<|.x n,aa<|.x 0,aa .f,aa<|.d il]);have F:=gc (d:= .b 635 [aa<|.z s,aa<|.x Li,aa<|.x (-1),aa<|.x n,aa<|.x 0,aa .f,aa<|.d il]) p B;have i:=c.U y rfl;have h:=y _ _ hp rfl;have x:jV _ b ⟨s,Li,fn,0,ag,[]⟩ a il:=⟨(b7 (-1) n J (λe=>absurd e ho) u),F,trivial,trivial⟩;refine dB<|jt ((.ao (.J rfl)<|.b h rfl)) (.J rfl) i.6 (by rw [yW,bB];skip;exact aD (.e (.v 0)<|.n 16777216) (.I (.v 0)<|.n 1000000) rfl [] [_] hl) ?_;have I:=i.nY x<|c.I g l;have f:=cH (d:= .u 16<|(fas.map λx=>V.d x.1).reverse++[.d a]) i.6 h rfl;refine cZ (.J rfl) rfl f λK G D=>aY .e<|q K a il (((y.U rfl).u<|.J i.6 rfl).u<|D.J f rfl) G<|I.U (D.J f (S:=[1843]) rfl) rfl
end
theorem qN [DecidableEq c]:∀{l:List (c×d)},l.lookup s=aa n->(s,n)∈l:=by
 intro f;induction f with
 | nil=>intro e;exact by exact a9 e
 | cons g l ih=>
  obtain⟨a,b⟩:=g;intro e;rw [gV] at e;by_cases q:s=a
  ·subst q;rw [beq_self_eq_true] at e;injection e with e;exact ae e cu
  ·replace e:=(beq_false_of_ne q)▸e;exact df _<|ih e
theorem AA [DecidableEq a] [DecidableEq b]{g:a->b}{h:a->V}{l:List a}{x:a}:(l.map g).Nodup->x∈l->dA (l.map λy=>(g y,h y)) (g x)=aa (h x):=by induction l with| nil=>exactλz m=>((dz m).elim)| cons y l ih=>exactλn m=>gV.trans<|(dH.mp m).elim (λe=>ae e<|ae (beq_self_eq_true _) rfl) λm=>ae (beq_false_of_ne λq=>(la.mp n).1<|gi.mpr<|aM x m q)<|ih (la.mp n).2 m
theorem vN [DecidableEq a]{g:b->a}{h:b->V}{s:a}{d:List b}:(∀r∈d,g r≠s)->dA (d.map λr=>(g r,h r)) s=none:=by induction d with| nil=>exactλz=>rfl| cons r d ih=>exactλn=>gV.trans<|ae (beq_false_of_ne (n r cu).symm)<|ih λx c=>n x<|df _ c
theorem Kc{l:List (Str×Int)}(h:l.lookup s=ag):∀x∈l,x.1≠s:=λx a e=>by
 subst e
 have:l.lookup x.1≠none:=by
  clear h;induction l with
  | nil=>cases a
  | cons y l ih=>
   refine ae (show y=(y.1,y.2) from rfl)<|ae gV ?_;by_cases q:x.1=y.1
   ·rw [q,beq_self_eq_true];exactλe=>hU e
   ·exact ae (beq_false_of_ne q)<|ih<|(dH.mp a).resolve_left λz=>q<|ae z rfl
 exact this h
theorem Kd{l:List c}:(l.map g).Nodup->∀{x y},x∈l->y∈l->g x=g y->x=y:=by
 induction l with
 | nil=>exactλz z z m=>((dz m).elim)
 | cons z l ih=>
  exactλn x y b a e=>(dH.mp b).elim
   (λq=>(dH.mp a).elim (λf=>q.trans f.symm) λa=>absurd (gi.mpr<|aM y a<|e.symm.trans<|congrArg g q) (la.mp n).1)
   λb=>(dH.mp a).elim (λq=>absurd (gi.mpr<|aM x b<|e.trans<|congrArg g q) (la.mp n).1) λa=>ih (la.mp n).2 b a e
theorem X9{v:VS}(W:v.a){s:Str}{n:Int}(m:(s,n)∈v.J):gJ (vC v) n (.x<|v.e.count s+1)=vC ⟨v.J,v.e++[s],v.nx⟩:=by
 have g:dA (vC v) n=aa (.x<|v.e.count s):=AA (g:=λx:Str×Int=>x.2) (h:=λx=> .x<|v.e.count x.1) W.2 m;delta gJ;refine ae (if_pos<|ae g rfl) ?_;skip;refine ae rq<|pV λx a=>((ae MO<|ae MP ?_):(if x.2=n then(x.2,V.x<|v.e.count s+1) else(x.2,V.x<|v.e.count x.1))=(x.2,V.x<|(v.e++[s]).count x.1));by_cases e:x.2=n
 ·have:=Kd W.2 a m e;subst this;rw [if_pos rfl,beq_self_eq_true];rfl
 ·rw [if_neg e,if_neg λq=>e ?_]
  ·rfl
  ·have:=Kd W.1 a m (beq_iff_eq.mp q).symm;exact ae this rfl
theorem X0{v:VS}(W:v.a){s:Str}(h:∀x∈v.J,x.1≠s):v.e.count s=0:=List.count_eq_zero.mpr λm=>by exact au (gi.mp<|W.5 s m) λx a e=>h x a e
theorem X8{v:VS}(W:v.a){s:Str}(h:∀x∈v.J,x.1≠s):gJ (vC v) v.nx (.x 1)=vC ⟨v.J++[(s,v.nx)],v.e++[s],v.nx+1⟩:=by
 have g:dA (vC v) v.nx=none:=vN (g:=λx:Str×Int=>x.2) λx a e=>by have:=W.3 x a;exact bJ .a (.U (.v 0)<|.v 1) (.J (.v 0)<|.v 1) rfl [_,_] [] this e
 unfold gJ;refine ae g<|ae (if_neg λe=>nomatch e) ?_;unfold vC;rw [ed,yX,MO,X0 W h,MP,beq_self_eq_true];congr 1;exact pV λx a=>ae MO<|ae MP<|ae (if_neg λq=>h x a (beq_iff_eq.mp q).symm) rfl
theorem VS.nW.J{v v':VS}{s:Str}{n:Int}(h:v.nW s v' n)(W:v.a):v'.a:=by
 cases h with
 | a h e=>
  refine⟨W.1,W.2,W.3,W.4,λx b=>(cO (fG.mp b) (λq=>?_) λq=>?_)⟩
  ·exact W.5 x q
  ·exact ae (d5.mp q)<|gi.mpr ⟨_,qN e,rfl⟩
 | aT h e=>
  have f:=Kc e;refine⟨?_,?_,λx b=>?_,λx b=>?_,λx b=>?_⟩
  ·refine ae ed ?_;exact Ag W.1 λm=>by refine au (gi.mp m) λx b e=>?_;exact f x b e
  ·refine ae ed ?_;exact Ag W.2 λm=>by refine au (gi.mp m) λx b e=>?_;have:=W.3 x b;have e:x.2=v.nx:=e;exact bJ .a (.U (.v 0)<|.v 1) (.J (.v 0)<|.v 1) rfl [_,_] [] this e
  ·refine cO (fG.mp b) (λq=>?_) (λq=>?_)
   ·have:=W.3 x q;skip;exact aD (.U (.v 0)<|.a (.v 1)<|.n 1) (.U (.v 0)<|.v 1) rfl [_,_] [] this
   ·refine ae (d5.mp q) ?_;skip;exact cP (.U (.v 0)<|.a (.v 0)<|.n 1) rfl [] [_]
  ·refine cO (fG.mp b) (λq=>?_) (λq=>?_)
   ·exact W.4 x q
   ·exact ae (d5.mp q) h
  ·skip;refine ae ed<|cO (fG.mp b) (λq=>?_) λq=>?_
   ·exact lh _<|W.5 x q
   ·exact ma _ q
 | p=>exact⟨W.1,W.2,λx b=>by have:=W.3 x b;skip;exact aD (.U (.v 0)<|.a (.v 1)<|.n 1) (.U (.v 0)<|.v 1) rfl [_,_] [] this,W.4,W.5⟩
section
variable {Z:PZ} {b:Bk} {pl:Nat} {Li:Int} {t:Option Tm} {pr:Int} {fr:List cI} {fas:List (Nat×Nat)} {v v':VS} (hp:H Z.p=aa (bc Z b pl Li t pr v.nx)) (c:b8 H Z b fr fas v)
include L hp c
theorem X7{s:Str}{n:Int}(U:v.nW s v' n)(hl:v.J.length<=1000000)(q:∀y,Fr [1843,17,18,19] H y->y Z.p=aa (bc Z b pl Li t pr v'.nx)->b8 y Z b fr fas v'->Q (tv b<|.d n) y):CP (k+2) 772 [.d Z.p, .z s] E Q H:=by
 have B:=U.J c.11;have l:∀{M:Type} (g:Str×Int->M),(v.J.map g).length<cE:=λg=>by rw [bB];exact eX hl (by decide)
 skip;refine L.1 (n:=7722) rfl rfl ?_;have i:=cg.c (H:=H)<|.I<|.s (k:=s) c.8;cases U with
 | a h e=>have m:=qN e;have g:dA (vD v) s=aa (.x n):=AA (g:=λx:Str×Int=>x.1) (h:=λx=> .x x.2) c.11.1 m;have N:dA (vC v) n=aa (.x<|v.e.count s):=AA (g:=λx:Str×Int=>x.2) (h:=λx=> .x<|v.e.count x.1) c.11.2 m;have o:=kn (H:=H) (a:=s) (b:=eE);rw [beq_false_of_ne h] at o;replace i:=g▸i;have O:fH H Z.J (.z s) (aa<|.x n):=g▸ .s c.8;have P:fH H Z.cd (.x n) (aa<|.x<|v.e.count s):=N▸ .i c.10;refine cY (.aB<|.cB (.ah (.U (.J rfl) .e o) .e)<|.cB (.ah (.U (.J rfl) ((.ao (.J rfl)<|.b hp rfl)) i) .e) .gm)<|bQ (.ak ((.ao (.J rfl)<|.b hp rfl)) (.J rfl)<|.I O)<|jT (v:= .x<|v.e.count s+1) (.aS (.ak ((.ao (.J rfl)<|.b hp rfl)) (.J rfl)<|.I P) .e<|.x .J)<|mP ((.ao (.J rfl)<|.b hp rfl)) (.J rfl) (.i c.10<|l _)<|cC<|bV (aC rfl)<|DK L ?_;have F:Fr [19] H (H.J Z.cd<|.e 19<|gJ (vC v) n<|.x<|v.e.count s+1):= .J c.10 rfl;rw [X9 c.11 m] at F⊢;exact q _ (F.U rfl) (F _ _ hp rfl) ⟨c.1.J F rfl,c.2,c.3.J F rfl,c.4,F _ _ c.5 rfl,F _ _ c.6 rfl,c.7.J (.I _) F rfl,F _ _ c.8 rfl,F _ _ c.9 rfl,aQ,B⟩
 | aT h e=>
  have f:=Kc e;have g:dA (vD v) s=none:=vN (g:=λx:Str×Int=>x.1) f;have o:=kn (H:=H) (a:=s) (b:=eE);rw [beq_false_of_ne h] at o;replace i:=g▸i;refine cz (.aB<|.cB (.ah (.U (.J rfl) .e o) .e)<|.dJ (d:=af)<|.ah (.U (.J rfl) ((.ao (.J rfl)<|.b hp rfl)) i) .e)<|bQ (v:= .x v.nx) ((.ao (.J rfl)<|.b hp rfl))<|cZ (v:= .x<|v.nx+1) ((bH rfl)) rfl hp λj r D=>?_;have w:Fr [1843] H j:=D.J hp rfl;have k1:=c.U w rfl;have u:=kn (H:=j) (a:=s) (b:=eE);rw [beq_false_of_ne h] at u;refine cY (.ah (.U (.J rfl) .e u) .e)<|jT (.J rfl)<|mP ((.ao (.J rfl)<|.b r rfl)) (.J rfl) (.s k1.8 (l _) g) ?_;have A:Fr [17] j (j.J Z.J<|.a 17<|vD v++[(s, .x v.nx)]):= .J k1.8 rfl;have J:=A _ _ r rfl;have K:=A _ _ k1.10 rfl;refine jT .e<|mP ((.ao (.J rfl)<|.b J rfl)) (.J rfl) (.i K<|l _) ?_;have z:Fr [19] (j.J Z.J<|.a 17<|vD v++[(s, .x v.nx)]) ((j.J Z.J<|.a 17<|vD v++[(s, .x v.nx)]).J Z.cd<|.e 19<|gJ (vC v) v.nx<|.x 1):= .J K rfl;have h3:=z _ _ J rfl;have I:=z _ _ (A _ _ k1.9 rfl) rfl;refine dB<|jt ((.ao (.J rfl)<|.b h3 rfl)) (v:= .U [.z s, .x v.nx]) ((bH rfl)) I (l _)<|bj<|cC<|bV (aC rfl)<|DK L ?_;have C:Fr [18] _ (((j.J Z.J<|.a 17<|vD v++[(s, .x v.nx)]).J Z.cd<|.e 19<|gJ (vC v) v.nx<|.x 1).J Z.nl<|.u 18<|vL v++[.U [.z s, .x v.nx]]):= .J I rfl;have G:Fr [17,18,19] j _:=((A.U rfl).u<|z.U rfl).u<|C.U rfl;refine q _ ((w.U rfl).u<|G.U rfl) (G _ _ r rfl) ⟨k1.1.J G rfl,k1.2,k1.3.J G rfl,k1.4,G _ _ k1.5 rfl,G _ _ k1.6 rfl,k1.7.J (.I _) G rfl,?_,?_,?_,B⟩
  ·refine(C _ _ (z _ _ aQ rfl) rfl).trans ?_;unfold vD;exact ae ed rfl
  ·refine aQ.trans ?_;unfold vL;exact ae ed rfl
  ·exact(C _ _ aQ rfl).trans<|ae (X8 c.11 f) rfl
 | p=>have o:=kn (H:=H) (a:=eE) (b:=eE);rw [beq_self_eq_true] at o;refine cz (.aB<|.dJ (d:=af)<|.ah (.U (.J rfl) .e o) .e)<|bQ (v:= .x v.nx) ((.ao (.J rfl)<|.b hp rfl))<|cZ (v:= .x<|v.nx+1) ((bH rfl)) rfl hp λj r D=>?_;have w:Fr [1843] H j:=D.J hp rfl;have u:=kn (H:=j) (a:=eE) (b:=eE);rw [beq_self_eq_true] at u;have k1:=c.U w rfl;exact cz (.ah (.U (.J rfl) .e u) .e)<|cC<|bV (aC rfl)<|DK L<|q j (w.U rfl) r ⟨k1.1,k1.2,k1.3,k1.4,k1.5,k1.6,k1.7,k1.8,k1.9,k1.10,B⟩
end
noncomputable def bf(T:bS):cX where
 bp s:=(bK T.bp s).map λe=>(e.1,(de e.1 e.2).2)
 aZ s:=(bK T.aZ s).map λe=>(e.1,(de e.1 e.2).1,(de e.1 e.2).2)
 bD s:=(bK T.bD s).map λe=>(e.1,(de e.1 e.2).1)
noncomputable def oq(e:Option ct)(L p:Int):Bool:=match e with | none=>ai | some e=>dS (e.1<=L)&&dS (p<=(de e.1 e.2).1)
theorem Ya{T:bS}{a:Str}{L p:Int}(n:¬kT (bf T) a L p):oq (bK T.aZ a) L p=ai/\oq (bK T.bD a) L p=false:=by
 have b:∀(e:Option ct),(∀x,e=aa x->¬(x.1<=L/\p<=(de x.1 x.2).1))->oq e L p=false:=λe h=>by induction e with| none=>rfl| some x=>have:=h x rfl;refine(?_:(dS (x.1<=L)&&dS (p<=(de x.1 x.2).1))=ai);rw [<-Bool.decide_and];exact decide_eq_false this
 refine⟨b _ λx e z=>ay z λd c=>n<|.inl<|mj x.1 ((de x.1 x.2).1) ((de x.1 x.2).2) ?_ d c,b _ λx e z=>ay z λd c=>n<|.inr<|b7 x.1 ((de x.1 x.2).1) ?_ d c⟩
 ·exact((ae e rfl):(bK T.aZ a).map _=_)
 ·exact((ae e rfl):(bK T.bD a).map _=_)
theorem AD{T:bS}{a:Str}{q x y:Int}(h:(bf T).aZ a=aa (q,x,y)):∃e,bK T.aZ a=aa e/\q=e.1/\x=(de e.1 e.2).1/\y=(de e.1 e.2).2:=by have h:(bK T.aZ a).map _=_:=h;refine au (oG.mp h) λe c b=>?_;obtain rfl:=(dI b).1;obtain rfl:=(dI (dI b).2).1;obtain rfl:=(dI (dI b).2).2;exact(iQ e c rfl rfl rfl)
theorem D4{T:bS}{a:Str}{q x:Int}(h:(bf T).bD a=aa (q,x)):∃e,bK T.bD a=aa e/\q=e.1/\x=(de e.1 e.2).1:=by have h:(bK T.bD a).map _=_:=h;refine au (oG.mp h) λe c b=>?_;obtain rfl:=(dI b).1;obtain rfl:=(dI b).2;exact(bT e c rfl rfl)
theorem Yb{T:bS}{a:Str}(h:(bf T).aZ a=ag):bK T.aZ a=none:=Bm.mp (show(bK T.aZ a).map _=ag from h)
noncomputable def qO(b:Bk)(t:aE)(n:Int):Prop:=match t.J with | some a=>a∈b.U/\n=b.e a | none=>n= -1
section
variable {Z:PZ} {b:Bk} {pl:Nat} {Li:Int} {t:Option Tm} {pr nx:Int} {fr:List cI} {fas:List (Nat×Nat)} {v:VS} (hp:H Z.p=aa (bc Z b pl Li t pr nx)) (c:b8 H Z b fr fas v)
include L hp c
theorem Ke(A:∀s,dP x s->s∈cy)(q:∀r o n,Fr gR H r->cJ r Z.A o->b.I o->qO o x n->Q (.x n) r):CP (k+2) 784 [.d Z.p,aR p x] E Q H:=by
 unfold bc at hp;rw [pz];refine L.1 (n:=7842) rfl rfl ?_;have nm:(∃s,dP x s)\/((dg x==fS)=ai/\(dg x==kR)=ai):=by induction x<;>first | exact .inl ⟨_, .u⟩ | exact .inl ⟨_, .f⟩ | exact .inr ⟨rfl,rfl⟩
 rcases nm with ⟨s,l⟩ | ⟨u,t⟩
 ·have e:D1 x= .z s:=by induction l<;>rfl
  have m:(dg x==fS)=af\/(dg x==fS)=ai/\(dg x==kR)=true:=by induction l<;>first | exact .inl rfl | exact .inr ⟨rfl,rfl⟩
  have f:=cj (H:=H) (a:=dg x) (b:=fS);have i:=cj (H:=H) (a:=dg x) (b:=kR);refine ae e ?_
  have C:fE H (iF ([.d Z.p, .U [.z<|dg x, .z s, .x p]]++[]) 0) (.cQ<|.u (.ah<|.U (.ak (.J 1)<|.e<|.x 0) .Eq<|.e<|.z fS)<|.u (.ah<|.U (.ak (.J 1)<|.e<|.x 0) .Eq<|.e<|.z kR) .I) true:=by
   rcases m with m | ⟨z,w⟩
   ·replace f:=m▸f;exact .cQ<|.dJ (d:=ai)<|.ah (.U ((.ak (.J rfl) .e<|.U rfl rfl)) .e f) .e
   ·replace f:=z▸f;replace i:=w▸i;exact .cQ<|.cB (.ah (.U ((.ak (.J rfl) .e<|.U rfl rfl)) .e f) .e)<|.dJ (d:=ai)<|.ah (.U ((.ak (.J rfl) .e<|.U rfl rfl)) .e i) .e
  refine cY C<|cC<|a7 ((.ao (.J rfl)<|.b hp rfl)) c.1.1 (vs:=[.z s]) ((.u (.ak (.J rfl) .e<|.U rfl rfl) .I))<|qC L c.1 (A s l) λD F B=>q D _ _ F B (b.lV s) ?_;unfold qO;exact ae (Jc l) ⟨b.pn s,rfl⟩
 ·have f:=cj (H:=H) (a:=dg x) (b:=fS);have i:=cj (H:=H) (a:=dg x) (b:=kR);replace f:=u▸f;replace i:=t▸i;refine cz (.cQ<|.cB (.ah (.U ((.ak (.J rfl) .e<|.U rfl rfl)) .e f) .e)<|.cB (.ah (.U ((.ak (.J rfl) .e<|.U rfl rfl)) .e i) .e) .gm) ?_;rw [<-pz];refine di<|cD<|bV (vs:=[aR p x, .z bZ]) ((aC rfl))<|pA L<|bT _ .e (λh=>?_) λh=>?_
  ·refine aY (v:= .x 7) .e (q H b 7 .I c.1 (.I _) ?_);rcases pC x with ⟨y,rfl⟩ | j
   ·have h:(y==bZ)=true:=h;have:=rE h;subst this;exact⟨(mR c.2).2.2.1,ae ((k0 c.2).2.2.1) rfl⟩
   ·rw [vM j] at h;exact bw h
  ·refine bj (di<|cD<|bV (vs:=[aR p x, .z cG]) ((aC rfl))<|pA L ⟨_, .e,λg=>?_,λg=>?_⟩)
   ·refine aY (v:= .x 8) .e (q H b 8 .I c.1 (.I _) ?_);rcases pC x with ⟨y,rfl⟩ | j
    ·have h:(y==cG)=true:=g;have:=rE h;subst this;exact⟨(mR c.2).2.2.2.1,ae ((k0 c.2).2.2.2.1) rfl⟩
    ·rw [vM j] at g;exact bw g
   ·refine bj (aY (v:= .x (-1)) ((bH rfl))<|q H b (-1) .I c.1 (.I _) ?_);unfold qO;rcases pC x with ⟨y,rfl⟩ | j
    ·have h:(y==bZ)=false:=h;have g:(y==cG)=false:=g;have:(aE.a y).J=none:=if_neg (by unfold b9;exact ae h<|ae g gp);exact ae this rfl
    ·induction x<;>first | rfl | exact absurd rfl (j _) | exact bC (show af=ai from u) | exact bC (show af=ai from t)
omit c in
theorem AB(q:Q (.e<|oq e Li pr) H):CP (k+2) 798 [.d Z.p,oV e] E Q H:=by
 unfold bc at hp;refine L.1 (n:=7982) rfl rfl ?_;induction e with
 | none=>exact cY (.cQ<|.dJ (d:=ai)<|.ah (.U (.J rfl) .e .d) .e)<|aY .e q
 | some e=>
  have f:=cg.j (H:=H) (a:=e.1) (b:=Li);have c:Q (.e<|dS (e.1<=Li)&&dS (pr<=(de e.1 e.2).1)) H:=q;by_cases h:e.1<=Li
  ·rw [decide_eq_false<|by exact aD (.Nt (.v 0)<|.v 1) (.Le (.v 1)<|.v 0) rfl [_,_] [] h] at f;rw [decide_eq_true h,Bool.true_and] at c;exact cz (.cQ<|.cB (.ah (.U (.J (v:=eV e) rfl) .e .d) .e)<|.cB (.ah (.U (.ak (a:=eV e) (.J rfl) .e<|.U rfl rfl) (by exact(.ao (.J rfl)<|.b hp rfl)) f) .e) .gm)<|cC<|gf<|aX (v:= .x pr) (by exact(.ao (.J rfl)<|.b hp rfl))<|mQ<|gQ<|cF (vs:=[.x e.1, .z e.2]) (.u (.ak (a:=eV e) (.J rfl) .e<|.U rfl rfl)<|.u (.ak (a:=eV e) (.J rfl) .e<|.U rfl rfl) .I)<|DD L<|aX .e<|yZ (.x (de e.1 e.2).1) (.U rfl rfl) _ .I c
  ·rw [decide_eq_true<|by exact aD (.U (.v 0)<|.v 1) (.Nl (.v 1)<|.v 0) rfl [_,_] [] h] at f;rw [decide_eq_false h,E8] at c;exact cY (.cQ<|.cB (.ah (.U (.J (v:=eV e) rfl) .e .d) .e)<|.dJ (d:=ai)<|.ah (.U (.ak (a:=eV e) (.J rfl) .e<|.U rfl rfl) ((.ao (.J rfl)<|.b hp rfl)) f) .e)<|aY .e c
end
noncomputable abbrev t8(s:Str)(n b a p:Int)(l:V)(il:Nat):cb:= .b 635 [aa<|.z s,aa<|.x n,aa<|.x b,aa<|.x a,aa<|.x p,aa l,aa<|.d il]
section
variable {Z:PZ} {b:Bk} {pl:Nat} {Li:Int} {t:Option Tm} {pr nx:Int} {fr:List cI} {fas:List (Nat×Nat)} {v:VS}
include L
theorem Kg(e:mM H ρ xs [.z s, .x n])(q:∀b a il,Fr [] H b->H a=ag->H il=ag->b a=aa (t8 s n (-1) (-1) 0 .f il)->b il=aa (.u 15 [])->Q (.d a) b):aK (CP<|k+1) (.aT 635 632 7 xs) ρ E Q H:=
 cF (Q:=λg H=>∀a,H a=ag->CP (k+1) 632 (.d a::g) E (λr H=>r= .f/\Q (.d a) H) (H.J a (.b 635 (oF 7 ag)))) e λa c=>J7 L aQ λb il j f i h=>⟨rfl,q b a il (λx d e z=>j x d (gG e c) (dh c e)) c (by
  cases e:H il with
  | none=>rfl
  | some d=>rw [dh c e] at f;exact hU f) i h⟩
variable (hp:H Z.p=aa (bc Z b pl Li t pr nx)) (c:b8 H Z b fr fas v)
include hp c
theorem Kf(m:s∈b.U)(n:oq (bK Z.T.aZ s) Li pr=ai)(q:Q (.e ai) H):CP (k+3) 805 [.d Z.p, .x<|b.e s] E Q H:=by have a:=hp;unfold bc at hp;exact L.1 (n:=8052) rfl rfl<|bz<|a7 ((.ao (.J rfl)<|.b a rfl)) c.3.1 (vs:=[.x<|b.e s]) ((aC rfl))<|DM L c.3 c.4 m<|di<|tZ<|cD<|a7 (.J rfl) hp (aC rfl)<|AB L a<|bT _ .e (λz=>aY .e q) λe=>(by replace e:=n▸e;exact bC e)
theorem Yc(m:s∈b.U)(n:oq (bK Z.T.bD s) Li pr=ai)(q:Q (.e ai) H):CP (k+3) 812 [.d Z.p, .x<|b.e s] E Q H:=by have a:=hp;unfold bc at hp;exact L.1 (n:=8122) rfl rfl<|bz<|a7 ((.ao (.J rfl)<|.b a rfl)) c.3.1 (vs:=[.x<|b.e s]) ((aC rfl))<|DN L c.3 c.4 m<|di<|tZ<|cD<|a7 (.J rfl) hp (aC rfl)<|AB L a<|bT _ .e (λz=>aY .e q) λe=>(by replace e:=n▸e;exact bC e)
theorem Yd(J:t=aa x)(hi:x.e b)(m:s∈b.U)(K:bK Z.T.bD s=aa e)(n:oq (aa e) Li pr=af)(hd:Z.aB.drop pl=(tok,p)::r)(hl:Z.aB.length<=1000000)
 (q:∀j i,Fr [1,2,3,4,1843] H j->b.I i->j Z.p=aa (bc Z i (pl+1) Li (aa<|.U s [x]) e.1 nx)->b8 j Z i fr fas v->(Tm.U s [x]).e i->Q (.e af) j):CP (k+3) 812 [.d Z.p, .x<|b.e s] E Q H:=by
 subst J;have d:=hp;skip;refine L.1 (n:=8122) rfl rfl<|bz<|a7 ((.ao (.J rfl)<|.b d rfl)) c.3.1 (vs:=[.x<|b.e s]) ((aC rfl))<|DN L c.3 c.4 m<|ae K<|di<|tZ<|cD<|a7 (.J rfl) hp (aC rfl)<|AB L d<|bT _ .e (λw=>(by replace w:=n▸w;exact bw w)) λy=>dB<|a7 (.J rfl) hp .I<|qM L d c hd hl λO R u=>?_;have G:Fr [1843] H O:=R.J hp rfl;have h:=c.U G rfl;have g:=u;skip;refine dB<|jL (.J rfl) u<|bx<|gQ<|bx<|a7 ((.ao (.J rfl)<|.b g rfl)) h.1.1 (vs:=[.x<|b.e s, .x (1:Nat)]) ((aC rfl))<|yc L (x:=(b.e s,1)) h.1 ⟨Bk.yb h.1.6 m,(by decide:(1:Nat)<10)⟩ λD l N=>?_;have f:=b.x9 (b.e s,1);have B:=l _ _ u rfl;have A:(b.u (b.e s,1)).e s=b.e s:=i8 f m;have M:(b.u (b.e s,1)).kr (b.e s,1)=(b.u (b.e s,1)).fn s 1:=by unfold Bk.fn;exact ae A rfl
 have o:=kW f x hi;refine cF (vs:=[.U [tv b x]]) ((.u (.ax<|.u (.ao (.J rfl)<|.b B rfl) .I) .I))<|yd L<|cF (vs:=[.x e.1]) (.u (.ak (a:=eV e) (.J rfl) .e<|.U rfl rfl) .I) ?_;have z:=pB L (k:=k+1) (E:=E) (x:= .U s [x]) (n:=e.1) (Z:=Z) (b:=b.u (b.e s,1)) (pl:=pl+1) (Li:=Li) (t:=aa x) (pr:=pr) (nx:=nx) (H:=D) (Q:=λy H=>aw (CP<|k+2) (.u (.e<|.e<|.e af) .I) (List.set (iF ([.d Z.p, .x<|b.e s]++[]) 1) 2<|aa<|eV e) (.e E Q) H);have I:bc Z (b.u (b.e s,1)) (pl+1) Li (aa x) pr nx=bc Z b (pl+1) Li (aa x) pr nx:=by unfold bc;exact ae (show dG (b.u (b.e s,1)) (aa x)=dG b (aa x) from o.2) rfl
 replace z:=I▸z;have z:=z (l _ _ g rfl) λC P h3=>by have F:Fr [1843] D C:=P.J B rfl;exact aY .e<|q C _ (((G.U rfl).u<|l.U rfl).u<|F.U rfl) f h3 ((h.u l N f).U F rfl) ⟨f.1.subset m,by refine ae A ?_;exact b.ya _,o.1,trivial⟩
 skip;exact ae M<|ae o.2.symm z
end
section
variable {Z:PZ} {b:Bk} {pl:Nat} {Li:Int} {t:Option Tm} {pr nx:Int} {fr:List cI} {fas:List (Nat×Nat)} {v:VS} (hp:H Z.p=aa (bc Z b pl Li t pr nx)) (c:b8 H Z b fr fas v)
include L hp c
omit L hp c in
theorem yi(c:b.I a)(i:iu b t):bc Z a pl Li t pr nx=bc Z b pl Li t pr nx:=by unfold bc;exact ae ((qL c i).1) rfl
theorem Ye(ht:t=aa x)(hi:x.e b)(m:s∈b.U)(he:bK Z.T.aZ s=aa e)(n:oq (aa e) Li pr=af)(hd:Z.aB.drop pl=(tok,p)::r)(hl:Z.aB.length<=1000000)(hf:fas.length<=1000000)
 (q:∀D C a il,Fr [1,2,3,4,16,1843] H D->b.I C->D Z.p=aa (bc Z C (pl+1) (de e.1 e.2).2 (aa x) pr nx)->b8 D Z C (⟨fm,Li,s,e.1,aa x,[]⟩::fr) ((a,il)::fas) v->x.e C->Q (.e af) D):CP (k+3) 805 [.d Z.p, .x<|b.e s] E Q H:=by
 subst ht;have g:=hp;skip;refine L.1 (n:=8052) rfl rfl<|bz<|a7 ((.ao (.J rfl)<|.b g rfl)) c.3.1 (vs:=[.x<|b.e s]) ((aC rfl))<|DM L c.3 c.4 m<|ae he<|di<|tZ<|cD<|a7 (.J rfl) hp (aC rfl)<|AB L g<|bT _ .e (λJ=>(by replace J:=n▸J;exact bw J)) λz=>dB<|a7 (.J rfl) hp .I<|qM L g c hd hl λH1 B1 h1=>?_;have F1:Fr [1843] H H1:=B1.J hp rfl;have K:=c.U F1 rfl;skip;refine bz<|Kg L (s:=fm) (n:=Li) ((.u .e<|.u (.ao (.J rfl)<|.b h1 rfl) .I)) λH2 a il O P ni ha I=>?_;have Y:=O _ _ h1 rfl;have B:=K.U O rfl;refine qz<|a7 ((.ao (.J rfl)<|.b Y rfl)) B.1.1 (vs:=[.x<|b.e s, .x (2:Nat)]) ((aC rfl))<|yc L (x:=(b.e s,2)) B.1 ⟨Bk.yb B.1.6 m,(by decide:(2:Nat)<10)⟩ λN u b3=>?_;have f:=b.x9 (b.e s,2);have R:(b.u (b.e s,2)).e s=b.e s:=i8 f m;have fe:(b.u (b.e s,2)).kr (b.e s,2)=(b.u (b.e s,2)).fn s 2:=by unfold Bk.fn;exact ae R rfl
 have G:=kW f x hi;have h3:=u _ _ Y rfl;have l:=u _ _ ha rfl;have T:=u _ _ I rfl;have c3:=B.u u b3 f;refine mO (.J rfl) l<|jT (v:= .x e.1) (.ak (a:=eV e) (.J rfl) .e<|.U rfl rfl)<|mO (.J rfl) aQ ?_;generalize U:(N.J a _).J a _=M;have e4:M a=aa (t8 fm Li ((b.u (b.e s,2)).kr (b.e s,2)) (-1) e.1 .f il):=by exact ae U.symm aQ
 have B4:dQ a N M:=λy d i h=>by exact ae U.symm<|gc i<|gc i h
 have h4:=B4 _ _ (fT h3 l rfl) h3;refine jT (v:=tv b x) ((.ao (.J rfl)<|.b h4 rfl))<|mO (.J rfl) e4 ?_;generalize j:M.J a _=o;have e5:o a=aa (t8 fm Li ((b.u (b.e s,2)).kr (b.e s,2)) (-1) e.1 (tv b x) il):=by exact ae j.symm aQ
 have F:dQ a N o:=λy d i h=>by exact ae j.symm<|gc i<|B4 y d i h
 have X:=F _ _ (fT h3 l rfl) h3;have i5:=F _ _ (fT T l rfl) T;have w:Fr gR H1 o:=λy d h s=>F y d (gG h P)<|u _ _ (O y d h rfl) s;have A:=K.u w (b3.J (F.J l (S:=[1635]) rfl) rfl) f;have fx:jV o (b.u (b.e s,2)) ⟨fm,Li,s,e.1,aa x,[]⟩ a il:=by refine⟨⟨((b.u (b.e s,2)).kr (b.e s,2):Int), -1,?_,λz=>⟨f.1.subset m,by refine ae R ?_;exact b.ya _,congrArg gS fe⟩,λe=>absurd e (by decide:fm≠ic)⟩,i5,trivial,G.1⟩;exact ae (show dG (b.u (b.e s,2)) (aa x)=tv b x from G.2) e5
 refine dB<|jt ((.ao (.J rfl)<|.b X rfl)) (.J rfl) A.6 (by rw [yW,bB];skip;exact aD (.e (.v 0)<|.n 16777216) (.I (.v 0)<|.n 1000000) rfl [] [_] hf) ?_;have c6:=A.nY fx<|K.I P ni;have W:=cH (d:= .u 16<|(fas.map λx=>V.d x.1).reverse++[.d a]) A.6 X rfl;refine qz<|mQ<|gQ<|cF (vs:=[.x e.1, .z e.2]) (.u (.ak (a:=eV e) (.J rfl) .e<|.U rfl rfl)<|.u (.ak (a:=eV e) (.J rfl) .e<|.U rfl rfl) .I)<|DD L<|aX .e ⟨.x (de e.1 e.2).2, .U rfl rfl,mO (.J rfl) W<|aY .e ?_⟩;have F6:Fr [1843] (o.J Z.e<|.u 16<|(fas.map λx=>V.d x.1).reverse++[.d a]) _:= .J (c:= .b 843<|[aa<|.d Z.A.b,aa<|.d Z.O.o,aa<|.z kf,aa<|.d Z.U,aa<|.x ((pl+1:Nat):Int),aa<|.d Z.e,aa<|.x (de e.1 e.2).2,aa<|dG b<|aa x,aa<|.x pr,aa<|.d Z.J,aa<|.d Z.nl,aa<|.d Z.cd,aa<|.x nx]) W rfl;exact q _ _ a il (((F1.U rfl).u<|w.U rfl).u ((Fr.J A.6 rfl:Fr [16] _ _).U rfl)|>.u (F6.U rfl)) f (ae (yi (t:=aa x) f hi) aQ) (c6.U F6 rfl) G.1
end
section
variable {Z:PZ} {b:Bk} {pl:Nat} {Li:Int} {x:Tm} {pr nx:Int} {f:cI} {fr:List cI} {a il:Nat} {fas:List (Nat×Nat)} {v:VS}
 (hp:H Z.p=aa (bc Z b pl Li (aa x) pr nx)) (c:b8 H Z b (f::fr) ((a,il)::fas) v) (hi:x.e b)
include L hp c
theorem yj(hd:Z.aB.drop pl=(tok,p)::r)(hl:Z.aB.length<=1000000)
 (q:∀g,Fr [16,1843] H g->g Z.p=aa (bc Z b (pl+1) f.e (aa y) 0 nx)->b8 g Z b fr fas v->Q (.x 1) g):CP (k+2) 840 [.d Z.p,tv b y] E Q H:=by
 have i:=hp;skip;refine L.1 (n:=8402) rfl rfl<|dB<|a7 (.J rfl) hp .I<|qM L i c hd hl λj I m=>?_;have z:Fr [1843] H j:=I.J hp rfl;have a:=c.U z rfl;skip;refine gI a.nB λA h D=>bz<|vG ((.ao (.J rfl)<|.b m rfl)) (.nB a.6) .I h ?_;have l:=cH (d:= .u 16 (fas.map λx=>V.d x.1).reverse) a.6 m rfl;have w:Fr [16] j (j.J Z.e<|.u 16 (fas.map λx=>V.d x.1).reverse):= .J a.6 rfl;obtain⟨⟨K,J,e,_⟩,_⟩:=A;have C:=w _ _ e rfl;refine cZ (v:= .x f.e) ((.ao (.J rfl)<|.b C rfl)) rfl l λs h3 G=>?_;have u:Fr [1843] _ s:=G.J l rfl;refine cC<|a7 (.J rfl) h3 (vs:=[tv b y, .x 0]) ((aC rfl))<|pB L (x:=y) h3 λo F B=>?_;have t:Fr [1843] s o:=F.J h3 rfl;exact q o ((((z.U rfl).u<|w.U rfl).u<|u.U rfl).u<|t.U rfl) B<|(D.U u rfl).U t rfl
include hi
theorem Yf(I:f.k=fm)(q:∀m,Fr [16,1843] H m->m Z.p=aa (bc Z b pl f.e (aa<|f.I x) f.c nx)->b8 m Z b fr fas v->(f.I x).e b->Q .f m):CP (k+2) 819 [.d Z.p] E Q H:=by
 skip;refine gI c.nB λF r J=>L.1 (n:=8191) rfl rfl<|bz<|vG ((.ao (.J rfl)<|.b hp rfl)) (.nB c.6) .I r ?_;have p:Fr [16] H (H.J Z.e<|.u 16 (fas.map λx=>V.d x.1).reverse):= .J c.6 rfl;have z:=p _ _ hp rfl;obtain⟨⟨A,M,e,w,_⟩,_,_,j⟩:=F;refine gI (w I) λy l i=>?_;have B:=p _ _ e rfl;refine cZ (v:= .x f.e) ((.ao (.J rfl)<|.b B rfl)) rfl z λD a K=>?_;have o:Fr [1843] _ D:=K.J z rfl;have d:=o _ _ B rfl;have C:=J.U o rfl;cases hl:f.b with
 | none=>
  rw [hl] at l i d;have s:f.I x= .U f.fn [x]:=by unfold cI.I;exact ae hl rfl
  replace q:=s▸q;exact cY (.ah (.U ((.ao (.J rfl)<|.b d rfl)) .e .d) .e)<|dB<|jL (.J rfl) a<|bx<|bV (vs:=[.x A, .U [tv b x]]) ((.u (.ao (.J rfl)<|.b d rfl)<|.u (.ax<|.u (.ao (.J rfl)<|.b a rfl) .I) .I))<|yd L<|cF (vs:=[.x f.c]) ((.u (.ao (.J rfl)<|.b d rfl) .I))<|ae i<|pB L (x:= .U f.fn [x]) a λg h h3=>(bj (P:= .e E Q) (H:=g) (CP:=CP<|k+1) (ρ:=[])<|q g (((p.U rfl).u<|o.U rfl).u<|h.J a rfl) h3 (C.U (h.J a (S:=[1843]) rfl) rfl) ⟨y,l,hi,trivial⟩)
 | some u=>
  rw [hl] at l i d j;have s:f.I x= .U f.fn [u,x]:=by unfold cI.I;exact ae hl rfl
  replace q:=s▸q;have G:(tv b u).u=false:=by cases u<;>rfl
  have t:=cg.d (H:=D) (v:=tv b u);replace t:=G▸t;exact kj (.ah (.U (.ao (.J rfl)<|.b d rfl) .e t) .e)<|dB<|jL (.J rfl) a<|bx<|bV (vs:=[.x A, .U [tv b u,tv b x]]) ((.u (.ao (.J rfl)<|.b d rfl)<|.u (.ax<|.u (.ao (.J rfl)<|.b d rfl)<|.u (.ao (.J rfl)<|.b a rfl) .I) .I))<|yd L<|cF (vs:=[.x f.c]) ((.u (.ao (.J rfl)<|.b d rfl) .I))<|ae i<|pB L (x:= .U f.fn [u,x]) a λg h h3=>(bj (P:= .e E Q) (H:=g) (CP:=CP<|k+1) (ρ:=[])<|q g (((p.U rfl).u<|o.U rfl).u<|h.J a rfl) h3 (C.U (h.J a (S:=[1843]) rfl) rfl) ⟨y,l,j,hi,trivial⟩)
end
end
section
open PySem
theorem Kj(b:Bk)(l:List Tm)(x:Tm):eU b (l++[x])=eU b l++[tv b x]:=by rw [vJ,vJ,ed];rfl
theorem b8.Yg(c:b8 H Z b (f::fr) ((a,il)::fas) v)(k:∀y d,y≠a->y≠il->H y=aa d->j y=aa d)(x:jV j b f' a il):b8 j Z b (f'::fr) ((a,il)::fas) v:=by
 haveI F:Fr [15,1635] H j:=λy d e s=>by
  cases c.7 with
  | u x n t=>
   obtain⟨⟨A,r,q⟩,⟨p,h,g⟩⟩:=x.u;refine k y d (λz=>?_) (λz=>?_) e
   ·replace e:=r▸z▸e;injection e with e;rw [<-e,q] at s;exact bC s
   ·replace e:=h▸z▸e;injection e with e;rw [<-e,g] at s;exact bC s
 refine⟨c.1.J F rfl,c.2,c.3.J F rfl,c.4,F _ _ c.5 rfl,F _ _ c.6 rfl,?_,F _ _ c.8 rfl,F _ _ c.9 rfl,F _ _ c.10 rfl,c.11⟩;cases c.7 with
 | u o n t=>
  refine .u x n<|t.U (.I _) λy i=>⟨λd e=>?_,λd e=>?_⟩
  ·obtain⟨_,⟨p,h,g⟩⟩:=o.u;obtain⟨⟨w,m,l⟩,_⟩:=t.Au y i;exact k _ _ (n y i).1 (fT m h<|ae l<|ae g rfl) e
  ·obtain⟨⟨p,h,g⟩,_⟩:=o.u;obtain⟨_,⟨w,m,l⟩⟩:=t.Au y i;exact k _ _ (fT m h<|ae l<|ae g rfl) (n y i).2 e
section
variable {CP:Nat->List V->EP->QV->HP->Prop} {ρ:aA} {E:EP} {H:HP} {P:bA} {r:SL}
noncomputable def TB(CP:Nat->List V->EP->QV->HP->Prop)(ρ:aA)(E:EP)(H:HP)(t:B)(c:Bool):Prop:=∀K:Bool->HP->Prop,K c H->gz CP t ρ E K H
noncomputable def ku(CP:Nat->List V->EP->QV->HP->Prop)(ρ:aA)(E:EP)(H:HP)(d:Bool)(l:BL)(c:Bool):Prop:=∀K:Bool->HP->Prop,K c H->gZ CP l ρ E K d H
theorem aP.tb(e:fE H ρ t c):TB CP ρ E H t c:=λK q=>wb e q
theorem TB.aN(e:mM H ρ xs vs)(h:∀Q:QV,Q (.e b) H->CP f vs E Q H):TB CP ρ E H (.ah<|.aN f xs) b:=λK q=>cD<|bV e<|h _<|aM b .e q
theorem TB.I{o C f xs vs b a ws}(d:Ev H ρ o (.d a))(c:H a=aa (.b C ws))(e:mM H ρ xs vs)(h:∀Q:QV,Q (.e b) H->CP f (.d a::vs) E Q H):TB CP ρ E H (.ah<|.I o C f xs) b:=λK q=>cD<|a7 d c e<|h _<|aM b .e q
theorem ku.I{d}:ku CP ρ E H d .I d:=λK q=>q
theorem ku.n9(h:TB CP ρ E H t (!d)):ku CP ρ E H d (.u t l) (!d):=λK q=>fc<|h _ ⟨λe=>(by induction d<;>cases e),λz=>q⟩
theorem ku.go(h:TB CP ρ E H t d)(k:ku CP ρ E H d l c):ku CP ρ E H d (.u t l) c:=λK q=>fc<|h _ ⟨λz=>k K q,λe=>(by induction d<;>cases e)⟩
theorem ku.bo(h:TB CP ρ E H t b)(k:b=af->ku CP ρ E H af l c):ku CP ρ E H af (.u t l) (b&&c):=λK q=>fc<|h _ ⟨λe=>k e K (by rw [e] at q;exact q),λe=>by rw [e] at q⊢;exact q⟩
theorem ku.or(h:TB CP ρ E H t b)(k:b=ai->ku CP ρ E H ai l c):ku CP ρ E H ai (.u t l) (b||c):=λK q=>fc<|h _ ⟨λe=>k e K (by rw [e] at q;exact q),λe=>by rw [e] at q⊢;exact q⟩
theorem TB.aB(h:ku CP ρ E H af l c):TB CP ρ E H (.aB l) c:=λK q=>pk<|h K q
theorem TB.cQ(h:ku CP ρ E H ai l c):TB CP ρ E H (.cQ l) c:=λK q=>Af<|h K q
theorem yk(h:TB CP ρ (P.ex ρ) H t c)(q:c=af->aw CP a ρ {P with nx:=λρ H=>aw CP r ρ P H} H)(d:c=ai->aw CP b ρ {P with nx:=λρ H=>aw CP r ρ P H} H):aw CP (.u (.d t a b) r) ρ P H:=di<|h _ ⟨q,d⟩
theorem dV(h:TB CP ρ (P.ex ρ) H t ai)(q:aw CP r ρ P H):aw CP (.u (.d t a .I) r) ρ P H:=yk h (λe=>bw e) λz=>q
theorem lZ(h:TB CP ρ (P.ex ρ) H t af)(q:aw CP a ρ {P with nx:=λρ H=>aw CP r ρ P H} H):aw CP (.u (.d t a b) r) ρ P H:=yk h (λz=>q) λe=>bC e
end
section
variable {CP:Nat->Nat->List V->EP->QV->HP->Prop} (L:bX CP) {k:Nat} {E:EP} {Q:QV} {H:HP} {Z:PZ} {b:Bk} {pl:Nat} {Li:Int} {x:Tm} {pr nx:Int} {f:cI} {fr:List cI} {a il:Nat} {fas:List (Nat×Nat)} {v:VS}
include L
omit L in
theorem pD(h:ρ[i]?=aa (aa<|aR p tok)):fE H ρ (.ah<|.U (.ak (.J i)<|.e<|.x 0) .Eq<|.e<|.z s) (dg tok==s):=by rw [pz] at h;exact .ah (.U (.ak (.J h) .e<|.U rfl rfl) .e cj) .e
theorem Yh(o:fN H Z.O Z.A.b Z.I Z.T)(l:Z.I.I b)(m:s∈b.U)(h:ρ[i]?=aa (aa<|.x<|b.e s))(a:Ev H ρ (.ao (.J 0) 843 1) (.d Z.O.o)):TB (CP<|k+1) ρ E H (.ah<|.U (.I (.ao (.J 0) 843 1) 558 471<|.u (.J i) .I) .IsNot<|.e .f) (bK Z.T.aZ s).isSome:=λK q=>
 cD (gf<|a7 a o.1 (.u (.J h) .I)<|DM L o l m<|aX .e<|yZ _ .f _ .e<|by revert q;cases bK Z.T.aZ s<;>exact id)
theorem Yi(o:fN H Z.O Z.A.b Z.I Z.T)(l:Z.I.I b)(m:s∈b.U)(h:ρ[i]?=aa (aa<|.x<|b.e s))(a:Ev H ρ (.ao (.J 0) 843 1) (.d Z.O.o)):TB (CP<|k+1) ρ E H (.ah<|.U (.I (.ao (.J 0) 843 1) 558 478<|.u (.J i) .I) .IsNot<|.e .f) (bK Z.T.bD s).isSome:=λK q=>
 cD (gf<|a7 a o.1 (.u (.J h) .I)<|DN L o l m<|aX .e<|yZ _ .f _ .e<|by revert q;cases bK Z.T.bD s<;>exact id)
omit L in
theorem Yj(h:ρ[1]?=aa (aa<|aR p tok)):∃c,fE H ρ (.aB<|.u (.ah<|.U (.ak (.J 1)<|.e<|.x 0) .Eq<|.e<|.z nU)<|.u (.ah<|.U (.ak (.J 1)<|.e<|.x 1) .In<|.e<|.U [.z bZ, .z cG]) .I) c:=by
 (refine cO (pC tok) (λa=>?tl) λn=>?tr;case' tl=>obtain⟨c,rfl⟩:=a)
 ·exact⟨_, .aB<|.lS (pD h)<|.lS (.ah (.U (.ak (.J h) .e<|.U rfl rfl) .e<|.c<|.U<|.z<|.u<|.u .I) .e) .gm⟩
 ·haveI:=pD (H:=H) (s:=nU) h;rw [Ax n] at this;exact⟨_, .aB<|.dJ (d:=af) this⟩
theorem Kh(hp:H Z.p=aa (bc Z b pl Li t pr nx))(c:b8 H Z b fr fas v){p:Nat}{s:Str}(J:∀s,dP tok s->s∈cy)
 (q:∀f o s x d,Fr gR H f->b.I o->cJ f Z.A o->f x=ag->Q (.d x) (f.J x<|.f af d [.z s, .x p, .x 0, .x 0])):CP (k+3) 716 [.d Z.p,aR p tok, .z s] E Q H:=by
 have B:=hp;skip
 have g:∀{ρ:aA} {f:HP} {o:Bk} {s:Str},Fr gR H f->b.I o->cJ f Z.A o->ρ[0]?=aa (aa<|.d Z.p)->ρ[1]?=aa (aa<|aR p tok)->∀{y:X},Ev f ρ y (.z s)->aK (CP<|k+2) (.I (.J 0) 843 709<|.u y<|.u (.J 1) .I) ρ E Q f:=λ{ρ f o s} F I N h0 u {y} M=>
  a7 (.J h0) (F _ _ hp rfl) (.u M<|.u (.J u) .I) (Aw L λa d K=>q f o s a d F I N K)
 obtain⟨d,hd⟩:=Yj (H:=H) (ρ:=iF ([.d Z.p,aR p tok, .z s]++[]) 1) rfl;refine L.1 (n:=7163) rfl rfl<|yk (.aN (vs:=[aR p tok]) (aC rfl) λQ q=>J8 L q) (λz=>cC<|g .I (.I _) c.1 rfl rfl .e) λz=>bj<|yk hd.tb (λz=>cC<|g .I (.I _) c.1 rfl rfl .e) λz=>bj<|bz<|a7 (.J rfl) hp (vs:=[aR p tok]) ((aC rfl))<|Ke L B c J λG O n A j i h=>?_;have u:=A _ _ hp rfl;have w:=c.u A j i;unfold qO at h;have r:∃d,TB (CP<|k+2) [aa<|.d Z.p,aa<|aR p tok,aa<|.z s,aa<|.x n] (λl H=>E l H) G (.aB<|.u (.ah<|.U (.J 3) .GtE<|.e<|.x 0)<|.u (.cQ<|.u (.ah<|.U (.I (.ao (.J 0) 843 1) 558 471<|.u (.J 3) .I) .IsNot<|.e .f)<|.u (.ah<|.U (.I (.ao (.J 0) 843 1) 558 478<|.u (.J 3) .I) .IsNot<|.e .f) .I) .I) d:=by cases e:tok.J with| none=>rw [e] at h;have h:n= -1:=h;subst h;exact⟨_, .aB<|.n9 (d:=af)<|aP.tb<|.ah (.U (.J rfl) .e .i) .e⟩| some m=>rw [e] at h;obtain⟨C,rfl⟩:=h;have D:=cg.i (H:=G) (a:=(O.e m:Int)) (b:=0);rw [decide_eq_true<|iA _] at D;exact⟨_, .aB<|.go (aP.tb<|.ah (.U (.J rfl) .e D) .e)<|.bo (.cQ<|.or (Yh L w.3 w.4 C rfl<|(.ao (.J rfl)<|.b u rfl)) λz=> .or (Yi L w.3 w.4 C rfl<|(.ao (.J rfl)<|.b u rfl)) λz=> .I) λz=> .I⟩
 obtain⟨d,hd⟩:=r;exact yk hd (λz=>cC<|g A i j rfl rfl .e) λz=>bj<|cC<|g A i j rfl rfl<|.J rfl
variable (hp:H Z.p=aa (bc Z b pl Li (aa x) pr nx)) (c:b8 H Z b (f::fr) ((a,il)::fas) v) (hi:x.e b)
include hp c hi
theorem Ki(hd:Z.aB.drop pl=(tok,p)::r)(hl:Z.aB.length<=1000000)(hf:fas.length<=1000000)(P:f.a.length<=1000000)(C:s≠fm/\(s=ic->f.k=ic))
 (q:∀t,Fr [15,1635,1843] H t->t Z.p=aa (bc Z b (pl+1) 999 (aa x) pr nx)->b8 t Z b (⟨s,f.e,f.fn,f.c,f.b,f.a++[x]⟩::fr) ((a,il)::fas) v->Q (.x 0) t):CP (k+2) 833 [.d Z.p, .z s] E Q H:=by
 haveI u:=hp;skip;refine L.1 (n:=8332) rfl rfl<|dB<|a7 (.J rfl) hp .I<|qM L u c hd hl λi B1 l=>?_;haveI D:Fr [1843] H i:=B1.J hp rfl;haveI A:=c.U D rfl;skip;obtain⟨G,I⟩:=A.e hf;obtain⟨⟨o,m,e,w⟩,j,O,N⟩:=G;haveI T:=A.7;refine bQ (.ak ((.ao (.J rfl)<|.b l rfl)) (.fg .e) I)<|dB<|jt (v:=tv b x) ((.ao (.J rfl)<|.b e rfl)) ((.ao (.J rfl)<|.b l rfl)) j (by rw [vJ,bB];exact eX P<|by decide) ?_;haveI W:=cH (d:= .u 15<|eU b f.a++[tv b x]) j e rfl;refine jT (.J rfl)<|mO (.J rfl) W ?_;haveI V:=aQ (H:=i.J il<|.u 15<|eU b f.a++[tv b x]) (a:=a) (c:=t8 s f.e o m f.c (dG b f.b) il);haveI B:∀y d,y≠a->y≠il->i y=aa d->((i.J il<|.u 15<|eU b f.a++[tv b x]).J a<|t8 s f.e o m f.c (dG b f.b) il) y=aa d:=λy d K J e=>gc K<|gc J e;haveI M:=gc (d:=t8 s f.e o m f.c (dG b f.b) il) (fT j e rfl)<|aQ (H:=i) (a:=il) (c:= .u 15<|eU b f.a++[tv b x]);haveI h3:=B _ _ (fT l e rfl) (fT l j rfl) l;haveI X:=A.Yg B (f':=⟨s,f.e,f.fn,f.c,f.b,f.a++[x]⟩) ⟨(b7 o m V (λq=>absurd q C.1) λq=>w.2<|C.2 q),by refine ae (show eU b _=eU b f.a++[tv b x] from Kj b f.a x) ?_;exact M,(qD b _).mpr λy R=>?_,N⟩
 ·haveI F3:Fr [15,1635] i _:=λy d g h=>B y d (λz=>by rw [z,e] at g;injection g with g;replace h:=g.symm▸h;exact bC h) (λz=>by rw [z,j] at g;injection g with g;replace h:=g.symm▸h;exact bC h) g;exact cZ .e rfl h3 λY U F=>aY .e<|q Y (((D.U rfl).u<|F3.U rfl).u<|F.J h3 rfl) U<|X.U (F.J h3 (S:=[1843]) rfl) rfl
 ·refine cO (fG.mp R) (λe=>?_) (λe=>?_)
  ·exact(qD b _).mp O y e
  ·exact ae (d5.mp e) hi
end
end
section
open PySem
variable {CP:Nat->Nat->List V->EP->QV->HP->Prop} (L:bX CP) {k:Nat} {E:EP} {Q:QV} {H:HP}
theorem sD(h:H x=ag):Fr [] H ((H.J x c).hZ x):=λy e a z=>by delta HP.hZ HP.J;exact ae (if_neg<|gG a h)<|ae (if_neg<|gG a h) a
section
variable {Z:PZ} {b:Bk} {pl:Nat} {Li:Int} {x:Tm} {pr nx:Int} {f:cI} {fr:List cI} {a il:Nat} {fas:List (Nat×Nat)} {v:VS}
include L
theorem fw(h:jV H b f a il)(j:ρ[1]?=aa (aa<|aR p tok))(i:ρ[2]?=aa (aa<|.d a))(g:((f.k==K)&&(mV tok d&&af))=c):
 TB (CP<|k+1) ρ E H (.aB<|.u (.ah<|.U (.ao (.J 2) 635 0) .Eq<|.e<|.z K)<|.u (.ah<|.aN 660<|.u (.J 1)<|.u (.e<|.z d) .I) .I) c:=by
 obtain⟨⟨m,l,e,_⟩,_⟩:=h;subst g;exact .aB<|.bo (aP.tb<|.ah (.U (.ao (.J i)<|.b e rfl) .e cj) .e) λz=> .bo (.aN (vs:=[aR p tok, .z d]) (.u (.J j)<|.u .e .I) λQ q=>pA L q) λz=> .I
omit L in
theorem ym(h:jV H b f a il)(d:ρ[2]?=aa (aa<|.d a))(g:((f.k==ic)||(f.k==jm)||false)=c):
 fE H ρ (.cQ<|.u (.ah<|.U (.ao (.J 2) 635 0) .Eq<|.e<|.z ic)<|.u (.ah<|.U (.ao (.J 2) 635 0) .Eq<|.e<|.z jm) .I) c:=by
 obtain⟨⟨j,i,e,_⟩,_⟩:=h;subst g;rw [BF];exact .cQ<|.su (.ah (.U (.ao (.J d)<|.b e rfl) .e cj) .e)<|.su (.ah (.U (.ao (.J d)<|.b e rfl) .e cj) .e) .gm
variable (hp:H Z.p=aa (bc Z b pl Li (aa x) pr nx)) (c:b8 H Z b (f::fr) ((a,il)::fas) v) (hi:x.e b) (hf:fas.length<=1000000) (hl:Z.aB.length<=1000000)
include hp c hf
theorem sC(q:aw (CP k) (ck 1 Dh) [aa<|.d Z.p,aa<|aR p tok,aa<|.d a,ag] (.e E Q) H):CP (k+1) 826 [.d Z.p,aR p tok] E Q H:=by unfold bc at hp;exact ay (c.e hf) λz b=>L.1 (n:=8262) rfl rfl<|bQ (.ak ((.ao (.J rfl)<|.b hp rfl)) (.fg .e) b) q
include hl
theorem Yp(g:f.k=lM)(hd:Z.aB.drop pl=(.a eP,p)::r)
 (q:∀d,Fr [16,1843] H d->d Z.p=aa (bc Z b (pl+1) f.e (aa x) 0 nx)->b8 d Z b fr fas v->Q (.x 1) d):CP (k+3) 826 [.d Z.p,aR p<|.a eP] E Q H:=by
 refine ay (c.e hf) λe z=>?_;have a:=hp;unfold bc at hp;exact sC L a c hf<|lZ (fw L e rfl rfl<|ae g rfl)<|cC<|a7 (.J rfl) hp (vs:=[tv b x]) ((.u (.ao (.J rfl)<|.b a rfl) .I))<|yj L a c hd hl q
include hi
theorem Yn(i:f.k=lJ)(hd:Z.aB.drop pl=(.a e9,p)::r)
 (q:∀d,Fr [16,1843] H d->d Z.p=aa (bc Z b (pl+1) f.e (aa<|.U eR [x]) 0 nx)->b8 d Z b fr fas v->(Tm.U eR [x]).e b->Q (.x 1) d):CP (k+3) 826 [.d Z.p,aR p<|.a e9] E Q H:=by
 refine ay (c.e hf) λg z=>?_;have a:=hp;delta bc at hp;have m:=mR c.2;refine sC L a c hf<|dV (fw L g rfl rfl<|ae i rfl)<|lZ (fw L g rfl rfl<|ae i rfl)<|cC<|jL (.J rfl) hp<|bx<|bV (vs:=[.x 9, .U [tv b x]]) ((.u .e<|.u (.ax<|.u (.ao (.J rfl)<|.b a rfl) .I) .I))<|yd L<|cF .I ?_;have e:V.U [.z iI, .x 9, .U [tv b x]]=tv b (.U eR [x]):=by exact((ae ((k0 c.2).2.2.2.2.2) rfl):_=V.U [.z iI, .x<|b.fn eR 1, .U [tv b x]])
 exact ae e<|yj L a c hd hl λd F h j=>q d F h j ⟨m.2.1,m.2.2.2.2.2.2,hi,trivial⟩
theorem Yr(j:f.k=qu)(hd:Z.aB.drop pl=(.a dZ,p)::r)
 (q:∀d,Fr [16,1843] H d->d Z.p=aa (bc Z b (pl+1) f.e (aa<|jr f.a x) 0 nx)->b8 d Z b fr fas v->(jr f.a x).e b->Q (.x 1) d):CP (k+3) 826 [.d Z.p,aR p<|.a dZ] E Q H:=by
 refine ay (c.e hf) λg z=>?_;have i:=g;obtain⟨⟨u,s,e,w⟩,m,n,t⟩:=i;have a:=hp;skip;have tl:=pq c.2 x f.a;have l:(tv b x).u=false:=by cases x<;>rfl
 exact sC L a c hf<|dV (fw L g rfl rfl<|ae j rfl)<|dV (fw L g rfl rfl<|ae j rfl)<|lZ (fw L g rfl rfl<|ae j rfl)<|cC<|jL (.J rfl) hp<|bx<|bV (vs:=[.d il,tv b x]) ((.u (.ao (.J rfl)<|.b e rfl)<|.u (.ao (.J rfl)<|.b a rfl) .I))<|WY L m (.inr ⟨rfl,l⟩)<|cF .I<|ae tl.1.symm<|yj L a c hd hl λd F h o=>q d F h o<|tl.2 n hi
theorem Yq(m:f.k=ic\/f.k=jm)(n:f.a.length<=1000000)(hd:Z.aB.drop pl=(.a bZ,p)::r)
 (q:∀i,Fr [15,1635,1843] H i->i Z.p=aa (bc Z b (pl+1) 999 (aa x) pr nx)->b8 i Z b (⟨f.k,f.e,f.fn,f.c,f.b,f.a++[x]⟩::fr) ((a,il)::fas) v->Q (.x 0) i):CP (k+3) 826 [.d Z.p,aR p<|.a bZ] E Q H:=by
 refine ay (c.e hf) λd z=>?_;have j:=d;obtain⟨⟨B,o,e,w⟩,s,u,t⟩:=j;have g:=hp;unfold bc at hp;have l:∀{K},K≠ic->K≠jm->(f.k==K)=false:=λA y=>by refine cO m (λh=>?_) (λh=>?_)<;>refine ae h ?_<;>exact beq_false_of_ne<|q8 (by assumption)
 refine sC L g c hf<|dV (fw L d rfl rfl<|ae (l (by decide)<|by decide) rfl)<|dV (fw L d rfl rfl<|ae (l (by decide)<|by decide) rfl)<|dV (fw L d rfl rfl<|ae (l (by decide)<|by decide) rfl)<|cY (ym d rfl<|by refine cO m (λh=>?_) (λh=>?_)<;>refine ae h ?_<;>rfl)<|lZ (.aN (vs:=[aR p<|.a bZ, .z bZ]) ((aC rfl)) λQ q=>pA L q)<|cC<|a7 (.J rfl) hp (vs:=[.z f.k]) ((.u (.ao (.J rfl)<|.b e rfl) .I))<|Ki L g c hi hd hl hf n ?_ q;exact⟨by refine cO m (λh=>?_) (λh=>?_)<;>refine ae h ?_<;>decide,λe=>e⟩
theorem Ym(h:f.k=jm)(j:f.a.length<=1000000)(hd:Z.aB.drop pl=(.a cG,p)::r)
 (q:∀i,Fr [15,1635,1843] H i->i Z.p=aa (bc Z b (pl+1) 999 (aa x) pr nx)->b8 i Z b (⟨qu,f.e,f.fn,f.c,f.b,f.a++[x]⟩::fr) ((a,il)::fas) v->Q (.x 0) i):CP (k+3) 826 [.d Z.p,aR p<|.a cG] E Q H:=by
 refine ay (c.e hf) λd z=>?_;have g:=hp;unfold bc at hp;refine sC L g c hf<|dV (fw L d rfl rfl<|ae h rfl)<|dV (fw L d rfl rfl<|ae h rfl)<|dV (fw L d rfl rfl<|ae h rfl)<|cY (ym d rfl<|ae h rfl)<|dV (.aN (vs:=[aR p<|.a cG, .z bZ]) ((aC rfl)) λQ q=>pA L q)<|lZ (fw L d rfl rfl<|ae h rfl)<|cC<|a7 (.J rfl) hp (vs:=[.z qu]) ((aC rfl))<|Ki L g c hi hd hl hf j ⟨by decide,λe=>absurd e<|by decide⟩ q
omit hf hl hi c L in
theorem Kk(h:jV H b f a il)(h0:ρ[0]?=aa (aa<|.d Z.p))(m:ρ[2]?=aa (aa<|.d a))(j:f.a.length<=1000000)(q:∀c y,Fr [] H c->c y=aa (.u g<|eU b<|f.a++[x])->Q (.d y) c):aK (CP k) (.aS g .Add (.ao (.J 2) 635 6)<|.u n<|.u (.ao (.J 0) 843 7) .I) ρ E Q H:=by obtain⟨⟨s,o,e,w⟩,i,r,p⟩:=h;unfold bc at hp;refine og<|aX (.ao (.J m)<|.b e rfl)<|fv (vs:=[tv b x]) (.u (.ao (.J h0)<|.b hp rfl) .I) λt d=>(aM _ (.u (dh d i) aQ<|by rw [vJ,bB];exact aH (jC j 1)<|by decide) λy l=>q _ y ((Fr.aT d).u<|.aT l) ?_);rw [Kj];exact aQ
theorem Yo(g:f.k=jm)(n:f.a.length<=1000000)(hd:Z.aB.drop pl=(.a dZ,p)::r)
 (q:∀i,Fr [16,1843] H i->i Z.p=aa (bc Z b (pl+1) f.e (aa<|jr (f.a++[x]) gk) 0 nx)->b8 i Z b fr fas v->(jr (f.a++[x]) gk).e b->Q (.x 1) i):CP (k+3) 826 [.d Z.p,aR p<|.a dZ] E Q H:=by
 refine ay (c.e hf) λa z=>?_;have d:=hp;unfold bc at hp;have tl:=pq c.2 gk<|f.a++[x];have m:=qE c.2;refine sC L d c hf<|dV (fw L a rfl rfl<|ae g rfl)<|dV (fw L a rfl rfl<|ae g rfl)<|dV (fw L a rfl rfl<|ae g rfl)<|cY (ym a rfl<|ae g rfl)<|dV (.aN (vs:=[aR p<|.a dZ, .z bZ]) ((aC rfl)) λQ q=>pA L q)<|dV (fw L a rfl rfl<|ae g rfl)<|lZ (fw L a rfl rfl<|ae g rfl)<|cC<|jL (.J rfl) hp<|bx<|gQ<|bx<|Kk d a rfl rfl n λs y l j=>JK L j<|cF .I<|ae m.1.symm<|ae tl.1.symm ?_
 exact yj L (l _ _ d rfl) (c.U l rfl) hd hl λi F h o=>q i ((l.U rfl).u F) h o (tl.2 ((qD b _).mpr λy j=>by
  refine cO (fG.mp j) (λe=>?_) λe=>?_
  ·exact(qD b _).mp a.3 y e
  ·exact ae (d5.mp e) hi) m.2)
theorem Yk(d:f.k=ic)(D:f.a.length<8)(hd:Z.aB.drop pl=(.a eP,p)::r)
 (q:∀j s,Fr [1,2,3,4,16,1843] H j->b.I s->j Z.p=aa (bc Z s (pl+1) f.e (aa<|.U f.fn<|f.a++[x]) 0 nx)->b8 j Z s fr fas v->(Tm.U f.fn<|f.a++[x]).e s->Q (.x 1) j):CP (k+3) 826 [.d Z.p,aR p<|.a eP] E Q H:=by
 refine ay (c.e hf) λa z=>?_;have A:=a;obtain⟨⟨X,T,e,w⟩,U,N,W⟩:=A;refine ay (w.2 d) λm J=>?_;obtain rfl:=J;have g:=hp;skip
 have M:Tm.u b (f.a++[x]):=(qD b _).mpr λy n=>by
  refine cO (fG.mp n) (λe=>?_) λe=>?_
  ·exact(qD b _).mp N y e
  ·exact ae (d5.mp e) hi
 have K:(eU b<|f.a++[x]).length=f.a.length+1:=by rw [vJ,bB,bI];rfl
 refine sC L g c hf<|dV (fw L a rfl rfl<|ae d rfl)<|dV (fw L a rfl rfl<|ae d rfl)<|dV (fw L a rfl rfl<|ae d rfl)<|cY (ym a rfl<|ae d rfl)<|dV (.aN (vs:=[aR p<|.a eP, .z bZ]) ((aC rfl)) λQ q=>pA L q)<|dV (fw L a rfl rfl<|ae d rfl)<|dV (fw L a rfl rfl<|ae d rfl)<|lZ (fw L a rfl rfl<|ae d rfl)<|bz<|Kk g a rfl rfl (aH (jM D)<|by decide) λH1 y l n=>?_;have I:=l _ _ hp rfl;have P:=l _ _ e rfl;have o:=c.U l rfl;refine cC<|jL (.J rfl) I<|bx<|gQ<|bx<|a7 ((.ao (.J rfl)<|.b I rfl)) o.1.1 (vs:=[.x<|b.e f.fn, .x (f.a.length+1:Nat)]) (.u ((.ao (.J rfl)<|.b P rfl))<|.u (.bi (aC rfl)<|K▸ .e n) .I)<|yc L (x:=(b.e f.fn,f.a.length+1)) o.1 ⟨Bk.yb o.1.6 m,by skip;exact aD (.e (.a (.v 0)<|.n 1)<|.n 10) (.e (.v 0)<|.n 8) rfl [] [_] D⟩ λY u S=>?_;have i:=b.x9 (b.e f.fn,f.a.length+1);have C:(b.u (b.e f.fn,f.a.length+1)).e f.fn=b.e f.fn:=i8 i m;have B:=Ai i _ M;refine cF (vs:=[.U<|eU b<|f.a++[x]]) (.u (.bi (aC rfl)<|.f<|u _ _ n rfl) .I)<|yd L<|cF .I ?_;have O:V.U [.z iI, .x<|(b.u (b.e f.fn,f.a.length+1)).kr (b.e f.fn,f.a.length+1), .U<|eU b<|f.a++[x]]=tv (b.u (b.e f.fn,f.a.length+1)) (.U f.fn<|f.a++[x]):=by refine((ae B.2<|ae bI<|ae gY ?_):_=V.U [.z iI, .x<|(b.u (b.e f.fn,f.a.length+1)).fn f.fn (f.a++[x]).length, .U<|eU (b.u (b.e f.fn,f.a.length+1))<|f.a++[x]]);delta Bk.fn;exact ae C rfl
 refine ae O ?_;have G:=u _ _ (l _ _ g rfl) rfl;rw [<-yi (t:=aa x) i hi] at G;exact yj L G (o.u u S i) hd hl λj F h R=>q j _ (((l.U rfl).u<|u.U rfl).u<|F.U rfl) i h R ⟨i.1.subset m,ae C<|ae bI<|b.ya _,B.1⟩
omit hi hl in
theorem Yl{p:Nat}(M:∀s,dP tok s->s∈cy)(n:Dt f tok)
 (q:∀B F s,Fr gR H B->b.I F->cJ B Z.A F->E [.z s, .x p, .x 0, .x 0] B):CP (k+4) 826 [.d Z.p,aR p tok] E Q H:=by
 refine ay (c.e hf) λm _=>?_;have r:=hp;unfold bc at hp;refine ay n λP _=>?_;clear n;rename_i n;have t:aw (CP<|k+3) (ck 5 Dh) [aa<|.d Z.p,aa<|aR p tok,aa<|.d a,ag] (.e E Q) H:=by refine vI<|a7 (.J rfl) hp (vs:=[aR p tok, .z Ip]) ((aC rfl))<|Kh L r c M λR N s x d O v A J=>(mj x d _ rfl aQ ?_);have D:=sD (c:= .f af d [.z s, .x p, .x 0, .x 0]) J;exact q _ N s (O.u<|D.U rfl) v<|A.J D rfl
 have o:∀{i},i≠eH->i≠fL->b9 i=ai->(∀c,tok= .a c->c≠i)/\mV tok i=false:=λy w h3=>by
  have:∀c,tok= .a c->c≠_:=λc e h=>by
   rcases n with n | ⟨C,g,n⟩ | ⟨_,C,g,n⟩
   ·exact n c e
   ·replace g:=e▸g;injection g with g;refine cO n (λn=>?_) (λn=>?_)<;>(rw [<-g,h] at n;first | exact y n | exact w n)
   ·replace g:=e▸g;injection g with g;rw [<-g,h,h3] at n;exact bw n
  refine⟨this,?_⟩
  (refine cO (pC tok) (λu=>?tl) λh=>?tr;case' tl=>obtain⟨c,rfl⟩:=u)
  ·exact beq_false_of_ne<|this c rfl
  ·exact vM h _
 have z:∀{K i},mV tok i=ai->((f.k==K)&&(mV tok i&&af))=false:=λh=>by rw [h,E8,Bg]
 refine sC L r c hf<|dV (fw L m rfl rfl<|z (o (by decide) (by decide)<|by decide).2)<|dV (fw L m rfl rfl<|z (o (by decide) (by decide)<|by decide).2)<|dV (fw L m rfl rfl<|z (o (by decide) (by decide)<|by decide).2)<|sv (ym m rfl rfl) (λe=>?_) λ_=>t;have G:¬(f.k=lM\/f.k=lJ):=λh=>by refine cO h (λh=>?_) (λh=>?_)<;>(replace e:=h▸e;revert e;decide)
 have j:∀{i},i≠eH->i≠fL->mV tok i=false:=λy w=>by
  rcases pC tok with ⟨c,rfl⟩ | h
  ·refine beq_false_of_ne λh=>?_;rcases n with n | ⟨C,g,n⟩ | ⟨n,_⟩
   ·exact n c rfl
   ·injection g with g;refine cO n (λn=>?_) (λn=>?_)<;>(rw [<-g,h] at n;first | exact y n | exact w n)
   ·exact G n
  ·exact vM h _
 have I:TB (CP<|k+3) [aa<|.d Z.p,aa<|aR p tok,aa<|.d a,ag] (λl H=>E l H) H (.ah<|.aN 660<|.u (.J 1)<|.u (.e<|.z bZ) .I) false:= .aN (vs:=[aR p tok, .z bZ]) ((aC rfl)) λQ q=>pA L<|ae (j (by decide)<|by decide) q;exact dV I<|dV (fw L m rfl rfl<|z<|j (by decide)<|by decide)<|dV (fw L m rfl rfl<|z<|j (by decide)<|by decide)<|dV (fw L m rfl rfl<|z<|j (by decide)<|by decide) t
end
theorem cA.J{H:HP}{Z:PZ}{b:Bk}{pl fas σ t r}(P:cA H Z b pl fas σ)(e:σ.U=t::r):∃p rest,Z.aB.drop pl=(t,p)::rest/\rest.map (·.1)=r/\Z.aB.drop (pl+1)=rest/\(t,p)∈Z.aB:=by
 have k:=P.3;replace k:=e▸k;cases h:Z.aB.drop pl with
 | nil=>replace k:=h▸k;exact gw k
 | cons y rest=>
  rw [h,gX] at k;injection k with k1 k2;refine(pZ y.2 rest (ae k1.symm rfl) k2 ?_ ?_)
  ·exact ae pY.symm<|ae h rfl
  ·exact ae k1.symm<|Fj (i:=pl)<|ae h cu
theorem cA.I{H:HP}{Z:PZ}{b:Bk}{pl fas σ t r}(P:cA H Z b pl fas σ)(e:σ.U=t::r):pl<=1000000/\fas.length<=1000000:=by obtain⟨p,rest,h,_⟩:=P.J e;have a:=aH (jM<|Lr<|Nat.lt_of_lt_of_eq (oA rest.length) (lg.symm.trans<|congrArg pO h).symm) P.8;exact⟨a,aH (eW P.2.7.e)<|aH P.5 a⟩
section
variable {Z:PZ} {b:Bk} {pl:Nat} {Li:Int} {x:Tm} {pr nx:Int} {fr:List cI} {fas:List (Nat×Nat)} {v:VS}
include L
theorem AE(hp:H Z.p=aa (bc Z b pl Li t pr nx))(c:b8 H Z b fr fas v)(hd:Z.aB.drop pl=(tok,p)::r)(hl:Z.aB.length<=1000000)(hi:iu b t)(l:∀s,dP tok s->s∈cy)
 (q:∀f e n,Fr gR H f->b.I e->f Z.p=aa (bc Z e pl Li t pr nx)->b8 f Z e fr fas v->qO e tok n->aw (CP<|k+2) (ck 2 sf) [aa<|.d Z.p,aa<|aR p tok,aa<|.x n] (.e E Q) f):CP (k+3) 791 [.d Z.p] E Q H:=by
 have d:=hp;unfold bc at hp;refine L.1 (n:=7911) rfl rfl<|bz<|a7 (.J rfl) hp .I<|mU L d c hd hl<|bz<|a7 (.J rfl) hp (vs:=[aR p tok]) ((aC rfl))<|Ke L d c l λo m n h g a j=>?_;have i:=h _ _ d rfl;rw [<-yi a hi] at i;exact q o m n h a i (c.u h g a) j
omit L in
theorem yn{n:Nat}(h:ρ[2]?=aa (aa<|.x n)):fE H ρ (.ah<|.U (.J 2) .GtE<|.e<|.x 0) true:=by have c:=cg.i (H:=H) (a:=(n:Int)) (b:=0);rw [decide_eq_true<|iA _] at c;exact .ah (.U (.J h) .e c) .e
theorem Kl(hp:H Z.p=aa (bc Z b pl Li t pr nx))(c:b8 H Z b fr fas v)(a:qO b tok n)(h:lO (bf Z.T) tok Li pr)
 (q:aw (CP<|k+3) (ck 4 sf) [aa<|.d Z.p,aa<|aR p tok,aa<|.x n] (.e E Q) H):aw (CP<|k+3) (ck 2 sf) [aa<|.d Z.p,aa<|aR p tok,aa<|.x n] (.e E Q) H:=by
 have f:=hp;unfold bc at hp;unfold qO at a;cases e:tok.J with
 | none=>rw [e] at a;have a:n= -1:=a;subst a;exact cz (.aB<|.dJ (d:=af)<|.ah (.U (.J rfl) .e .i) .e)<|cz (.aB<|.dJ (d:=af)<|.ah (.U (.J rfl) .e .i) .e) q| some s=>rw [e] at a;obtain⟨m,rfl⟩:=a;have g:=Ya<|h s e;exact dV (.aB<|.go (aP.tb<|yn rfl)<|.n9 (d:=af)<|.I (.J rfl) hp (.u (.J rfl) .I) λQ q=>Kf L f c m g.1 q)<|dV (.aB<|.go (aP.tb<|yn rfl)<|.n9 (d:=af)<|.I (.J rfl) hp (.u (.J rfl) .I) λQ q=>Yc L f c m g.2 q) q
omit L in
theorem D5(hp:H Z.p=aa (bc Z b pl Li t pr nx))(c:b8 H Z b fr fas v)(h0:ρ[0]?=aa (aa<|.d Z.p)):fE H ρ (.ah<|.ao (.J 0) 843 5) (!fas.isEmpty):=by unfold bc at hp;have:=ka.u c.6;rw [List.isEmpty_reverse,List.isEmpty_map] at this;exact .ah (.ao (.J h0)<|.b hp rfl) this
omit L in
theorem Ys(hp:H Z.p=aa (bc Z b pl Li t pr nx))(c:b8 H Z b (f::fr) ((a,il)::fas) v)(hf:fas.length<=1000000)
 (q:f.k=fm->aw (CP k) (.u (.f<|.I (.J 0) 843 819 .I)<|.u (.e<|.e<|.x 1) .I) [aa<|.d Z.p,aa<|aR p tok,aa<|.x n] {bA.e E Q with nx:=λρ H=>aw (CP k) (ck 6 sf) ρ (.e E Q) H} H)
 (g:f.k≠fm->aw (CP k) (ck 6 sf) [aa<|.d Z.p,aa<|aR p tok,aa<|.x n] (.e E Q) H):
 aw (CP k) (ck 4 sf) [aa<|.d Z.p,aa<|aR p tok,aa<|.x n] (.e E Q) H:=by
 have i:=D5 hp c (ρ:=[aa<|.d Z.p,aa<|aR p tok,aa<|.x n]) rfl;unfold bc at hp;obtain⟨⟨⟨l,j,e,_⟩,_⟩,d⟩:=c.e hf;refine cz (.gE (c:=af) i)<|gF (.ah (.U (.ao (.ak (.ao (.J rfl)<|.b hp rfl) (.fg .e) d)<|.b e rfl) .e cj) .e) (λh=>q<|rE h) λh=>g<|ne_of_beq_false h
end
theorem jW.Yt(x:jW H b (f::fr) fas):∃a il l,fas=(a,il)::l:=by cases x;exact⟨_,_,_,rfl⟩
section
variable {Z:PZ} {b:Bk} {pl:Nat} {fas:List (Nat×Nat)} {σ σ':PS} {d:Bool}
noncomputable def iw(H:HP)(Z:PZ)(b:Bk)(σ':PS)(Q:HP->Prop):Prop:=∀d e c a,Fr Az H d->b.I e->cA d Z e c a σ'->Q d
include L
theorem Yx(P:cA H Z b pl fas ⟨tok::r,fr,Li,aa t,p,v⟩)(J:∀x∈Z.aB,∀s,dP x.1 s->s∈cy)(h:tok.J=aa a)(e:(bf Z.T).aZ a=aa (q,x,y))(S:q<=Li)(R:p<=x)
 (K:iw H Z b ⟨r,⟨fm,Li,a,q,aa t,[]⟩::fr,y,aa t,p,v⟩ (Q<|.x 0)):CP (k+4) 791 [.d Z.p] E Q H:=by
 refine fV (P.J rfl) λpp rest hd M C N=>ay (P.I rfl) λl1 I=>?_;refine ji (AD e) λi O j D F=>?_;obtain rfl:=j;obtain rfl:=D;obtain rfl:=F;refine AE L P.1 P.2 hd P.8 P.4 (J _ N) λH1 b1 n F1 f c U d=>?_;unfold qO at d;replace d:=h▸d;refine ay d λm j=>?_;clear d;obtain rfl:=j;have A:=c;unfold bc at c;have W:oq (aa i) Li p=true:=by refine((ae (decide_eq_true S)<|ae (decide_eq_true R) ?_):(dS (i.1<=Li)&&dS (p<=(de i.1 i.2).1))=af);rfl
 have G:=kW f t P.4;refine di (pk<|fc<|wb (yn rfl) ⟨λz=>fc<|cD<|a7 (.J rfl) c (.u (.J rfl) .I)<|Ye L A U rfl G.1 m O W hd P.8 I λX V a il Y u w T o=>⟨_, .e,λz=>kU ⟨λz=>aY .e<|K X V (pl+1) _ ((F1.U rfl).u<|Y.U rfl) (f.u u) ⟨w,T,by refine ae C ?_;exact M,o,jP P.5,λg B=>?_,dM P.7,P.8⟩,λe=>bC e⟩,λe=>bC e⟩,λe=>bC e⟩)
 (refine cO (dH.mp B) (λl=>?tl) λB=>?tr;case' tl=>obtain rfl:=l)
 ·exact dR _
 ·exact dM<|P.6 g B
theorem Yy(P:cA H Z b pl fas ⟨tok::r,fr,Li,aa t,p,v⟩)(I:∀x∈Z.aB,∀s,dP x.1 s->s∈cy)(h:tok.J=aa a)(G:(bf Z.T).aZ a=ag)(e:(bf Z.T).bD a=aa (q,x))(S:q<=Li)(R:p<=x)
 (K:iw H Z b ⟨r,fr,Li,aa<|.U a [t],q,v⟩ (Q<|.x 1)):CP (k+4) 791 [.d Z.p] E Q H:=by
 refine fV (P.J rfl) λpp rest hd J A M=>bR (D4 e) λl O o C=>?_;obtain rfl:=o;obtain rfl:=C;refine AE L P.1 P.2 hd P.8 P.4 (I _ M) λH1 b1 n Y i c B f=>?_;unfold qO at f;replace f:=h▸f;refine ay f λm o=>?_;clear f;obtain rfl:=o;have j:=c;unfold bc at c;have V:oq (aa l) Li p=true:=by exact((ae (decide_eq_true S)<|ae (decide_eq_true R) rfl):(dS (l.1<=Li)&&dS (p<=(de l.1 l.2).1))=af)
 have D:=kW i t P.4;have F:oq (bK Z.T.aZ a) Li p=false:=by exact ae (Yb G) rfl
 refine dV (.aB<|.go (aP.tb<|yn rfl)<|.n9 (d:=af)<|.I (.J rfl) c (aC rfl) λQ q=>Kf L j B m F q) ?_;refine di<|pk<|fc<|wb (yn rfl) ⟨λz=>fc<|cD<|a7 (.J rfl) c (aC rfl)<|Yd L j B rfl D.1 m O V hd P.8 λW U X w y T u=>⟨_, .e,λz=>kU ⟨λz=>aY .e ?_,λe=>bC e⟩,λe=>bC e⟩,λe=>bC e⟩;exact K W U (pl+1) _ ((Y.U rfl).u<|X.U rfl) (i.u w) ⟨y,T,by refine ae A ?_;exact J,u,dM P.5,λg N=>dM<|P.6 g N,dM P.7,P.8⟩
theorem qP(P:cA H Z b pl fas ⟨tok::r,f::fr,Li,aa t,p,v⟩)(u:∀x∈Z.aB,∀s,dP x.1 s->s∈cy)(z:lO (bf Z.T) tok Li p)
 (q:∀e i g rest a il c n,Fr gR H e->b.I i->(tok,g)::rest=Z.aB.drop pl->rest.map (·.1)=r->Z.aB.drop (pl+1)=rest->fas=(a,il)::c->c.length<=1000000->pl<=1000000->e Z.p=aa (bc Z i pl Li (aa t) p v.nx)->b8 e Z i (f::fr) ((a,il)::c) v->t.e i->(∀s,dP tok s->s∈cy)->
  (f.k=fm->aw (CP<|k+3) (.u (.f<|.I (.J 0) 843 819 .I)<|.u (.e<|.e<|.x 1) .I) [aa<|.d Z.p,aa<|aR g tok,aa<|.x n] {bA.e E Q with nx:=λρ H=>aw (CP<|k+3) (ck 6 sf) ρ (.e E Q) H} e)/\
  (f.k≠fm->CP (k+3) 826 [.d Z.p,aR g tok] E Q e)):CP (k+4) 791 [.d Z.p] E Q H:=by
 refine fV (P.J rfl) λg rest hd B m w=>ay (P.I rfl) λA l=>?_;obtain⟨a,il,c,rfl⟩:=P.2.7.Yt;rw [dK] at l;refine AE L P.1 P.2 hd P.8 P.4 (u _ w) λe i n C j d o y=>Kl L d o y z ?_;have q:=q e i g rest a il c n C j hd.symm B m rfl (aD (.I (.v 0)<|.n 1000000) (.I (.a (.v 0)<|.n 1)<|.n 1000000) rfl [] [_] l) A d o (kW j t P.4).1<|u _ w;refine Ys d o (aD (.I (.v 0)<|.n 1000000) (.I (.a (.v 0)<|.n 1)<|.n 1000000) rfl [] [_] l) q.1 λh=>?_;unfold bc at d;exact cC<|a7 (.J rfl) d (vs:=[aR g tok]) ((aC rfl))<|q.2 h
theorem Yu(P:cA H Z b pl fas σ)(S:lP (bf Z.T) σ d σ')(M:∀x∈Z.aB,∀s,dP x.1 s->s∈cy)(K:iw H Z b σ' (Q<|.x (if d then 0 else 1))):CP (k+6) 791 [.d Z.p] E Q H:=by
 revert P K;induction S with
 | aZ h e X t=>intro P K;exact Yx L P M h e X t K| bD h n e X t=>intro P K;exact Yy L P M h n e X t K| g n h=>intro P K;refine qP L P M n λT G N rest a il f m C o hd F p R D J l y v O=>⟨λz=>?_,λh'=>absurd h h'⟩;have W:=l;skip;refine dB<|a7 (.J rfl) l .I<|Yf L W y v h λA B t w q=>aY .e<|K A G pl f ((C.U rfl).u<|B.U rfl) o ⟨t,w,?_,q,mh P.5,λg r=>P.6 g<|df _ r,P.7,P.8⟩;exact P.3| i h=>intro P K;refine qP L P M (ph rfl) λT G N rest a il f m C o hd F p R D J l y v O=>⟨λe=>(by replace e:=h▸e;exact absurd e<|by decide),λz=>(Yp L l y D P.8 h hd.symm λA B t w=>K A G (pl+1) f ((C.U rfl).u<|B.U rfl) o ⟨t,w,by refine ae p ?_;exact F,v,dM<|mh P.5,λg r=>dM<|P.6 g<|df _ r,dM P.7,P.8⟩)⟩| d h=>intro P K;refine qP L P M (ph rfl) λT G N rest a il f m C o hd F p R D J l y v O=>⟨λe=>(by replace e:=h▸e;exact absurd e<|by decide),λz=>(Yn L l y v D P.8 h hd.symm λA B t w q=>K A G (pl+1) f ((C.U rfl).u<|B.U rfl) o ⟨t,w,by refine ae p ?_;exact F,q,dM<|mh P.5,λg r=>dM<|P.6 g<|df _ r,dM P.7,P.8⟩)⟩| I h=>intro P K;refine qP L P M (ph rfl) λT G N rest a il f m C o hd F p R D J l y v O=>⟨λe=>(by replace e:=h▸e;exact absurd e<|by decide),λz=>(Yr L l y v D P.8 h hd.symm λA B t w q=>K A G (pl+1) f ((C.U rfl).u<|B.U rfl) o ⟨t,w,by refine ae p ?_;exact F,q,dM<|mh P.5,λg r=>dM<|P.6 g<|df _ r,dM P.7,P.8⟩)⟩| u h=>intro P K;refine qP L P M (ph rfl) λT G N rest a il f m C o hd F p R D J l y v O=>⟨λe=>(by replace e:=h▸e;exact absurd e<|by decide),λz=>(Yo L l y v D P.8 h (aH (P.6 _ cu) J) hd.symm λA B t w q=>K A G (pl+1) f ((C.U rfl).u<|B.U rfl) o ⟨t,w,by refine ae p ?_;exact F,q,dM<|mh P.5,λg r=>dM<|P.6 g<|df _ r,dM P.7,P.8⟩)⟩| m h Y=>intro P K;refine qP L P M (ph rfl) λT G N rest a il f m C o hd F p R D J l y v O=>⟨λe=>(by replace e:=h▸e;exact absurd e<|by decide),λz=>?_⟩;refine Yk L l y v D P.8 h Y hd.symm λA b2 B V t w q=>K A b2 (pl+1) f ((C.U rfl).u<|B.U rfl) (o.u V) ⟨t,w,by refine ae p ?_;exact F,q,dM<|mh P.5,λg r=>dM<|P.6 g<|df _ r,dM P.7,P.8⟩
 | c n h=>
  intro P K;refine qP L P M n λT G N rest a il f m C o hd F p R D J l y v O=>⟨λe=>(by refine cO h (λh=>?_) (λh=>?_)<;>(replace e:=h▸e;exact absurd e<|by decide)),λz=>?_⟩;refine Yq L l y v D P.8 h (aH (P.6 _ cu) J) hd.symm λA B t w=>K A G (pl+1) _ ((C.U rfl).u<|B.U rfl) o ⟨t,w,by refine ae p ?_;exact F,v,dM P.5,λg r=>?_,dM P.7,P.8⟩
  (refine cO (dH.mp r) (λU=>?tl) λr=>?tr;case' tl=>obtain rfl:=U)
  ·skip;exact ae bI<|jP<|P.6 _ cu
  ·exact dM<|P.6 g<|df _ r
 | j n h=>
  intro P K;refine qP L P M n λT G N rest a il f m C o hd F p R D J l y v O=>⟨λe=>(by replace e:=h▸e;exact absurd e<|by decide),λz=>?_⟩;refine Ym L l y v D P.8 h (aH (P.6 _ cu) J) hd.symm λA B t w=>K A G (pl+1) _ ((C.U rfl).u<|B.U rfl) o ⟨t,w,by refine ae p ?_;exact F,v,dM P.5,λg r=>?_,dM P.7,P.8⟩;rcases dH.mp r with rfl | r
  ·skip;exact ae bI<|jP<|P.6 _ cu
  ·exact dM<|P.6 g<|df _ r
noncomputable def sE(H:HP)(Z:PZ)(b:Bk)(E:EP):Prop:=∀a c s (i:Nat),Fr Az H a->b.I c->cJ a Z.A c->E [.z s, .x i, .x 0, .x 0] a
theorem Yv(P:cA H Z b pl fas σ)(S:xQ (bf Z.T) σ)(o:∀x∈Z.aB,∀s,dP x.1 s->s∈cy)(K:sE H Z b E):CP (k+6) 791 [.d Z.p] E Q H:=by
 revert P;induction S with
 | a n h=>intro P;exact qP L P o n λF D j rest a il i m w d hd B q C l A f r y p=>⟨λe=>absurd e h.1,λz=>(Yl L f r l p h λu t s v c g=>K u t s j ((w.U rfl).u<|v.U rfl) (d.u c) g)⟩
theorem Yw(P:cA H Z b pl fas σ)(S:zZ (bf Z.T) σ)(j:∀x∈Z.aB,∀s,dP x.1 s->s∈cy)(K:iw H Z b σ (Q<|.x 2)):CP (k+6) 791 [.d Z.p] E Q H:=by
 induction S with
 | @mk tok r Li t p v n=>
  refine fV (P.J rfl) λg rest hd y m l=>AE L P.1 P.2 hd P.8 P.4 (j _ l) λu q i w d a f h=>Kl L a f h n ?_;have o:=D5 a f (ρ:=[aa<|.d Z.p,aa<|aR g tok,aa<|.x i]) rfl;have e:fas=[]:=by cases P.2.7;rfl
  subst e;exact cY (.gE (c:=ai) o)<|aY .e<|K u q pl [] (w.U rfl) d ⟨a,f,P.3,(qL d P.4).2,P.5,P.6,P.7,P.8⟩
end
theorem AF{T:bS}(s:Str):(bf T).e s=((bK T.bp s).isSome||((bK T.aZ s).isSome||(bK T.bD s).isSome)):=by delta cX.e bf;skip;rw [Fi,Fi,Fi,BF]
noncomputable def AG:List cI->Bool
 | []=>ai| f::_=>f.k==fm
theorem D7:AG fr=af↔nX fr:=by induction fr with| nil=>exact⟨λe=>(bw e),λz=>cm z λz z e z=>gw e⟩| cons f l=>exact⟨λe=>(cL f l rfl<|rE e),λz=>cm z λz z e h=>by obtain rfl:=(jA e).1;obtain rfl:=(jA e).2;exact beq_iff_eq.mpr h⟩
theorem Kn(h:¬nX fr):AG fr=false:=by cases e:AG fr with| false=>rfl| true=>exact absurd (D7.mp e) h
theorem jv.nI(h:jv l):jv (l.drop n):=by
 induction n generalizing l with
 | zero=>exact h
 | succ n ih=>induction h with
  | I=>exact .I| u z h y=>exact ih h
theorem D6{T:bS}{s:Str}{q y:Int}(h:(bf T).bp s=aa (q,y)):∃e,bK T.bp s=aa e/\q=e.1/\y=(de e.1 e.2).2:=by have h:(bK T.bp s).map _=_:=h;refine au (oG.mp h) λe b a=>?_;obtain rfl:=(dI a).1;obtain rfl:=(dI a).2;exact(bT e b rfl rfl)
section
variable {Z:PZ} {b:Bk} {pl:Nat} {Li:Int} {t:Option Tm} {pr nx:Int} {fr:List cI} {fas:List (Nat×Nat)} {v:VS}
 (hp:H Z.p=aa (bc Z b pl Li t pr nx)) (c:b8 H Z b fr fas v) (hl:Z.aB.length<=1000000) (hf:fas.length<=1000000) {f:aE} {p':Nat} {rest:List (aE×Nat)} (hd:Z.aB.drop pl=(f,p')::rest)
include L hp c hl hf hd
theorem Km(q:Q (.e<|!AG fr&&(dS (Li=999)||f.e)) H):CP (k+2) 765 [.d Z.p] E Q H:=by
 have i:=hp;have j:=D5 hp c (ρ:=iF ([.d Z.p]++[]) 0) rfl;unfold bc at hp
 have b:¬nX fr->aw (CP<|k+1) (.u (.e<|.cU ai<|.u (.U (.ao (.J 0) 843 6) .Eq<|.e<|.x 999)<|.u (.aN 653<|.u (.I (.J 0) 843 695 .I) .I) .I) .I) (iF ([.d Z.p]++[]) 0) (.e E Q) H:=λn=>by
  replace q:=(Kn n)▸q;refine cC<|Ad<|wa<|aX (.U ((.ao (.J rfl)<|.b i rfl)) .e cR) ⟨λe=>(bw e),λy=>(bT _ .e (λe=>?_) λe=>?_)⟩
  ·have p:Li≠999:=λh=>by replace e:=h▸e;exact absurd e (by decide)
   replace q:=(decide_eq_false p)▸q;exact wa<|gQ<|bx<|a7 (.J rfl) hp .I<|mU L i c hd hl<|cF .I<|J8 L ⟨λy=>q,λe=>bC e⟩
  ·have h:Li=999:=rE e;replace q:=(decide_eq_true h)▸q;exact ae e q
 refine L.1 (n:=7651) rfl rfl ?_;cases c.7 with
 | I=>exact cz (.aB<|.dJ (d:=af) j)<|b λz=>cm z λz z e z=>gw e
 | @u g a il s l x n r=>
  replace hf:=dK▸hf;refine ay (c.e<|aD (.I (.v 0)<|.n 1000000) (.I (.a (.v 0)<|.n 1)<|.n 1000000) rfl [] [_] hf) λm o=>?_;obtain⟨⟨v,t,e,_⟩,_⟩:=m;refine gF (.aB<|.cB (d:=af) j<|.lS (.ah (.U (.ao (.ak (.ao (.J rfl)<|.b hp rfl) (.fg .e) o)<|.b e rfl) .e cj) .e) .gm) (λh=>?_) λh=>b ?_
  ·rw [pR] at h;replace q:=(D7.mpr<|cL g s rfl<|rE h)▸q;exact aY .e q
  ·rw [pR] at h;rintro⟨_,_,e,z⟩;obtain rfl:=(jA e).1;obtain rfl:=(jA e).2;replace h:=z▸h;exact absurd h (by decide)
variable {s:Str} (m:s∈b.U) {tok:aE} {p:Nat}
include m
omit m in
theorem Yz(e:f.U=af)(n:¬nX fr)(h:Li=999\/f.e=af)(q:∀g,dQ Z.p H g->g Z.p=aa (bc Z b pl Li (aa<|.j s) 0 nx)->Q (.x 1) g):CP (k+3) 758 [.d Z.p, .x<|b.e s,aR p tok] E Q H:=by
 have d:=hp;unfold bc at hp;refine L.1 (n:=7583) rfl rfl<|di<|cD<|gQ<|bx<|a7 (.J rfl) hp .I<|mU L d c hd hl<|cF .I<|Av L<|bT _ .e (λz=>di<|tZ<|cD<|a7 (.J rfl) hp .I<|Km L d c hl hf hd ⟨_, .e,λa=>?_,λz=>?_⟩) λa=>(by rw [e] at a;exact bC a)
 ·exfalso;rw [Kn n] at a;refine cO h (λh=>?_) λh=>?_
  ·rw [decide_eq_true h] at a;exact bw a
  ·rw [h,Bool.or_true] at a;exact bw a
 ·exact bj<|cC<|jL (.J rfl) hp<|bx<|bV (aC rfl)<|DI L<|cF (vs:=[.x 0]) ((aC rfl))<|pB L (x:= .j s) d q
omit m in
theorem YA(e:f.U=af)(n:nX fr\/¬(Li=999\/f.e=af))(q:∀i s,Fr [] H i->E [.z s, .x p, .x 0, .x 0] i):CP (k+3) 758 [.d Z.p, .x<|b.e s,aR p tok] E Q H:=by
 have g:=hp;unfold bc at hp;refine L.1 (n:=7583) rfl rfl<|di<|cD<|gQ<|bx<|a7 (.J rfl) hp .I<|mU L g c hd hl<|cF .I<|Av L<|bT _ .e (λz=>di<|tZ<|cD<|a7 (.J rfl) hp .I<|Km L g c hl hf hd ⟨_, .e,λz=>?_,λa=>?_⟩) λa=>(by rw [e] at a;exact bC a)
 ·refine vI<|a7 (.J rfl) hp (vs:=[.z zT,aR p tok]) ((aC rfl))<|Aw L λx d j=>⟨x,d,_,rfl,aQ,q _ _<|sD j⟩
 ·exfalso;refine cO n (λn=>?_) λn=>?_
  ·rw [D7.mpr n] at a;exact bC a
  ·rw [decide_eq_false λh=>n<|.inl h,Bool.eq_false_iff.mpr λh=>n<|.inr h,sY,Bg] at a;exact bC a
omit hf in
theorem YB(e:f.U=ai)(n:∀q y,(bf Z.T).bp s=aa (q,y)->¬q<=Li)(q:∀r s,Fr [] H r->E [.z s, .x p, .x 0, .x 0] r):CP (k+3) 758 [.d Z.p, .x<|b.e s,aR p tok] E Q H:=by
 have h:=hp;delta bc at hp;refine L.1 (n:=7583) rfl rfl<|di<|cD<|gQ<|bx<|a7 (.J rfl) hp .I<|mU L h c hd hl<|cF .I<|Av L<|bT _ .e (λo=>(by rw [e] at o;exact bw o)) λz=>bj<|bz<|a7 ((.ao (.J rfl)<|.b h rfl)) c.3.1 (vs:=[.x<|b.e s]) ((aC rfl))<|JO L c.3 c.4 m ?_
 have g:aw (CP<|k+2) (.u (.j<|.I (.J 0) 843 709<|.u (.e<|.z zT)<|.u (.J 2) .I) .I) ((iF ([.d Z.p, .x<|b.e s,aR p tok]++[]) 2).set 3<|aa<|oV<|bK Z.T.bp s) {bA.e E Q with nx:=λρ H=>aw (CP<|k+2) (ck 3 IA) ρ (.e E Q) H} H:=
  vI (a7 (.J rfl) hp (vs:=[.z zT,aR p tok]) ((aC rfl))<|Aw L λx d t=>⟨x,d,_,rfl,aQ,q _ _<|sD t⟩)
 cases j:bK Z.T.bp s with| none=>rw [j] at g;exact cY (.cQ<|.dJ (d:=ai)<|.ah (.U (.J rfl) .e .d) .e) g| some i=>rw [j] at g;have l:=cg.j (H:=H) (a:=i.1) (b:=Li);rw [decide_eq_true (by have:=n i.1 (de i.1 i.2).2 (by refine(?_:(bK Z.T.bp s).map _=_);rw [j];rfl);exact aD (.U (.v 0)<|.v 1) (.Nl (.v 1)<|.v 0) rfl [_,_] [] this)] at l;exact cY (.cQ<|.cB (d:=ai) (.ah (.U (.J (v:=eV i) rfl) .e .d) .e)<|.dJ (d:=ai)<|.ah (.U (.ak (a:=eV i) (.J rfl) .e<|.U rfl rfl) ((.ao (.J rfl)<|.b h rfl)) l) .e) g
end
section
variable {Z:PZ} {b:Bk} {pl:Nat} {Li:Int} {t:Option Tm} {pr nx:Int} {fr:List cI} {fas:List (Nat×Nat)} {v:VS}
 (hp:H Z.p=aa (bc Z b pl Li t pr nx)) (c:b8 H Z b fr fas v) (hl:Z.aB.length<=1000000) (hf:fas.length<=1000000)
include L hp c hl hf
theorem YC(hd:Z.aB.drop pl=(f,Y)::rest)(m:s∈b.U)(hi:iu b t)(e:f.U=ai)(he:bK Z.T.bp s=aa g)(hq:g.1<=Li)
 (q:∀w F a il,Fr [1,2,3,4,16,1843] H w->b.I F->w Z.p=aa (bc Z F pl (de g.1 g.2).2 t pr nx)->b8 w Z F (⟨fm,Li,s,g.1,ag,[]⟩::fr) ((a,il)::fas) v->Q (.x 0) w):CP (k+3) 758 [.d Z.p, .x<|b.e s,aR p tok] E Q H:=by
 have h:=hp;skip;refine L.1 (n:=7583) rfl rfl<|di<|cD<|gQ<|bx<|a7 (.J rfl) hp .I<|mU L h c hd hl<|cF .I<|Av L<|bT _ .e (λU=>(by rw [e] at U;exact bw U)) λz=>bj<|bz<|a7 (by exact(.ao (.J rfl)<|.b h rfl)) c.3.1 (vs:=[.x<|b.e s]) (by exact(aC rfl))<|JO L c.3 c.4 m<|ae he ?_;have T:=cg.j (H:=H) (a:=g.1) (b:=Li);rw [decide_eq_false<|by exact aD (.Nt (.v 0)<|.v 1) (.Le (.v 1)<|.v 0) rfl [_,_] [] hq] at T;refine cz (.cQ<|.cB (d:=ai) (.ah (.U (.J (v:=eV g) rfl) .e .d) .e)<|.cB (.ah (.U (.ak (a:=eV g) (.J rfl) .e<|.U rfl rfl) ((.ao (.J rfl)<|.b h rfl)) T) .e) .gm)<|bz<|Kg L (s:=fm) (n:=Li) ((.u .e<|.u (.ao (.J rfl)<|.b h rfl) .I)) λH2 a il G J ni ha C=>?_;have R:=G _ _ hp rfl;have D:=c.U G rfl;refine qz<|a7 ((.ao (.J rfl)<|.b R rfl)) D.1.1 (vs:=[.x<|b.e s, .x (1:Nat)]) ((aC rfl))<|yc L (x:=(b.e s,1)) D.1 ⟨Bk.yb D.1.6 m,(by decide:(1:Nat)<10)⟩ λW A b3=>?_;have i:=b.x9 (b.e s,1);have K:(b.u (b.e s,1)).e s=b.e s:=i8 i m;have fe:(b.u (b.e s,1)).kr (b.e s,1)=(b.u (b.e s,1)).fn s 1:=by unfold Bk.fn;exact ae K rfl
 have h3:=A _ _ R rfl;have u:=A _ _ ha rfl;have M:=A _ _ C rfl;refine mO (.J rfl) u<|jT (v:= .x g.1) (.ak (a:=eV g) (.J rfl) .e<|.U rfl rfl)<|mO (.J rfl) aQ ?_;generalize N:(W.J a _).J a _=j;have e5:j a=aa (t8 fm Li ((b.u (b.e s,1)).kr (b.e s,1)) (-1) g.1 .f il):=by exact ae N.symm aQ
 have B:dQ a W j:=λy d I o=>by exact ae N.symm<|gc I<|gc I o
 have P:=B _ _ (fT h3 u rfl) h3;have i5:=B _ _ (fT M u rfl) M;have l:Fr gR H j:=λy d o s=>B y d (gG o J)<|A _ _ (G y d o rfl) s;have r:=c.u l (b3.J (B.J u (S:=[1635]) rfl) rfl) i
 have fx:jV j (b.u (b.e s,1)) ⟨fm,Li,s,g.1,ag,[]⟩ a il:=
  ⟨⟨((b.u (b.e s,1)).kr (b.e s,1):Int), -1,e5,λz=>⟨i.1.subset m,by refine ae K ?_;exact b.ya _,congrArg gS fe⟩,λe=>absurd e (by decide:fm≠ic)⟩,i5,trivial,trivial⟩
 refine dB<|jt ((.ao (.J rfl)<|.b P rfl)) (.J rfl) r.6 (by rw [yW,bB];skip;exact aD (.e (.v 0)<|.n 16777216) (.I (.v 0)<|.n 1000000) rfl [] [_] hf) ?_;have c6:=r.nY fx<|c.I J ni;have O:=cH (d:= .u 16<|(fas.map λx=>V.d x.1).reverse++[.d a]) r.6 P rfl;refine qz<|mQ<|gQ<|cF (vs:=[.x g.1, .z g.2]) (.u (.ak (a:=eV g) (.J rfl) .e<|.U rfl rfl)<|.u (.ak (a:=eV g) (.J rfl) .e<|.U rfl rfl) .I)<|DD L<|aX .e ⟨.x (de g.1 g.2).2, .U rfl rfl,mO (.J rfl) O<|aY .e ?_⟩;have X:Fr [1843] (j.J Z.e<|.u 16<|(fas.map λx=>V.d x.1).reverse++[.d a]) _:= .J (c:= .b 843<|[aa<|.d Z.A.b,aa<|.d Z.O.o,aa<|.z kf,aa<|.d Z.U,aa<|.x (pl:Int),aa<|.d Z.e,aa<|.x (de g.1 g.2).2,aa<|dG b t,aa<|.x pr,aa<|.d Z.J,aa<|.d Z.nl,aa<|.d Z.cd,aa<|.x nx]) O rfl;exact q _ _ a il (((l.U rfl).u<|(Fr.J r.6 rfl:Fr [16] _ _).U rfl).u<|X.U rfl) i (ae (yi i hi) aQ)<|c6.U X rfl
omit hl hf in
theorem YD(q:∀h,Fr [] H h->Q (tv b pb) h):CP (k+2) 777 [.d Z.p, .U [.x 97, .x 34]] E Q H:=by
 unfold bc at hp;refine L.1 (n:=7772) rfl rfl<|cz (.ah (.U ((.ao (.J rfl)<|.b hp rfl)) .e<|cj (a:=kf)) .e)<|cz (.ah (.U ((.ao (.J rfl)<|.b hp rfl)) .e<|cj (a:=kf)) .e)<|cC<|gQ<|bx<|xY (f:=λv=> .U [.z nT,v]) (.J rfl) .U trivial (by decide) (λv g K q=>?_) λy l=>?_
 ·have:∃i,v= .x i:=by
   (refine cO (dH.mp g) (λd=>?tl) λg=>?tr;case' tl=>obtain rfl:=d)
   ·exact⟨_,rfl⟩
   ·exact⟨34,d5.mp g⟩
  obtain⟨i,rfl⟩:=this;exact bV (aC rfl)<|DJ L q
 ·have tl:=pq c.2 gk [.x 97, .x 34];have j:=qE c.2;refine cF .I<|JK L aQ<|ae j.1.symm ?_;have e:tv b pb=oh (eU b [.x 97, .x 34]) (tv b gk):=tl.1;replace q:=e▸q;exact q _<|.aT l
end
theorem YG(h:f≠ .b):(dg f==mH)=false:=by induction f<;>first | exact absurd rfl h | rfl
section
variable {Z:PZ} {b:Bk} {pl:Nat} {Li:Int} {t:Option Tm} {pr nx:Int} {fr:List cI} {fas:List (Nat×Nat)} {v:VS}
 (hp:H Z.p=aa (bc Z b pl Li t pr nx)) (c:b8 H Z b fr fas v) (hl:Z.aB.length<=1000000)
include L hp c hl
theorem Ko(m:s∈b.U)(hd:Z.aB.drop pl=(f,e)::rest)(hf:f≠ .b)(B:tok= .u dU->∀i g,f= .x i g->¬e=p+1)
 (q:((bf Z.T).e s=af->CP (k+3) 758 [.d Z.p, .x<|b.e s,aR p tok] E Q H)/\((bf Z.T).e s=ai->∀w,dQ Z.p H w->w Z.p=aa (bc Z b pl Li (aa<|.j s) 0 nx)->Q (.x 1) w)):CP (k+4) 751 [.d Z.p, .x<|b.e s,aR p tok] E Q H:=by
 have l:=hp;unfold bc at hp;refine L.1 (n:=7513) rfl rfl<|bz<|a7 (.J rfl) hp .I<|mU L l c hd hl ?_;have v:=pD (H:=H) (ρ:=(iF ([.d Z.p, .x<|b.e s,aR p tok]++[]) 1).set 3<|aa<|aR e f) (i:=3) (s:=mH) rfl;replace v:=(YG hf)▸v
 have u:fE H ((iF ([.d Z.p, .x<|b.e s,aR p tok]++[]) 1).set 3<|aa<|aR e f) (.aB<|.u (.ah<|.U (.ak (.J 2)<|.e<|.x 0) .Eq<|.e<|.z fS)<|.u (.ah<|.U (.ak (.J 2)<|.e<|.x 1) .Eq<|.e<|.z dU)<|.u (.ah<|.U (.ak (.J 3)<|.e<|.x 0) .Eq<|.e<|.z lL)<|.u (.ah<|.U (.ak (.J 3)<|.e<|.x 2) .Eq<|.aS 0 .Add (.ak (.J 2)<|.e<|.x 2)<|.e<|.x 1) .I) false:=by
  have o:=pD (H:=H) (ρ:=(iF ([.d Z.p, .x<|b.e s,aR p tok]++[]) 1).set 3<|aa<|aR e f) (i:=2) (s:=fS) rfl;have r:=pD (H:=H) (ρ:=(iF ([.d Z.p, .x<|b.e s,aR p tok]++[]) 1).set 3<|aa<|aR e f) (i:=3) (s:=lL) rfl;have nm:(∃a,tok= .u a)\/(dg tok==fS)=false:=by induction tok<;>first | exact .inl ⟨_,rfl⟩ | exact .inr rfl
  have A:(∃i g,f= .x i g)\/(dg f==lL)=false:=by induction f<;>first | exact .inl ⟨_,_,rfl⟩ | exact .inr rfl
  rcases nm with ⟨a,rfl⟩ | h
  ·have t:=cj (H:=H) (a:=a) (b:=dU);by_cases z:a=dU
   ·subst z;refine .aB<|.cB (d:=af) o<|.cB (.ah (.U (.ak (a:=aR p<|.u dU) (.J rfl) .e<|.U rfl rfl) .e t) .e) ?_;rcases A with ⟨i,g,rfl⟩ | h
    ·exact .cB r<|.dJ (d:=af)<|.ah (.U (.ak (a:=aR e<|.x i g) (.J rfl) .e<|.U rfl rfl) (.aS (.ak (a:=aR p<|.u dU) (.J rfl) .e<|.U rfl rfl) .e<|.x .J)<|kX (by have:=B rfl i g rfl;exactλy=>(iP this).elim (λj=>bJ .a (.J (.c<|.v 0)<|.a (.c<|.v 1)<|.n 1) (.e (.v 0)<|.a (.v 1)<|.n 1) rfl [] [_,_] y j) λj=>bJ .a (.e (.a (.v 0)<|.n 1)<|.v 1) (.Eq (.c<|.v 1)<|.a (.c<|.v 0)<|.n 1) rfl [] [_,_] j y)) .e
    ·replace r:=h▸r;exact .dJ (d:=af) r
   ·replace t:=(beq_false_of_ne z)▸t;exact .aB<|.cB (d:=af) o<|.dJ (d:=af)<|.ah (.U (.ak (a:=aR p<|.u a) (.J rfl) .e<|.U rfl rfl) .e t) .e
  ·replace o:=h▸o;exact .aB<|.dJ (d:=af) o
 refine cz v<|cz u<|di<|cD<|a7 ((.ao (.J rfl)<|.b l rfl)) c.3.1 (vs:=[.x<|b.e s]) ((aC rfl))<|W0 L c.3 c.4 m<|bT _ .e (λh=>?_) λh=>?_
 ·exact cC<|a7 (.J rfl) hp (aC rfl)<|q.1 (by rw [AF];exact h)
 ·exact bj<|cC<|jL (.J rfl) hp<|bx<|bV (aC rfl)<|DI L<|cF (vs:=[.x 0]) ((aC rfl))<|pB L (x:= .j s) l<|q.2 (by rw [AF];exact h)
theorem YE(m:s∈b.U)(hf:fas.length<=1000000)(hd:Z.aB.drop pl=(.b,g)::rest)
 (q:∀e a il,Fr [1843,16] H e->e Z.p=aa (bc Z b (pl+1) 999 t pr nx)->b8 e Z b (⟨ic,Li,s,0,ag,[]⟩::fr) ((a,il)::fas) v->Q (.x 0) e):CP (k+4) 751 [.d Z.p, .x<|b.e s,aR p tok] E Q H:=by
 have d:=hp;skip;refine L.1 (n:=7513) rfl rfl<|bz<|a7 (.J rfl) hp .I<|mU L d c hd hl<|cY (pD (tok:= .b) (p:=g) rfl)<|dB<|a7 (.J rfl) hp .I<|qM L d c hd hl λu x h=>?_;have i:Fr [1843] H u:=x.J hp rfl;have o:=c.U i rfl;have f:=h;skip;exact cC<|a7 (.J rfl) h (vs:=[.z ic, .x<|b.e s, .x 999]) ((aC rfl))<|Ay L f o hf (fn:=s) (λz=>⟨m,rfl⟩) (by decide) λr a il w j l=>q r a il ((i.U rfl).u w) j l
theorem YF(hd:Z.aB.drop pl=(.x i g,p+1)::rest)
 (q:∀f,Fr [1843] H f->f Z.p=aa (bc Z b (pl+1) Li (aa<|.x (-i)) 0 nx)->b8 f Z b fr fas v->Q (.x 1) f):CP (k+4) 751 [.d Z.p, .x n,aR p<|.u dU] E Q H:=by
 have e:=hp;skip;refine L.1 (n:=7513) rfl rfl<|bz<|a7 (.J rfl) hp .I<|mU L e c hd hl ?_;have y:=pD (H:=H) (ρ:=(iF ([.d Z.p, .x n,aR p<|.u dU]++[]) 1).set 3<|aa<|aR (p+1)<|.x i g) (i:=2) (tok:= .u dU) (s:=fS) rfl;have w:=pD (H:=H) (ρ:=(iF ([.d Z.p, .x n,aR p<|.u dU]++[]) 1).set 3<|aa<|aR (p+1)<|.x i g) (i:=3) (tok:= .x i g) (s:=lL) rfl;have l:=cR (H:=H) (a:=((p+1:Nat):Int)) (b:=p+1);rw [show(((p+1:Nat):Int)==(p:Int)+1)=af from beq_iff_eq.mpr rfl] at l;refine cz (pD (tok:= .x i g) (p:=p+1) rfl)<|cY (.aB<|.cB (d:=af) y<|.cB (.ah (.U (.ak (a:=aR p<|.u dU) (.J rfl) .e<|.U rfl rfl) .e<|cj (b:=dU)) .e)<|.cB w<|.cB (.ah (.U (.ak (a:=aR (p+1)<|.x i g) (.J rfl) .e<|.U rfl rfl) (.aS (.ak (a:=aR p<|.u dU) (.J rfl) .e<|.U rfl rfl) .e<|.x .J) l) .e) .gm)<|dB<|a7 (.J rfl) hp .I<|qM L e c hd hl λo A j=>?_;have t:Fr [1843] H o:=A.J hp rfl;have h:=j;skip;refine cC<|jL (.J rfl) j<|bx<|bV (vs:=[.x (-i)]) (.u (.fg<|.ak (a:=aR (p+1)<|.x i g) (.J rfl) .e<|.U rfl rfl) .I)<|DJ L<|cF (vs:=[.x 0]) ((.u .e .I))<|pB L (x:= .x (-i)) h λm z u=>?_;have r:Fr [1843] o m:=z.J j rfl;exact q m (t.u r) u<|(c.U t rfl).U r rfl
end
section
variable {Z:PZ} {b:Bk} {pl:Nat} {fas:List (Nat×Nat)} {σ σ':PS} {d:Bool}
noncomputable abbrev qQ(Z:PZ)(p:Nat)(t:aE):aA:=[aa<|.d Z.p,aa<|aR p t,aa<|.z<|dg t]
include L
theorem vO(P:cA H Z b pl fas ⟨tok::r,fr,Li,t,p,v⟩)
 (q:∀c a rest,Fr [1843] H c->c Z.p=aa (bc Z b (pl+1) Li t p v.nx)->b8 c Z b fr fas v->(tok,a)::rest=Z.aB.drop pl->rest.map (·.1)=r->Z.aB.drop (pl+1)=rest->(tok,a)∈Z.aB->fas.length<=1000000->pl<=1000000->aw (CP<|k+1) (ck 2 zV) (qQ Z a tok) (.e E Q) c):CP (k+2) 744 [.d Z.p] E Q H:=by
 refine fV (P.J rfl) λa rest hd h d i=>ay (P.I rfl) λg f=>?_;have hp:=P.1;skip;refine L.1 (n:=7441) rfl rfl<|bz<|a7 (.J rfl) hp .I<|qM L P.1 P.2 hd P.8 λc l j=>?_;have e:Fr [1843] H c:=l.J hp rfl;have:=q c a rest e j (P.2.U e rfl) hd.symm h d i f g;rw [show qQ Z a tok=[aa<|.d Z.p,aa<|.U [.z<|dg tok,D1 tok, .x a],aa<|.z<|dg tok] by rw [qQ,pz]] at this;rw [pz];exact bQ (.ak (.J rfl) .e<|.U rfl rfl) this
omit L in
theorem sk{CP:Nat->List V->EP->QV->HP->Prop}{P:bA}(h:ρ[2]?=aa (aa<|.z s))(n:(s==K)=ai)(q:aw CP r ρ P H):aw CP (.u (.d (.ah<|.U (.J 2) .Eq<|.e<|.z K) a .I) r) ρ P H:=
 cz (.ah (.U (.J h) .e<|n▸cj) .e) q
omit L in
theorem D8{K b:Str}{a:SL}{r:SL}{CP:Nat->List V->EP->QV->HP->Prop}{P:bA}(h:ρ[2]?=aa (aa<|.z s))(n:(s==K)=ai)(c:(s==b)=ai)(q:aw CP r ρ P H):aw CP (.u (.d (.cQ<|.u (.ah<|.U (.J 2) .Eq<|.e<|.z K)<|.u (.ah<|.U (.J 2) .Eq<|.e<|.z b) .I) a .I) r) ρ P H:=
 cz (.cQ<|.cB (.ah (.U (.J h) .e<|n▸cj) .e)<|.cB (.ah (.U (.J h) .e<|c▸cj) .e) .gm) q
omit L in
theorem tk{a b:SL}{r:SL}{CP:Nat->List V->EP->QV->HP->Prop}{P:bA}(h:ρ[2]?=aa (aa<|.z s))(q:aw CP a ρ {P with nx:=λρ H=>aw CP r ρ P H} H):aw CP (.u (.d (.ah<|.U (.J 2) .Eq<|.e<|.z s) a b) r) ρ P H:=
 cY (.ah (.U (.J h) .e (by have:=cj (H:=H) (a:=s) (b:=s);rwa [beq_self_eq_true] at this)) .e) q
omit L in
theorem cA.jE{d:Bk}{a:List (Nat×Nat)}{tok r fr Li t p v}(P:cA H Z b pl fas ⟨tok::r,fr,Li,t,p,v⟩){rest:List (aE×Nat)}(j:rest.map (·.1)=r)(e:Z.aB.drop (pl+1)=rest){Li' t' p'}(h:f Z.p=aa (bc Z d (pl+1) Li' t' p' v.nx))(c:b8 f Z d fr a v)(i:iu d t'):
 cA f Z d (pl+1) a ⟨r,fr,Li',t',p',v⟩:=⟨h,c,by refine ae e ?_;exact j,i,dM P.5,λg k=>dM<|P.6 g k,dM P.7,P.8⟩
theorem YH{i g r fr Li t p v}(P:cA H Z b pl fas ⟨.x i g::r,fr,Li,t,p,v⟩)(K:iw H Z b ⟨r,fr,Li,aa<|.x i,0,v⟩ (Q<|.x 1)):CP (k+3) 744 [.d Z.p] E Q H:=
 vO L P λo j rest q e n hd l c y u w=>by have d:=e;skip;refine tk rfl<|cC<|jL (.J rfl) e<|bx<|bV (vs:=[.x i]) (.u (.ak (a:=aR j<|.x i g) (.J rfl) .e<|.U rfl rfl) .I)<|DJ L<|cF (vs:=[.x 0]) ((.u .e .I))<|pB L (x:= .x i) d λf s m=>?_;have h:Fr [1843] o f:=s.J e rfl;exact K f b (pl+1) fas ((q.u h).U rfl) (.I _)<|P.jE l c m (n.U h rfl) trivial
theorem YK{s n r fr Li t p v v'}(P:cA H Z b pl fas ⟨.d s::r,fr,Li,t,p,v⟩)(U:v.nW s v' n)(K:iw H Z b ⟨r,fr,Li,aa<|.d n,0,v'⟩ (Q<|.x 1)):CP (k+4) 744 [.d Z.p] E Q H:=
 vO L P λD j rest z e u hd m c C B l=>by
  have d:=e;skip;refine sk rfl rfl<|tk rfl<|cC<|jL (.J rfl) e<|bx<|a7 (.J rfl) e (vs:=[.z s]) (.u (.ak (a:=aR j<|.d s) (.J rfl) .e<|.U rfl rfl) .I)<|X7 L d u U (aH P.7 l) λw y f q=>cF (vs:=[.x 0]) ((aC rfl))<|pB L (x:= .d n) f λh A h3=>?_;have i:Fr [1843] w h:=A.J f rfl;refine K h b (pl+1) fas (((z.U rfl).u<|y.U rfl).u<|i.U rfl) (.I _) ⟨h3,q.U i rfl,by refine ae c ?_;exact m,trivial,dM P.5,λg o=>dM<|P.6 g o,?_,P.8⟩;induction U with
  | a=>exact dM P.7| aT=>skip;exact ae bI<|jP P.7| p=>exact dM P.7
theorem YJ{r fr Li t p v}(P:cA H Z b pl fas ⟨.z::r,fr,Li,t,p,v⟩)(K:iw H Z b ⟨r,fr,Li,aa pb,0,v⟩ (Q<|.x 1)):CP (k+4) 744 [.d Z.p] E Q H:=
 vO L P λw j rest n d e hd l g u q s=>by have c:=d;skip;refine sk rfl rfl<|sk rfl rfl<|tk rfl<|cC<|jL (.J rfl) d<|bx<|a7 (.J rfl) d (vs:=[.U [.x 97, .x 34]]) (.u (.ak (a:=aR j .z) (.J rfl) .e<|.U rfl rfl) .I)<|YD L c e λm f=>cF (vs:=[.x 0]) ((aC rfl))<|pB L (x:=pb) (f _ _ c rfl) λh o h3=>?_;have i:Fr [1843] m h:=o.J (f _ _ d rfl) rfl;exact K h b (pl+1) fas (((n.U rfl).u<|f.U rfl).u<|i.U rfl) (.I _)<|P.jE l g h3 ((e.U f rfl).U i rfl)<|(pq e.2 gk [.x 97, .x 34]).2 ⟨trivial,trivial,trivial⟩ (qE e.2).2
theorem YI{tok r fr Li t p v}(P:cA H Z b pl fas ⟨tok::r,fr,Li,t,p,v⟩)(h:tok= .l\/tok= .b)(K:iw H Z b ⟨r,⟨lM,Li,fR,0,ag,[]⟩::fr,1200,t,p,v⟩ (Q<|.x 0)):CP (k+4) 744 [.d Z.p] E Q H:=
 vO L P λy l rest A j w hd o f C m B=>by
  have i:=j;unfold bc at j
  have s:fE y (qQ Z l tok) (.cQ<|.u (.ah<|.U (.J 2) .Eq<|.e<|.z r8)<|.u (.ah<|.U (.J 2) .Eq<|.e<|.z mH) .I) true:=by
   rcases h with rfl | rfl
   ·exact .cQ<|.dJ (d:=ai)<|.ah (.U (.J rfl) .e<|cj (a:=r8)) .e
   ·exact .cQ<|.cB (d:=ai) (.ah (.U (.J rfl) .e<|cj (a:=mH)) .e)<|.dJ (d:=ai)<|.ah (.U (.J rfl) .e<|cj (a:=mH)) .e
  have n:(dg tok==lL)=ai/\(dg tok==r9)=ai/\(dg tok==tO)=false:=by rcases h with rfl | rfl<;>exact⟨rfl,rfl,rfl⟩
  refine sk rfl n.1<|sk rfl n.2.1<|sk rfl n.2.2<|cY s<|cC<|a7 (.J rfl) j (vs:=[.z lM, .x (-1), .x 1200]) ((aC rfl))<|Ay L i w m (fn:=fR) (λe=>absurd e<|by decide) (by decide) λx a il z q u=>K x b (pl+1) _ ((A.U rfl).u<|z.U rfl) (.I _) ⟨q,u,by refine ae f ?_;exact o,P.4,jP P.5,λg c=>?_,dM P.7,P.8⟩;rcases dH.mp c with rfl | c
  ·exact dR _
  ·exact dM<|P.6 g c
end
section
variable {Z:PZ} {b:Bk} {pl:Nat} {fas:List (Nat×Nat)} {σ σ':PS} {d:Bool}
include L
theorem D9(P:cA H Z b pl fas ⟨tok::r,fr,Li,t,p,v⟩)(l:dP tok s)(j:s∈cy)
 (q:∀g c e rest,Fr [1,2,3,4,1843] H g->b.I c->s∈c.U->g Z.p=aa (bc Z c (pl+1) Li t p v.nx)->b8 g Z c fr fas v->(tok,e)::rest=Z.aB.drop pl->rest.map (·.1)=r->Z.aB.drop (pl+1)=rest->iu c t->fas.length<=1000000->pl<=1000000->CP (k+1) 751 [.d Z.p, .x<|c.e s,aR e tok] E Q g):CP (k+2) 744 [.d Z.p] E Q H:=
 vO L P λA e rest I w x hd D o m B C=>by
  have h:=w;unfold bc at w
  have F:fE A (qQ Z e tok) (.cQ<|.u (.ah<|.U (.J 2) .Eq<|.e<|.z fS)<|.u (.ah<|.U (.J 2) .Eq<|.e<|.z kR) .I) true:=by
   revert P j q hd m;induction l with
   | u=>intro P j q hd m;exact .cQ<|.dJ (d:=ai)<|.ah (.U (.J rfl) .e<|cj (a:=fS)) .e| f=>intro P j q hd m;exact .cQ<|.cB (d:=ai) (.ah (.U (.J rfl) .e<|cj (a:=kR)) .e)<|.dJ (d:=ai)<|.ah (.U (.J rfl) .e<|cj (a:=kR)) .e
  have n:(dg tok==lL)=ai/\(dg tok==r9)=ai/\(dg tok==tO)=ai/\(dg tok==r8)=ai/\(dg tok==mH)=false:=by induction l<;>exact⟨rfl,rfl,rfl,rfl,rfl⟩
  have G:Ev A (qQ Z e tok) (.ak (.J 1)<|.e<|.x 1) (.z s):=by induction l<;>exact .ak (.J rfl) .e<|.U rfl rfl
  refine sk rfl n.1<|sk rfl n.2.1<|sk rfl n.2.2.1<|D8 rfl n.2.2.2.1 n.2.2.2.2<|cY F<|cC<|jL (.J rfl) w<|bx<|a7 ((.ao (.J rfl)<|.b h rfl)) x.1.1 (vs:=[.z s]) (.u G .I)<|qC L x.1 j λg y c=>cF (vs:=[aR e tok]) (aC rfl) ?_;have i:=b.lV s;have z:=y _ _ h rfl;rw [<-yi i P.4] at z;exact q g _ e rest ((I.U rfl).u<|y.U rfl) i (b.pn s) z (x.u y c i) hd D o (qL i P.4).2 B C
omit L in
theorem cA.nY{d:Bk}{a:List (Nat×Nat)}{toks r fr Li t p v}(P:cA H Z b pl fas ⟨toks,fr,Li,t,p,v⟩){n:Nat}{f:cI}{Li' t' p'}(h:j Z.p=aa (bc Z d (pl+(n+1)) Li' t' p' v.nx))(c:b8 j Z d (f::fr) a v)(hf:f.a=[])(k:(Z.aB.drop<|pl+(n+1)).map (·.1)=r)(i:iu d t'):
 cA j Z d (pl+(n+1)) a ⟨r,f::fr,Li',t',p',v⟩:=⟨h,c,k,i,jP (aH P.5 (fz _ _)),λg e=>by
 rcases dH.mp e with rfl | e
 ·exact ae hf<|dR _
 ·exact aH (P.6 g e) (fz _ _),aH P.7 (fz _ _),P.8⟩
omit L in
theorem cA.u{d:HP}{a:Bk}{toks r fr Li t p v}(P:cA H Z b pl fas ⟨toks,fr,Li,t,p,v⟩){n:Nat}{Li' t' p'}(h:d Z.p=aa (bc Z a (pl+n) Li' t' p' v.nx))(c:b8 d Z a fr fas v)(e:(Z.aB.drop<|pl+n).map (·.1)=r)(i:iu a t'):
 cA d Z a (pl+n) fas ⟨r,fr,Li',t',p',v⟩:=⟨h,c,e,i,aH P.5<|fz _ _,λg f=>aH (P.6 g f)<|fz _ _,aH P.7<|fz _ _,P.8⟩
theorem YM(P:cA H Z b pl fas ⟨tok:: .b::r,fr,Li,t,p,v⟩)(l:dP tok s)(j:s∈cy)(K:iw H Z b ⟨r,⟨ic,Li,s,0,ag,[]⟩::fr,999,t,p,v⟩ (Q<|.x 0)):CP (k+5) 744 [.d Z.p] E Q H:=
 D9 L P l j λF w B rest A g m o u hd c d i h D=>by
  induction rest with
  | nil=>exact gw c
  | cons y rest=>obtain⟨f,C⟩:=y;replace c:=gX▸c;injection c with e c;obtain rfl:=e;exact YE L o u P.8 m h d λx a il z h3 q=>K x w (pl+2) _ ((A.U rfl).u<|z.U rfl) g<|P.nY (n:=1) h3 q rfl (ae (show pl+2=pl+1+1 from rfl)<|ae pY.symm<|ae d c) i
theorem YP(l:jv Z.aB)(P:cA H Z b pl fas ⟨.u dU:: .x i af::r,fr,Li,t,p,v⟩)(K:iw H Z b ⟨r,fr,Li,aa<|.x (-i),0,v⟩ (Q<|.x 1)):CP (k+5) 744 [.d Z.p] E Q H:=
 D9 L P .u (by decide) λG w C rest A j m o s hd a c B D F=>by
  induction rest with
  | nil=>exact gw a
  | cons y rest=>
   obtain⟨f,h⟩:=y;replace a:=gX▸a;injection a with d a;obtain rfl:=d;have g:=l.nI (n:=pl);replace g:=hd.symm▸g;cases g with
   | u g _=>have e:=(g rfl i af h rest rfl).mpr rfl;subst e;exact YF L o s P.8 c λx z h3 q=>K x w (pl+2) _ ((A.U rfl).u<|z.U rfl) j<|P.u (n:=2) h3 q (ae (show pl+2=pl+1+1 from rfl)<|ae pY.symm<|ae c a) trivial
theorem yo(M:jv Z.aB)(P:cA H Z b pl fas ⟨tok::f::r,fr,Li,t,p,v⟩)(K:dP tok s)(J:s∈cy)(hf:mK tok f)
 (q:∀d a o l rest,Fr [1,2,3,4,1843] H d->b.I a->s∈a.U->d Z.p=aa (bc Z a (pl+1) Li t p v.nx)->b8 d Z a fr fas v->(f,l)::rest=Z.aB.drop (pl+1)->(Z.aB.drop (pl+1)).map (·.1)=f::r->iu a t->fas.length<=1000000->pl<=1000000->
  ((bf Z.T).e s=af->CP (k+3) 758 [.d Z.p, .x (a.e s),aR o tok] E Q d)/\((bf Z.T).e s=ai->∀z,dQ Z.p d z->z Z.p=aa (bc Z a (pl+1) Li (aa (.j s)) 0 v.nx)->Q (.x 1) z)):CP (k+5) 744 [.d Z.p] E Q H:=
 D9 L P K J λd a o rest O F m A C hd j c D G I=>by
  cases rest with
  | nil=>exact gw j
  | cons y rest=>
   obtain⟨R,l⟩:=y;have x:=j;replace j:=gX▸j;injection j with w j;obtain rfl:=w;have g:=M.nI (n:=pl);replace g:=hd.symm▸g;cases g with
   | u g _=>refine Ko L A C P.8 m c hf.1 (λe i N B h=>?_)<|q d a o l rest O F m A C c.symm (ae c x) D G I;have:=(g e i N l rest<|ae B rfl).mp h;subst this;exact hf.2 i e B
theorem YN(j:jv Z.aB)(P:cA H Z b pl fas ⟨tok::f::r,fr,Li,t,p,v⟩)(i:dP tok s)(g:s∈cy)(hf:mK tok f)(o:(bf Z.T).e s=ai)(K:iw H Z b ⟨f::r,fr,Li,aa<|.j s,0,v⟩ (Q<|.x 1)):CP (k+5) 744 [.d Z.p] E Q H:=
 yo L j P i g hf λx w C D rest y d m q u l h B F G=>⟨λe=>(by rw [o] at e;exact bw e),λz a A h3=>by
  haveI c:Fr [1843] x a:=A.J q rfl
  exact K a w (pl+1) fas ((y.U rfl).u (c.U rfl)) d (P.u (n:=1) h3 (u.U c rfl) h m)⟩
theorem YL(x:jv Z.aB)(P:cA H Z b pl fas ⟨tok::f::r,fr,Li,t,p,v⟩)(w:dP tok s)(q:s∈cy)(hf:mK tok f)(o:(bf Z.T).e s=af)(e:f.U=af)(n:¬nX fr)(h:Li=999\/f.e=af)(K:iw H Z b ⟨f::r,fr,Li,aa<|.j s,0,v⟩ (Q<|.x 1)):CP (k+6) 744 [.d Z.p] E Q H:=
 yo L x P w q hf λA y F G rest B j m c d a u D l I=>⟨λz=>Yz L c d P.8 l a.symm e n h λg C h3=>by
  haveI i:Fr [1843] A g:=C.J c rfl
  exact K g y (pl+1) fas ((B.U rfl).u (i.U rfl)) j (P.u (n:=1) h3 (d.U i rfl) u m),λe=>(by rw [o] at e;exact bC e)⟩
theorem YR(B:jv Z.aB)(P:cA H Z b pl fas ⟨tok::f::r,fr,Li,t,p,v⟩)(A:dP tok s)(u:s∈cy)(hf:mK tok f)(e:f.U=ai)(hp:(bf Z.T).bp s=aa (q,y))(x:q<=Li)(K:iw H Z b ⟨f::r,⟨fm,Li,s,q,ag,[]⟩::fr,y,t,p,v⟩ (Q<|.x 0)):CP (k+6) 744 [.d Z.p] E Q H:=by
 haveI o:(bf Z.T).e s=true:=by unfold cX.e;rw [hp];rfl
 refine bR (D6 hp) λT C h i=>?_;obtain rfl:=h;obtain rfl:=i
 exact yo L B P A u hf λV U O R rest N j m D G d w g l S=>⟨λz=>YC L D G P.8 l d.symm m g e C x λJ I a il M c h3 F=>
  K J I (pl+1) _ ((N.U rfl).u (M.U rfl)) (j.u c) (P.nY (n:=0) h3 F rfl w (qL c g).2),λe=>(by rw [o] at e;exact bC e)⟩
theorem YO(q:jv Z.aB)(P:cA H Z b pl fas ⟨tok::f::r,fr,Li,t,p,v⟩)(l:dP tok s)(j:s∈cy)(hf:mK tok f)(o:(bf Z.T).e s=af)(e:f.U=af)(n:nX fr\/¬(Li=999\/f.e=af))(K:sE H Z b E):CP (k+6) 744 [.d Z.p] E Q H:=
 yo L q P l j hf λF w g B rest y h m u c a D A i C=>⟨λz=>YA L u c P.8 i a.symm e n λx s d=>K x w s g ((y.U rfl).u<|d.U rfl) h<|c.1.J d rfl,λe=>(by rw [o] at e;exact bC e)⟩
theorem YQ(l:jv Z.aB)(P:cA H Z b pl fas ⟨tok::f::r,fr,Li,t,p,v⟩)(j:dP tok s)(i:s∈cy)(hf:mK tok f)(o:(bf Z.T).e s=af)(e:f.U=ai)(n:∀q y,(bf Z.T).bp s=aa (q,y)->¬q<=Li)(K:sE H Z b E):CP (k+6) 744 [.d Z.p] E Q H:=
 yo L l P j i hf λI w g C rest A h m u c a G B D F=>⟨λz=>YB L u c P.8 a.symm m e n λx s d=>K x w s g ((A.U rfl).u<|d.U rfl) h<|c.1.J d rfl,λe=>(by rw [o] at e;exact bC e)⟩
end
section
variable {Z:PZ} {b:Bk} {pl:Nat} {fas:List (Nat×Nat)} {σ σ':PS} {d:Bool}
include L
theorem AH(P:cA H Z b pl fas ⟨tok::r,fr,Li,t,p,v⟩)(i:tok= .I\/∃c,tok= .a c)
 (q:∀a d rest,Fr [1843] H a->a Z.p=aa (bc Z b (pl+1) Li t p v.nx)->b8 a Z b fr fas v->(tok,d)::rest=Z.aB.drop pl->rest.map (·.1)=r->Z.aB.drop (pl+1)=rest->fas.length<=1000000->pl<=1000000->aw (CP<|k+1) (ck 7 zV) (qQ Z d tok) (.e E Q) a):CP (k+2) 744 [.d Z.p] E Q H:=
 vO L P λa d rest m j l hd h e o f g=>by
  have n:(dg tok==lL)=ai/\(dg tok==r9)=ai/\(dg tok==tO)=ai/\((dg tok==r8)=ai/\(dg tok==mH)=ai)/\(dg tok==fS)=ai/\(dg tok==kR)=false:=by rcases i with rfl | ⟨c,rfl⟩<;>exact⟨rfl,rfl,rfl,⟨rfl,rfl⟩,rfl,rfl⟩
  exact sk rfl n.1<|sk rfl n.2.1<|sk rfl n.2.2.1<|D8 rfl n.2.2.2.1.1 n.2.2.2.1.2<|D8 rfl n.2.2.2.2.1 n.2.2.2.2.2<|q a d rest m j l hd h e f g
theorem sF(h:ρ[1]?=aa (aa<|aR p tok))(b:mV tok a=c):TB (CP<|k+1) ρ E H (.ah<|.aN 660<|.u (.J 1)<|.u (.e<|.z a) .I) c:=
 .aN (vs:=[aR p tok, .z a]) (.u (.J h)<|.u .e .I) λQ q=>pA L<|b▸q
theorem AI{d:Str}{c:Bool}{Li t pr nx fr v}(hp:H Z.p=aa (bc Z b pl Li t pr nx))(i:b8 H Z b fr fas v)(hl:Z.aB.length<=1000000)(hd:Z.aB.drop pl=(f,e)::rest)(h:ρ[0]?=aa (aa<|.d Z.p))(g:mV f d=c):
 TB (CP<|k+1) ρ E H (.ah<|.aN 660<|.u (.I (.J 0) 843 695 .I)<|.u (.e<|.z d) .I) c:=λK q=>by
 have a:=hp;unfold bc at hp;exact cD<|gQ<|bx<|a7 (.J h) hp .I<|mU L a i hd hl<|cF (vs:=[.z d]) (.u .e .I)<|pA L<|aM _ .e<|g▸q
theorem Kq(hg:jv Z.aB)(P:cA H Z b pl fas ⟨.a o:: .a cl::f::r,fr,Li,t,p,v⟩)(R:(bf Z.T).e s=ai)(S:∀A,fU.I A->s∈A.U/\A.e s=n)(hf:f≠ .b)
 (O:∀{g:HP} {j p'},Fr [1843] H g->(∀h,dQ Z.p g h->h Z.p=aa (bc Z b (pl+2) Li t p v.nx)->aK (CP (k+5)) (.I (.J 0) 843 751 (.u (.e (.x n)) (.u (.J 1) .I))) (qQ Z j (.a o)) (λl H=>E l H) Q h)->
  g Z.p=aa (bc Z b (pl+1) Li t p v.nx)->b8 g Z b fr fas v->Z.aB.drop (pl+1)=(.a cl,p')::Z.aB.drop (pl+2)->aw (CP (k+5)) (ck 7 zV) (qQ Z j (.a o)) (.e E Q) g)
 (K:iw H Z b ⟨f::r,fr,Li,aa<|.j s,0,v⟩ (Q<|.x 1)):CP (k+6) 744 [.d Z.p] E Q H:=
 AH L P (.inr ⟨o,rfl⟩) λg j rest J C w hd a i X Y=>by
  cases rest with
  | nil=>exact gw a
  | cons y rest=>
   obtain⟨W,p'⟩:=y;replace a:=gX▸a;injection a with c a;obtain rfl:=c;have d:Z.aB.drop (pl+2)=rest:=by exact ae (show pl+2=pl+1+1 from rfl)<|ae pY.symm<|ae i rfl
   cases rest with
   | nil=>exact gw a
   | cons z rest=>obtain⟨V,M⟩:=z;have m:=a;replace a:=gX▸a;injection a with c a;obtain rfl:=c;refine O (p':=p') J (λh U u=>?_) C w<|ae d i;have I:Fr [1843] g h:=U.J C rfl;have D:=w.U I rfl;have q:=u;skip;refine ay (S b w.2) λB N=>a7 (.J rfl) u (vs:=[.x n,aR j<|.a o]) (aC rfl)<|ae N.symm<|Ko L (tok:= .a o) q D P.8 B d hf (λe=>nomatch e) ⟨λe=>(by replace e:=R▸e;exact bw e),λx F T h3=>?_⟩;have G:Fr [1843] h F:=T.J u rfl;exact K F b (pl+2) fas (((J.u I).u G).U rfl) (.I _)<|P.u (n:=2) h3 (D.U G rfl) (ae d m) B
theorem YY(h:jv Z.aB)(P:cA H Z b pl fas ⟨.a eH:: .a dZ::f::r,fr,Li,t,p,v⟩)(g:(bf Z.T).e mJ=ai)(hf:f≠ .b)(K:iw H Z b ⟨f::r,fr,Li,aa gk,0,v⟩ (Q<|.x 1)):CP (k+6) 744 [.d Z.p] E Q H:=
 Kq L (n:=0) h P g (λu l=>⟨(mR l).1,(k0 l).1⟩) hf (λ{w q s} x j d e a=>by
  have c:=d;unfold bc at d
  exact lZ (sF L rfl rfl) (lZ (AI L c e P.8 a rfl rfl) (dB (a7 (.J rfl) d .I (qM L c e a P.8 λm o i=>cC (j m o i)))))) K
theorem YV(h:jv Z.aB)(P:cA H Z b pl fas ⟨.a fL:: .a e9::f::r,fr,Li,t,p,v⟩)(g:(bf Z.T).e eR=ai)(hf:f≠ .b)(K:iw H Z b ⟨f::r,fr,Li,aa<|.j eR,0,v⟩ (Q<|.x 1)):CP (k+6) 744 [.d Z.p] E Q H:=
 Kq L (n:=2) h P g (λu l=>⟨(mR l).2.1,(k0 l).2.1⟩) hf (λ{w q s} x j d e a=>by
  have c:=d;unfold bc at d
  exact dV (sF L rfl rfl) (lZ (sF L rfl rfl) (lZ (AI L c e P.8 a rfl rfl) (dB (a7 (.J rfl) d .I (qM L c e a P.8 λm o i=>cC (j m o i))))))) K
omit L in
theorem Kp(h:f≠ .a c):mV f c=false:=by
 (refine cO (pC f) (λa=>?tl) λn=>?tr;case' tl=>obtain⟨y,rfl⟩:=a)
 ·exact beq_false_of_ne λe=>h<|ae e rfl
 ·exact vM n _
theorem YX(P:cA H Z b pl fas ⟨.a eH::f::r,fr,Li,t,p,v⟩)(hf:f≠ .a dZ)(K:iw H Z b ⟨f::r,⟨jm,Li,fR,0,ag,[]⟩::fr,999,t,p,v⟩ (Q<|.x 0)):CP (k+4) 744 [.d Z.p] E Q H:=
 AH L P (.inr ⟨_,rfl⟩) λC z rest w j l hd c d m B=>by
  have g:=j;unfold bc at j;cases rest with
  | nil=>exact gw c
  | cons y rest=>obtain⟨x,A⟩:=y;have i:=c;replace c:=gX▸c;injection c with h c;obtain rfl:=h;exact lZ (sF L rfl rfl)<|dV (AI L g l P.8 d rfl<|Kp hf)<|cC<|a7 (.J rfl) j (vs:=[.z jm, .x (-1), .x 999]) ((aC rfl))<|Ay L g l m (fn:=fR) (λe=>absurd e<|by decide) (by decide) λs a il u o q=>K s b (pl+1) _ ((w.U rfl).u<|u.U rfl) (.I _)<|P.nY (n:=0) o q rfl (ae d i) P.4
theorem YW(P:cA H Z b pl fas ⟨.a fL::f::r,fr,Li,t,p,v⟩)(hf:f≠ .a e9)(K:iw H Z b ⟨f::r,⟨lJ,Li,fR,0,ag,[]⟩::fr,1200,t,p,v⟩ (Q<|.x 0)):CP (k+4) 744 [.d Z.p] E Q H:=
 AH L P (.inr ⟨_,rfl⟩) λC z rest w j l hd c d m B=>by
  have g:=j;unfold bc at j;cases rest with
  | nil=>exact gw c
  | cons y rest=>obtain⟨x,A⟩:=y;have i:=c;replace c:=gX▸c;injection c with h c;obtain rfl:=h;exact dV (sF L rfl rfl)<|lZ (sF L rfl rfl)<|dV (AI L g l P.8 d rfl<|Kp hf)<|cC<|a7 (.J rfl) j (vs:=[.z lJ, .x (-1), .x 1200]) ((aC rfl))<|Ay L g l m (fn:=fR) (λe=>absurd e<|by decide) (by decide) λs a il u o q=>K s b (pl+1) _ ((w.U rfl).u<|u.U rfl) (.I _)<|P.nY (n:=0) o q rfl (ae d i) P.4
theorem YU(P:cA H Z b pl fas ⟨tok::r,fr,Li,t,p,v⟩)(h:tok= .I\/∃c,tok= .a c/\c≠eH/\c≠fL)(K:sE H Z b E):CP (k+4) 744 [.d Z.p] E Q H:=
 AH L P (h.imp id λz=>au z λc e z=>⟨c,e⟩) λy f rest q a o hd w l s u=>by
  have m:=a;unfold bc at a
  have n:mV tok eH=ai/\mV tok fL=false:=by
   rcases h with rfl | ⟨c,rfl,j,i⟩
   ·exact⟨rfl,rfl⟩
   ·exact⟨beq_false_of_ne j,beq_false_of_ne i⟩
  exact dV (sF L rfl n.1)<|dV (sF L rfl n.2)<|vI<|a7 (.J rfl) a (vs:=[.z Iu,aR f tok]) (aC rfl)<|Aw L λx d g=>(mj x d _ rfl aQ<|K _ b _ f ((q.U rfl).u<|(sD g).U rfl) (.I _)<|o.1.J (sD g) rfl)
inductive pE(Z:PZ):Prop
 | mk (g:jv Z.aB)
  (u:∀x∈Z.aB,∀s,dP x.1 s->s∈cy)
  (n:(bf Z.T).e mJ=ai)
  (c:(bf Z.T).e eR=ai)
omit L in
theorem cA.cy(P:cA H Z b pl fas ⟨tok::r,fr,Li,t,p,v⟩)(W:pE Z)(h:dP tok s):s∈cy:=by exact fV (P.J rfl) λz z z z z a=>W.2 _ a s h
theorem YS(W:pE Z)(P:cA H Z b pl fas σ)(S:jI (bf Z.T) σ d σ')(K:iw H Z b σ' (Q<|.x (if d then 0 else 1))):CP (k+6) 744 [.d Z.p] E Q H:=by
 revert P K;induction S with
 | x=>intro P K;exact YH L P K| d h=>intro P K;exact YK L P h K| z=>intro P K;exact YJ L P K| l h=>intro P K;exact YI L P h K| m h=>intro P K;exact YM L P h (P.cy W h) K| fg=>intro P K;exact YP L W.1 P K| j h hf o=>intro P K;exact YN L W.1 P h (P.cy W h) hf o K| c h hf o e n b=>intro P K;exact YL L W.1 P h (P.cy W h) hf o e n b K| bp h hf e hp b=>intro P K;exact YR L W.1 P h (P.cy W h) hf e hp b K| I hf=>intro P K;exact YY L W.1 P W.3 hf K| a hf=>intro P K;exact YX L P hf K| u hf=>intro P K;exact YV L W.1 P W.4 hf K| w hf=>intro P K;exact YW L P hf K
theorem YT(W:pE Z)(P:cA H Z b pl fas σ)(S:tV (bf Z.T) σ)(K:sE H Z b E):CP (k+6) 744 [.d Z.p] E Q H:=by
 revert P;induction S with
 | a h hf o e n=>intro P;exact YO L W.1 P h (P.cy W h) hf o e n K| d h hf o e n=>intro P;exact YQ L W.1 P h (P.cy W h) hf o e n K| l h=>intro P;exact YU L P h K
end
section
variable {Z:PZ} {b:Bk} {pl:Nat} {fas:List (Nat×Nat)} {σ σ':PS}
include L
noncomputable def Ea(Z:PZ)(l:V)(n:Int):aA:=[aa<|.d Z.p,aa l,aa<|.x n]
theorem Y6(W:pE Z)(R:nV (bf Z.T) n d σ d' σ'):∀{H b pl fas},cA H Z b pl fas σ->
 iw H Z b σ' (jK (CP<|k+6) (.ah<|.U (.J 2) .NotEq<|.e<|.x 2) zW P m<|Ea Z l (if d' then 0 else 1))->
 jK (CP<|k+6) (.ah<|.U (.J 2) .NotEq<|.e<|.x 2) zW P (n+m) (Ea Z l (if d then 0 else 1)) H:=by
 induction R with| I=>intro H b pl fas A K;rw [jd];exact K H b pl fas .I (.I _) A| @J n σ d i w g h _ ih=>intro H b pl fas A K;rw [sU];have hp:=A.1;unfold bc at hp;exact kV (.ah (.U (.J rfl) .e qB) .e)<|cY (.ah (.U (.J rfl) .e cR) .e)<|bz<|a7 (.J rfl) hp .I<|YS L W A h λy x j f t p v=>bj (CP:=CP<|k+6)<|bj (CP:=CP<|k+6)<|ih v λr q c a s o u=>K r q c a (t.u s) (p.u o) u| @e n σ d i w g h _ ih=>intro H b pl fas A K;rw [sU];have hp:=A.1;unfold bc at hp;exact kV (.ah (.U (.J rfl) .e qB) .e)<|kj (.ah (.U (.J rfl) .e cR) .e)<|bz<|a7 (.J rfl) hp .I<|Yu L A h W.2 λy x j f t p v=>bj (CP:=CP<|k+6)<|bj (CP:=CP<|k+6)<|ih v λr q c a s o u=>K r q c a (t.u s) (p.u o) u
omit L in
theorem cA.e{toks r t p v}{Li m:Int}{a:HP}(A:cA H Z b pl fas ⟨toks,r,Li,t,p,v⟩)(c:a Z.p=aa (bc Z b pl m t p v.nx))(B:dQ Z.p H a):cA a Z b pl fas ⟨toks,r,m,t,p,v⟩:=
 ⟨c,A.2.U (B.J A.1 (S:=[1843]) rfl) rfl,A.3,A.4,A.5,A.6,A.7,A.8⟩
theorem Kt(W:pE Z)(A:cA H Z b pl fas ⟨toks,[],Li,t,p,v⟩)(G:Go (bf Z.T) af ⟨toks,[],m,t,p,v⟩ d σ')
 (K:iw H Z b σ' (jK (CP<|k+6) (.ah<|.U (.J 2) .NotEq<|.e<|.x 2) zW {bA.e E Q with nx:=λρ H=>aw (CP<|k+6) (ck 3 IB) ρ (.e E Q) H} 2 (Ea Z (.x m) (if d then 0 else 1)))):CP (k+7) 723 [.d Z.p, .x m] E Q H:=by
 refine o1 G λn R=>?_;have hp:=A.1;unfold bc at hp;refine L.1 (n:=7232) rfl rfl<|cZ (.J rfl) rfl hp λj f e=>bQ .e<|qA (n+2)<|Y6 L W R (A.e f e) λh g c a i=>K h g c a<|((e.J A.1 (S:=[1843]) rfl).U rfl).u i
theorem Kr(W:pE Z)(A:cA H Z b pl fas ⟨toks,[],Li,t,p,v⟩)(G:Go (bf Z.T) af ⟨toks,[],m,t,p,v⟩ ai σ')(D:zZ (bf Z.T) σ')
 (q:∀h g e c,Fr Az H h->b.I g->cA h Z g e c σ'->Q (.U [dG g σ'.b, .x σ'.c]) h):CP (k+7) 723 [.d Z.p, .x m] E Q H:=
 Kt L W A G λB z o j y s n=>by have i:=n.1;unfold bc at i;refine kV (.ah (.U (.J rfl) .e qB) .e)<|kj (.ah (.U (.J rfl) .e cR) .e)<|bz<|a7 (.J rfl) i .I<|Yw L n D W.2 λw u d a x r l=>?_;have f:=l.1;unfold bc at f;exact bj (CP:=CP<|k+6)<|bj (CP:=CP<|k+6)<|x8 (.ah (.U (.J rfl) .e qB) .e)<|aY (.ax<|(.u (.ao (.J rfl)<|.b f rfl)<|.u (.ao (.J rfl)<|.b f rfl) .I))<|q w u d a (y.u x) (s.u r) l
theorem Ks(W:pE Z)(A:cA H Z b pl fas ⟨toks,[],Li,t,p,v⟩)(G:Go (bf Z.T) af ⟨toks,[],m,t,p,v⟩ d σ')(D:(d=af/\tV (bf Z.T) σ')\/(d=ai/\xQ (bf Z.T) σ'))
 (K:sE H Z b E):CP (k+7) 723 [.d Z.p, .x m] E Q H:=
 Kt L W A G λq n g e u j c=>by
  have a:=c.1;unfold bc at a;have f:sE q Z n E:=λo l s i r h=>K o l s i (u.u r)<|j.u h;rcases D with ⟨rfl,D⟩ | ⟨rfl,D⟩
  ·exact kV (.ah (.U (.J rfl) .e qB) .e)<|cY (.ah (.U (.J rfl) .e cR) .e)<|bz<|a7 (.J rfl) a .I<|YT L W c D f
  ·exact kV (.ah (.U (.J rfl) .e qB) .e)<|kj (.ah (.U (.J rfl) .e cR) .e)<|bz<|a7 (.J rfl) a .I<|Yv L c D W.2 f
theorem YZ(W:pE Z)(A:cA H Z b pl fas ⟨toks,[],Li,t,p,v⟩)(G:Go (bf Z.T) af ⟨toks,[],1200,t,p,v⟩ ai ⟨.I::r,[],M,aa x,q',v'⟩)
 (q:∀h g f d,Fr Az H h->b.I g->cA h Z g f d ⟨.I::r,[],M,aa x,q',v'⟩->Q (tv g x) h):CP (k+8) 681 [.d Z.p] E Q H:=by
 have hp:=A.1;unfold bc at hp;refine L.1 (n:=6811) rfl rfl<|x7<|a7 (.J rfl) hp (vs:=[.x 1200]) ((aC rfl))<|Kr L W A G (.mk<|ph rfl) λm l e c o j a=>(bT _ rfl rfl ?_);have i:=a.1;unfold bc at i;exact fV (a.J rfl) λs rest hd z z z=>bz<|a7 (.J rfl) i .I<|mU L a.1 a.2 hd a.8<|cz (.ah (.U (.ak (.J rfl) .e<|.U rfl rfl) .e kn) .e)<|aY (.J rfl)<|q m l e c o j a
theorem Y0(W:pE Z)(A:cA H Z b pl fas ⟨toks,[],Li,t,p,v⟩)(D:lN (bf Z.T) af ⟨toks,[],1200,t,p,v⟩)(K:sE H Z b E):CP (k+8) 681 [.d Z.p] E Q H:=by
 have hp:=A.1;skip;obtain⟨d,σ',G,D | D | ⟨rfl,D,n⟩⟩:=D
 ·exact L.1 (n:=6811) rfl rfl<|x7<|a7 (.J rfl) hp (vs:=[.x 1200]) ((aC rfl))<|Ks L W A G (.inl D) K
 ·exact L.1 (n:=6811) rfl rfl<|x7<|a7 (.J rfl) hp (vs:=[.x 1200]) ((aC rfl))<|Ks L W A G (.inr D) K
 ·refine L.1 (n:=6811) rfl rfl (x7<|a7 (.J rfl) hp (vs:=[.x 1200]) ((aC rfl))<|Kr L W A G D λu B j h y m a=>(bT _ rfl rfl ?_));induction D with
  | @mk tok r Li t p v _=>
   have g:=a.1;skip;refine fV (a.J rfl) λc rest hd z z o=>?_;have i:fh u (aR c tok) (.x 0) (.z<|dg tok):=by induction tok<;>exact .U rfl rfl
   have e:(dg tok !=lK)=true:=by induction tok<;>first | rfl | exact absurd rfl<|n r
   exact bz (a7 (.J rfl) g .I (mU L a.1 a.2 hd a.8 (cY (e▸ .ah (.U (.ak (.J rfl) .e i) .e kn) .e) (vI (a7 (.J rfl) g (vs:=[aR c tok, .z Ij]) ((aC rfl))
    (Kh L a.1 a.2 (W.2 _ o) λC q s x d w l k2 f=>⟨x,d,_,rfl,aQ,K _ q s c ((y.u (w.U rfl)).u ((sD f).U rfl)) (m.u l) (k2.J (sD f) rfl)⟩))))))
end
section
variable {R:RA} {cl:Nat} {cs:List Nat}
noncomputable def kz(l:List (aE×Nat)):List V:=l.map λx=>aR x.2 x.1
theorem Fr.l5{S:List Nat}{H f:HP}{a:Nat}{c:cb}(n:H a=ag)(F:Fr S H f):Fr S H (f.J a c):=λb d e s=>gc (gG e n)<|F b d e s
theorem Ec(h:ρ[i]?=aa (aa<|aR p tok)):fE H ρ (.ah<|.U (.ak (.J i)<|.e<|.x 0) .NotEq<|.e<|.z s) (dg tok !=s):=by rw [pz] at h;exact .ah (.U (.ak (.J h) .e<|.U rfl rfl) .e kn) .e
theorem Ed{CP:Nat->List V->EP->QV->HP->Prop}{ρ:aA}{P:bA}{r b h:SL}{i:Nat}(q:∀X,aw CP b ρ {P with nx:=λρ H=>aw CP r ρ P H,ex:=X} H):aw CP (.u (.l b i h) r) ρ P H:=q _
theorem Kv{CP:Nat->List V->EP->QV->HP->Prop}{ρ:aA}{P:bA}{r b h:SL}(q:aw CP b ρ {P with nx:=λρ H=>aw CP r ρ P H,ex:=λρ z H=>aw CP h ρ {P with nx:=λρ H=>aw CP r ρ P H} H} H):aw CP (.u (.q b h) r) ρ P H:=q
noncomputable def Ku:B:= .aB<|.u (.ah<|.U (.ak (.J 2)<|.e<|.x 0) .NotEq<|.e<|.z lK)<|.u (.ah<|.U (.ak (.J 2)<|.e<|.x 0) .NotEq<|.e<|.z vj) .I
noncomputable def Eb(R:RA)(tl:Nat)(t x:Option V):aA:=[aa<|.d R.r,aa<|.d tl,t,x]
include L
theorem Y8(I:H0 tl=ag)(hl:all.length<=1000000)
 (q:∀j,Fr [1370] H0 j->cN j R.t cl cs a'->j tl=aa (.u 28<|kz all)->ja j R v->P.nx (Eb R tl (aa<|aR A .I) x) j):
 ∀{m acc c s a H},c::s=m++[(.I,A)]->acc++m=all->(∀y∈m,y.1≠ .I)->lY cs a s a'->Fr [1370] H0 H->cN H R.t cl cs a->H tl=aa (.u 28<|kz acc)->ja H R v->
  jK (CP<|k+7) Ku ID P (m.length+1) (Eb R tl (aa<|aR c.2 c.1) x) H:=by
 intro m;induction m with
 | nil=>intro acc c s a H e i hf S F h o g;injection e with t r;subst t r;cases S;rw [jh] at i;exact x8 (.aB<|.dJ (d:=af)<|Ec (s:=lK) (tok:= .I) rfl)<|q H F h (i▸o) g
 | cons y m ih=>
  intro acc c s a H e i hf S F h o g;injection e with t r;subst t;have B:(dg c.1!=lK)=af/\(dg c.1!=vj)=true:=by have:=hf c cu;cases e:c.1<;>first | exact⟨rfl,rfl⟩ | exact absurd e this
  have D:acc.length<cE:=by have:=congrArg pO i;rw [bI,dK] at this;exact iO (show acc.length<1000001 by exact bJ (.e (.v 0)<|.n 1000001) (.u (.a (.v 0)<|.a (.v 1)<|.n 1)<|.v 2) (.I (.v 2)<|.n 1000000) rfl [] [_,_,_] this hl) (by decide)
  have G:=g;unfold ja at g;have f:fE H (Eb R tl (aa<|aR c.2 c.1) x) Ku true:= .aB<|.cB (d:=af) (B.1▸Ec rfl)<|.cB (d:=af) (B.2▸Ec rfl) .gm;refine kV f<|dB<|jt (v:=aR c.2 c.1) (.J rfl) (.J rfl) o (by unfold kz;rw [bB];exact D) ?_;have N:∀z d,z≠tl->H z=aa d->(H.J tl<|.u 28<|kz acc++[aR c.2 c.1]) z=aa d:=λz d n e=>gc n e;have C:Fr [28] H (H.J tl<|.u 28<|kz acc++[aR c.2 c.1]):= .J o rfl;have p:=h.J C rfl;have l:=C _ _ g rfl;have f:(H.J tl<|.u 28<|kz acc++[aR c.2 c.1]) tl=aa (.u 28<|kz<|acc++[c]):=by refine ae aQ ?_;unfold kz;exact ae ed rfl
  have b:Fr [1370] H0 (H.J tl<|.u 28<|kz acc++[aR c.2 c.1]):=F.l5 I;revert p l f b;generalize H.J tl (.u 28<|kz acc++[aR c.2 c.1])=Q;intro p l f b;induction s with
  | nil=>induction m<;>exact gw r
  | cons M K=>cases S with| u N S=>exact bz<|a7 (.ao (.J rfl)<|.b l rfl) p.1 .I<|J3 L p N λO w J=>bj (CP:=CP<|k+7)<|ih (acc:=acc++[c]) r (by rw [cv];exact i) (λz E=>hf z<|df _ E) S (b.u w) J (w _ _ f rfl)<|w _ _ l rfl
theorem Y7{v:V}{m:List (aE×Nat)}{g a a':Nat}(C:ja H R v)(h:cN H R.t cl cs a)(S:lY cs a (m++[(.I,g)]) a')(D:∀y∈m,y.1≠ .I)(hl:m.length<1000000)
 (q:∀f tl,Fr [1370,1886] H f->H tl=ag->cN f R.t cl cs a'->f tl=aa (.u 28<|kz<|m++[(.I,g)])->ja f R (.x a')->Q (.d tl) f):CP (k+8) 883 [.d R.r] E Q H:=by
 refine L.1 (n:=8831) rfl rfl<|bz<|fv .I λtl e=>Ed λX=>?_;have i:=h.J (Fr.aT (S:=[]) (c:= .u 28 []) e) rfl;have o:ja (H.J tl<|.u 28 []) R v:=dh e C;have l:=aQ (H:=H) (a:=tl) (c:= .u 28 []);have t:Fr [1370] H (H.J tl<|.u 28 []):= .aT e;revert i o l t;generalize H.J tl (.u 28 [])=P;intro i o l t;have b:=o;unfold ja at b;generalize z:m++[(aE.I,g)]=s at S;cases S with
 | I=>cases m<;>exact gv z
 | @u _ tok p _ s _ N S=>
  refine bz<|a7 (.ao (.J rfl)<|.b b rfl) i.1 .I<|J3 L i N λO r G=>qA (m.length+1)<|Y8 L e (v:=v) (all:=m) (jM hl) (λM J h3 x d=>?_) (acc:=[]) z.symm rfl D S (t.u r) G (r _ _ l rfl)<|r _ _ b rfl;unfold ja at d;have A:=h3.1;refine bj (CP:=CP<|k+7)<|cZ (v:= .x a') ((.ao (.ao (.J rfl)<|.b d rfl)<|.b A rfl)) rfl d λK F w=>?_;have j:=w _ _ (fT x d rfl) x;have B:=h3.J (w.J d (S:=[1886]) rfl) rfl;refine cY (pD (s:=lK) (tok:= .I) rfl)<|dB<|jt (v:=aR g .I) ((.J rfl)) ((.J rfl)) j (by unfold kz;rw [bB];exact jg hl<|by decide)<|bj (CP:=CP<|k+7)<|aY (.J rfl)<|q _ tl ?_ e (B.J (.J j (S:=[28]) rfl) rfl) ?_ ?_
  ·exact Fr.l5 e<|(J.U rfl).u<|(w.J d (S:=[1886]) rfl).U rfl
  ·refine ae aQ ?_;unfold kz;exact ae ed rfl
  ·exact cH j F rfl
end
noncomputable abbrev RZ:Type:=BA×OA×FA×bS×Bk×(List V)×Nat×(List Nat)×Nat×Nat
noncomputable abbrev RZ.A(x:RZ):BA:=x.1
noncomputable abbrev RZ.O(x:RZ):OA:=x.2.1
noncomputable abbrev RZ.F(x:RZ):FA:=x.2.2.1
noncomputable abbrev RZ.T(x:RZ):bS:=x.2.2.2.1
noncomputable abbrev RZ.I(x:RZ):Bk:=x.2.2.2.2.1
noncomputable abbrev RZ.u(x:RZ):List V:=x.2.2.2.2.2.1
noncomputable abbrev RZ.e(x:RZ):Nat:=x.2.2.2.2.2.2.1
noncomputable abbrev RZ.cs(x:RZ):List Nat:=x.2.2.2.2.2.2.2.1
noncomputable abbrev RZ.r(x:RZ):Nat:=x.2.2.2.2.2.2.2.2.1
noncomputable abbrev RZ.t(x:RZ):Nat:=x.2.2.2.2.2.2.2.2.2
noncomputable def RZ.R(Y:RZ):RA:=⟨Y.r,Y.A.b,Y.O.o,Y.F.f,Y.t⟩
inductive jb(H:HP)(Y:RZ)(b:Bk)(a:Nat):Prop
 | mk (r:ja H Y.R (.x a))
  (t:cN H Y.t Y.e Y.cs a)
  (bk:cJ H Y.A b)
  (b0:fU.I b)
  (o:fN H Y.O Y.A.b Y.I Y.T)
  (ko:Y.I.I b)
  (f:om H Y.F Y.A.b b Aj Y.u)
noncomputable def PZ.u(Y:RZ)(p tl c b a d:Nat)(all:List (aE×Nat)):PZ:=⟨Y.A,Y.O,Y.T,Y.I,p,tl,c,b,a,d,all⟩
section
variable {Y:RZ} {b:Bk} {a:Nat}
include L
theorem Za{cs:List Nat}{v:V}(t:ja H R v)(h:cN H R.t cl cs a)(hd:∀c∈cs.drop a,c=32\/c=10)(u:a<=cs.length)
 (q:∀j tl,Fr [1370,1886] H j->j tl=aa (.u 28 [])->Q (.d tl) j):CP (k+8) 883 [.d R.r] E Q H:=by
 refine L.1 (n:=8831) rfl rfl<|bz<|fv .I λtl i=>Ed λX=>?_;have f:=h.J (Fr.aT (S:=[]) (c:= .u 28 []) i) rfl;have b:ja (H.J tl<|.u 28 []) R v:=dh i t;have g:=aQ (H:=H) (a:=tl) (c:= .u 28 []);have m:Fr [1370] H (H.J tl<|.u 28 []):= .aT i;revert f b g m;generalize H.J tl (.u 28 [])=z;intro f b g m;unfold ja at b;refine bz<|a7 (.ao (.J rfl)<|.b b rfl) f.1 .I<|XN L f hd u λy l w=>qA 1 ?_;have e:=l _ _ b rfl;have p:=l _ _ g rfl;have s:=w.1;refine x8 (.aB<|.cB (d:=af) (.ah (.U (.ak (.J rfl) .e<|.U rfl rfl) .e kn) .e)<|.dJ (d:=af)<|.ah (.U (.ak (.J rfl) .e<|.U rfl rfl) .e kn) .e)<|bj (CP:=CP<|k+7)<|cZ (v:= .x cs.length) ((.ao (.ao (.J rfl)<|.b e rfl)<|.b s rfl)) rfl e λx h3 r=>?_;have o:=r _ _ (fT p e rfl) p;exact kj (.ah (.U (.ak (.J rfl) .e<|.U rfl rfl) .e cj) .e)<|kj (.ah (.J rfl)<|.u o)<|bj (CP:=CP<|k+7)<|aY (.J rfl)<|q x tl (((m.u l).U rfl).u<|(r.J e (S:=[1886]) rfl).U rfl) o
theorem Zb(S:jb H Y b a)(q:Q (.z kf) H):CP (k+3) 876 [.d Y.r] E Q H:=by have c:=S.1;unfold ja at c;have m:kf∈b.U:=S.7.5 _<|.tail _<|.tail _<|.head _;exact L.1 (n:=8761) rfl rfl<|cC<|jL ((.ao (.J rfl)<|.b c rfl)) S.3.1<|bx<|mQ<|a7 ((.ao (.J rfl)<|.b c rfl)) S.7.1 (.u .e .I)<|W7 L S.7<|aX .e<|aM _ (.U rfl rfl)<|WM L S.3 (oH.mpr ⟨MK m,ML _⟩) q
theorem Y9(S:jb H Y b a)(hl:all.length<=1000000)(M:H tl=aa (.u 28<|kz all))(hp:H p=aa (.b 843<|oF 13 ag))
 (q:∀v s j i t,dQ p H v->cA v (.u Y p tl s j i t all) b 0 [] ⟨all.map (·.1),[],1200,ag,0,⟨[],[],0⟩⟩->Q .f v):CP (k+1) 674 [.d p, .d Y.A.b, .d Y.O.o, .z kf, .d tl] E Q H:=by
 refine L.1 (n:=6745) rfl rfl<|cZ (.J rfl) rfl hp λH0 h0 B0=>cZ (.J rfl) rfl h0 λH1 T B1=>cZ (.J rfl) rfl T λH2 R B2=>cZ (.J rfl) rfl R λH3 h3 B3=>cZ .e rfl h3 λH4 m B4=>km vF rfl m λs H5 w P V B5=>cZ .e rfl P λH6 O G=>cZ .e rfl O λH7 N D=>cZ .e rfl N λH8 y C=>?_;have U:=((G.u D).u C) _ _ (gG m w).symm V;refine km qy rfl y λj H9 I x W A=>km vF rfl x λi Z J f l e=>km qy rfl f λt X K r u d=>cZ .e rfl r λg o c=>?_;have B:dQ p H g:=(((B0.u B1).u<|B2.u B3).u<|(B4.u B5).u<|G.u D).u<|((C.u A).u<|e.u d).u c;have F:=B.J hp (S:=[1843]) rfl;exact bj (CP:=CP k)<|q g s j i t B ⟨o,⟨S.3.J F rfl,S.4,S.5.J F rfl,S.6,F _ _ M rfl,((A.u e).u<|d.u c) _ _ (gG m w).symm U, .I,((e.u d).u c) _ _ (gG y I).symm W,(d.u c) _ _ (gG x J).symm l,c _ _ (gG f K).symm u,⟨rD,rD,λz h=>((dz h).elim),λz h=>((dz h).elim),λz h=>((dz h).elim)⟩⟩,rfl,trivial,dC _,λz h=>((dz h).elim),dC _,hl⟩
end
noncomputable def vP(v:VS)(x:Str×Int):Bool:=v.e.count x.1==1&&x.1!=lI
noncomputable def qR(v:VS):List V:=(v.J.filter<|vP v).map λx=> .U [.z x.1, .x x.2]
noncomputable def t9(s:Str):Prop:=s=rZ\/s=r6\/s=lI
noncomputable def AJ:List Nat:=[1,2,3,4,15,16,17,18,19,1635,1843,1370,1886]
theorem jb.J{H f:HP}{Y:RZ}{b e:Bk}{a:Nat}{S:List Nat}(x:jb H Y b a)(F:Fr S H f)(bk:cJ f Y.A e)(c:b.I e)(s:[1886,1370,79,1558,9,10,11,1612,12,13,14].all (λn=>!S.contains n)=af):jb f Y e a:=by
 have s':∀n∈[1886,1370,79,1558,9,10,11,1612,12,13,14],S.contains n=false:=λn d=>gE<|dT.mp s n d;have sub:∀{l:List Nat},(∀n∈l,n∈[1886,1370,79,1558,9,10,11,1612,12,13,14])->l.all (λn=>!S.contains n)=true:=λhl=>dT.mpr λn d=>by exact ae (s' n<|hl n d) rfl
 exact⟨F _ _ x.1<|s' 1886 (by decide),x.2.J F<|sub (by decide),bk,x.4.u c,x.5.J F<|sub (by decide),x.6.u c,(x.7.J F<|sub<|by decide).I c⟩
theorem vQ{CP:Nat->List V->EP->QV->HP->Prop}{ρ:aA}{E:EP}{Q:QV}{H:HP}{C f n:Nat}{xs:XL}(q:fA CP xs ρ E (λb H=>∀a,H a=ag->CP f (.d a::b) E (λr H=>r= .f/\Q (.d a) H) (H.J a<|.b C<|oF n ag)) H):aK CP (.aT C f n xs) ρ E Q H:=q
section
theorem Zd{Z:PZ}{v:VS}{b:Nat}(G:(v.J.map (·.2)).Nodup)(hl:v.J.length<=1000000)(J:∀x∈v.J,t9 x.1){P:bA}{C:List (Option V)}(r:C[11]?=aa (aa<|.d Z.cd)):
 ∀{l d:List (Str×Int)} {H:HP} {x y:Option V},d++l=v.J->H Z.p=aa (.b 843 C)->H Z.nl=aa (.u 18<|vL v)->H Z.cd=aa (.e 19<|vC v)->H b=aa (.u 20<|(d.filter<|vP v).map λx=> .U [.z x.1, .x x.2])->
  (∀o x y,dQ b H o->o b=aa (.u 20<|qR v)->P.nx [aa<|.d Z.p,aa<|.d b,x,y] o)->
  dF (CP k) (.U [2,3]) IC P (.u Z.nl<|.u 18<|vL v) (l.map λx=> .U [.z x.1, .x x.2]) [aa<|.d Z.p,aa<|.d b,x,y] H:=by
 intro E;induction E with
 | nil=>intro d H x y e h i p f q;exact ik i<|q H x y (λw w w e=>e) (by rw [jh] at e;replace f:=e▸f;exact f)
 | cons F l ih=>
  obtain⟨s,n⟩:=F;intro d H x y e h i p f q;have m:(s,n)∈v.J:=by exact ae e.symm<|ma _ cu
  have g:dA (vC v) n=aa (.x<|v.e.count s):=AA (g:=λx:Str×Int=>x.2) (h:=λx=> .x<|v.e.count x.1) G m;have A:=fH.i (k:=n) p;replace A:=g▸A
  have M:fE H [aa<|.d Z.p,aa<|.d b,aa<|.z s,aa<|.x n] (.ah<|.U (.ak (.ao (.J 0) 843 11)<|.J 3) .Eq<|.e<|.x 1) (v.e.count s==1):=by
   have:=aP.ah (aP.U (H:=H) (ρ:=[aa<|.d Z.p,aa<|.d b,aa<|.z s,aa<|.x n]) (l:= .ak (.ao (.J 0) 843 11)<|.J 3) (.ak (.ao (.J rfl)<|.b h r) (.J rfl)<|.I A) (.e (v:= .x 1)) cR) .e;have z:((v.e.count s:Int)==1)=(v.e.count s==1):=by rw [EW,beq_iff_eq,beq_iff_eq];lia
   rwa [z] at this
  have L:fE H [aa<|.d Z.p,aa<|.d b,aa<|.z s,aa<|.x n] (.ah<|.U (.ak (.J 2)<|.e<|.x 0) .NotEq<|.e<|.z eE) (s !=lI):=by
   rcases J _ m with h | h | h<;>(have h:s=_:=h;subst h)
   ·exact .ah (.U (.ak (.J rfl) .e<|.z (j:=0) rfl rfl) .e kn) .e
   ·exact .ah (.U (.ak (.J rfl) .e<|.z (j:=0) rfl rfl) .e kn) .e
   ·exact .ah (.U (.ak (.J rfl) .e<|.z (j:=0) rfl rfl) .e kn) .e
  have t:fE H [aa<|.d Z.p,aa<|.d b,aa<|.z s,aa<|.x n] (.aB<|.u (.ah<|.U (.ak (.ao (.J 0) 843 11)<|.J 3) .Eq<|.e<|.x 1)<|.u (.ah<|.U (.ak (.J 2)<|.e<|.x 0) .NotEq<|.e<|.z eE) .I) (vP v (s,n)):=by have:=aP.aB<|.lS M<|.lS L .gm;rwa [pR] at this
  have I:d.length<cE:=by have:=congrArg pO e;rw [bI,dK] at this;exact iO (show d.length<1000001 by exact bJ (.e (.v 0)<|.n 1000001) (.u (.a (.v 0)<|.a (.v 1)<|.n 1)<|.v 2) (.I (.v 2)<|.n 1000000) rfl [] [_,_,_] this hl) (by decide)
  refine xW i rfl<|gF t (λc=>?_) λc=>bj (CP:=CP k) ?_
  ·refine dB (jt (v:= .U [.z s, .x n]) (.J rfl) (bH rfl) f (by rw [bB];exact eX (adi _ _) I)<|bj (CP:=CP k)<|bj (CP:=CP k)<|ih (d:=d++[(s,n)]) (by rw [cv];exact e) (cH f h rfl) (cH f i rfl) (cH f p rfl) ?_ λo x y B u=>q o x y (λa d D K=>B a d D<|gc D K) u);rw [adh,ed,show [(s,n)].filter (vP v)=[(s,n)] from by rw [uC,if_pos c];rfl];exact aQ
  ·refine ih (d:=d++[(s,n)]) (by rw [cv];exact e) h i p ?_ q;rw [adh,show [(s,n)].filter (vP v)=[] from by rw [uC,if_neg<|by rw [c];exact gp];rfl,jh];exact f
include L
theorem Zc{pl fas σ}(A:cA H Z b pl fas σ)(h:∀x∈σ.a.J,t9 x.1)(hl:σ.a.J.length<=1000000)
 (q:∀f g,Fr [] H f->f g=aa (.u 20<|qR σ.a)->Q (.d g) f):CP (k+1) 688 [.d Z.p] E Q H:=by
 have hp:=A.1;unfold bc at hp;refine L.1 (n:=6881) rfl rfl<|bz<|fv .I λg c=>vH (.ao (.J rfl)<|.b (dh c hp) rfl) (.u<|dh c A.2.9)<|Zd A.2.11.2 hl h rfl (d:=[]) rfl (dh c hp) (dh c A.2.9) (dh c A.2.10) aQ λf x y B i=>aY (.J rfl)<|q f g (λa d e z=>B a d (gG e c)<|dh c e) i
end
section
variable {Y:RZ} {b:Bk} {a a':Nat}
inductive AK(Y:RZ)(a:Nat)(m:List (aE×Nat))(pf a':Nat):Prop
 | mk (s:lY Y.cs a (m++[(.I,pf)]) a')
  (f:∀y∈m,y.1≠ .I)
  (l:m.length<1000000)
  (u:∀x∈m,∀s,dP x.1 s->s∈cy)
  (n:(bf Y.T).e mJ=ai)
  (c:(bf Y.T).e eR=ai)
include L
theorem Kw(S:jb H Y b a)(C:AK Y a m i a')
 (q:∀f Z tl,Fr AJ H f->Z.A=Y.A->Z.T=Y.T->pE Z->jb f Y b a'->cA f Z b 0 [] ⟨(m++[(aE.I,i)]).map (·.1),[],1200,ag,0,⟨[],[],0⟩⟩->aw (CP<|k+8) (ck 3 IG) [aa<|.d Y.r,aa<|.d tl,aa<|.d Z.p,ag,ag] (.e E Q) f):CP (k+9) 869 [.d Y.r] E Q H:=by
 have w:=S.1;unfold ja at w;refine L.1 (n:=8691) rfl rfl<|bz<|a7 (.J rfl) w .I<|Y7 L (R:=Y.R) S.1 S.2 C.1 C.2 C.3 λf tl r O A v g=>?_;have l:jb f Y b a':=⟨g,A,S.3.J r rfl,S.4,S.5.J r rfl,S.6,S.7.J r rfl⟩;unfold ja at g;have D:(kz<|m++[(aE.I,i)]).isEmpty=false:=by induction m<;>rfl
 have t:=ka.u v;replace t:=D▸t;refine cz (.gE (c:=af)<|.ah (.J rfl) t)<|bz<|vQ<|bx<|aX ((.ao (.J rfl)<|.b g rfl))<|bx<|aX ((.ao (.J rfl)<|.b g rfl))<|bx<|a7 (.J rfl) g .I<|Zb L l<|bx<|aX (.J rfl) ?_;intro p j;have K:jb (f.J p<|.b 843<|oF 13 ag) Y b a':=l.J (Fr.aT (S:=[]) j) (l.3.J (Fr.aT (S:=[]) j) rfl) (.I _) rfl;refine Y9 L K (all:=m++[(aE.I,i)]) (ae bI C.3) (dh j v) aQ λy I F B J M N=>⟨rfl,?_⟩;have u:Fr [] f y:=λx d e z=>M x d (gG e j)<|dh j e;refine q y (.u Y p tl I F B J<|m++[(aE.I,i)]) tl ((r.U rfl).u<|u.U rfl) rfl rfl ⟨C.1.U,λx G s o=>cO (fG.mp G) (λh=>?_) λh=>?_,C.5,C.6⟩ (l.J u (l.3.J u rfl) (.I _) rfl) N
 ·exact C.4 x h s o
 ·replace o:=(d5.mp h)▸o;cases o
theorem Ze(S:jb H Y b a)(C:AK Y a m i a')(G:Go (bf Y.T) af ⟨(m++[(aE.I,i)]).map (·.1),[],1200,ag,0,⟨[],[],0⟩⟩ ai ⟨[.I],[],M,aa x,q',v'⟩)(v:∀x∈v'.J,t9 x.1)(hl:v'.J.length<=1000000)
 (q:∀c f j e,Fr AJ H c->b.I f->jb c Y f a'->x.e f->c j=aa (.u 18<|vL v')->c e=aa (.u 20<|qR v')->Q (.U [tv f x, .d j, .d e]) c):CP (k+9) 869 [.d Y.r] E Q H:=
 Kw L S C λI Z tl F z y W A t=>by have n:=t.1;unfold bc at n;refine Ed λX=>bz<|a7 (.J rfl) n .I<|YZ L W t (y▸G) λD p u o s l d=>bj (CP:=CP<|k+8) ?_;have h:=d.1;unfold bc at h;have r:jb D Y p a':=A.J s (z▸d.2.1) l rfl;exact cC<|jU<|bx<|aX (.J rfl)<|bx<|aX (.ao (.J rfl)<|.b h rfl)<|bx<|a7 (.J rfl) h .I<|Zc L d v hl λB e g w=>q B p Z.nl e (F.u<|(s.U rfl).u<|g.U rfl) l (r.J g (r.3.J g rfl) (.I _) rfl) d.4 (g _ _ d.2.9 rfl) w
theorem Zf(S:jb H Y b a)(C:AK Y a m u a')(D:lN (bf Y.T) af ⟨(m++[(aE.I,u)]).map (·.1),[],1200,ag,0,⟨[],[],0⟩⟩)
 (K:∀l p A,Fr AJ H p->b.I A->jb p Y A a'->E l p):CP (k+9) 869 [.d Y.r] E Q H:=
 Kw L S C λU Z tl P N M W O G=>by
  have w:=G.1;unfold bc at w;refine(?_:aw _ (.u _ .I) _ _ _);refine bz<|a7 (.J rfl) w .I<|Y0 L W G (M▸D) λg y s i F v k2=>⟨rfl,λe d I R n=>?_⟩;have B:jb g Y y a':=O.J F (N▸k2) v rfl;have h:Fr [] g (g.J e<|.f ai d [.z s, .x i, .x 0, .x 0]):= .aT I;have f:=B.J h (B.3.J h rfl) (.I _) rfl;have j:=aQ (H:=g) (a:=e) (c:= .f ai d [.z s, .x i, .x 0, .x 0]);revert h f j;generalize g.J e (.f ai d [.z s, .x i, .x 0, .x 0])=T;intro h f j;have t:=f.1;unfold ja at t;refine vI<|a7 ((.ao (.J rfl)<|.b t rfl)) f.2.1 (vs:=[.z s, .x i]) ((.u (.ao (.J rfl)<|.f j rfl)<|.u (.ao (.J rfl)<|.f j rfl) .I))<|XP L f.2 λx d r c J o=>(y0 x d _ rfl aQ ?_ ?_)
  ·exact bne_iff_ne.mpr λz=>by replace o:=z▸o;exact absurd o (by decide)
  ·have q:=sD (c:= .f af d [.z s, .x i, .x r, .x c]) J;exact K _ _ y (P.u<|(F.U rfl).u<|(h.U rfl).u<|q.U rfl) v<|f.J q (f.3.J q rfl) (.I _) rfl
theorem Zg(S:jb H Y b a)(hd:∀c∈Y.cs.drop a,c=32\/c=10)(f:a<=Y.cs.length)(q:∀h,Q .f h):CP (k+9) 869 [.d Y.r] E Q H:=by have d:=S.1;unfold ja at d;exact L.1 (n:=8691) rfl rfl<|bz<|a7 (.J rfl) d .I<|Za L (R:=Y.R) S.1 S.2 hd f λg tl i e=>cY (.gE (c:=ai)<|.ah (.J rfl)<|.u e)<|aY .e<|q g
end
noncomputable def eI(H:HP)(p:Nat):Prop:=∃(f:Nat) (a:List Int) (i:Nat) (m:Int),H p=aa (.u 31 [.d f, .x i, .x m])/\H f=aa (.u 29<|a.map V.x)/\a.length<=1000/\0<=m/\m<1009
theorem eI.J{H b:HP}{p:Nat}{S:List Nat}(x:eI H p)(F:Fr S H b)(s:[31,29].all (λn=>!S.contains n)=af):eI b p:=by exact wG x λf a i m d c h3=>(BI f a i m (F _ _ d<|gE<|dT.mp s 31<|by decide) (F _ _ c<|gE<|dT.mp s 29<|by decide) h3)
theorem Ef{CP:Nat->List V->EP->QV->HP->Prop}{ρ:aA}{P:bA}{H f:HP}{r:SL}{o i x op a b d y c}(ho:Ev H ρ o (.d a))(hi:Ev H ρ i b)(s:fh H (.d a) b d)(e:Ev H ρ x y)(k:j8 H 0 op d y (.ah c))(t:j9 H (.d a) b c f)(q:aw CP r ρ P f):aw CP (.u (.n o i op x) r) ρ P H:=
 aX (Q:=λa H=>aK CP i ρ (P.ex ρ) (λb H=>(∃r,a=V.d r)/\∃d,fh H a b d/\aK CP x ρ (P.ex ρ) (λy H=>∃c,j8 H 0 op d y (.ah c)/\∃f,j9 H a b c f/\aw CP r ρ P f) H) H) ho
  (aX (Q:=λb H=>(∃r,V.d a=V.d r)/\∃d,fh H (.d a) b d/\aK CP x ρ (P.ex ρ) (λy H=>∃c,j8 H 0 op d y (.ah c)/\∃f,j9 H (.d a) b c f/\aw CP r ρ P f) H) hi
   ⟨⟨a,rfl⟩,d,s,aX (Q:=λy H=>∃c,j8 H 0 op d y (.ah c)/\∃f,j9 H (.d a) b c f/\aw CP r ρ P f) e (yZ c k f t q)⟩)
theorem Ee(b:0<n)(a:Int):∃r:Nat,ur a n=r/\(r:Int)<n:=by have c:=Int.fmod_nonneg_of_pos a b;have d:=Int.fmod_lt_of_pos a b;exact(aM ((ur a n).toNat) ((kD c).symm)<|ae (kD c) d)
section
include L
theorem iM(P:eI H p)(o:0<n)(q:∀d (r:Nat),(r:Int)<n->Fr [31] H d->eI d p->Q (.x r) d):CP (k+1) 904 [.d p, .x n] E Q H:=by
 refine jj P λf a i m hp hf hl h0 l=>?_;have b:=fP.e hf;rw [bB] at b;have g:∀{ρ:aA} {d:HP} {v:Int},Fr [31] H d->eI d p->ρ[2]?=aa (aa<|.x v)->ρ[1]?=aa (aa<|.x n)->aw (CP k) (.u (.e<|.aS 0 .Mod (.J 2)<|.J 1) .I) ρ (.e E Q) d:=λ{ρ d v} F C A l=>by exact au (Ee o v) λr e u=>aY (.aS (.J A) (.J l)<|.x<|.c (λz=>by replace o:=z▸o;cases o))<|e▸q d r u F C
 have t:fh H (.d p) (.x 0) (.d f):= .u hp (j:=0) rfl rfl;have s:fh H (.d p) (.x 1) (.x i):= .u hp (j:=1) rfl rfl;have x:fh H (.d p) (.x 2) (.x m):= .u hp (j:=2) rfl rfl;refine L.1 (n:=9042) rfl rfl<|sv (.ah (.U (.ak (.J rfl) .e s) (.bi (.u (.ak (.J rfl) .e t) .I) b) .e) .e) (λc=>?_) λc=>?_
 ·have c:i<a.length:=j3.mp (of_decide_eq_true c);have w:fh H (.d f) (.x i) (.x a[i]):= .u (j:=i) hf (by rw [bB];exact lX c<|aD (.e (.v 0)<|.n 1099511627776) (.I (.v 0)<|.n 1000) rfl [] [_] hl) (by refine ae (jf)<|ae (iB c) ?_;rfl);refine bQ (.ak (.ak (.J rfl) .e t) (.ak (.J rfl) .e s) w)<|Ef (.J rfl) .e s .e (.x .J) (.u hp (j:=1) (by decide) rfl)<|bj (CP:=CP k)<|g (.J hp rfl) (nz f a (i+1) m aQ (cH hp hf rfl) hl h0 l) rfl rfl
 ·refine sv (.ah (.U (.bi (.u (.ak (.J rfl) .e t) .I) b) .e .e) .e) (λy=>?_) λy=>?_
  ·exact bQ .e<|bj (CP:=CP k)<|bj (CP:=CP k)<|g .I (nz f a i m hp hf hl h0 l) rfl rfl
  ·refine au (Ee (n:=1009) (by decide)<|m*37+11) λr e u=>?_
   have B:Ev H [aa<|.d p,aa<|.x n,ag] (.aS 0 .Mod (.aS 0 .Add (.aS 0 .Mult (.ak (.J 0)<|.e<|.x 2)<|.e<|.x 37)<|.e<|.x 11)<|.e<|.x 1009) (.x r):=
    e▸ .aS (.aS (.aS (.ak (.J rfl) .e x) .e<|.x<|.d (jg (show m.natAbs<1009 from j3.mp<|ae (Mw h0) l)<|by decide)<|by decide) .e<|.x .J) .e (.x<|.c<|by decide)
   refine jT B<|mP (.J rfl) .e (.u hp (j:=2) (by decide) rfl) ?_;have h:(H.J p<|.u 31 [.d f, .x i, .x r]) p=aa (.u 31 [.d f, .x i, .x r]):=aQ;refine bQ (.ak (.J rfl) .e<|.u (j:=2) h rfl rfl)<|bj (CP:=CP k)<|bj (CP:=CP k)<|g (.J hp rfl) (nz f a i r h (cH hp hf rfl) hl (iA _) u) rfl rfl
end
theorem Fr.kH{S:List Nat}{H b a:HP}{f:Nat}(F:Fr S H b)(n:H f=ag)(B:dQ f b a):Fr S H a:=λx d e s=>B x d (gG e n)<|F x d e s
noncomputable def AL(s f:Nat)(m:Int)(a b c d:Option V):aA:=[aa<|.d s,aa<|.d f,aa<|.x m,a,b,c,d]
section
theorem Zi:∀{l:List V} {b:List Int} {H:HP} {r:Int} {d:Option V},H f=aa (.u 29<|b.map V.x)->b.length+l.length<=1000->
 (∀m (i:List Int) x y,dQ f H m->m f=aa (.u 29<|i.map V.x)->i.length<=b.length+l.length->P.nx (AL s f j c w x y) m)->dF (CP k) (.J 6) IV P .b l (AL s f j c w (aa<|.x r) d) H:=by
 intro t;induction t with
 | nil=>intro b H r d h hl q;exact ik trivial<|q H b _ _ (λz z z e=>e) h<|dC _
 | cons v l ih=>
  intro b H r d h hl q;rw [dK] at hl;have o:(H.J f<|.u 29<|b.map V.x++[.x<|ur r 840]) f=aa (.u 29<|(b++[ur r 840]).map V.x):=by exact ae aQ<|ae ed rfl
  have p:dQ f H (H.J f<|.u 29<|b.map V.x++[.x<|ur r 840]):=λa d n e=>gc n e;exact i7 trivial<|dB<|jt (.J rfl) (.aS (.J rfl) .e<|.x<|.c<|by decide) h (by rw [bB];exact eX (aH (fz _ _) hl)<|by decide)<|WI rfl .e (.x<|.e (by decide)<|by decide)<|gF (.ah (.U (.J rfl) .e cR) .e) (λz=>q _ _ _ _ p o<|ae bI<|ae dK<|ae dK<|hS (jP<|dR _) _) λz=>bj (CP:=CP k)<|ih o (ae bI<|ae gY<|aD (.I (.a (.a (.v 0)<|.n 1)<|.v 1)<|.n 1000) (.I (.a (.v 0)<|.a (.v 1)<|.n 1)<|.n 1000) rfl [] [_,_] hl) λm i x y B e g=>q m i x y (p.u B) e (by rw [bI,gY] at g;exact ae dK<|aD (.I (.v 0)<|.a (.v 1)<|.a (.v 2)<|.n 1) (.I (.v 0)<|.a (.a (.v 1)<|.n 1)<|.v 2) rfl [] [_,_,_] g)
theorem Zj:∀{l:List Int} {figs:List Int} {H:HP} {i:Int} {a b c d:Option V},H f=aa (.u 29<|figs.map V.x)->H t=aa (.u 30 all)->figs.length<=400->0<=i/\i<1009->
 (∀r (g:List Int) (m:Int) a b c d,dQ f H r->r f=aa (.u 29<|g.map V.x)->g.length<=1000->0<=m/\m<1009->P.nx (AL s f m a b c d) r)->dF (CP k) (.J 3) IU P (.u t<|.u 30 all) (l.map V.x) (AL s f i a b c d) H:=by
 intro I;induction I with
 | nil=>intro figs H i a b c d h p hl u q;exact ik p<|q H figs i _ _ _ _ (λz z z e=>e) h (aD (.I (.v 0)<|.n 1000) (.I (.v 0)<|.n 400) rfl [] [_] hl) u| cons w l ih=>intro figs H i a b c d h p hl u q;refine au (Ee (n:=1009) (by decide)<|i*31+w) λF J G=>i7 p<|bQ (.bi (aC rfl) .x)<|bQ (v:= .x F) (J▸ .aS (.aS (.aS (.J rfl) .e<|.x<|.d (jg (show i.natAbs<1009 from j3.mp<|ae (Mw u.1) u.2)<|by decide)<|by decide) (.J rfl)<|.x .J) .e (.x<|.c<|by decide))<|bQ (.bi (aC rfl) .k)<|Jx .e (by unfold gK;decide)<|Zi h (l:=eQ 0 60) (aH (jC hl _)<|by decide) λK j x y E C D=>?_;have o:=fP.e C;rw [bB] at o;have D:j.length<=1000:=aH D<|aH (jC hl _) (by decide);have A:=E _ _ (fT p h rfl) p;refine gF (.ah (.U (.bi (aC rfl) o) .e .j) .e) (λz=>q K j F _ _ _ _ E C D ⟨iA _,G⟩) λc=>bj (CP:=CP k) ?_;have c:=of_decide_eq_false c;exact ih C A (aD (.I (.v 0)<|.n 400) (.Nt (.n 400)<|.c<|.v 0) rfl [] [_] c) ⟨iA _,G⟩ λr g m a b c d B e=>q r g m a b c d (E.u B) e
include L
theorem Zh{l:List Int}(h:H s=aa (.j<|l.map V.x))(q:∀i p,Fr [] H i->eI i p->Q (.d p) i):CP (k+1) 897 [.d s] E Q H:=by refine L.1 (n:=8971) rfl rfl<|bz<|fv .I λf e=>bQ .e<|xZ<|x5 (.J rfl) .e .e (.j<|dh e h) λt o=>(cL _ _ (.u aQ) ?_);have hf:=dh (d:= .u 30<|(l.map V.x).take<|fQ (l.map V.x).length 40) o<|aQ (H:=H) (a:=f) (c:= .u 29 []);have j:=(Fr.aT (S:=[]) (c:= .u 29 []) e).u<|Fr.aT (c:= .u 30<|(l.map V.x).take<|fQ (l.map V.x).length 40) o;have g:=aQ (H:=H.J f<|.u 29 []) (a:=t) (c:= .u 30<|(l.map V.x).take<|fQ (l.map V.x).length 40);revert hf j g;generalize (H.J f<|.u 29 []).J t _=z;refine ae MM.symm ?_;intro hf j g;refine Zj (figs:=[]) hf g (by decide) (by decide) λy figs m a b c d x v w u=>cC<|fv (vs:=[.d f, .x 0, .x m]) ((aC rfl)) λp r=>q _ p ((j.kH e x).u<|.aT r) ⟨f,figs,0,m,aQ,dh r v,w,u⟩
end
noncomputable def qS(e:ct):Int:=if [qw,qv].contains e.2 then e.1 else e.1 - 1
noncomputable def qT(e:ct):Int:=if [qt,fq].contains e.2 then e.1 else e.1 - 1
noncomputable def pG:List Str:=[qt,r7]
noncomputable def ou:List Str:=[qw,fq,xK]
noncomputable def pF:List Str:=[qv,se]
noncomputable def dj:List Str:=[tR,dU,tT,nS,Df,C9]
noncomputable def mW:List Int:=[500,499,999,1000,1001,1200,1199,1,2]
noncomputable def iy(l:List (Str×ct)):List (Str×V):=l.map λx=>(x.1,eV x.2)
noncomputable def jX(d a:List Str)(x:Str×ct):Prop:=x.1∈d/\1<=x.2.1/\x.2.1<=1200/\x.2.2∈a
inductive TG(bar:Bool)(d:List Str)(T:bS):Prop
 | mk (pre:∀x∈T.bp,jX d pG x)
  (inf:∃r,T.aZ=(bZ,1000,fq)::r/\∀x∈r,(bar=af/\x=(cG,1100,fq))\/jX d ou x)
  (post:∀x∈T.bD,jX d pF x)
  (np:(T.bp.map (·.1)).Nodup)
  (ni:(T.aZ.map (·.1)).Nodup)
  (nq:(T.bD.map (·.1)).Nodup)
  (dis:∀x∈T.aZ,∀y∈T.bD,x.1≠y.1)
noncomputable abbrev TA:Type:=Nat×Nat×Nat
noncomputable abbrev TA.p(x:TA):Nat:=x.1
noncomputable abbrev TA.i(x:TA):Nat:=x.2.1
noncomputable abbrev TA.q(x:TA):Nat:=x.2.2
inductive jc(H:HP)(D:TA)(T:bS):Prop
 | mk (p:H D.p=aa (.a 33 (iy T.bp)))
  (i:H D.i=aa (.a 34 (iy T.aZ)))
  (q:H D.q=aa (.a 35 (iy T.bD)))
theorem jc.J{H a:HP}{D:TA}{T:bS}{S:List Nat}(x:jc H D T)(F:Fr S H a)(s:[33,34,35].all (λn=>!S.contains n)=af):jc a D T:=by have s:∀n∈[33,34,35],S.contains n=false:=λn b=>gE<|dT.mp s n b;exact⟨F _ _ x.1<|s 33 (by decide),F _ _ x.2<|s 34 (by decide),F _ _ x.3<|s 35<|by decide⟩
theorem jX.U{d e a:List Str}{x}(h:jX d a x)(s:∀y∈d,y∈e):jX e a x:=⟨s _ h.1,h.2⟩
noncomputable def ua:List Nat:=[31,33,34,35]
section
include L
theorem Kx(h:e.2∈pG++ou++pF)(q:Q (.U [.x<|qS e, .x<|qT e]) H):CP (k+1) 918 [eV e] E Q H:=by
 obtain⟨p,s⟩:=e;replace h:s∈[qt,r7,qw,fq,xK,qv,se]:=h;refine L.1 (n:=9181) rfl rfl<|x6 (.J rfl) rfl<|bQ (v:= .x<|qS (p,s)) ?_<|bQ (v:= .x<|qT (p,s)) ?_<|aY ((bH rfl)) q
 ·refine Fw h ?_ ?_ ?_ ?_ ?_ ?_ ?_<;>first | exact .lT (.ah (.U (.ak (.J rfl) .e<|.z (j:=0) rfl rfl) .e cj) .e) (.J rfl) | exact .n8 (.ah (.U (.ak (.J rfl) .e<|.z (j:=0) rfl rfl) .e cj) .e)<|bH rfl
 ·refine Fw h ?_ ?_ ?_ ?_ ?_ ?_ ?_<;>first | exact .lT (.ah (.U (.ak (.J rfl) (bH rfl)<|.z (j:=1) rfl rfl) .e cj) .e) (.J rfl) | exact .n8 (.ah (.U (.ak (.J rfl) (bH rfl)<|.z (j:=1) rfl rfl) .e cj) .e) (bH rfl) | exact .lT (.ah (.U (.ak (.J rfl) (bH rfl)<|.z (j:=2) rfl rfl) .e cj) .e) (.J rfl) | exact .n8 (.ah (.U (.ak (.J rfl) (bH rfl)<|.z (j:=2) rfl rfl) .e cj) .e)<|bH rfl
theorem Eg{p C dd b g q j:Nat}{ks:List Int}{tys:List Str}{xs A:XL}{n:Int}{o:List (Str×V)}{s:Str}{r:Nat}{ρ:aA}{P:bA}{rest:SL}(hp:eI H p)(hl:H C=aa (.u 32<|mW.map V.x))(hd:H dd=aa (.a b o))
 (h0:ρ[0]?=aa (aa<|.d p)) (h1:ρ[1]?=aa (aa<|.d C)) (hj:ρ[j]?=aa (aa<|.d dd)) (h5:ρ[5]?=aa (aa<|.z s)) (h6:ρ[6]?=aa (aa<|.x r))
 (ex:∀H,mM H ρ xs<|ks.map V.x) (ey:∀H,mM H ρ A<|tys.map V.z) (hk:nC (ks.map V.x) ks) (hn:n=tys.length) (Z:0<n) (hg:[31].contains q=ai) (tl:tys.length<1099511627776) (le:o.length<cE) (Y:dA o s=ag) (F:b=33\/b=34\/b=35)
 (U:∀d e,ks.contains (r:Int)=af->Fr [31,b] H d->eI d p->d dd=aa (.a b<|o++[(s,eV e)])->1<=e.1->e.1<=1200->e.2∈tys->aw (CP<|k+1) rest ρ P d)
 (T:∀d,ks.contains (r:Int)=ai->Fr [] H d->aw (CP<|k+1) rest ρ P d):
 aw (CP<|k+1) (.u (.d (.ah<|.U (.J 6) .In<|.u g xs) (.u (.c (.ak (.J j)<|.J 5)<|.ax<|.u (.ak (.J 1)<|.aN 904<|.u (.J 0)<|.u (.e<|.x 9) .I)<|.u (.ak (.u q A)<|.aN 904<|.u (.J 0)<|.u (.e<|.x n) .I) .I) .I) .I) rest) ρ P H:=by
 refine di<|cD<|gf<|aX (.J h6)<|fv (ex H) λc B=>(lj _ (.c<|.u aQ<|.x hk) _ .e (λt=>?_) λt=>bj (CP:=CP<|k+1)<|T _ t<|.aT B);have f:Fr [] H (H.J c<|.u g<|ks.map V.x):= .aT B;have u:=hp.J f rfl;have w:=f _ _ hl rfl;have I:=f _ _ hd rfl;revert f u w I;generalize H.J c (.u g<|ks.map V.x)=H1;intro f u w I;refine qz<|jU<|bx<|mQ<|aX (.J h1)<|bV (vs:=[.d p, .x 9]) (.u (.J h0)<|aC rfl)<|iM L u (by decide) λJ i D O X=>?_
 have E:∃x:Int,mW[i]?=aa x/\1<=x/\x<=1200:=by
  have:∀i:Fin 9,∃x:Int,mW[i.1]?=aa x/\1<=x/\x<=1200:=by decide
  exact this ⟨i,by exact aD (.e (.v 0)<|.n 9) (.U (.c<|.v 0)<|.n 9) rfl [] [_] D⟩
 refine bR E λx gx R Q=>?_;clear E;refine⟨.x x, .u (j:=i) (O _ _ w rfl) (by rw [bB];exact lX (show i<9 by exact aD (.e (.v 0)<|.n 9) (.U (.c<|.v 0)<|.n 9) rfl [] [_] D)<|by decide) (by refine ae (jf)<|ae gx ?_;rfl),bx<|mQ<|fv (ey J) λy h=>bV (vs:=[.d p, .x n]) (.u (.J h0)<|aC rfl)<|iM L (X.J (Fr.aT (S:=[]) h) rfl) Z λz m v N W=>?_⟩;have l:m<tys.length:=by exact bJ (.e (.v 0)<|.v 1) (.U (.c<|.v 0)<|.v 0) (.Eq (.v 0)<|.c<|.v 1) rfl [_] [_,_] v hn
 have y:=N _ _<|aQ (H:=J) (a:=y) (c:= .u q<|tys.map V.z);refine⟨.z tys[m], .u (j:=m) (y hg) (by rw [bB];exact lX l tl) (by refine ae (jf)<|ae (iB l) ?_;rfl),?_⟩;have F4:=(Fr.aT (S:=[31]) (c:= .u q<|tys.map V.z) h).u N;have M:Fr [31] H z:=(f.U rfl).u<|O.u F4;have G:=M _ _ hd (by rcases F with rfl | rfl | rfl<;>rfl);have K:Fr [b] z (z.J dd<|.a b<|o++[(s,eV (x,tys[m]))]):= .J G<|rB.mpr cu;refine mP (.J hj) (.J h5) (.s G le Y)<|bj (CP:=CP<|k+1)<|U _ (x,tys[m]) t (M.e K (ae me<|ae j5 rfl)<|by refine ae me<|ae j5 ?_;simp) (W.J K<|by rcases F with rfl | rfl | rfl<;>rfl) aQ R Q<|wx _
end
noncomputable def uc(n:Nat)(T:bS):Prop:=T.bp.length<=n/\T.aZ.length<=n+1/\T.bD.length<=n
theorem TG.U{c:Bool}{d:List Str}{T:bS}(h:TG c d T)(s:Str):TG c (d++[s]) T:=by exact au h.2 λr e f=>⟨λx b=>(h.1 x b).U λy a=>lh _ a,(aM r e λx b=>(f x b).imp id λz=>z.U λy a=>lh _ a),λx b=>(h.3 x b).U λy a=>lh _ a,h.4,h.5,h.6,h.7⟩
theorem Eh{s:Str}{e:c}(h:(l.map (·.1)).Nodup)(n:∀x∈l,x.1≠s):((l++[(s,e)]).map (·.1)).Nodup:=by rw [ed,BD];refine⟨h,la.mpr ⟨dz,rD⟩,λa i b g=>(au (gi.mp i) λx f d=>?_)⟩;obtain rfl:=d;exact ae (d5.mp g)<|n x f
theorem yq{p:a->Prop}(h:∀x∈l,p x)(c:p y)(d:x∈l++[y]):p x:=by
 refine cO (fG.mp d) (λb=>?_) λb=>?_
 ·exact h x b
 ·exact ae (d5.mp b) c
theorem TG.Zk{T:bS}{s:Str}{e:ct}(h:TG a d T)(n:∀x∈T.bp,x.1≠s)(r:jX d pG (s,e)):TG a d ⟨T.bp++[(s,e)],T.aZ,T.bD⟩:=
 ⟨λx b=>yq (p:=jX d pG) h.1 r b,h.2,h.3,Eh h.4 n,h.5,h.6,h.7⟩
theorem TG.I{a:Bool}{d:List Str}{T:bS}{s:Str}{e:ct}(h:TG a d T)(n:∀x∈T.aZ,x.1≠s)(m:∀y∈T.bD,s≠y.1)(r:(a=af/\(s,e)=(cG,1100,fq))\/jX d ou (s,e)):TG a d ⟨T.bp,T.aZ++[(s,e)],T.bD⟩:=by refine au h.2 λl c hl=>⟨h.1,(aM (l++[(s,e)]) ?_ λx b=>yq (p:=λx:Str×ct=>(a=af/\x=(cG,1100,fq))\/jX d ou x) hl r b),h.3,h.4,Eh h.5 n,h.6,λx b=>yq (p:=λx:Str×ct=>∀y∈T.bD,x.1≠y.1) h.7 m b⟩;skip;exact ae c rfl
theorem TG.Zl{T:bS}{s:Str}{e:ct}(h:TG a d T)(n:∀x∈T.bD,x.1≠s)(m:∀x∈T.aZ,x.1≠s)(r:jX d pF (s,e)):TG a d ⟨T.bp,T.aZ,T.bD++[(s,e)]⟩:=
 ⟨h.1,h.2,λx b=>yq (p:=jX d pF) h.3 r b,h.4,h.5,Eh h.6 n,λx b y c=>yq (p:=λy:Str×ct=>x.1≠y.1) (h.7 x b) (m x b) c⟩
theorem TG.aT{T:bS}(h:TG b d T){s:Str}(n:s∉d)(m:s∈dj):(∀x∈T.bp,x.1≠s)/\(∀x∈T.aZ,x.1≠s)/\∀x∈T.bD,x.1≠s:=by
 refine⟨λx a e=>n<|e▸(h.1 x a).1,λx a e=>au h.2 λl c hl=>?_,λx a e=>n<|e▸(h.3 x a).1⟩;replace a:=c▸a;rcases dH.mp a with rfl | a
 ·replace m:=e.symm▸m;exact absurd m (by decide)
 ·rcases hl x a with ⟨_,rfl⟩ | h
  ·replace m:=e.symm▸m;exact absurd m (by decide)
  ·exact n<|e▸h.1
noncomputable def ud(p c:Nat)(D:TA)(a b:Option V):aA:=[aa<|.d p,aa<|.d c,aa<|.d D.p,aa<|.d D.i,aa<|.d D.q,a,b]
section
include L
theorem Zm{p E:Nat}{D:TA}{P:bA}{o:Bool}{d:List Str}{T:bS}{s:Str}{b:Option V}(hp:eI H p)(hl:H E=aa (.u 32<|mW.map V.x))(hd:jc H D T)(g:TG o d T)(n:s∉d)(m:s∈dj)(z:uc d.length T)(Y:d.length<=10)
 (q:∀f T' b,Fr ua H f->eI f p->jc f D T'->TG o (d++[s]) T'->uc (d.length+1) T'->P.nx (ud p E D (aa<|.z s) b) f):
 aw (CP<|k+1) xO (ud p E D (aa<|.z s) b) P H:=by
 have Z:∀{i:Nat},i<=11->i<cE:=λh=>eX h (by decide);refine gI z λz1 U S=>gI (g.aT n m) λn1 n2 W=>?_;have ms:s∈d++[s]:=ma _ cu;refine bz<|bV (vs:=[.d p, .x 7]) (aC rfl)<|iM L hp (by decide) λH1 r lt F1 p1=>?_;have X:=hd.J F1 rfl;have l1:=F1 _ _ hl rfl;have K:∀{f} {T':bS},Fr ua H1 f->eI f p->jc f D T'->TG o (d++[s]) T'->uc (d.length+1) T'->aw (CP<|k+1) .I (ud p E D (aa<|.z s)<|aa<|.x r) P f:=λF A l C z'=>bj<|q _ _ _ ((F1.U rfl).u F) A l C z'
 have u:∀{f} {T':bS},Fr ua H1 f->eI f p->jc f D T'->TG o (d++[s]) T'->T'.bp.length<=d.length+1->T'.aZ.length<=d.length+2->T'.bD=T.bD->([4,5].contains (r:Int)=af->∀x∈T'.aZ,x.1≠s)->aw (CP<|k+1) (ck 3 xO) (ud p E D (aa<|.z s)<|aa<|.x r) P f:=λ{f T'} F A l C j G N ni=>by
  rw [<-N] at W S;refine Eg L (k:=k) (ks:=[4,5]) (tys:=pF) (n:=2) A (F _ _ l1 rfl) l.3 rfl rfl rfl rfl rfl (λH=>(aC rfl)) (λH=>(aC rfl)) (.u<|.u .I) rfl (by decide) rfl (by decide) (by unfold iy;rw [bB];exact Z<|bJ (.I (.v 0)<|.n 11) (.I (.v 0)<|.v 1) (.I (.v 1)<|.n 10) rfl [] [_,_] S Y) (vN (g:=λx:Str×ct=>x.1) W) (.inr<|.inr rfl) (λR e c a I J Q O M=>?_) λR w a=>?_
  ·exact K (T':=⟨T'.bp,T'.aZ,T'.bD++[(s,e)]⟩) (F.u<|a.U rfl) I ⟨a _ _ l.1 rfl,a _ _ l.2 rfl,by refine ae J ?_;unfold iy;exact ae ed rfl⟩ (C.Zl W (ni c) ⟨ms,Q,O,M⟩) ⟨j,G,ae bI<|jC S 1⟩
  ·exact K (F.u<|a.U rfl) (A.J a rfl) (l.J a rfl) C ⟨j,G,dM S⟩
 have v:∀{f} {T':bS},Fr ua H1 f->eI f p->jc f D T'->TG o (d++[s]) T'->T'.bp.length<=d.length+1->T'.aZ=T.aZ->T'.bD=T.bD->aw (CP<|k+1) (ck 2 xO) (ud p E D (aa<|.z s)<|aa<|.x r) P f:=λ{f T'} F A l C j eqi N=>by
  have t:=n2;rw [<-eqi] at t U;have B:=W;replace B:=N.symm▸B;refine Eg L (k:=k) (ks:=[0,2,3]) (tys:=ou) (n:=3) A (F _ _ l1 rfl) l.2 rfl rfl rfl rfl rfl (λH=>(aC rfl)) (λH=>(aC rfl)) (.u<|.u<|.u .I) rfl (by decide) rfl (by decide) (by unfold iy;rw [bB];exact Z<|bJ (.I (.v 0)<|.n 11) (.I (.v 0)<|.a (.v 1)<|.n 1) (.I (.v 1)<|.n 10) rfl [] [_,_] U Y) (vN (g:=λx:Str×ct=>x.1) t) (.inr<|.inl rfl) (λR e c a I J Q O M=>?_) λR w a=>?_
  ·exact u (T':=⟨T'.bp,T'.aZ++[(s,e)],T'.bD⟩) (F.u<|a.U rfl) I ⟨a _ _ l.1 rfl,by refine ae J ?_;unfold iy;refine ae ed ?_;rfl,a _ _ l.3 rfl⟩ (C.I t (λy hy=>(B y hy).symm)<|.inr ⟨ms,Q,O,M⟩) j (by refine ae bI ?_;exact jC U 1) N λc'=>by simp at c c';lia
  ·exact u (F.u<|a.U rfl) (A.J a rfl) (l.J a rfl) C j (dM U) N λw=>t
 refine Eg L (k:=k) (ks:=[1,3,5]) (tys:=pG) (n:=2) p1 l1 X.1 rfl rfl rfl rfl rfl (λH=>(aC rfl)) (λH=>(aC rfl)) (.u<|.u<|.u .I) rfl (by decide) rfl (by decide) (by unfold iy;rw [bB];exact Z<|bJ (.I (.v 0)<|.n 11) (.I (.v 0)<|.v 1) (.I (.v 1)<|.n 10) rfl [] [_,_] z.1 Y) (vN (g:=λx:Str×ct=>x.1) n1) (.inl rfl) (λR e c a I J Q O M=>?_) λR w a=>?_
 ·exact v (T':=⟨T.bp++[(s,e)],T.aZ,T.bD⟩) (a.U rfl) I ⟨by refine ae J ?_;unfold iy;refine ae ed ?_;rfl,a _ _ X.2 rfl,a _ _ X.3 rfl⟩ ((g.U s).Zk n1 ⟨ms,Q,O,M⟩) (ae bI<|jC z1 1) rfl rfl
 ·exact v (a.U rfl) (p1.J a rfl) (X.J a rfl) (g.U s) (dM z1) rfl rfl
end
theorem TG.up{T:bS}(h:TG ai d T):TG af d T:=
 au h.2 λr e b=>
 ⟨h.1,(aM r e λx a=>(b x a).imp (λz=>⟨rfl,z.2⟩) id),h.3,h.4,h.5,h.6,h.7⟩
theorem Zp{CP:Nat->List V->EP->QV->HP->Prop}{ρ:aA}{E:EP}{Q:QV}{H:HP}{g:Nat}{x y:X}{s:Str}{v:V}(e:Ev H ρ x (.z s))(d:Ev H ρ y v)(q:∀c,H c=ag->Q (.d c) (H.J c<|.a g [(s,v)])):aK CP (.w g x y) ρ E Q H:=
 aX (Q:=λa H=>aK CP y ρ E (λb H=>∃s,a= .z s/\∀c,H c=ag->Q (.d c) (H.J c<|.a g [(s,b)])) H) e (aX (Q:=λb H=>∃t,V.z s= .z t/\∀c,H c=ag->Q (.d c) (H.J c<|.a g [(t,b)])) d<|aM s rfl q)
section
include L
theorem Zo{D:TA}{P:bA}{all:List V}:∀{l d:List Str} {T:bS} {H:HP} {a b:Option V},eI H p->H i=aa (.u 32<|mW.map V.x)->H r=aa (.u 36 all)->jc H D T->TG ai d T->d++l=dj->uc d.length T->
 (∀f j a b,Fr ua H f->eI f p->jc f D j->TG ai dj j->uc 6 j->P.nx (ud p i D a b) f)->dF (CP<|k+1) (.J 5) xO P (.u r<|.u 36 all) (l.map V.z) (ud p i D a b) H:=by
 intro w;induction w with
 | nil=>intro d T H a b hp hl c hd g e z q;exact ik c<|q H T a b .I hp hd (by rw [<-e,jh];exact g) (by rw [jh] at e;replace z:=e▸z;exact z)
 | cons s l ih=>
  intro d T H a b hp hl c hd g e z q;have t:dj.Nodup:=by decide
  have m:s∈dj:=by rw [<-e];exact ma _ cu
  have n:s∉d:=λh=>by rw [<-e,BD] at t;exact t.2.2 s h s cu rfl
  have u:d.length<=10:=by have:=congrArg pO e;rw [bI,dK,show dj.length=6 from rfl] at this;exact aD (.I (.v 0)<|.n 10) (.u (.a (.v 0)<|.a (.v 1)<|.n 1)<|.n 6) rfl [] [_,_] this
  exact i7 c<|Zm L hp hl hd g n m z u λK J I o x A y v=>ih x (o _ _ hl rfl) (o _ _ c rfl) A y (by rw [cv];exact e) (ae bI v) λF E C B G=>q F E C B<|o.u G
theorem Zn{p:Nat}(hp:eI H p)(q:∀f D T,Fr ua H f->eI f p->jc f D T->TG af dj T->uc 8 T->Q (.U [.d D.p, .d D.i, .d D.q]) f):CP (k+2) 911 [.d p] E Q H:=by
 refine L.1 (n:=9111) rfl rfl<|bz<|fv (vs:=mW.map V.x) ((aC rfl)) λo X=>bz λa na=>bz<|Zp (v:=eV (1000,fq)) .e ((bH rfl)) λi ni=>bz λc nc=>?_;have F1:=Fr.aT (S:=[]) (c:= .u 32<|mW.map V.x) X;have R:=Fr.aT (S:=[]) (c:=lu 33 0) na;have K:=Fr.aT (S:=[]) (c:= .a 34 [(bZ,eV (1000,fq))]) ni;have w:=Fr.aT (S:=[]) (c:=lu 35 0) nc;have A:=(R.u<|K.u w) _ _ (aQ (H:=H) (a:=o) (c:= .u 32<|mW.map V.x)) rfl;have I:=(K.u w) _ _ (aQ (H:=H.J o<|.u 32<|mW.map V.x) (a:=a) (c:=lu 33 0)) rfl;have B:=w _ _ (aQ (H:=(H.J o<|.u 32<|mW.map V.x).J a<|lu 33 0) (a:=i) (c:= .a 34 [(bZ,eV (1000,fq))])) rfl;have G:=aQ (H:=((H.J o<|.u 32<|mW.map V.x).J a<|lu 33 0).J i<|.a 34 [(bZ,eV (1000,fq))]) (a:=c) (c:=lu 35 0);have F:=F1.u<|R.u<|K.u w;revert A I B G F;generalize (((H.J o<|.u 32<|mW.map V.x).J a<|lu 33 0).J i<|.a 34 [(bZ,eV (1000,fq))]).J c (lu 35 0)=H4;intro A I B G F;refine xZ<|fv (vs:=dj.map V.z) ((aC rfl)) λnl Z=>(cL _ _ (.u aQ) ?_);have m:=Fr.aT (S:=[]) (c:= .u 36<|dj.map V.z) Z
 refine Zo L (D:=⟨a,i,c⟩) (d:=[]) (T:=⟨[],[(bZ,1000,fq)],[]⟩) (hp.J (F.u m) rfl) (m _ _ A rfl) aQ ⟨m _ _ I rfl,m _ _ B rfl,m _ _ G rfl⟩
  ⟨λz h=>((dz h).elim),⟨[],rfl,λz h=>((dz h).elim)⟩,λz h=>((dz h).elim),rD,la.mpr ⟨dz,rD⟩,rD,λz z z h=>((dz h).elim)⟩ rfl ⟨dC _,dC _,dC _⟩ λH6 T x y F6 W P t b=>?_
 have U:∀{f:HP},Fr [31] H6 f->Fr ua H f:=λj=>(F.U rfl).u<|(m.U rfl).u<|F6.u<|j.U rfl;refine di<|cD<|gf<|bV (vs:=[.d p, .x 2]) ((aC rfl))<|iM L W (by decide) λJ r lt j M=>aX .e ⟨_,cR,_, .e,λz=>?_,λz=>?_⟩
 ·have C:=P.J j rfl
  have N:∀x∈T.aZ,x.1≠cG:=λx s e=>by
   refine au t.2 λl el hl=>?_;replace s:=el▸s;rcases dH.mp s with rfl | s
   ·exact absurd e (by decide)
   ·rcases hl x s with ⟨h,_⟩ | h
    ·exact bw h
    ·have:=h.1;replace this:=e▸this;exact absurd this (by decide)
  have Y:∀y∈T.bD,cG≠y.1:=λy hy e=>by have:=(t.3 y hy).1;replace this:=e.symm▸this;exact absurd this (by decide)
  have O:=C.2;have u:Fr [34] J (J.J i<|.a 34<|iy T.aZ++[(cG,eV (1100,fq))]):= .J O rfl;refine jT (v:=eV (1100,fq)) ((bH rfl))<|mP (.J rfl) .e (.s O (by unfold iy;rw [bB];exact eX b.2.1<|by decide)<|vN (g:=λx:Str×ct=>x.1) N)<|bj (CP:=CP<|k+1)<|aY ((bH rfl))<|q _ ⟨a,i,c⟩ ⟨T.bp,T.aZ++[(cG,1100,fq)],T.bD⟩ ((U j).u<|u.U rfl) (M.J u rfl) ⟨u _ _ C.1 rfl,?_,u _ _ C.3 rfl⟩ (t.up.I N Y<|.inl ⟨rfl,rfl⟩) ⟨aH b.1 (by decide),?_,aH b.2.2<|by decide⟩
  ·refine ae aQ ?_;unfold iy;exact ae ed rfl
  ·exact ae bI<|aH (jC b.2.1 1) (by decide)
 ·exact bj (CP:=CP<|k+1)<|aY ((bH rfl))<|q J ⟨a,i,c⟩ T (U j) M (P.J j rfl) t.up ⟨aH b.1 (by decide),aH b.2.1 (by decide),aH b.2.2<|by decide⟩
end
noncomputable def fF(g:List aO)(i j:Nat):List aO:=(g.take j).drop i
theorem Zy(h:j<=g.length):(fF g i j).length=j - i:=by skip;exact ae lg<|ae MR<|ae (Ba h) rfl
theorem AM(g:List aO)(i:Nat):fF g i i=[]:=by skip;exact MF<|ae MR<|adj _ _
theorem Zx(g:List aO):fF g 0 g.length=g:=by unfold fF;exact ae acx rfl
theorem AN(h:i<=m)(a:m<j)(e:g[m]?=aa x):fF g i j=fF g i m++x::fF g (m+1) j:=by
 have b:m<g.length:=(oH.mp e).1;unfold fF
 have c:g.take j=g.take m++x::(g.take j).drop (m+1):=by
  have:(g.take j)[m]?=aa x:=by refine ae (List.getElem?_take_of_lt a) ?_;exact e
  have d:=List.drop_eq_getElem?_toList_append (l:=g.take j) (i:=m);replace d:=this▸d;have t:=List.take_append_drop m<|g.take j;rw [d,List.take_take,Ba<|jM a] at t;exact t.symm
 have:(g.take j).drop i=(g.take m++x::(g.take j).drop (m+1)).drop i:=by exact ae c.symm rfl
 exact ae this<|ae (List.drop_append_of_le_length<|ae MR<|ae (Ba<|jM b) h) rfl
section
variable {O:cX} (W:O.a)
include W
theorem D.ne:¬D O [] t q:=λd=>by exact cm (d.U W) λx r e z=>gw e
omit W in
theorem Zt(e:g= .u s::R)(h:O.bp s=aa (p,y))(B:g9 O R (aa (t,q)))(b:q<=y):g9 O g (aa (.U s [t],p)):=by refine o1 B λz c=>?_;subst e;exact⟨y, .bp h c b⟩
theorem Zw(e:g=x::R)(n:∀s p y,x= .u s->O.bp s=aa (p,y)->∃r,g9 O R r/\∀t q,r=aa (t,q)->¬q<=y):o9 O g:=λs l p r t q a h d b=>by replace a:=e▸a;injection a with j i;subst i;exact au (n s p r j h) λm B k=>au (B.eM W d) λc f z=>k c q f b
theorem Zu:jH O g 1:=λl s m p x y t q u v e hl h d=>by induction l with| nil=>exact absurd d<|D.ne W| cons=>exact absurd (Nat.lt_of_succ_lt_succ hl)<|MS _
theorem Ei{g L R:List aO}{x:aO}(n:jH O g L.length)(e:g=L++x::R)(k:∀s p a y,x= .u s->O.aZ s=aa (p,a,y)->(∃r,g9 O L r/\∀t q,r=aa (t,q)->¬q<=a)\/∃r,g9 O R r/\∀t q,r=aa (t,q)->¬q<=y):jH O g (L.length+1):=λl s m p a y t q u v f hl h d b w A=>by
 by_cases c:l.length<L.length
 ·exact n l s m p a y t q u v f c h d b w A
 ·replace f:=e▸f;refine ay (MQ f<|j4 (aD (.I (.v 0)<|.v 1) (.nt (.v 1)<|.v 0) rfl [] [_,_] c)<|aD (.I (.v 0)<|.v 1) (.e (.v 0)<|.a (.v 1)<|.n 1) rfl [] [_,_] hl) λD o=>?_;injection o with o C;subst D C;rcases k s p a y o h with ⟨r,B,k⟩ | ⟨r,B,k⟩
  ·exact au (B.eM W d) λi j z=>k i q j b
  ·exact au (B.eM W w) λi j z=>k i v j A
theorem Zv{g L:List aO}{x:aO}(e:g=L++[x])(n:jH O g L.length):jH O g g.length:=λl s m p a y t q u v f hl h d b j=>by
 by_cases c:l.length<L.length
 ·exact n l s m p a y t q u v f c h d b j
 ·have r:=f;replace f:=e▸f;have:l.length=L.length:=by rw [e,bI,gY] at hl;exact j4 (aD (.I (.v 0)<|.v 1) (.e (.v 0)<|.a (.v 1)<|.n 1) rfl [] [_,_] hl)<|aD (.I (.v 0)<|.v 1) (.nt (.v 1)<|.v 0) rfl [] [_,_] c
  refine ay (MQ f this.symm) λo i=>?_;injection i with i k;subst k;exact absurd j<|D.ne W
theorem Zq{g L R:List aO}{s p a y t q u v}(f:o9 O g)(d:jH O g L.length)(e:g=L++ .u s::R)(h:O.aZ s=aa (p,a,y))(B:g9 O L (aa (t,q)))(b:q<=a)(k:g9 O R (aa (u,v)))(j:v<=y):g9 O g (aa (.U s [t,u],p)):=by exact o1 B λz c=>o1 k λl i=>⟨_, .VA W f d e c h b i j⟩
theorem Zs{g L:List aO}{s p a t q}(f:o9 O g)(d:jH O g L.length)(e:g=L++[.u s])(h:O.bD s=aa (p,a))(B:g9 O L (aa (t,q)))(b:q<=a):g9 O g (aa (.U s [t],p)):=by exact o1 B λz c=>⟨_, .I W f d e c h b⟩
theorem Zr{g L:List aO}{x:aO}(o:2<=g.length)(n:o9 O g)(m:jH O g L.length)(e:g=L++[x])(k:∀s p a,x= .u s->O.bD s=aa (p,a)->∃r,g9 O L r/\∀t q,r=aa (t,q)->¬q<=a):g9 O g none:=λt q=>
 D.u o n (Zv W e m) (λl s p a i j f h d b=>by
  rw [e] at f;refine ay (MQ f (by have:=congrArg pO f;rw [bI,bI,gY,gY] at this;exact j4 (aD (.I (.v 0)<|.v 1) (.u (.a (.v 0)<|.n 1)<|.a (.v 1)<|.n 1) rfl [] [_,_] this)<|aD (.I (.v 0)<|.v 1) (.qe (.a (.v 1)<|.n 1)<|.a (.v 0)<|.n 1) rfl [] [_,_] this)) λv c=>?_;injection c with c;subst v
  exact au (k s p a c h) λr B k=>au (B.eM W d) λi u z=>k i j u b) t q
end
noncomputable def Ej:aO->Str
 | .u _=>fS| .J _=>tP
noncomputable def ow(b:Bk):aO->V
 | .u s=> .z s| .J t=>dG b t
noncomputable def sG(b:Bk):aO->Prop
 | .u s=>s∈cy| .J t=>iu b t
noncomputable def fy(b:Bk)(x:aO×Str):V:= .U [.z<|Ej x.1,ow b x.1, .z x.2]
noncomputable def rv(b:Bk)(x:Tm×Int):V:= .U [tv b x.1, .x x.2]
noncomputable def rV(b:Bk):Option (Tm×Int)->V
 | none=> .f| some x=>rv b x
noncomputable def rI(b:Bk):Option (Tm×Int)->Prop
 | none=>True| some x=>x.1.e b
inductive dW(H:HP)(A:BA)(D:TA)(T:bS)(b:Bk)(pa:Nat)(l:List (aO×Str)):Prop
 | mk (bk:cJ H A b)
  (t:jc H D T)
  (pt:H pa=aa (.u 64 (l.map (fy b))))
  (i:∀x∈l,sG b x.1)
theorem pH(l:List (Str×ct))(s:Str):dA (iy l) s=(bK l s).map eV:=by
 delta dA bK iy;induction l with
 | nil=>rfl| cons x l ih=>refine ae gX<|ae gV<|ae gV ?_;cases s==x.1<;>first | exact ih | rfl
theorem Ek(h:b.I a)(i:sG b x):ow a x=ow b x/\sG a x:=by induction x with| u s=>exact⟨rfl,i⟩| J t=>exact qL h i
theorem KA(h:b.I a){l:List (aO×Str)}(i:∀x∈l,sG b x.1):l.map (fy a)=l.map (fy b):=pV λx c=>by unfold fy;exact ae ((Ek h<|i x c).1) rfl
noncomputable def kA(A:BA)(D:TA)(pa a:Nat)(i j:Int)(z:List (Option V)):aA:=[aa<|.d A.b,aa<|.U [.d D.p, .d D.i, .d D.q],aa<|.d pa,aa<|.d a,aa<|.x i,aa<|.x j,aa<|.d D.p,aa<|.d D.i,aa<|.d D.q]++z
section
variable {H:HP} {A:BA} {D:TA} {T:bS} {b:Bk} {pa:Nat} {l:List (aO×Str)}
theorem dW.ak(Y:dW H A D T b pa l){m:Nat}{x:aO×Str}(e:l[m]?=aa x)(a:l.length<1000):fh H (.d pa) (.x m) (fy b x):=
 .u (j:=m) Y.3 (by rw [bB];exact lX (oH.mp e).1<|jg a<|by decide) (by refine ae (jf)<|ae e ?_;rfl)
theorem dW.J(Y:dW H A D T b pa l){ρ:aA}{ix:X}{m i:Nat}{x:aO×Str}(e:l[m]?=aa x)(a:l.length<1000)(h:ρ[i]?=aa (aa<|.d pa))(c:Ev H ρ ix (.x m)):Ev H ρ (.ak (.ak (.J i) ix)<|.e<|.x 0) (.z<|Ej x.1):=
 .ak (.ak (.J h) c<|Y.ak e a) .e (.U rfl rfl)
theorem dW.I(Y:dW H A D T b pa l){ρ:aA}{a:X}{m i:Nat}{x:aO×Str}(e:l[m]?=aa x)(c:l.length<1000)(h:ρ[i]?=aa (aa<|.d pa))(d:Ev H ρ a (.x m)):Ev H ρ (.ak (.ak (.J i) a)<|.e<|.x 1) (ow b x.1):=
 .ak (.ak (.J h) d<|Y.ak e c) .e (.U rfl rfl)
end
section
variable {A:BA} {D:TA} {T:bS} {b:Bk} {pa:Nat} {l:List (aO×Str)}
include L
theorem Kz(h:cJ H A b)(f:t∈cy)(g:n<10)(q:∀d c,Fr gR H d->cJ d A c->b.I c->t∈c.U->(c.e t,n)∈c.fs->Q (.x<|c.fn t n) d):CP (k+2) 109 [.d A.b, .z t, .x n] E Q H:=by have e:=b.lV t;have a:=(b.J t).x9 ((b.J t).e t,n);exact JH L h f g λd F bk=>q d _ F bk (e.u a) (a.1.subset<|b.pn t)<|ae (show(b.t7 t n).e t=(b.J t).e t from i8 a<|b.pn t)<|Bk.ya _ _
theorem Ky(bk:cJ H A b)(h0:ρ[0]?=aa (aa<|.d A.b))(l:ρ[9]?=aa (aa<|.z s))(hd:ρ[d]?=aa (aa<|.d dd))(f:H dd=aa (.a m<|iy j))(y:gR.contains m=ai)
 (B:bK j s=aa e) (C:∀H,mM H ρ xs<|eU b ts) (hi:Tm.u b ts) (x:ts.length=n) (t:n<10) (w:s∈cy) (q:∀i c,Fr gR H i->cJ i A c->b.I c->(Tm.U s ts).e c->P.a (rV c<|aa (.U s ts,e.1)) i):
 aw (CP<|k+2) (.u (.e<|.ax<|.u (.ax<|.u (.e<|.z iI)<|.u (.I (.J 0) 154 109<|.u (.J 9)<|.u (.e<|.x n) .I)<|.u (.ax xs) .I)<|.u (.ak (.ak (.J d)<|.J 9)<|.e<|.x 0) .I) r) ρ P H:=by
 subst x;refine cC<|jU<|bx<|jU<|bx<|aX .e<|bx<|a7 (.J h0) bk.1 (vs:=[.z s, .x ts.length]) (.u (.J l)<|.u .e .I)<|Kz L bk w t λh g p k1 a v u=>cF (vs:=[.U<|eU b ts]) (.u (.ax<|C h) .I) ?_;have o:=fH.s (k:=s)<|p _ _ f y;rw [pH,B] at o;have tl:=Ai a ts hi;refine cF (vs:=[.x e.1]) (.u (.ak (.ak (.J hd) (.J l)<|.I o) .e<|.U rfl rfl) .I) ?_;have z:P.a (.U [.U [.z iI, .x<|g.fn s ts.length, .U<|eU g ts], .x e.1]) h:=q h g p k1 a ⟨v,u,tl.1⟩;replace z:=tl.2▸z;exact z
end
noncomputable def Zz(d:Nat)(n:Int)(xs:XL):S:= .e<|.ax<|.u (.ax<|.u (.e<|.z iI)<|.u (.I (.J 0) 154 109<|.u (.J 9)<|.u (.e<|.x n) .I)<|.u (.ax xs) .I)<|.u (.ak (.ak (.J d)<|.J 9)<|.e<|.x 0) .I
section
variable {A:BA} {D:TA} {T:bS} {b:Bk} {pa:Nat} {l:List (aO×Str)}
include L
theorem KC{d dd gd G:Nat}{i j:Int}{tb:List (Str×ct)}{m u w:Nat}{x:aO×Str}{ix S R:X}{sd:Int}{sdv:ct->Int}{r:Option (Tm×Int)}{es:List (List Int×V)}{f a:Option V}{zs:List (Option V)}{P:bA}{rest:SL}
 (Y:dW H A D T b pa l) (hb:H G=aa (.c 44 es)) (hl:l.length<1000) (e:l[m]?=aa x)
 (eix:Ev H (kA A D pa G i j<|aa (ow b x.1)::f::a::zs) ix (.x m)) (F:Ev H (kA A D pa G i j<|aa (ow b x.1)::f::a::zs) S (.x u)) (E:Ev H (kA A D pa G i j<|aa (ow b x.1)::f::a::zs) R (.x w))
 (gb:dA es [(u:Int),(w:Int)]=r.map (rv b)) (ri:∀y,r=aa y->y.1.e b) (hd:∀z,(kA A D pa G i j z)[d]?=aa (aa<|.d dd)) (B:H dd=aa (.a gd<|iy tb)) (hg:gR.contains gd=ai)
 (W:∀s e,bK tb s=aa e->e.2∈pG++ou++pF) (Z:∀e,fh H (.U [.x<|qS e, .x<|qT e]) (.x sd)<|.x<|sdv e)
 (q1:∀s e t q N I,x.1= .u s->bK tb s=aa e->r=aa (t,q)->q<=sdv e->Fr gR H N->cJ N A I->b.I I->(Tm.U s [t]).e I->P.a (rV I<|aa (.U s [t],e.1)) N)
 (O:(∀s e,x.1= .u s->bK tb s=aa e->∀t q,r=aa (t,q)->¬q<=sdv e)->∀f a,aw (CP<|k+2) rest (kA A D pa G i j<|aa (ow b x.1)::f::a::zs) P H):
 aw (CP (k+2)) (.u (.d (.aB (.u (.ah (.U (.ak (.ak (.J 2) ix) (.e (.x 0))) .Eq (.e (.z fS)))) (.u (.ah (.U (.J 9) .In (.J d))) (.u (.ah (.U (.ax (.u S (.u R .I))) .In (.J 3))) .I))))
  (.u (.c (.U [10,11]) (.ak (.J 3) (.ax (.u S (.u R .I))))) (.u (.d (.ah (.U (.J 11) .LtE (.ak (.aN 918 (.u (.ak (.J d) (.J 9)) .I)) (.e (.x sd))))) (.u (Zz d 1 (.u (.J 10) .I)) .I) .I) .I)) .I) rest) (kA A D pa G i j (aa (ow b x.1)::f::a::zs)) P H:=by
 have mx:=wh e;have xi:=Y.4 x mx;have Q:=aP.ah (aP.U (op:= .Eq) (Y.J (i:=2) e hl rfl eix) (.e (v:= .z fS)) cj) .e;obtain⟨it,tx⟩:=x;induction it with
 | J t=>exact cz (.aB<|.dJ (d:=af) Q)<|O (λs e h=>nomatch h) _ _
 | u s=>
  have g:=cg.c<|fY.I<|fH.s (k:=s) B;rw [pH] at g;cases o:bK tb s with
  | none=>replace g:=o▸g;refine cz (.aB<|.cB (d:=af) Q<|.dJ (d:=af)<|.ah (.U (.J rfl) (.J<|hd _) g) .e)<|O (λs' M h C=>?_) _ _;injection h with h;subst h;replace C:=o▸C;exact a9 C
  | some M=>
   replace g:=o▸g;have dt:=fH.t (l:=[.x u, .x w]) (k:=[(u:Int),(w:Int)]) hb<|.u<|.u .I;have U:=cg.c<|fY.I dt;rw [gb] at U dt;induction r with
   | none=>exact cz (.aB<|.cB (d:=af) Q<|.cB (d:=af) (.ah (.U (.J rfl) (.J<|hd _) g) .e)<|.dJ (d:=af)<|.ah (.U (.ax<|.u F<|.u E .I) (.J rfl) U) .e)<|O (λp p p p p p h=>a9 h) _ _
   | some y=>
    obtain⟨t,q⟩:=y;refine cY (.aB<|.cB (d:=af) Q<|.cB (d:=af) (.ah (.U (.J rfl) (.J<|hd _) g) .e)<|.cB (d:=af) (.ah (.U (.ax<|.u F<|.u E .I) (.J rfl) U) .e) .gm)<|x6 (.ak (.J rfl) (.ax<|.u F<|.u E .I)<|.I dt) rfl ?_;have dr:=fH.s (k:=s) B;rw [pH,o] at dr;refine di<|cD<|gf<|aX (v:= .x q) (.J rfl)<|mQ<|bV (vs:=[eV M]) (.u (.ak (.J<|hd _) (.J rfl)<|.I dr) .I)<|Kx L (W s M o)<|aX .e ⟨_,Z M,_, .I,_, .e,λc=>?_,λc=>?_⟩
    ·exact Ky L (n:=1) (ts:=[t]) Y.1 rfl rfl (hd _) B hg o (λH=> .u (.J rfl) .I) ⟨ri _ rfl,trivial⟩ rfl (by decide) xi λN I=>q1 s M t q N I rfl o rfl<|of_decide_eq_true c
    ·refine bj (CP:=CP<|k+2) (bj (CP:=CP<|k+2)<|O (λs' e'' h C t' q' K=>?_) _ _);injection h with h;subst h;replace C:=o▸C;obtain rfl:=bP C;obtain rfl:=(dI<|bP K).1;obtain rfl:=(dI<|bP K).2;exact of_decide_eq_false c
end
theorem ZD(h:a<b):eQ a b= .x a::eQ (a+1) b:=by
 unfold eQ;refine ae (show(b - a).toNat=(b - (a+1)).toNat+1 by exact j4 (bJ (.I (.v 0)<|.a (.v 1)<|.n 1) (.Eq (.c<|.v 0)<|.s (.v 0)<|.v 1) (.J (.c<|.v 1)<|.s (.v 0)<|.a (.v 1)<|.n 1) rfl [_,_] [_,_] (kD<|aD (.Le (.n 0)<|.s (.v 0)<|.v 1) (.U (.v 1)<|.v 0) rfl [_,_] [] h)<|kD<|aD (.Le (.n 0)<|.s (.v 0)<|.a (.v 1)<|.n 1) (.U (.v 1)<|.v 0) rfl [_,_] [] h)<|bJ (.I (.a (.v 0)<|.n 1)<|.v 1) (.Eq (.c<|.v 0)<|.s (.v 0)<|.a (.v 1)<|.n 1) (.J (.c<|.v 1)<|.s (.v 0)<|.v 1) rfl [_,_] [_,_] (kD<|aD (.Le (.n 0)<|.s (.v 0)<|.a (.v 1)<|.n 1) (.U (.v 1)<|.v 0) rfl [_,_] [] h)<|kD<|aD (.Le (.n 0)<|.s (.v 0)<|.v 1) (.U (.v 1)<|.v 0) rfl [_,_] [] h)<|ae LW<|ae gX<|ae rq ?_;congr 1
 ·rw [Int.natCast_zero,uo]
 ·exact pV λn z=>congrArg V.x (by rw [Int.natCast_succ];exact sX (cP (.Le (.a (.v 0)<|.a (.c<|.v 0)<|.n 1)<|.a (.a (.v 0)<|.n 1)<|.c<|.v 0) rfl [_] [_])<|cP (.Le (.a (.a (.v 0)<|.n 1)<|.c<|.v 0)<|.a (.v 0)<|.a (.c<|.v 0)<|.n 1) rfl [_] [_])
theorem Em:eQ (a:Int) (a:Int)=[]:=by skip;exact congrArg _<|congrArg sO<|congrArg LD<|Int.sub_self _
theorem El{a b:Nat}(h:a<b):eQ (a:Int) (b:Int)= .x a::eQ ((a+1:Nat):Int) (b:Int):=ZD<|j3.mpr h
theorem En(h:i+d<=g.length):(fF g i<|i+d).length=d:=(Zy h).trans<|Fm i d
inductive mX(T:bS):Prop
 | mk (w:(bf T).a)
  (p:∀s e,bK T.bp s=aa e->e.2∈pG)
  (i:∀s e,bK T.aZ s=aa e->e.2∈ou)
  (q:∀s e,bK T.bD s=aa e->e.2∈pF)
theorem KG{T:bS}(Y:mX T){s e}(h:bK T.bp s=aa e):(bf T).bp s=aa (e.1,qT e):=
 (congrArg (yL _) h).trans (rF (P:=λy=>aa (e.1,(de e.1 y).2)=aa (e.1,qT (e.1,y))) (Y.2 s e h) rfl rfl)
theorem ZC{T:bS}(Y:mX T){s e}(h:bK T.aZ s=aa e):(bf T).aZ s=aa (e.1,qS e,qT e):=
 (congrArg (yL _) h).trans (sZ (P:=λy=>aa (e.1,de e.1 y)=aa (e.1,qS (e.1,y),qT (e.1,y))) (Y.3 s e h) rfl rfl rfl)
theorem KD{T:bS}(Y:mX T){s e}(h:bK T.bD s=aa e):(bf T).bD s=aa (e.1,qS e):=
 (congrArg (yL _) h).trans (rF (P:=λy=>aa (e.1,(de e.1 y).1)=aa (e.1,qS (e.1,y))) (Y.4 s e h) rfl rfl)
noncomputable def qU(O:cX)(g:List aO)(b:Bk)(a:List (List Int×V))(u w:Nat):Prop:=∃r,dA a [(u:Int),(w:Int)]=r.map (rv b)/\(∀y,r=aa y->y.1.e b)/\g9 O (fF g u w) r
section
variable {A:BA} {D:TA} {T:bS} {b:Bk} {pa:Nat} {l:List (aO×Str)}
include L
theorem ZA(W:mX T){Q i j m c:Nat}{es:List (List Int×V)}{z9 I G o f E C r:Option V}{P:bA}{x:aO×Str}{g:List aO}
 (Y:dW H A D T b pa l) (hb:H Q=aa (.c 44 es)) (hl:l.length<1000) (e:l[m]?=aa x) (eg:g[m]?=aa x.1) (h1:i<m) (h2:m+1<j) (sl:(fF g i m).length=c) (B1:qU (bf T) g b es i m) (B2:qU (bf T) g b es (m+1) j)
 (n1:o9 (bf T) (fF g i j)) (n2:jH (bf T) (fF g i j) c)
 (q1:∀t H' R,g9 (bf T) (fF g i j) (aa t)->Fr gR H H'->cJ H' A R->b.I R->t.1.e R->P.a (rV R<|aa t) H')
 (S:jH (bf T) (fF g i j) (c+1)->∀z9 o f E C r,P.nx (kA A D pa Q i j [z9,I,G,aa<|.x m,o,f,E,C,r]) H):
 aw (CP<|k+2) Di (kA A D pa Q i j [z9,I,G,aa<|.x m,o,f,E,C,r]) P H:=by
 have sp:=AN (jM h1) (Nat.lt_of_succ_lt h2) eg;subst sl;have mx:=wh e;have xi:=Y.4 x mx;refine bR B1 λr1 g1 i1 b1=>bR B2 λr2 g2 i2 b2=>bQ (Y.I (i:=2) e hl rfl<|.J rfl) ?_;have U:=aP.ah (aP.U (op:= .Eq) (Y.J (i:=2) (ρ:=kA A D pa Q i j [aa<|ow b x.1,I,G,aa<|.x m,o,f,E,C,r]) (ix:= .J 12) e hl rfl<|.J rfl) (.e (v:= .z fS)) cj) .e;obtain⟨it,tx⟩:=x;induction it with
 | J t=>exact cz (.aB<|.dJ (d:=af) U)<|bj (CP:=CP<|k+2)<|S (Ei W.1 n2 sp λs w w w h=>nomatch h) _ _ _ _ _ _
 | u s=>
  have Z:=cg.c<|fY.I<|fH.s (k:=s) Y.2.2;rw [pH] at Z;cases O:bK T.aZ s with
  | none=>rw [O] at Z;refine cz (.aB<|.cB (d:=af) U<|.dJ (d:=af)<|.ah (.U (.J rfl) (.J rfl) Z) .e)<|bj (CP:=CP<|k+2)<|S (Ei W.1 n2 sp λs' p a y h M=>?_) _ _ _ _ _ _;injection h with h;subst h;refine au (AD M) λX M w=>?_;rw [O] at M;exact a9 M
  | some X=>
   rw [O] at Z;have sd:=ZC W O;have d1:=fH.t (l:=[.x i, .x m]) (k:=[(i:Int),(m:Int)]) hb<|.u<|.u .I;have d2:=fH.t (l:=[.x<|(m:Int)+1, .x j]) (k:=[((m:Int)+1),(j:Int)]) hb<|.u<|.u .I;have g2:dA es [((m:Int)+1),(j:Int)]=r2.map (rv b):=g2;have c2:=cg.c<|fY.I d1;have c3:=cg.c<|fY.I d2;rw [g1] at c2 d1;rw [g2] at c3 d2;have k1:∀{o f},Ev H (kA A D pa Q i j [aa<|.z s,I,G,aa<|.x m,o,f,E,C,r]) (.ax<|.u (.J 4)<|.u (.J 12) .I) (.U [.x i, .x m]):= .ax<|aC rfl;have k2:∀{o f},Ev H (kA A D pa Q i j [aa<|.z s,I,G,aa<|.x m,o,f,E,C,r]) (.ax<|.u (.aS 0 .Add (.J 12)<|.e<|.x 1)<|.u (.J 5) .I) (.U [.x<|(m:Int)+1, .x j]):= .ax<|aC rfl;have no:((∀t q,r1=aa (t,q)->¬q<=qS X)\/∀t q,r2=aa (t,q)->¬q<=qT X)->jH (bf T) (fF g i j) ((fF g i m).length+1):=λh=>Ei W.1 n2 sp λs' p a y M K=>by injection M with M;subst M;rw [sd] at K;injection K with K;injection K with h3 K;injection K with h4 h5;subst h4 h5;exact h.imp (λz=>(aM r1 b1 z)) λz=>(aM r2 b2 z)
   have N:=aP.ah (aP.U (H:=H) (ρ:=kA A D pa Q i j [aa<|.z s,I,G,aa<|.x m,o,f,E,C,r]) (.J (i:=9) rfl) (.J (i:=7) rfl) Z) .e;induction r1 with
   | none=>exact cz (.aB<|.cB (d:=af) U<|.cB (d:=af) N<|.dJ (d:=af)<|.ah (.U k1 (.J rfl) c2) .e)<|bj (CP:=CP<|k+2)<|S (no<|.inl λw w h=>a9 h) _ _ _ _ _ _
   | some y1=>
    induction r2 with
    | none=>exact cz (.aB<|.cB (d:=af) U<|.cB (d:=af) N<|.cB (d:=af) (.ah (.U k1 (.J rfl) c2) .e)<|.dJ (d:=af)<|.ah (.U k2 (.J rfl) c3) .e)<|bj (CP:=CP<|k+2)<|S (no<|.inr λw w h=>a9 h) _ _ _ _ _ _
    | some y2=>
     obtain⟨t1,p1⟩:=y1;obtain⟨t2,p2⟩:=y2;have dr:=fH.s (k:=s) Y.2.2;rw [pH,O] at dr;refine cY (.aB<|.cB (d:=af) U<|.cB (d:=af) N<|.cB (d:=af) (.ah (.U k1 (.J rfl) c2) .e)<|.cB (d:=af) (.ah (.U k2 (.J rfl) c3) .e) .gm)<|x6 (.ak (.J rfl) k1<|.I d1) rfl<|x6 (.ak (.J rfl) k2<|.I d2) rfl<|bz<|bV (vs:=[eV X]) (.u (.ak (.J rfl) (.J rfl)<|.I dr) .I)<|Kx L (lh _<|ma _<|W.3 s X O)<|gF (.aB<|.lS (.ah (.U (.J rfl) (.ak (.J rfl) .e<|.U rfl rfl) .I) .e)<|.lS (.ah (.U (.J rfl) (.ak (.J rfl) .e<|.U rfl rfl) .I) .e) .gm) (λc=>?_) λc=>?_
     ·rw [pR,eJ] at c;have B:=Zq W.1 n1 n2 sp sd b1 (of_decide_eq_true c.1) b2<|of_decide_eq_true c.2;exact Ky L (n:=2) (ts:=[t1,t2]) Y.1 rfl rfl rfl Y.2.2 rfl O (λH=> .u (.J rfl)<|aC rfl) ⟨i1 _ rfl,i2 _ rfl,trivial⟩ rfl (by decide) xi λH' R F bk le ii=>q1 _ H' R B F bk le ii
     ·rw [pR,Bool.and_eq_false_iff] at c;refine bj (CP:=CP<|k+2)<|bj (CP:=CP<|k+2)<|S (no<|c.imp (λz t q h=>?_) λz t q h=>?_) _ _ _ _ _ _
      ·obtain rfl:=(dI<|bP h).1;obtain rfl:=(dI<|bP h).2;exact of_decide_eq_false z
      ·obtain rfl:=(dI<|bP h).1;obtain rfl:=(dI<|bP h).2;exact of_decide_eq_false z
end
section
variable {A:BA} {D:TA} {T:bS} {b:Bk} {pa:Nat} {l:List (aO×Str)}
omit L in
theorem AO{m:Nat}{x:aO×Str}(e:l[m]?=aa x):(l.map (·.1))[m]?=aa x.1:=by refine ae (jf)<|ae e ?_;rfl
include L
theorem ZE(W:mX T){q p:Option V}{P:bA}(Y:dW H A D T b pa l)(M:H w=aa (.c 44 z))(hl:l.length<100)(hj:i+(n+2)<=l.length)
 (B:∀u d,u+(d+1)<=i+(n+2)->d<n+1->qU (bf T) (l.map (·.1)) b z u (u+(d+1))) (K:o9 (bf T) (fF (l.map (·.1)) i<|i+(n+2)))
 (I:∀t x s,g9 (bf T) (fF (l.map (·.1)) i<|i+(n+2)) (aa t)->Fr gR H x->cJ x A s->b.I s->t.1.e s->P.a (rV s<|aa t) x)
 (G:jH (bf T) (fF (l.map (·.1)) i<|i+(n+2)) (n+1)->∀o m j h g f a,P.nx (kA A D pa w i ((i+(n+2):Nat):Int) [o,q,p,m,j,h,g,f,a]) H):
 ∀{c d:Nat} {o m j h g f a:Option V},d+c=n->jH (bf T) (fF (l.map (·.1)) i<|i+(n+2)) (d+1)->dF (CP<|k+2) (.J 12) Di P .b (eQ ((i+(d+1):Nat):Int) ((i+(n+1):Nat):Int)) (kA A D pa w i ((i+(n+2):Nat):Int) [o,q,p,m,j,h,g,f,a]) H:=by
 intro c;induction c with
 | zero=>intro d o m j h g f a e v;obtain rfl:d=n:=e;exact ae Em<|ik trivial<|G v _ _ _ _ _ _ _
 | succ c ih=>
  intro d o m j h g f a e v;have F:d<n:=iO (wz<|oA c)<|eW e;have r:i+(d+1)<i+(n+1):=adk (MT F) i;have y:i+(d+1)<l.length:=iO (yY r) hj;have E:i+(d+2)+(c+1)=i+(n+2):=(ng i (d+2)<|c+1).trans<|congrArg (i+·)<|(sU d 2<|c+1).trans<|congrArg (·+2) e;have C:=iB y
  exact ae (El r) (i7 trivial (ZA L W Y M (jg hl (by decide)) C (AO C) (wz (oA d)) (MT r) (En (aH (jM y) (eW (bB _).symm))) (B i d (jM (yY r)) (yY F))
   (E▸B (i+(d+2)) c (eW E) (yY (iO (mf c) (aH (qY (c+1) d) (eW e))))) K v I λJ o j h g f a=>ih ((Fp d c).trans e) J))
theorem ZF(W:mX T){Z i j n:Nat}(hn:j=i+(n+2)){es:List (List Int×V)}(Y:dW H A D T b pa l)(S:H Z=aa (.c 44 es))(hl:l.length<100)(hj:j<=l.length)
 (B:∀u d,u+(d+1)<=j->d<n+1->qU (bf T) (l.map (·.1)) b es u (u+(d+1)))
 (q:∀r C f,g9 (bf T) (fF (l.map (·.1)) i j) r->Fr gR H C->cJ C A f->b.I f->rI f r->Q (rV f r) C):CP (k+3) 925 [.d A.b, .U [.d D.p, .d D.i, .d D.q], .d pa, .d Z, .x i, .x j] E Q H:=by
 subst hn;have X:=iB (show i<l.length from iO (wz<|oA _) hj);have U:=iB (show i+(n+1)<l.length from hj);have gl:i+(n+2)<=(l.map (·.1)).length:=aH hj<|eW (bB _).symm;have s1:=(AN (dC i) (wz<|oA<|n+1)<|AO X).trans<|congrArg (·++_)<|AM _ i;have s2:=(AN (fz i<|n+1) (mf<|i+(n+1))<|AO U).trans<|congrArg (λz=>_++_::z)<|AM _<|i+(n+2);have e1:i+1+(n+1)=i+(n+2):=Fp i<|n+1;refine bR (e1▸B (i+1) n (eW e1) (mf n)) λr1 g1 i1 b1=>bR (B i n (MC _)<|mf n) λr2 g2 i2 b2=>?_;have g:l.length<1000:=jg hl (by decide);refine L.1 (n:=9256) rfl rfl<|x6 (.J rfl) rfl<|bQ (Y.I (i:=2) X g rfl<|.J rfl) ?_
 refine KC L (d:=6) (gd:=33) (tb:=T.bp) (m:=i) (u:=i+1) (w:=i+(n+2)) (x:=l[i]) (sd:=1) (sdv:=qT) (r:=r1) Y S g X (.J rfl) (bH rfl) (.J rfl) g1 i1 (λv=>rfl) Y.2.1 rfl (λs e h=>lh _<|lh _<|W.2 s e h) (λe=> .U rfl rfl)
  (λs e t p C f h o R hp F bk I J=>q _ C f (Zt (h▸s1) (KG W o) (R▸b1) hp) F bk I J) λnp O N=>?_
 have P:o9 (bf T) (fF (l.map (·.1)) i<|i+(n+2)):=Zw W.1 s1 λs p y h K=>bR (D6 K) λe o hp hy=>ae (dI<|bP<|K.symm.trans<|KG W o).2<|aM r1 b1<|np s e h o;have M:∀{z:List (Option V)},Ev H (kA A D pa Z i ((i+(n+2):Nat):Int) z) (.aS 0 .Sub (.J 5)<|.e<|.x 1) (.x ((i+(n+1):Nat):Int)):=λ{z}=>ae (Mm ((i+(n+1):Nat):Int) 1).symm<|bH rfl;refine Jy (m:=((i+1:Nat):Int)) (n:=((i+(n+1):Nat):Int)) (bH rfl) M (by skip;exact⟨cP (.U (.g<|.n 1000000)<|.c<|.a (.v 0)<|.n 1) rfl [_] [],bJ (.U (.c<|.a (.v 0)<|.n 1)<|.n 1000000) (.I (.a (.v 0)<|.a (.v 1)<|.n 2)<|.v 2) (.e (.v 2)<|.n 100) rfl [] [_,_,_] hj hl⟩) (by skip;exact⟨cP (.U (.g<|.n 1000000)<|.c<|.a (.v 0)<|.a (.v 1)<|.n 1) rfl [_,_] [],bJ (.U (.c<|.a (.v 0)<|.a (.v 1)<|.n 1)<|.n 1000000) (.I (.a (.v 0)<|.a (.v 1)<|.n 2)<|.v 2) (.e (.v 2)<|.n 100) rfl [] [_,_,_] hj hl⟩)<|ZE L W Y S hl hj B P (λt C f b F bk I J=>q _ C f b F bk I J) (λn2 z9 z12 z13 z14 z15 z16 z17=>?_) (c:=n) (d:=0) (jd n)<|Zu W.1;have G:jH (bf T) (fF (l.map (·.1)) i<|i+(n+2)) (fF (l.map (·.1)) i<|i+(n+1)).length:=ae (En<|mh gl) n2;refine bQ (Y.I (i:=2) U g rfl M) ?_
 refine KC L (d:=8) (gd:=35) (tb:=T.bD) (m:=i+(n+1)) (u:=i) (w:=i+(n+1)) (x:=l[i+(n+1)]) (sd:=0) (sdv:=qS) (r:=r2) Y S g U M (.J rfl) M g2 i2 (λv=>rfl) Y.2.3 rfl (λs e h=>ma _<|W.4 s e h) (λe=> .U rfl rfl)
  (λs e t p C f h o R hp F bk I J=>q _ C f (Zs W.1 P G (h▸s2) (KD W o) (R▸b2) hp) F bk I J) λnq O N=>?_
 exact aY .e<|q ag H b (Zr W.1 (ae (En gl)<|qY 2 n) P G s2 λs p a h K=>bR (D4 K) λe o hp hy=>ae (dI<|bP<|K.symm.trans<|KD W o).2<|aM r2 b2<|nq s e h o) .I Y.1 (.I _) trivial
end
noncomputable def qV:List Nat:=[1,2,3,4,44]
theorem qU.I{O:cX}{g:List aO}{b a:Bk}{es u v}(h:qU O g b es u v)(l:b.I a):qU O g a es u v:=by
 refine bR h λr e i B=>(bT r ?_ (λy c=>(kW l _<|i y c).1) B);induction r with
 | none=>exact e| some y=>refine ae e (?_:aa (rv b y)=aa (rv a y));delta rv;exact ae ((kW l _<|i y rfl).2) rfl
noncomputable def Dn(w f u v:Nat):Prop:=v<u+w\/v=u+w/\u<f
theorem Ep(e:u=f)(a:v=u+w):¬Dn w f u v:=λh=>h.elim (λh=>sW h a) λh=>sW h.2 e
theorem ZI(h:Dn w f u v):Dn w (f+1) u v:=h.imp_right λh=>⟨h.1,yY h.2⟩
theorem ZH:Dn w (f+1) f (f+w):= .inr ⟨rfl,mf f⟩
theorem ZG(h:Dn w (f+1) u v):Dn w f u v\/(u=f/\v=f+w):=h.elim (λh=> .inl<|.inl h) λh=>(adl.mp h.2).imp (λk=> .inr ⟨h.1,k⟩) λk=>⟨k,k▸h.1⟩
inductive DP(O:cX)(g:List aO)(b:Bk)(es:List (List Int×V))(w f:Nat):Prop
 | mk (done:∀u v,u<v->v<=g.length->Dn w f u v->qU O g b es u v)
  (new:∀u v:Nat,¬Dn w f u v->dA es [(u:Int),(v:Int)]=ag)
  (len:es.length<=w*100+f)
theorem DP.I{O:cX}{g:List aO}{b e:Bk}{es w f}(h:DP O g b es w f)(l:b.I e):DP O g e es w f:=⟨λu v a c d=>(h.1 u v a c d).I l,h.2,h.3⟩
theorem ZJ [DecidableEq K]{k:K}{v:V}(h:dA a k=ag):dA (a++[(k,v)]) k=aa v:=wu.trans<|ae (show wt k a=ag from h)<|ae gV<|ae (beq_self_eq_true k) rfl
theorem ZK [DecidableEq K]{k a:K}{v:V}(h:a≠k):dA (b++[(k,v)]) a=dA b a:=wu.trans<|ae gV<|ae (beq_false_of_ne h) Option.or_none
noncomputable def AP(b:Bk)(a:List (List Int×V))(u v:Nat)(r:Option (Tm×Int)):List (List Int×V):=@ac6 _ (λz=>List<|List Int×V) a (λx=>a++[([(u:Int),(v:Int)],rv b x)]) r
theorem DP.l5{k w f}{r:Option (Tm×Int)}(h:DP O g b k w f)(B:g9 O (fF g f<|f+w) r)(i:rI b r):DP O g b (AP b k f (f+w) r) w (f+1):=by
 have at_:qU O g b (AP b k f (f+w) r) f (f+w):=by
  have o:=h.2 f (f+w)<|Ep rfl rfl;refine bT r ?_ (λy q=>(q▸i:rI b (aa y))) B;induction r with
  | none=>exact o| some x=>exact ZJ o
 have j:∀{u v:Nat},¬(u=f/\v=f+w)->dA (AP b k f (f+w) r) [(u:Int),(v:Int)]=dA k [(u:Int),(v:Int)]:=λ{u v} n=>by induction r with| none=>rfl| some x=>exact ZK λe=>n<|ay (jA e) λm l=>⟨wy m,wy (jA l).1⟩
 refine⟨λu v a c d=>(ZG d).elim (λd=>?_) λe=>ae e.1<|ae e.2 at_,λu v d=>(j (u:=u) (v:=v) λe=>d<|ae e.1<|ae e.2 ZH).trans<|h.2 u v λz=>d<|ZI z,?_⟩
 ·exact bR (h.1 u v a c d) λp m l s=>bT p ((j (u:=u) (v:=v) λe=>Ep e.1 (e.2.trans<|congrArg (·+w) e.1.symm) d).trans m) l s
 ·induction r with| none=>exact dM h.3| some x=>exact aH (eW bI)<|jP h.3
theorem Eo(W:O.a)(h:O.e s=af\/b9 s=af):g9 O [.u s] none:=λt q d=>by
 generalize e:[aO.u s]=g at d;induction d with
 | J=>cases e
 | j b a=>
  injection e with e _;injection e with e;subst e;refine cO h (λh=>?_) λh=>?_
  ·replace h:=b▸h;exact bw h
  ·replace h:=a▸h;exact bw h
 | bp _ d=>injection e with _ e;subst e;exact D.ne W d
 | @aZ _ _ _ _ l _ _ m _ _ d _ _ c=>
  induction l with
  | nil=>exact D.ne W d
  | cons x l=>injection e with _ e;induction l<;>exact gw e
 | @bD _ _ _ l _ _ d=>
  induction l with
  | nil=>exact D.ne W d
  | cons x l=>injection e with _ e;induction l<;>exact gw e
noncomputable def pI(A:BA)(D:TA)(pa g:Nat)(M:Int)(n:Nat)(f e d c b a:Option V):aA:=[aa<|.d A.b,aa<|.U [.d D.p, .d D.i, .d D.q],aa<|.d pa,aa<|.x M,f,aa<|.x n,aa<|.d g,e,d,c,b,a]
section
variable {A:BA} {D:TA} {T:bS} {b:Bk} {pa:Nat} {l:List (aO×Str)}
theorem dW.l5(Y:dW H A D T b pa l)(d:H c=aa (.c 44 e)):dW (H.J c<|.c 44 a) A D T b pa l:=by have F:Fr [44] H (H.J c<|.c 44 a):= .J d rfl;exact⟨Y.1.J F rfl,Y.2.J F rfl,F _ _ Y.3 rfl,Y.4⟩
theorem ZL(Y:dW H A D T b pa l)(h:H j=aa (.c 44 a))(p:DP O (l.map (·.1)) b a w f)(hl:w<=1000/\f<=1000)
 (B:g9 O (fF (l.map (·.1)) f<|f+w) r) (i:rI b r) (q:∀m e,Fr qV H m->dW m A D T b pa l->m j=aa (.c 44 e)->DP O (l.map (·.1)) b e w (f+1)->∀t,P.nx (pI A D pa j M n s (aa<|.x w) (aa<|.x f) t d c) m):
 aw (CP k) (ck 3 xN) (pI A D pa j M n s (aa<|.x w) (aa<|.x f) (aa<|rV b r) d c) P H:=by
 have g:=p.l5 B i;induction r with
 | none=>exact cz (.ah (.U (.J rfl) .e .f) .e)<|bj (CP:=CP k)<|q H a .I Y h g _
 | some x=>
  have o:=p.2 f (f+w)<|Ep rfl rfl;have st:=j9.t (l:=[.x f, .x<|(f:Int)+w]) (k:=[(f:Int),(f:Int)+w]) (v:=rv b x) h (eX p.3<|eX (show w*100+f<=1000000 by exact bJ (.I (.a (.u (.v 0) 100)<|.v 1)<|.n 1000000) ⟨100,ai, .I (.v 0)<|.n 1000⟩ (.I (.v 1)<|.n 1000) rfl [] [_,_] hl.1 hl.2)<|by decide)<|.u<|.u .I;have u:gJ a [(f:Int),(f:Int)+w] (rv b x)=AP b a f (f+w) (aa x):=by unfold gJ;have o:dA a [(f:Int),(f:Int)+w]=none:=o;exact ae o<|ae (if_neg<|gp) rfl
  replace st:=u▸st;exact cY (.ah (.U (.J rfl) .e .f) .e)<|jT (.J rfl)<|mP (.J rfl) (bH rfl) st<|bj (CP:=CP k)<|bj (CP:=CP k)<|q _ _ (Fr.J h rfl) (Y.l5 h) aQ g _
end
noncomputable def KH(s:Str)(c:Option cb):Bool:=@sN cb (λz=>Bool) c ai λc=>@cb.casesOn (λz=>Bool) c (λz z=>ai) (λz a=>(dA a s).isSome) (λz z=>ai) (λz z=>ai) (λz z=>ai) (λz z z=>ai) λz=>ai
noncomputable def kY(H:HP)(s:Str)(v:V):Bool:=@V.casesOn (λz=>Bool) v ai (λz=>ai) (λz=>ai) (λz=>ai) (λz=>ai) λa=>KH s<|H a
theorem yr(h:H a=aa (.a g<|iy l)):kY H s (.d a)=(bK l s).isSome:=by refine((ae h (?_:(dA (iy l) s).isSome=_)):KH s (H a)=_);rw [pH];cases bK l s<;>rfl
section
variable {A:BA} {D:TA} {T:bS} {b:Bk} {pa:Nat} {l:List (aO×Str)}
theorem dW.u{c:HP}{a:Bk}{S:List Nat}(Y:dW H A D T b pa l)(F:Fr S H c)(bk:cJ c A a)(e:b.I a)(s:[33,34,35,64].all (λn=>!S.contains n)=af):dW c A D T a pa l:=by have d:∀n∈[33,34,35,64],S.contains n=false:=λn f=>gE<|dT.mp s n f;exact⟨bk,Y.2.J F<|dT.mpr λn f=>by refine ae (d n<|by revert n;decide) ?_;rfl,by refine ae (KA e Y.4) ?_;exact F _ _ Y.3<|d 64 (by decide),λx g=>(Ek e<|Y.4 x g).2⟩
theorem ZM(Y:dW H A D T b pa l)(w:ρ[1]?=aa (aa<|.U [.d D.p, .d D.i, .d D.q]))(y:∀d v,Fr [] H d->Ev d (ρ.set 11<|aa v) x (.z s))(n:11<ρ.length)
 (q:∀d,Fr [] H d->K (!(bf T).e s) d):gz (CP k) (.j<|.ah<|.c 45 (.e<|.x 1) 11 (.J 1)<|.u (.ah<|.U x .In<|.J 11) .I) ρ e K H:=by
 have t:=yr (s:=s) Y.2.1;have u:=yr (s:=s) Y.2.2;have r:=yr (s:=s) Y.2.3
 have m:∀v∈[V.d D.p,V.d D.i,V.d D.q],∀d,Fr [] H d->fY d (.z s) v (kY H s v):=λv j d F=>by
  have i:∀{a g:Nat} {l:List (Str×ct)},H a=aa (.a g<|iy l)->fY d (.z s) (.d a) (kY H s<|.d a):=λ{a g l} h=>by have:=fY.I<|fH.s (k:=s)<|F _ _ h rfl;rw [pH] at this;refine ae (yr h) ?_;revert this;cases bK l s<;>exact id
  exact sZ j (i Y.2.1) (i Y.2.2)<|i Y.2.3
 refine tZ<|cD<|xX (p:=kY H s) (f:=λ_=> .x 1) (.J w) .U trivial (show 3<=cE by decide) (λv j d F K q=>fc<|wb (.ah (.U (y d v F) (.J<|by rw [pT n])<|.c<|m v j d F) .e) ⟨λ_=>?_,λ_=>?_⟩) (λv j _ d F K q=>aX .e<|q d .I) λd c F o=>(aM _ (.u aQ) ?_)
 ·rename_i c;exact kU<|c▸q d .I
 ·exact q d .I
 ·have z:=q _ (F.u<|.aT (c:= .u 45<|([V.d D.p,V.d D.i,V.d D.q].filter<|kY H s).map λ_=>V.x 1) o);have e:(!(!((([V.d D.p,V.d D.i,V.d D.q].filter<|kY H s).map λ_=>V.x 1).isEmpty)))=!(bf T).e s:=by rw [AF,<-t,<-u,<-r,uC,uC,uC,ac8];cases kY H s (.d D.p)<;>cases kY H s (.d D.i)<;>cases kY H s (.d D.q)<;>rfl
  replace z:=e.symm▸z;exact z
end
theorem ZO(e:g[f]?=aa x):fF g f (f+1)=[x]:=by rw [AN (dC f) (mf f) e,AM,AM];rfl
section
variable {A:BA} {D:TA} {T:bS} {b:Bk} {pa:Nat} {l:List (aO×Str)}
include L
theorem ZN(W:mX T){Q R N K:Option V}{P:bA}(Y:dW H A D T b pa l)(X:H O=aa (.c 44 es))(dp:DP (bf T) (l.map (·.1)) b es w f)(hl:l.length<100)(hw:1<=w)(hf:f+w<=l.length)(no:aO.J ag∉l.map (·.1))
 (q:∀H' b' Z Q R,Fr qV H H'->dW H' A D T b' pa l->b.I b'->H' O=aa (.c 44 Z)->DP (bf T) (l.map (·.1)) b' Z w (f+1)->P.nx (pI A D pa O M n Q (aa<|.x w) (aa<|.x f) R N K) H'):
 aw (CP<|k+3) xN (pI A D pa O M n Q (aa<|.x w) (aa<|.x f) R N K) P H:=by
 have lt:f<l.length:=by exact bJ (.e (.v 0)<|.v 1) (.I (.a (.v 0)<|.v 2)<|.v 1) (.I (.n 1)<|.v 2) rfl [] [_,_,_] hf hw
 have e:l[f]?=aa l[f]:=iB lt;generalize l[f]=x at e;have eg:=AO e
 have j:∀{G:HP} {C:Bk} {S:List Nat} {r:Option (Tm×Int)} {Q:Option V},Fr qV H G->cJ G A C->b.I C->g9 (bf T) (fF (l.map (·.1)) f<|f+w) r->rI C r->dW G A D T C pa l->G O=aa (.c 44 es)->
  aw (CP<|k+3) (ck 3 xN) (pI A D pa O M n Q (aa<|.x w) (aa<|.x f) (aa<|rV C r) N K) P G:=λ{G C S r Q} F bk U B i a p=>
  ZL a p (dp.I U) (⟨bJ (.I (.v 0)<|.n 1000) (.I (.a (.v 1)<|.v 0)<|.v 2) (.e (.v 2)<|.n 100) rfl [] [_,_,_] hf hl,bJ (.I (.v 0)<|.n 1000) (.I (.a (.v 0)<|.v 1)<|.v 2) (.e (.v 2)<|.n 100) rfl [] [_,_,_] hf hl⟩) B i λH2 es2 m E h2 d2 R=>q H2 C es2 _ R (F.u m) E U h2 d2
 refine bQ .e<|bQ (.ak (.J rfl) (.J rfl)<|Y.ak e<|aD (.e (.v 0)<|.n 1000) (.e (.v 0)<|.n 100) rfl [] [_] hl) ?_;by_cases w1:w=1
 ·subst w1;have s1:=ZO eg;have xi:=Y.4 x<|wh e;refine kj (.ah (.U (.J rfl) .e .j) .e) ?_;obtain⟨it,tx⟩:=x;induction it with
  | J t=>induction t with| none=>exact absurd (wh eg) no| some t=>exact cY (.ah (.U (.ak (.J rfl) .e<|.U rfl rfl) .e cj) .e)<|bQ (v:=rv b (t,0)) (.ax<|.u (.ak (.J rfl) .e<|.U rfl rfl)<|aC rfl)<|bj (CP:=CP<|k+3)<|bj (CP:=CP<|k+3)<|j (S:=[]) (r:=aa (t,0)) .I Y.1 (.I _) (by rw [s1];exact⟨-1, .J⟩) xi Y X
  | u s=>
   refine kj (.ah (.U (.ak (.J rfl) .e<|.U rfl rfl) .e cj) .e)<|di<|pk<|fc<|cD<|gf<|aX (v:= .z s) (.ak (.J rfl) .e<|.U rfl rfl)<|fv (vs:=[.z bZ, .z cG]) ((aC rfl)) λc nc=>(lj _ (.g<|.u aQ<|.z<|.u<|.u .I) _ .e (λc1=>?_) λc1=>⟨λo=>?_,λy=>?_⟩)
   ·have g:Fr [] H (H.J c<|.u 46 [.z bZ, .z cG]):= .aT nc;have a:=Y.u g (Y.1.J g rfl) (.I _) rfl;have p:=g _ _ X rfl;revert g a p;generalize H.J c (.u 46 [.z bZ, .z cG])=G;intro g a p;have hs:b9 s=false:=by have:(![bZ,cG].contains s)=true:=c1;rw [MU,j5,j5,Fq,sY] at this;exact this
    refine fc<|ZM (x:= .ak (.J 4)<|.e<|.x 1) a rfl (λH' v F=> .ak (.J rfl) .e<|.U rfl rfl) (show 11<12 by decide) λH2 m=>⟨λo=>kU ⟨λy=>?_,λz=>bC z⟩,λo=>⟨λc3=>?_,λy=>?_⟩⟩
    ·have E:=a.u m (a.1.J m rfl) (.I _) rfl;have ho:(bf T).e s=false:=by rw [MU] at o;exact o
     refine qz<|jU<|bx<|jU<|bx<|aX .e<|bx<|a7 (.J rfl) E.1.1 (vs:=[.z s]) (.u (.ak (.J rfl) .e<|.U rfl rfl) .I)<|qC L E.1 xi λH3 F3 k3=>cF (vs:=[]) .I<|cF (vs:=[.x 0]) (by exact(aC rfl)) ?_;have F:Fr qV H H3:=(g.U rfl).u<|(m.U rfl).u<|F3.U rfl;exact bj (CP:=CP<|k+3)<|bj (CP:=CP<|k+3)<|bj (CP:=CP<|k+3)<|j (S:=[]) (r:=aa (.j s,0)) F k3 (b.lV s) (by rw [s1];exact⟨-1, .j ho hs⟩) (b.pn s) (E.u F3 k3 (b.lV s) rfl)<|F3 _ _ (m _ _ p rfl) rfl
    ·rw [c3] at o;exact bC o
    ·have E:=a.u m (a.1.J m rfl) (.I _) rfl;have ho:(bf T).e s=true:=by cases h:(bf T).e s with| true=>rfl| false=>rw [h] at o;exact bC o
     exact bj (CP:=CP<|k+3)<|bj (CP:=CP<|k+3)<|bj (CP:=CP<|k+3)<|j (S:=[]) (r:=ag) ((g.U rfl).u<|m.U rfl) E.1 (.I _) (by rw [s1];exact Eo W.1<|.inl ho) trivial E<|m _ _ p rfl
   ·rw [o] at c1;exact bC c1
   ·have g:Fr [] H (H.J c<|.u 46 [.z bZ, .z cG]):= .aT nc;have a:=Y.u g (Y.1.J g rfl) (.I _) rfl;have hs:b9 s=true:=by have:(![bZ,cG].contains s)=!true:=c1;rw [j5,j5,Fq,sY] at this;exact Bool.not_inj this
    exact bj (CP:=CP<|k+3)<|bj (CP:=CP<|k+3)<|bj (CP:=CP<|k+3)<|j (S:=[]) (r:=ag) (g.U rfl) a.1 (.I _) (by rw [s1];exact Eo W.1<|.inr hs) trivial a<|g _ _ X rfl
 ·exact cY (.ah (.U (.J rfl) .e<|decide_eq_true (show(w:Int)>1 by exact(iP w1).elim (λI=>bJ (.U (.n 1)<|.c<|.v 0) ⟨2,ai, .I (.n 1)<|.v 0⟩ (.e (.v 0)<|.n 1) rfl [] [_] hw I) λI=>aD (.U (.n 1)<|.c<|.v 0) (.e (.n 1)<|.v 0) rfl [] [_] I)▸cg.j) .e)<|bz<|bV (vs:=[.d A.b, .U [.d D.p, .d D.i, .d D.q], .d pa, .d O, .x f, .x ((f+w:Nat):Int)]) (aC rfl)<|o1 (Nat.exists_eq_add_of_le'<|Nat.lt_of_le_of_ne hw<|q8 w1) λu eu=>ZF L W (congrArg (f+·) eu) Y X hl hf (λx d p h2=>dp.1 x (x+(d+1)) (wz<|oA d) (aH p<|aH hf<|eW (bB _).symm)<|.inl<|adk (iO (MT h2)<|eW eu.symm) x) λr G C B F bk U ri=>bj (CP:=CP<|k+3)<|j (S:=[]) (F.U rfl) bk U B ri (Y.u F bk U rfl)<|F _ _ X rfl
end
theorem DP.jE(h:DP O g b es w f)(e:f+w=g.length+1)(i:g.length<100):DP O g b es (w+1) 0:=
 ⟨λu v a c d=>h.1 u v a c (d.elim (λd=>(adl.mp d).imp_right λz=>⟨z,Nat.lt_of_add_lt_add_right (iO (BC (aH (eW z.symm) c)) (eW e.symm))⟩) λd=>absurd d.2 (MS u)),
  λu v d=>h.2 u v λz=>d<|.inl<|z.elim yY λz=>BC<|eW z.1,
  aH h.3 (aH (hS (aH (fz f w) (aH (eW e) i)) _) (eW (Fs w 100).symm))⟩
theorem AQ{CP:Nat->List V->EP->QV->HP->Prop}{ρ:aA}{E:EP}{Q:QV}{H:HP}{t:B}{a b:X}(q:gz CP t ρ E (λc H=>(c=af->aK CP a ρ E Q H)/\(c=ai->aK CP b ρ E Q H)) H):aK CP (.d t a b) ρ E Q H:=q
section
variable {A:BA} {D:TA} {T:bS} {b:Bk} {pa:Nat} {l:List (aO×Str)}
theorem ZR(Y:dW H A D T b pa l)(p:aO.J ag∈l.map (·.1)->P.a .f H)
 (o:aO.J ag∉l.map (·.1)->∀a,P.nx ([aa<|.d A.b,aa<|.U [.d D.p, .d D.i, .d D.q],aa<|.d pa,aa<|.x M,a]++zs) H):
 ∀{m d:List (aO×Str)} {a:Option V},d++m=l->(aO.J ag∉d.map (·.1))->dF (CP k) (.J 4) Dl P (.u pa<|.u 64<|l.map<|fy b) (m.map<|fy b) ([aa<|.d A.b,aa<|.U [.d D.p, .d D.i, .d D.q],aa<|.d pa,aa<|.x M,a]++zs) H:=by
 intro j;induction j with
 | nil=>intro d a e n;exact ik Y.3<|o (by rw [jh] at e;rw [<-e];exact n) a
 | cons q m ih=>
  obtain⟨f,g⟩:=q;intro d a e n
  have i:f≠ .J ag->dF (CP k) (.J 4) Dl P (.u pa<|.u 64<|l.map<|fy b) (m.map<|fy b) ([aa<|.d A.b,aa<|.U [.d D.p, .d D.i, .d D.q],aa<|.d pa,aa<|.x M,aa<|fy b (f,g)]++zs) H:=λr=>
   ih (d:=d++[(f,g)]) (by rw [cv];exact e) λh=>by rw [ed,fG] at h;exact h.elim n λh=>r (d5.mp h).symm
  refine i7 Y.3 ?_;induction f with
  | u s=>exact cz (.aB<|.dJ (d:=af)<|.ah (.U (.ak (.J rfl) .e<|.U rfl rfl) .e cj) .e)<|bj (CP:=CP k)<|i λh=>nomatch h
  | J t=>induction t with| none=>exact cY (.aB<|.cB (d:=af) (.ah (.U (.ak (.J rfl) .e<|.U rfl rfl) .e cj) .e)<|.cB (d:=af) (.ah (.U (.ak (.J rfl) .e<|.U rfl rfl) .e .d) .e) .gm)<|aY .e<|p<|ae e.symm<|ae ed<|ma _ cu| some t=>have c:=cg.d (H:=H) (v:=tv b t);replace c:=(show(tv b t).u=ai by cases t<;>rfl)▸c;exact cz (.aB<|.cB (d:=af) (.ah (.U (.ak (.J rfl) .e<|.U rfl rfl) .e cj) .e)<|.dJ (d:=af)<|.ah (.U (.ak (.J rfl) .e<|.U rfl rfl) .e c) .e)<|bj (CP:=CP k)<|i λh=>hU<|Mine.Internal.aO.J.inj h
include L
theorem ZP(W:mX T)(hl:l.length<100)(C:1<=w)(z:m+w=l.length+1)(B:aO.J ag∉l.map (·.1)):
 ∀{n f:Nat} {b:Bk} {j:List (List Int×V)} {c d a:Option V} {H:HP},f+n=m->dW H A D T b pa l->H o=aa (.c 44 j)->DP (bf T) (l.map (·.1)) b j w f->
  (∀p x i c d a,Fr qV H p->dW p A D T x pa l->b.I x->p o=aa (.c 44 i)->DP (bf T) (l.map (·.1)) x i (w+1) 0->P.nx (pI A D pa o M l.length c (aa<|.x w) d a h g) p)->
  dF (CP<|k+3) (.J 8) xN P .b (eQ f m) (pI A D pa o M l.length c (aa<|.x w) d a h g) H:=by
 intro n;induction n with
 | zero=>intro f b j c d a H e Y t v q;exact ae e.symm<|ae Em<|ik trivial<|q H b j _ _ _ .I Y (.I _) t<|v.jE ((congrArg (·+w) e).trans<|z.trans<|congrArg (·+1) (bB _).symm)<|eX (eW<|bB _) hl
 | succ n ih=>
  intro f b j c d a H e Y t v q;have y:f<m:=iO (wz<|oA n)<|eW e
  exact ae (El y) (i7 trivial (ZN L W Y t v hl C (MN (iO (Nat.add_lt_add_right y w) (eW z))) B λS R F c a Q K s E G=>
   ih ((Fp f n).trans e) K E G λN I u c d a O J r=>q N I u c d a (Q.u O) J (s.u r)))
theorem ZQ(W:mX T)(hl:l.length<100)(x:aO.J ag∉l.map (·.1)):
 ∀{n w:Nat} {b:Bk} {es:List (List Int×V)} {d f c a:Option V} {H:HP},w+n=l.length+1->1<=w->dW H A D T b pa l->H be=aa (.c 44 es)->DP (bf T) (l.map (·.1)) b es w 0->
  (∀j u i d f c a,Fr qV H j->dW j A D T u pa l->b.I u->j be=aa (.c 44 i)->DP (bf T) (l.map (·.1)) u i (l.length+1) 0->P.nx (pI A D pa be M l.length d f c a h g) j)->
  dF (CP<|k+3) (.J 7) IX P .b (eQ w ((l.length+1:Nat):Int)) (pI A D pa be M l.length d f c a h g) H:=by
 intro n;induction n with
 | zero=>intro w b es d f c a H e p Y r t q;have e:w=l.length+1:=e;exact ae e.symm<|ae Em<|ik trivial<|q H b es _ _ _ _ .I Y (.I _) r<|e▸t
 | succ n ih=>
  intro w b es d f c a H e p Y r t q;have B:(l.length:Int) - w+1=((n+1:Nat):Int):=by exact sX (aD (.Le (.a (.s (.c<|.v 0)<|.c<|.v 1)<|.n 1)<|.c<|.a (.v 2)<|.n 1) (.qe (.a (.v 1)<|.a (.v 2)<|.n 1)<|.a (.v 0)<|.n 1) rfl [] [_,_,_] e)<|aD (.Le (.c<|.a (.v 0)<|.n 1)<|.a (.s (.c<|.v 1)<|.c<|.v 2)<|.n 1) (.u (.a (.v 2)<|.a (.v 0)<|.n 1)<|.a (.v 1)<|.n 1) rfl [] [_,_,_] e
  have v:gK ((n+1:Nat):Int):=by skip;exact⟨cP (.U (.g<|.n 1000000)<|.c<|.a (.v 0)<|.n 1) rfl [_] [],bJ (.U (.c<|.a (.v 0)<|.n 1)<|.n 1000000) (.u (.a (.v 1)<|.a (.v 0)<|.n 1)<|.a (.v 2)<|.n 1) (.e (.v 2)<|.n 100) rfl [] [_,_,_] e hl⟩
  exact ae (El<|iO (wz<|oA n)<|eW e)<|i7 trivial<|Jx (n:=((n+1:Nat):Int)) (ae B.symm<|bH rfl) v<|ZP L W hl p ((pN _ _).trans e) x (jd _) Y r t λO N z d c a K G o y C=>bj (CP:=CP<|k+3)<|ih (w:=w+1) ((Fp w n).trans e) (dM p) G y C λI E s d f c a J F m=>q I E s d f c a (K.u J) F<|o.u m
end
section
variable {A:BA} {D:TA} {T:bS} {b:Bk} {pa:Nat} {l:List (aO×Str)}
include L
theorem ZS(W:mX T)(Y:dW H A D T b pa [(.u s,f)])
 (q:∀r n j,Rd (bf T) M [.u s] r->Fr qV H n->dW n A D T j pa [(.u s,f)]->b.I j->iu j r->P.a (dG j r) n):
 aw (CP<|k+3) (.u (.e<|.d (.ah<|.U (.ak (.ak (.J 2)<|.e<|.x 0)<|.e<|.x 1) .In<|.u 43<|.u (.e<|.z bZ)<|.u (.e<|.z cG) .I) (.e .f)<|.ax<|.u (.e<|.z mG)<|.u (.I (.J 0) 154 88<|.u (.ak (.ak (.J 2)<|.e<|.x 0)<|.e<|.x 1) .I) .I) r) ([aa<|.d A.b,aa<|.U [.d D.p, .d D.i, .d D.q],aa<|.d pa]++zs) P H:=by
 have e:[((aO.u s,f):aO×Str)][0]?=aa (.u s,f):=rfl;have o:[((aO.u s,f):aO×Str)].length<1000:=(show 1<1000 by decide);refine cC<|AQ<|cD<|gf<|aX (v:= .z s) (Y.I (i:=2) (m:=0) e o rfl .e)<|fv (vs:=[.z bZ, .z cG]) ((aC rfl)) λc w=>(lj _ (.c<|.u aQ<|.z<|.u<|.u .I) _ .e (λa=>?_) λa=>?_)
 all_goals
  have l:Fr [] H (H.J c<|.u 43 [.z bZ, .z cG]):= .aT w;have g:=Y.u l (Y.1.J l rfl) (.I _) rfl;have a:[bZ,cG].contains s=_:=a;rw [j5,j5,Fq,sY] at a
 ·exact aX .e<|q ag _ b (.inr ⟨λt p d=>absurd d<|Eo W.1 (.inr a) t p,λy h=>by injection h with h _;injection h with h;subst h;exact a⟩) (l.U rfl) g (.I _) trivial
 ·exact jU<|bx<|aX .e<|bx<|a7 (.J rfl) g.1.1 (vs:=[.z s]) (.u (g.I (i:=2) (m:=0) e o rfl .e) .I)<|qC L g.1 (Y.4 (.u s,f) cu) λx u k3=>cF (vs:=[]) .I<|q (aa<|.j s) x _ (.inr ⟨s,rfl,a,rfl⟩) ((l.U rfl).u<|u.U rfl) (g.u u k3 (b.lV s) rfl) (b.lV s)<|b.pn s
theorem KI(W:mX T)(Y:dW H A D T b pa l)(hl:l.length<100)(h0:0<l.length)(hM:0<=M)
 (q:∀r H' S,Rd (bf T) M (l.map (·.1)) r->Fr qV H H'->dW H' A D T S pa l->b.I S->iu S r->Q (dG S r) H'):CP (k+4) 930 [.d A.b, .U [.d D.p, .d D.i, .d D.q], .d pa, .x M] E Q H:=by
 have j:=fP.e Y.3;rw [bB] at j;refine L.1 (n:=9304) rfl rfl<|vH (.J rfl) (.u Y.3)<|ZR (zs:=[ag,ag,ag,ag,ag,ag,ag]) Y (λh=>q ag H b (.inl h) .I Y (.I _) trivial) (λno P=>bQ (v:= .x l.length) (.bi (aC rfl) j) ?_) (d:=[]) rfl<|dz
 have e:(∀s,l.map (·.1)≠[.u s])->aw (CP<|k+3) (ck 3 IW) ([aa<|.d A.b,aa<|.U [.d D.p, .d D.i, .d D.q],aa<|.d pa,aa<|.x M,P,aa<|.x l.length,ag,ag,ag,ag,ag,ag]) (.e E Q) H:=λns=>by
  refine bz λbe nb=>?_;have F1:Fr [] H (H.J be<|lu 44 2):= .aT nb;have Y1:=Y.u F1 (Y.1.J F1 rfl) (.I _) rfl;refine Jy (m:=((1:Nat):Int)) (n:=(l.length:Int)+1) .e (bH rfl) (by unfold gK;decide) (by skip;exact⟨cP (.U (.g<|.n 1000000)<|.a (.c<|.v 0)<|.n 1) rfl [_] [],aD (.U (.a (.c<|.v 0)<|.n 1)<|.n 1000000) (.e (.v 0)<|.n 100) rfl [] [_] hl⟩)<|ZQ L W (be:=be) (es:=[]) hl no (n:=l.length) (w:=1) (pN 1 _) (dC _) Y1 aQ ⟨λu v a c d=>d.elim (λd=>absurd (MN d)<|LB a) λd=>absurd d.2<|MS u,λo o o=>rfl,dR _⟩ λK I es2 P z7 z8 z9 F2 Z C h2 d2=>bR (d2.1 0 l.length h0 (by rw [bB];exact dC _)<|.inl<|iO (mf _)<|eW (jd _).symm) λr g i B=>?_;rw [show l.length=(l.map (·.1)).length by rw [bB],Zx] at B;have X:=fH.t (l:=[.x 0, .x l.length]) (k:=[((0:Nat):Int),(l.length:Int)]) h2<|.u<|.u .I;replace X:=g▸X;have F:Fr qV H K:=(F1.U rfl).u F2;have gt:=hX.f (d:= .U [.f, .x 0]) X
  have ev:∀{V U},Ev K (pI A D pa be M l.length P z7 z8 z9 V U) (.bm 3 (.J 6)<|.u (.ax<|.u (.e<|.x 0)<|.u (.J 5) .I)<|.u (.ax<|.u (.e .f)<|.u (.e<|.x 0) .I) .I) ((r.map<|rv I).getD<|.U [.f, .x 0]):=
   .bm (.J rfl) (.eM h2 rfl) (aC rfl) gt
  refine bQ ev ?_;induction r with
  | none=>have c:=cg.I (H:=K) (a:=0) (b:=M);rw [decide_eq_true hM] at c;exact aY (.lT (.ah (.U (.ak (.J rfl) .e<|.U (l:=[.f, .x 0]) rfl rfl) (.J rfl) c) .e)<|.ak (.J rfl) .e<|.U (l:=[.f, .x 0]) rfl rfl)<|q ag K I (.inr ⟨λt p d=>absurd d<|B t p,λs h=>absurd h<|ns s⟩) F Z C trivial
  | some y=>
   obtain⟨t,p⟩:=y;have c:=cg.I (H:=K) (a:=p) (b:=M);by_cases hp:p<=M
   ·replace c:=(decide_eq_true hp)▸c;exact o1 B λz cc=>aY (.lT (.ah (.U (.ak (.J rfl) .e<|.U (l:=[tv I t, .x p]) rfl rfl) (.J rfl) c) .e)<|.ak (.J rfl) .e<|.U (l:=[tv I t, .x p]) rfl rfl)<|q (aa t) K I (.inl<|cL p z cc hp) F Z C<|i _ rfl
   ·replace c:=(decide_eq_false hp)▸c;refine aY (.n8 (.ah (.U (.ak (.J rfl) .e<|.U (l:=[tv I t, .x p]) rfl rfl) (.J rfl) c) .e) .e)<|q ag K I (.inr ⟨λt' p' d=>au (B.eM W.1 d) λo O o=>?_,λs h=>absurd h<|ns s⟩) F Z C trivial;injection O with O;injection O with _ O;exact ae O.symm hp
 have N:fE H ([aa<|.d A.b,aa<|.U [.d D.p, .d D.i, .d D.q],aa<|.d pa,aa<|.x M,P,aa<|.x l.length,ag,ag,ag,ag,ag,ag]) (.ah<|.U (.J 5) .Eq<|.e<|.x 1) ((l.length:Int)==1):= .ah (.U (.J rfl) .e cR) .e;by_cases R:l.length=1
 ·rw [R,show(((1:Nat):Int)==1)=af from rfl] at N;induction l with
  | nil=>cases h0
  | cons x l'=>
   induction l' with
   | cons _ _=>cases R
   | nil=>
    obtain⟨it,tx⟩:=x;have lt:[((it,tx):aO×Str)].length<1000:=(show 1<1000 by decide);induction it with
    | u s=>exact cY (.aB<|.cB (d:=af) N<|.cB (d:=af) (.ah (.U (Y.J (i:=2) (m:=0) rfl lt rfl .e) .e cj) .e) .gm)<|ZS L W Y q| J t=>exact cz (.aB<|.cB (d:=af) N<|.dJ (d:=af)<|.ah (.U (Y.J (i:=2) (m:=0) rfl lt rfl .e) .e cj) .e)<|e λs h=>by cases h
 ·replace N:=(beq_false_of_ne (show(l.length:Int)≠1 by exactλhq=>(iP R).elim (λG=>bJ .a (.e (.n 0)<|.v 0) (.e (.v 0)<|.n 1) rfl [] [_] h0 G) λG=>bJ .a (.e (.n 1)<|.v 0) (.Eq (.c<|.v 0)<|.n 1) rfl [] [_] G hq))▸N;exact cz (.aB<|.dJ (d:=af) N)<|e λs h=>R<|ae (bB (f:=(·.1))).symm<|ae h rfl
end
noncomputable def vR(out:Bool)(s x:Str):Prop:=(s∈dj/\(x=s\/x=jG++s++jG))\/out=af/\(s=bZ\/s=cG)/\x=s
noncomputable def yt(out:Bool):List Str:=dj++if out then [bZ,cG] else []
noncomputable def sH(D:TA):V->V
 | .x i=>([V.d D.p, .d D.i, .d D.q][i.toNat]?).getD .f| _=> .f
noncomputable def KL(v:V):Str:=@V.casesOn (λz=>Str) v fR (λz=>fR) (λz=>fR) (λs=>s) (λz=>fR) λz=>fR
noncomputable def KJ(H:HP)(D:TA)(a:List V)(v:V):Bool:=!((a.filter λw=>kY H (KL v)<|sH D w).map λz=>V.x 1).isEmpty
theorem ZW(l:List Str):nF (l.map V.z)=0:=by induction l with| nil=>rfl| cons z l ih=>exact(congrArg (max 0) ih).trans<|adp 0
theorem ZU(l:List Str):∃a,kG (l.map V.z) a/\a=l:=by induction l with| nil=>exact⟨_, .I,rfl⟩| cons s l ih=>refine au ih λa h b=>?_;clear ih;obtain rfl:=b;exact(aM _ (.u h) rfl)
theorem yu(l:List Str):kG (l.map V.z) l:=by refine au (ZU l) λz h a=>?_;obtain rfl:=a;exact h
theorem ZV{D:TA}{T:bS}(Y:jc H D T)(F:Fr [31] H c){s:Str}{w:V}{n:Nat}(d:w= .x n)(e:n<3):fh c (.U [.d D.p, .d D.i, .d D.q]) w (sH D w)/\fY c (.z s) (sH D w) (kY H s<|sH D w):=by
 have b:∀{a g:Nat} {l:List (Str×ct)},H a=aa (.a g<|iy l)->[31].contains g=ai->fY c (.z s) (.d a) (kY H s<|.d a):=λ{a g l} h f=>by have:=fY.I<|fH.s (k:=s)<|F _ _ h f;rw [pH] at this;refine ae (yr h) ?_;revert this;cases bK l s<;>exact id
 exact ae d<|M1 (P:=λn=>fh c (.U [.d D.p, .d D.i, .d D.q]) (.x n) (sH D<|.x n)/\fY c (.z s) (sH D<|.x n) (kY H s<|sH D<|.x n)) e ⟨.U (j:=0) rfl rfl,b Y.1 rfl⟩ ⟨.U (j:=1) rfl rfl,b Y.2 rfl⟩ ⟨.U (j:=2) rfl rfl,b Y.3 rfl⟩
section
variable {D:TA} {T:bS}
theorem ZT{nms:List Str}(Y:jc H D T)(hp:H pl=aa (.u g a))(N:∀w∈a,∃n:Nat,w= .x n/\n<3)(hl:a.length<=10)(d:nms.length<=10)(C:H nl=aa (.u 47<|nms.map V.z))
 (R:ρ[1]?=aa (aa<|.U [.d D.p, .d D.i, .d D.q])) (P:ρ[2]?=aa (aa<|.d pl)) (O:ρ[4]?=aa (aa<|.d nl)) (r:ρ.length=10)
 (q:∀u c t,Fr [] H u->t⊆nms->t.length<=10->u c=ag->Q (.d c) (u.J c<|.u 51<|t.map V.z)):
 aK (CP k) (.c 51 (.J 8) 8 (.J 4)<|.u (.ah<|.c 52 (.e<|.x 1) 9 (.J 2)<|.u (.ah<|.U (.J 8) .In<|.ak (.J 1)<|.J 9) .I) .I) ρ E Q H:=by
 have y:∀{n:Nat},n<=10->n<=cE:=λh=>aH h (by decide);refine xX (p:=KJ H D a) (f:=id) (.J O) (.u C) C (y<|by rw [bB];exact d) (λv B m b K q=>?_) (λv B z m b K q=>aX (.J<|by refine ae (pT<|by exact aD (.e (.n 8)<|.v 0) (.qe (.v 0)<|.n 10) rfl [] [_] r) ?_;rfl)<|q m .I) λm c b l=>?_
 ·refine au (gi.mp B) λs M G=>?_;obtain rfl:=G;refine fc<|cD<|xX (p:=λw=>kY H (KL<|.z s)<|sH D w) (f:=λz=> .x 1) (src:= .u pl<|.u g a) (items:=a) (.J<|by refine ae (wg<|by decide) ?_;exact P) (.u<|b _ _ hp rfl) (b _ _ hp rfl) (y hl) (λw A i j K q=>?_) (λw A z i j K q=>aX .e<|q i .I) λi c j l=>(bT _ (.u aQ) (λF=>kU<|F▸q _ (j.u<|.aT l)) λF=>?_)
  ·refine au (N w A) λn e J=>ay (ZV (s:=s) Y ((b.u j).U rfl) e J) λI o=>fc (wb (.ah (.U (.J<|by rw [wg (by decide),pT<|by exact aD (.e (.n 8)<|.v 0) (.qe (.v 0)<|.n 10) rfl [] [_] r]) (.ak (.J<|by refine ae (wg<|by decide)<|ae (wg<|by decide) ?_;exact R) (.J<|by rw [pT<|by rw [ux];exact aD (.e (.n 9)<|.v 0) (.qe (.v 0)<|.n 10) rfl [] [_] r]) I)<|.c o) .e) ⟨λc=>kU<|c▸q i .I,λc=>?_⟩);exact q i .I
  ·exact q _<|j.u<|.aT l
 ·have:=q m c (nms.filter λs=>KJ H D a<|.z s) b (λx L=>(Mz.mp L).1) (aH (adi _ _) d) l;rw [adn,ado];exact this
end
theorem ZX(h:s∈yt out):s∈dj/\b9 s=ai\/out=af/\(s=bZ\/s=cG)/\b9 s=true:=by
 skip;refine cO (fG.mp h) (λh=>?_) λh=>?_
 ·have:∀s∈dj,b9 s=false:=by decide
  exact .inl ⟨h,this s h⟩
 ·induction out with| false=>cases h| true=>exact rF (show s∈[bZ,cG] from h) (.inr ⟨rfl, .inl rfl,by decide⟩)<|.inr ⟨rfl, .inr rfl,by decide⟩
noncomputable def AR(p:Nat)(D:TA)(pl:Nat)(out:Bool)(c z5 b a:Option V):aA:=[aa<|.d p,aa<|.U [.d D.p, .d D.i, .d D.q],aa<|.d pl,aa<|.e<|!out,c,z5,b,a,ag,ag]
section
variable {D:TA} {T:bS}
theorem KO(h:s∈yt out)(e:bq=af->b9 s=ai)(q:∀x,vR out s x->Q (.U [.z fS, .z s, .z x]) H):
 aw (CP k) (ck 5 xM) (AR p D pl out z4 z5 (aa<|.z s)<|aa<|.e bq) (.e E Q) H:=by
 have c:=ZX h;induction bq with
 | false=>exact aY (.ax<|.u .e<|.u (.J rfl)<|.u (.n8 (.ah (.J rfl) .e)<|.J rfl) .I)<|q s<|c.imp (λz=>⟨z.1, .inl rfl⟩) λz=>⟨z.1,z.2.1,rfl⟩
 | true=>
  have a:s∈dj:=c.elim (λz=>z.1) λz=>by replace z:=(e rfl)▸z;exact bw z.2.2
  have d:∀s∈dj,s.length<=10:=by decide
  have b:=d s a;refine aY (.ax<|.u .e<|.u (.J rfl)<|.u (.lT (.ah (.J rfl) .e)<|.aS (.aS .e (.J rfl)<|.z ?_) .e<|.z ?_) .I)<|q (jG++s++jG)<|.inl ⟨a, .inr rfl⟩
  ·exact aH (hS b _) (by decide)
  ·exact ae (show(jG++s).length=1+s.length from rx ..)<|aH (jC (hS b _) _) (by decide)
include L
theorem KN(hp:eI H p)(F:H a=aa (.u g<|b.map V.z))(M:[31].contains g=ai)(n:b≠[])(N:b.length<=10)(K:b⊆yt out)(q:∀y s x,vR out s x->Fr [31] H y->eI y p->Q (.U [.z fS, .z s, .z x]) y):
 aw (CP<|k+1) (ck 3 xM) (AR p D pl out z4 (aa<|.d a) ag ag) (.e E Q) H:=by
 have d:=fP.e F;rw [bB] at d;have m:0<b.length:=Fo.mpr n;refine bz<|mQ<|aX (.J rfl)<|bV (vs:=[.d p, .x b.length]) (.u (.J rfl)<|.u (.bi (aC rfl) d) .I)<|iM L hp (aD (.U (.n 0)<|.c<|.v 0) (.e (.n 0)<|.v 0) rfl [] [_] m) λf r J B C=>?_;have l:r<b.length:=by exact aD (.e (.v 0)<|.v 1) (.U (.c<|.v 0)<|.c<|.v 1) rfl [] [_,_] J
 have o:=K<|wx l;refine(aM (.z b[r]) (.u (j:=r) (B _ _ F M) (by rw [bB];exact lX l<|aD (.e (.v 0)<|.n 1099511627776) (.I (.v 0)<|.n 10) rfl [] [_] N)<|by refine ae (jf)<|ae (iB l) ?_;rfl) ?_);generalize b[r]=s at o;refine bz<|Ad<|wa<|gf<|aX (v:= .z s) (.J rfl)<|fv (vs:=[.z bZ, .z cG]) ((aC rfl)) λc i=>⟨_, .g<|.u aQ<|.z<|.u<|.u .I,λh=>(bw h),λz=>⟨_, .e,λw=>?_,λw=>?_⟩⟩
 ·have A:Fr [31] f (f.J c<|.u 54 [.z bZ, .z cG]):= .aT i;have u:b9 s=false:=by have:(![bZ,cG].contains s)=true:=w;rw [MU,j5,j5,Fq,sY] at this;exact this
  refine wa<|gf<|bV (vs:=[.d p, .x 6]) (aC rfl)<|iM L (C.J (Fr.aT (S:=[]) i) rfl) (by decide) λO R I P G=>aX .e ⟨_,cR,λz=>KO o (λz=>u) λx t=>q O s x t (B.u<|A.u P) G,λh=>bC h⟩
 ·have A:Fr [31] f (f.J c<|.u 54 [.z bZ, .z cG]):= .aT i;have e:(![bZ,cG].contains s)=false:=w;have:=KO (CP:=CP) (k:=k+1) (E:=E) (Q:=Q) (D:=D) (p:=p) (pl:=pl) (z4:=z4) (z5:=aa<|.d a) (bq:=![bZ,cG].contains s) (H:=f.J c<|.u 54 [.z bZ, .z cG]) o (λh=>by replace h:=e▸h;exact bw h) λx t=>q _ s x t (B.u A)<|C.J (Fr.aT (S:=[]) i) rfl;exact this
end
section
variable {D:TA} {T:bS}
include L
theorem ZY(hp:eI H p)(Y:jc H D T)(W:H pl=aa (.u g i))(hs:∀w∈i,∃n:Nat,w= .x n/\n<3)(hl:i.length<=10)(hg:[31].contains g=ai)
 (q:∀Z s x,vR out s x->Fr [31] H Z->eI Z p->Q (.U [.z fS, .z s, .z x]) Z):CP (k+2) 935 [.d p, .U [.d D.p, .d D.i, .d D.q], .d pl, .e<|!out] E Q H:=by
 refine L.1 (n:=9354) rfl rfl<|bz<|og<|fv (vs:=dj.map V.z) ((aC rfl)) λm n1=>AQ<|wb (c:=!out) (.ah (.J rfl) .e) ?_;have P:Fr [] H (H.J m<|.u 48<|dj.map V.z):= .aT n1;have M:=aQ (H:=H) (a:=m) (c:= .u 48<|dj.map V.z);revert M P;generalize H.J m (.u 48<|dj.map V.z)=H1;intro P M
 have t:∀{O:HP} {nl:Nat},Fr [] H O->O nl=aa (.u 47<|(yt out).map V.z)->aw (CP<|k+1) (ck 1 xM) (AR p D pl out (aa<|.d nl) ag ag ag) (.e E Q) O:=λ{O nl} F h2=>by
  refine bz<|ZT (nms:=yt out) (nl:=nl) (Y.J F rfl) (F _ _ W rfl) hs hl (by induction out<;>decide) h2 rfl rfl rfl rfl λX c b F3 sub U nc=>?_;have J:Fr [] H (X.J c<|.u 51<|b.map V.z):=F.u<|F3.u<|.aT nc;have K:=aQ (H:=X) (a:=c) (c:= .u 51<|b.map V.z);have j:=dh (d:= .u 51<|b.map V.z) nc<|F3 _ _ h2 rfl;revert J K j;generalize X.J c (.u 51<|b.map V.z)=G;intro J K j
  have all:∀{C:HP},Fr [31] G C->eI C p->aw (CP<|k+1) (ck 3 xM) (AR p D pl out (aa<|.d nl) (aa<|.d nl) ag ag) (.e E Q) C:=λ{C} f o=>
   KN L o (f _ _ j rfl) rfl (by induction out<;>decide) (by induction out<;>decide) (λx A=>A) λH6 s x A I=>q H6 s x A<|(J.U rfl).u<|f.u I
  refine di<|Af<|fc<|cD<|gf<|aX (v:= .d c) (.J rfl)<|fv (vs:=[]) .I λe S=>?_;have f:Fr [] G (G.J e<|.u 53 []):= .aT S;have B:=dh (d:= .u 53 []) S K;have N:=aQ (H:=G) (a:=e) (c:= .u 53 []);have o:=hp.J (J.u f) rfl;have u:c≠e:=gG K S;revert f B N o;generalize G.J e (.u 53 [])=C;intro f B N o;have vd:nF (b.map V.z)<=100:=by rw [ZW];decide
  by_cases l:b=[]
  ·subst l;refine(lj _ (.u ⟨(show 0<=100 by decide), .d<|.mk u B N vd .I⟩) _ .e (λh=>(bC h)) λz=>⟨λz=>bQ (.J rfl)<|bj (CP:=CP<|k+1)<|all (f.U rfl) o,λh=>bC h⟩)
  ·have er:eZ uH af (b.map V.z) [] false:=by induction b with| nil=>exact absurd rfl l| cons x b=>exact .g
   refine(lj _ (.u ⟨(show 0<=100 by decide), .d<|.mk u B N vd er⟩) _ .e (λz=>fc<|cD<|gf<|bV (vs:=[.d p, .x 8]) (aC rfl)<|iM L o (by decide) λH6 r lt I p6=>aX .e ⟨_,cR,_, .e,λm=>kU ⟨λh=>(bw h),λz=>?_⟩,λm=>⟨λz=>?_,λh=>?_⟩⟩) λh=>bw h)
   ·exact bj (CP:=CP<|k+1)<|KN L p6 (I _ _ B rfl) rfl l U sub λH7 s x A F7=>q H7 s x A<|(J.U rfl).u<|(f.U rfl).u<|I.u F7
   ·exact bQ (.J rfl)<|bj (CP:=CP<|k+1)<|all ((f.U rfl).u I) p6
   ·rw [h] at m;exact bw m
 refine⟨λc=>?_,λc=>?_⟩
 ·induction out with| true=>exact bw c| false=>exact fv (vs:=[]) .I λc2 y=>(aM _ (.u (dh y M) aQ<|by decide) λnl R=>t (P.u<|(Fr.aT y).u<|.aT R) aQ)
 ·induction out with| false=>exact bC c| true=>exact fv (vs:=[.z bZ, .z cG]) ((aC rfl)) λc2 y=>(aM _ (.u (dh y M) aQ<|by decide) λnl R=>t (P.u<|(Fr.aT y).u<|.aT R) aQ)
end
section
variable {A:BA} {D:TA} {T:bS} {b:Bk} {pa:Nat} {l:List (aO×Str)}
theorem KP{ρ:aA}{fr:Bool}{s:Str}{x:V}{i3:V}(Y:jc H D T)(c:ρ[1]?=aa (aa<|.U [.d D.p, .d D.i, .d D.q]))(b:ρ[2]?=aa (aa<|.e fr))(h3:ρ[3]?=aa (aa<|.U [.z fS, .z s,x])):
 Ev H ρ (.cU af<|.u (.U (.ak (.J 3)<|.e<|.x 0) .Eq<|.e<|.z fS)<|.u (.U (.ak (.J 3)<|.e<|.x 1) .In<|.ak (.J 1)<|.d (.ah<|.J 2) (.e<|.x 0)<|.e<|.x 1) .I) (.e<|tX (bf T) fr s):=by
 have a:Ev H ρ (.U (.ak (.J 3)<|.e<|.x 0) .Eq<|.e<|.z fS) (.e af):= .U (.ak (.J h3) .e<|.U rfl rfl) .e cj;refine .cU<|.go a .e<|.i6 ?_;induction fr with
 | true=>
  have i:=cg.c<|fY.I<|fH.s (k:=s) Y.1;rw [pH] at i;have e:tX (bf T) af s=((bK T.bp s).map eV).isSome:=by refine(?_:((bK T.bp s).map _).isSome=_);cases bK T.bp s<;>rfl
  exact ae e<|.U (.ak (.J h3) .e<|.U rfl rfl) (.ak (.J c) (.lT (.ah (.J b) .e) .e)<|.U rfl rfl) i
 | false=>
  have i:=cg.c<|fY.I<|fH.s (k:=s) Y.2;rw [pH] at i;have e:tX (bf T) ai s=((bK T.aZ s).map eV).isSome:=by refine(?_:((bK T.aZ s).map _).isSome=_);cases bK T.aZ s<;>rfl
  exact ae e<|.U (.ak (.J h3) .e<|.U rfl rfl) (.ak (.J c) (.n8 (.ah (.J b) .e) .e)<|.U rfl rfl) i
theorem Z0{P:bA}{out:Bool}(Y:dW H A D T b pa l){a:Bool}{w:VS}(q:∀x,P.nx [aa<|.d pa,aa<|.U [.d D.p, .d D.i, .d D.q],aa<|.e a,x] H):
 ∀{m:List (aO×Str)} {fr:Bool} {v:VS} {x:Option V},ig (bf T) out fr m v w a->dF (CP k) (.J 3) IS P (.u pa<|.u 64<|l.map<|fy b) (m.map<|fy b) [aa<|.d pa,aa<|.U [.d D.p, .d D.i, .d D.q],aa<|.e fr,x] H:=by
 intro m;induction m with
 | nil=>intro fr v x G;cases G;exact ik Y.3<|q x
 | cons y m ih=>
  intro fr v x G;cases G with
  | @u _ i d _ v' c _ _ _ h G=>
   refine i7 Y.3 ?_;revert G;induction h with
   | u h f e=>intro G;exact bQ (KP (i3:= .f) Y.2 rfl rfl rfl)<|bj (CP:=CP k)<|ih G| kS h ho=>intro G;exact bQ (KP (i3:= .f) Y.2 rfl rfl rfl)<|bj (CP:=CP k)<|ih G| J h=>intro G;exact bQ (.cU<|.n9 (.U (.ak (.J rfl) .e<|.U rfl rfl) .e cj) .e)<|bj (CP:=CP k)<|ih G
include L
theorem ZZ(Y:dW H A D T b pa l)(G:ig (bf T) out af l v w a)(q:Q (.e a) H):CP (k+1) 954 [.d pa, .U [.d D.p, .d D.i, .d D.q]] E Q H:=
 L.1 (n:=9542) rfl rfl (bQ .e<|vH (.J rfl) (.u Y.3)<|Z0 Y (λx=>aY (.J rfl) q) G)
end
noncomputable abbrev SA:Type:=Nat×Nat×Nat
noncomputable abbrev SA.s(x:SA):Nat:=x.1
noncomputable abbrev SA.n(x:SA):Nat:=x.2.1
noncomputable abbrev SA.o(x:SA):Nat:=x.2.2
inductive l6(H:HP)(S:SA)(v:VS)(bud:Int):Prop
 | mk (s:H S.s=aa (.u 74 [.d S.n, .d S.o, .x v.nx, .x bud]))
  (n:H S.n=aa (.u 76 (v.J.map λx=> .U [.z x.1, .x x.2])))
  (o:H S.o=aa (.u 75 (v.e.map V.z)))
  (v:∀x∈v.J,t9 x.1)
noncomputable def Er:List Nat:=[31,74,75,76]
theorem l6.J{H a:HP}{S:SA}{v:VS}{bud:Int}{C:List Nat}(x:l6 H S v bud)(F:Fr C H a)(s:[74,75,76].all (λn=>!C.contains n)=af):l6 a S v bud:=by have s:∀n∈[74,75,76],C.contains n=false:=λn b=>gE<|dT.mp s n b;exact⟨F _ _ x.1<|s 74 (by decide),F _ _ x.2<|s 76 (by decide),F _ _ x.3<|s 75 (by decide),x.4⟩
noncomputable def AU(s:Str):Prop:=t9 s\/s=eE
noncomputable def KQ(s:Str)(n:Int):V:= .U [.z tP, .U [.z vo, .x n], .z s]
section
theorem l6.e{S:SA}{v:VS}{bud:Int}(x:l6 H S v bud)(s:Str):l6 (H.J S.o<|.u 75<|v.e.map V.z++[.z s]) S ⟨v.J,v.e++[s],v.nx⟩ bud:=
 ⟨cH x.3 x.1 rfl,cH x.3 x.2 rfl,by refine ae aQ<|ae ed ?_;rfl,x.4⟩
theorem Z2{S:SA}{v:VS}{bud:Int}{s:Str}{P:bA}(X:l6 H S v bud)(hl:v.e.length<cE)
 (g:∀n,v.J.lookup s=aa n->P.a (KQ s n) (H.J S.o<|.u 75<|v.e.map V.z++[.z s])) (f:v.J.lookup s=ag->∀x y,P.nx [aa<|.d p,aa<|.d S.s,aa<|.z s,x,y] H):
 ∀{m d:List (Str×Int)} {x y:Option V},d++m=v.J->d.lookup s=ag->dF (CP k) (.U [3,4]) IZ P (.u S.n<|.u 76<|v.J.map λx=> .U [.z x.1, .x x.2]) (m.map λx=> .U [.z x.1, .x x.2]) [aa<|.d p,aa<|.d S.s,aa<|.z s,x,y] H:=by
 intro a;induction a with
 | nil=>intro d x y e n;exact ik X.2<|f (by rw [jh] at e;exact ae e.symm n) x y
 | cons h m ih=>
  obtain⟨t,i⟩:=h;intro d x y e n;refine xW X.2 rfl<|gF (.ah (.U (.J rfl) (.J rfl) cj) .e) (λc=>?_) λc=>bj (CP:=CP k) ?_
  ·have ts:t=s:=rE c;subst ts;have l:v.J.lookup t=aa i:=by rw [<-e,wu,n,adq,gV,beq_self_eq_true]
   have b:fh H (.d S.s) (.x 1) (.d S.o):= .u X.1 (j:=1) rfl rfl;exact dB<|jt (v:= .z t) (.ak (.J rfl) .e b) (.J rfl) X.3 (by rw [bB];exact hl)<|aY (bH rfl)<|g i l
  ·have ts:(s==t)=false:=by rw [beq_eq_false_iff_ne] at c⊢;exactλe=>c e.symm
   exact ih (d:=d++[(t,i)]) (by rw [cv];exact e)<|ae wu<|ae n<|ae adq<|ae gV<|ae ts rfl
include L
theorem Z1{S:SA}{v:VS}{bud:Int}(hp:eI H p)(X:l6 H S v bud)(ho:v.e.length<1000000)(hn:v.J.length<1000000)
 (q:∀B s v' n,v.nW s v' n->AU s->Fr Er H B->(∀a c,a≠S.s->a≠S.n->a≠S.o->[31].contains c.I=ai->H a=aa c->B a=aa c)->eI B p->l6 B S v' bud->Q (KQ s n) B):CP (k+2) 942 [.d p, .d S.s] E Q H:=by
 have R:∀{n:Nat},n<1000000->n<cE:=λh=>jg h (by decide);refine L.1 (n:=9422) rfl rfl<|bz<|mQ<|fv (vs:=[rZ,r6,lI,eE].map V.z) (by exact(aC rfl)) λc Z=>bV (vs:=[.d p, .x 4]) (aC rfl)<|iM L (hp.J (Fr.aT (S:=[]) Z) rfl) (by decide) λg r lt F1 Y=>?_;have O:r<[rZ,r6,lI,eE].length:=(show r<4 by exact aD (.e (.v 0)<|.n 4) (.U (.c<|.v 0)<|.n 4) rfl [] [_] lt);have w:AU [rZ,r6,lI,eE][r]:=by have:∀s∈[rZ,r6,lI,eE],AU s:=λs hs=>Fu hs (.inl<|.inl rfl) (.inl<|.inr<|.inl rfl) (.inl<|.inr<|.inr rfl)<|.inr rfl;exact this _<|wx O
 refine(aM (.z [rZ,r6,lI,eE][r]) (.u (j:=r) (F1 _ _ aQ rfl) (by rw [bB];exact lX O (show 4<1099511627776 by decide))<|by refine ae (jf)<|ae (iB O) ?_;rfl) ?_);generalize [rZ,r6,lI,eE][r]=s at w;have F:Fr [31] H g:=(Fr.aT Z).u F1;have f:=X.J F rfl;have N:fh g (.d S.s) (.x 0) (.d S.n):= .u f.1 (j:=0) rfl rfl;refine vH (.ak (.J rfl) .e N) (.u f.2)<|Z2 f (R ho) (λn G=>?_) (λG x y=>?_) (d:=[]) rfl rfl
 ·have D:s≠eE:=λe=>by subst e;have:∃x∈v.J,x.1=eE:=⟨(eE,n),qN G,rfl⟩;refine au this λx U e=>?_;refine cO (X.4 x U) (λh=>?_) (λM=>cO M (λh=>?_) λh=>?_)<;>(replace h:=e▸h;exact absurd h<|by decide)
  exact q _ s _ n (.a D G) w ((F.U rfl).u<|.J f.3 rfl) (λa c o n2 P b l=>gc P<|F a c l b) (Y.J (Fr.J f.3 (S:=[75]) rfl) rfl)<|f.e s
 ·have W:fh g (.d S.s) (.x 2) (.x v.nx):= .u f.1 (j:=2) rfl rfl;refine bQ (.ak (.J rfl) .e W)<|Ef (.J rfl) .e W .e (.x .J) (.u f.1 (j:=2) (by decide) rfl) ?_;have u:Fr [74] g (g.J S.s<|.u 74 [.d S.n, .d S.o, .x<|v.nx+1, .x bud]):= .J f.1 rfl;have i:l6 (g.J S.s<|.u 74 [.d S.n, .d S.o, .x<|v.nx+1, .x bud]) S ⟨v.J,v.e,v.nx+1⟩ bud:=⟨aQ,u _ _ f.2 rfl,u _ _ f.3 rfl,X.4⟩;have C:=Y.J u rfl;have I:∀a c,a≠S.s->[31].contains c.I=ai->H a=aa c->(g.J S.s<|.u 74 [.d S.n, .d S.o, .x<|v.nx+1, .x bud]) a=aa c:=λa c o b l=>gc o<|F a c l b;have J:Fr Er H (g.J S.s<|.u 74 [.d S.n, .d S.o, .x<|v.nx+1, .x bud]):=(F.U rfl).u<|u.U rfl;refine(?_:aw (CP<|k+1) (ck 4 IY) _ _ (g.J S.s<|.u 74 [.d S.n, .d S.o, .x<|v.nx+1, .x bud]));revert u i C I J;generalize g.J S.s (.u 74 [.d S.n, .d S.o, .x<|v.nx+1, .x bud])=m;intro u i C I J;have t:fE m [aa<|.d p,aa<|.d S.s,aa<|.z s,x,aa<|.x v.nx] (.ah<|.U (.J 2) .NotEq<|.e<|.z eE) (s !=eE):= .ah (.U (.J rfl) .e kn) .e;refine gF t (λc=>?_) λc=>?_
  ·have D:s≠eE:=bne_iff_ne.mp c;have vn:t9 s:=w.elim id λe=>absurd e D;have N:fh m (.d S.s) (.x 0) (.d S.n):= .u i.1 (j:=0) rfl rfl;refine dB<|jt (v:= .U [.z s, .x v.nx]) (.ak (.J rfl) .e N) (bH rfl) i.2 (by rw [bB];exact R hn) ?_;have K:Fr [76] m (m.J S.n<|.u 76<|v.J.map (λx=>V.U [.z x.1, .x x.2])++[.U [.z s, .x v.nx]]):= .J i.2 rfl;have A:l6 (m.J S.n<|.u 76<|v.J.map (λx=>V.U [.z x.1, .x x.2])++[.U [.z s, .x v.nx]]) S ⟨v.J++[(s,v.nx)],v.e,v.nx+1⟩ bud:=⟨K _ _ i.1 rfl,by refine ae aQ<|ae ed ?_;rfl,K _ _ i.3 rfl,λx U=>(fG.mp U).elim (X.4 x) λh=>by refine ae (d5.mp h) ?_;exact vn⟩;have p3:=C.J K rfl;have FG:=J.u<|K.U (T:=Er) rfl;have s1:fh (m.J S.n<|.u 76<|v.J.map (λx=>V.U [.z x.1, .x x.2])++[.U [.z s, .x v.nx]]) (.d S.s) (.x 1) (.d S.o):= .u A.1 (j:=1) rfl rfl;exact dB<|jt (v:= .z s) (.ak (.J rfl) .e s1) (.J rfl) A.3 (by rw [bB];exact R ho)<|bj (CP:=CP<|k+1)<|aY (bH rfl)<|q _ s _ v.nx (.aT D G) w (FG.u<|.J A.3 rfl) (λa c o n2 P b l=>gc P<|gc n2<|I a c o b l) (p3.J (Fr.J A.3 (S:=[75]) rfl) rfl)<|A.e s
  ·have e:s=eE:=by cases h:(s==eE) with
    | true=>exact rE h| false=>rw [bne,h] at c;exact bC c
   subst e;exact aY (bH rfl)<|q m eE _ v.nx .p w J (λa c o z z b l=>I a c o b l) C i
end
section
variable {O:cX}
theorem KR(h:O.e s=ai):sj O (.u s):=⟨λa e=>(by injection e with e;exact ae e.symm h), .inl λc e=>(nomatch e),λe=>nomatch e⟩
theorem AV{k:aE}(h:k.J=ag)(p:∀c,k≠ .a c)(n:k≠ .I):sj O k:=⟨λa e=>(by rw [h] at e;exact a9 e), .inl p,n⟩
theorem yw(h:c=eH\/c=fL):sj O (.a c):=⟨λa e=>(by rcases h with rfl | rfl<;>exact a9 e), .inr<|aM c rfl h,λe=>nomatch e⟩
theorem mY{k:aE}(n:k≠ .b)(i:∀j,k≠ .x j af):iY k:=⟨n,i⟩
theorem AW{k:Bool->aE}{t:Option Tm}{s:Str}{v v':VS}{a:Bool}(h:∀b,js O [k b] t v v')(c:iY (k af))(i:a=ai->sj O (k af))(d:ez s λb=>[k b]):iZ O a t s v v':=
 (iQ (λb=>[k b]) h (λx r e=>(by injection e with e _;exact e▸c)) (λf x r e=>(by injection e with e _;exact e▸i f)) d)
theorem Z3{c:Nat}{w:List Nat}{free v}(h:lR c=af)(a:w.all iK=af)(b:cs (c::w)∈cy)(n:O.e ⟨(c::w).toArray⟩=ai):iZ O free (aa<|.j ⟨(c::w).toArray⟩) ⟨(c::w).toArray⟩ v v:=
 AW (k:=λz=> .u ⟨(c::w).toArray⟩) (λz=>V6 n) (mY (λe=>nomatch e) λz e=>nomatch e) (λz=>KR n) (Dy h a b)
theorem Z5{c:Nat}{w:List Nat}{free v}(h:d4 c=af)(a:w.all d4=af)(h0:c=48->w=[])(hl:w.length<40):iZ O free (aa<|.x<|kh<|c::w) ⟨(c::w).toArray⟩ v v:=
 AW (k:=λb=> .x (kh<|c::w)<|!b) (λz=>V9) (mY (λe=>nomatch e) λz e=>(bw (Mine.Internal.aE.x.inj e).2)) (λz=>AV rfl (λz e=>nomatch e) λe=>nomatch e) (Wn h a h0 hl)
theorem Z6(h:d4 c=af)(a:w.all d4=af)(h0:c=48->w=[])(hl:w.length<40):iZ O af (aa<|.x (-(kh (c::w):Int))) ⟨(45::c::w).toArray⟩ v v:=
 (iQ _ (λz=>Wb) (λx r e=>(by injection e with e _;exact e▸mY (λe=>nomatch e) λz e=>nomatch e)) (λf=>(bC f))<|Wo h a h0 hl)
theorem Z8{free v}:iZ O free (aa pb) ⟨#[34,97,34,34,34]⟩ v v:=
 AW (k:=λz=> .z) (λz=>We) (mY (λe=>nomatch e) λz e=>nomatch e) (λz=>AV rfl (λz e=>nomatch e) λe=>nomatch e) Wu
theorem Z7:iZ O free (aa gk) ⟨#[91,32,93]⟩ v v:=
 (iQ _ (λz=>Wc) (λx r e=>(by injection e with e _;exact e▸mY (λe=>nomatch e) λz e=>nomatch e)) (λf x r e=>(by injection e with e _;exact e▸yw (.inl rfl))) Wq)
theorem Z4:iZ O free (aa<|.j eR) ⟨#[123,125]⟩ v v:=
 (iQ _ (λz=>V7) (λx r e=>(by injection e with e _;exact e▸mY (λe=>nomatch e) λz e=>nomatch e)) (λf x r e=>(by injection e with e _;exact e▸yw (.inr rfl))) Wl)
theorem Z9{s:Str}{free v v' n}(h:v.nW s v' n)(a:AU s):iZ O free (aa<|.d n) s v v':=
 AW (k:=λz=> .d s) (λz=>Wf h) (mY (λe=>nomatch e) λz e=>nomatch e) (λz=>AV rfl (λz e=>nomatch e) λe=>nomatch e) (by
  rcases a with (rfl | rfl | rfl) | rfl
  ·exact Ab (c:=88) (w:=[]) (.inl rfl) rfl
  ·exact Ab (c:=89) (w:=[]) (.inl rfl) rfl
  ·exact Ab (c:=95) (w:=[90]) (.inr rfl) rfl
  ·exact Ab (c:=95) (w:=[]) (.inr rfl) rfl)
end
section
variable {O:cX} (W:O.a)
theorem ue(G:ig O out af l v v' fr')(n:l≠[]):∃a:Bool->List aE,ez (cW fK<|l.map (·.2)) a/\∀b,ek O out af (l.map (·.1)) (a b) v v':=by
 rcases G.U with ⟨e,_⟩ | ⟨a,c,_,g⟩
 ·exact absurd e n
 ·exact(aM a c λb=>g b<|.inr rfl)
include W
theorem aab(G:ig O af af l v v' fr')(n:l≠[])(h:Rd O 1200 (l.map (·.1)) r):iZ O free r (iJ++cW fK (l.map (·.2))++eP) v v':=by
 refine au (ue G n) λc a g=>(iQ _ (λb=>Wd W (by induction b<;>first | exact .inl rfl | exact .inr rfl) (g ai) h) (λx r e=>?_) (λf x r e=>?_)<|Ws a)
 ·injection e with e _;subst e;exact mY (λe=>nomatch e) λz e=>nomatch e
 ·injection e with e _;subst e;exact AV rfl (λz e=>nomatch e) λe=>nomatch e
theorem aaa(G:ig O af af l v v' fr')(n:l≠[])(h:Rd O 1200 (l.map (·.1)) r):iZ O free (r.map λt=> .U eR [t]) (fL++cW fK (l.map (·.2))++e9) v v':=by
 refine au (ue G n) λc a g=>(iQ _ (λb=>V8 W (λe=>n<|BH.mp e) (g ai) h) (λx r e=>?_) (λf x r e=>?_)<|Wm a)
 ·injection e with e _;subst e;exact mY (λe=>nomatch e) λz e=>nomatch e
 ·injection e with e _;subst e;exact yw<|.inr rfl
end
section
variable {O:cX}
theorem lQ.J{rs f v v'}(A:lQ O rs f v v'):∀{g b a r},g≠[]->ek O ai af g b v' a->Rd O 999 g r->lQ O (rs++[r]) (f++ .a bZ::b) v a:=by induction A with| eN n G h=>exactλc e d=> .u n G h<|.eN c e d| u n G h k ih=>exactλc e d=>by rw [cv];exact .u n G h<|ih c e d
theorem yx(a b c:Str):a++b++c=a++(b++c):=by
 induction a;induction b;induction c
 exact congrArg Str.mk<|E9 ..
theorem aad(c x:Str)(l:List Str):l≠[]->cW c (l++[x])=cW c l++(c++x):=by
 induction l with
 | nil=>exactλh=>absurd rfl h
 | cons a l ih=>induction l with
  | nil=>exactλz=>rfl| cons b l z=>exactλz=>(congrArg (λy=>a++(c++y))<|ih λe=>gv e).trans<|(congrArg (a++·) (yx _ _ _).symm).trans (yx _ _ _).symm
noncomputable def pJ(O:cX)(c:List (Option Tm))(xs:List Str)(v v':VS):Prop:=∃a:Bool->List aE,(∀b,lQ O c (a b) v v')/\ez (cW f9 xs) a/\xs≠[]/\c.length=xs.length
theorem pJ.eN(G:ig O ai af l v v' fr')(n:l≠[])(h:Rd O 999 (l.map (·.1)) r):pJ O [r] [cW fK<|l.map (·.2)] v v':=by exact au (ue G n) λa c g=>(iQ a (λb=> .eN (λe=>n<|BH.mp e) (g b) h) c (λe=>(gv e)) rfl)
theorem pJ.J{rs xs v v' l v'' fr' r}(A:pJ O rs xs v v')(G:ig O ai af l v' v'' fr')(n:l≠[])(h:Rd O 999 (l.map (·.1)) r):pJ O (rs++[r]) (xs++[cW fK<|l.map (·.2)]) v v'':=by refine ji A λj a i nx e=>?_;clear A;exact au (ue G n) λf d g=>(iQ _ (λb=>(a b).J (λe=>n<|BH.mp e) (g af) h) (ae (aad _ _ _ nx)<|Jm (c:=44) (by decide) i d) (λe=>(by induction xs<;>exact gv e))<|ae bI<|ae bI<|ae e rfl)
end
section
variable {O:cX} (W:O.a) (Z:qx O)
include W Z
theorem aae(g:O.e s=ai\/free=af)(j:s=o7\/s=dU\/s=nS)(A:pJ O rs xs v v')(i:rs.length<9):iZ O free ((ew rs).map λl=> .U s l) (s++iJ++cW f9 xs++eP) v v':=by
 refine ji A λm a d nx e=>(iQ _ (λb=>V5 W Z i<|a ai) (λx r e=>?_) (λf x r e=>?_)<|Wk (k:= .u s) (λb r=>?_) d)
 ·injection e with e _;subst e;exact mY (λe=>nomatch e) λz e=>nomatch e
 ·injection e with e _;subst e;exact KR<|g.elim id λh=>by rw [h] at f;exact bC f
 ·rcases j with rfl | rfl | rfl
  ·exact .J (.e (c:=102) (w:=[]) rfl rfl ⟨40,r,rfl,rfl⟩<|by decide+kernel) .I
  ·exact .J (.f (c:=45) (w:=[]) rfl (by decide) rfl ⟨40,r,rfl,rfl⟩<|by decide+kernel) .I
  ·exact .J (.e (c:=102) (w:=[111,111]) rfl rfl ⟨40,r,rfl,rfl⟩<|by decide+kernel) .I
theorem aaf(A:pJ O rs xs v v'):iZ O free ((ew rs).map λl=>jr l gk) (eH++cW f9 xs++dZ) v v':=by
 refine ji A λd a c nx e=>(iQ _ (λb=>Wa W Z<|a ai) (λx r e=>?_) (λf x r e=>?_)<|Jk c)
 ·injection e with e _;subst e;exact mY (λe=>nomatch e) λz e=>nomatch e
 ·injection e with e _;subst e;exact yw<|.inl rfl
end
section
variable {O:cX} (W:O.a) (Z:qx O)
noncomputable def AX:Option (List Tm)->Option Tm->Option Tm
 | some l,aa t=>aa (jr l t)| _,_=>ag
include W Z
theorem aag(A:pJ O d xs v v')(G:ig O ai af l v' v'' fr')(n:l≠[])(h:Rd O 999 (l.map (·.1)) r):iZ O free (AX (ew d) r) (eH++cW f9 xs++zU++cW fK (l.map (·.2))++dZ) v v'':=by
 refine ji A λm a o nx e=>au (ue G n) λi j g=>(iQ (λb=> .a eH::((m ai++ .a cG::i af)++[.a dZ])) (λb=>?_) (λx r e=>?_) (λf x r e=>?_) ?_)
 ·rw [cv];induction r with
  | none=>have:=Jh W Z (a ai) (λe=>n<|BH.mp e) (g af) h;cases k:ew d<;>(replace this:=k▸this;exact this)| some t=>have:=Jh W Z (a ai) (λe=>n<|BH.mp e) (g af) h;cases k:ew d<;>(replace this:=k▸this;exact this)
 ·injection e with e _;subst e;exact mY (λe=>nomatch e) λz e=>nomatch e
 ·injection e with e _;subst e;exact yw<|.inl rfl
 ·have:=Jk (Jm (c:=124) (by decide) o j);rw [yx eH,yx eH,yx<|cW _ _];exact this
end
noncomputable def l8(k:Nat)(n:Nat):List Nat:=@yG (λz=>Nat->List Nat) (λn=>[n%10+48]) (λz ih n=>if n<10 then [n+48] else ih (n/10)++[n%10+48]) k n
theorem KU(w:List Nat)(d:Nat):kh (w++[d+48])=kh w*10+d:=by delta kh;refine ae List.foldl_append (?_:_*10+(d+48 - 48)=_);rw [EJ]
theorem KS(h:d<10):d4 (d+48)=true:=by
 have:∀d:Fin 10,d4 (d.1+48)=true:=by decide
 exact this ⟨d,h⟩
theorem Es(k:Nat):∀n:Nat,n<10^(k+1)->kh (l8 k n)=n/\(l8 k n).all d4=af/\(l8 k n).length<=k+1/\∃c w,l8 k n=c::w/\(c=48->w=[]):=by
 have a:∀{n m:Nat},n<10->kh [n+48]=n/\[n+48].all d4=af/\[n+48].length<=m+1/\∃c w,[n+48]=c::w/\(c=48->w=[]):=λh=>
  ⟨(KU [] _).trans<|jd _,ae me<|ae (KS h) rfl,jP<|dR _,_,_,rfl,λz=>rfl⟩
 induction k with| zero=>exactλn h=>ae (show l8 0 n=[n+48] from congrArg (λx=>[x+48])<|Lu h)<|a h| succ k ih=>intro n h;exact if h':n<10 then ae (show l8 (k+1) n=[n+48] from if_pos h') (a h') else ae (show l8 (k+1) n=l8 k (n/10)++[n%10+48] from if_neg h')<|M5 (ih (n/10)<|adt<|ads _ _▸h) λd g h3 c w e f=>⟨(KU _ _).trans<|ae d<|Nat.div_add_mod' n 10,ae adg<|ae g<|ae me<|ae (KS<|MV _<|by decide) rfl,ae bI<|jP h3,c,w++[n%10+48],ae e rfl,λb=>(absurd (d.symm.trans<|ae e<|ae (f b)<|ae b rfl)<|Bc<|Nat.div_pos (EM h')<|by decide)⟩
theorem aah(h:d<10):(adv d).toNat=d+48:=by
 have:∀d:Fin 10,(adv d.1).toNat=d.1+48:=by decide
 exact this ⟨d,h⟩
theorem aak(k:Nat):∀n:Nat,n<10^(k+1)->(adw 10 n).map adu=l8 k n:=by
 have a:∀{n:Nat},n<10->[n.digitChar].map adu=[n+48]:=λh=>congrArg (λx=>[x])<|aah h;induction k with
 | zero=>exactλn h=>(congrArg _<|Nat.toDigits_of_lt_base h).trans<|(a h).trans<|congrArg (λx=>[x+48]) (Lu h).symm| succ k ih=>intro n h;exact ae (Nat.toDigits_eq_if<|by decide) (if b:n<10 then ae (show l8 (k+1) n=[n+48] from if_pos b) (ae (if_pos b)<|a b) else ae (show l8 (k+1) n=l8 k (n/10)++[n%10+48] from if_neg b)<|ae (if_neg b)<|ed.trans<|congr (congrArg _<|ih (n/10)<|adt<|ads _ _▸h)<|a<|MV _<|by decide)
theorem Et{k n:Nat}(h:n<10^(k+1)):q6 (sP (n:Int))=⟨(l8 k n).toArray⟩:=by rw [PySem.Str.ofString_eq_toList,<-aak k n h];have:sP (n:Int)=String.ofList (adw 10 n):=rfl;exact ae this<|ae String.toList_ofList rfl
theorem aaj{n:Nat}(h:n<10^31):iZ O free (aa<|.x n) (q6<|sP (n:Int)) v v:=by obtain⟨b,a,h3,c,w,e,d⟩:=Es 30 n h;rw [Et (k:=30) h,e];rw [e] at b a h3;rw [me,eJ] at a;have:=Z5 (O:=O) (free:=free) (v:=v) a.1 a.2 d (by replace h3:=dK▸h3;exact aD (.e (.v 0)<|.n 40) (.I (.a (.v 0)<|.n 1)<|.a (.n 30)<|.n 1) rfl [] [_] h3);replace this:=b▸this;exact this
theorem aai{n:Nat}(h:n<10^31):iZ O af (aa<|.x (-(n:Int))) (dU++q6 (sP (n:Int))) v v:=by obtain⟨b,a,h3,c,w,e,d⟩:=Es 30 n h;rw [Et (k:=30) h,e];rw [e] at b a h3;rw [me,eJ] at a;have:=Z6 (O:=O) (v:=v) a.1 a.2 d (by replace h3:=dK▸h3;exact aD (.e (.v 0)<|.n 40) (.I (.a (.v 0)<|.n 1)<|.a (.n 30)<|.n 1) rfl [] [_] h3);replace this:=b▸this;have z:(dU++⟨(c::w).toArray⟩:Str)=⟨(45::c::w).toArray⟩:=congrArg Str.mk (by skip;exact List.append_toArray [45] (c::w));exact ae z this
noncomputable def fO(t:Tm):Nat:=@Tm.rec (λz=>Nat) (λz=>Nat) (λz=>1) (λz=>1) (λz=>1) (λz z n=>n+2) 0 (λz z a b=>max a b) t
noncomputable def AY(t:List Tm):Nat:=@Tm.rec_1 (λz=>Nat) (λz=>Nat) (λz=>1) (λz=>1) (λz=>1) (λz z n=>n+2) 0 (λz z a b=>max a b) t
theorem KV(b:Bk)(t:Tm):tj (tv b t)=fO t:=
 @Tm.rec (λt=>tj (tv b t)=fO t) (λl=>nF (eU b l)=AY l) (λz=>rfl) (λz=>rfl) (λz=>rfl)
  (λf a ih=>(ae ih (congrArg (·+1)<|(adx _).trans<|(adx _).trans<|Nat.max_zero _):max 0 (max 0<|max (nF (eU b a)+1) 0)+1=AY a+2)) rfl (λz z h c=>wB max h c) t
theorem D.I{O:cX}{g t q}(d:D O g t q){M:Nat}(f:1<=M):(∀t,aO.J (aa t)∈g->fO t<=M)->fO t+2<=M+2*g.length:=by induction d with| J=>intro h;have:=h _ cu;skip;exact aD (.I (.a (.v 0)<|.n 2)<|.a (.v 1)<|.m 2<|.n 1) (.I (.v 0)<|.v 1) rfl [] [_,_] this| j=>intro h;skip;exact aD (.I (.a (.n 1)<|.n 2)<|.a (.v 0)<|.m 2<|.n 1) (.I (.n 1)<|.v 0) rfl [] [_] f| @bp s p r l t q h d b ih=>intro h;have:=ih λt c=>h t<|df _ c;skip;exact(wJ _ _).elim (λa=>bJ (.I (.a (.a (.v 0)<|.n 2)<|.n 2)<|.a (.v 1)<|.m 2<|.a (.v 2)<|.n 1) (.u (.v 0)<|.n 0) (.I (.a (.v 3)<|.n 2)<|.a (.v 1)<|.m 2<|.v 2) rfl [] [_,_,_,_] a.2 this) λa=>bJ (.I (.a (.a (.v 0)<|.n 2)<|.n 2)<|.a (.v 1)<|.m 2<|.a (.v 2)<|.n 1) (.u (.v 0)<|.v 3) (.I (.a (.v 3)<|.n 2)<|.a (.v 1)<|.m 2<|.v 2) rfl [] [_,_,_,_] a.2 this| @aZ s p x y l t q m u v d h b e w i j=>intro h;have o:=i λt c=>h t<|lh _ c;have n:=j λt c=>h t<|ma _<|df _ c;exact ae bI<|ae dK ((Fx (k:=4) (aD (.I (.a (.v 0)<|.n 4)<|.a (.v 1)<|.m 2<|.a (.v 2)<|.a (.v 3)<|.n 1) (.I (.a (.v 0)<|.n 2)<|.a (.v 1)<|.m 2<|.v 2) rfl [] [_,_,_,_] o)<|aD (.I (.a (.v 0)<|.n 4)<|.a (.v 1)<|.m 2<|.a (.v 2)<|.a (.v 3)<|.n 1) (.I (.a (.v 0)<|.n 2)<|.a (.v 1)<|.m 2<|.v 3) rfl [] [_,_,_,_] n):max (fO t) (max (fO u) 0)+2+2<=_)| @bD s p x l t q d h b ih=>intro h;have:=ih λt c=>h t<|lh _ c;refine ae bI<|ae gY ?_;skip;exact(wJ _ _).elim (λa=>bJ (.I (.a (.a (.v 0)<|.n 2)<|.n 2)<|.a (.v 1)<|.m 2<|.a (.v 2)<|.n 1) (.u (.v 0)<|.n 0) (.I (.a (.v 3)<|.n 2)<|.a (.v 1)<|.m 2<|.v 2) rfl [] [_,_,_,_] a.2 this) λa=>bJ (.I (.a (.a (.v 0)<|.n 2)<|.n 2)<|.a (.v 1)<|.m 2<|.a (.v 2)<|.n 1) (.u (.v 0)<|.v 3) (.I (.a (.v 3)<|.n 2)<|.a (.v 1)<|.m 2<|.v 2) rfl [] [_,_,_,_] a.2 this
theorem yy(h:s∈dj):b9 s=false:=by
 have:∀s∈dj,b9 s=false:=by decide
 exact this s h
theorem TG.tp{T:bS}(g:TG af dj T){s e}(h:bK T.bp s=aa e):jX dj pG (s,e):=g.1 _<|qN h
theorem TG.tq{T:bS}(g:TG af dj T){s e}(h:bK T.bD s=aa e):jX dj pF (s,e):=g.3 _<|qN h
theorem TG.ti{T:bS}(g:TG af dj T){s e}(h:bK T.aZ s=aa e):(s,e)=(bZ,1000,fq)\/(s,e)=(cG,1100,fq)\/jX dj ou (s,e):=by
 refine au g.2 λr a hl=>?_;have:=qN h;rw [a] at this;rcases dH.mp this with h | h
 ·exact .inl h
 ·exact .inr<|(hl _ h).imp (λz=>z.2) id
theorem TG.KW{T:bS}(g:TG af dj T){s e}(h:bK T.aZ s=aa e):e.2∈ou/\1<=e.1:=by
 rcases g.ti h with h | h | h
 ·obtain rfl:=(dI h).1;obtain rfl:=(dI h).2;exact⟨.tail _<|.head _,by decide⟩
 ·obtain rfl:=(dI h).1;obtain rfl:=(dI h).2;exact⟨.tail _<|.head _,by decide⟩
 ·exact⟨h.2.2.2,h.2.1⟩
theorem TG.KY{T:bS}(g:TG af dj T){s e e'}(h:bK T.aZ s=aa e)(a:bK T.bD s=aa e'):False:=g.7 _ (qN h) _ (qN a) rfl
theorem aan{e:ct}(h:e.2∈pG)(p:1<=e.1):0<=(de e.1 e.2).2/\(de e.1 e.2).2<=e.1:=
 rF (P:=λs=>0<=(de e.1 s).2/\(de e.1 s).2<=e.1) h ⟨q9 p,jy _⟩ ⟨vY p,MW _<|by decide⟩
theorem aam{e:ct}(h:e.2∈pF)(p:1<=e.1):0<=(de e.1 e.2).1/\(de e.1 e.2).1<=e.1:=
 rF (P:=λs=>0<=(de e.1 s).1/\(de e.1 s).1<=e.1) h ⟨q9 p,jy _⟩ ⟨vY p,MW _<|by decide⟩
theorem aal{e:ct}(h:e.2∈ou)(p:1<=e.1):(0<=(de e.1 e.2).1/\(de e.1 e.2).1<=e.1)/\0<=(de e.1 e.2).2/\(de e.1 e.2).2<=e.1:=
 have a:0<=e.1/\e.1<=e.1:=⟨q9 p,jy _⟩;have b:0<=e.1 - 1/\e.1 - 1<=e.1:=⟨vY p,MW _<|by decide⟩
 sZ (P:=λs=>(0<=(de e.1 s).1/\(de e.1 s).1<=e.1)/\0<=(de e.1 s).2/\(de e.1 s).2<=e.1) h ⟨a,b⟩ ⟨b,a⟩ ⟨b,b⟩
theorem TG.J{T:bS}(g:TG af dj T):(bf T).a:= .mk
 (λ{s p r} h=>by
  refine bR (D6 h) λe a c d=>?_;obtain rfl:=c;obtain rfl:=d;have k:=g.tp a;have b:=aan k.2.2.2 k.2.1
  exact⟨b.1,b.2,k.2.1,yy k.1⟩)
 (λ{s p l r} h=>by
  refine ji (AD h) λe a c d i=>?_;obtain rfl:=c;obtain rfl:=d;obtain rfl:=i;have k:=g.KW a;have b:=aal k.1 k.2;refine⟨b.1.1,b.1.2,b.2.1,b.2.2,k.2,?_⟩;cases f:bK T.bD s with
  | none=>exact((ae f rfl):(bK T.bD s).map _=ag)
  | some j=>exact absurd (g.KY a f) id)
 (λ{s p l} h=>by
  refine bR (D4 h) λe a c d=>?_;obtain rfl:=c;obtain rfl:=d;have k:=g.tq a;have b:=aam k.2.2.2 k.2.1;refine⟨b.1,b.2,k.2.1,yy k.1,?_⟩;cases f:bK T.aZ s with
  | none=>exact((ae f rfl):(bK T.aZ s).map _=ag)
  | some j=>exact absurd (g.KY f a) id)
theorem TG.ty{T:bS}(g:TG af dj T):mX T:=⟨g.J,λs e h=>(g.tp h).2.2.2,λs e h=>(g.KW h).1,λs e h=>(g.tq h).2.2.2⟩
theorem TG.kS{T:bS}(g:TG af dj T):qx (bf T):=λs p x y a h=>by
 refine bR (AD h) λe c b z=>?_;obtain rfl:=b;rcases g.ti c with h | h | h
 ·obtain rfl:=(dI h).1;obtain rfl:=(dI h).2;decide
 ·obtain rfl:=(dI h).1;obtain rfl:=(dI h).2;decide
 ·rw [yy h.1] at a;exact bw a
theorem TG.u{T:bS}(g:TG af dj T){s:Str}(h:s∉dj)(d:b9 s=ai):(bf T).e s=false:=by
 rw [AF];have a:bK T.bp s=none:=by cases e:bK T.bp s with| none=>rfl| some x=>exact absurd (g.tp e).1 h
 have c:bK T.bD s=none:=by cases e:bK T.bD s with| none=>rfl| some x=>exact absurd (g.tq e).1 h
 have b:bK T.aZ s=none:=by
  cases e:bK T.aZ s with
  | none=>rfl
  | some x=>
   refine cO (g.ti e) (λk=>?_) λf=>cO f (λk=>?_) λk=>?_
   ·injection k with k _;replace d:=k▸d;exact absurd d (by decide)
   ·injection k with k _;replace d:=k▸d;exact absurd d (by decide)
   ·exact absurd k.1 h
 exact ae a<|ae b<|ae c rfl
end
section
open PySem
noncomputable def oT(j:Nat):Nat:=@yG (λz=>Nat) 40 (λz n=>24*n+100) j
noncomputable def oU(j:Nat):Nat:=@yG (λz=>Nat) 1 (λz n=>24*n) j
noncomputable def oD(j:Nat):Nat:=5+20*j
theorem oy(h:j<=2):(oT j<=30000/\40<=oT j)/\(1<=oU j/\oU j<=576)/\oD j<=45:=
 (by decide:∀j:Fin 3,(oT j<=30000/\40<=oT j)/\(1<=oU j/\oU j<=576)/\oD j<=45) ⟨j,BC h⟩
noncomputable abbrev LZ:Type:=Nat×BA×TA×bS×Nat×(List Nat)×SA×(List<|Nat×cb)
noncomputable abbrev LZ.p(x:LZ):Nat:=x.1
noncomputable abbrev LZ.A(x:LZ):BA:=x.2.1
noncomputable abbrev LZ.D(x:LZ):TA:=x.2.2.1
noncomputable abbrev LZ.T(x:LZ):bS:=x.2.2.2.1
noncomputable abbrev LZ.I(x:LZ):Nat:=x.2.2.2.2.1
noncomputable abbrev LZ.J(x:LZ):List Nat:=x.2.2.2.2.2.1
noncomputable abbrev LZ.S(x:LZ):SA:=x.2.2.2.2.2.2.1
noncomputable abbrev LZ.U(x:LZ):List (Nat×cb):=x.2.2.2.2.2.2.2
inductive LZ.a(Z:LZ):Prop
 | mk (g:TG af dj Z.T)
  (w0:0<Z.J.length)
  (w1:Z.J.length<=10)
  (w2:∀n∈Z.J,n<10^31)
noncomputable abbrev LZ.e(Z:LZ):V:= .U [.d Z.D.p, .d Z.D.i, .d Z.D.q]
inductive LS(H:HP)(Z:LZ)(b:Bk)(v:VS)(bud:Int):Prop
 | mk (p:eI H Z.p)
  (bk:cJ H Z.A b)
  (b0:fU.I b)
  (t:jc H Z.D Z.T)
  (w:H Z.I=aa (.u 69 (Z.J.map λ(n:Nat)=>V.x n)))
  (s:l6 H Z.S v bud)
  (nm:v.J.length<=v.e.length)
  (k:∀x∈Z.U,H x.1=aa x.2/\x.2.I=76/\x.1≠Z.S.s/\x.1≠Z.S.n/\x.1≠Z.S.o)
noncomputable def jw:List Nat:=[31,1,2,3,4,44,74,75,76]
theorem LS.J{H a:HP}{Z:LZ}{b c:Bk}{v:VS}{bud:Int}{C:List Nat}(x:LS H Z b v bud)(F:Fr C H a)(p:eI a Z.p)(bk:cJ a Z.A c)(d:b.I c)(s:[33,34,35,69,74,75,76].all (λn=>!C.contains n)=af):LS a Z c v bud:=by have s:∀n∈[33,34,35,69,74,75,76],C.contains n=false:=λn f=>gE<|dT.mp s n f;exact⟨p,bk,x.3.u d,⟨F _ _ x.4.1<|s 33 (by decide),F _ _ x.4.2<|s 34 (by decide),F _ _ x.4.3<|s 35<|by decide⟩,F _ _ x.5<|s 69 (by decide),⟨F _ _ x.6.1<|s 74 (by decide),F _ _ x.6.2<|s 76 (by decide),F _ _ x.6.3<|s 75 (by decide),x.6.4⟩,x.7,λy e=>have h:=x.8 y e;⟨F _ _ h.1<|ae h.2.1<|s 76 (by decide),h.2⟩⟩
theorem LS.aT(x:LS H Z b v bud)(F:Fr [] H a):LS a Z b v bud:=x.J F (x.1.J F rfl) (x.2.J F rfl) (.I _) rfl
theorem LS.e{H a:HP}{Z:LZ}{b:Bk}{v:VS}{bud:Int}(x:LS H Z b v bud)(F:Fr [31] H a)(p:eI a Z.p):LS a Z b v bud:=x.J F p (x.2.J F rfl) (.I _) rfl
theorem LS.u{H c:HP}{Z:LZ}{b a:Bk}{v:VS}{bud:Int}(x:LS H Z b v bud)(F:Fr gR H c)(bk:cJ c Z.A a)(d:b.I a):LS c Z a v bud:=x.J F (x.1.J F rfl) bk d rfl
inductive ug(Z:LZ)(j:Nat)(fr:Bool)(b b':Bk)(v v':VS)(t:Option Tm)(x:Str):Prop
 | mk (ok:iZ (bf Z.T) fr t x v v')
  (len:x.length<=oT j)
  (dep:∀y,t=aa y->fO y<=oD j)
  (le:b.I b')
  (i:iu b' t)
  (occ:v'.e.length<=v.e.length+oU j)
inductive qW(Z:LZ)(j:Nat)(out:Bool)(b b':Bk)(v v':VS)(l:List (aO×Str))(fr':Bool):Prop
 | mk (ok:ig (bf Z.T) out af l v v' fr')
  (len:∀x∈l,x.2.length<=oT j)
  (dep:∀x∈l,∀y,x.1= .J (aa y)->fO y<=oD j)
  (le:b.I b')
  (i:∀x∈l,sG b' x.1)
  (occ:v'.e.length<=v.e.length+l.length*oU j)
section
variable (CP:Nat->Nat->List V->EP->QV->HP->Prop) (Z:LZ) (j:Nat)
noncomputable def yz:Prop:=∀{n:Nat} {E:EP} {Q:QV} {H:HP} {b:Bk} {v:VS} {bud:Int} {st fr:Bool},LS H Z b v bud->v.e.length+oU j<=900000->(st=af->fr=af)->
 (∀d t x c v' a,ug Z j fr b c v v' t x->Fr jw H d->LS d Z c v' a->Q (fy c (.J t,x)) d)->
 CP (n+2*j+5) 947 [.d Z.p, .d Z.A.b,Z.e, .d Z.I, .d Z.S.s, .x<|2 - j, .e st, .e fr] E Q H
noncomputable def sI:Prop:=∀{n:Nat} {E:EP} {Q:QV} {H:HP} {b:Bk} {v:VS} {bud:Int} {out:Bool},LS H Z b v bud->v.e.length+8*oU j<=900000->
 (∀c pa l e v' a d,qW Z j out b e v v' l d->0<l.length->l.length<=8->Fr jw H c->c pa=aa (.u 64<|l.map<|fy e)->LS c Z e v' a->Q (.d pa) c)->
 CP (n+2*j+6) 961 [.d Z.p, .d Z.A.b,Z.e, .d Z.I, .d Z.S.s, .x<|2 - j, .e<|!out] E Q H
end
theorem qW.iS(g:qW Z j out b i v v' l fr)(p:pj (bf Z.T) out fr x.1 x.2 v' a e)(f:i.I c)(n:x.2.length<=oT j)(m:∀y,x.1= .J (aa y)->fO y<=oD j)(h3:sG c x.1)(k:a.e.length<=v'.e.length+oU j):
 qW Z j out b c v a (l++[x]) e:= .mk
 (g.1.J p)
 (λy d=>(fG.mp d).elim (g.2 y) λh=>d5.mp h▸n)
 (λy d=>(fG.mp d).elim (g.3 y) λh=>d5.mp h▸m)
 (g.4.u f)
 (λy d=>(fG.mp d).elim (λh=>(Ek f<|g.5 y h).2) λh=>d5.mp h▸h3)
 (by
  have:=g.6;rw [bI,gY,Fl,MX,<-ng]
  exact aH k (jC this _))
noncomputable def KZ:V->V
 | .U l=>(l[2]?).getD .f| _=> .f
theorem Eu{CP:Nat->List V->EP->QV->HP->Prop}{ρ:aA}{E:EP}{Q:QV}{H:HP}{b:Bk}{g i pa m:Nat}{k:X}{l:List (aO×Str)}(e:Ev H ρ k (.d pa))(hp:H pa=aa (.u 64<|l.map<|fy b))(hi:i<ρ.length)(hl:l.length<=8)(t:∀x∈l,x.2.length<=m)(h:m<=30000)
 (q:∀n,Fr [] H n->Q (.z<|cW fK<|l.map (·.2)) n):aK CP (.bm 4 (.e<|.z fK)<|.u (.c g (.ak (.J i)<|.e<|.x 2) i k .I) .I) ρ E Q H:=by
 refine aX (Q:=λv H=>jR H 4 v/\_) .e ⟨.u,bx<|xY (f:=KZ) e (.u hp) hp (by rw [bB];exact aH hl<|by decide) (λv s K q=>?_) λc u=>?_⟩
 ·refine au (gi.mp s) λy z d=>?_;obtain rfl:=d;exact aX (.ak (a:=fy b y) (.J<|pT hi) .e<|.U (l:=[.z<|Ej y.1,ow b y.1, .z y.2]) (j:=2) rfl rfl) q
 ·have o:kG ((l.map<|fy b).map KZ) (l.map (·.2)):=by refine ae rq ?_;have:=yu<|l.map (·.2);rw [rq] at this;exact this
  refine(cL _ _ (.u aQ o<|aH (Ap fK m _ 0 λx r=>?_) ?_)<|q _<|.aT u)
  ·refine au (gi.mp r) λy p d=>?_;obtain rfl:=d;exact t y p
  ·rw [bB,jd];exact aH (Nat.mul_le_mul hl<|jC h _) (by decide)
theorem aap(h:(co s).all (λc=>33<=c&&c<=126&&c !=39&&c !=92)=af)(a:s∈cy):ez (jG++s++jG) (λz=>[.f s]):=by have:=Wr h (show cs (co s)∈cy from a);replace this:=(show(⟨(39::(co s++[39])).toArray⟩:Str)=jG++s++jG from JR<|by rw [iL,iL];rfl)▸this;exact this
theorem aao(h:s∈dj):ez s (λz=>[.u s]):=
 Fv (P:=λs=>ez s λz=>[.u s]) h (Aa (c:=43) (w:=[]) rfl (by decide) rfl<|by decide+kernel) (Aa (c:=45) (w:=[]) rfl (by decide) rfl<|by decide+kernel) (Aa (c:=61) (w:=[]) rfl (by decide) rfl<|by decide+kernel)
  (Dy (c:=102) (w:=[111,111]) rfl rfl<|by decide+kernel) (Aa (c:=126) (w:=[62]) rfl (by decide) rfl<|by decide+kernel) (Dy (c:=109) (w:=[111,100]) rfl rfl<|by decide+kernel)
theorem aaq(h:vR out s x):pj O out fr (.u s) x v v (tX O fr s)/\x.length<=40/\s∈cy:=by
 have b:∀s∈dj,s.length<=10/\s∈cy/\(co s).all (λc=>33<=c&&c<=126&&c !=39&&c !=92)=true:=by decide+kernel
 rcases h with ⟨h,rfl | rfl⟩ | ⟨ho,d,rfl⟩
 ·have a:=b _ h;exact⟨.u .u (yy h)<|aao h,aH a.1 (by decide),a.2.1⟩
 ·have a:=b _ h;exact⟨.u .f (yy h)<|aap a.2.2 a.2.1,ae (show(jG++s++jG).length=1+s.length+1 from ae (show(jG++s++jG).length=(jG++s).length+1 from rx ..)<|ae (show(jG++s).length=1+s.length from rx ..) rfl)<|aH (jC (hS a.1 _) _) (by decide),a.2.1⟩
 ·rcases d with rfl | rfl<;>exact⟨.kS rfl ho,by decide,by decide+kernel⟩
theorem aar{l:List (aO×Str)}:(∀x∈l,∀y,x.1= .J (aa y)->fO y<=m)->nF (l.map<|fy b)<=m+1:=by
 induction l with
 | nil=>exactλz=>dR _
 | cons p l ih=>
  refineλh=>uj.mpr ⟨?_,ih λx a=>h x<|df _ a⟩;have h:=h p cu;clear ih;obtain⟨i,s⟩:=p;induction i with
  | u=>exact qY 1 m
  | J t=>induction t with
   | none=>exact qY 1 m| some t=>exact jP<|uj.mpr ⟨dR _,uj.mpr ⟨aH (eW<|KV b t)<|h t rfl,dR _⟩⟩
theorem Fr.sJ{S:List Nat}{H0 H:HP}{a:Nat}{c:cb}(F:Fr S H0 H)(n:H0 a=ag):Fr S H0 (H.J a c):=λb d e s=>gc (λz=>by rw [z,n] at e;exact a9 e)<|F b d e s
inductive GS(H0 H:HP)(Z:LZ)(j:Nat)(out:Bool)(b0 b:Bk)(v0 v:VS)(bud:Int)(pa:Nat)(l:List (aO×Str))(fr:Bool):Prop
 | mk (f:Fr jw H0 H)
  (n:H0 pa=ag)
  (g:qW Z j out b0 b v0 v l fr)
  (a:H pa=aa (.u 64 (l.map (fy b))))
  (s:LS H Z b v bud)
theorem GS.e{H0 H a:HP}{Z:LZ}{j:Nat}{out:Bool}{b0 b:Bk}{v0 v:VS}{bud:Int}{pa:Nat}{l:List (aO×Str)}{fr:Bool}(x:GS H0 H Z j out b0 b v0 v bud pa l fr)(F:Fr [31] H a)(p:eI a Z.p):GS H0 a Z j out b0 b v0 v bud pa l fr:=
 ⟨x.1.u<|F.U rfl,x.2,x.3,F _ _ x.4 rfl,x.5.e F p⟩
theorem GS.aT(x:GS H0 H Z j out b0 b v0 v bud pa l fr)(F:Fr [] H a):GS H0 a Z j out b0 b v0 v bud pa l fr:=
 ⟨x.1.u<|F.U rfl,x.2,x.3,F _ _ x.4 rfl,x.5.aT F⟩
theorem GS.l5{H0 H e:HP}{Z:LZ}{j:Nat}{out:Bool}{b0 b d:Bk}{v0 v v':VS}{bud a:Int}{pa:Nat}{l:List (aO×Str)}{fr c:Bool}{x:aO×Str}(y:GS H0 H Z j out b0 b v0 v bud pa l fr)(F:Fr jw H e)(s:LS e Z d v' a)(p:pj (bf Z.T) out fr x.1 x.2 v v' c)(f:b.I d)(k:x.2.length<=oT j)(i:∀y,x.1= .J (aa y)->fO y<=oD j)(h3:sG d x.1)(g:v'.e.length<=v.e.length+oU j):
 GS H0 (e.J pa<|.u 64<|l.map (fy b)++[fy d x]) Z j out b0 d v0 v' a pa (l++[x]) c:=
 have h:=F _ _ y.4 rfl
 ⟨(y.1.u F).sJ y.2,y.2,y.3.iS p f k i h3 g,by refine ae aQ<|ae ed<|ae (KA f y.3.5) ?_;rfl,s.J (.J h (S:=[64]) rfl) (s.1.J (Fr.J h (S:=[64]) rfl) rfl) (s.2.J (Fr.J h (S:=[64]) rfl) rfl) (.I _) rfl⟩
noncomputable def sL(Z:LZ)(j:Nat)(out:Bool)(pa:Nat)(z:List (Option V)):aA:=[aa<|.d Z.p,aa<|.d Z.A.b,aa Z.e,aa<|.d Z.I,aa<|.d Z.S.s,aa<|.x<|2 - j,aa<|.e<|!out,aa<|.d pa]++z
theorem yA{CP:Nat->List V->EP->QV->HP->Prop}{ρ:aA}{E:EP}{Q:QV}{H:HP}{m:Nat}{o:X}{xs:XL}{a:V}(e:Ev H ρ o a)(h:jR H m a)(q:fA CP xs ρ E (λc H=>∃x b,hX H m a c x b/\Q x b) H):aK CP (.bm m o xs) ρ E Q H:=
 aX (Q:=λv H=>jR H m v/\fA CP xs ρ E (λc H=>∃x b,hX H m v c x b/\Q x b) H) e ⟨h,q⟩
section
variable {CP:Nat->Nat->List V->EP->QV->HP->Prop} (L:bX CP) {Z:LZ} {j n:Nat} {out:Bool} {P:bA} {r:SL} {H0 H:HP} {b0 b:Bk} {v0 v:VS} {bud:Int} {pa:Nat} {l:List (aO×Str)} {fr:Bool}
include L
theorem K2(W:Z.a)(O:yz CP Z j)(hj:j<=2)(y:GS H0 H Z j out b0 b v0 v bud pa l fr)(hl:l.length<8)(ho:v0.e.length+8*oU j<=900000){z:List (Option V)}
 (q:∀p x k v' f,GS H0 p Z j out b0 k v0 v' f pa (l++[x]) ai->aw (CP<|n+2*j+5) r (sL Z j out pa z) P p):
 aw (CP<|n+2*j+5) (.u (.f<|.bm 0 (.J 7)<|.u (.aN 947<|.u (.J 0)<|.u (.J 1)<|.u (.J 2)<|.u (.J 3)<|.u (.J 4)<|.u (.J 5)<|.u (.U (.J 7) .Eq<|.u g .I)<|.u (.aN 954<|.u (.J 7)<|.u (.J 2) .I) .I) .I) r) (sL Z j out pa z) P H:=by
 refine dB<|yA (.J rfl) (.hY y.4)<|bx<|gQ<|bx<|aX (.J rfl)<|bx<|aX (.J rfl)<|bx<|aX (.J rfl)<|bx<|aX (.J rfl)<|bx<|aX (.J rfl)<|bx<|aX (.J rfl)<|bx<|gf<|aX (.J rfl)<|fv (vs:=[]) .I λc m=>?_;have d:=y.aT<|Fr.aT m (c:= .u g []);have i:=aQ (H:=H) (a:=c) (c:= .u g []);have A:=gG y.4 m;revert d i;generalize H.J c (.u g [])=E;intro d i;have u:=aH (aar (b:=b) y.3.3)<|aH (jP (oy hj).2.2) (by decide:46<=100);have C:eZ uH af (l.map<|fy b) [] l.isEmpty:=by induction l with| nil=>exact .I| cons x l=>exact .g
 refine(aM _ (.u ⟨dR _, .d<|.mk A d.4 i u C⟩)<|bx<|bV (aC rfl)<|ZZ L (Y:=⟨d.5.2,d.5.4,d.4,d.3.5⟩) d.3.1 ?_);have B:l.length*oU j+oU j<=8*oU j:=by rw [<-Fs];exact kE _ hl
 refine O d.5 (aH (aH (jC y.3.6 _)<|by rw [ng];exact hS B _) ho) (λh=>?_) λD t x k v' f o s w=>?_
 ·induction l with| nil=>cases y.3.1;rfl| cons _ _=>exact bw h
 ·exact⟨_,_, .hY (s _ _ d.4 rfl) (by rw [bB];exact jg hl<|by decide),q _ (.J t,x) k v' f<|d.l5 (x:=(.J t,x)) s w (.J o.1) o.4 o.2 (λy e=>o.3 y<|by injection e) o.5 o.6⟩
theorem K0(y:GS H0 H Z j out b0 b v0 v bud pa l fr)(hj:j<=2)(hl:l.length<8)(o:∀H,mM H (sL Z j out pa z) xs ks)(i:∀w∈ks,∃n:Nat,w= .x n/\n<3)(f:ks.length<=10)(m:[31].contains g=ai)
 (q:∀a s x,vR out s x->GS H0 a Z j out b0 b v0 v bud pa l fr->Q (fy b (.u s,x)) a):
 aK (CP<|k+2) (.aN 935<|.u (.J 0)<|.u (.J 2)<|.u (.u g xs)<|.u (.J 6) .I) (sL Z j out pa z) E Q H:=by
 refine gQ<|bx<|aX (.J rfl)<|bx<|aX (.J rfl)<|bx<|fv (o H) λc e=>cF (aC rfl) ?_;have d:=y.aT<|Fr.aT e (c:= .u g ks);exact ZY L d.5.1 d.5.4 aQ i f m λa s x h F p=>q a s x h<|d.e F p
omit L in
theorem GS.u{s x:Str}(y:GS H0 H Z j out b0 b v0 v bud pa l fr)(hj:j<=2)(h:vR out s x):GS H0 (H.J pa<|.u 64<|l.map (fy b)++[fy b (.u s,x)]) Z j out b0 b v0 v bud pa (l++[(.u s,x)]) (tX (bf Z.T) fr s):=by exact gI (aaq (O:=bf Z.T) (fr:=fr) (v:=v) h) λc a h3=>y.l5 (x:=(.u s,x)) .I y.5 c (.I _) (aH a (oy hj).1.2) (λz e=>nomatch e) h3<|fz _ _
end
theorem Ew{CP:Nat->List V->EP->QV->HP->Prop}{ρ:aA}{P:bA}{H:HP}{t:T}{x:X}{b r:SL}(q:aK CP x ρ (P.ex ρ) (λv H=>∃n,v= .x n/\gK n/\dF CP t b {P with nx:=λρ H=>aw CP r ρ P H} .b (eQ 0 n) ρ H) H):aw CP (.u (.g t (.a x) b) r) ρ P H:=q
section
variable {CP:Nat->Nat->List V->EP->QV->HP->Prop} (L:bX CP) {Z:LZ} {j n:Nat} {out:Bool} {H0:HP} {b0:Bk} {v0:VS} {pa:Nat}
include L
theorem aat(W:Z.a)(O:yz CP Z j)(hj:j<=2)(ho:v0.e.length+8*oU j<=900000)(y:GS H0 H Z j out b0 b v0 v bud pa l fr)(hl:l.length<8)
 (q:∀C x A v' d k F f e,GS H0 C Z j out b0 A v0 v' d pa (l++[x]) k->P.nx (sL Z j out pa [aa<|.e F,m,f,e]) C):aw (CP<|n+2*j+5) Dk (sL Z j out pa [aa<|.e w,m,f,e]) P H:=by
 refine bz<|gf<|bV (vs:=[.d Z.p, .x 12]) (aC rfl)<|iM L y.5.1 (by decide) λR r N K G=>aX .e<|aM _ cR ?_;have i:=y.e K G;revert i;generalize ((r:Int)==11)=E;intro i;have I:l.length<cE:=jg hl (by decide);have u:∀{b:Bk},(l.map<|fy b).length<cE:=λ{b}=>by rw [bB];exact I
 refine sv (c:=!(w==E)) (.ah (.U (.J rfl) (.J rfl)<|.ne ⟨dR _, .e⟩) .e) (λz=>?_) λz=>?_
 ·refine di (cD<|gf<|bV (vs:=[.d Z.p, .x 4]) (aC rfl)<|iM L i.5.1 (by decide) λQ M J D t=>aX .e ⟨_,cR,_, .e,λz=>?_,λz=>?_⟩)
  ·have p:=i.e D t;exact dB<|yA (.J rfl) (.hY p.4)<|bx<|K0 L p hj hl (ks:=[.x 0]) (λz=> .u .e .I) (λw h=>⟨0,d5.mp h,by decide⟩) (by decide) rfl λB s x h g=>⟨_,_, .hY g.4 u,q _ _ _ _ _ _ _ _ _<|g.u hj h⟩
  ·exact K2 L W O hj (i.e D t) hl ho λB x A v' d g=>bQ .e<|q _ _ _ _ _ _ ai _ _ g
 ·refine bz (K0 L i hj hl (ks:=[.x 1, .x 2]) (λz=> .u .e<|aC rfl) (λw h=>?_) (by decide) rfl λB s x h g=>?_)
  ·refine cO (dH.mp h) (λh=>?_) (λh=>?_)
   ·exact⟨1,h,by decide⟩
   ·exact⟨2,d5.mp h,by decide⟩
  ·refine dB (jt (.J rfl) (.J rfl) g.4 u ?_);have o:=g.u hj h;refine bQ (.U (.ak (a:=fy b (.u s,x)) (.J rfl) .e<|.U (l:=[.z fS, .z s, .z x]) (j:=1) rfl rfl) (.ak (a:=Z.e) (.J rfl) .e<|.U rfl rfl)<|.g<|.I<|.s o.5.4.3)<|bj (CP:=CP<|n+2*j+5)<|q _ _ _ _ _ _ _ _ _ o
theorem aas(W:Z.a)(O:yz CP Z j)(hj:j<=2)(ho:v0.e.length+8*oU j<=900000):∀{items:List V} {H:HP} {b:Bk} {v:VS} {bud:Int} {l:List (aO×Str)} {fr w:Bool} {z9 z10 z11:Option V},GS H0 H Z j out b0 b v0 v bud pa l fr->l.length+items.length<=7->
 (∀h s v' a d c o z9 z10 z11,GS H0 h Z j out b0 s v0 v' a pa d c->d.length=l.length+items.length->P.nx (sL Z j out pa [aa<|.e o,z9,z10,z11]) h)->
 dF (CP<|n+2*j+5) (.J 9) Dk P .b items (sL Z j out pa [aa<|.e w,z9,z10,z11]) H:=by
 intro items;induction items with
 | nil=>exactλy z q=>ik trivial<|q _ _ _ _ _ _ _ _ _ _ y rfl| cons i items ih=>intro H b v bud l fr w z9 z10 z11 y hl q;replace hl:=dK▸hl;refine i7 trivial<|aat L W O hj ho y (aD (.e (.v 0)<|.n 8) (.I (.a (.v 0)<|.a (.v 1)<|.n 1)<|.n 7) rfl [] [_,_] hl) λG x E B g r u z10 z11 m=>ih m (ae bI<|ae gY<|aD (.I (.a (.a (.v 0)<|.n 1)<|.v 1)<|.n 7) (.I (.a (.v 0)<|.a (.v 1)<|.n 1)<|.n 7) rfl [] [_,_] hl) λF D A f C p t z9 z10 z11 k e=>q _ _ _ _ _ _ _ _ _ _ k<|ae e<|ae bI<|ae gY<|ae dK<|j4 (cP (.I (.a (.a (.v 0)<|.n 1)<|.v 1)<|.a (.v 0)<|.a (.v 1)<|.n 1) rfl [_,_] [])<|cP (.I (.a (.v 0)<|.a (.v 1)<|.n 1)<|.a (.a (.v 0)<|.n 1)<|.v 1) rfl [_,_] []
omit L in
theorem yB(i:Int):(eQ 0 i).length=i.toNat:=by unfold eQ;rw [bB,ada,EL]
theorem K4(W:Z.a)(O:yz CP Z j)(hj:j<=2):sI CP Z j:=λ{n E Q H b v bud out} s ho q=>by
 refine L.1 (n:=9617) rfl rfl<|bz<|fv (vs:=[]) .I λpa i=>bQ .e ?_;have y:GS H (H.J pa<|.u 64 []) Z j out b b v v bud pa [] true:=⟨.aT i,i,⟨.I,λz h=>((dz h).elim),λz h=>((dz h).elim), .I _,λz h=>((dz h).elim),by rw [rC,Nat.zero_mul];exact dC _⟩,aQ,s.aT<|.aT i⟩;revert y;generalize H.J pa (.u 64 [])=H1;intro y;have K:(0:Int)<7 - 2*(2 - j):=by exact cP (.U (.n 0)<|.s (.n 7)<|.m 2<|.s (.n 2)<|.c<|.v 0) rfl [_] []
 refine Ew<|og<|aX .e<|bV (vs:=[.d Z.p, .x<|7 - 2*(2 - j)]) (.u (.J rfl)<|.u (.aS .e (.aS .e (.J rfl)<|.x<|.d (by decide)<|iO ((by decide:∀j:Fin 3,(2 - ((j.1:Nat):Int)).natAbs<3) ⟨j,BC hj⟩)<|by decide)<|.x .ak) .I)<|iM L y.5.1 K λH2 r k R I=>(aM (.ah<|.x<|1+r) (.x .J) ⟨1+r,rfl,by skip;exact⟨cP (.U (.g<|.n 1000000)<|.a (.n 1)<|.c<|.v 0) rfl [_] [],bJ (.U (.a (.n 1)<|.c<|.v 0)<|.n 1000000) (.U (.c<|.v 0)<|.s (.n 7)<|.m 2<|.s (.n 2)<|.c<|.v 1) ⟨2,ai, .I (.v 1)<|.n 2⟩ rfl [] [_,_] k hj⟩,aas L W O hj ho (items:=eQ 0<|1+(r:Int)) (w:=af) (z9:=ag) (z10:=ag) (z11:=ag) (y.e R I) (by rw [yB,rC];exact oM (.I (.a (.n 0)<|.v 0)<|.n 7) (.Eq (.c<|.v 0)<|.a (.n 1)<|.c<|.v 1) (.U (.c<|.v 1)<|.s (.n 7)<|.m 2<|.s (.n 2)<|.c<|.v 2) ⟨2,ai, .I (.v 2)<|.n 2⟩ rfl [] [_,_,_] (kD<|cP (.Le (.n 0)<|.a (.n 1)<|.c<|.v 0) rfl [_] []) k hj) λY U S A u N F z9 z10 z11 f o=>?_⟩);rw [yB,rC] at o;have h3:0<u.length/\u.length<8:=by exact⟨bJ (.e (.n 0)<|.v 0) (.J (.c<|.v 1)<|.a (.n 1)<|.c<|.v 2) (.qe (.v 0)<|.a (.n 0)<|.v 1) rfl [] [_,_,_] (kD<|cP (.Le (.n 0)<|.a (.n 1)<|.c<|.v 0) rfl [_] []) o,zc (.e (.v 0)<|.n 8) (.u (.v 0)<|.a (.n 0)<|.v 1) (.Eq (.c<|.v 1)<|.a (.n 1)<|.c<|.v 2) (.U (.c<|.v 2)<|.s (.n 7)<|.m 2<|.s (.n 2)<|.c<|.v 3) ⟨2,ai, .I (.v 3)<|.n 2⟩ rfl [] [_,_,_,_] o (kD<|cP (.Le (.n 0)<|.a (.n 1)<|.c<|.v 0) rfl [_] []) k hj⟩
 have a:∀{p P G d l m},GS H p Z j out b P v G d pa l m->0<l.length->l.length<=8->Q (.d pa) p:=λe h M=>q _ _ _ _ _ _ _ e.3 h M e.1 e.4 e.5;refine di<|pk<|fc<|cD<|aX (.J rfl) ⟨F, .e,λz=>fc<|cD<|gf<|bV (vs:=[.d Z.p, .x 6]) (aC rfl)<|iM L f.5.1 (by decide) λp T J C t=>aX .e ⟨_, .e,_, .e,λg=>kU ⟨λz=>?_,λh=>(bC h)⟩,λg=>⟨λh=>?_,λz=>?_⟩⟩,λc=>⟨λh=>?_,λz=>?_⟩⟩
 ·exact K2 L W O hj (f.e C t) h3.2 ho λX x V v' B D=>bj (CP:=CP<|n+2*j+5)<|aY (.J rfl)<|a D (ae bI<|Nat.lt_add_left _ ab2)<|ae bI h3.2
 ·replace g:=h▸g;exact bC g
 ·exact bj (CP:=CP<|n+2*j+5)<|aY (.J rfl)<|a (f.e C t) h3.1<|jM h3.2
 ·replace c:=h▸c;exact bC c
 ·exact bj (CP:=CP<|n+2*j+5)<|aY (.J rfl)<|a f h3.1<|jM h3.2
end
noncomputable def jx(n:Nat)(s:SL):SL:=@SL.casesOn (λz=>SL) (ck n s) .I λst z=>@S.casesOn (λz=>SL) st .I (λz=> .I) (λz z=> .I) (λz z z=> .I) (λz z z z=> .I) (λz a z=>a) (λz z=> .I) (λz z z=> .I) (λz=> .I) (λz=> .I) (λz z=> .I) (λz z z=> .I) .I .I
theorem aaA(h:Rd O M g (aa t))(a:1<=m)(k:∀t,aO.J (aa t)∈g->fO t<=m)(hl:g.length<=8):fO t<=m+14:=by
 rcases h with ⟨q,z,c,_⟩ | ⟨s,_,_,rfl⟩
 ·have:=c.e.I a k;exact bJ (.I (.v 0)<|.a (.v 1)<|.n 14) (.I (.a (.v 0)<|.n 2)<|.a (.v 1)<|.m 2<|.v 2) ⟨2,ai, .I (.v 2)<|.n 8⟩ rfl [] [_,_,_] this hl
 ·exact aH a<|fz _ _
theorem Ex(c:Str)(m:Nat)(l:List Str):(∀x∈l,x.length<=m)->(cW c l).length<=l.length*(m+c.length):=by
 induction l with
 | nil=>exactλz=>dR _
 | cons x l ih=>
  intro h;have a:=h x cu;have b:=ih λz d=>h z<|df _ d;clear h ih;refine ae (show(x::l).length*(m+c.length)=l.length*(m+c.length)+(m+c.length) from Fs ..) ?_;induction l with
  | nil=>exact aH a<|aH (fz m _)<|qY _ _| cons y l z=>exact aH (eW<|(rx ..).trans<|congrArg (x.length+·)<|rx ..)<|bJ (.I (.a (.v 0)<|.a (.v 1)<|.v 2)<|.a (.v 3)<|.a (.v 4)<|.v 1) (.I (.v 0)<|.v 4) (.I (.v 2)<|.v 3) rfl [] [_,_,_,_,_] a b
theorem aaB{n:Nat}(h:n<10^31):(q6<|sP (n:Int)).length<=31:=by exact ae (Et (k:=30) h)<|(Es 30 n h).2.2.1
noncomputable def kB(Z:LZ)(j:Nat)(st fr:Bool)(z:List (Option V)):aA:=[aa<|.d Z.p,aa<|.d Z.A.b,aa Z.e,aa<|.d Z.I,aa<|.d Z.S.s,aa<|.x<|2 - j,aa<|.e st,aa<|.e fr]++z
noncomputable def uh(Z:LZ)(j:Nat)(fr:Bool)(b:Bk)(v:VS)(H:HP)(Q:QV):Prop:=∀d t x c v' a,ug Z j fr b c v v' t x->Fr jw H d->LS d Z c v' a->Q (fy c (.J t,x)) d
theorem ug.u{Z:LZ}{j:Nat}{fr:Bool}{b d:Bk}{v:VS}{t:Tm}{x:Str}(hj:j<=2)(f:iZ (bf Z.T) fr (aa t) x v v)(a:x.length<=40)(c:fO t<=5)(g:b.I d)(i:t.e d):ug Z j fr b d v v (aa t) x:=
 ⟨f,aH a (oy hj).1.2,λy e=>by injection e with e;refine ae e.symm ?_;exact aH c<|fz _ _,g,i,fz _ _⟩
section
variable {CP:Nat->Nat->List V->EP->QV->HP->Prop} (L:bX CP) {Z:LZ} (W:Z.a) {j k:Nat} (hj:j<=2) {P:bA} {H0 H:HP} {b:Bk} {v:VS} {bud:Int} {st fr:Bool} (F:Fr jw H0 H) (s:LS H Z b v bud) (K:uh Z j fr b v H0 P.a)
include L W hj F s K
theorem aau:aw (CP<|k+1) (jx 2 jo) (kB Z j st fr<|f::ag::zs) P H:=by refine bz<|mQ<|aX .e<|bV (vs:=[.d Z.p, .x 3]) (aC rfl)<|iM L s.1 (by decide) λq r c e g=>BN ((by decide+kernel:∀i:Fin 3,TR.cps[i.1]?=some (97+i.1)/\lR (97+i.1)=true/\cs [97+i.1]∈cy/\cs [97+i.1]∉dj/\b9 (cs [97+i.1])=false) ⟨r,aD (.e (.v 0)<|.n 3) (.U (.c<|.v 0)<|.n 3) rfl [] [_] c⟩) λo m h3 l h=>(aM _ (.z (lX (n:=3) (aD (.e (.v 0)<|.n 3) (.U (.c<|.v 0)<|.n 3) rfl [] [_] c)<|by decide) o) ?_);have a:=s.e e g;exact cC<|jU<|bx<|aX .e<|bx<|jU<|bx<|aX .e<|bx<|a7 (.J rfl) a.2.1 (vs:=[.z<|cs [97+r]]) (aC rfl)<|qC L a.2 h3 λp d k2=>cF (vs:=[]) .I<|cF (vs:=[.z<|cs [97+r]]) (aC rfl)<|K p (aa<|.j<|cs [97+r]) _ _ v bud (.u hj (Z3 m rfl h3<|W.1.u l h) (by refine(?_:1<=40);decide) (by refine(?_:1<=5);decide) (b.lV _)<|b.pn _) (F.u<|(e.U rfl).u<|d.U rfl)<|a.u d k2<|b.lV _
omit K in
theorem aaz{zs:List (Option V)}(B:st=af->fr=af)(K:uh Z j fr b v H0 P.a):aw (CP<|k+1) (jx 3 jo) (kB Z j st fr<|q::p::ag::zs) P H:=by
 have a:=fP.e s.5;rw [bB] at a;refine bz<|mQ<|aX (.J rfl)<|bV (vs:=[.d Z.p, .x Z.J.length]) (.u (.J rfl)<|.u (.bi (aC rfl) a) .I)<|iM L s.1 (j3.mpr W.2) λE r l w y=>?_;have l:r<Z.J.length:=j3.mp l;have f:=W.4 _<|wx l;have i:=s.e w y;refine(aM (.x Z.J[r]) (.u (j:=r) i.5 (by rw [bB];exact lX l<|eX W.3<|by decide)<|by refine ae (jf)<|ae (iB l) ?_;rfl) ?_);revert f;generalize Z.J[r]=n;intro f;have o:=aaB f;have bs:∀{H},fP H 3 [.x n] (.z<|q6<|sP (n:Int)):= .z (show n<10^40 from jg f<|by decide);have e:=F.u<|w.U (T:=jw) rfl
 have u:∀{d},Fr jw H0 d->LS d Z b v bud->aw (CP<|k+1) (ck 2<|jx 3 jo) (kB Z j st fr<|q::p::aa (.x n)::zs) P d:=λ{d} g x=>
  aY (.ax<|.u .e<|.u (bH rfl)<|.u (.bi (aC rfl) bs) .I) (K d (aa<|.x n) _ b v bud (.u hj (aaj f) (aH o<|by decide) (by refine(?_:1<=5);decide) (.I _) trivial) g x)
 refine di<|pk<|fc<|cD<|aX (.J rfl) ⟨st, .e,λc=>fc<|cD<|gf<|bV (vs:=[.d Z.p, .x 2]) (aC rfl)<|iM L i.1 (by decide) λd D A g t=>aX .e ⟨_,cR,_, .e,λm=>kU ⟨λz=>?_,λh=>(bC h)⟩,λm=>⟨λh=>?_,λz=>u (e.u<|g.U rfl)<|i.e g t⟩⟩,λc=>⟨λh=>?_,λz=>u e i⟩⟩
 ·have C:=B c;subst C;refine aY (.ax<|.u .e<|.u (bH rfl)<|.u (.aS .e (.bi (aC rfl) bs)<|.z<|aH (hS o _)<|by decide) .I)<|K d (aa<|.x (-(n:Int))) _ b v bud (.u hj (aai f) ?_ (by refine(?_:1<=5);decide) (.I _) trivial) (e.u<|g.U rfl)<|i.e g t;exact ae (show(dU++q6 (sP (n:Int))).length=1+(q6<|sP (n:Int)).length from rx ..)<|aH (hS o _) (by decide)
 ·replace m:=h▸m;exact bC m
 ·replace c:=h▸c;exact bC c
omit W in
theorem aay(ho:v.e.length<=900000):aw (CP<|k+2) (jx 4 jo) (kB Z j st fr z) P H:=by
 refine cC<|bV (vs:=[.d Z.p, .d Z.S.s]) (aC rfl)<|Z1 L s.1 s.6 (eX ho<|by decide) (eX (aH s.7 ho)<|by decide) λl x v' n U T c o g f=>?_;have d:v'.e.length<=v.e.length+1/\v'.J.length<=v'.e.length:=by induction U with| a=>exact ae bI ⟨dC _,aH s.7<|fz _ _⟩| aT=>exact ae bI<|ae bI ⟨dC _,jC s.7 _⟩| p=>exact⟨fz _ _,s.7⟩
 refine K l (aa<|.d n) x b v' bud ⟨Z9 U T,?_,λy e=>?_, .I _,trivial,aH d.1<|hS (oy hj).2.1.1 _⟩ (F.u<|c.U rfl) ⟨g,s.2.J c rfl,s.3,s.4.J c rfl,c _ _ s.5 rfl,f,d.2,λy i=>have h:=s.8 y i;⟨o _ _ h.2.2.1 h.2.2.2.1 h.2.2.2.2 (ae h.2.1 rfl) h.1,h.2⟩⟩
 ·refine aH (m:=2) ?_ (aH (by decide) (oy hj).1.2);rcases T with (rfl | rfl | rfl) | rfl<;>decide
 ·injection e with e;exact ae e.symm<|aH (by decide:1<=5)<|fz _ _
omit L W in
theorem aax:aw (CP k) (jx 7 jo) (kB Z j st fr z) P H:=by
 have e:=K H (aa pb) (cs [34,97,34,34,34]) b v bud (.u hj Z8 (by skip;decide) (by skip;decide) (.I _)<|(pq s.3 gk [.x 97, .x 34]).2 ⟨trivial,trivial,trivial⟩ (qE s.3).2) F s;have t:tv b pb=oh [.U [.z nT, .x 97], .U [.z nT, .x 34]] sA:=by exact ae ((qE s.3).1).symm<|(pq s.3 gk [.x 97, .x 34]).1
 have e:P.a (.U [.z tP,tv b pb, .z<|cs [34,97,34,34,34]]) H:=e;replace e:=t▸e;exact aY (bH rfl) e
omit L W in
theorem aaw:aw (CP k) (jx 8 jo) (kB Z j st fr z) P H:=by have e:P.a (.U [.z tP,tv b gk, .z<|cs [91,32,93]]) H:=K H (aa gk) (cs [91,32,93]) b v bud (.u hj Z7 (by skip;decide) (by skip;decide) (.I _) (qE s.3).2) F s;replace e:=((qE s.3).1)▸e;exact aY (bH rfl) e
omit L W in
theorem aav:aw (CP k) (ck 9 jo) (kB Z j st fr z) P H:=by have e:P.a (.U [.z tP, .U [.z mG, .x<|b.e eR], .z<|cs [123,125]]) H:=K H (aa<|.j eR) (cs [123,125]) b v bud (.u hj Z4 (by skip;decide) (by skip;decide) (.I _) (mR s.3).2.1) F s;replace e:=((k0 s.3).2.1)▸e;exact aY (bH rfl) e
end
theorem dW.e{H:HP}{Z:LZ}{b:Bk}{v:VS}{bud:Int}{pa:Nat}{l:List (aO×Str)}(s:LS H Z b v bud)(h:H pa=aa (.u 64<|l.map<|fy b))(i:∀x∈l,sG b x.1):dW H Z.A Z.D Z.T b pa l:=⟨s.2,s.4,h,i⟩
theorem qX(a b:Str):(a++b).length=a.length+b.length:=rx ..
theorem vT{a b:Str}{m n:Nat}(d:a.length<=m)(c:b.length<=n):(a++b).length<=m+n:=aH (eW<|qX a b)<|Ft d c
theorem vS{a b:Str}{m n k:Nat}(e:a.length<=m)(d:b.length<=n)(h:m+n<=k)(c:k<=cE):a.length+b.length<=cE:=aH (Ft e d)<|aH h c
theorem Ey(t:Nat):1+(24*t+33)+1<=24*t+100:=cP (.I (.a (.a (.n 1)<|.a (.m 24<|.v 0)<|.n 33)<|.n 1)<|.a (.m 24<|.v 0)<|.n 100) rfl [_] []
theorem ar2(t:Nat):1+2*(8*(t+1)+3)+3+8*(t+1)+1<=24*t+100:=cP (.I (.a (.a (.a (.a (.n 1)<|.m 2<|.a (.m 8<|.a (.v 0)<|.n 1)<|.n 3)<|.n 3)<|.m 8<|.a (.v 0)<|.n 1)<|.n 1)<|.a (.m 24<|.v 0)<|.n 100) rfl [_] []
theorem aaD(h:t<=30000):24*t+100<=cE:=aH (jC (Nat.mul_le_mul_left 24 h) 100) (by decide)
theorem La(g:qW Z i out b h v v' l a)(f:l.length<=8):(cW fK<|l.map (·.2)).length<=8*(oT i+1):=by refine aH (Ex fK (oT i) _ λx e=>au (gi.mp e) λy d c=>?_) (by rw [bB];exact kE _ f);obtain rfl:=c;exact g.2 y d
theorem K8(g:qW Z i out b j v v' l a)(f:l.length<=8)(h:Rd (bf Z.T) M (l.map (·.1)) (aa t)):fO t<=oD i+14:=
 aaA h (aH (by decide)<|fz 5 _) (λt d=>au (gi.mp d) λy c e=>g.3 y c t e) (by rw [bB];exact f)
theorem K9(g:qW Z i out b d v v' l a)(c:l.length<=8):v'.e.length<=v.e.length+8*oU i:=aH g.6<|hS (kE _ c) _
theorem K7(i:Nat):(2 - ((i+1:Nat):Int))+1=2 - (i:Int):=sX (cP (.Le (.a (.s (.n 2)<|.c<|.a (.v 0)<|.n 1)<|.n 1)<|.s (.n 2)<|.c<|.v 0) rfl [_] [])<|cP (.Le (.s (.n 2)<|.c<|.v 0)<|.a (.s (.n 2)<|.c<|.a (.v 0)<|.n 1)<|.n 1) rfl [_] []
section
variable {CP:Nat->Nat->List V->EP->QV->HP->Prop} (L:bX CP) {Z:LZ} (W:Z.a) {i n:Nat} (G:sI CP Z i) {P:bA} {H0 H:HP} {b:Bk} {v:VS} {bud:Int} {st fr:Bool} (F:Fr jw H0 H) (s:LS H Z b v bud)
inductive pK(Z:LZ)(i:Nat)(out:Bool)(M:Int)(b b':Bk)(v v':VS)(l:List (aO×Str))(r:Option Tm):Prop
 | mk (g:∃bg fr',qW Z i out b bg v v' l fr'/\bg.I b')
  (n:l≠[])
  (h8:l.length<=8)
  (rd:Rd (bf Z.T) M (l.map (·.1)) r)
  (i:iu b' r)
  (le:b.I b')
theorem pK.I{Z:LZ}{i:Nat}{out:Bool}{M:Int}{b a:Bk}{v v':VS}{l:List (aO×Str)}{r:Option Tm}(x:pK Z i out M b a v v' l r):∀t,r=aa t->fO t<=oD i+14:=λt e=>by subst e;exact cm x.1 λz z g z=>K8 g x.3 x.4
theorem pK.J{Z:LZ}{i:Nat}{out:Bool}{M:Int}{b a:Bk}{v v':VS}{l:List (aO×Str)}{r:Option Tm}(x:pK Z i out M b a v v' l r):(cW fK<|l.map (·.2)).length<=8*(oT i+1):=by exact cm x.1 λz z g z=>La g x.3
theorem pK.e{Z:LZ}{i:Nat}{out:Bool}{M:Int}{b a:Bk}{v v':VS}{l:List (aO×Str)}{r:Option Tm}(x:pK Z i out M b a v v' l r):v'.e.length<=v.e.length+8*oU i:=by exact cm x.1 λz z g z=>K9 g x.3
theorem pK.u{Z:LZ}{i:Nat}{out:Bool}{M:Int}{b c:Bk}{v v':VS}{l:List (aO×Str)}{r:Option Tm}(x:pK Z i out M b c v v' l r):∃a,ig (bf Z.T) out af l v v' a:=by exact cm x.1 λz a g z=>⟨a,g.1⟩
include L W G s
theorem Lb(x:0<=M)(ho:v.e.length+8*oU i<=900000)
 (q:∀e pa,(∀{E:EP} {Q:QV},(∀d l r f v' a,pK Z i out M b f v v' l r->Fr jw H d->LS d Z f v' a->d pa=aa (.u 64<|l.map<|fy f)->Q (dG f r) d)->CP (n+2*i+6) 930 [.d Z.A.b,Z.e, .d pa, .x M] E Q e)->Fr jw H e->Q (.d pa) e):
 CP (n+2*i+6) 961 [.d Z.p, .d Z.A.b,Z.e, .d Z.I, .d Z.S.s, .x<|2 - (i:Int), .e<|!out] E Q H:=by
 exact G s ho λe pa l y v' a j g h0 m p hp h=>q e pa (λ{E Q} u=>KI L W.1.ty (dW.e h hp g.5) (eX m<|by decide) h0 x λr d z t k o c w=>u d l r z v' a ⟨(cL y j g c),Fo.mp h0,m,t,w,g.4.u c⟩ (p.u<|k.U rfl) (h.J k (h.1.J k rfl) o.1 c rfl) o.3) p
theorem aaE(hj:i+1<=2)(F:Fr jw H0 H)(K:uh Z (i+1) fr b v H0 P.a)(ho:v.e.length+8*oU i<=900000){r:Nat}(X:r=3\/r=6){R B:Option V}{zs:List (Option V)}(U:zs.length=9):
 aw (CP<|n+2*i+6) (jx 5 jo) (kB Z (i+1) st fr<|aa (.x r)::R::B::ag::ag::zs) P H:=by
 have C:=oy<|mh hj;have ev:∀{H ρ},ρ[5]?=aa (aa<|V.x<|2 - ((i+1:Nat):Int))->Ev H ρ (.aS 0 .Add (.J 5)<|.e<|.x 1) (.x<|2 - (i:Int)):=λh=>by refine ae (K7 i).symm ?_;exact .aS (.J h) .e<|.x .J
 refine bz (bV (vs:=[.d Z.p, .d Z.A.b,Z.e, .d Z.I, .d Z.S.s, .x (2 - (i:Int)), .e (!af)]) (.u (.J rfl) (.u (.J rfl) (.u (.J rfl) (.u (.J rfl) (.u (.J rfl) (.u (ev rfl) (aC rfl)))))))
  (Lb L W G s (M:=1200) (by decide) ho λH1 pa T F1=>bz (bV (vs:=[.d Z.A.b,Z.e, .d pa, .x 1200]) (aC rfl) (T λH2 l t o v' f x F2 S hp=>?_))))
 refine cm x.1 λbg Y g z=>bz<|Eu (.J rfl) hp (by refine ae ux<|ae ux ((ae U ?_):19<zs.length+13);decide) x.3 g.2 C.1.1 λA O=>?_;have q:=x.J;have p:=S.aT O;have Q:=F.u<|F2.u<|O.U rfl;revert q;generalize I:cW fK (l.map (·.2))=y;intro q;have E:y.length<=300000:=by exact bJ (.I (.v 0)<|.n 300000) (.I (.v 0)<|.m 8<|.a (.v 1)<|.n 1) ⟨8,ai, .I (.v 1)<|.n 30000⟩ rfl [] [_,_] q C.1.1
 have j:∀{c d:Str},c.length=1->d.length=1->c.length+y.length<=cE/\(c++y).length+d.length<=cE/\(c++y++d).length<=oT (i+1):=λ{c d} J hd=>by have a:oT (i+1)=24*oT i+100:=rfl;have b:=qX c y;replace b:=J▸b;rw [qX<|c++y,b,J,hd,a];exact⟨aH (hS E 1) (by decide),aH (jC (hS E 1) 1) (by decide),aD (.I (.a (.a (.n 1)<|.v 0)<|.n 1)<|.a (.m 24<|.v 1)<|.n 100) (.I (.v 0)<|.m 8<|.a (.v 1)<|.n 1) rfl [] [_,_] q⟩
 have D:v'.e.length<=v.e.length+oU (i+1):=aH x.e<|hS (kE _<|by decide) _;have N:∀{t:Tm},fO t<=oD i+16->fO t<=oD (i+1):=λh=>aH h (by skip;exact cP (.I (.a (.a (.n 5)<|.m 20<|.v 0)<|.n 16)<|.a (.n 5)<|.m 20<|.a (.v 0)<|.n 1) rfl [_] []);rcases X with rfl | rfl
 ·refine cY (.ah (.U (.J rfl) .e cR) .e) (aY (.ax<|.u .e<|.u (.J rfl)<|.u (.aS (.aS .e (.J rfl)<|.z (j (c:=iJ) (d:=eP) rfl rfl).1) .e<|.z (j (c:=iJ) (d:=eP) rfl rfl).2.1) .I)<|K A t _ o v' f ⟨?_,(j (c:=iJ) (d:=eP) rfl rfl).2.2,λu e=>N<|aH (x.I u e)<|cP (.I (.a (.v 0)<|.n 14)<|.a (.v 0)<|.n 16) rfl [_] [],x.6,x.5,D⟩ Q p);refine ae I.symm ?_;exact aab W.1.J g.1 x.2 x.4
 ·refine cz (.ah (.U (.J rfl) .e cR) .e) ?_;have m:=K A (t.map λt=> .U eR [t]) (fL++y++e9) o v' f ⟨by refine ae I.symm ?_;exact aaa W.1.J g.1 x.2 x.4,(j (c:=fL) (d:=e9) rfl rfl).2.2,λu e=>?_,x.6,?_,D⟩ Q p
  ·induction t with| none=>exact aY (.ax<|.u .e<|.u (.lT (.ah (.U (.J rfl) .e .d) .e) .e)<|.u (.aS (.aS .e (.J rfl)<|.z (j (c:=fL) (d:=e9) rfl rfl).1) .e<|.z (j (c:=fL) (d:=e9) rfl rfl).2.1) .I) m| some u=>have c:=cg.d (H:=A) (v:=tv o u);replace c:=(show(tv o u).u=ai by cases u<;>rfl)▸c;have m:P.a (.U [.z tP, .U [.z iI, .x<|o.fn eR 1, .U [tv o u]], .z<|fL++y++e9]) A:=m;replace m:=((k0 p.3).2.2.2.2.2)▸m;exact aY (.ax<|.u .e<|.u (.n8 (.ah (.U (.J rfl) .e c) .e)<|bH rfl)<|.u (.aS (.aS .e (.J rfl)<|.z (j (c:=fL) (d:=e9) rfl rfl).1) .e<|.z (j (c:=fL) (d:=e9) rfl rfl).2.1) .I) m
  ·induction t with
   | none=>exact a9 e
   | some w=>injection e with e;refine ae e.symm ?_;have:=x.I w rfl;refine N ?_;skip;exact(wJ _ _).elim (λk=>aD (.I (.a (.v 0)<|.n 2)<|.a (.v 1)<|.n 16) (.u (.v 0)<|.n 0) rfl [] [_,_] k.2) λk=>bJ (.I (.a (.v 0)<|.n 2)<|.a (.v 1)<|.n 16) (.u (.v 0)<|.v 2) (.I (.v 2)<|.a (.v 1)<|.n 14) rfl [] [_,_,_] k.2 this
  ·induction t with| none=>trivial| some w=>exact⟨(mR p.3).2.1,(mR p.3).2.2.2.2.2.2,x.5,trivial⟩
end
class inductive GL(O:cX):List (Option Tm)->List Str->VS->VS->Prop
 | I {v}:GL O [] [] v v
 | J {rs xs v v' l v'' fr' r} (A:GL O rs xs v v') (G:ig O ai af l v' v'' fr') (n:l≠[]) (h:Rd O 999 (l.map (·.1)) r):GL O (rs++[r]) (xs++[cW fK (l.map (·.2))]) v v''
theorem GL.u{O:cX}{rs xs v v'}(g:GL O rs xs v v'):(rs=[]/\xs=[]/\v=v')\/pJ O rs xs v v':=by
 induction g with
 | I=>exact .inl ⟨rfl,rfl,rfl⟩
 | J A G n h ih=>
  refine .inr ?_;rcases ih with ⟨rfl,rfl,rfl⟩ | A
  ·exact .eN G n h
  ·exact A.J G n h
theorem GL.e{O:cX}{rs xs v v'}(g:GL O rs xs v v')(n:rs≠[]):pJ O rs xs v v':=g.u.resolve_left λh=>n h.1
inductive AS(H0 H:HP)(Z:LZ)(i:Nat)(b0 b:Bk)(v0 v:VS)(bud:Int)(tl xl:Nat)(ts:List (Option Tm))(xs:List Str):Prop
 | mk (f:Fr jw H0 H)
  (nt:H0 tl=ag)
  (nx:H0 xl=ag)
  (t:H tl=aa (.u 57 (ts.map (dG b))))
  (x:H xl=aa (.u 58 (xs.map V.z)))
  (s:LS H Z b v bud)
  (le:b0.I b)
  (gl:GL (bf Z.T) ts xs v0 v)
  (ti:∀t∈ts,iu b t)
  (len:∀x∈xs,x.length<=8*(oT i+1))
  (dep:∀t∈ts,∀y,t=aa y->fO y<=oD i+14)
  (occ:v.e.length<=v0.e.length+ts.length*(8*oU i))
  (el:xs.length=ts.length)
theorem aaH(h:b.I a){ts:List (Option Tm)}(i:∀t∈ts,iu b t):ts.map (dG a)=ts.map (dG b):=pV λt c=>(qL h<|i t c).1
theorem AS.aT(y:AS H0 H Z i b0 b v0 v bud tl xl ts xs)(F:Fr [] H a):AS H0 a Z i b0 b v0 v bud tl xl ts xs:=
 ⟨y.1.u<|F.U rfl,y.2,y.3,F _ _ y.4 rfl,F _ _ y.5 rfl,y.6.aT F,y.7,y.8,y.9,y.10,y.11,y.12,y.13⟩
theorem AS.e{H0 H a:HP}{Z:LZ}{i:Nat}{b0 b:Bk}{v0 v:VS}{bud:Int}{tl xl:Nat}{ts:List (Option Tm)}{xs:List Str}(y:AS H0 H Z i b0 b v0 v bud tl xl ts xs)(F:Fr [31] H a)(p:eI a Z.p):AS H0 a Z i b0 b v0 v bud tl xl ts xs:=
 ⟨y.1.u<|F.U rfl,y.2,y.3,F _ _ y.4 rfl,F _ _ y.5 rfl,y.6.e F p,y.7,y.8,y.9,y.10,y.11,y.12,y.13⟩
theorem LS.sJ(s:LS H Z b v bud)(h:H a=aa c)(f:c.I=g)(k:[31,29,1154,1,2,3,4,33,34,35,69,74,75,76].all (λn=>!([g].contains n))=af):LS (H.J a d) Z b v bud:=by have sub:∀{l:List Nat},(∀n∈l,n∈[31,29,1154,1,2,3,4,33,34,35,69,74,75,76])->l.all (λn=>!([g].contains n))=true:=λhl=>dT.mpr λn e=>dT.mp k n<|hl n e;have F:Fr [g] H (H.J a d):= .J h (by refine ae f ?_;simp);exact s.J F (s.1.J F<|sub<|by decide) (s.2.J F<|sub<|by decide) (.I _)<|sub (by decide)
theorem AS.l5(y:AS H0 H Z i b0 b v0 v bud tl xl ts xs)(u:pK Z i ai 999 b c v v' l r)(F:Fr jw H j)(s:LS j Z c v' a){g:HP}(d:Fr [] (j.J tl<|.u 57<|ts.map (dG b)++[dG c r]) g):
 g xl=aa (.u 58<|xs.map V.z)/\AS H0 (g.J xl<|.u 58<|xs.map V.z++[.z<|cW fK<|l.map (·.2)]) Z i b0 c v0 v' a tl xl (ts++[r]) (xs++[cW fK<|l.map (·.2)]):=by
 refine o1 u.u λq o=>?_;have k:=F _ _ y.4 rfl;have m:=F _ _ y.5 rfl;have e:=d _ _ (cH k m rfl) rfl;have n:=d _ _ aQ rfl;refine⟨e,(((y.1.u F).sJ y.2).u<|d.U rfl).sJ y.3,y.2,y.3,?_,by refine ae aQ<|ae ed ?_;rfl,(LS.aT (s.sJ k rfl rfl) d).sJ e rfl rfl,y.7.u u.6,y.8.J o u.2 u.4,λt f=>?_,λx p=>?_,λt f=>?_,?_,by refine ae bI<|ae bI<|ae y.13 ?_;rfl⟩
 ·exact ae (cH e n rfl)<|ae ed<|ae (aaH u.6 y.9) rfl
 ·exact(fG.mp f).elim (λh=>(qL u.6<|y.9 t h).2) λh=>d5.mp h▸u.5
 ·exact(fG.mp p).elim (y.10 x) λh=>d5.mp h▸u.J
 ·exact(fG.mp f).elim (y.11 t) λh=>d5.mp h▸u.I
 ·rw [bI,gY,Fl,MX,<-ng];exact aH u.e<|jC y.12 _
section
variable {CP:Nat->Nat->List V->EP->QV->HP->Prop} (L:bX CP) {Z:LZ} (W:Z.a) {i n:Nat} (G:sI CP Z i) (hj:i+1<=2) {P:bA} {H0:HP} {b0:Bk} {v0:VS} {st fr:Bool} {tl xl:Nat} (ho:v0.e.length+24*oU i<=900000)
noncomputable abbrev pL(Z:LZ)(i:Nat)(st fr:Bool)(tl xl:Nat)(k e d c b a:Option V)(zs:List (Option V)):aA:=kB Z (i+1) st fr<|k::e::d::c::b::aa (.d tl)::aa (.d xl)::a::zs
include L W G hj ho
theorem aaG{H:HP}{b:Bk}{v:VS}{bud:Int}{ts:List (Option Tm)}{xs:List Str}{k f e a d z15:Option V}{zs:List (Option V)}(D:zs.length=6)(y:AS H0 H Z i b0 b v0 v bud tl xl ts xs)(hl:ts.length<3)
 (q:∀o m v' c r x a,AS H0 o Z i b0 m v0 v' c tl xl (ts++[r]) (xs++[x])->P.nx (pL Z i st fr tl xl k f e a d z15 zs) o):
 aw (CP<|n+2*i+6) Dj (pL Z i st fr tl xl k f e a d z15 zs) P H:=by
 have A:=oy<|mh hj;have I:Ev H (pL Z i st fr tl xl k f e a d z15 zs) (.aS 0 .Add (.J 5)<|.e<|.x 1) (.x<|2 - (i:Int)):=by exact ae (K7 i).symm<|.aS (.J rfl) .e<|.x .J
 have E:ts.length*(8*oU i)+8*oU i<=24*oU i:=by rw [<-Fs];exact aH (kE _ hl) (by rw [<-MY];exact dC _)
 refine bz (bV (vs:=[.d Z.p, .d Z.A.b,Z.e, .d Z.I, .d Z.S.s, .x (2 - (i:Int)), .e (!ai)]) (.u (.J rfl) (.u (.J rfl) (.u (.J rfl) (.u (.J rfl) (.u (.J rfl) (.u I (aC rfl)))))))
  (Lb L W G y.6 (M:=999) (by decide) (aH (aH (jC y.12 _) (by rw [ng];exact hS E _)) ho) λR pa C K=>?_))
 have w:=K _ _ y.4 rfl;refine dB<|yA (.J rfl) (.hY w)<|bx<|bV (vs:=[.d Z.A.b,Z.e, .d pa, .x 999]) (aC rfl)<|C λQ l r m v' c u j B hp=>?_;have h:=j _ _ y.4 rfl;have t:=j _ _ y.5 rfl;refine(cL _ _ (.hY h<|by rw [bB];exact jg hl<|by decide)<|cm u.1 λN F g z=>dB<|yA (.J rfl) (.hY<|cH h t rfl)<|bx<|Eu (.J rfl) (cH h hp rfl) (by refine ae ux ((ae D ?_):20<zs.length+16);decide) u.3 g.2 A.1.1 λO J=>?_);exact ay (y.l5 u j B J) λs p=>⟨_,_, .hY s (by rw [bB,y.13];exact jg hl<|by decide),q _ _ _ _ _ _ _ p⟩
theorem aaF:∀{H:HP} {b:Bk} {v:VS} {bud:Int} {ts:List (Option Tm)} {xs:List Str} {k z9 z10 z11 z12 z15:Option V} {zs:List (Option V)},zs.length=6->AS H0 H Z i b0 b v0 v bud tl xl ts xs->ts.length+items.length<=3->
 (∀l t v' d c f z11 z15,AS H0 l Z i b0 t v0 v' d tl xl c f->c.length=ts.length+items.length->P.nx (pL Z i st fr tl xl k z9 z10 z11 z12 z15 zs) l)->
 dF (CP<|n+2*i+6) (.J 15) Dj P .b items (pL Z i st fr tl xl k z9 z10 z11 z12 z15 zs) H:=by
 induction items with| nil=>exactλz y z q=>ik trivial<|q _ _ _ _ _ _ _ _ y rfl| cons a items ih=>intro H b v bud ts xs k z9 z10 z11 z12 z15 zs g y hl q;replace hl:=dK▸hl;exact i7 trivial<|aaG L W G hj ho (z15:=aa a) g y (aD (.e (.v 0)<|.n 3) (.I (.a (.v 0)<|.a (.v 1)<|.n 1)<|.n 3) rfl [] [_,_] hl) λD B w j r x z11 o=>ih g o (ae bI<|ae gY<|aD (.I (.a (.a (.v 0)<|.n 1)<|.v 1)<|.n 3) (.I (.a (.v 0)<|.a (.v 1)<|.n 1)<|.n 3) rfl [] [_,_] hl) λC A u h s p z11 z15 m e=>q _ _ _ _ _ _ _ _ m<|ae e<|ae bI<|ae gY<|ae dK<|j4 (cP (.I (.a (.a (.v 0)<|.n 1)<|.v 1)<|.a (.v 0)<|.a (.v 1)<|.n 1) rfl [_,_] [])<|cP (.I (.a (.v 0)<|.a (.v 1)<|.n 1)<|.a (.a (.v 0)<|.n 1)<|.v 1) rfl [_,_] []
end
theorem aaJ(y t:V)(m:List V):oh (m++[y]) t=oh m (.U [.z iI, .x 0, .U [y,t]]):=by induction m with| nil=>rfl| cons a m ih=>exact congrArg (λz=>V.U [.z iI, .x 0, .U [a,z]]) ih
theorem aaK(l:List V):nF (l.map λz=>V.x 1)=0:=by induction l with| nil=>rfl| cons z l ih=>exact(congrArg (max 0) ih).trans<|adp 0
theorem aaI(b:Bk)(ts:List (Option Tm)):(((ts.map<|dG b).filter V.u).isEmpty=ai->ew ts=ag)/\(((ts.map<|dG b).filter V.u).isEmpty=af->∃l,ew ts=aa l/\ts=l.map aa):=by
 induction ts with
 | nil=>exact⟨λh=>bC h,λz=>aM [] rfl rfl⟩
 | cons t ts ih=>induction t with
  | none=>exact⟨λz=>rfl,λh=>bw h⟩| some t=>refine ae (show(((aa t::ts).map<|dG b).filter V.u)=(ts.map<|dG b).filter V.u from uC.trans<|if_neg<|by cases t<;>exact gp) ?_;exact⟨λh=>ae (show ew (aa t::ts)=(ew ts).map (t::·) from rfl)<|ae (ih.1 h) rfl,λh=>au (ih.2 h) λl c a=>aM (t::l) (ae (show ew (aa t::ts)=(ew ts).map (t::·) from rfl)<|ae c rfl)<|congrArg _ a⟩
theorem Ez(b:Bk)(l:List Tm):(l.map aa).map (dG b)=eU b l:=by rw [rq,vJ];rfl
section
variable {CP:Nat->List V->EP->QV->HP->Prop} {ρ:aA} {E:EP} {Q:QV} {H:HP}
theorem aaL(h:H tl=aa (.u 57<|ts.map<|dG b))(hl:ts.length<=10)(m:ρ[13]?=aa (aa<|.d tl))(hi:21<ρ.length)
 (q:∀e bd,Fr [] H e->(bd=af->ew ts=ag)->(bd=ai->∃l,ew ts=aa l/\ts=l.map aa)->Q (.e bd) e):
 aK CP (.U (.c 60 (.e<|.x 1) 21 (.J 13)<|.u (.ah<|.U (.J 21) .Is<|.e .f) .I) .NotEq<|.u 61 .I) ρ E Q H:=by
 refine gf<|xX (p:=V.u) (f:=λz=> .x 1) (.J m) (.u h) h (by rw [bB];exact aH hl<|by decide) (λv w i F K q=>fc<|wb (.ah (.U (.J<|pT hi) .e .d) .e) ⟨λc=>kU<|c▸q i .I,λc=>c▸q i .I⟩) (λv w z i F K q=>aX .e<|q i .I) λe c A u=>fv (vs:=[]) .I λd j=>?_;have o:=dh (d:= .u 61 []) j<|aQ (H:=e) (a:=c) (c:= .u 60<|((ts.map<|dG b).filter V.u).map λz=>V.x 1);have g:=aaI b ts;have r:Fr [] H _:=A.u<|(Fr.aT u).u<|.aT (c:= .u 61 []) j;have t:=gG (aQ (H:=e) (a:=c) (c:= .u 60<|((ts.map<|dG b).filter V.u).map λz=>V.x 1)) j;have n:=aQ (H:=e.J c<|.u 60<|((ts.map<|dG b).filter V.u).map λz=>V.x 1) (a:=d) (c:= .u 61 []);revert o g r n;have s:=aaK<|(ts.map<|dG b).filter V.u;generalize B:(ts.map<|dG b).filter V.u=L at s⊢;intro o g r n;have y:eZ uH af (L.map λz=>V.x 1) [] L.isEmpty:=by induction L with| nil=>exact .I| cons x l=>exact .g
 refine(aM _ (.ne<|.mk (dR _)<|.d<|.mk t o n (by refine ae s ?_;decide) y)<|q _ (!L.isEmpty) r (λh=>g.1 ?_) λh=>g.2 ?_)
 ·cases k:L.isEmpty with| true=>replace h:=k▸h;exact bw h| false=>rfl
 ·cases k:L.isEmpty with| true=>rfl| false=>replace h:=k▸h;exact bC h
theorem Lc{st fr:Bool}{d c b:Option V}{zs:List (Option V)}{tl:Nat}{all:List V}(h:H tl=aa (.u 57 all)):∀{l:List V} {t:V} {a:Option V},(∀a,P.nx (kB Z j st fr<|d::c::aa (oh l.reverse t)::b::a::zs) H)->
 dF CP (.J 12) IT P (.u tl<|.u 57 all) l (kB Z j st fr<|d::c::aa t::b::a::zs) H:=by
 intro e;induction e with
 | nil=>intro t a q;exact ik h<|q a
 | cons y l ih=>
  intro t a q
  exact i7 h (bQ (bH rfl) (bj (CP:=CP) (ih λz=>by
   have:=q z;rw [BE,aaJ] at this
   exact this)))
end
theorem AS.u{H0 H:HP}{Z:LZ}{i:Nat}{b0 b:Bk}{v0 v:VS}{bud:Int}{tl xl:Nat}{ts:List (Option Tm)}{xs:List Str}(y:AS H0 H Z i b0 b v0 v bud tl xl ts xs)(h3:ts.length<=3)(hi:i+1<=2):(cW f9 xs).length<=24*oT i+33/\24*oT i+33<=800000/\tf f9 xs<=cE:=by have d:=oy<|mh hi;have a:=aH (Ex f9 _ xs y.10)<|kE _<|y.13▸h3;have b:=aH (Ap f9 _ xs 0 y.10)<|hS (kE _<|y.13▸h3) _;have c:f9.length=3:=rfl;rw [c] at a b;exact⟨aH a<|cP (.I (.m 3<|.a (.m 8<|.a (.v 0)<|.n 1)<|.n 3)<|.a (.m 24<|.v 0)<|.n 33) rfl [_] [],aD (.I (.a (.m 24<|.v 0)<|.n 33)<|.n 800000) ⟨24,ai, .I (.v 0)<|.n 30000⟩ rfl [] [_] d.1.1,aH b<|by skip;exact aD (.I (.a (.n 0)<|.m 3<|.a (.m 8<|.a (.v 0)<|.n 1)<|.n 3)<|.n 16777216) ⟨24,ai, .I (.v 0)<|.n 30000⟩ rfl [] [_] d.1.1⟩
theorem aaN:∀{l:List Tm},(∀t∈l,fO t<=m)->AY l<=m:=by
 intro a;induction a with
 | nil=>intro _;exact dR _| cons t l ih=>intro h;exact uj.mpr ⟨h t cu,ih λu b=>h u<|df _ b⟩
theorem Ld(e:fO u<=m):∀{l:List Tm},(∀t∈l,fO t<=m)->fO (jr l u)<=m+2*l.length:=by
 intro c;induction c with
 | nil=>intro _;exact e| cons t l ih=>intro h;have a:=h t cu;have b:=ih λx d=>h x<|df _ d;exact((Fx (aD (.I (.a (.v 0)<|.n 2)<|.a (.v 1)<|.m 2<|.a (.v 2)<|.n 1) (.I (.v 0)<|.v 1) rfl [] [_,_,_] a)<|aD (.I (.a (.v 0)<|.n 2)<|.a (.v 1)<|.m 2<|.a (.v 2)<|.n 1) (.I (.v 0)<|.a (.v 1)<|.m 2<|.v 2) rfl [] [_,_,_] b):max (fO t) (max (fO<|jr l u) 0)+2<=m+2*(l.length+1))
theorem EB:∀{a:List (Option Tm)} {r},a++[r]=l.map aa->∃b u,a=b.map aa/\r=aa u/\ew a=aa b/\l=b++[u]:=by
 induction l with
 | nil=>intro a r e;cases a<;>exact gv e
 | cons t l ih=>
  intro a r e;cases a with
  | nil=>
   cases l with
   | nil=>obtain rfl:=(jA e).1;exact⟨[],t,rfl,rfl,rfl,rfl⟩
   | cons _ _=>injection e with _ e;exact gw e
  | cons x a=>injection e with i g;subst i;refine fV (ih g) λb u c d h f=>?_;obtain rfl:=c;obtain rfl:=d;obtain rfl:=f;exact(pZ (t::b) u rfl rfl (((ae h rfl):(ew _).map _=_)) rfl)
theorem EA:ew (a++[r])=ag->AX (ew a) r=none:=by
 induction a with
 | nil=>induction r with
  | none=>exactλz=>rfl| some z=>exactλh=>hU h
 | cons t a ih=>induction t with
  | none=>exactλz=>rfl
  | some t=>
   refineλh=>(?_:AX ((ew a).map _) r=ag);have ih:=ih<|Bm.mp h;revert ih;generalize ew a=m;intro ih;induction m with
   | none=>rfl
   | some l=>induction r with
    | none=>rfl| some u=>exact hU ih
section
variable {CP:Nat->Nat->List V->EP->QV->HP->Prop} (L:bX CP) {Z:LZ} (W:Z.a) {i n:Nat} (hj:i+1<=2) {P:bA} {H0 H:HP} {b0 b:Bk} {v0 v:VS} {bud:Int} {st fr bd:Bool} {tl xl:Nat} {ts:List (Option Tm)} {xs:List Str} (K:uh Z (i+1) fr b0 v0 H0 P.a) (h0:ts≠[]) (h3:ts.length<=3)
 (hb1:bd=af->ew ts=ag) (hb2:bd=ai->∃l,ew ts=aa l/\ts=l.map aa)
theorem AS.I{t:Option Tm}{x:Str}{H':HP}{d:Bk}(y:AS H0 H Z i b0 b v0 v bud tl xl ts xs)(h3:ts.length<=3)(f:iZ (bf Z.T) fr t x v0 v)(a:x.length<=24*oT i+100)(c:∀u,t=aa u->fO u<=oD i+20)(g:b.I d)(hi:iu d t):ug Z (i+1) fr b0 d v0 v t x:=
 ⟨f,a,λu e=>c u e,y.7.u g,hi,aH y.12<|hS (by rw [<-MY];exact kE _<|kE 8 h3) _⟩
include L W hj K h0 h3 hb1 hb2
theorem aaM(y:AS H0 H Z i b0 b v0 v bud tl xl ts xs){k N D q p m O:Option V}{zs:List (Option V)}:aw (CP<|n+2*i+6) (jx 4<|jx 6 jo) (pL Z i st fr tl xl k N D q p m<|aa (.e bd)::O::zs) P H:=by
 have F:∀{x nm},Fr [31] H x->eI x Z.p->(nm=o7\/nm=dU\/nm=nS)->((bf Z.T).e nm=ai\/fr=af)->aw (CP<|n+2*i+6) (ck 1<|jx 4<|jx 6 jo) (pL Z i st fr tl xl k N D q p m<|aa (.e bd)::aa (.z nm)::zs) P x:=λ{x nm} M R hk ho=>by
  have d:=y.e M R;have B:nm.length<=3/\nm∈cy:=by rcases hk with rfl | rfl | rfl<;>decide+kernel
  have w:=y.u h3 hj;have A:=aae (free:=fr) W.1.J W.1.kS ho hk (y.8.e h0)<|eX h3 (by decide);have g:=fP.e d.4;rw [bB] at g;have J:=qX nm iJ;have U:=qX (nm++iJ)<|cW f9 xs;have a3:=qX (nm++iJ++cW f9 xs) eP;have c1:iJ.length=1:=rfl;have c2:eP.length=1:=rfl;have mx:(800100:Nat)<=cE:=by decide
  have G:∀{h f} {t:Option Tm},Fr jw x h->LS h Z f v bud->h xl=aa (.u 58<|xs.map V.z)->ug Z (i+1) fr b0 f v0 v t (nm++iJ++cW f9 xs++eP)->aw (CP<|n+2*i+6) (ck 2<|jx 4<|jx 6 jo) (pL Z i st fr tl xl k N (aa<|dG f t) q p m<|aa (.e bd)::aa (.z nm)::zs) P h:=λ{h f t} C s2 x2 o=>
   aY (.ax<|.u .e<|.u (.J rfl)<|.u (.aS (.aS (.aS (.J rfl) .e<|.z<|by exact oM (.I (.a (.v 0)<|.v 1)<|.v 2) (.I (.v 0)<|.n 3) (.u (.v 1)<|.n 1) (.I (.n 800100)<|.v 2) rfl [] [_,_,_] B.1 c1 mx) (.bm .e .u (aC rfl)<|.u x2 (yu xs) w.2.2)<|.z<|zc (.I (.a (.v 0)<|.v 1)<|.n 16777216) (.u (.v 0)<|.a (.v 2)<|.n 1) (.I (.v 1)<|.a (.m 24<|.v 3)<|.n 33) (.I (.v 2)<|.n 3) (.I (.a (.m 24<|.v 3)<|.n 33)<|.n 800000) rfl [] [_,_,_,_] J w.1 B.1 w.2.1) .e<|.z<|BV (.I (.a (.v 0)<|.n 1)<|.n 16777216) (.u (.v 0)<|.a (.v 1)<|.v 2) (.u (.v 1)<|.a (.v 3)<|.n 1) (.I (.v 2)<|.a (.m 24<|.v 4)<|.n 33) (.I (.v 3)<|.n 3) (.I (.a (.m 24<|.v 4)<|.n 33)<|.n 800000) rfl [] [_,_,_,_,_] U J w.1 B.1 w.2.1) .I) (K h t _ f v bud o (d.1.u C) s2)
  refine bz<|AQ<|wb (.ah (.J rfl) .e) ⟨λc=>?_,λc=>?_⟩
  ·replace A:=(hb1 c)▸A;exact aX .e<|G (t:=ag) .I d.6 d.5<|d.I (H':=x) h3 A (BV (.I (.v 0)<|.a (.m 24<|.v 1)<|.n 100) (.u (.v 0)<|.a (.v 2)<|.n 1) (.u (.v 2)<|.a (.v 3)<|.v 4) (.u (.v 3)<|.a (.v 5)<|.n 1) (.I (.v 4)<|.a (.m 24<|.v 1)<|.n 33) (.I (.v 5)<|.n 3) rfl [] [_,_,_,_,_,_] a3 U J w.1 B.1) (λz e=>a9 e) (.I _) trivial
  ·refine au (hb2 c) λl e1 I=>?_;replace A:=e1▸A;have ll:l.length=ts.length:=by rw [I,bB]
   refine jU<|bx<|aX .e<|bx<|a7 (.J rfl) d.6.2.1 (vs:=[.z nm, .x ts.length]) (.u (.J rfl)<|.u (.bi (aC rfl) g) .I)<|Kz L d.6.2 B.2 (eX h3<|by decide) λh f C k2 s m1 m2=>?_;have X:=C _ _ d.4 rfl;rw [I,Ez] at X;refine cF (vs:=[.U<|eU b l]) (.u (.bi (aC rfl)<|.f X) .I) ?_;have il:Tm.u b l:=(qD b l).mpr λt T=>y.9 (aa t)<|ae I<|oI T;have E:=Ai s l il;have dl:AY l<=oD i+14:=aaN λt T=>y.11 (aa t) (ae I<|oI T) t rfl;have:=G (t:=aa<|.U nm l) (C.U rfl) (d.6.u C k2 s) (C _ _ d.5 rfl)<|d.I (H':=h) h3 A (by exact BV (.I (.v 0)<|.a (.m 24<|.v 1)<|.n 100) (.u (.v 0)<|.a (.v 2)<|.n 1) (.u (.v 2)<|.a (.v 3)<|.v 4) (.u (.v 3)<|.a (.v 5)<|.n 1) (.I (.v 4)<|.a (.m 24<|.v 1)<|.n 33) (.I (.v 5)<|.n 3) rfl [] [_,_,_,_,_,_] a3 U J w.1 B.1) (λu e=>by injection e with e;refine ae e.symm ?_;skip;exact aD (.I (.a (.v 0)<|.n 2)<|.a (.v 1)<|.n 20) (.I (.v 0)<|.a (.v 1)<|.n 14) rfl [] [_,_] dl) s ⟨m1,by refine ae ll ?_;exact m2,E.1⟩;have e:dG f (aa<|.U nm l)= .U [.z iI, .x<|f.fn nm ts.length, .U<|eU b l]:=by exact((ae ll<|ae E.2 rfl):V.U [.z iI, .x<|f.fn nm l.length, .U<|eU f l]=_)
   replace this:=e▸this;exact this
 refine bz<|AQ<|wb (.ah (.J rfl) .e) ⟨λc=>?_,λc=>?_⟩
 ·refine mQ (fv (vs:=[o7,dU,nS].map V.z) (aC rfl) λa Y=>bV (vs:=[.d Z.p, .x 3]) (aC rfl)<|iM L ((y.aT<|.aT Y).6.1) (by decide) λx r lt M R=>?_);have Q:r<[o7,dU,nS].length:=(show r<3 by exact aD (.e (.v 0)<|.n 3) (.U (.c<|.v 0)<|.n 3) rfl [] [_] lt);have S:=wx Q;refine(aM (.z [o7,dU,nS][r]) (.u (j:=r) (M _ _ aQ rfl) (by rw [bB];exact lX Q (show 3<1099511627776 by decide))<|by refine ae (jf)<|ae (iB Q) ?_;rfl) ?_);revert S;generalize [o7,dU,nS][r]=nm;intro S;exact F ((Fr.aT Y).u M) R (sZ (P:=λn=>n=o7\/n=dU\/n=nS) S (.inl rfl) (.inr<|.inl rfl)<|.inr<|.inr rfl)<|.inr c
 ·exact aX .e<|F .I y.6.1 (.inl rfl)<|.inl<|W.1.u (by decide+kernel) rfl
end
theorem aaO(l:List a)(x:a):(l++[x]).take (fQ (l++[x]).length (-1))=l:=by
 have:fQ (l++[x]).length (-1)=l.length:=by delta fQ yH;refine ae bI<|ae gY<|ae (if_pos<|by decide) ?_;have e:(-1+((l.length+1:Nat):Int))=(l.length:Int):=sX (cP (.Le (.a (.g<|.n 1)<|.c<|.a (.v 0)<|.n 1)<|.c<|.v 0) rfl [_] [])<|cP (.Le (.c<|.v 0)<|.a (.g<|.n 1)<|.c<|.a (.v 0)<|.n 1) rfl [_] [];exact ae e<|(congrArg (λz:Int=>(max 0 z).toNat)<|abF<|oE.mpr<|MC _).trans<|(congrArg LD<|A8<|iA _).trans<|A9 _
 exact ae this<|ae acA rfl
theorem aaQ(h:n<1000):qg (n+1) (-1)=aa n:=Ka n<|jg h (by decide)
theorem GL.i6(g:GL O ts xs v v')(n:ts≠[]):∃d a c l b r,ts=d++[r]/\xs=a++[cW fK<|l.map (·.2)]/\GL O d a v c/\ig O ai af l c v' b/\l≠[]/\Rd O 999 (l.map (·.1)) r:=by induction g with| I=>exact absurd rfl n| J A G e h=>exact⟨_,_,_,_,_,_,rfl,rfl,A,G,e,h⟩
section
variable {CP:Nat->Nat->List V->EP->QV->HP->Prop} (L:bX CP) {Z:LZ} (W:Z.a) {i n:Nat} (hj:i+1<=2) {P:bA} {H0 H:HP} {b0 b:Bk} {v0 v:VS} {bud:Int} {st fr bd:Bool} {tl xl:Nat} {ts:List (Option Tm)} {xs:List Str} (K:uh Z (i+1) fr b0 v0 H0 P.a) (h0:ts≠[]) (h3:ts.length<=3)
 (hb1:bd=af->ew ts=ag) (hb2:bd=ai->∃l,ew ts=aa l/\ts=l.map aa)
include K
theorem Lf{d:HP}{c:Bk}{m:VS}{a:Int}{t:Option Tm}{x:Str}{k r l j:Option V}{zs:List (Option V)}{u:V}(s:LS d Z c m a)(z:Fr jw H0 d)(o:ug Z (i+1) fr b0 c v0 m t x)(v:bd=ai->∃w,t=aa w/\u=tv c w)(y:bd=af->t=ag)
 {h g f:Option V} {e:Option V}:aw (CP n) (ck 9<|jx 6 jo) (kB Z (i+1) st fr<|k::r::aa u::l::j::h::g::f::aa (.e bd)::e::aa (.z x)::zs) P d:=by
 have b:=K d t x c m a o z s;induction bd with
 | true=>replace b:=(y rfl)▸b;exact aY (.ax<|.u .e<|.u (.lT (.ah (.J rfl) .e) .e)<|aC rfl) b| false=>refine au (v rfl) λw p q=>?_;obtain rfl:=p;obtain rfl:=q;exact aY (.ax<|.u .e<|.u (.n8 (.ah (.J rfl) .e)<|.J rfl)<|aC rfl) b
include L W hj h0 h3 hb1 hb2
theorem aaP(y:AS H0 H Z i b0 b v0 v bud tl xl ts xs){k z9 z10 T C R Q z18:Option V}{zs:List (Option V)}:aw (CP<|n+2*i+6) (ck 5<|jx 6 jo) (pL Z i st fr tl xl k z9 z10 T C R<|aa (.e bd)::Q::z18::zs) P H:=by
 have jn:=y.u h3 hj;have J:=aaD (oy<|mh hj).1.1;have s1:(eH++cW f9 xs).length<=_:=vT (dC 1) jn.1;have X:(eH++cW f9 xs++dZ).length<=_:=aH (vT s1<|dC 1)<|Ey _;refine bQ (v:=sA) (bH rfl)<|bQ (v:= .z<|eH++cW f9 xs++dZ) (.aS (.aS .e (.bm .e .u (aC rfl)<|.u y.5 (yu xs) jn.2.2)<|.z<|vS (dC 1) jn.1 (aH (fz _ 1)<|Ey _) J) .e<|.z<|vS s1 (dC 1) (Ey _) J) ?_;have F:=fP.e y.4;rw [bB] at F
 have no:∀{N},AS H0 N Z i b0 b v0 v bud tl xl ts xs->aw (CP<|n+2*i+6) (ck 8<|jx 6 jo) (pL Z i st fr tl xl k z9 (aa sA) T C R<|aa (.e bd)::Q::aa (.z<|eH++cW f9 xs++dZ)::zs) P N:=λ{N} s=>by
  refine Ae (.J rfl) s.4<|Lc s.4 λC=>?_;rw [Fh];have A:=aaf (free:=fr) W.1.J W.1.kS<|y.8.e h0;refine Lf (t:=(ew ts).map λl=>jr l gk) K s.6 s.1 (s.I (H':=N) h3 A X (λu e=>?_) (.I _) ?_) (λh=>?_) λh=>by exact ae (hb1 h) rfl
  ·refine au (oG.mp e) λl e1 e2=>?_;have:bd=false:=by cases h:bd with| false=>rfl| true=>replace e1:=(hb1 h)▸e1;exact a9 e1
   refine au (hb2 this) λl' D q=>?_;replace D:=e1▸D;injection D with D;subst D;have:=Ld (m:=oD i+14) (u:=gk) (aH (by decide)<|qY 14 _) (l:=l) λt M=>y.11 (aa t) (ae q<|oI M) t rfl;have ll:l.length=ts.length:=by rw [q,bB]
   exact ae e2.symm<|oM (.I (.v 0)<|.a (.v 1)<|.n 20) (.I (.v 0)<|.a (.a (.v 1)<|.n 14)<|.m 2<|.v 2) ⟨2,ai, .u (.v 2)<|.v 3⟩ ⟨2,ai, .I (.v 3)<|.n 3⟩ rfl [] [_,_,_,_] this ll h3
  ·cases h:bd with| true=>exact ae (hb1 h) trivial| false=>exact au (hb2 h) λl D q=>ae D<|(pq y.6.3 gk l).2 ((qD b l).mpr λt M=>y.9 (aa t)<|ae q<|oI M) (qE y.6.3).2
  ·refine au (hb2 h) λl D q=>(aM (jr l gk) (ae D rfl) ?_);rw [(pq y.6.3 gk l).1,(qE y.6.3).1,q,Ez]
 refine di<|pk<|fc<|wb (.ah (.U (.bi (aC rfl) F) .e .j) .e) ⟨λc=>fc<|cD<|gf<|bV (vs:=[.d Z.p, .x 2]) (aC rfl)<|iM L y.6.1 (by decide) λN r lt F1 p1=>aX .e<|lj _ cR _ .e (λc2=>kU ⟨λz=>?_,λh=>(bC h)⟩) λc2=>⟨λh=>?_,λz=>no<|y.e F1 p1⟩,λc=>⟨λh=>?_,λz=>no y⟩⟩
 ·have s:=y.e F1 p1;obtain⟨B,o,vm,l,fr',r,rfl,rfl,g,G,nl,rd⟩:=y.8.i6 h0;have oc:(B++[r]).length*(8*oU i)<=24*oU i:=by rw [<-MY];exact kE _<|kE 8 h3
  have c:(1:Int)<(B++[r]).length:=of_decide_eq_true c;rw [bI,gY] at c h3;have rn:B≠[]:=λe=>by replace c:=e▸c;exact absurd c (by decide)
  have lx:o.length=B.length:=by have:=y.13;rw [bI,bI] at this;exact Nat.add_right_cancel this
  have E:=s.4;rw [ed] at E;refine bz<|vG (.J rfl) (.nB E) .I (.nB E) ?_;have X:=s.6.sJ E (d:= .u 57<|B.map<|dG b) rfl rfl;have F2:=s.1.sJ (c:= .u 57<|B.map<|dG b) s.2;have x2:=cH (d:= .u 57<|B.map<|dG b) E s.5 rfl;have t2:=aQ (H:=N) (a:=tl) (c:= .u 57<|B.map<|dG b);revert X F2 x2 t2;generalize N.J tl (.u 57<|B.map<|dG b)=H2;intro X F2 x2 t2;have sl:=qf.d (h:= -1) x2;rw [ed,yX,aaO] at sl;have p:o.length<=2:=lx▸Nat.le_of_succ_le_succ h3;have b1:(cW f9 o).length<=2*(8*(oT i+1)+3):=aH (Ex f9 _ o λx hx=>y.10 x<|lh _ hx)<|kE _ p;have b2:tf f9 o<=0+2*(8*(oT i+1)+3):=aH (Ap f9 _ o 0 λx hx=>y.10 x<|lh _ hx)<|hS (kE _ p) _;have b4:=y.10 _<|ma o cu;have x4:=x2;rw [ed,yX] at x4;have A:=aag (free:=fr) W.1.J W.1.kS (g.e rn) G nl rd;revert x4 b4 A;generalize cW fK (l.map (·.2))=y2;intro b4 x4 A;have E:(eH++cW f9 o).length<=_:=vT (dC 1) b1;have U:(eH++cW f9 o++zU).length<=_:=vT E<|dC 3;have t3:(eH++cW f9 o++zU++y2).length<=_:=vT U b4;have r4:=ar2<|oT i;have r3:=aH (fz _ 1) r4;have r2:=aH (fz _ _) r3;have r1:=aH (fz _ 3) r2;refine bz<|og<|og<|og<|og<|aX .e<|yA .e .u<|bx<|x5 (.J rfl) .e (bH rfl) sl λa Y=>⟨_,_, .u aQ (yu o)<|aH b2<|aH (aH (jC (dR 1) _) r1) J,_, .z<|vS (dC 1) b1 r1 J,aX .e ⟨_, .z<|vS E (dC 3) r2 J,aX (v:= .z y2) (.ak (.J rfl) (bH rfl)<|.u (j:=o.length) (dh Y x4) ?_ ?_) ⟨_, .z<|vS U b4 r3 J,aX .e ⟨_, .z<|vS t3 (dC 1) r4 J,?_⟩⟩⟩⟩
  ·rw [bI,bB];exact aaQ<|eX p (by decide)
  ·rw [<-bB (f:=V.z),List.getElem?_concat_length]
  ·refine bj (CP:=CP<|n+2*i+6) (Ae (.J rfl) (dh Y t2)<|Lc (dh Y t2) λC=>?_);rw [Fh];refine Lf (t:=AX (ew B) r) K (X.aT<|.aT Y) (F2.u<|Fr.U (S:=[]) (.aT Y) rfl) ⟨A,?_,λu e=>?_,y.7,?_,(aH y.12<|hS oc _)⟩ (λh=>?_) λh=>EA<|hb1 h
   ·exact aH (vT t3<|dC 1) r4
   ·cases h:bd with
    | true=>replace e:=(EA<|hb1 h)▸e;exact a9 e
    | false=>
     refine au (hb2 h) λl1 z q=>fV (EB q) λp w O I h5 h6=>?_;rw [h5,I] at e;injection e with e;have:=Ld (m:=oD i+14) (u:=w) (y.11 (aa w) (ae I<|ma _ cu) w rfl) (l:=p) λt M=>y.11 (aa t) (ae O<|lh _<|oI M) t rfl;have ll:p.length=B.length:=by rw [O,bB]
     exact ae e.symm<|aH this (by skip;exact bJ (.I (.a (.a (.a (.n 5)<|.m 20<|.v 0)<|.n 14)<|.m 2<|.v 1)<|.a (.n 5)<|.m 20<|.a (.v 0)<|.n 1) ⟨2,ai, .u (.v 1)<|.v 2⟩ ⟨2,ai, .I (.a (.v 2)<|.n 1)<|.n 3⟩ rfl [] [_,_,_] ll h3)
   ·cases h:bd with| true=>exact ae (EA<|hb1 h) trivial| false=>exact au (hb2 h) λl1 z q=>fV (EB q) λp w O I h5 h6=>ae h5<|ae I<|(pq y.6.3 w p).2 ((qD b p).mpr λt M=>y.9 (aa t)<|ae O<|lh _<|oI M)<|y.9 (aa w)<|ae I<|ma _ cu
   ·refine au (hb2 h) λl1 z q=>fV (EB q) λp w O I h5 h6=>⟨jr p w,by refine ae h5<|ae I ?_;rfl,?_⟩;rw [(pq y.6.3 w p).1,O,I,Ez];rfl
 ·replace c2:=h▸c2;exact bC c2
 ·replace c:=h▸c;exact bC c
end
section
variable {CP:Nat->Nat->List V->EP->QV->HP->Prop} (L:bX CP) {Z:LZ} (W:Z.a)
include L W
theorem aaS(G:sI CP Z i)(hj:i+1<=2){st fr:Bool}(F:Fr jw H0 H)(s:LS H Z b v bud)(K:uh Z (i+1) fr b v H0 P.a)(ho:v.e.length+24*oU i<=900000){r:Nat}(B:r=4\/r=5):
 aw (CP<|n+2*i+6) (jx 6 jo) (kB Z (i+1) st fr [aa<|.x r,ag,ag,ag,ag,ag,ag,ag,ag,ag,ag,ag,ag,ag]) P H:=by
 refine bz<|fv (vs:=[]) .I λtl f=>bz<|fv (vs:=[]) .I λxl nx=>?_
 have y:AS H ((H.J tl<|.u 57 []).J xl<|.u 58 []) Z i b b v v bud tl xl [] []:=
  ⟨(Fr.aT f).u (.aT nx),f,by
   cases h:H xl with
   | none=>rfl
   | some c=>exact absurd (dh (d:= .u 57 []) f h) (by rw [nx];exactλe=>a9 e),dh nx aQ,aQ,(s.aT (.aT f)).aT (.aT nx), .I _, .I,λz h=>((dz h).elim),λz h=>((dz h).elim),λz h=>((dz h).elim),fz _ _,rfl⟩
 revert y;generalize (H.J tl<|.u 57 []).J xl (.u 58 [])=S;intro y;refine Ew<|og<|aX .e<|bV (vs:=[.d Z.p, .x 3]) (aC rfl)<|iM L y.6.1 (by decide) λR q j I A=>(aM (.ah<|.x<|1+q) (.x .J) ⟨1+q,rfl,by skip;exact⟨cP (.U (.g<|.n 1000000)<|.a (.n 1)<|.c<|.v 0) rfl [_] [],aD (.U (.a (.n 1)<|.c<|.v 0)<|.n 1000000) (.U (.c<|.v 0)<|.n 3) rfl [] [_] j⟩,aaF L W G hj ho (items:=eQ 0<|1+(q:Int)) (k:=aa<|.x r) (z9:=ag) (z10:=ag) (z11:=ag) (z12:=ag) (z15:=ag) (zs:=[ag,ag,ag,ag,ag,ag]) rfl (y.e I A) (by rw [yB,rC];exact bJ (.I (.a (.n 0)<|.v 0)<|.n 3) (.Eq (.c<|.v 0)<|.a (.n 1)<|.c<|.v 1) (.U (.c<|.v 1)<|.n 3) rfl [] [_,_] (kD<|cP (.Le (.n 0)<|.a (.n 1)<|.c<|.v 0) rfl [_] []) j) λQ N M p ts xs z11 z15 m g=>?_⟩);rw [yB,rC] at g;have h0:ts≠[]:=λe=>by rw [e,rC] at g;exact bJ .a (.J (.c<|.v 0)<|.a (.n 1)<|.c<|.v 1) (.qe (.n 0)<|.a (.n 0)<|.v 0) rfl [] [_,_] (kD<|cP (.Le (.n 0)<|.a (.n 1)<|.c<|.v 0) rfl [_] []) g
 have h3:ts.length<=3:=by exact oM (.I (.v 0)<|.n 3) (.u (.v 0)<|.a (.n 0)<|.v 1) (.Eq (.c<|.v 1)<|.a (.n 1)<|.c<|.v 2) (.U (.c<|.v 2)<|.n 3) rfl [] [_,_,_] g (kD<|cP (.Le (.n 0)<|.a (.n 1)<|.c<|.v 0) rfl [_] []) j
 have u:uh Z (i+1) fr b v H P.a:=λD t x C v' a o J w=>K D t x C v' a o (F.u J) w;refine bz<|aaL m.4 (aH h3<|by decide) rfl (show 21<22 by decide) λO bd E hb1 hb2=>?_;have l:=m.aT E;rcases B with rfl | rfl
 ·exact cY (.ah (.U (.J rfl) .e cR) .e)<|aaM (P:={P with nx:=λρ H=>aw (CP<|n+2*i+6) (ck 5<|jx 6 jo) ρ P H}) L W hj (zs:=[ag,ag,ag,ag]) u h0 h3 hb1 hb2 l
 ·exact cz (.ah (.U (.J rfl) .e cR) .e)<|aaP L W hj u h0 h3 hb1 hb2 l
omit L W in
theorem LS.I{H:HP}{b:Bk}{v:VS}{bud:Int}(s:LS H Z b v bud)(x:Int):LS (H.J Z.S.s<|.u 74 [.d Z.S.n, .d Z.S.o, .x v.nx, .x x]) Z b v x:=
 have F:Fr [74] H (H.J Z.S.s<|.u 74 [.d Z.S.n, .d Z.S.o, .x v.nx, .x x]):= .J s.6.1 rfl
 ⟨s.1.J F rfl,s.2.J F rfl,s.3,s.4.J F rfl,F _ _ s.5 rfl,⟨aQ,F _ _ s.6.2 rfl,F _ _ s.6.3 rfl,s.6.4⟩,s.7,λy a=>have h:=s.8 y a;⟨F _ _ h.1<|ae h.2.1 rfl,h.2⟩⟩
theorem Lg{j:Nat}(hj:j<=2)(G:∀i,j=i+1->sI CP Z i):yz CP Z j:=λ{n E Q H b v bud st fr} s ho R K=>by
 have p:fh H (.d Z.S.s) (.x 3) (.x bud):= .u s.6.1 (j:=3) rfl rfl;refine L.1 (n:=9478) rfl rfl<|Ef (.J rfl) .e p .e (.x .ak) (.u s.6.1 (j:=3) (by decide) rfl) ?_;have l:=s.I<|bud - 1;have w:Fr jw H (H.J Z.S.s<|.u 74 [.d Z.S.n, .d Z.S.o, .x v.nx, .x<|bud - 1]):= .J s.6.1 rfl;refine(?_:aw (CP<|n+2*j+4) (ck 1 jo) _ _ (H.J Z.S.s<|.u 74 [.d Z.S.n, .d Z.S.o, .x v.nx, .x<|bud - 1]));revert l w;generalize H.J Z.S.s (.u 74 [.d Z.S.n, .d Z.S.o, .x v.nx, .x<|bud - 1])=u;intro l w;have p:fh u (.d Z.S.s) (.x 3) (.x<|bud - 1):= .u l.6.1 (j:=3) rfl rfl
 have bd:∃m:Int,Ev u (kB Z j st fr [ag,ag,ag,ag,ag,ag,ag,ag,ag,ag,ag,ag,ag,ag]) (.d (.aB<|.u (.ah<|.U (.J 5) .Lt<|.e<|.x 2)<|.u (.ah<|.U (.ak (.J 4)<|.e<|.x 3) .Gt<|.e<|.x 0) .I) (.e<|.x 10)<|.e<|.x 3) (.x m)/\0<m/\m<=10/\(j=0->m=3):=by
  have o:fE u (kB Z j st fr [ag,ag,ag,ag,ag,ag,ag,ag,ag,ag,ag,ag,ag,ag]) (.aB<|.u (.ah<|.U (.J 5) .Lt<|.e<|.x 2)<|.u (.ah<|.U (.ak (.J 4)<|.e<|.x 3) .Gt<|.e<|.x 0) .I) _:= .aB<|.lS (.ah (.U (.J rfl) .e .e) .e)<|.lS (.ah (.U (.ak (.J rfl) .e p) .e .j) .e) .gm;revert o;generalize S:(dS ((2 - (j:Int))<2)&&(dS (bud - 1>0)&&af))=c;intro o;induction c with
  | true=>exact⟨10, .lT o .e,by decide,by decide,λh=>by subst h;exact bw S⟩| false=>exact(iQ 3 (.n8 o .e) (by decide) (by decide) λz=>rfl)
 refine ji bd λm T N m2 M=>?_;clear bd;refine bz<|bV (vs:=[.d Z.p, .x m]) (.u (.J rfl)<|.u T .I)<|iM L l.1 N λA r O B C=>?_;have f:=l.e B C;have F:=w.u<|B.U rfl;have Y:=(oy hj).2.1;have y:∀{P:bA} {x:SL} {ρ:aA},3<=r->(∀i,j=i+1->sI CP Z i->aw (CP<|n+2*j+4) x ρ P A)->aw (CP<|n+2*j+4) x ρ P A:=λh q=>by induction j with| zero=>exact absurd (uA O<|A7<|M rfl) λz=>EK h<|j3.mp z| succ i=>exact q i rfl<|G i rfl
 have d:∀{c:Nat},((r:Int)==(c:Int))=af->r=c:=λh=>wy<|rE h;refine gF (.ah (.U (.J rfl) .e cR) .e) (λz=>by refine aau L W hj F f ?_;exact K) λX=>?_;refine gF (.ah (.U (.J rfl) .e cR) .e) (λz=>aaz L W hj F f R K) λV=>gF (.ah (.U (.J rfl) .e cR) .e) (λz=>by refine aay L hj F f ?_<|aH (fz _ _) ho;exact K) λU=>?_
 have h3:3<=r:=by
  have J:r≠0:=λe=>by subst e;exact bC X
  have I:r≠1:=λe=>by subst e;exact bC V
  have D:r≠2:=λe=>by subst e;exact bC U
  exact(iP I).elim (λk=>(iP J).elim (λa=>aD (.I (.n 3)<|.v 0) ⟨3,ai, .e (.v 0)<|.n 0⟩ rfl [] [_] a) λa=>bJ (.I (.n 3)<|.v 0) ⟨3,ai, .e (.n 0)<|.v 0⟩ ⟨2,ai, .e (.v 0)<|.n 1⟩ rfl [] [_] a k) λk=>(iP D).elim (λa=>bJ (.I (.n 3)<|.v 0) ⟨2,ai, .e (.n 1)<|.v 0⟩ (.e (.v 0)<|.n 2) rfl [] [_] k a) λa=>aD (.I (.n 3)<|.v 0) (.e (.n 2)<|.v 0) rfl [] [_] a
 refine gF (.cQ<|.su (.ah (.U (.J rfl) .e cR) .e)<|.su (.ah (.U (.J rfl) .e cR) .e) .gm) (λc=>y h3 λi hi g=>?_) λz=>?_
 ·subst hi;have t:r=3\/r=6:=by rw [sY,Bh] at c;exact c.imp d d
  refine aaE (n:=n) L W g f hj F ?_ (aH (hS (kE _<|by decide) _) ho) t (zs:=[ag,ag,ag,ag,ag,ag,ag,ag,ag]) rfl;exact K
 refine gF (.cQ<|.su (.ah (.U (.J rfl) .e cR) .e)<|.su (.ah (.U (.J rfl) .e cR) .e) .gm) (λc=>y h3 λi hi g=>?_) λz=>?_
 ·subst hi;have t:r=4\/r=5:=by rw [sY,Bh] at c;exact c.imp d d
  refine aaS L W (n:=n) g hj F f ?_ ho t;exact K
 refine gF (.ah (.U (.J rfl) .e cR) .e) (λz=>by refine aax hj F f ?_;exact K) λz=>?_;refine gF (.ah (.U (.J rfl) .e cR) .e) (λz=>by refine aaw hj F f ?_;exact K) λz=>?_;refine aav hj F f ?_;exact K
theorem aaR(j:Nat):j<=2->sI CP Z j:=by induction j with| zero=>exactλh=>K4 L W (Lg L W h λz e=>nomatch e) h| succ j ih=>exactλh=>K4 L W (Lg L W h λi e=>ach e▸ih (mh h)) h
end
theorem ED{k a:Bk}(h:k.I a){l:List (Str×ct)}(n:∀x∈l,x.1∈k.U):ju a l=ju k l:=pV λx b=>ae (i8 h<|n x b) rfl
theorem fN.iS{H:HP}{O:OA}{b:Nat}{k c:Bk}{T:bS}(x:fN H O b k T)(h:k.I c):fN H O b c T:=
 ⟨x.1,by refine ae (ED h x.5) ?_;exact x.2,by refine ae (ED h x.6) ?_;exact x.3,by refine ae (ED h x.7) ?_;exact x.4,λy a=>h.1.subset<|x.5 y a,λy a=>h.1.subset<|x.6 y a,λy a=>h.1.subset<|x.7 y a⟩
theorem aaT{k:Bk}{l:List (Str×ct)}{s:Str}{e:ct}(m:s∈k.U)(n:∀x∈l,x.1∈k.U)(a:bK l s=ag):gJ (ju k l) (k.e s:Int) (eV e)=ju k (l++[(s,e)]):=by unfold gJ;exact ae (ye (.I k) m n)<|ae a<|(ed (f:=λx:Str×ct=>((k.e x.1:Int),eV x.2)) (l₁:=l) (l₂:=[(s,e)])).symm
inductive yC(O:OA)(tys:List Str)(mk:List (Str×ct)->bS)(d g:Nat):Prop
 | mk (at_:∀{H b k l},fN H O b k (mk l)->H d=aa (.e g (ju k l))/\∀x∈l,x.1∈k.U)
  (put:∀{H b k l s e},fN H O b k (mk l)->s∈k.U->fN (H.J d (.e g (ju k (l++[(s,e)])))) O b k (mk (l++[(s,e)])))
  (ty:∀s∈tys,(yf.contains s=af\/qG.contains s=af\/qF.contains s=af)/\d=if qG.contains s then O.p else if qF.contains s then O.i else O.q)
  (g:[9,10,11].contains g=af)
theorem EC{k:Bk}{l:List (Str×ct)}{s:Str}{e:ct}(n:∀x∈l,x.1∈k.U)(m:s∈k.U):∀x∈l++[(s,e)],x.1∈k.U:=λx a=>(fG.mp a).elim (n x) λh=>ae (d5.mp h) m
theorem aaU{O:OA}{I J:List (Str×ct)}:yC O pG (λl=>⟨l,I,J⟩) O.p 9:= .mk
 (λx=>⟨x.2,x.5⟩)
 (λx m=>⟨cH x.2 x.1 rfl,aQ,cH x.2 x.3 rfl,cH x.2 x.4 rfl,EC x.5 m,x.6,x.7⟩)
 (λs h=>rF h ⟨.inr<|.inl rfl,rfl⟩ ⟨.inr<|.inl rfl,rfl⟩)
 rfl
theorem Lj{O:OA}{I J:List (Str×ct)}:yC O ou (λl=>⟨I,l,J⟩) O.i 10:= .mk
 (λx=>⟨x.3,x.6⟩)
 (λx m=>⟨cH x.3 x.1 rfl,cH x.3 x.2 rfl,aQ,cH x.3 x.4 rfl,x.5,EC x.6 m,x.7⟩)
 (λs h=>sZ h ⟨.inr<|.inr rfl,rfl⟩ ⟨.inr<|.inr rfl,rfl⟩ ⟨.inr<|.inr rfl,rfl⟩)
 rfl
theorem aaV{O:OA}{I J:List (Str×ct)}:yC O pF (λl=>⟨I,J,l⟩) O.q 11:= .mk
 (λx=>⟨x.4,x.7⟩)
 (λx m=>⟨cH x.4 x.1 rfl,cH x.4 x.2 rfl,cH x.4 x.3 rfl,aQ,x.5,x.6,EC x.7 m⟩)
 (λs h=>rF h ⟨.inl rfl,rfl⟩ ⟨.inl rfl,rfl⟩)
 rfl
noncomputable def sM(sc p:Nat)(A:BA)(D:TA)(o:Nat)(z:List (Option V)):aA:=[aa<|.d sc,aa<|.d p,aa<|.d A.b,aa<|.U [.d D.p, .d D.i, .d D.q],aa<|.d o]++z
noncomputable def AZ:List Nat:=[1,2,3,4,9,10,11]
section
variable {CP:Nat->Nat->List V->EP->QV->HP->Prop} (L:bX CP) {k sc p:Nat} {A:BA} {D:TA} {O:OA} {P:bA} {zs:List (Option V)} {z5:Option V}
include L
theorem Lh(S:yC O c f d g)(bk:cJ H A b)(X:fN H O A.b b (f l))(z:s∈cy)(hp:1<=e.1)(y:e.2∈c)(hl:l.length<=10)
 (i:s∈(b.J s).U->(∀x∈l,x.1∈(b.J s).U)->gJ (ju (b.J s) l) ((b.J s).e s:Int) (eV e)=ju (b.J s) l'/\∀{H},fN H O A.b (b.J s) (f l)->fN (H.J d<|.e g<|ju (b.J s) l') O A.b (b.J s) (f l'))
 (q:∀h,Fr AZ H h->cJ h A (b.J s)->fN h O A.b (b.J s) (f l')->P.nx (sM sc p A D O.o<|z5::aa (.z s)::aa (eV e)::zs) h):aw (CP<|k+3) Dp (sM sc p A D O.o<|z5::aa (.z s)::aa (eV e)::zs) P H:=by
 refine ay (S.3 _ y) λu hd=>dB<|jL (.J rfl) X.1<|bx<|aX (v:= .x e.1) (.ak (a:=eV e) (.J rfl) .e<|.U rfl rfl)<|bx<|aX (v:= .z e.2) (.ak (a:=eV e) (.J rfl) .e<|.U rfl rfl)<|bx<|a7 (.J rfl) bk.1 (vs:=[.z s]) (aC rfl)<|qC L bk z λn r k1=>cF (vs:=[]) .I ?_;have j:=(X.iS<|b.lV s).J r rfl;refine ay (S.1 j) λm w=>ay (i (b.pn s) w) λC t=>JN L j.1 u hd m (by delta ju;rw [bB];exact eX hl<|by decide) (uA (by decide) hp)<|ae C ?_;have B:=S.4;have o:Fr [g] n (n.J d<|.e g<|ju (b.J s) l'):= .J m (by refine(?_:[g].contains g=af);simp);refine bj (CP:=CP<|k+3)<|q _ ((r.U rfl).u<|o.U ?_) (k1.J o ?_)<|t j
 all_goals
  exact sZ (rB.mp B) rfl rfl rfl
theorem EE(S:yC O j u d g){a B:Nat}{all:List (Str×V)}(z:AZ.contains B=ai):∀{m l:List (Str×ct)} {H:HP} {b:Bk} {i c:Option V},H a=aa (.a B all)->cJ H A b->fN H O A.b b (u l)->(∀x∈m,x.1∈cy/\1<=x.2.1/\x.2.2∈j)->((l++m).map (·.1)).Nodup->(l++m).length<=10->
 (∀r C i c,Fr AZ H r->cJ r A C->b.I C->fN r O A.b C (u<|l++m)->P.nx (sM sc p A D O.o<|z5::i::c::zs) r)->
 dF (CP<|k+3) (.U [6,7]) Dp P (.u a<|.a B all) ((iy m).map λe=> .U [.z e.1,e.2]) (sM sc p A D O.o<|z5::i::c::zs) H:=by
 intro m;induction m with
 | nil=>exactλ{l H b i c} o bk X _ _ _ q=>ik o<|q H b i c .I bk (.I _) (by rw [jh];exact X)
 | cons x m ih=>
  intro l H b i c o bk X E t hl q;have w:=E x cu;have J:bK l x.1=none:=by cases h:bK l x.1 with| none=>rfl| some e=>rw [ed,gX,BD] at t;exact absurd rfl<|t.2.2 x.1 (oI (f:=(·.1))<|qN (n:=e) h) x.1 cu
  rw [bI,dK] at hl;refine xW o rfl<|Lh L S (l:=l) (l':=l++[x]) (s:=x.1) (e:=x.2) (zs:=zs) (z5:=z5) bk X w.1 w.2.1 w.2.2 (aD (.I (.v 0)<|.n 10) (.I (.a (.v 0)<|.a (.v 1)<|.n 1)<|.n 10) rfl [] [_,_] hl) (λF M=>⟨aaT F M J,λX=>S.2 X F⟩) λU I k1 Q=>ih (l:=l++[x]) (I _ _ o z) k1 Q (λy K=>E y<|df _ K) (by rw [cv];exact t) (ae bI<|ae bI<|ae gY<|aD (.I (.a (.a (.v 0)<|.n 1)<|.v 1)<|.n 10) (.I (.a (.v 0)<|.a (.v 1)<|.n 1)<|.n 10) rfl [] [_,_] hl) λR N i c T k2 v G=>q R N i c (I.u T) k2 ((b.lV _).u v) (by rw [cv] at G;exact G)
end
theorem aaY{H:HP}{a:Nat}{c:cb}(h:H a=aa c):H.J a c=H:=funext λb=>by
 unfold HP.J;split
 ·rename_i e;exact ae e<|ae h rfl
 ·rfl
theorem aaW:∀s∈dj,s∈cy:=by decide+kernel
section
variable {CP:Nat->Nat->List V->EP->QV->HP->Prop} (L:bX CP) {k sc p:Nat} {A:BA} {D:TA} {T:bS} {O:OA} {P:bA} {zs:List (Option V)} {H:HP} {b:Bk}
include L
theorem aaX(Y:jc H D T)(g:TG af dj T)(z:uc 8 T)(bk:cJ H A b)(b0:fU.I b)(X:fN H O A.b b ⟨[],[(bZ,1000,fq)],[]⟩){z5 z6 z7:Option V}
 (q:∀j w z5 z6 z7,Fr AZ H j->cJ j A w->b.I w->fN j O A.b w T->P.nx (sM sc p A D O.o<|z5::z6::z7::zs) j):
 dF (CP<|k+3) (.J 5) Dm P .b [.d D.p, .d D.i, .d D.q] (sM sc p A D O.o<|z5::z6::z7::zs) H:=by
 refine au g.2 λr v N=>?_;have a:∀{d c:List Str} {x:Str×ct},d=dj->jX d c x->x.1∈cy/\1<=x.2.1/\x.2.2∈c:=λhd h=>⟨aaW _<|hd▸h.1,h.2.1,h.2.2.2⟩;refine i7 trivial<|DC (.J rfl) Y.1<|EE L (aaU (O:=O)) (l:=[]) (z5:=aa<|.d D.p) rfl Y.1 bk X (λx f=>a rfl<|g.1 x f) g.4 (aH z.1<|by decide) λH1 b1 z6 z7 K k1 u Z=>bj (CP:=CP<|k+3) ?_;have S:=Y.J K rfl;have i:=S.2;refine i7 trivial<|DC (.J rfl) i<|ae v ?_;have B:=z.2.1;have C:=g.5;rw [v] at B C i;refine xW i rfl<|Lh L (Lj (O:=O) (I:=T.bp) (J:=[])) (l:=[(bZ,1000,fq)]) (l':=[(bZ,1000,fq)]) (s:=bZ) (e:=(1000,fq)) (z5:=aa<|.d D.i) k1 Z (by decide+kernel) (by decide) (.tail _<|.head _) (by decide) (λh1 h2=>⟨?_,λ{H} X=>ae (aaY X.3) X⟩) λH2 G k2 W=>?_
 ·delta gJ dA ju;rw [yX,gV,beq_self_eq_true];skip;exact ae (if_pos rfl)<|ae yX<|ae (if_pos rfl) rfl
 refine EE L (Lj (O:=O)) (l:=[(bZ,1000,fq)]) (zs:=zs) (z5:=aa<|.d D.i) rfl (G _ _ i rfl) k2 W (λx f=>?_) C (aH B<|by decide) λH3 R z6 z7 F3 k3 o y=>bj (CP:=CP<|k+3) ?_
 ·(refine cO (N x f) (λm=>?tl) λh=>?tr;case' tl=>obtain⟨_,rfl⟩:=m)
  ·exact⟨by decide+kernel,by decide, .tail _<|.head _⟩
  ·exact a rfl h
 have y:fN H3 O A.b R ⟨T.bp,T.aZ,[]⟩:=by exact ae v y
 have F:=K.u<|G.u F3;have E:=Y.J F rfl;exact i7 trivial<|DC (.J rfl) E.3<|EE L (aaV (O:=O) (I:=T.bp) (J:=T.aZ)) (l:=[]) (z5:=aa<|.d D.q) rfl E.3 k3 y (λx f=>a rfl<|g.3 x f) g.6 (aH z.2.2<|by decide) λH4 Q z6 z7 F4 M n U=>bj (CP:=CP<|k+3)<|ik (CP:=CP<|k+3) (t:= .J 5) (b:=Dm) trivial<|q H4 Q _ z6 z7 (F.u F4) M (u.u<|(Bk.lV _ _).u<|o.u n) U
end
end
section
open PySem
variable {CP:Nat->Nat->List V->EP->QV->HP->Prop} (L:bX CP) {k:Nat} {E:EP} {Q:QV} {H:HP}
theorem Lk(h:lR c=af):c<128:=eX (of_decide_eq_true (oz.mp h).2) (by decide)
theorem EF(h:iK c=af):c<128:=
 (wd.mp h).elim (λh=>(wd.mp h).elim (λh=>(wd.mp h).elim Lk (λh=>eX (of_decide_eq_true (oz.mp h).2) (by decide)))
  (λh=>eX (of_decide_eq_true (oz.mp h).2) (by decide))) λh=>ae (beq_iff_eq.mp h) (by decide)
theorem Ll(h:ij c=af):c<128:=by
 have:∀c∈[43,45,42,47,92,94,60,62,61,126,58,46,63,64,35,38,36],c<128:=by decide
 exact this c<|rB.mp h
theorem aa2(h:tY c=af):c<128:=by
 have:∀c∈[41,91,93,123,125,44,124],c<128:=by decide
 exact this c<|rB.mp h
inductive aaZ(tok:aE)(p:List Nat):Prop
 | mk (lt:∀c∈p,c<128)
  (n:1<=p.length)
  (fin:tok≠ .I)
  (u:∀s,dP tok s->s∈cy)
theorem A0(hf:∀{c},f c=af->c<128)(h:c<128)(b:w.all f=af):∀x∈c::w,x<128:=λx a=>(dH.mp a).elim (λe=>e▸h) λa=>hf<|dT.mp b x a
theorem aa1(O:n6 b r tok r1):∃p,r=p++r1/\aaZ tok p:=by
 induction O with
 | @e c w _ k j n m=>exact⟨c::w,rfl,A0 EF (Lk k) j,jP<|dR _,λe=>(nomatch e),λs h=>by cases h;exact m⟩| @d c w _ k j n=>exact⟨c::w,rfl,A0 EF (EF<|by unfold iK;refine cO k (λh=>?_) λh=>?_;refine ae h ?_;simp;refine ae h ?_;simp) j,jP<|dR _,λe=>(nomatch e),λs h=>nomatch h⟩| @f c w _ k q j n m=>exact⟨c::w,rfl,A0 Ll (Ll k) j,jP<|dR _,λe=>(nomatch e),λs h=>by cases h;exact m⟩| @x c w _ k j h0 hl n=>exact⟨c::w,rfl,A0 (λh=>jg (xU h)<|by decide) (jg (xU k)<|by decide) j,jP<|dR _,λe=>(nomatch e),λs h=>nomatch h⟩
 | @g w _ j n m=>
  refine(aM (39::(w++[39])) (by rw [jB,cv];rfl) ⟨λx i=>?_,jP<|dR _,λe=>(nomatch e),λs h=>by cases h;exact m⟩)
  (refine cO (dH.mp i) (λo=>?tl) λi=>?tr;case' tl=>obtain rfl:=o)
  ·decide
  ·refine cO (fG.mp i) (λi=>?_) (λi=>?_)
   ·have:=dT.mp j x i;simp only [eJ,decide_eq_true_eq] at this;exact aD (.e (.v 0)<|.n 128) (.I (.v 0)<|.n 126) rfl [] [_] this.1.1.2
   ·refine ae (d5.mp i) ?_;decide
 | z n=>exact⟨[34,97,34,34,34],rfl,by decide,by decide,λe=>(nomatch e),λs h=>nomatch h⟩| l=>exact⟨[40],rfl,by decide,by decide,λe=>(by induction b<;>cases e),λs h=>(by induction b<;>cases h)⟩| @a c _ k=>exact(aM ([c]) rfl ⟨λx i=>d5.mp i▸aa2 k,dC _,λe=>(nomatch e),λs h=>nomatch h⟩)
theorem Lx.p(X:Lx b r toks b' r'):∃p,r=p++r'/\(∀c∈p,c<128)/\toks.length<=p.length/\∀t∈toks,t≠ .I/\∀s,dP t s->s∈cy:=by induction X with| I=>exact⟨[],rfl,λz h=>((dz h).elim),dC _,λz h=>(dz h).elim⟩| @a b c r tk b' r' h _ i=>refine ji i λp zz h1 h2 h3=>?_;clear i;obtain rfl:=zz;exact⟨c::p,rfl,λx hx=>(dH.mp hx).elim (λe=>by refine ae e ?_;rcases h with rfl | rfl<;>decide)<|h1 x,dM h2,h3⟩| J O _ i=>refine ji i λp zz h1 h2 h3=>?_;clear i;obtain rfl:=zz;refine au (aa1 O) λp' zz o=>?_;obtain rfl:=zz;refine(iQ (p'++p) ((cv ..).symm) (λx hx=>(fG.mp hx).elim (o.1 x)<|h1 x) ?_ λt ht=>(dH.mp ht).elim (λe=>e▸⟨o.3,o.4⟩)<|h3 t);rw [dK,bI,pN];exact Ft o.2 h2
theorem lY.J{cs:List Nat}{a l a' tok p a''}(S:lY cs a l a')(N:D0 cs a' tok p a''):lY cs a (l++[(tok,p)]) a'':=by induction S with| I=>exact .u N .I| u h _ i=>exact .u h<|i N
theorem aa0{cs rest d:List Nat}{a:Nat}{s:Str}{f:Bool->List aE}(h:ez s f)(hd:cs.drop a=d++(co s++32::46::10::rest))(hl:∀c∈d,c=32\/c=10)(i:a+d.length>a\/a+d.length=0):
 ∃m g a',lY cs a (m++[(.I,g)]) a'/\m.map (·.1)=f af/\cs.drop a'=10::rest/\a<a':=by
 have X:=(h af (32::46::10::rest)<|xT _).u<|.a (.inl rfl) .I;rw [jh] at X;refine FD (XW X hd hl ⟨λz=>i,λz=>rfl⟩) λm a' b S o e n l=>(y0 m (a'+b.length) _ (S.J ⟨b,af,_,_,e,n, .I,rfl,l,rfl⟩) o ?_ ?_)
 ·exact ae (show a'+b.length+((46::10::rest).length - (10::rest).length)=a'+(b.length+1) by rw [dK (a:=46),Fm];rfl)<|ae pY.symm<|ae e<|ae pY.symm<|ae (BG rfl) rfl
 ·have:cs.length - a=d.length+((co s).length+(rest.length+3)):=by exact ae lg.symm<|ae hd<|ae bI<|ae bI rfl
  have j:cs.length - a'=b.length+(rest.length+2):=by exact ae lg.symm<|ae e<|ae bI rfl
  rw [dK (a:=46),Fm];exact bJ (.e (.v 0)<|.a (.a (.v 1)<|.v 2)<|.n 1) (.qe (.v 3)<|.a (.v 0)<|.a (.a (.v 4)<|.a (.v 5)<|.a (.v 6)<|.n 2)<|.n 1) (.u (.v 3)<|.a (.v 1)<|.a (.a (.v 2)<|.a (.v 6)<|.n 1)<|.n 1) rfl [] [_,_,_,_,_,_,_] (BQ (k:=d.length+((co s).length+(rest.length+2))) this)<|BQ (k:=b.length+(rest.length+1)) j
noncomputable abbrev Cz:Type:=(List<|aO×Str)×VS×(Option Tm)×Nat×Nat
noncomputable abbrev Cz.l(x:Cz):List (aO×Str):=x.1
noncomputable abbrev Cz.v(x:Cz):VS:=x.2.1
noncomputable abbrev Cz.r(x:Cz):Option Tm:=x.2.2.1
noncomputable abbrev Cz.e(x:Cz):Nat:=x.2.2.2.1
noncomputable abbrev Cz.u(x:Cz):Nat:=x.2.2.2.2
noncomputable def EH:VS:=⟨[],[],0⟩
inductive Cz.a(T:bS)(b:Bk)(c:Cz):Prop
 | mk (g:∃fr',ig (bf T) af af c.l EH c.v fr')
  (n:c.l≠[])
  (rd:Rd (bf T) 1200 (c.l.map (·.1)) c.r)
  (i:iu b c.r)
  (dep:∀t,c.r=aa t->fO t<=59)
  (nm:∀x∈c.v.J,t9 x.1)
  (len:c.v.J.length<=900000)
noncomputable def hE(b:Bk)(c:Cz):V:=match c.r with
 | none=> .f| some t=> .U [tv b t, .d c.e, .d c.u]
noncomputable def pM(c:Cz):Str:=cW fK (c.l.map (·.2))++vp
noncomputable def vU(c:Cz):cb:= .u 76<|c.v.J.map λx=> .U [.z x.1, .x x.2]
noncomputable def EG(c:Cz):cb:= .u 78<|qR c.v
inductive WS(H:HP)(Z:LZ)(O:OA)(b:Bk)(du:Nat)(cl:List Cz)(x:Str):Prop
 | mk (p:eI H Z.p)
  (bk:cJ H Z.A b)
  (b0:fU.I b)
  (t:jc H Z.D Z.T)
  (w:H Z.I=aa (.u 69 (Z.J.map λ(n:Nat)=>V.x n)))
  (o:fN H O Z.A.b b Z.T)
  (d:H du=aa (.u 73 (cl.map (hE b))))
  (c:∀c∈cl,c.a Z.T b)
  (cn:∀c∈cl,H c.e=aa (vU c))
  (cs:∀c∈cl,H c.u=aa (EG c))
  (tx:co x=(cl.map λc=>co (pM c)).flatten)
  (l:x.length<=cl.length*300000)
theorem Cz.a.I{T:bS}{b a:Bk}{c:Cz}(h:c.a T b)(d:b.I a):c.a T a/\hE a c=hE b c:=by
 have:=qL d h.4;refine⟨⟨h.1,h.2,h.3,this.2,h.5,h.6,h.7⟩,?_⟩;have i:=h.4;delta hE;revert i;cases c.r with
 | none=>exactλz=>rfl| some t=>exactλi=>((ae ((kW d t i).2) rfl):V.U [tv a t,_,_]=V.U [tv b t,_,_])
theorem WS.u{H d:HP}{Z:LZ}{O:OA}{b g:Bk}{du:Nat}{cl:List Cz}{x:Str}{C:List Nat}(y:WS H Z O b du cl x)(F:Fr C H d)(p:eI d Z.p)(bk:cJ d Z.A g)(e:b.I g)(s:[33,34,35,69,1558,9,10,11,73,78].all (λn=>!C.contains n)=af)(k:∀c∈cl,d c.e=aa (vU c)):WS d Z O g du cl x:=by
 have s:∀n∈[33,34,35,69,1558,9,10,11,73,78],C.contains n=false:=λn f=>gE<|dT.mp s n f;have sub:∀{l:List Nat},(∀n∈l,n∈[33,34,35,69,1558,9,10,11,73,78])->l.all (λn=>!C.contains n)=true:=λhl=>dT.mpr λn f=>by refine ae (s n<|hl n f) ?_;rfl
 exact⟨p,bk,y.3.u e,y.4.J F<|sub (by decide),F _ _ y.5<|s 69 (by decide),(y.6.J F<|sub<|by decide).iS e,by refine ae (pV λc a=>((y.8 c a).I e).2) ?_;exact F _ _ y.7<|s 73 (by decide),λc a=>((y.8 c a).I e).1,k,λc a=>F _ _ (y.10 c a)<|s 78 (by decide),y.11,y.12⟩
theorem WS.aT(y:WS H Z O b du cl x)(F:Fr [] H a):WS a Z O b du cl x:=y.u F (y.1.J F rfl) (y.2.J F rfl) (.I _) rfl λc d=>F _ _ (y.9 c d) rfl
theorem WS.e{H a:HP}{Z:LZ}{O:OA}{b:Bk}{du:Nat}{cl:List Cz}{x:Str}(y:WS H Z O b du cl x)(F:Fr [31] H a)(p:eI a Z.p):WS a Z O b du cl x:=y.u F p (y.2.J F rfl) (.I _) rfl λc d=>F _ _ (y.9 c d) rfl
theorem WS.l5(y:WS H Z O b du cl x)(a:c.a Z.T b)(g:H c.e=aa (vU c))(f:H c.u=aa (EG c))(hl:(pM c).length<=300000):WS (H.J du<|.u 73<|cl.map (hE b)++[hE b c]) Z O b du (cl++[c]) (x++pM c):=by
 have F:Fr [73] H (H.J du<|.u 73<|cl.map (hE b)++[hE b c]):= .J y.7 rfl;have all:∀{p:Cz->Prop},(∀d∈cl,p d)->p c->∀d∈cl++[c],p d:=λh i d hd=>(fG.mp hd).elim (h d) λe=>d5.mp e▸i;refine⟨y.1.J F rfl,y.2.J F rfl,y.3,y.4.J F rfl,F _ _ y.5 rfl,y.6.J F rfl,by refine ae ed ?_;exact aQ,all y.8 a,all (λd hd=>F _ _ (y.9 d hd) rfl)<|F _ _ g rfl,all (λd hd=>F _ _ (y.10 d hd) rfl)<|F _ _ f rfl,?_,?_⟩
 ·rw [iL,y.11,ed,List.flatten_append,yX,List.flatten_singleton]
 ·rw [qX,bI,gY,Fl,MX];exact Ft y.12 hl
theorem aa5{CP:Nat->List V->EP->QV->HP->Prop}{ρ:aA}{E:EP}{Q:QV}{H:HP}{g:Nat}{xs:XL}(q:fA CP xs ρ E (λa H=>∀c,H c=ag->Q (.d c) (H.J c<|.u g a)) H):aK CP (.u g xs) ρ E Q H:=q
theorem aa4{CP:Nat->List V->EP->QV->HP->Prop}{ρ:aA}{P:bA}{H:HP}{r:SL}{i:Nat}{d:gH}{x:X}{a:V}(h:ρ[i]?=aa (aa a))(q:aK CP x ρ (P.ex ρ) (λb H=>∃c,j8 H 0 d a b (.ah c)/\aw CP r (ρ.set i<|aa c) P H) H):aw CP (.u (.m i d x) r) ρ P H:=(aM a h q)
noncomputable def sgP(v:VS):V->Bool
 | .U [.z s,_]=>v.e.count s==1&&s !=lI| _=>ai
theorem aa6{CP:Nat->List V->EP->QV->HP->Prop}{ρ:aA}{E:EP}{Q:QV}{H:HP}{S:SA}{v:VS}{bud:Int}(s:l6 H S v bud)(hl:v.J.length<=900000)(g:ρ[12]?=aa (aa<|.d S.s))(hi:21<ρ.length)
 (q:∀b c,Fr [] H b->b c=ag->Q (.d c) (b.J c<|.u 78<|qR v)):
 aK CP (.c 78 (.J 21) 21 (.ak (.J 12)<|.e<|.x 0)<|.u (.aB<|.u (.ah<|.U (.bm 2 (.ak (.J 12)<|.e<|.x 1)<|.u (.ak (.J 21)<|.e<|.x 0) .I) .Eq<|.e<|.x 1)<|.u (.ah<|.U (.ak (.J 21)<|.e<|.x 0) .NotEq<|.e<|.z lI) .I) .I) ρ E Q H:=by
 refine xX (p:=sgP v) (f:=id) (.ak (.J g) .e<|.u s.1 (j:=0) rfl rfl) (.u s.2) s.2 (by rw [bB];exact aH hl<|by decide) (λu k b F K q=>?_) (λu k z b F K q=>aX (.J<|pT hi)<|q b .I) λb c F m=>?_
 ·refine au (gi.mp k) λy z l=>?_;obtain rfl:=l;have d:(ρ.set 21<|aa<|V.U [.z y.1, .x y.2])[21]?=aa (aa<|.U [.z y.1, .x y.2]):=pT hi;have i:(ρ.set 21<|aa<|V.U [.z y.1, .x y.2])[12]?=aa (aa<|.d S.s):=by refine ae (wg<|by decide) ?_;exact g
  have e:((v.e.count y.1:Int)==1)=(v.e.count y.1==1):=by cases h:(v.e.count y.1==1) with| true=>exact ae (rE h) rfl| false=>exact beq_false_of_ne λn=>by replace h:=(wy n)▸h;exact bC h
  have o:fE b (ρ.set 21<|aa<|V.U [.z y.1, .x y.2]) (.ah<|.U (.bm 2 (.ak (.J 12)<|.e<|.x 1)<|.u (.ak (.J 21)<|.e<|.x 0) .I) .Eq<|.e<|.x 1) (v.e.count y.1==1):=by exact ae e.symm<|.ah (.U (.bm (a:= .d S.o) (.ak (.J i) .e<|.u (F _ _ s.1 rfl) (j:=1) rfl rfl) (.b<|F _ _ s.3 rfl) (.u (.ak (.J d) .e<|.U (j:=0) rfl rfl) .I)<|.b (F _ _ s.3 rfl)<|.mk<|yu _) .e cR) .e
  refine fc<|wb (.aB<|.lS o<|.lS (.ah (.U (.ak (.J d) .e<|.U (j:=0) rfl rfl) .e kn) .e) .gm) ?_;rw [pR];exact⟨λc=>kU (by have:=q b .I;exact ae c.symm this),λc=>q b .I⟩
 ·have:=q b c F m;unfold qR at this;rw [ado,adn];exact this
end
section
open PySem
noncomputable abbrev vV(Z:LZ)(sc o du:Nat)(x:Str)(z5 g f e d c b a:Option V):aA:=sM sc Z.p Z.A Z.D o [z5,g,f,aa<|.d Z.I,aa<|.z x,aa<|.d du,e,d,c,b,a,ag,ag,ag,ag,ag,ag,ag]
noncomputable def LZ.u(Z:LZ)(S:SA)(cl:List Cz):LZ:=⟨Z.p,Z.A,Z.D,Z.T,Z.I,Z.J,S,cl.map λc=>(c.e,vU c)⟩
section
variable {CP:Nat->Nat->List V->EP->QV->HP->Prop} (L:bX CP) {Z:LZ} (W:Z.a) {O:OA} {n sc du:Nat} {P:bA}
include L W
theorem aa8(y:WS H Z O b du cl x)(i:cl.length<3){z5 Y X z11 D C B A:Option V}
 (q:∀H' b' x' c D C B A,WS H' Z O b' du (cl++[c]) x'->P.nx (vV Z sc O.o du x' z5 Y X z11 D C B A) H'):aw (CP<|n+10) Dq (vV Z sc O.o du x z5 Y X z11 D C B A) P H:=by
 refine bz<|aa5<|bx<|fv (vs:=[]) .I λf R=>bx<|fv (vs:=[]) .I λk Q=>cF (vs:=[.x 0, .x 12]) (aC rfl) λw N=>?_;have m:=y.aT<|(Fr.aT R).u<|(Fr.aT Q).u<|.aT N (c:= .u 74 [.d f, .d k, .x 0, .x 12]);have sa:=aQ (H:=(H.J f<|.u 76 []).J k<|.u 75 []) (a:=w) (c:= .u 74 [.d f, .d k, .x 0, .x 12]);have oa:=dh (d:= .u 74 [.d f, .d k, .x 0, .x 12]) N<|aQ (H:=H.J f<|.u 76 []) (a:=k) (c:= .u 75 []);have na:=dh (d:= .u 74 [.d f, .d k, .x 0, .x 12]) N<|dh (d:= .u 75 []) Q<|aQ (H:=H) (a:=f) (c:= .u 76 []);have kp:∀c∈cl,c.e≠w/\c.e≠f/\c.e≠k:=λc i=>⟨gG (dh Q<|dh R<|y.9 c i) N,gG (y.9 c i) R,gG (dh R<|y.9 c i) Q⟩;revert m sa oa na;generalize ((H.J f<|.u 76 []).J k<|.u 75 []).J w (.u 74 [.d f, .d k, .x 0, .x 12])=H1;intro m sa oa na;have W':(Z.u ⟨w,f,k⟩ cl).a:=⟨W.1,W.2,W.3,W.4⟩
 have ls:LS H1 (Z.u ⟨w,f,k⟩ cl) b EH 12:=⟨m.1,m.2,m.3,m.4,m.5,⟨sa,na,oa,λz h=>(dz h).elim⟩,dC _,λu hu=>by
  refine au (gi.mp hu) λc i zz=>?_;obtain rfl:=zz
  exact⟨m.9 c i,rfl,kp c i⟩⟩
 have G:sI CP (Z.u ⟨w,f,k⟩ cl) 2:=aaR L W' 2<|dC _;refine bz<|bV (vs:=[.d Z.p, .d Z.A.b,Z.e, .d Z.I, .d w, .x<|2 - ((2:Nat):Int), .e<|!af]) (aC rfl)<|G (n:=n) ls (by decide) λH2 pa l b2 o bud2 fr2 g h0 K F2 hp J=>?_;have y2:=m.u F2 J.1 J.2 g.4 rfl λc i=>(J.8 (c.e,vU c)<|oI i).1;have F:=(oy<|dC 2).1.1;have tx:=La g K;have oc:=K9 g K;have hx:x.length<=900000:=aH y.12<|kE 300000<|jM i;have u2:oT 2<=30000:=F;refine aa4 rfl<|og<|Eu (.J rfl) hp (show 20<23 by decide) K g.2 F λH3 F3=>aX .e<|aM _ (.z (b:=vp) ?_) ⟨_, .z ?_,?_⟩
 ·have:vp.length=3:=rfl;skip;exact oM (.I (.a (.v 0)<|.v 1)<|.n 16777216) (.I (.v 0)<|.m 8<|.a (.v 2)<|.n 1) (.u (.v 1)<|.n 3) ⟨8,ai, .I (.v 2)<|.n 30000⟩ rfl [] [_,_,_] tx this F
 ·rw [qX];have:vp.length=3:=rfl;skip;exact zc (.I (.a (.v 0)<|.a (.v 1)<|.v 2)<|.n 16777216) (.I (.v 0)<|.n 900000) (.I (.v 1)<|.m 8<|.a (.v 3)<|.n 1) (.u (.v 2)<|.n 3) ⟨8,ai, .I (.v 3)<|.n 30000⟩ rfl [] [_,_,_,_] hx tx this F
 have y3:=y2.aT F3;have s3:=J.aT F3;refine bz<|bV (vs:=[.d Z.A.b,Z.e, .d pa, .x 1200]) (aC rfl)<|KI L W.1.ty (show dW H3 Z.A Z.D Z.T b2 pa l from⟨s3.2,s3.4,F3 _ _ hp rfl,g.5⟩) (eX K<|by decide) h0 (by decide) λr H4 s rd U Y4 le4 i4=>?_;have y4:=y3.u U (y3.1.J U rfl) Y4.1 le4 rfl λc i=>U _ _ (y3.9 c i) rfl;have s4:=s3.6.J U rfl;have nl:o.J.length<=900000:=aH J.7<|aH oc (by decide);refine bz<|aa6 s4 nl rfl (show 21<23 by decide) λH5 p F5 nsg=>?_;have T:Fr [] H4 (H5.J p<|.u 78<|qR o):=F5.u<|.aT nsg;have E:=y4.aT T;have I:=s4.J T rfl;have g5:=aQ (H:=H5) (a:=p) (c:= .u 78<|qR o);revert T E I g5;generalize H5.J p (.u 78<|qR o)=S;intro T E I g5;have dep:∀t,r=aa t->fO t<=59:=λt e=>by subst e;exact K8 g K rd
 have ok:Cz.a Z.T s ⟨l,o,r,f,p⟩:=⟨⟨fr2,g.1⟩,Fo.mp h0,rd,i4,dep,I.4,nl⟩;have y6:=E.l5 ok I.2 g5 (by unfold pM;rw [qX];have:vp.length=3:=rfl;skip;exact oM (.I (.a (.v 0)<|.v 1)<|.n 300000) (.I (.v 0)<|.m 8<|.a (.v 2)<|.n 1) (.u (.v 1)<|.n 3) ⟨8,ai, .I (.v 2)<|.n 30000⟩ rfl [] [_,_,_] tx this F);have M:aw (CP<|n+10) .I (vV Z sc O.o du (x++pM ⟨l,o,r,f,p⟩) z5 Y X z11 (aa<|.d w) (aa<|.d pa) (aa<|dG s r)<|aa<|.d p) P (S.J du<|.u 73<|cl.map (hE s)++[hE s ⟨l,o,r,f,p⟩]):=bj (CP:=CP<|n+10)<|q _ _ _ _ _ _ _ _ y6;have ap:hX S 0 (.d du) [hE s ⟨l,o,r,f,p⟩] .f (S.J du<|.u 73<|cl.map (hE s)++[hE s ⟨l,o,r,f,p⟩]):= .hY E.7 (by rw [bB];exact jg i<|by decide);induction r with
 | none=>exact dB<|vG (.J rfl) (.hY E.7) (.u (.lT (.ah (.U (.J rfl) .e .d) .e) .e) .I) ap M| some t=>have c:=cg.d (H:=S) (v:=tv s t);rw [show(tv s t).u=ai by cases t<;>rfl] at c;exact dB<|vG (.J rfl) (.hY E.7) (.u (.n8 (.ah (.U (.J rfl) .e c) .e)<|.ax<|.u (.J rfl)<|.u (.ak (.J rfl) .e<|.u I.1 (j:=0) rfl rfl)<|aC rfl) .I) ap M
theorem aa7{items:List V}:∀{H:HP} {b:Bk} {cl:List Cz} {x:Str} {z5 z6 z7 z11 z12 z13 z14 z15:Option V},WS H Z O b du cl x->cl.length+items.length<=3->
 (∀e g d a z11 z12 z13 z14 z15,WS e Z O g du a d->a.length<=3->P.nx (vV Z sc O.o du d z5 z6 z7 z11 z12 z13 z14 z15) e)->dF (CP<|n+10) (.J 11) Dq P .b items (vV Z sc O.o du x z5 z6 z7 z11 z12 z13 z14 z15) H:=by
 induction items with| nil=>exactλy hl q=>ik trivial<|q _ _ _ _ _ _ _ _ _ y hl| cons i items ih=>intro H b cl x z5 z6 z7 z11 z12 z13 z14 z15 y hl q;rw [dK] at hl;exact i7 trivial<|aa8 L W (z11:=aa i) y (aD (.e (.v 0)<|.n 3) (.I (.a (.v 0)<|.a (.v 1)<|.n 1)<|.n 3) rfl [] [_,_] hl) λk j h c z12 z13 z14 z15 f=>ih f (ae bI<|ae gY<|aD (.I (.a (.a (.v 0)<|.n 1)<|.v 1)<|.n 3) (.I (.a (.v 0)<|.a (.v 1)<|.n 1)<|.n 3) rfl [] [_,_] hl) q
end
theorem yE:eZ R ai [.z s] [.z s] true:=by have:=eZ.z (R:=R) (a:=s) (b:=s);rwa [beq_self_eq_true] at this
theorem yD:eZ R ai [.x s] [.x s] true:=by have:=eZ.x (R:=R) (a:=s) (b:=s);rwa [beq_self_eq_true] at this
theorem jY(h:eZ R ai [v] [w] af)(t:eZ R af l m af):eZ R af (v::l) (w::m) true:= .u h t
theorem aa9(b:Bk)(t:Tm):eZ R ai [tv b t] [tv b t] true:=
 @Tm.rec (λt=>eZ R ai [tv b t] [tv b t] af) (λl=>eZ R af (eU b l) (eU b l) af) (λz=> .U<|jY yE<|jY yD .I) (λz=> .U<|jY yE<|jY yD .I) (λz=> .U<|jY yE<|jY yD .I)
  (λz z ih=> .U<|jY yE<|jY yD<|jY (.U ih) .I) .I (λz z ih a=>jY ih a) t
theorem Lm(l:List (Str×Int)):eZ R af (l.map λx=>V.U [.z x.1, .x x.2]) (l.map λx=>V.U [.z x.1, .x x.2]) af/\nF (l.map λx=>V.U [.z x.1, .x x.2])<=1:=by induction l with| nil=>exact⟨.I,dR _⟩| cons x l ih=>exact⟨jY (.U<|jY yE<|jY yD .I) ih.1,uj.mpr ⟨dC _,ih.2⟩⟩
noncomputable def ui(cl:List Cz):List Nat:=(cl.map λc=>co<|pM c).flatten
inductive RS(H:HP)(Y:RZ)(b:Bk)(b0:Bk)(du:Nat)(all cl:List Cz)(a:Nat):Prop
 | mk (s:jb H Y b a)
  (d:H du=aa (.u 73 (all.map (hE b0))))
  (le:b0.I b)
  (c:∀c∈cl,c.a Y.T b0)
  (cn:∀c∈cl,H c.e=aa (vU c))
  (cs:∀c∈cl,H c.u=aa (EG c))
  (h:∃ls,Y.cs.drop a=ls++ui cl/\(ls=[]/\a=0\/ls=[10]))
  (a:a<=Y.cs.length)
theorem RS.jE(x:RS H Y b b0 du all (c::cl) a)(F:Fr AJ H g)(s:jb g Y f a')(e:b.I f)(h:Y.cs.drop a'=10::ui cl):RS g Y f b0 du all cl a':=
 ⟨s,F _ _ x.2 rfl,x.3.u e,λc d=>x.4 c (df _ d),λc d=>F _ _ (x.5 c (df _ d)) rfl,λc d=>F _ _ (x.6 c (df _ d)) rfl,(aM ([10]) h (.inr rfl)),by
  cases Nat.lt_or_ge Y.cs.length a' with
  | inl i=>rw [MF<|jM i] at h;exact gw h
  | inr e=>exact e⟩
theorem RS.I{H:HP}{Y:RZ}{b b0:Bk}{du:Nat}{all cl:List Cz}{c:Cz}{a:Nat}(g:TG af dj Y.T)(x:RS H Y b b0 du all (c::cl) a):∃m i a' q,AK Y a m i a'/\Y.cs.drop a'=10::ui cl/\si (bf Y.T) af ⟨(m++[(aE.I,i)]).map (·.1),[],1200,ag,0,EH⟩ [.I] [] 1200 c.v (c.r.map (·,q)):=by
 have j:=x.4 c cu;refine o1 j.1 λw s=>au (ue s j.2) λl n v=>au x.7 λF hd h=>?_;have e:ui (c::cl)=co (cW fK<|c.l.map (·.2))++32::46::10::ui cl:=by refine(?_:co (pM c)++ui cl=_);delta pM;rw [iL,cv];rfl
 replace hd:=e▸hd
 refine BO (aa0 n hd (λc o=>by
  rcases h with ⟨rfl,_⟩ | rfl
  ·cases o
  ·exact .inr (d5.mp o)) (by
  rcases h with ⟨rfl,rfl⟩ | rfl
  ·exact .inr rfl
  ·exact .inl (mf _))) λm i a' S k D E=>?_
 refine ji ((n af (32::46::10::ui cl)<|xT _).p) λp C z B r=>?_;have d:∀y∈m,y.1∈l true:=λy f=>by exact ae k.symm<|oI f
 refine o1 (vE g.J V4 (by decide) (v af) j.3 (rest:=[]) (u:=ag) (p:=0)) λq A=>(BI m i a' q ⟨S,λy f=>(r _<|d y f).1,?_,λy f=>(r _<|d y f).2,g.u (by decide+kernel) (by decide),g.u (by decide+kernel)<|by decide⟩ D ?_)
 ·have t:m.length=(l af).length:=by rw [<-k,bB]
  have hl:=x.1.2.4;have:(Y.cs.drop a).length<=Y.cs.length:=by exact ae lg<|yV _ _
  rw [hd,C,bI,bI,dK] at this;exact zc (.e (.v 0)<|.n 1000000) (.u (.v 0)<|.v 1) (.I (.v 1)<|.v 2) (.I (.a (.v 3)<|.a (.v 2)<|.a (.a (.a (.v 4)<|.n 1)<|.n 1)<|.n 1)<|.v 5) (.I (.v 5)<|.n 1000000) rfl [] [_,_,_,_,_,_] t B this hl
 ·exact ae ed<|ae k A
section
variable {CP:Nat->Nat->List V->EP->QV->HP->Prop} (L:bX CP) {Y:RZ} {b0:Bk} {n du sc p:Nat} {A:BA} {D:TA} {o:Nat} {P:bA} {all:List Cz}
noncomputable abbrev A4(sc p:Nat)(A:BA)(D:TA)(o r:Nat)(z5 l k j i h g f e d c b a:Option V):aA:=sM sc p A D o [z5,l,k,j,i,h,g,f,e,d,c,aa<|.d r,b,a,ag,ag,ag,ag]
include L
theorem aba(g:TG af dj Y.T)(x:RS H Y b b0 du all (c::cl) a){z5 Z X W U w u s r k j h:Option V}
 (q:∀H' b' a' h,RS H' Y b' b0 du all cl a'->P.nx (A4 sc p A D o Y.r z5 Z X W U w u s r k j (aa<|hE b0 c) h) H'):aw (CP<|n+9) Dr (A4 sc p A D o Y.r z5 Z X W U w u s r k j (aa<|hE b0 c) h) P H:=by
 refine wG (x.I g) λm pf a' q' C hd en=>?_;have I:=x.4 c cu;have cn:=x.5 c cu;have cs:=x.6 c cu;have i:=I.4;have M:=x.1.1;unfold ja at M;rcases vB en with ⟨z,Q⟩ | ⟨t,z,go⟩
 ·have e:hE b0 c= .f:=by delta hE;exact ae z rfl
  rw [e] at q⊢;exact bQ .e<|Kv<|bz<|a7 (.J rfl) M .I<|Zf L x.1 C Q λl T F G d S=>bQ .e<|bj (CP:=CP<|n+9)<|cz (.ah (.U (.J rfl) (.J rfl)<|.ne<|.mk (dR _) .f) .e)<|bj (CP:=CP<|n+9)<|q _ _ _ _<|x.jE G S d hd
 ·replace i:=z▸i;have tvl:=kW x.3 t i;have e:hE b0 c= .U [tv b0 t, .d c.e, .d c.u]:=by delta hE;exact ae z rfl
  rw [e] at q⊢;refine bQ .e<|Kv<|bz<|a7 (.J rfl) M .I<|Ze L x.1 C go I.6 (aH I.7<|by decide) λT F K J G d S i1 hn hs=>?_;have nn:((V.U [tv F t, .d K, .d J]).u)=false:=rfl;have O:=cg.d (H:=T) (v:= .U [tv F t, .d K, .d J]);replace O:=nn▸O;refine cz (.ah (.U (.J rfl) .e O) .e)<|bj (CP:=CP<|n+9) ?_;have E:=G _ _ cn rfl;have B:=G _ _ cs rfl;have y:tv F t=tv b0 t:=(kW (x.3.u d) t i).2;have N:=I.5 t z;have vd:∀{n m:Nat},tj (.U [tv b0 t, .d n, .d m])<=100:=λ{n m}=>by refine(?_:max (tj<|tv b0 t) (max 0<|max 0 0)+1<=100);rw [KV];exact(wJ _ _).elim (λf=>aD (.I (.a (.v 0)<|.n 1)<|.n 100) (.u (.v 0)<|.n 0) rfl [] [_] f.2) λf=>bJ (.I (.a (.v 0)<|.n 1)<|.n 100) (.u (.v 0)<|.v 1) (.I (.v 1)<|.n 59) rfl [] [_,_] f.2 N
  have e1:=Lm (R:=uH) c.v.J;have e2:=Lm (R:=uH)<|c.v.J.filter<|vP c.v
  have eq:zg T (.U [tv F t, .d K, .d J]) (.U [tv b0 t, .d c.e, .d c.u]) true:=
   ⟨by refine ae y ?_;exact vd, .U<|jY (by refine ae y ?_;exact aa9 b0 t)<|jY (.d<|.mk (fT hn E rfl) hn E (aH e1.2<|by decide) e1.1)<|jY (.d<|.mk (fT hs B rfl) hs B (aH e2.2<|by decide) e2.1) .I⟩
  exact cz (.ah (.U (.J rfl) (.J rfl)<|.ne eq) .e)<|bj (CP:=CP<|n+9)<|q _ _ _ _<|x.jE G S d hd
theorem abb(g:TG af dj Y.T){cl:List Cz}:∀{H:HP} {b:Bk} {a:Nat} {z5 z6 z7 z8 z9 z10 z11 z12 z13 z14 z15 z17 z18:Option V},RS H Y b b0 du all cl a->
 (∀d f a' z17 z18,RS d Y f b0 du all [] a'->P.nx (A4 sc p A D o Y.r z5 z6 z7 z8 z9 z10 z11 z12 z13 z14 z15 z17 z18) d)->
 dF (CP<|n+9) (.J 17) Dr P (.u du<|.u 73<|all.map<|hE b0) (cl.map<|hE b0) (A4 sc p A D o Y.r z5 z6 z7 z8 z9 z10 z11 z12 z13 z14 z15 z17 z18) H:=by
 induction cl with| nil=>exactλx q=>ik x.2<|q _ _ _ _ _ x| cons c cl ih=>exactλ{H b a z5 z6 z7 z8 z9 z10 z11 z12 z13 z14 z15 z17 z18} x q=>i7 x.2<|aba L g x λj h i z18 e=>ih e q
end
end
section
open PySem
variable {CP:Nat->Nat->List V->EP->QV->HP->Prop} (L:bX CP) {k:Nat} {E:EP} {Q:QV} {H:HP}
theorem abi{CP:Nat->List V->EP->QV->HP->Prop}{ρ:aA}{E:EP}{Q:QV}{H:HP}{g i:Nat}{b c:X}{a:BL}(q:aK CP c ρ E (λv H=>aK CP (.c g b i (.e v) a) ρ E Q H) H):aK CP (.c g b i c a) ρ E Q H:=q
noncomputable def yF:V->V
 | .x i=> .x (ur (i.natAbs:Int)<|10^30)| _=> .f
noncomputable def vW(l:List Int):List Nat:=1::0::l.map λi=>i.natAbs%10^30
theorem abg(a b:Nat):ur (a:Int) (b:Int)=((a%b:Nat):Int):=by rw [Int.fmod_eq_emod_of_nonneg _<|iA _,Int.natCast_emod]
theorem abj(l:List Int):[V.x 1,V.x 0]++(l.map V.x).map yF=(vW l).map λ(n:Nat)=>V.x n:=by skip;exact ae gX<|ae gX<|ae rq<|ae rq<|congrArg (λz=>V.x 1::V.x 0::z)<|pV λi y=>congrArg V.x<|abg i.natAbs<|10^30
noncomputable def Ln:V->V
 | .z s=> .x ((s.cps[0]?).getD 0:Nat)| _=> .f
section
include L
theorem abd{cs:List Nat}(j:H r=aa (.b 886 [ag,ag,ag,ag,ag]))(y:H cl=aa (.u 79<|cs.map λ(c:Nat)=>V.x (c:Int)))(w:∀c∈cs,c<128)(hl:cs.length<=1000000)
 (q:∀h t,Fr [1886,1370] H h->h r=aa (.b 886 [aa<|.d b,aa<|.d o,aa<|.d f,aa<|.d t,aa<|.x (0:Nat)])->cN h t cl cs 0->Q .f h):CP (k+2) 862 [.d r, .d b, .d o, .d f, .d cl] E Q H:=by
 refine L.1 (n:=8625) rfl rfl<|cZ (.J rfl) rfl j λM B I=>cZ (.J rfl) rfl B λK A G=>cZ (.J rfl) rfl A λJ h3 F=>?_;have m:=((I.u G).u F).J j (S:=[1886,1370]) rfl;refine qz<|vQ<|cF (vs:=[.d cl, .x 0]) (aC rfl) λt g=>XM L (t:=t) (cs:=cs) aQ (dh g<|m _ _ y rfl) w hl λC s u=>⟨rfl,?_⟩;have x:r≠t:=λe=>by rw [<-e,h3] at g;exact hU g
 have i:=s _ _ x<|dh g h3;refine mO (.J rfl) i<|cZ (v:= .x 0) (.J rfl) rfl aQ λl z D=>bj (CP:=CP<|k+1) ?_;have p:dQ r C l:=λa d n e=>D a d n<|gc n e;exact q l t (m.u<|((Fr.aT g).u<|s.J aQ rfl).u<|p.J i rfl) z<|u.J (p.J i (S:=[1886]) rfl) rfl
end
theorem abc{T:bS}{b:Bk}{c:Cz}(h:c.a T b):∀x∈co (pM c),x<128:=by refine o1 h.1 λi d=>au (ue d h.2) λj f z=>bR ((f af [32] (xT _)).p) λp e g z=>?_;have e:=List.append_cancel_right e;intro x a;unfold pM at a;rw [iL,e] at a;exact(fG.mp a).elim (g x) λa=>(by decide:∀x∈co vp,x<128) x a
theorem abh(x:Str):(x.cps.toList.map λc=>V.z ⟨#[c]⟩).map Ln=(co x).map λ(c:Nat)=>V.x (c:Int):=ae rq rfl
section
include L
theorem abf(g:TG af dj Z.T){cl:List Cz}{x:Str}(y:WS H Z O b du cl x)(h3:cl.length<=3){z5 z6 z7 z11 z12 z13 z14 z15:Option V}(q:∀M,Q (.e af) M):
 aw (CP<|k+10) (ck 9 I0) (vV Z sc O.o du x z5 z6 z7 z11 z12 z13 z14 z15) (.e E Q) H:=by
 refine bz<|vQ<|bx<|aX (.J rfl)<|bx<|aX (.J rfl)<|bx<|vQ<|cF (vs:=[.d Z.A.b]) (aC rfl) λf N=>W4 L (f:=f) (y.2.J (Fr.aT (S:=[]) N) rfl) aQ λu F W U eF F2 k2 j f2=>⟨rfl,?_⟩;subst eF;have B:Fr [1612,1,2,3,4,12,13,14] H u:=(Fr.aT N).u F2;have R:∀c∈co x,c<128:=λc e=>by rw [y.11] at e;refine au (List.mem_flatten.mp e) λl hl e=>au (gi.mp hl) λd hd C=>?_;obtain rfl:=C;exact abc (y.8 d hd) c e
 have P:(co x).length<=900000:=aH (eW ac2)<|aH y.12<|kE 300000 h3;refine bx<|xY (f:=Ln) (v:= .z x) (.J rfl) (.z<|by rw [Array.all_eq_true'];exactλc e=>decide_eq_true<|R c<|LJ.mpr e) trivial (by rw [bB];exact aH P<|by decide) (λv hv K q=>?_) λh nc=>cF (vs:=[]) .I λr s=>?_
 ·refine au (gi.mp hv) λc z C=>?_;obtain rfl:=C;exact aX (.bi (aC rfl)<|.o (n:=c) rfl) q
 rw [abh] at s⊢;have i:Fr [] u (u.J h<|.u 79<|(co x).map λ(c:Nat)=>V.x (c:Int)):= .aT nc;have I:=aQ (H:=u) (a:=h) (c:= .u 79<|(co x).map λ(c:Nat)=>V.x (c:Int));revert i I s;generalize u.J h (.u 79<|(co x).map λ(c:Nat)=>V.x (c:Int))=H4;intro s i I;refine abd L (cs:=co x) aQ (dh s I) R (aH P<|by decide) λJ t F5 r5 Y=>⟨rfl,?_⟩;have m:Fr [1886,1370] H4 J:=(Fr.aT s).u F5;have k5:=(k2.J i rfl).J m rfl;have S:jb J ⟨Z.A,O,F,Z.T,b,U,h,co x,r,t⟩ W 0:=⟨r5,Y,k5,y.3.u j,((y.6.J B rfl).J i rfl).J m rfl,j,(f2.J i rfl).J m rfl⟩;have X:RS J ⟨Z.A,O,F,Z.T,b,U,h,co x,r,t⟩ W b du cl cl 0:=⟨S,m _ _ (i _ _ (B _ _ y.7 rfl) rfl) rfl,j,y.8,λc e=>m _ _ (i _ _ (B _ _ (y.9 c e) rfl) rfl) rfl,λc e=>m _ _ (i _ _ (B _ _ (y.10 c e) rfl) rfl) rfl,(aM ([]) y.11<|.inl ⟨rfl,rfl⟩),dR _⟩;refine vH (.J rfl) (.u X.2)<|abb L (sc:=sc) (p:=Z.p) (A:=Z.A) (D:=Z.D) (o:=O.o) (z5:=z5) (z6:=z6) (z7:=z7) (z8:=aa<|.d Z.I) (z9:=aa<|.z x) (z10:=aa<|.d du) (z11:=z11) (z12:=z12) (z13:=z13) (z14:=z14) (z15:=z15) (z17:=ag) (z18:=ag) g X λH6 b6 a6 z17 z18 w=>au w.7 λls hd G=>?_;have T:=w.1.1;unfold ja at T;refine cC<|gf<|a7 (.J rfl) T .I<|Zg L w.1 (λc e=>?_) w.8 λM=>aX .e<|aM _ .d<|q M;rw [hd] at e;have e:c∈ls++[]:=e;rw [jh] at e;rcases G with ⟨rfl,_⟩ | rfl
 ·cases e
 ·exact .inr<|d5.mp e
end
section
include L
theorem abe{l:List Int}(h:H s=aa (.j<|l.map V.x))(q:∀H',Q (.e af) H'):CP (k+11) 966 [.d s] E Q H:=by
 refine L.1 (n:=9661) rfl rfl<|bz<|bV (vs:=[.d s]) (aC rfl)<|Zh L h λH1 p F1 p1=>bz<|vQ<|cF (vs:=[]) .I λa na=>WR L (b:=a) aQ λH2 A eA F2 k2=>⟨rfl,?_⟩;subst eA;have I:=(Fr.aT na (S:=[1154,1,2,3,4]) (c:= .b 154<|oF 4 ag)).u F2;refine bz<|bV (vs:=[.d p]) (aC rfl)<|Zn L (p1.J I rfl) λH3 D T F3 p3 Y3 g z=>bz<|vQ<|cF (vs:=[.d A.b, .e ai]) (aC rfl) λo no=>W5 L (k2.J (F3.u<|.aT no) rfl) (.I _) aQ λH4 O eO F4 X4=>⟨rfl,?_⟩;subst eO;have j:=(Fr.aT no (S:=[1558,9,10,11]) (c:= .b 558<|oF 4 ag)).u F4;have k4:=(k2.J F3 rfl).J j rfl;refine vH (.J rfl) .U<|aaX L (sc:=s) (p:=p) (D:=D) (z5:=ag) (z6:=ag) (z7:=ag) (zs:=[ag,ag,ag,ag,ag,ag,ag,ag,ag,ag,ag,ag,ag,ag,ag]) (Y3.J j rfl) g z k4 (.I _) X4 λB b5 z5 z6 z7 F5 k5 R X5=>?_;have Y5:=(Y3.J j rfl).J F5 rfl;have p5:=(p3.J j rfl).J F5 rfl;have h5:B s=aa (.j<|l.map V.x):=F5 _ _ (j _ _ (F3 _ _ (I _ _ (F1 _ _ h rfl) rfl) rfl) rfl) rfl;refine bz<|og<|fv (vs:=[.x 1, .x 0]) (aC rfl) λc nc=>abi<|x5 (.J rfl) .e .e (.j<|dh nc h5) λt nt=>?_;have tk:(l.map V.x).take (fQ (l.map V.x).length 4)=(l.take<|fQ l.length 4).map V.x:=by rw [bB,MM]
 refine ae tk ?_;have X:=dh nt (d:= .u 71<|(l.take<|fQ l.length 4).map V.x)<|aQ (H:=B) (a:=c) (c:= .u 70 [.x 1, .x 0]);have u:=aQ (H:=B.J c<|.u 70 [.x 1, .x 0]) (a:=t) (c:= .u 71<|(l.take<|fQ l.length 4).map V.x);have F6:=(Fr.aT (S:=[]) nc (c:= .u 70 [.x 1, .x 0])).u<|.aT nt (c:= .u 71<|(l.take<|fQ l.length 4).map V.x);revert X u F6;generalize (B.J c<|.u 70 [.x 1, .x 0]).J t (.u 71<|(l.take<|fQ l.length 4).map V.x)=Z;intro X u F6;have e:(l.take<|fQ l.length 4).length<=4:=by exact aH (List.length_take_le _ _)<|(FQ l.length 4).symm▸adj _ _
 revert e u;generalize l.take (fQ l.length 4)=e;intro u m;refine xY (it:= .e<|.d t) (f:=yF) .e (.u u) u (by rw [bB];exact aH m<|by decide) (λv hv K q=>?_) λd F=>(aM _ (.u (dh F X) aQ ?_) λC nw=>?_)
 ·refine au (gi.mp hv) λi w M=>?_;obtain rfl:=M;exact aX (.aS (.bi (.u (.bi (aC rfl) .x) .I) .k) .e<|.x<|.c<|by decide) q
 ·skip;rw [bB,bB];exact aH (hS m _) (by decide)
 rw [abj];have F7:Fr [] B ((Z.J d<|.u 72<|(e.map V.x).map yF).J C<|.u 69<|(vW e).map λ(n:Nat)=>V.x n):=F6.u<|(Fr.aT F).u<|.aT nw;have P:=aQ (H:=Z.J d<|.u 72<|(e.map V.x).map yF) (a:=C) (c:= .u 69<|(vW e).map λ(n:Nat)=>V.x n);revert F7 P;generalize (Z.J d<|.u 72<|(e.map V.x).map yF).J C (.u 69<|(vW e).map λ(n:Nat)=>V.x n)=Y;intro F7 P;refine bQ .e<|bz<|fv (vs:=[]) .I λdu F=>?_;have J:Fr [] B (Y.J du<|.u 73 []):=F7.u<|.aT F
 have W:LZ.a ⟨p,A,D,T,C,vW e,⟨0,0,0⟩,[]⟩:=⟨g,oA _,by
  refine(?_:(e.map _).length+2<=10);rw [bB];exact aD (.I (.a (.v 0)<|.n 2)<|.n 10) (.I (.v 0)<|.n 4) rfl [] [_] m,λn G=>by
  rcases dH.mp G with rfl | G
  ·decide
  rcases dH.mp G with rfl | G
  ·decide
  refine au (gi.mp G) λi w M=>?_;obtain rfl:=M
  exact jg (MV _ (by decide)) (by decide)⟩
 have y:WS (Y.J du<|.u 73 []) ⟨p,A,D,T,C,vW e,⟨0,0,0⟩,[]⟩ O b5 du [] fR:=⟨p5.J J rfl,k5.J J rfl,R,Y5.J J rfl,dh F P,X5.J J rfl,aQ,λw h=>((dz h).elim),λw h=>((dz h).elim),λw h=>((dz h).elim),rfl,dR _⟩;revert y;generalize Y.J du (.u 73 [])=H8;intro y;exact Ew<|og<|aX .e<|bV (vs:=[.d p, .x 3]) (aC rfl)<|iM L y.1 (by decide) λH9 r lt F9 p9=>⟨.ah<|.x<|1+r, .x .J,1+r,rfl,by skip;exact⟨cP (.U (.g<|.n 1000000)<|.a (.n 1)<|.c<|.v 0) rfl [_] [],aD (.U (.a (.n 1)<|.c<|.v 0)<|.n 1000000) (.U (.c<|.v 0)<|.n 3) rfl [] [_] lt⟩,aa7 L W (sc:=s) (items:=eQ 0<|1+(r:Int)) (z5:=z5) (z6:=z6) (z7:=z7) (z11:=ag) (z12:=ag) (z13:=ag) (z14:=ag) (z15:=ag) (y.e F9 p9) (by rw [yB,rC];exact bJ (.I (.a (.n 0)<|.v 0)<|.n 3) (.Eq (.c<|.v 0)<|.a (.n 1)<|.c<|.v 1) (.U (.c<|.v 1)<|.n 3) rfl [] [_,_] (kD<|cP (.Le (.n 0)<|.a (.n 1)<|.c<|.v 0) rfl [_] []) lt) λH10 b10 x cl z11 z12 z13 z14 z15 N U=>(abf L g N U q)⟩
end
end
section
open PySem PySem.W PyProof.Rows PySem.Calls PySem.SeqAt
theorem abn{l:List (Nat×a)}:l.lookup n=aa x->(n,x)∈l:=by induction l with| nil=>exactλe=>a9 e| cons p l ih=>exactλe=>if q:n=p.1 then dH.mpr (.inl<|Fc q<|bP<|e.symm.trans<|gV.trans<|ae (beq_iff_eq.mpr q) rfl) else .tail _<|ih<|(gV.trans<|ae (beq_false_of_ne q) rfl).symm.trans e
section
variable {prog:k8} {w:l9} {K:eK} {s:aq} {mg mb:Str->Option aj}
inductive Lo(B:aF)(hsys:∃o,B.u.get? iN=aa o)(Y:kN B 48):Prop
 | mk (rows:∀k,Ds hsys Y k tU=af)
  (bind:∀S u,vq B.K S u (vv tU)=vr B.K u (vv tU))
theorem abl{B:aF}{hsys:∃o,B.u.get? iN=aa o}{Y:kN B 48}(h:Lo B hsys Y):bX (CR B):=
 ⟨λ{n a} e {k b E Q H} hl q=>Vv hsys Y h.1 h.2 (abn e) hl q⟩
noncomputable def H0(a:Nat)(l:List Int):HP:=λb=>if b=a then aa (.j<|l.map V.x) else ag
theorem abk(e:IntsAre a l):ba h (l.map V.x) a:=by induction e with| nil=>exact ba.I| cons n t _ ih=>exact ba.u ⟨t,rfl⟩ ih
theorem abm{m:List aj}{l:List Int}{R:uz->aq->Prop}(A:K.In s.heap)(p:s.gens=#[])(g:s.heap.Ns jN mg)(b:s.heap.Ns Be mb)(I:∀x:Str,x≠"__name__"->mb x=LI x)(C:s.heap.NoLimit)(D:∃u,s.heap.Ns cStatics u/\u "sys.int_max_str_digits"=ag)
 (n:mg "law"=aa (.ref t)) (F:s.heap.IsList a m.toArray) (G:IntsAre m l) (hl:l.length<=63) (j:m8 K jN "law"=aa (aa<|.ref 966))
 (hsys:∃o,s.heap.get? iN=aa o) (Y:kN ⟨prog,w,vw s.heap,K,s.os,mg,mb⟩ 48) (ok:Lo ⟨prog,w,vw s.heap,K,s.os,mg,mb⟩ hsys Y)
 (h:∀d,s.heap.StaysIn d.heap->d.os=s.os->d.gens=#[]->R (.ok<|.ret<|.bool af) d):sS (aL prog w) callerA (.call (.ref t) ⟨[.ref a],[]⟩) R s:=by
 have e:aa (q7 t)=aa (.ref 966):=n.symm.trans<|mg_of A g j;obtain rfl:=rh<|bP e;have L:aF.a ⟨prog,w,vw s.heap,K,s.os,mg,mb⟩:=⟨A,g,b,I,C,D⟩
 have i:∀b y,ly (H0 a l) b y->False:=λb y z=>au z λc e o=>by
  unfold H0 at e;split at e
  ·obtain rfl:=bP e;exact o
  ·exact a9 e
 have J:bO ⟨prog,w,vw s.heap,K,s.os,mg,mb⟩ (H0 a l) s:=⟨λ_ _ e=>e,p,rfl,λb c e=>(by
  unfold H0 at e;split at e
  ·rename_i q;obtain rfl:=bP e;subst q;exact(bT m F (abk G)<|by rw [bB];exact aH hl<|by decide)
  ·exact a9 e),λb z=>o1 z λy q=>(i b y q).elim,λb y _ q=>(i b y q).elim⟩
 have c:=abe (abl ok) (k:=0) (E:=λ_ _=>False) (Q:=λv _=>v= .e af) (H:=H0 a l) (s:=a) (l:=l) (if_pos rfl) λ_=>rfl;refine L5 (c callerA s [.ref a] L J ⟨(aM ([]) rfl λ_ h=>(dz h).elim),by decide,by decide, .inl rfl⟩ (.inr rfl)<|ba.u kJ ba.I) λr d z=>?_;induction r with
 | error e=>refine jj z λ_ _ _ _ _ _ _ _ _=>?_;clear z;rename_i z;exact z.elim
 | ok f=>induction f with
  | ret v=>refine bG z λy M S r B=>?_;clear z;obtain rfl:=B;obtain rfl:=Om r;exact h d S.1.1 S.1.3 S.1.2| _=>exact z.elim
end
noncomputable def jZ(K:eK)(a:Nat):Obj:=(K.lookup a).getD default
noncomputable def iz(K:eK)(a:Nat):ClassData:=(v7 K a).getD default
noncomputable def EI(d:oB):Array DictEntry:=BB d #[] (λz=>#[]) (λz z=>#[]) (λa z=>a) (λz z z=>#[]) (λz z=>#[]) (λz=>#[]) (λz=>#[]) (λz=>#[]) (λz=>#[]) #[]
noncomputable def abp(d:oB):Nat:=BB d 0 (λz=>0) (λz z=>0) (λz e=>e) (λz z z=>0) (λz z=>0) (λz=>0) (λz=>0) (λz=>0) (λz=>0) 0
noncomputable def Lp(K:eK)(a:Nat):Obj:=MD (iz K a).name (iz K a).qualname a (iz K a).ns (iz K a).bases (iz K a).mro.tail (iz K a).hasDict (iz K a).slotNames (iz K a).subclasses (iz K a).abstract (iz K a).collection (jZ K a).dict (jZ K a).slots[0]?.join (jZ K a).slots[1]?.join (jZ K a).slots[2]?.join (jZ K a).slots[3]?.join (jZ K a).slots[5]?.join "Exception.__new__"
inductive A5(K:eK)(a:Nat):Prop
 | mk (cls:K.lookup a=aa ⟨(jZ K a).cls,(jZ K a).dict, .cls (iz K a),(jZ K a).slots⟩)
  (ns:K.lookup (iz K a).ns=aa ⟨(jZ K (iz K a).ns).cls,(jZ K (iz K a).ns).dict, .dict (EI (jZ K (iz K a).ns).data) (abp (jZ K (iz K a).ns).data),(jZ K (iz K a).ns).slots⟩)
  (keys:(EI (jZ K (iz K a).ns).data).toList.all (λe=>e.key.ctorIdx==6)=af)
  (init:nsFind (EI (jZ K (iz K a).ns).data) "__init__"=ag)
theorem A5.I{K:eK}{a:Nat}(x:A5 K a){h:aG}(X:K.In h):OwnTail h uV (.ref a::uV):=
 .own (X _ _ x.1) ⟨_,_,_,X _ _ x.2,rfl,λe b=>Value.str.elim (motive:=λv=>∃n t,v= .str n t) e.key (beq_iff_eq.mp<|dT.mp x.3 e<|LJ.mpr b) λn t=>⟨n,t,rfl⟩,λz=>rfl⟩ x.4 .base
noncomputable def abr(B:aF)(a:pX):Bool:=codeIn B.K a.code a.qualname&&(a.closure.isEmpty&&(!a.scope.isCoroutine&&(!a.scope.isGenerator&&(a.scope.kind== .function&&(a.scope.names.all (λx=>x.2!= .cell)&&((("self":Str)::B.I.e 0).all (λn=>a.scope.names.lookup n==aa .local)&&(vu a==("self":Str)::B.I.e 0&&@MG (λz=>Bool) a.body (λb=>CX (B.I.e 0) b) λz=>ai)))))))
noncomputable def Lq(B:aF)(fI:Nat):Bool:=(mZ B.K (.ref B.I.I) "__init__"==aa (aa<|.ref fI)&&(Bp B.K (.ref fI)==aa (.type "function")&&(we B.K (.ref B.I.I)&&((B.I.e 0).length==4&&(dS (("self":Str)::B.I.e 0).Nodup&&((B.I.e 0).all (λnm=>rQ B.K B.I.I nm&&iT nm)&&(sh B.K fI).any (abr B)))))))
theorem abo(h:@MG (λz=>Bool) b f (λz=>ai)=af):∃a,b= .stmts a/\f a=true:=by induction b with| stmts a=>exact⟨a,rfl,h⟩| expr z=>exact bw h
theorem abq{B:aF}{fI b:Nat}(h:Lq B fI=af)(k:B.K.lookup B.I.I=aa (Lp B.K B.I.I))(c:(iz B.K B.I.I).mro.tail= .ref b::uV)(j:A5 B.K b)(i:∀S u,vq B.K S u [(fI,5,[])]=vr B.K u [(fI,5,[])]):kN B fI:=by
 refine ay (bh h) λq h=>ay (bh h) λh3 h=>ay (bh h) λp h=>ay (bh h) λn h=>ay (bh h) λm h=>ay (bh h) λl h=>⟨⟨_,_,_,_,_,_,_,_,_,_,_,_,_,_,_,_,k,λX=>c▸j.I X⟩,beq_iff_eq.mp q,beq_iff_eq.mp h3,p,⟨beq_iff_eq.mp n,of_decide_eq_true m⟩,λnm c=>bh<|dT.mp l nm c,?_⟩;refine au (v8 h) λe hf h=>?_
 ·refine au (I4 hf) λo t r=>ay (bh h) λE h=>ay (bh h) λD h=>ay (bh h) λC h=>ay (bh h) λA h=>ay (bh h) λz h=>ay (bh h) λy h=>ay (bh h) λw h=>ay (bh h) λv h=>?_;refine au (abo h) λd a h=>?_
  ·refine⟨o,e,d,t,r,E,a,ac3.mp D,by simpa using C,by simpa using A,beq_iff_eq.mp z,λx f=>bne_iff_ne.mp<|dT.mp y x f,λnm c=>beq_iff_eq.mp<|dT.mp w nm c,h,λs F X g=>?_⟩;have:=I3 i (.head _) hf (s:=s) X g;rw [beq_iff_eq.mp v,show vt B.K e ([]:List V).length=[] from Vu,jh] at this;exact this
theorem abt{h:aG}(x:h.NoSeer):∃o,h.get? iN=aa o:=by refine au x.mods λz a z=>?_;obtain⟨o,_,_,e,_⟩:=a;exact⟨o,e⟩
theorem adz{prog:k8}{w:l9}{K:eK}{s:aq}{mg mb:Str->Option aj}{p:k8}{b:List Str}{d:ExcName->Option aj}{n a:Nat}{m:List aj}{l:List Int}{R:uz->aq->Prop}(y:K.In s.heap)(j:s.gens=#[])(T:Top p b d mg mb s.heap)(hi:importsNone p=af)
 (i:mg "law"=aa (.ref n)) (t:s.heap.IsList a m.toArray) (v:IntsAre m l) (hl:¬(63:Int)<l.length) (e:m8 K jN "law"=aa (aa<|.ref 966))
 (o:Lq ⟨prog,w,vw s.heap,K,s.os,mg,mb⟩ 48=af) (x:K.lookup 51=aa (Lp K 51)) (q:(iz K 51).mro.tail= .ref 31::uV) (r:A5 K 31) (g:∀S u,vq K S u [(48,5,[])]=vr K u [(48,5,[])])
 (c:∀hsys (Y:kN ⟨prog,w,vw s.heap,K,s.os,mg,mb⟩ 48) k,Ds hsys Y k tU=af) (bd:∀S u,vq K S u (vv tU)=vr K u (vv tU))
 (h:∀f,s.heap.StaysIn f.heap->f.os=s.os->f.gens=#[]->R (.ok<|.ret<|.bool af) f):sS (aL prog w) callerA (.call (.ref n) ⟨[.ref a],[]⟩) R s:=
 abm y j T.g T.b T.builtins T.nolimit T.nodigits i t v (EM λh=>hl<|j3.mpr h) e (abt<|T.seer hi) (abq o x q r g) ⟨c _ _,bd⟩ h
end
end Mine.Internal
open PySem PySem.W PyProof.Rows
set_option tactic.hygienic true
set_option Elab.async true
set_option maxHeartbeats 8000000
namespace Mine.law_holds
def tw10007947361888340627:=Nat
def tw10024239376800412576:=Nat
def tw10024915671413155879:=Nat
def tw10028117763298573888:=Nat
def tw10072288433597638986:=Nat
def tw10079444305495103266:=Nat
def tw10093380194815717143:=Nat
def tw10102834934717047885:=Nat
def tw10108825076125807744:=Nat
def tw10189704592693192966:=Nat
def tw1021771657429519781:=Nat
def tw10222300733896627045:=Nat
def tw10242277825702978295:=Nat
def tw10264638600885302300:=Nat
def tw10283916278828761575:=Nat
def tw10288635621117254392:=Nat
def tw10296202853966499060:=Nat
def tw1031057903888850656:=Nat
def tw10323716446218800225:=Nat
def tw10346744231138586394:=Nat
def tw10350734228115807855:=Nat
def tw1035469204868569938:=Nat
def tw10360522573172651426:=Nat
def tw10362271348294423435:=Nat
def tw10368410895845634921:=Nat
def tw10371022188087798493:=Nat
def tw10441050188594101415:=Nat
def tw10442559174759676424:=Nat
def tw10458381655096516384:=Nat
def tw10460793220074676658:=Nat
def tw10486713781251687710:=Nat
def tw10516828495840041881:=Nat
def tw10517181812226103804:=Nat
def tw1053317679998426468:=Nat
def tw10566571302883470556:=Nat
def tw10585544012083477974:=Nat
def tw10595701062726541642:=Nat
def tw10609929442622069884:=Nat
def tw10660274270002163016:=Nat
def tw10666784280354678857:=Nat
def tw10679931392274172632:=Nat
def tw10690591221887355590:=Nat
def tw10709909458450059161:=Nat
def tw10725132931349513577:=Nat
def tw10726727282670432768:=Nat
def tw10764541510735364805:=Nat
def tw10767655046202684341:=Nat
def tw10786798759134214714:=Nat
def tw10803361673654935901:=Nat
def tw10817052189556005596:=Nat
def tw10829313771624777081:=Nat
def tw10841264019214440115:=Nat
def tw10870653069706475693:=Nat
def tw10897144627088453450:=Nat
def tw10929289806422889615:=Nat
def tw10944507229479926786:=Nat
def tw10966922599951484296:=Nat
def tw10968802771074238664:=Nat
def tw10977758072711909379:=Nat
def tw10983241140555628109:=Nat
def tw11017292853192552079:=Nat
def tw11046636381182338224:=Nat
def tw11047685208138227551:=Nat
def tw11067727234611919522:=Nat
def tw11097158420108258118:=Nat
def tw11097350217990362986:=Nat
def tw11098625913536864229:=Nat
def tw11100686419730198450:=Nat
def tw11126432536435168541:=Nat
def tw11129157725520112330:=Nat
def tw11133525997344109421:=Nat
def tw11139902258594599045:=Nat
def tw11167238688639235718:=Nat
def tw11169275537108399364:=Nat
def tw11182679623053108816:=Nat
def tw11223184984439025696:=Nat
def tw11240126127631740588:=Nat
def tw11253982270263490198:=Nat
def tw11258418251754256542:=Nat
def tw11283290899035178999:=Nat
def tw11289095316329951393:=Nat
def tw11297062200503488469:=Nat
def tw11315637435222106236:=Nat
def tw11330957891505755796:=Nat
def tw11347954631545130290:=Nat
def tw11378576750377235499:=Nat
def tw11404014056486942332:=Nat
def tw11417216600806533712:=Nat
def tw11426015686315989412:=Nat
def tw11463670642173560981:=Nat
def tw11470271118054631628:=Nat
def tw11484002064277903863:=Nat
def tw11532970265236058100:=Nat
def tw11544315989524547432:=Nat
def tw11556845855556705167:=Nat
def tw11576763624814078588:=Nat
def tw11583271856484122956:=Nat
def tw11586273756423631628:=Nat
def tw11599213532126039444:=Nat
def tw11609493526922420660:=Nat
def tw11625900857008200698:=Nat
def tw11677100312832694166:=Nat
def tw11690447701083486646:=Nat
def tw11712238047454039950:=Nat
def tw11721147071786614939:=Nat
def tw1172607208729018732:=Nat
def tw11755603022844944925:=Nat
def tw11764581739189218997:=Nat
def tw11795792742502079742:=Nat
def tw11803358882649189518:=Nat
def tw11803560295506267724:=Nat
def tw11807458097852795031:=Nat
def tw11823568539219059922:=Nat
def tw11846676642670509255:=Nat
def tw1186782194237197914:=Nat
def tw11881114122080957857:=Nat
def tw11918526154901971515:=Nat
def tw11924911360389889469:=Nat
def tw1193751542720294520:=Nat
def tw11946022803392826334:=Nat
def tw11946340739361827192:=Nat
def tw11956458263131016624:=Nat
def tw11956893519032503956:=Nat
def tw11966672015165255308:=Nat
def tw11977050620070087417:=Nat
def tw12001131798957381970:=Nat
def tw12026032028955528042:=Nat
def tw12029126673135917974:=Nat
def tw12080120384591051744:=Nat
def tw12108977868540685583:=Nat
def tw12115171985352901274:=Nat
def tw12116493165278983582:=Nat
def tw12134408205421670959:=Nat
def tw12134956360726941196:=Nat
def tw12149405283708829123:=Nat
def tw12210932052861102225:=Nat
def tw12253411696296436870:=Nat
def tw12267387818898314102:=Nat
def tw12275847060699157868:=Nat
def tw12280936224243050094:=Nat
def tw12291295341487003417:=Nat
def tw12293519974356525696:=Nat
def tw12294157821550436875:=Nat
def tw12296726922439171297:=Nat
def tw12320438053989627958:=Nat
def tw1232645469590886286:=Nat
def tw123295346585929383:=Nat
def tw12342728606916771844:=Nat
def tw12394330538082041428:=Nat
def tw12411438589965969376:=Nat
def tw1242418559920758562:=Nat
def tw12456547296908542839:=Nat
def tw12459966957829302596:=Nat
def tw12476058986133298565:=Nat
def tw12481875629721207810:=Nat
def tw12503156628232749375:=Nat
def tw12530434298281375070:=Nat
def tw12547139144490466682:=Nat
def tw1258919526383655059:=Nat
def tw12595757733621342550:=Nat
def tw12597187120891498251:=Nat
def tw12610764987094191714:=Nat
def tw12622292602297523153:=Nat
def tw12624917743002284683:=Nat
def tw12626328134170644701:=Nat
def tw12634321019024901981:=Nat
def tw12645607732203181651:=Nat
def tw12663309570017281627:=Nat
def tw12668044768207566790:=Nat
def tw12684681026606017882:=Nat
def tw12687621791434340054:=Nat
def tw1270187457972704292:=Nat
def tw12707488347032175617:=Nat
def tw12731736397290755891:=Nat
def tw12732824653754844360:=Nat
def tw12776737443520724447:=Nat
def tw12780804625047726367:=Nat
def tw12795448055554024986:=Nat
def tw12800644894191811977:=Nat
def tw12831907817818079685:=Nat
def tw12847567107135931479:=Nat
def tw1285599515219305098:=Nat
def tw12866619843771512703:=Nat
def tw12889056044993165476:=Nat
def tw12889673554181485818:=Nat
def tw12916433639463454735:=Nat
def tw12949845418750544790:=Nat
def tw12977093529070104392:=Nat
def tw12980350795982273224:=Nat
def tw12987194180023231900:=Nat
def tw13003355079707919389:=Nat
def tw13012089966726956846:=Nat
def tw13014204117121516432:=Nat
def tw13024233884710821808:=Nat
def tw13028658284911697911:=Nat
def tw1303389685018741030:=Nat
def tw13037468584768466635:=Nat
def tw13041724583050761549:=Nat
def tw13055523775352357715:=Nat
def tw13068417504975948891:=Nat
def tw13087128984098923117:=Nat
def tw13092103797297032270:=Nat
def tw13116430531795314387:=Nat
def tw13154458805202713791:=Nat
def tw13182730311906835528:=Nat
def tw13190408463805328480:=Nat
def tw13190703287169160282:=Nat
def tw13220211186989608806:=Nat
def tw13250372474279835810:=Nat
def tw13253626941996190775:=Nat
def tw13257055565626018733:=Nat
def tw13280740594461564331:=Nat
def tw13281950902743806629:=Nat
def tw13287204720269558064:=Nat
def tw13294052699122959228:=Nat
def tw13334914271144262431:=Nat
def tw13336368349410954346:=Nat
def tw13342137609418717338:=Nat
def tw13342518741750886279:=Nat
def tw13350668037932904047:=Nat
def tw1335265377702380343:=Nat
def tw13359578995793934705:=Nat
def tw13388431603621797793:=Nat
def tw13389275367832665731:=Nat
def tw13392613628428298086:=Nat
def tw13397297893571687751:=Nat
def tw13400343074829338244:=Nat
def tw13402424001964919149:=Nat
def tw1341266762083198811:=Nat
def tw13425932534011304816:=Nat
def tw13429453918920967058:=Nat
def tw13454136545276886934:=Nat
def tw13476665736869980405:=Nat
def tw13478230802861573701:=Nat
def tw13482675847692870326:=Nat
def tw13528501647155650410:=Nat
def tw13528896222378765290:=Nat
def tw13590972695719381181:=Nat
def tw13642005409729077643:=Nat
def tw13650905803964671038:=Nat
def tw13656764964264320472:=Nat
def tw13667737974841707781:=Nat
def tw13674158931818614880:=Nat
def tw13677857801504540592:=Nat
def tw1369749317851641660:=Nat
def tw13709617746848070560:=Nat
def tw13730824268290810741:=Nat
def tw13756832539634530601:=Nat
def tw13766487248619392586:=Nat
def tw13780023080261437657:=Nat
def tw13791147489807684654:=Nat
def tw13800329570527188203:=Nat
def tw13800757232730249582:=Nat
def tw1382677567924326555:=Nat
def tw13841927423027058892:=Nat
def tw13848119269249539950:=Nat
def tw1385162719727133579:=Nat
def tw13871441588494700760:=Nat
def tw13882729330811710610:=Nat
def tw13902218012105463410:=Nat
def tw13907478101703683472:=Nat
def tw1393039868726904873:=Nat
def tw13953844522926457337:=Nat
def tw13958071646730322851:=Nat
def tw13959763950245974101:=Nat
def tw13974142956242929375:=Nat
def tw14051398506283589457:=Nat
def tw14064573792008682920:=Nat
def tw1414043511812021011:=Nat
def tw14160533322030094474:=Nat
def tw1419239623039772522:=Nat
def tw14252543395802736299:=Nat
def tw14281342344845405768:=Nat
def tw14289194402921355359:=Nat
def tw14326059299131336239:=Nat
def tw14335913921861858828:=Nat
def tw14350573489546498162:=Nat
def tw14351635765420936899:=Nat
def tw14354538779393863138:=Nat
def tw14358080080312658767:=Nat
def tw14375881129149169379:=Nat
def tw14376638199890582797:=Nat
def tw14377833709258309704:=Nat
def tw14381716576446811386:=Nat
def tw14390095281932903014:=Nat
def tw14421849669547354848:=Nat
def tw14455624779970515874:=Nat
def tw14489315793263303861:=Nat
def tw14497384708736915567:=Nat
def tw14498155544194170393:=Nat
def tw14506525250483169144:=Nat
def tw14521376392698553312:=Nat
def tw14534841699081444447:=Nat
def tw145366339536180231:=Nat
def tw14545874151571354728:=Nat
def tw14559193561218252903:=Nat
def tw14571795756577361901:=Nat
def tw14637292938222569738:=Nat
def tw14646867148444618371:=Nat
def tw14654441361464934360:=Nat
def tw14677013365202126530:=Nat
def tw14704515778605914334:=Nat
def tw14741324775375369589:=Nat
def tw14754953459478485650:=Nat
def tw14774650325386425613:=Nat
def tw14789792462180790578:=Nat
def tw14804154826342961292:=Nat
def tw14822640431511872941:=Nat
def tw14828999820898988419:=Nat
def tw14844349234554566270:=Nat
def tw14872900085578418628:=Nat
def tw14875730727996063832:=Nat
def tw14883556706271630602:=Nat
def tw14892801356780361778:=Nat
def tw14904137174637212347:=Nat
def tw14918994710005357087:=Nat
def tw14925382992726071281:=Nat
def tw14957179600199517237:=Nat
def tw1496123403401453975:=Nat
def tw14983226153234331074:=Nat
def tw14988988175077273356:=Nat
def tw14991590004735058009:=Nat
def tw14997073306097389879:=Nat
def tw1499712698015984848:=Nat
def tw15006436103509636135:=Nat
def tw15008335178301276945:=Nat
def tw15031514592837009168:=Nat
def tw15039968919637362723:=Nat
def tw15049334964525308263:=Nat
def tw15088961453551581880:=Nat
def tw15123554796541802991:=Nat
def tw15140378357190847165:=Nat
def tw15150646450996357022:=Nat
def tw15154110283740273250:=Nat
def tw15162217921772873613:=Nat
def tw15191720212996534143:=Nat
def tw15198507701814350386:=Nat
def tw15202307301556495182:=Nat
def tw15202863084288179589:=Nat
def tw15242022910975006910:=Nat
def tw15272395603832836080:=Nat
def tw15293083901398250104:=Nat
def tw15305978602068356694:=Nat
def tw15320506598460614908:=Nat
def tw15333956030411951890:=Nat
def tw15352218221683021774:=Nat
def tw15352839923633478061:=Nat
def tw15359609613788013507:=Nat
def tw15376217460642340759:=Nat
def tw15382015402350562565:=Nat
def tw15448297888555860652:=Nat
def tw15470072684735142199:=Nat
def tw15483129889696659574:=Nat
def tw1550374771381668074:=Nat
def tw15514866124879379921:=Nat
def tw15526298677375409021:=Nat
def tw15527639110640922598:=Nat
def tw15533563059666576871:=Nat
def tw15544829507116839252:=Nat
def tw1556451293825771818:=Nat
def tw15567558954438479688:=Nat
def tw1560488128467205805:=Nat
def tw15616788800653401546:=Nat
def tw15617896438947887921:=Nat
def tw15623931887893595886:=Nat
def tw15644819842384902770:=Nat
def tw15646520184464998804:=Nat
def tw15661869461025623997:=Nat
def tw1567021292681222707:=Nat
def tw15694993059591697976:=Nat
def tw15695062497276918967:=Nat
def tw15711721202313437401:=Nat
def tw15720521576913467304:=Nat
def tw15732109348078318572:=Nat
def tw15741379261994504178:=Nat
def tw15759456685926392790:=Nat
def tw15778187320301009095:=Nat
def tw15789929832340015234:=Nat
def tw15796309260620551687:=Nat
def tw15802469936163623734:=Nat
def tw15805479178205219833:=Nat
def tw15806970514647361693:=Nat
def tw15825954081357454955:=Nat
def tw15829985883664642994:=Nat
def tw15837452725152343555:=Nat
def tw15837584211629593338:=Nat
def tw15848713872586308078:=Nat
def tw15873654808861938513:=Nat
def tw15883345262158282383:=Nat
def tw15884304794012968992:=Nat
def tw1588742098881680585:=Nat
def tw15917412866852771543:=Nat
def tw15973758155804705043:=Nat
def tw16009327648451700120:=Nat
def tw16057390660189216267:=Nat
def tw16060522237011120904:=Nat
def tw16066104587097768911:=Nat
def tw16074064945343616743:=Nat
def tw160851071654074740:=Nat
def tw16085450786879632459:=Nat
def tw16098122237329998606:=Nat
def tw16098570224071239113:=Nat
def tw16099233806120587224:=Nat
def tw16104154289035658226:=Nat
def tw16113039383946167999:=Nat
def tw16122234104351945819:=Nat
def tw16165715940066559518:=Nat
def tw16170062445108390699:=Nat
def tw16174998905534648557:=Nat
def tw16184459414616452189:=Nat
def tw16190568399584723965:=Nat
def tw16190678330180157336:=Nat
def tw16192464803593610453:=Nat
def tw1622690429015379626:=Nat
def tw16273140198857503625:=Nat
def tw16307713440670912930:=Nat
def tw16321023544550192223:=Nat
def tw16332274672890094952:=Nat
def tw16381176275627223697:=Nat
def tw16406091861079842607:=Nat
def tw16461882675039125421:=Nat
def tw16462895619179043833:=Nat
def tw16470317323979864763:=Nat
def tw16473692458595752123:=Nat
def tw16482278838752557086:=Nat
def tw16493337721930434605:=Nat
def tw16561980033783445034:=Nat
def tw16563099163409725306:=Nat
def tw16573651440410753287:=Nat
def tw16606368319796509530:=Nat
def tw16612359704951912572:=Nat
def tw16614716721108272449:=Nat
def tw16643359273071845452:=Nat
def tw16691439815215545270:=Nat
def tw1670043908289496885:=Nat
def tw16701994192336326122:=Nat
def tw16708887144172644987:=Nat
def tw16731865509343475380:=Nat
def tw16745559208196026265:=Nat
def tw16760957895259694429:=Nat
def tw16765247038780162076:=Nat
def tw16765433158599729185:=Nat
def tw16771549258648962210:=Nat
def tw16804138575897400367:=Nat
def tw16805829885119392726:=Nat
def tw1681173693875575501:=Nat
def tw16827775902095551856:=Nat
def tw16836969012518115619:=Nat
def tw1685627985566243432:=Nat
def tw16871385213344756426:=Nat
def tw16873799427995575018:=Nat
def tw16883458599210261866:=Nat
def tw16893121556090616931:=Nat
def tw1689763614830377041:=Nat
def tw16898189318038581234:=Nat
def tw16935243356766158856:=Nat
def tw16947615914383616782:=Nat
def tw16963379459963715452:=Nat
def tw16978406815995349258:=Nat
def tw17012788314835774953:=Nat
def tw17028515191783194271:=Nat
def tw17028624522117568015:=Nat
def tw17044581251229063488:=Nat
def tw17046799393618780204:=Nat
def tw17089861810051081540:=Nat
def tw1710076424337546998:=Nat
def tw17122233677790987533:=Nat
def tw1713144814433471595:=Nat
def tw17137235678499792623:=Nat
def tw17156363617357476176:=Nat
def tw17169043682955552997:=Nat
def tw17180001009569633970:=Nat
def tw17237755526102222789:=Nat
def tw17248354013995264833:=Nat
def tw17249539165995611551:=Nat
def tw17253691774821329096:=Nat
def tw17253903310271361901:=Nat
def tw17255088995462705879:=Nat
def tw17256855015280076282:=Nat
def tw17264387287909652857:=Nat
def tw17274716441693411508:=Nat
def tw17294823503141414406:=Nat
def tw17305254018735503138:=Nat
def tw17309000430359075326:=Nat
def tw17311987242748728955:=Nat
def tw17333074002647195236:=Nat
def tw17345407343664743607:=Nat
def tw17348551593414719351:=Nat
def tw17352347295132562470:=Nat
def tw17364227736987735495:=Nat
def tw17371252989657294990:=Nat
def tw17389434848343332794:=Nat
def tw17419225075052043924:=Nat
def tw17499823404086765753:=Nat
def tw17523808032732122987:=Nat
def tw17545576798567701639:=Nat
def tw1755247457520882261:=Nat
def tw17553930602362091883:=Nat
def tw17562025525947693838:=Nat
def tw17570675385486235261:=Nat
def tw17580165497215679439:=Nat
def tw17598101756349436640:=Nat
def tw17607630403765710837:=Nat
def tw17635003217326761883:=Nat
def tw1767730674963353768:=Nat
def tw17713402740875732926:=Nat
def tw17744747089408723468:=Nat
def tw17758146289354676595:=Nat
def tw17775403365899300489:=Nat
def tw1778412455037948541:=Nat
def tw17792525830624384078:=Nat
def tw17830944117370523080:=Nat
def tw1784627337472249616:=Nat
def tw17848598403364733487:=Nat
def tw17865009358878524859:=Nat
def tw1786514562438141433:=Nat
def tw17884844454425935293:=Nat
def tw17899081815984039989:=Nat
def tw17903290773200042623:=Nat
def tw17910646669766240164:=Nat
def tw1791086108937442324:=Nat
def tw17911580528928914924:=Nat
def tw17934067817069507646:=Nat
def tw17942499455142895165:=Nat
def tw17942709131360195518:=Nat
def tw179590077315354965:=Nat
def tw17974257514489008736:=Nat
def tw17993387198741990920:=Nat
def tw18006792725990754497:=Nat
def tw18026530572120702767:=Nat
def tw1803770708003208005:=Nat
def tw18051328159682125866:=Nat
def tw18088736630749135056:=Nat
def tw18090433342136740992:=Nat
def tw180908045013255413:=Nat
def tw18111123423493105736:=Nat
def tw18116031599527039140:=Nat
def tw18135211599370774712:=Nat
def tw18153520721480276881:=Nat
def tw18155623678392573649:=Nat
def tw18155977372800253590:=Nat
def tw18165013545707147870:=Nat
def tw18174757765527757658:=Nat
def tw1819244514083003361:=Nat
def tw1819975233463548508:=Nat
def tw18200972181404202854:=Nat
def tw18207139094907211405:=Nat
def tw18207237522527388385:=Nat
def tw18221580467831097590:=Nat
def tw18225134555866732589:=Nat
def tw18254337876149969668:=Nat
def tw18255678716917950113:=Nat
def tw18269650602155537469:=Nat
def tw18309190362041527269:=Nat
def tw18312799740870528207:=Nat
def tw18326849912455186884:=Nat
def tw1832781179975386347:=Nat
def tw18340385619391811705:=Nat
def tw18340598423539479173:=Nat
def tw18388893480867403737:=Nat
def tw18399824568075791876:=Nat
def tw1898673134495410930:=Nat
def tw1909877003179415225:=Nat
def tw1914425252493584057:=Nat
def tw1928719863018725356:=Nat
def tw194939583717160490:=Nat
def tw1973129929022764952:=Nat
def tw1980014416275693142:=Nat
def tw1989176631692091739:=Nat
def tw1995169965324791860:=Nat
def tw1997475870405608531:=Nat
def tw2006301483956418059:=Nat
def tw2008241840959921210:=Nat
def tw2016121425191149895:=Nat
def tw2017991025062827469:=Nat
def tw2029103588110406671:=Nat
def tw2039724139929955007:=Nat
def tw2053967980211584130:=Nat
def tw2055734563569237896:=Nat
def tw2075624079617657780:=Nat
def tw2078624436916829710:=Nat
def tw2088057726675268939:=Nat
def tw2096525686368166746:=Nat
def tw2102315897755806987:=Nat
def tw2112619612379961697:=Nat
def tw2124134355350193313:=Nat
def tw2127001594154878533:=Nat
def tw2136269947727277649:=Nat
def tw2139172203440323022:=Nat
def tw2139843940965253949:=Nat
def tw2143268655074302082:=Nat
def tw2168529811784733145:=Nat
def tw217386770830766740:=Nat
def tw2175471002772951711:=Nat
def tw218528332313867021:=Nat
def tw2199771004791424345:=Nat
def tw2211468639325271704:=Nat
def tw223059019891838383:=Nat
def tw2267570414399663512:=Nat
def tw2269544990204364226:=Nat
def tw228058311090241170:=Nat
def tw2303879751551577860:=Nat
def tw2322801206320994539:=Nat
def tw2325693721150917532:=Nat
def tw2327590871639926724:=Nat
def tw2334766641761910077:=Nat
def tw2353898745366128913:=Nat
def tw2376695672464595844:=Nat
def tw2382714987290314120:=Nat
def tw2384872892506856444:=Nat
def tw2384963693675321470:=Nat
def tw2387193687640843687:=Nat
def tw2389365564930886873:=Nat
def tw2401843486660128364:=Nat
def tw2414074194907454277:=Nat
def tw2414130084998747865:=Nat
def tw2414361068126709639:=Nat
def tw245764215241151709:=Nat
def tw2503670479209048990:=Nat
def tw2556814659519978841:=Nat
def tw2557128651999224082:=Nat
def tw2558664710541493025:=Nat
def tw2564268380859428801:=Nat
def tw2578278018795888234:=Nat
def tw2580079619333081803:=Nat
def tw2589748818833699389:=Nat
def tw2618386414584295968:=Nat
def tw2643161274291862537:=Nat
def tw2644310842459337959:=Nat
def tw265737237460583615:=Nat
def tw2661426283462663331:=Nat
def tw2665602086022161900:=Nat
def tw2695550118857162214:=Nat
def tw270554467692517631:=Nat
def tw2731376850318366449:=Nat
def tw2782419253953178936:=Nat
def tw2782584491509435139:=Nat
def tw2785223865569585226:=Nat
def tw2788888992717563140:=Nat
def tw2798143973674455058:=Nat
def tw2823118279179183905:=Nat
def tw2842810181116790245:=Nat
def tw2851267720448770887:=Nat
def tw2856731137302751260:=Nat
def tw2865737869514987218:=Nat
def tw2885242317795153321:=Nat
def tw2903333896348957400:=Nat
def tw2907507879108658156:=Nat
def tw2924946361707170262:=Nat
def tw2928182479919356999:=Nat
def tw293627430662643474:=Nat
def tw3004322157184113663:=Nat
def tw3005452535816212104:=Nat
def tw3012480247710183994:=Nat
def tw3024374315939245509:=Nat
def tw302768837105346163:=Nat
def tw3028213030429885723:=Nat
def tw3033269912633744064:=Nat
def tw3035144380315620824:=Nat
def tw3046938939346580660:=Nat
def tw3077249439568447194:=Nat
def tw3110860835449505704:=Nat
def tw3127913417769977931:=Nat
def tw312863333873483875:=Nat
def tw3152906847767001463:=Nat
def tw3158129796062787159:=Nat
def tw3186734533307500241:=Nat
def tw3222016081226267511:=Nat
def tw3253568177066640346:=Nat
def tw3253820488102484341:=Nat
def tw3258674603298201628:=Nat
def tw326997939128634323:=Nat
def tw3307954989432871184:=Nat
def tw3313065913633700124:=Nat
def tw3329330481660614911:=Nat
def tw3339164412607631549:=Nat
def tw3345943897349945916:=Nat
def tw3366817510852727610:=Nat
def tw3381667417286267614:=Nat
def tw3390839446522356110:=Nat
def tw3416923247095428876:=Nat
def tw3438159455049519851:=Nat
def tw3462820655391646214:=Nat
def tw3487968232213910406:=Nat
def tw3494445600050047599:=Nat
def tw3497416489672200475:=Nat
def tw3528666605387839750:=Nat
def tw3545908947808057021:=Nat
def tw3551631022101015893:=Nat
def tw3572487005457819259:=Nat
def tw3584490593718003838:=Nat
def tw3585619396377516438:=Nat
def tw3595789414353437717:=Nat
def tw3602377517896009648:=Nat
def tw3607733795294823564:=Nat
def tw3612332870262773283:=Nat
def tw3625451137614018508:=Nat
def tw3663427449441712954:=Nat
def tw3672438013989251361:=Nat
def tw3674665740742831893:=Nat
def tw367903286550418209:=Nat
def tw3682559726232862161:=Nat
def tw3692103080737180250:=Nat
def tw3707715988154104229:=Nat
def tw3707998875871990840:=Nat
def tw3713387574879085296:=Nat
def tw3721179886434227535:=Nat
def tw3742325753681652743:=Nat
def tw3756308257209627903:=Nat
def tw3756957479349018193:=Nat
def tw3772654092419426264:=Nat
def tw3776956092104397036:=Nat
def tw3794388667547904515:=Nat
def tw3809755536050820187:=Nat
def tw3850334171643177529:=Nat
def tw3850375180904979519:=Nat
def tw3850404396616230974:=Nat
def tw3860281307899837418:=Nat
def tw3882201998751590657:=Nat
def tw3904345055887950832:=Nat
def tw3910120701321347557:=Nat
def tw3916298042263642725:=Nat
def tw3920392572372402345:=Nat
def tw3927331946688356228:=Nat
def tw3955097671198598788:=Nat
def tw3956099054510807996:=Nat
def tw3958906441317128266:=Nat
def tw3959601488294255719:=Nat
def tw3974387499553966400:=Nat
def tw3979707639553702691:=Nat
def tw4000965053056674031:=Nat
def tw4010602895031118862:=Nat
def tw4012412122566942357:=Nat
def tw4030767218360268280:=Nat
def tw4037582482628031876:=Nat
def tw4072507727158212662:=Nat
def tw4084692197679721580:=Nat
def tw4124640904062056756:=Nat
def tw4143738569270334224:=Nat
def tw4146061822495498468:=Nat
def tw4150838340823326808:=Nat
def tw415365407113419659:=Nat
def tw416829872822806524:=Nat
def tw41732636909640268:=Nat
def tw4211113817173803656:=Nat
def tw4273555757443719353:=Nat
def tw4303444947968712155:=Nat
def tw4329158554759489670:=Nat
def tw4358315822946757081:=Nat
def tw4358403320081769719:=Nat
def tw436970716684534385:=Nat
def tw4370086069003782432:=Nat
def tw4381352254846559562:=Nat
def tw4433843952089619705:=Nat
def tw4441770287765753910:=Nat
def tw445335354869643106:=Nat
def tw4464252984393422682:=Nat
def tw447027507633508388:=Nat
def tw4503035019201841076:=Nat
def tw4515466672771955728:=Nat
def tw4517222822008671029:=Nat
def tw4538803929270698141:=Nat
def tw4568741812840581045:=Nat
def tw4575823598074768960:=Nat
def tw4581845663705801772:=Nat
def tw4593294709026258786:=Nat
def tw4614512636035447770:=Nat
def tw462603977267732627:=Nat
def tw4635674611617693574:=Nat
def tw4643041051132140158:=Nat
def tw471691501087554491:=Nat
def tw4741859662064258567:=Nat
def tw4797790103318477656:=Nat
def tw480292947269760891:=Nat
def tw4818577856007422655:=Nat
def tw4820369329881294799:=Nat
def tw4857362082551963147:=Nat
def tw4886312948824227682:=Nat
def tw4889031023730116350:=Nat
def tw4913491355128607118:=Nat
def tw4916342969005030805:=Nat
def tw4926307855859175397:=Nat
def tw4958777108401626986:=Nat
def tw4963573110770748834:=Nat
def tw498061464947678834:=Nat
def tw4991859449750346478:=Nat
def tw4995542688137877417:=Nat
def tw5033615099794278105:=Nat
def tw5037970770195530229:=Nat
def tw503957847093417577:=Nat
def tw5052586510891348487:=Nat
def tw5062152199769849712:=Nat
def tw5087963091746180759:=Nat
def tw5112083995522966620:=Nat
def tw5117662029339320154:=Nat
def tw5212653520564569363:=Nat
def tw521618093562937032:=Nat
def tw5222685764011923507:=Nat
def tw5224811545321949972:=Nat
def tw5274592661964301406:=Nat
def tw5277994541964179845:=Nat
def tw5298563615123868993:=Nat
def tw5317712747687158720:=Nat
def tw5364902710198789758:=Nat
def tw5385890167983211742:=Nat
def tw5389484754426515990:=Nat
def tw5405950176245079350:=Nat
def tw5432952435368640112:=Nat
def tw5451054884063135654:=Nat
def tw5455921660152230842:=Nat
def tw5471263015024950418:=Nat
def tw550416813572682631:=Nat
def tw5506821171919863439:=Nat
def tw5514985750730242732:=Nat
def tw5587736956042788999:=Nat
def tw5640673133297012132:=Nat
def tw5647190250986860303:=Nat
def tw5718591165246717604:=Nat
def tw5725672013846136890:=Nat
def tw5731563423909890137:=Nat
def tw575232530192455986:=Nat
def tw576407869801174206:=Nat
def tw5765542928187402639:=Nat
def tw5769158387606399586:=Nat
def tw5781380259314154910:=Nat
def tw5788490908846893860:=Nat
def tw5824406869818771718:=Nat
def tw5842969613912506279:=Nat
def tw5898729028444588960:=Nat
def tw5907203647135998699:=Nat
def tw5914491427308094424:=Nat
def tw5920216800500632969:=Nat
def tw5926295103528105954:=Nat
def tw5950301352895977177:=Nat
def tw59864651932915081:=Nat
def tw602461330855297101:=Nat
def tw6041440012092600215:=Nat
def tw6057113334529873379:=Nat
def tw607667584577438428:=Nat
def tw6111484700653504198:=Nat
def tw6116483010803129801:=Nat
def tw6122225920155410508:=Nat
def tw6127397645498528670:=Nat
def tw6156424641528512876:=Nat
def tw6168114395901332020:=Nat
def tw6177970194926469781:=Nat
def tw6260460797876433568:=Nat
def tw6265907326580845545:=Nat
def tw631828861560075746:=Nat
def tw6319825239189999033:=Nat
def tw6345391036791879355:=Nat
def tw6346621912233149993:=Nat
def tw6354221664691742131:=Nat
def tw6368222172908013342:=Nat
def tw6377815916425241027:=Nat
def tw6381524096760519305:=Nat
def tw6401299144993235711:=Nat
def tw6429003314605503815:=Nat
def tw6463668430954543056:=Nat
def tw6485157915934633976:=Nat
def tw6499956759230125245:=Nat
def tw6507877686720480950:=Nat
def tw653560878884961445:=Nat
def tw6544857814315514376:=Nat
def tw6553333263825352884:=Nat
def tw6564709946809587534:=Nat
def tw6580623548314892615:=Nat
def tw6592492639990696916:=Nat
def tw660297872995803996:=Nat
def tw660876830718362288:=Nat
def tw6629495429873386292:=Nat
def tw664576680770170031:=Nat
def tw6649348088445503080:=Nat
def tw6674817763981286723:=Nat
def tw6677821561840896501:=Nat
def tw6693162373230288027:=Nat
def tw6709271908398517637:=Nat
def tw6719018230134327050:=Nat
def tw6723812968561706957:=Nat
def tw6726159173723076276:=Nat
def tw6727219029552735585:=Nat
def tw6736380345627730017:=Nat
def tw6747315666322679634:=Nat
def tw6751701741844952029:=Nat
def tw6765152471904792315:=Nat
def tw6776455111828631412:=Nat
def tw6837162412863275959:=Nat
def tw6860709855171689206:=Nat
def tw6861490101519172755:=Nat
def tw6869992995446874880:=Nat
def tw687851300278632918:=Nat
def tw6881874429007886204:=Nat
def tw6882020374766023752:=Nat
def tw6890789416708739275:=Nat
def tw6896717019858035522:=Nat
def tw6911747868599837429:=Nat
def tw6925759287387000477:=Nat
def tw6948224671027582040:=Nat
def tw6952626026076278478:=Nat
def tw69833769963255967:=Nat
def tw7034799258891941112:=Nat
def tw7052821283958023361:=Nat
def tw7062847971049655297:=Nat
def tw7067974818453428095:=Nat
def tw7087491825025586495:=Nat
def tw7089819591129360890:=Nat
def tw7116731048869669803:=Nat
def tw7120836010843673076:=Nat
def tw7123599913665508030:=Nat
def tw7143754711056708316:=Nat
def tw7169296243666066974:=Nat
def tw718173064312146323:=Nat
def tw7185456241796803578:=Nat
def tw7204803676362476211:=Nat
def tw723553956927101924:=Nat
def tw724200737284857819:=Nat
def tw7283070072754485986:=Nat
def tw7304591109411159013:=Nat
def tw7311554392007033315:=Nat
def tw7313538909654459803:=Nat
def tw733571504165245281:=Nat
def tw7346270606818648071:=Nat
def tw7351129398174139865:=Nat
def tw74008026257707556:=Nat
def tw7404543985812422374:=Nat
def tw7407239408455114201:=Nat
def tw7408322871517469003:=Nat
def tw7408472829698581751:=Nat
def tw745255978533919091:=Nat
def tw7472407996622490835:=Nat
def tw7479968899032947501:=Nat
def tw7480714314260584917:=Nat
def tw7484302960587174374:=Nat
def tw7495221243884187115:=Nat
def tw7497986649931050792:=Nat
def tw7510824731391710808:=Nat
def tw7511139251322460048:=Nat
def tw7544913113114293122:=Nat
def tw7556614973213307419:=Nat
def tw7566432030715092817:=Nat
def tw7630923327383168834:=Nat
def tw7636989558263936852:=Nat
def tw7660400162925590741:=Nat
def tw7675160084493405025:=Nat
def tw7695934317539461687:=Nat
def tw7703727192748681421:=Nat
def tw7705907089059582203:=Nat
def tw770865349035796089:=Nat
def tw7743764779111840046:=Nat
def tw7748021459863145133:=Nat
def tw7759241980135008877:=Nat
def tw7761691375167764622:=Nat
def tw7767266014307106701:=Nat
def tw7769649832755249146:=Nat
def tw7775064044895347852:=Nat
def tw7820799176418779761:=Nat
def tw7917754353467396125:=Nat
def tw7966142628563490339:=Nat
def tw7983211939772527470:=Nat
def tw8035577848987061507:=Nat
def tw8040771413219435098:=Nat
def tw8041847919771144911:=Nat
def tw8045378594462670225:=Nat
def tw8061732933902216757:=Nat
def tw8069529665006113395:=Nat
def tw808278469055374699:=Nat
def tw8083882435365906211:=Nat
def tw811035903429128223:=Nat
def tw8131574967351443871:=Nat
def tw8135941239458229972:=Nat
def tw8170779377897787297:=Nat
def tw8191475993861738794:=Nat
def tw8226277913771197264:=Nat
def tw8249079356659094474:=Nat
def tw8266603773606604290:=Nat
def tw8283681822388582728:=Nat
def tw8297313697389066934:=Nat
def tw8312275703017117140:=Nat
def tw8312341600987523519:=Nat
def tw8330938851228082562:=Nat
def tw8334431915071622068:=Nat
def tw8343322473186540250:=Nat
def tw8369274380968253667:=Nat
def tw8386679336120195906:=Nat
def tw8398172748654082301:=Nat
def tw8401860817304669148:=Nat
def tw841179935631392477:=Nat
def tw8413839820570837369:=Nat
def tw8417186165934385351:=Nat
def tw8432627066985610756:=Nat
def tw8441880690091102137:=Nat
def tw8472228645029834797:=Nat
def tw850272041215511910:=Nat
def tw8505831140886102350:=Nat
def tw8509427752941578312:=Nat
def tw8534950812830455928:=Nat
def tw8549365171731915398:=Nat
def tw8553002610548859549:=Nat
def tw8570087061310353148:=Nat
def tw8572072892066365893:=Nat
def tw8585773674032094923:=Nat
def tw8591876402714022951:=Nat
def tw860077500063870494:=Nat
def tw863230966790177721:=Nat
def tw8634839017697508684:=Nat
def tw8652346329174877282:=Nat
def tw8666519363043736892:=Nat
def tw866902197054423042:=Nat
def tw8701503649254672115:=Nat
def tw8712014163911447464:=Nat
def tw8720880381367431298:=Nat
def tw8785698371604719795:=Nat
def tw8796305342591271336:=Nat
def tw8804120190785687885:=Nat
def tw8806649888931605024:=Nat
def tw881140697980615281:=Nat
def tw8829074647290719032:=Nat
def tw8835965917227929528:=Nat
def tw8844300528656570046:=Nat
def tw8854015012368427407:=Nat
def tw8856317710758748564:=Nat
def tw8857742495270377987:=Nat
def tw8860054118572591635:=Nat
def tw8890443458166856008:=Nat
def tw8909828626151137519:=Nat
def tw8922897050441119698:=Nat
def tw8939018918628865471:=Nat
def tw8957123355933967898:=Nat
def tw8970147916757833333:=Nat
def tw8974269430029374478:=Nat
def tw8982592368679156308:=Nat
def tw8984152853971343422:=Nat
def tw8984712037535005518:=Nat
def tw8989625286065859495:=Nat
def tw9009705080361974123:=Nat
def tw9030029362784504949:=Nat
def tw9032369906271771983:=Nat
def tw9054384006715261796:=Nat
def tw9069877914133315304:=Nat
def tw907578622648922086:=Nat
def tw908389787484368193:=Nat
def tw9161201516280946379:=Nat
def tw9168033884955339765:=Nat
def tw9187647767651647856:=Nat
def tw9207643191828677137:=Nat
def tw9212889513913684515:=Nat
def tw9255152265573255198:=Nat
def tw9276237560276512257:=Nat
def tw9290190842861060508:=Nat
def tw9317688335297629284:=Nat
def tw932483933274728699:=Nat
def tw9387504603337931229:=Nat
def tw9403268196540146800:=Nat
def tw9423440377400516374:=Nat
def tw9432397437662838624:=Nat
def tw9442120237013122589:=Nat
def tw9483915327669328748:=Nat
def tw9502071092897418529:=Nat
def tw9524400087533092186:=Nat
def tw9525127294725463027:=Nat
def tw9529696498207198238:=Nat
def tw95925638660483881:=Nat
def tw9606376775287448836:=Nat
def tw9611832331244035263:=Nat
def tw9629251133229016361:=Nat
def tw9634471323475708679:=Nat
def tw9634777828066323256:=Nat
def tw9658750610502535773:=Nat
def tw9659893776534165664:=Nat
def tw9669672807639750606:=Nat
def tw9682718004065560343:=Nat
def tw9711500780043101778:=Nat
def tw972601921857779769:=Nat
def tw9731194254967571310:=Nat
def tw9746213474893016414:=Nat
def tw9758457651398904439:=Nat
def tw9758593294864014727:=Nat
def tw9770219792253218338:=Nat
def tw9779807473162285230:=Nat
def tw9782971633488464159:=Nat
def tw9785522067705436687:=Nat
def tw981846192996546977:=Nat
def tw9826770418859484059:=Nat
def tw9843604407834444796:=Nat
def tw9849722394096787677:=Nat
def tw9871626496009991038:=Nat
def tw9875236377963488844:=Nat
def tw9887912731928775018:=Nat
def tw9889521400790421688:=Nat
def tw9895272294310442608:=Nat
def tw9897484093202304508:=Nat
def tw9950801491294251245:=Nat
def tw9952934120092978494:=Nat
def tw9964428425899171237:=Nat
def tw9965324091349369512:=Nat
def tw9975692261777386857:=Nat
def tw9989359697036934923:=Nat
def tw9992725586745946429:=Nat
end Mine.law_holds
theorem Mine.law_holds : PySem.Challenge.rw_no0203_01.Holds := by
 w_on;o_law;k_head;(case hw=>w_witness2)
 k_fill
 intro w s₀ s₁ mg mb G Y fa o pm cd doc dV kV ho hd hcd hD hmg hg args vals as hpre hlay hrd hwl hlo
 have KX := kIn_of Y
 refine Ground.open G ?_
 intro T B D TE TW
 clear hd hcd ho hD G B D TE TW Y
 wrow_args hpre hlay hrd hwl hlo
 rename_i l _ _ _ _ _ _ _ a ws _ hL _ _ _ hI _ hn _
 refine enter_call (codeAny_mono ?_ fun _ _ g => GoodW.toG g)
 refine Mine.Internal.adz KX hg T (by kernel_rfl) hmg hL hI hn (by kernel_rfl) (by kernel_rfl) (by kernel_rfl) (by kernel_rfl) ⟨by kernel_rfl, by kernel_rfl, by kernel_rfl, by kernel_rfl⟩ (fun S u => by kernel_rfl) (fun hsys Y k => by kernel_rfl) (fun S u => by kernel_rfl) fun s' K os gs => ?_
 exact ⟨.inl ⟨.bool true, .bool true, [], rfl, fun _ => rfl, .bool true, by kernel_rfl, fun _ => ⟨.nil, fun _ h => nomatch h⟩⟩, K, os, gs⟩
theorem PySem.Challenge.cw_no0203_01_holds : PySem.Challenge.rw_no0203_01.Holds :=
 Mine.law_holds
